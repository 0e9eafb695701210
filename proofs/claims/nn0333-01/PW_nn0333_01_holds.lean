import PyProof.Rows.All
import Wide.All
import OpenK.AllK
import Wide.FinOn
import KE.KSortTup
import Lean
import PySem.Challenge.RW_nn0333_01
set_option Elab.async false
set_option autoImplicit true
set_option maxRecDepth 100000
open PySem
open List(range range' replicate mem_append mem_singleton mem_replicate mem_map mem_filter map_map length_set mem_range any_cons all_cons length_cons all_eq_true zip_cons_cons isEmpty_iff)
namespace Mine
local macro_rules
 |`(tactic|erw[$rs,*])=>do
  let ts<-rs.getElems.mapM λr=>match r with
   |`(Lean.Parser.Tactic.rwRule|[$xs,*])=>do
    let a<-("ahX uv VY ahY ahZ ah0 ah1 eOr ah2 eFn eNew VK X8 Y8 abn abo ah3 ah4 abp afg XY afh abr ah5 FP afi afj afk Z8 ah6 afl afm YY afn a9 I1 J1 K1 M1 N1 b9 u' B' C' d9 D' Z0 ZY aZ B1 C1 D1 E1 F1 G1 afo afp ah7 sets Af List.nil_append List.cons_append ib ah8 Nat.reduceSub List.reduceReplicate ah9 ah_ cLt cGt cGe afq afr afs abz Jj".splitOn " ").mapM λi=>`(Lean.Parser.Tactic.simpLemma|$(Lean.mkIdent i.toName):ident)
    let b<-xs.getElems.mapM λx=>`(Lean.Parser.Tactic.simpLemma|$x:term)
    `(tactic|try dsimp only[$(a.toArray++b),*])
   |`(Lean.Parser.Tactic.rwRule|$e:term)=>`(tactic|refine $e)
   |_=>Lean.Macro.throwUnsupported
  `(tactic|($[$ts];*))
local macro_rules
 |`(def $i $s $v:declVal)=>`(noncomputable def $i $s $v:declVal)
 |`(abbrev $i $s $v:declVal)=>`(noncomputable abbrev $i $s $v:declVal)
set_option bootstrap.genMatcherCode false
set_option backward.match.sparseCases false
set_option genCtorIdx false
set_option genInjectivity false
set_option genSizeOf false
set_option linter.all false
set_option tactic.hygienic false
noncomputable section
theorem aa:type_of% @List.length_map:=@List.length_map
theorem ia{α:Type _}{a b:α}(h:a∈[b]):a=b:=List.mem_singleton.mp h
theorem ja:type_of% @Nat.lt_of_le_of_lt:=@Nat.lt_of_le_of_lt
theorem oa:type_of% @Option.some.inj:=@Option.some.inj
theorem ta:type_of% @Nat.sub_add_cancel:=@Nat.sub_add_cancel
theorem ua:type_of% @List.length_append:=@List.length_append
theorem wa:type_of% @List.getElem?_eq_getElem:=@List.getElem?_eq_getElem
theorem xa{α:Type _}{a b:α}{l}(h:a∈b::l):a=b∨a∈l:=List.mem_cons.mp h
theorem ya:type_of% @Nat.lt_trans:=@Nat.lt_trans
theorem za:type_of% @List.getElem?_map:=@List.getElem?_map
theorem Aa:type_of% @List.map_append:=@List.map_append
theorem Ba:type_of% @Nat.le_trans:=@Nat.le_trans
theorem Ca:type_of% @List.length_range:=@List.length_range
theorem Da:type_of% @Bool.and_eq_true:=@Bool.and_eq_true
theorem Ea:type_of% @List.not_mem_nil:=@List.not_mem_nil
theorem Fa{α:Type _}{l:List α}{i:Nat}{a}(h:l[i]?=some a):∃h:i<l.length,l[i]=a:=List.getElem?_eq_some_iff.mp h
theorem Ga:type_of% @List.getD_eq_getElem?_getD:=@List.getD_eq_getElem?_getD
theorem Ha:type_of% @Option.map_eq_some_iff:=@Option.map_eq_some_iff
theorem Ia{α:Type _}{β:Type _}{x:Option α}{f:α→β}{b}(h:x.map f=some b):∃a,x=some a∧f a=b:=Option.map_eq_some_iff.mp h
theorem Ja{α:Type _}{p:α→Bool}{l:List α}(h:l.all p=true):∀x∈l,p x=true:=List.all_eq_true.mp h
theorem Ka:type_of% @Nat.le_antisymm:=@Nat.le_antisymm
theorem La:type_of% @List.length_range':=@List.length_range'
theorem Ma:type_of% @Nat.lt_of_lt_of_le:=@Nat.lt_of_lt_of_le
theorem Na:type_of% @Bool.false_ne_true:=@Bool.false_ne_true
theorem Oa{α:Type _}{a:α}{s t:List α}(h:a∈s++t):a∈s∨a∈t:=List.mem_append.mp h
theorem Pa:type_of% @beq_self_eq_true:=@beq_self_eq_true
theorem Qa:type_of% @Nat.le_refl:=@Nat.le_refl
theorem Ra:type_of% @Bool.not_eq_true':=@Bool.not_eq_true'
theorem Sa:type_of% @List.take_length:=@List.take_length
theorem Ta:type_of% @Nat.zero_le:=@Nat.zero_le
theorem Ua:type_of% @Int.natCast_nonneg:=@Int.natCast_nonneg
theorem Wa:type_of% @Nat.succ_le_succ:=@Nat.succ_le_succ
theorem Xa{m n:Nat}(h:m<n):m∈List.range n:=List.mem_range.mpr h
theorem Za{α:Type _}{a:α}{s t:List α}(h:a∈s∨a∈t):a∈s++t:=List.mem_append.mpr h
theorem fb{α:Type _}{β:Type _}{x:Option α}{f:α→Option β}{b}(h:x.bind f=some b):∃a,x=some a∧f a=some b:=Option.bind_eq_some_iff.mp h
theorem ib:type_of% @List.append_nil:=@List.append_nil
theorem jb:type_of% @Nat.le_add_right:=@Nat.le_add_right
theorem nb:type_of% @List.flatMap_cons:=@List.flatMap_cons
theorem qb{m n:Nat}(h:m<n+1):m<n∨m=n:=Nat.lt_succ_iff_lt_or_eq.mp h
theorem ub:type_of% @eq_of_beq:=@eq_of_beq
theorem xb:type_of% @List.map_singleton:=@List.map_singleton
theorem yb:type_of% @List.map_cons:=@List.map_cons
theorem zb:type_of% @List.length_take:=@List.length_take
theorem Ab:type_of% @Nat.pow_le_pow_right:=@Nat.pow_le_pow_right
theorem Bb:type_of% @List.length_replicate:=@List.length_replicate
theorem Cb:type_of% @Nat.le_of_lt_succ:=@Nat.le_of_lt_succ
theorem Db:type_of% @List.append_assoc:=@List.append_assoc
theorem Eb:type_of% @List.mem_of_getElem?:=@List.mem_of_getElem?
theorem Fb:type_of% @List.take_zero:=@List.take_zero
theorem Gb{α:Type _}{β:Type _}{f:α→β}{l:List α}{b}(h:b∈l.map f):∃a,a∈l∧f a=b:=List.mem_map.mp h
theorem Ib:type_of% @Nat.le_of_lt:=@Nat.le_of_lt
theorem Jb:type_of% @List.flatMap_append:=@List.flatMap_append
theorem Lb:type_of% @List.getElem?_of_mem:=@List.getElem?_of_mem
theorem Mb{m n:Nat}(h:m∈List.range n):m<n:=List.mem_range.mp h
theorem Nb{m n:Nat}(h:m<n):(m:Int)<n:=Int.ofNat_lt.mpr h
theorem Ob:type_of% @Nat.le_of_eq:=@Nat.le_of_eq
theorem Pb:type_of% @decide_eq_true:=@decide_eq_true
theorem Qb:type_of% @Nat.one_mul:=@Nat.one_mul
theorem Rb:type_of% @Bool.or_eq_true:=@Bool.or_eq_true
theorem Sb:type_of% @of_decide_eq_true:=@of_decide_eq_true
theorem Ub:type_of% @Nat.two_pow_pos:=@Nat.two_pow_pos
theorem Vb:type_of% @List.filter_append:=@List.filter_append
theorem Wb:type_of% @List.filter_cons:=@List.filter_cons
theorem Xb:type_of% @List.range_succ:=@List.range_succ
theorem Yb:type_of% @Nat.add_assoc:=@Nat.add_assoc
theorem Zb:type_of% @Exists.elim:=@Exists.elim
theorem bc:type_of% @Nat.zero_add:=@Nat.zero_add
theorem gc:type_of% @Nat.le_of_ble_eq_true:=@Nat.le_of_ble_eq_true
theorem jc:type_of% @List.getElem?_append_left:=@List.getElem?_append_left
theorem kc:type_of% @Nat.not_lt_zero:=@Nat.not_lt_zero
theorem qc:type_of% @Nat.min_le_left:=@Nat.min_le_left
theorem rc{n m:Nat}(h:m≤n):¬n<m:=Nat.not_lt.mpr h
theorem tc:type_of% @List.getElem?_append:=@List.getElem?_append
theorem uc:type_of% @Nat.le_of_not_lt:=@Nat.le_of_not_lt
theorem vc:type_of% @Nat.lt_of_le_of_ne:=@Nat.lt_of_le_of_ne
theorem wc:type_of% @Int.lt_trans:=@Int.lt_trans
theorem xc:type_of% @wpAny_bind:=@wpAny_bind
theorem yc:type_of% @wpAny_pure:=@wpAny_pure
theorem zc:type_of% @wpAny_mono:=@wpAny_mono
theorem Bc:type_of% @wpAny_holding:=@wpAny_holding
theorem Cc:type_of% @wpAny_standAt:=@wpAny_standAt
theorem Dc:type_of% @if_neg:=@if_neg
theorem Ec:type_of% @if_pos:=@if_pos
theorem Fc:type_of% @congrArg:=@congrArg
theorem Gc:type_of% @Nat.add_le_add_left:=@Nat.add_le_add_left
theorem Hc:type_of% @Nat.le_of_succ_le_succ:=@Nat.le_of_succ_le_succ
theorem Ic:type_of% @Nat.lt_irrefl:=@Nat.lt_irrefl
theorem Jc:type_of% @List.flatMap_nil:=@List.flatMap_nil
theorem Kc:type_of% @Nat.ne_of_lt:=@Nat.ne_of_lt
theorem Lc:type_of% @List.getElem?_singleton:=@List.getElem?_singleton
theorem Nc:type_of% @Nat.min_le_right:=@Nat.min_le_right
theorem Oc:type_of% @Nat.lt_succ_self:=@Nat.lt_succ_self
theorem Pc:type_of% @Int.le_antisymm:=@Int.le_antisymm
theorem Qc:type_of% @Nat.le_succ_of_le:=@Nat.le_succ_of_le
theorem Rc:type_of% @List.range'_append_1:=@List.range'_append_1
theorem Sc:type_of% @List.getElem?_range':=@List.getElem?_range'
theorem Tc:type_of% @List.getElem?_eq_none:=@List.getElem?_eq_none
theorem Uc:type_of% @List.lookup_cons:=@List.lookup_cons
theorem Vc:type_of% @List.getElem?_inj:=@List.getElem?_inj
theorem Wc:type_of% @Heap.get?_push_of_some:=@Heap.get?_push_of_some
theorem Xc:type_of% @Heap.get?_push_size:=@Heap.get?_push_size
theorem Yc{α:Type _}[BEq α][LawfulBEq α]{a b:α}(h:a≠b):(a==b)=false:=beq_eq_false_iff_ne.mpr h
theorem Zc:type_of% @beq_iff_eq:=@beq_iff_eq
theorem jd{α:Type _}{a:α}{l}(h:(a::l).Nodup):a∉l∧l.Nodup:=List.nodup_cons.mp h
theorem qd{a b:Prop}(h:a)(k:¬a):b:=absurd h k
theorem akq {p:Prop}(h:p:=by decide):p:=h
section
set_option tactic.hygienic true
def mq (c m:Nat):Option Nat:=match c with
 |0=>[(4,4),(5,5),(6,6),(7,7),(8,8),(9,9),(10,10),(11,11)].lookup m|1=>[(6,17),(7,18),(12,19),(13,20),(14,21),(15,22),(16,23),(17,26)].lookup m|3=>[(18,62)].lookup m|4=>[(19,66),(20,67),(21,68)].lookup m|_=>none
def Ms (c:Nat):Nat:=match c with
 |0=>3|1=>16|2=>52|3=>61|_=>65
theorem hide {G:Prop}(h:∀Z:Prop,(G->Z)->Z):G:=h G id
@[elab_as_elim] theorem Er {c:Sort _}{a b:c}{m:c->Prop}(e:a=b)(h:m b):m a:=e▸h
@[elab_as_elim] theorem Es {c:Sort _}{a b:c}{m:c->Prop}(e:b=a)(h:m b):m a:=e▸h
theorem nn {b:Type _}{a:b}{G:Prop}(e:none=some a):G:=nomatch e
theorem ns {b:Type _}{a:b}{G:Prop}(e:some a=none):G:=nomatch e
theorem ft {G:Prop}(e:false=true):G:=nomatch e
theorem tf {G:Prop}(e:true=false):G:=nomatch e
theorem Xi {c:Type _}{a b:c}{G:Prop}(f:c->Nat)(e:a=b)(h:Nat.beq (f a) (f b)=false):G:=by rw[e]at h;exact ft (h.symm.trans (Nat.beq_refl (f b)))
end
section
section
variable {G:Prop}
theorem eA (h:p/\q)(k:p->q->G):G:=k h.1 h.2
theorem pj (h:p/\q/\r)(k:p->q->r->G):G:=k h.1 h.2.1 h.2.2
theorem fj (h:p/\q/\r/\s)(k:p->q->r->s->G):G:=k h.1 h.2.1 h.2.2.1 h.2.2.2
theorem eE {p:α->Prop}(h:∃x,p x)(k:∀x,p x->G):G:=h.elim λx a=>k x a
theorem Sd {p:α->Prop}{q:α->Prop}(h:∃x,p x/\q x)(k:∀x,p x->q x->G):G:=h.elim λx a=>k x a.1 a.2
theorem Xf {p:α->Prop}{q:α->Prop}{r:α->Prop}(h:∃x,p x/\q x/\r x)(k:∀x,p x->q x->r x->G):G:=h.elim λx a=>k x a.1 a.2.1 a.2.2
theorem Yj {p:α->Prop}{q:α->Prop}{r:α->Prop}{s:α->Prop}(h:∃x,p x/\q x/\r x/\s x)(k:∀x,p x->q x->r x->s x->G):G:=h.elim λx a=>k x a.1 a.2.1 a.2.2.1 a.2.2.2
theorem kl {p:α->β->Prop}(h:∃x,∃y,p x y)(k:∀x,∀y,p x y->G):G:=h.elim λx b=>b.elim λy a=>k x y a
theorem vf {p:α->β->Prop}{q:α->β->Prop}(h:∃x,∃y,p x y/\q x y)(k:∀x,∀y,p x y->q x y->G):G:=h.elim λx b=>b.elim λy a=>k x y a.1 a.2
theorem ff {p:α->β->Prop}{q:α->β->Prop}{r:α->β->Prop}(h:∃x,∃y,p x y/\q x y/\r x y)(k:∀x,∀y,p x y->q x y->r x y->G):G:=h.elim λx b=>b.elim λy a=>k x y a.1 a.2.1 a.2.2
theorem we {p:α->β->γ->Prop}(h:∃x,∃y,∃z,p x y z)(k:∀x,∀y,∀z,p x y z->G):G:=h.elim λx c=>c.elim λy b=>b.elim λz a=>k x y z a
theorem We {p:α->β->γ->Prop}{q:α->β->γ->Prop}(h:∃x,∃y,∃z,p x y z/\q x y z)(k:∀x,∀y,∀z,p x y z->q x y z->G):G:=h.elim λx c=>c.elim λy b=>b.elim λz a=>k x y z a.1 a.2
theorem HW {p:Prop}{q:α->Prop}(h:p/\∃x,q x)(k:p->∀x,q x->G):G:=h.2.elim λx a=>k h.1 x a
@[elab_as_elim] theorem Xh (v:ξ){f:α->ξ}{C:ξ->Prop}(h:∃x,v=f x)(k:∀x,C (f x)):C v:=by
 obtain⟨a,rfl⟩:=h;erw[k a]
@[elab_as_elim] theorem yp (v:ξ){p:α->Prop}{f:α->ξ}{C:ξ->Prop}(h:∃x,p x/\v=f x)(k:∀x,p x->C (f x)):C v:=by
 obtain⟨b,a,rfl⟩:=h;erw[k b a]
@[elab_as_elim] theorem Ef (v:ξ){p:α->Prop}{f:α->ξ}{C:ξ->Prop}(h:∃x,p x/\f x=v)(k:∀x,p x->C (f x)):C v:=by
 obtain⟨b,a,rfl⟩:=h;erw[k b a]
@[elab_as_elim] theorem Ak (v:ξ){p:Prop}{f:ξ}{C:ξ->Prop}(h:p/\v=f)(k:p->C f):C v:=by
 obtain⟨a,rfl⟩:=h;erw[k a]
@[elab_as_elim] theorem rF (v:ξ){p:Prop}{f:ξ}{C:ξ->Prop}(h:v=f/\p)(k:p->C f):C v:=by
 obtain⟨rfl,a⟩:=h;erw[k a]
@[elab_as_elim] theorem Fi (v:ξ){p:Prop}{q:Prop}{f:ξ}{C:ξ->Prop}(h:v=f/\p/\q)(k:p->q->C f):C v:=by
 obtain⟨rfl,b,a⟩:=h;erw[k b a]
@[elab_as_elim] theorem JF (v:ξ){p:α->β->Prop}{f:α->β->ξ}{C:ξ->Prop}(h:∃x,∃y,p x y/\v=f x y)(k:∀x,∀y,p x y->C (f x y)):C v:=by
 obtain⟨c,b,a,rfl⟩:=h;erw[k c b a]
@[elab_as_elim] theorem Iy (v:ξ){f:α->β->ξ}{C:ξ->Prop}(h:∃x,∃y,v=f x y)(k:∀x,∀y,C (f x y)):C v:=by
 obtain⟨b,a,rfl⟩:=h;erw[k b a]
@[elab_as_elim] theorem Qf (v:ξ){p:α->Prop}{f:α->ξ}{C:ξ->Prop}(h:∃x,v=f x/\p x)(k:∀x,p x->C (f x)):C v:=by
 obtain⟨b,rfl,a⟩:=h;erw[k b a]
theorem four (h:k<=3):k=0\/k=1\/k=2\/k=3:=
 (Nat.lt_or_eq_of_le h).elim (λh=>(Nat.lt_or_eq_of_le (Cb h)).elim (λh=>(Nat.lt_or_eq_of_le (Cb h)).elim (λh=>.inl (Nat.lt_one_iff.mp h)) λe=>.inr (.inl e)) λe=>.inr (.inr (.inl e))) λe=>.inr (.inr (.inr e))
theorem three (h:1<=k/\k<=3):k=1\/k=2\/k=3:=(four h.2).elim (λe=>qd h.1 (by rw[e];decide)) id
theorem len_one:∀{l:List α},l.length=1->∃a,l=[a]
 |[a],_=>⟨a,rfl⟩
theorem iN:∀{l:List α},l.length=2->∃a b,l=[a,b]
 |[a,b],_=>⟨a,b,rfl⟩
theorem NC:∀{l:List α},l.length=3->∃a b c,l=[a,b,c]
 |[a,b,c],_=>⟨a,b,c,rfl⟩
theorem W2:∀ls:List α,ls=[]\/(∃a,ls=[a])\/(∃a b,ls=[a,b])\/(∃a b c,ls=[a,b,c])\/∃a b c d t,ls=a::b::c::d::t
 |[]=>.inl rfl|[a]=>.inr (.inl ⟨a,rfl⟩)|[a,b]=>.inr (.inr (.inl ⟨a,b,rfl⟩))|[a,b,c]=>.inr (.inr (.inr (.inl ⟨a,b,c,rfl⟩)))|a::b::c::d::t=>.inr (.inr (.inr (.inr ⟨a,b,c,d,t,rfl⟩)))
end
inductive Ek|v (i:Nat)|n (k:Nat)|a (x y:Ek)|m (k:Nat)(x:Ek)
noncomputable section
def Ek.den (c:List Nat)(e:Ek):Nat:=Ek.rec (λi=>c.getD i 0) (λk=>k) (λ_ _ x y=>x+y) (λk _ x=>k*x) e
def Ek.Gm (e:Ek):Nat->Nat:=Ek.rec (λi j=>bif Nat.beq j (i+1)then 1 else 0) (λk j=>bif Nat.beq j 0 then k else 0) (λ_ _ x y j=>x j+y j) (λk _ x j=>k*x j) e
def mw (c:List Nat):(Nat->Nat)->Nat:=List.rec (λ_=>0) (λx _ r f=>f 0*x+r λj=>f (j+1)) c
theorem Km (c:List Nat):∀f g:Nat->Nat,mw c (λj=>f j+g j)=mw c f+mw c g:=by
 induction c with
 |nil=>exact λ_ _=>rfl|cons x c a=>
  intro f g;show(f 0+g 0)*x+mw c (λj=>f (j+1)+g (j+1))=(f 0*x+mw c _)+(g 0*x+mw c _);rw[a,Nat.add_mul];exact Nat.add_add_add_comm ..
theorem pu (k:Nat)(c:List Nat):∀f:Nat->Nat,mw c (λj=>k*f j)=k*mw c f:=by
 induction c with
 |nil=>exact λ_=>rfl|cons x c a=>
  intro f;show k*f 0*x+mw c (λj=>k*f (j+1))=k*(f 0*x+mw c _);rw[a,Nat.mul_add,Nat.mul_assoc]
theorem IW (c:List Nat):∀f g:Nat->Nat,(∀j,j<c.length->f j<=g j)->mw c f<=mw c g:=by
 induction c with
 |nil=>exact λ_ _ _=>Qa _|cons x c a=>exact λf g h=>Nat.add_le_add (Nat.mul_le_mul_right _ (h 0 (Nat.succ_pos _))) (a _ _ λj b=>h (j+1) (Nat.succ_lt_succ b))
theorem fB (k:Nat)(c:List Nat):∀i,mw c (λj=>bif Nat.beq j i then k else 0)=k*c.getD i 0:=by
 induction c with
 |nil=>exact λ_=>rfl|cons x c a=>
  intro i;cases i with
  |zero=>
   have z:∀c,mw c (λ_=>0)=0:=λc=>by
    induction c with
    |nil=>rfl|cons x c a=>exact(Fc (0*x+·) a).trans (Nat.zero_mul x)
   exact(Fc (k*x+·) (z c))
  |succ i=>exact(Fc (0*x+·) (a i)).trans (by rw[Nat.zero_mul,bc];rfl)
theorem Ek.Fj (c:List Nat)(e:Ek):e.den c=mw (1::c) e.Gm:=by
 induction e with
 |v i=>exact((fB 1 (1::c) (i+1)).trans (Qb _)).symm|n k=>exact((fB k (1::c) 0).trans (Nat.mul_one _)).symm|a x y b d=>exact(congr (Fc _ b) d).trans (Km ..).symm|m k x b=>exact(Fc _ b).trans (pu ..).symm
def aqH (c:List Nat)(h:Nat×Nat×Ek×Ek):Prop:=Nat.rec (h.2.2.1.den c<=h.2.2.2.den c) (λ_ _=>h.2.2.1.den c=h.2.2.2.den c) h.1
def jN (h:Nat×Nat×Ek×Ek):Ek:=bif Nat.beq h.1 2 then h.2.2.2 else h.2.2.1
def lN (h:Nat×Nat×Ek×Ek):Ek:=bif Nat.beq h.1 2 then h.2.2.1 else h.2.2.2
theorem JW (k:aqH c h):(jN h).den c<=(lN h).den c:=by
 obtain⟨n,p⟩:=h
 match n,k with
 |0,k=>exact k|1,k=>exact Ob k|2,k=>exact Ob (Eq.symm k)|n+3,k=>exact Ob k
def aqP (c:List Nat)(G:Prop)(hs:List (Nat×Nat×Ek×Ek)):Prop:=List.rec G (λh _ r=>aqH c h->r) hs
def X2 (p:(Nat×Nat×Ek×Ek)->Ek)(hs:List (Nat×Nat×Ek×Ek)):Nat->Nat:=List.rec (λ_=>0) (λh _ r j=>h.2.1*(p h).Gm j+r j) hs
theorem mN (c:List Nat)(l r:Ek)(a:List (Nat×Nat×Ek×Ek)):∀f g:Nat->Nat,mw (1::c) f<=mw (1::c) g->(∀j,j<(1::c).length->(g j+X2 lN a j)+l.Gm j<=(f j+X2 jN a j)+r.Gm j)->aqP c (l.den c<=r.den c) a:=by
 induction a with
 |nil=>
  intro f g h k;have:=IW (1::c) (λj=>g j+l.Gm j) (λj=>f j+r.Gm j) k;rw[Km _ g l.Gm,Km _ f r.Gm,<-Ek.Fj,<-Ek.Fj]at this;erw[Nat.le_of_add_le_add_left (Ba this (Nat.add_le_add_right h _))]
 |cons h a b=>
  intro f g e k i;erw[b (λj=>f j+h.2.1*(jN h).Gm j) (λj=>g j+h.2.1*(lN h).Gm j) ?_ λj d=>?_]
  ·rw[Km _ f,Km _ g,pu,pu,<-Ek.Fj,<-Ek.Fj];erw[Nat.add_le_add e (Nat.mul_le_mul_left _ (JW i))]
  ·have:=k j d;dsimp only[X2]at this⊢;rw[Yb (g j),Yb (f j)];exact this
def aqK (F G:Nat->Nat)(n:Nat):Bool:=Nat.rec true (λj r=>and (Nat.ble (F j) (G j)) r) n
theorem KW (h:aqK F G n=true):∀j,j<n->F j<=G j:=by
 induction n with
 |zero=>exact λj a=>qd a (kc _)|succ n c=>
  intro j a;have b:(Nat.ble (F n) (G n)&&aqK F G n)=true:=h;rw[Da]at b;rcases qb a with e|rfl
  ·erw[c b.2 j e]
  ·erw[gc b.1]
def LW (w:Nat):Nat×Nat:=((w/16)%16^(w%16),(w/16)/16^(w%16))
def OC (k:Nat):Nat->Ek×Nat:=Nat.rec (λw=>(.n 0,w)) (λ_ r w=>
 bif Nat.ble (w%16) 10 then(.v (w%16),w/16)else
 bif Nat.beq (w%16) 11 then(.a (r (w/16)).1 (r (r (w/16)).2).1,(r (r (w/16)).2).2)else
 bif Nat.beq (w%16) 12 then(.n (LW (w/16)).1,(LW (w/16)).2)else
 bif Nat.beq (w%16) 13 then(.m (LW (w/16)).1 (r (LW (w/16)).2).1,(r (LW (w/16)).2).2)else
 (.n (15-w%16),w/16)) k
def MW (k:Nat):Nat->List (Nat×Nat×Ek×Ek)×Nat:=Nat.rec (λw=>([],w)) (λ_ r w=>
 bif Nat.beq (w%16) 3 then([],w/16)else
 ((w%16,w/16%16,(OC 12 (w/256)).1,(OC 12 (OC 12 (w/256)).2).1)::(r (OC 12 (OC 12 (w/256)).2).2).1,(r (OC 12 (OC 12 (w/256)).2).2).2)) k
def nN (c:List Nat)(w:Nat):Prop:=aqP c ((OC 12 (MW 9 w).2).1.den c<=(OC 12 (OC 12 (MW 9 w).2).2).1.den c) (MW 9 w).1
def oN (n w:Nat):Bool:=aqK (λj=>X2 lN (MW 9 w).1 j+(OC 12 (MW 9 w).2).1.Gm j) (λj=>X2 jN (MW 9 w).1 j+(OC 12 (OC 12 (MW 9 w).2).2).1.Gm j) n
theorem Uo (c:List Nat)(w:Nat)(h:oN (c.length+1) w=true):nN c w:=
 mN c _ _ _ (λ_=>0) (λ_=>0) (Qa _) λj a=>by
  rw[bc,bc];exact KW h j a
theorem ee (w:Nat)(h:oN 2 w=true):nN [a] w:=Uo [a] w h
theorem je (w:Nat)(h:oN 3 w=true):nN [a,b] w:=Uo [a,b] w h
theorem se (w:Nat)(h:oN 4 w=true):nN [a,b,c] w:=Uo [a,b,c] w h
theorem oi (w:Nat)(h:oN 5 w=true):nN [a,b,c,d] w:=Uo [a,b,c,d] w h
theorem jo (w:Nat)(h:oN 6 w=true):nN [a,b,c,d,e] w:=Uo [a,b,c,d,e] w h
theorem pN (w:Nat)(h:oN 7 w=true):nN [a,b,c,d,e,f] w:=Uo [a,b,c,d,e,f] w h
theorem ar7 (w:Nat)(h:oN 8 w=true):nN [a,b,c,d,e,f,g] w:=Uo [a,b,c,d,e,f,g] w h
theorem ar8 (w:Nat)(h:oN 9 w=true):nN [a,b,c,d,e,f,g,i] w:=Uo [a,b,c,d,e,f,g,i] w h
end
inductive Hl|v (i:Nat)|n (k:Nat)|a (x y:Hl)|s (x y:Hl)|g (x:Hl)
noncomputable section
def Hl.den (c:List Int)(e:Hl):Int:=Hl.rec (λi=>c.getD i 0) (λk=>Int.ofNat k) (λ_ _ x y=>x+y) (λ_ _ x y=>x-y) (λ_ x=>-x) e
def Hl.Gm (e:Hl):Nat->Int:=Hl.rec (λi j=>bif Nat.beq j (i+1)then 1 else 0) (λk j=>bif Nat.beq j 0 then Int.ofNat k else 0) (λ_ _ x y j=>x j+y j) (λ_ _ x y j=>x j-y j) (λ_ x j=>-x j) e
def Vo (c:List Int):(Nat->Int)->Int:=List.rec (λ_=>0) (λx _ r f=>f 0*x+r λj=>f (j+1)) c
theorem qu (c:List Int):∀f g:Nat->Int,Vo c (λj=>f j+g j)=Vo c f+Vo c g:=by
 induction c with
 |nil=>exact λ_ _=>rfl|cons x c a=>
  intro f g;show(f 0+g 0)*x+Vo c (λj=>f (j+1)+g (j+1))=(f 0*x+Vo c _)+(g 0*x+Vo c _);rw[a,Int.add_mul,Int.add_assoc,Int.add_assoc,Int.add_left_comm (g 0*x)]
theorem ru (k:Int)(c:List Int):∀f:Nat->Int,Vo c (λj=>k*f j)=k*Vo c f:=by
 induction c with
 |nil=>exact λ_=>(Int.mul_zero k).symm|cons x c a=>
  intro f;show k*f 0*x+Vo c (λj=>k*f (j+1))=k*(f 0*x+Vo c _);rw[a,Int.mul_add,Int.mul_assoc]
theorem KF (c:List Int):∀f g:Nat->Int,(∀j,j<c.length->f j=g j)->Vo c f=Vo c g:=by
 induction c with
 |nil=>exact λ_ _ _=>rfl|cons x c a=>
  intro f g h;show f 0*x+Vo c _=g 0*x+Vo c _;rw[h 0 (Nat.succ_pos _),a _ _ λj b=>h (j+1) (Nat.succ_lt_succ b)]
theorem gB (k:Int)(c:List Int):∀i,Vo c (λj=>bif Nat.beq j i then k else 0)=k*c.getD i 0:=by
 induction c with
 |nil=>exact λ_=>(Int.mul_zero k).symm|cons x c a=>
  intro i;cases i with
  |zero=>
   have z:∀c,Vo c (λ_=>0)=0:=λc=>by
    induction c with
    |nil=>rfl|cons x c a=>exact(Fc (0*x+·) a).trans ((Int.add_zero _).trans (Int.zero_mul x))
   exact(Fc (k*x+·) (z c)).trans (Int.add_zero _)
  |succ i=>exact(Fc (0*x+·) (a i)).trans (by rw[Int.zero_mul,Int.zero_add];rfl)
theorem iB (c:List Int)(f:Nat->Int):Vo c (λj=>-f j)=-Vo c f:=by rw[Int.neg_eq_neg_one_mul (Vo c f),<-ru];erw[KF c _ _ λj _=>Int.neg_eq_neg_one_mul _]
theorem su (c:List Int)(f g:Nat->Int):Vo c (λj=>f j-g j)=Vo c f-Vo c g:=by rw[Int.sub_eq_add_neg,<-iB,<-qu];rfl
theorem Hl.Fj (c:List Int)(e:Hl):e.den c=Vo (1::c) e.Gm:=by
 induction e with
 |v i=>exact((gB 1 (1::c) (i+1)).trans (Int.one_mul _)).symm|n k=>exact((gB (Int.ofNat k) (1::c) 0).trans (Int.mul_one _)).symm|a x y b d=>exact(congr (Fc _ b) d).trans (qu ..).symm|s x y b d=>exact(congr (Fc _ b) d).trans (su ..).symm|g x b=>exact(Fc _ b).trans (iB ..).symm
def azH (c:List Int)(h:Nat×Nat×Hl×Hl):Prop:=Nat.rec (h.2.2.1.den c<=h.2.2.2.den c) (λ_ _=>h.2.2.1.den c=h.2.2.2.den c) h.1
def rN (h:Nat×Nat×Hl×Hl):Hl:=bif Nat.beq h.1 2 then h.2.2.2 else h.2.2.1
def sN (h:Nat×Nat×Hl×Hl):Hl:=bif Nat.beq h.1 2 then h.2.2.1 else h.2.2.2
theorem NW (k:azH c h):(rN h).den c<=(sN h).den c:=by
 obtain⟨n,p⟩:=h
 match n,k with
 |0,k=>exact k|1,k=>exact Int.le_of_eq k|2,k=>exact Int.le_of_eq (Eq.symm k)|n+3,k=>exact Int.le_of_eq k
def azP (c:List Int)(G:Prop)(hs:List (Nat×Nat×Hl×Hl)):Prop:=List.rec G (λh _ r=>azH c h->r) hs
def F_ (hs:List (Nat×Nat×Hl×Hl)):Nat->Int:=List.rec (λ_=>0) (λh _ r j=>Int.ofNat h.2.1*((sN h).Gm j-(rN h).Gm j)+r j) hs
theorem tN (c:List Int)(l r:Hl)(a:List (Nat×Nat×Hl×Hl)):∀f:Nat->Int,0<=Vo (1::c) f->(∀j,j<c.length->f (j+1)+F_ a (j+1)=r.Gm (j+1)-l.Gm (j+1))->f 0+F_ a 0<=r.Gm 0-l.Gm 0->azP c (l.den c<=r.den c) a:=by
 induction a with
 |nil=>
  intro f h k b;have e:Vo (1::c) f<=Vo (1::c) λj=>r.Gm j-l.Gm j:=by
   erw[Int.add_le_add (Int.mul_le_mul_of_nonneg_right ((Int.add_zero (f 0))▸b) akq) (Int.le_of_eq (KF _ _ _ λj d=>?_)),(Int.add_zero _).symm.trans (k j d)]
  rw[su,<-Hl.Fj,<-Hl.Fj]at e;erw[Int.le_of_sub_nonneg (Int.le_trans h e)]
 |cons h a g=>
  intro f e k b i;erw[g (λj=>f j+Int.ofNat h.2.1*((sN h).Gm j-(rN h).Gm j)) ?_ (λj d=>((Int.add_assoc ..).trans (k j d))) (Int.le_trans (Int.le_of_eq (Int.add_assoc ..)) b)]
  ·rw[qu,ru _ _ λj=>(sN h).Gm j-(rN h).Gm j,su,<-Hl.Fj,<-Hl.Fj];erw[Int.add_nonneg e (Int.mul_nonneg (Ua _) (Int.sub_nonneg_of_le (NW i)))]
def azK (F G:Nat->Int)(n:Nat):Bool:=Nat.rec true (λj r=>and (decide (F (j+1)=G (j+1))) r) n
theorem OW (h:azK F G n=true):∀j,j<n->F (j+1)=G (j+1):=by
 induction n with
 |zero=>exact λj a=>qd a (kc _)|succ n c=>
  intro j a;have b:(decide (F (n+1)=G (n+1))&&azK F G n)=true:=h;rw[Da]at b;rcases qb a with e|rfl
  ·erw[c b.2 j e]
  ·erw[Sb b.1]
def ty (k:Nat):Nat->Hl×Nat:=Nat.rec (λw=>(.n 0,w)) (λ_ r w=>
 bif Nat.ble (w%16) 9 then(.v (w%16),w/16)else
 bif Nat.beq (w%16) 10 then(.s (r (w/16)).1 (r (r (w/16)).2).1,(r (r (w/16)).2).2)else
 bif Nat.beq (w%16) 11 then(.a (r (w/16)).1 (r (r (w/16)).2).1,(r (r (w/16)).2).2)else
 bif Nat.beq (w%16) 12 then(.n (LW (w/16)).1,(LW (w/16)).2)else
 bif Nat.beq (w%16) 13 then(.g (r (w/16)).1,(r (w/16)).2)else
 (.n (15-w%16),w/16)) k
def uN (k:Nat):Nat->List (Nat×Nat×Hl×Hl)×Nat:=Nat.rec (λw=>([],w)) (λ_ r w=>
 bif Nat.beq (w%16) 3 then([],w/16)else
 ((w%16,w/16%16,(ty 12 (w/256)).1,(ty 12 (ty 12 (w/256)).2).1)::(r (ty 12 (ty 12 (w/256)).2).2).1,(r (ty 12 (ty 12 (w/256)).2).2).2)) k
def G_ (c:List Int)(w:Nat):Prop:=azP c ((ty 12 (uN 9 w).2).1.den c<=(ty 12 (ty 12 (uN 9 w).2).2).1.den c) (uN 9 w).1
def H_ (n w:Nat):Bool:=azK (F_ (uN 9 w).1) (λj=>(ty 12 (ty 12 (uN 9 w).2).2).1.Gm j-(ty 12 (uN 9 w).2).1.Gm j) n&&decide (F_ (uN 9 w).1 0<=(ty 12 (ty 12 (uN 9 w).2).2).1.Gm 0-(ty 12 (uN 9 w).2).1.Gm 0)
theorem LF (c:List Int)(w:Nat)(h:H_ c.length w=true):G_ c w:=by have a:=Bool.and_eq_true_iff.mp h;erw[tN c _ _ _ (λ_=>0) (Int.le_of_eq ?_) (λj b=>(Int.zero_add _).trans (OW a.1 j b)) (Int.le_trans (Int.le_of_eq (Int.zero_add _)) (Sb a.2)),(Int.zero_mul _).symm.trans (ru 0 (1::c) λ_=>0).symm]
theorem Lm (w:Nat)(h:H_ 1 w=true):G_ [a] w:=LF [a] w h
theorem Jy (w:Nat)(h:H_ 2 w=true):G_ [a,b] w:=LF [a,b] w h
theorem O0 (w:Nat)(h:H_ 3 w=true):G_ [a,b,c] w:=LF [a,b,c] w h
end
theorem vN {b:Nat}(d:-(b:Int)<x)(c:x<b):x.natAbs<b:=by
 cases x with
 |ofNat n=>exact Int.ofNat_lt.mp c|negSucc n=>exact Int.ofNat_lt.mp (Int.lt_of_neg_lt_neg (a:=((n+1:Nat):Int)) d)
theorem Y2 (x:Int):-(-x-1)-1=x:=Pc (Lm 0xee0dada3 rfl) (Lm 0xee0dada03 rfl)
theorem NF {k:Int}{n:Nat}(a:0<=k)(h:k<n):k.toNat<n:=(Int.toNat_lt a).mpr h
theorem aaq (h:-(n:Int)<=k):0<=k+n:=by have:=Int.add_le_add_right h n;rwa[Int.add_left_neg]at this
theorem Z2 {k:Int}{n:Nat}(h:k<0):k+n<n:=by have:=Int.add_lt_add_right h n;rwa[Int.zero_add]at this
theorem aar (n:Nat)(h:0<=k):-(n:Int)<=k:=Int.le_trans (Int.neg_nonpos_of_nonneg (Ua n)) h
theorem i3 [Decidable p](h:(if p then some a else x)=some b):(p/\a=b)\/(¬p/\x=some b):=by
 by_cases k:p
 ·rw[Ec k]at h;exact .inl ⟨k,oa h⟩
 ·rw[Dc k]at h;exact .inr ⟨k,h⟩
theorem PW (h:0<=k):k=(k.toNat:Int):=(Int.toNat_of_nonneg h).symm
theorem tnz {k:Int}(h:k<=0):(0:Int)=(k.toNat:Int):=(Fc Int.ofNat (Int.toNat_of_nonpos h)).symm
end
section
open W PyProof.Rows
def Mp (xN:SharedT->Thread->Option (SharedT×Thread))(OF:Nat)(ann:Option Value):Nat->SharedT->Thread->Option SharedT
 |0,_,_=>none|n+1,s,t=>match through t with
  |true=>some s|false=>match stepOk OF ann t with
   |false=>none|true=>match xN s t with
    |some (s',t')=>Mp xN OF ann n s' t'|none=>none
theorem tu:∀(n:Nat)(s:SharedT)(t:Thread)(r:SharedT),Mp (stepT (denote tb) p w) OF ann n s t=some r->topRun tb p w OF ann n s.abs t=some r.abs:=by
 intro n
 induction n with
 |zero=>
  intro _ _ _ h;erw[nn h]
 |succ n c=>
  intro s t r h;unfold Mp at h;unfold topRun;cases ht:through t with
  |true=>rw[ht]at h;obtain rfl:=(oa h);rfl
  |false=>
   rw[ht]at h;cases hk:stepOk OF ann t with
   |false=>rw[hk]at h;exact nn h
   |true=>
    rw[hk]at h;cases hs:stepT (denote tb) p w s t with
    |none=>rw[hs]at h;exact nn h
    |some x=>
     obtain⟨b,a⟩:=x;rw[hs]at h;simp only;rw[stepT_spec hs];erw[c b a r h]
def PC:List Obj->Nat->BT->BT
 |[],_,t=>t|o::r,n,t=>PC r (n+1) (t.ins n o)
def yN:List Obj->Nat->BT->Bool
 |[],_,_=>true|o::r,n,t=>((t.ins n o).get n).isSome&&yN r (n+1) (t.ins n o)
theorem ow:∀(l:List Obj)(n:Nat)(t:BT),yN l n t=true->(absHeap (PC l n t) (n+l.length) life).objs=(absHeap t n life).objs++l.toArray
 |[],n,t,_=>by simp[PC]
 |o::r,n,t,h=>by
  simp only[yN,Da]at h;have e:=ow (life:=life) r (n+1) (t.ins n o) h.2;rw[PC,length_cons,show n+(r.length+1)=n+1+r.length by exact Ka (je 0x1e0bbe1b0b3 rfl) (je 0xe1b0b1e0bb3 rfl),e,absHeap_ins h.1];show(absHeap t n life).objs.push o++r.toArray=_;apply Array.ext';simp
theorem PF {p q:Program}{a:List Str}{m:Shared->Bool}{f:Type}{Yf:Shared->f}{j:World->f}{N:Nat}{i:Bool}{H₀:Params->Heap}{gs₀:Array GenState}{d₀:Drawn}{k₀:Nat}{m₀:Nat}{ann:Option Value}(y:∀w:World,(fencedOpening treeTable p w N).map (λs=>(s.heap,s.gens,s.drawn,s.toks))=some (H₀ w.params,gs₀,d₀,k₀))(b:∀w:World,((H₀ w.params).isNs mainGlobals&&gs₀.size==0,(H₀ w.params).objs.size,(H₀ w.params).nsMap mainGlobals "__annotations__")=(true,m₀,ann))(c:∀(w:World)(os:OsState),(topRun treeTable p w m₀ ann N ⟨H₀ w.params,gs₀,d₀,k₀,os⟩ (topStub p)).map (λs=>((staticsOk (importedModules p.main.body) (H₀ w.params) s.heap&&namesBound p s.heap&&gensDone s&&laidKept (H₀ w.params) s.heap),openSeen q a (importedModules p.main.body) m i s,Yf s))=some (true,openGood q a,j w)):
 LeftO p q a m Yf j N i:=λw=>by
 obtain⟨⟨h,g,d,k,os⟩,e,z⟩:=Ia (y w);obtain⟨rfl,rfl,rfl,rfl⟩:h=H₀ w.params/\g=gs₀/\d=d₀/\k=k₀:=by simpa using z
 obtain⟨u,o,n⟩:_/\_/\_:=by simpa only[Prod.mk.injEq]using b w
 obtain⟨s,r,l⟩:=Ia (c w os);obtain⟨x,v⟩:=Prod.mk.inj l;have t:topFrom treeTable p w N ⟨H₀ w.params,g,d,k,os⟩=some s:=by
  unfold topFrom;dsimp only;rw[u,o,n,r];show(match staticsOk (importedModules p.main.body) (H₀ w.params) s.heap&&namesBound p s.heap&&gensDone s&&laidKept (H₀ w.params) s.heap with|true=>_|false=>_)=_;rw[x]
 unfold openEnds;rw[e];show(topFrom treeTable p w N _).map _=_;rw[t];erw[Fc some v]
def S0 (w:World)(os:OsState):SharedT:=⟨PC (boot_heap w.params).objs.toList 0 .nil,(boot_heap w.params).objs.size,(boot_heap w.params).life,#[],boot_drawn,boot_toks,os⟩
theorem v3 (w:World):yN (boot_heap w.params).objs.toList 0 .nil=true:=by kernel_rfl
theorem QW (w:World)(os:OsState):(S0 w os).abs=⟨boot_heap w.params,#[],boot_drawn,boot_toks,os⟩:=by
 show Shared.mk (absHeap _ _ _) _ _ _ _=_;have e:=ow (life:=(boot_heap w.params).life) (boot_heap w.params).objs.toList 0 .nil (v3 w);rw[bc,Array.length_toList,Array.toArray_toList]at e;have:(absHeap BT.nil 0 (boot_heap w.params).life).objs=#[]:=rfl;rw[this,Array.empty_append]at e
 congr 1
 show Heap.mk _ _=_;show Heap.mk (absHeap (PC (boot_heap w.params).objs.toList 0 .nil) (boot_heap w.params).objs.size (boot_heap w.params).life).objs _=_;rw[e];rfl
abbrev akm:=PySem.Challenge.pw_nn0333_01
abbrev XQ:=PySem.W.Fast.tw10156331382660048174
abbrev C3:=PySem.W.Fast.tw11892475500146522536
abbrev tbW:=PySem.W.Fast.tw14364793385576792824
theorem QF (w:World):stepT (denote treeTable) akm w=XQ (C3 tbW) akm w:=by rw[PySem.W.Fast.te10156331382660048174,PySem.W.Fast.te11892475500146522536,PySem.W.Fast.te14364793385576792824]
def qv:Program:={akm with main:={akm.main with body:=akm.main.body.drop 71}}
def uu:List Str:=akm.main.scope.names.map (·.1)|>.filter (λn=>n !="law")
noncomputable section
abbrev pwB:List Stmt:=PySem.Challenge.pw_nn0333_01.main.body
abbrev Src:=Option Str×Str×Arguments×Scope×List Stmt
def D3 (k:Option Str)(b:List Stmt):List Src:=b.flatMap λs=>match s with
 |.FunctionDef n a b _ _ _ s _ _ _=>[(k,n,a,s,b)]|_=>[]
def QC:List Src:=pwB.flatMap λs=>match s with
 |.FunctionDef n a b _ _ _ s _ _ _=>[(none,n,a,s,b)]|.ClassDef n _ _ b _ _ _ _ _ _ _=>D3 (some n) b|_=>[]
def Src.qual (s:Src):Str:=match s.1 with
 |none=>s.2.1|some k=>k++Str.ofString "."++s.2.1
def sF:List String:=["lut","cell","mux","buf","0","q","q0","not","and","nand","or","nor","xor","xnor","flop","latch","m","a","b","y","z","INV","BUF","NAND2","NOR2","AND2","OR2","XOR2","XNOR2","NAND3","NOR3","AOI21","OAI21","MUX2",
 "name","count","inputs","outputs","cells","nodes","table","area","delay","library","forms","known","netlist","inverted"]
def Ky (f:Nat):Bool:=(34<=f&&f<48)
def RW:List String:=["append","extend","pop","get","new_net","new_nets","add_input","add_output","add_cell","drive","sources","sinks","is_and","land","lor","lxor","lmux","uses","find","inv","wire","plain"]
def F3:List String:=["Netlist","Aig","CellKind","Matches","CellBuilder"]
def aas:List String:=["len","list","tuple","sum","sorted","min","max","str","range"]
def SW:List (Str×Nat):=QC.zipIdx.filterMap λp=>match p.1.1 with
 |none=>some (p.1.2.1,p.2)|some _=>none
def TW:List (Str×Nat):=(F3.map Str.ofString).zipIdx
def jB:List (Str×Nat):=(aas.map Str.ofString).zipIdx
def RF:List (Str×Int):=[(Str.ofString "CONST0",0),(Str.ofString "CONST1",1)]
def zN {α:Type}(o:Option α)(f:α->Bool):Bool:=match o with
 |some a=>f a|none=>false
def Xl:Value->Option Addr
 |.ref a=>some a|_=>none
def G3:Value->Option Str
 |.str q _=>some q|_=>none
def RC (o:Option Value):Addr:=((o.bind Xl).getD 0)
def aat (o:Obj):Option ClassData:=match o.data with
 |.cls cd=>some cd|_=>none
def I3 (o:Obj):Option FuncData:=match o.data with
 |.func fd=>some fd|_=>none
def SC (o:Obj):Option (Array Value):=match o.data with
 |.fields vs=>some vs|_=>none
def UW (o:Obj):Bool:=match o.data with
 |.seq _ _=>true|_=>false
section
variable (h:Heap)
def Ly:Str->Option Value:=h.nsMap mainGlobals
def I_:Str->Option Value:=h.nsMap builtinsNs
def J3 (a:Addr):Addr:=(((h.get? a).bind aat).map (·.ns)).getD 0
def faS (s:Src):Addr:=match s.1 with
 |none=>RC (Ly h s.2.1)|some k=>RC (h.nsMap (J3 h (RC (Ly h k))) s.2.1)
def Jr (f:Nat):Addr:=((QC[f]?).map (faS h)).getD 0
def L3 (k:Nat):Str:=(F3.map Str.ofString).getD k (Str.ofString "CellBuilder")
def gj (k:Nat):Addr:=RC (Ly h (L3 k))
def J_ (f:Nat):Option FuncData:=(h.get? (Jr h f)).bind I3
def Pr:Addr:=(((J_ h 46).bind λfd=>Xl fd.code)).getD 0
def pH:Addr:=(((h.get? (Pr h)).bind SC).bind λvs=>(vs[11]?).bind Xl).getD 0
def KH:Frag:=(((range 5).flatMap λk=>[gj h k,J3 h (gj h k)])++(range 85).map (Jr h)).filterMap λa=>(h.get? a).map λo=>(a,o)
def M3 (v:Value):Bool:=match v with
 |.none=>true|.ref a=>((h.get? a).map UW).getD false&&!(a==pH h)|_=>false
def fnB (f:Nat):Bool:=zN (J_ h f) λfd=>M3 h fd.defaults&&zN (Xl fd.code) λcd=>!(cd==pH h)&&!(Jr h f==pH h)
def VW (p:Str×Int):Bool:=match Ly h p.1 with
 |some (.int i _)=>i==p.2|_=>false
def TC (x:Str)(a:Addr):Bool:=(Ly h x).bind Xl==some a
def WW:Value->Bool
 |.str _ _=>true|_=>false
def SF:Value->Bool
 |.int _ _=>true|_=>false
def AN:Value->Bool
 |.bool _=>true|_=>false
def XW:Value->Bool
 |.ref _=>true|_=>false
def codeB:Bool:=zN ((h.get? (Pr h)).bind SC) λvs=>XW (vs.getD 11 .none)&&WW (vs.getD 18 .none)&&SF (vs.getD 7 .none)&&AN (vs.getD 9 .none)&&SF (vs.getD 10 .none)
def YW:Addr:=RC (Ly h (Str.ofString "__builtins__"))
def bmB:Bool:=((Ly h (Str.ofString "__builtins__")).bind Xl).isSome&&!(YW h==builtinsNs)&&!(YW h==mainGlobals)&&!(YW h==pH h)
def findR (o:Option (Option Value)):Option Addr:=(o.join).bind Xl
def O3:Bool:=(range 5).all λk=>(range 22).all λm=>match mq k m with
 |some f=>findR (findIn (KH h) (.ref (gj h k)) ((RW.map Str.ofString).getD m (Str.ofString "append")))==some (Jr h f)&&keepIn (KH h) (.ref (Jr h f))
 |none=>true
def P3:Bool:=(range 5).all λk=>findR (findIn (KH h) (.ref (gj h k)) (Str.ofString "__init__"))==some (Jr h (Ms k))
def BN:Bool:=
 h.isNs mainGlobals&&h.isNs builtinsNs&&h.isNs cStatics&&(h.nsMap cStatics (Str.ofString "sys.recursionlimit")).isNone&&(h.get? sysModules).isSome&&
 !(mainGlobals==pH h)&&!(builtinsNs==pH h)&&!(cStatics==pH h)&&!(sysModules==pH h)&&!(Pr h==pH h)&&codeB h&&bmB h&&
 SW.all (λp=>TC h p.1 (Jr h p.2)&&keepIn (KH h) (.ref (Jr h p.2)))&&TW.all (λp=>TC h p.1 (gj h p.2)&&keepIn (KH h) (.ref (gj h p.2)))&&RF.all (VW h)&&O3 h&&P3 h&&
 (range 85).all (fnB h)&&(KH h).all (λp=>!(p.1==pH h))
def TF (f:Nat):=(J_ h f).map λfd=>((fd.params,fd.scope,fd.body,fd.globals,fd.closure,fd.builtins,fd.qualname),(Xl fd.code).bind λcd=>((h.get? cd).bind SC).bind λvs=>(vs[1]?).bind G3)
def My (k:Nat):=(findIn (KH h) (.ref (gj h k)) (Str.ofString "__getattribute__"),findIn (KH h) (.ref (gj h k)) (Str.ofString "__getattr__"),findIn (KH h) (.ref (gj h k)) (Str.ofString "__setattr__"),
 plainOver (KH h) (gj h k),(clsIn (KH h) (gj h k)).any (·.hasDict),makesIn (KH h) (gj h k),typeIn (KH h) (.ref (Jr h (Ms k))),
 ((range 48).filter Ky).map λf=>findIn (KH h) (.ref (gj h k)) ((sF.map Str.ofString).getD f (Str.ofString "lut")))
def UF:List (Option Value×Option Value):=jB.map λp=>(Ly h p.1,I_ h p.1)
def Ny:List (Option Value):=(range 5).flatMap λk=>(range 22).filterMap λm=>(mq k m).map λf=>typeIn (KH h) (.ref (Jr h f))
def Yf:=(BN h,(range 85).map (TF h),h.get? (pH h),(range 5).map (My h),UF h,Ny h,(h.get? (YW h)).map λo=>(o.cls,o.dict,o.data),(h.get? (Pr h)).map (·.cls))
end
def UC:Option Value:=some (.type "function")
def Oy (s:Src):Option ((Arguments×Scope×FuncBody×Addr×List (Str×Addr)×Addr×Str)×Option Str):=some ((s.2.2.1,s.2.2.2.1,.stmts s.2.2.2.2,mainGlobals,[],builtinsNs,s.qual),some s.qual)
def K_:Bool×List (Option ((Arguments×Scope×FuncBody×Addr×List (Str×Addr)×Addr×Str)×Option Str))×Option Obj×List (Option (Option Value)×Option (Option Value)×Option (Option Value)×Bool×Bool×Bool×Option Value×List (Option (Option Value)))×List (Option Value×Option Value)×List (Option Value)×Option (Value×Option Addr×Data)×Option Value:=
 (true,QC.map Oy,some (tabObj #[]),replicate 5 (some (some (.builtin "object.__getattribute__")),some none,some (some (.builtin "object.__setattr__")),true,true,true,UC,replicate 14 (some none)),[(none,some (.builtin "len")),(none,some (.type "list")),(none,some (.type "tuple")),(none,some (.builtin "sum")),(none,some (.builtin "sorted")),(none,some (.builtin "min")),(none,some (.builtin "max")),(none,some (.type "str")),(none,some (.type "range"))],
  replicate 20 UC,some (.type "module",some builtinsNs,.plain),some (.type "code"))
end
end
section
open W PyProof.Rows
set_option tactic.hygienic true
theorem CN (w:World)(os:OsState):(Mp (XQ (C3 tbW) akm w) 11 (some (.ref 6)) 6000 (S0 w os) (topStub akm)).map (λs=>((staticsOk (importedModules akm.main.body) (boot_heap w.params) s.abs.heap&&namesBound akm s.abs.heap&&gensDone s.abs&&laidKept (boot_heap w.params) s.abs.heap),
  openSeen qv uu (importedModules akm.main.body) (λ_=>true) true s.abs,Yf s.abs.heap))=some (true,openGood qv uu,K_):=by kernel_rfl
theorem DN:namesResolve PySem.Challenge.rw_nn0333_01.row.prog=true:=by kernel_rfl
theorem ZW:namesMeet PySem.Challenge.rw_nn0333_01.row.prog PySem.Challenge.rw_nn0333_01.row.prog.main.body (λ_ n=>attrL n)=true:=by kernel_rfl
set_option maxHeartbeats 400000 in
theorem EN:looksOpen PySem.Challenge.rw_nn0333_01.row.prog=true:=by
 delta looksOpen;rw[DN,ZW]
 kernel_rfl
set_option maxHeartbeats 400000 in
theorem Q3:PySem.Challenge.rw_nn0333_01.row.wellSaid=true:=by
 delta OpenRow.wellSaid OpenRow.partSaid;rw[EN]
 kernel_rfl
set_option maxHeartbeats 400000 in
theorem VC:PySem.Challenge.rw_nn0333_01.wellSaid=true:=by
 delta OpenLaw.wellSaid;rw[Q3]
 kernel_rfl
theorem FN:(defOf qv PySem.Challenge.rw_nn0333_01.row.name).map (λp=>(some (p.1.params,p.1.body,p.1.scope),kwWritten? p.1.params.kwonlyargs p.1.params.kw_defaults))=some (akm.theDef PySem.Challenge.rw_nn0333_01.row.name,some []):=by kernel_rfl
theorem GN:(defOf qv PySem.Challenge.rw_nn0333_01.row.name).map (·.2)=some []:=by kernel_rfl
theorem Py:(chainsOk qv&&opensWell PySem.Challenge.rw_nn0333_01.row.prog&&(frees PySem.Challenge.rw_nn0333_01.row.toRowW&&PySem.Challenge.rw_nn0333_01.row.toRowW.within.isEmpty))=true:=by kernel_rfl
theorem VF:PySem.Challenge.rw_nn0333_01.row.prog.bare:=⟨rfl,rfl,rfl,rfl,rfl,by decide+kernel⟩
theorem WF:PySem.Challenge.rw_nn0333_01.row.toRowW.promised:=⟨[.list []],by decide+kernel,by decide+kernel⟩
end
section
set_option genInjectivity true in
set_option genCtorIdx true in
inductive MV where
 |td|none
 |bool (b:Bool)
 |int (i:Int)
 |str (n:Nat)
 |tup (vs:List MV)
 |ref (a:Nat)
 |obj (c d:Nat)
 |Il (lo hi st:Int)
 |Qy (vs:List Int)
 deriving Inhabited
def MV.YF:MV->Bool
 |.td=>true|_=>false
def MV.YQ:MV->Bool
 |.none=>true|_=>false
def MV.bool?:MV->Option Bool
 |.bool b=>some b|_=>Option.none
def MV.int?:MV->Option Int
 |.int b=>some b|_=>Option.none
def MV.aX:MV->Option Nat
 |.str b=>some b|_=>Option.none
def MV.HN:MV->Option (List MV)
 |.tup b=>some b|_=>Option.none
def MV.bX:MV->Option Nat
 |.ref b=>some b|_=>Option.none
def MV.cX:MV->Option (Nat×Nat)
 |.obj a b=>some (a,b)|_=>Option.none
def MV.dX:MV->Option (Int×Int×Int)
 |.Il a b c=>some (a,b,c)|_=>Option.none
def MV.eX:MV->Option (List Int)
 |.Qy b=>some b|_=>Option.none
def IN {α:Type}[BEq α](a:α):Option α->Bool
 |some b=>a==b|none=>false
theorem Yl {c:Type}[BEq c][LawfulBEq c]{a:c}{o:Option c}(h:IN a o=true):o=some a:=by
 cases o with
 |none=>exact ft h|some b=>exact Er (ub h) rfl
theorem Gi [BEq α][LawfulBEq α](a:α):IN a (some a)=true:=Pa a
theorem MV.WC {v:MV}(h:v.YF=true):v=.td:=by cases v<;>first|rfl|exact ft h
theorem MV.ZF {v:MV}(h:v.YQ=true):v=.none:=by cases v<;>first|rfl|exact ft h
theorem MV.aG (v:MV):v.bool?.elim True λb=>v=.bool b:=by cases v<;>first|exact trivial|rfl
theorem MV.bG {v:MV}{b:Bool}(h:v.bool?=some b):v=.bool b:=by have k:=v.aG;rw[h]at k;exact k
theorem MV.JN (v:MV):v.int?.elim True λb=>v=.int b:=by cases v<;>first|exact trivial|rfl
theorem MV.kB {v:MV}{b:Int}(h:v.int?=some b):v=.int b:=by have k:=v.JN;rw[h]at k;exact k
theorem MV.KN (v:MV):v.aX.elim True λb=>v=.str b:=by cases v<;>first|exact trivial|rfl
theorem MV.LN {v:MV}{b:Nat}(h:v.aX=some b):v=.str b:=by have k:=v.KN;rw[h]at k;exact k
theorem MV.MN (v:MV):v.HN.elim True λb=>v=.tup b:=by cases v<;>first|exact trivial|rfl
theorem MV.NN {v:MV}{b:List MV}(h:v.HN=some b):v=.tup b:=by have k:=v.MN;haveI k:=h▸k;exact k
theorem MV.ON (v:MV):v.bX.elim True λb=>v=.ref b:=by cases v<;>first|exact trivial|rfl
theorem MV.PN {v:MV}{b:Nat}(h:v.bX=some b):v=.ref b:=by have k:=v.ON;rw[h]at k;exact k
theorem MV.QN (v:MV):v.cX.elim True λb=>v=.obj b.1 b.2:=by cases v<;>first|exact trivial|rfl
theorem MV.RN {v:MV}{a b:Nat}(h:v.cX=some (a,b)):v=.obj a b:=by have k:=v.QN;rw[h]at k;exact k
theorem MV.SN (v:MV):v.dX.elim True λb=>v=.Il b.1 b.2.1 b.2.2:=by cases v<;>first|exact trivial|rfl
theorem MV.TN {v:MV}{a b c:Int}(h:v.dX=some (a,b,c)):v=.Il a b c:=by have k:=v.SN;rw[h]at k;exact k
theorem MV.UN (v:MV):v.eX.elim True λb=>v=.Qy b:=by cases v<;>first|exact trivial|rfl
theorem MV.VN {v:MV}{b:List Int}(h:v.eX=some b):v=.Qy b:=by have k:=v.UN;rw[h]at k;exact k
def Yn {α:Type}(o:Option α)(K:α->Prop):Prop:=match o with
 |some a=>K a|none=>False
def S3 {α:Type}(o:Option α)(f:α->Bool):Bool:=match o with
 |some a=>f a|none=>false
theorem Me (h:Yn o K):∃a,o=some a/\K a:=by
 cases o with
 |none=>exact h.elim|some a=>exact⟨a,rfl,h⟩
theorem sf (e:o=some a)(h:K a):Yn o K:=by subst e;exact h
theorem Np (h:S3 o f=true):∃a,o=some a/\f a=true:=by
 cases o with
 |none=>exact ft h|some a=>exact⟨a,rfl,h⟩
mutual
def MV.beq:MV->MV->Bool
 |.td,w=>w.YF|.none,w=>w.YQ|.bool a,w=>IN a w.bool?|.int a,w=>IN a w.int?|.str a,w=>IN a w.aX|.tup a,w=>S3 w.HN λb=>MV.wu a b|.ref a,w=>IN a w.bX|.obj a b,w=>IN (a,b) w.cX|.Il a b c,w=>IN (a,b,c) w.dX|.Qy a,w=>IN a w.eX
def MV.wu:List MV->List MV->Bool
 |[],w=>w.isEmpty|a::r,w=>match w with
  |b::t=>MV.beq a b&&MV.wu r t|[]=>false
end
mutual
theorem MV.beq_eq:∀a b:MV,MV.beq a b=true->a=b
 |.td,_,h=>(MV.WC h).symm|.none,_,h=>(MV.ZF h).symm|.bool _,_,h=>(MV.bG (Yl h)).symm|.int _,_,h=>(MV.kB (Yl h)).symm|.str _,_,h=>(MV.LN (Yl h)).symm|.tup x,b,h=>
  have⟨y,h1,h2⟩:=Np (o:=b.HN) (f:=λy=>MV.wu x y) h
  (Fc MV.tup (MV.lB x y h2)).trans (MV.NN h1).symm
 |.ref _,_,h=>(MV.PN (Yl h)).symm|.obj _ _,_,h=>(MV.RN (Yl h)).symm|.Il _ _ _,_,h=>(MV.TN (Yl h)).symm|.Qy _,_,h=>(MV.VN (Yl h)).symm
theorem MV.lB:∀a b:List MV,MV.wu a b=true->a=b
 |[],b,h=>by cases b with
  |nil=>rfl|cons _ _=>exact ft h
 |a::r,b,h=>by cases b with
  |nil=>exact ft h|cons b t=>
   have h:(MV.beq a b&&MV.wu r t)=true:=h;rw[Da]at h;erw[Er (MV.beq_eq a b h.1) (Er (MV.lB r t h.2) rfl)]
end
mutual
theorem MV.beq_refl:∀a:MV,MV.beq a a=true
 |.td=>rfl|.none=>rfl|.bool x=>Gi x|.int x=>Gi x|.str x=>Gi x|.tup x=>MV.Ps x|.ref x=>Gi x|.obj x y=>Gi (x,y)|.Il x y z=>Gi (x,y,z)|.Qy x=>Gi x
theorem MV.Ps:∀a:List MV,MV.wu a a=true
 |[]=>rfl|a::r=>by
  show(MV.beq a a&&MV.wu r r)=true;erw[Er (MV.beq_refl a) (Er (MV.Ps r) rfl)]
end
theorem MV.beq_iff:MV.beq a b=true↔a=b:=⟨MV.beq_eq a b,λe=>e▸MV.beq_refl a⟩
set_option genInjectivity true in
set_option genCtorIdx true in
inductive MO where
 |list (vs:List MV)
 |dict (xd:List (MV×MV))
 |ns (f:Nat->MV)
abbrev MH:=Nat->Option MO
def MH.set (H:MH)(a:Nat)(o:MO):MH:=λb=>if b=a then some o else H b
inductive Tg where
 |one (i:Nat)
 |many (is:List Nat)
mutual
inductive ME where
 |bad
 |cst (v:MV)
 |loc (i:Nat)
 |bin (o:Operator) (a b:ME)
 |neg (a:ME)
 |not (a:ME)
 |cmp (o:CmpOp) (a b:ME)
 |and (a b:ME)
 |or (a b:ME)
 |ite (c a b:ME)
 |fn (f:Nat) (args:qh)
 |new (c:Nat) (args:qh)
 |Kg (o:ME) (m:Nat) (args:qh)
 |attr (o:ME) (f:Nat)
 |sub (o i:ME)
 |slice (o:ME) (lo hi:ME)
 |lst (es:qh)
 |tup (es:qh)
 |qq (ks vs:qh)
 |blt (b:Nat) (args:qh)
 |comp (Gj:List (Option Nat)) (t:Tg) (it:ME) (cs:qh) (elt:ME)
 |Qs (Gj:List (Option Nat)) (t:Tg) (it:ME) (t2:Tg) (WN:ME) (elt:ME)
 |sw (Gj:List (Option Nat)) (t:Tg) (it:ME) (k v:ME)
 |P0 (e:ME)
inductive qh where
 |nil
 |cons (e:ME) (r:qh)
end
inductive MS where
 |asg (i:Nat) (e:ME)
 |Zl (is:List Nat) (e:ME)
 |swap (i j:Nat) (a b:ME)
 |qi (o:ME) (f:Nat) (e:ME)
 |dg (o i e:ME)
 |aug (i:Nat) (op:Operator) (e:ME)
 |cG (o:ME) (f:Nat) (op:Operator) (e:ME)
 |tw (o i:ME) (op:Operator) (e:ME)
 |ifs (c:ME) (a b:List MS)
 |Jl (t:Tg) (it:ME) (body:List MS)
 |Hi (c:ME) (body:List MS)
 |ret (e:ME)
 |cont
 |exp (e:ME)
 |bad
def big:Nat:=100000
def small (x:Int):Prop:=-(2^62)<x/\x<2^62
def ce (xd:List (MV×MV))(k:MV):Option MV:=(xd.find? λp=>MV.beq p.1 k).map (·.2)
def dput (xd:List (MV×MV))(k v:MV):List (MV×MV):=
 if xd.any (λp=>MV.beq p.1 k)then xd.map λp=>if MV.beq p.1 k then(p.1,v)else p else xd++[(k,v)]
def qo:MV->Bool
 |.int _=>true|.str _=>true|_=>false
def MV.key:MV->Bool
 |.tup vs=>vs.all qo|v=>qo v
def MV.Dg (v:MV)(K:Int->Prop):Prop:=match v with
 |.int i=>K i|_=>False
def MV.mB (v:MV)(K:List MV->Prop):Prop:=match v with
 |.tup i=>K i|_=>False
def MV.rq (v:MV)(K:Nat->Prop):Prop:=match v with
 |.ref i=>K i|_=>False
def MV.onStr (v:MV)(K:Nat->Prop):Prop:=match v with
 |.str i=>K i|_=>False
def MV.nB (v:MV)(K:Nat->Nat->Prop):Prop:=match v with
 |.obj i j=>K i j|_=>False
def MV.Zg (v:MV)(K:MV->Prop):Prop:=match v with
 |.td=>False|v=>K v
theorem Bi {v:MV}{K:MV->Prop}(h:v.Zg K):v≠.td/\K v:=by cases v<;>first|exact h.elim|exact⟨MV.noConfusion,h⟩
theorem oe {v:MV}{K:MV->Prop}(h:v≠.td)(k:K v):v.Zg K:=by cases v<;>first|exact qd rfl h|exact k
theorem Be {v:MV}{K:Int->Prop}(h:v.Dg K):∃i,v=.int i/\K i:=by cases v<;>first|exact h.elim|exact⟨_,rfl,h⟩
theorem XC {v:MV}{K:List MV->Prop}(h:v.mB K):∃i,v=.tup i/\K i:=by cases v<;>first|exact h.elim|exact⟨_,rfl,h⟩
theorem qj {v:MV}{K:Nat->Prop}(h:v.rq K):∃i,v=.ref i/\K i:=by cases v<;>first|exact h.elim|exact⟨_,rfl,h⟩
theorem YC {v:MV}{K:Nat->Prop}(h:v.onStr K):∃i,v=.str i/\K i:=by cases v<;>first|exact h.elim|exact⟨_,rfl,h⟩
theorem Rs {v:MV}{K:Nat->Nat->Prop}(h:v.nB K):∃i j,v=.obj i j/\K i j:=by cases v<;>first|exact h.elim|exact⟨_,_,rfl,h⟩
def MO.Pl:MO->Option (List MV)
 |.list vs=>some vs|_=>none
def MO.ZQ:MO->Option (List (MV×MV))
 |.dict vs=>some vs|_=>none
def MO.ns?:MO->Option (Nat->MV)
 |.ns vs=>some vs|_=>none
def Mf (H:MH)(p:Nat)(K:List MV->Prop):Prop:=Yn ((H p).bind MO.Pl) K
def tq (H:MH)(p:Nat)(K:List (MV×MV)->Prop):Prop:=Yn ((H p).bind MO.ZQ) K
def dG (H:MH)(p:Nat)(K:(Nat->MV)->Prop):Prop:=Yn ((H p).bind MO.ns?) K
theorem ll {H:MH}{p:Nat}{vs:List MV}(e:(H p).bind MO.Pl=some vs):H p=some (.list vs):=by
 cases h:H p with
 |none=>rw[h]at e;exact nn e
 |some o=>rw[h]at e;cases o<;>(first|obtain rfl:=(oa e)|exact nn e);rfl
theorem ZC {H:MH}{p:Nat}{vs:List (MV×MV)}(e:(H p).bind MO.ZQ=some vs):H p=some (.dict vs):=by
 cases h:H p with
 |none=>rw[h]at e;exact nn e
 |some o=>rw[h]at e;cases o<;>(first|exact nn e|obtain rfl:=(oa e));rfl
theorem XN {H:MH}{p:Nat}{vs:Nat->MV}(e:(H p).bind MO.ns?=some vs):H p=some (.ns vs):=by
 cases h:H p with
 |none=>rw[h]at e;exact nn e
 |some o=>rw[h]at e;cases o<;>(first|exact nn e|obtain rfl:=(oa e));rfl
theorem Pe {K:List MV->Prop}(h:Mf H p K):∃vs,H p=some (.list vs)/\K vs:=
 by obtain⟨vs,e,k⟩:=Me h;exact⟨vs,ll e,k⟩
theorem uq {K:List (MV×MV)->Prop}(h:tq H p K):∃vs,H p=some (.dict vs)/\K vs:=
 by obtain⟨vs,e,k⟩:=Me h;exact⟨vs,ZC e,k⟩
theorem uw {K:(Nat->MV)->Prop}(h:dG H p K):∃vs,H p=some (.ns vs)/\K vs:=
 by obtain⟨vs,e,k⟩:=Me h;exact⟨vs,XN e,k⟩
theorem ue (e:H p=some (.list vs))(k:K vs):Mf H p K:=by unfold Mf;rw[e];exact k
theorem Ss (e:H p=some (.dict vs))(k:K vs):tq H p K:=by unfold tq;rw[e];exact k
theorem oB (e:H p=some (.ns vs))(k:K vs):dG H p K:=by unfold dG;rw[e];exact k
def xu (H:MH)(p:Nat)(K:List MV->Prop)(J:List (MV×MV)->Prop):Prop:=match H p with
 |some (.list vs)=>K vs|some (.dict xd)=>J xd|_=>False
theorem Mm (h:xu H p K J):(∃vs,H p=some (.list vs)/\K vs)\/∃a,H p=some (.dict a)/\J a:=by
 unfold xu at h;cases e:H p with
 |none=>rw[e]at h;exact h.elim
 |some o=>
  rw[e]at h;cases o with
  |list vs=>exact .inl ⟨vs,rfl,h⟩|dict a=>exact .inr ⟨a,rfl,h⟩|ns _=>exact h.elim
theorem rj (e:H p=some (.list vs))(k:K vs):xu H p K J:=by unfold xu;rw[e];exact k
theorem ql (e:H p=some (.dict vs))(k:J vs):xu H p K J:=by unfold xu;rw[e];exact k
def U3 (l:List MV)(K:Prop):Prop:=match l with
 |[]=>K|_::_=>False
def tF (l:List MV)(K:MV->Prop):Prop:=match l with
 |a::r=>U3 r (K a)|[]=>False
def V3 (l:List MV)(K:MV->MV->Prop):Prop:=match l with
 |a::r=>tF r (K a)|[]=>False
theorem yu (h:U3 l K):l=[]/\K:=by
 cases l with
 |nil=>exact⟨rfl,h⟩|cons _ _=>exact h.elim
theorem Lh (h:tF l K):∃a,l=[a]/\K a:=by
 cases l with
 |nil=>exact h.elim|cons a r=>obtain⟨rfl,k⟩:=yu h;exact⟨a,rfl,k⟩
theorem zu (h:V3 l K):∃a b,l=[a,b]/\K a b:=by
 cases l with
 |nil=>exact h.elim|cons a r=>obtain⟨b,rfl,k⟩:=Lh h;exact⟨a,b,rfl,k⟩
def truth:MV->Option Bool
 |.bool b=>some b|.int i=>some (i !=0)|_=>none
def aj:MV->Bool
 |.none=>true|.int _=>true|.str _=>true|_=>false
def Zj (f:MV->Bool):MV->Bool
 |.tup vs=>vs.all f|v=>aj v
def xh (v:MV):Bool:=Zj (Zj aj) v
def isBool:MV->Bool
 |.bool _=>true|_=>false
def eqv (a b:MV):Option Bool:=if (xh a&&xh b)||(isBool a&&isBool b)then some (MV.beq a b)else none
def tj (k:Int)(n:Nat):Option Nat:=
 if 0<=k then(if k<n then some k.toNat else none)else(if -(n:Int)<=k then some (k+n).toNat else none)
def inv (x:MV)(vs:List MV):Option Bool:=
 if (xh x&&vs.all xh)||(isBool x&&vs.all isBool)then some (vs.any λy=>MV.beq y x)else none
inductive Dt where
 |flat (v:MV)
 |tup (ds:List Dt)
 |list (ds:List Dt)
mutual
def Dt.on (H:MH):Dt->MV->Prop
 |.flat v,w=>xh v=true/\w=v|.tup ds,w=>∃vs,w=.tup vs/\Dt.Zn H ds vs|.list ds,w=>∃p vs,w=.ref p/\H p=some (.list vs)/\Dt.Zn H ds vs
def Dt.Zn (H:MH):List Dt->List MV->Prop
 |[],w=>match w with
  |[]=>True|_::_=>False
 |d::r,w=>match w with
  |[]=>False|v::t=>Dt.on H d v/\Dt.Zn H r t
end
inductive Dq where
 |one (d:Dt)
 |dict (ks:List MV) (ds:List Dt)
def Dq.on (H:MH):Dq->MV->Prop
 |.one d,w=>Dt.on H d w|.dict ks ds,w=>∃p vs,w=.ref p/\H p=some (.dict (ks.zip vs))/\ks.length=vs.length/\(∀k∈ks,qo k=true)/\Dt.Zn H ds vs
def Dq.Zn (H:MH):List Dq->List MV->Prop
 |[],w=>match w with
  |[]=>True|_::_=>False
 |d::r,w=>match w with
  |[]=>False|v::t=>Dq.on H d v/\Dq.Zn H r t
mutual
def Dt.dep:Dt->Nat
 |.flat _=>3|.tup ds=>Dt.Au ds+1|.list ds=>Dt.Au ds+1
def Dt.Au:List Dt->Nat
 |[]=>0|d::r=>max (Dt.dep d) (Dt.Au r)
end
def Dq.dep:Dq->Nat
 |.one d=>d.dep|.dict _ ds=>Dt.Au ds+1
def Dq.Au:List Dq->Nat
 |[]=>0|d::r=>max (Dq.dep d) (Dq.Au r)
def alloc (H:MH)(o:MO)(Q:MV->MH->Prop):Prop:=∀a,H a=none->Q (.ref a) (H.set a o)
def band (x y:Int):Int:=((x.toNat&&&y.toNat:Nat):Int)
def bor (x y:Int):Int:=((x.toNat|||y.toNat:Nat):Int)
def bxor (x y:Int):Int:=((x.toNat^^^y.toNat:Nat):Int)
def vq:Nat->Nat->Option Nat
 |5,4=>some 6|_,_=>none
def Bu (o:Operator)(x y:Int)(H:MH)(Q:MV->MH->Prop):Prop:=
 match o with
 |.Add=>Q (.int (x+y)) H|.Sub=>Q (.int (x-y)) H|.Mult=>small x/\small y/\Q (.int (x*y)) H|.FloorDiv=>0<y/\y<2^30/\Q (.int (x/y)) H|.Mod=>0<y/\Q (.int (x%y)) H|.Pow=>x=2/\0<=y/\y<=100000/\Q (.int (2^y.toNat)) H|.LShift=>small x/\0<=y/\y<=100000/\Q (.int (x*2^y.toNat)) H|.RShift=>0<=y/\Q (.int (x/2^y.toNat)) H|.BitAnd=>0<=x/\0<=y/\Q (.int (band x y)) H|.BitOr=>0<=x/\0<=y/\Q (.int (bor x y)) H|.BitXor=>0<=x/\0<=y/\Q (.int (bxor x y)) H|_=>False
def eG (o:Operator)(p:Nat)(b:MV)(H:MH)(Q:MV->MH->Prop):Prop:=
 match o with
 |.Add=>b.rq λq=>Mf H p λx=>Mf H q λy=>x.length+y.length<big/\alloc H (.list (x++y)) Q|.Mult=>b.Dg λn=>Mf H p λvs=>tF vs λv=>0<=n/\n<big/\alloc H (.list (replicate n.toNat v)) Q|_=>False
def eg (o:Operator)(a b:MV)(H:MH)(Q:MV->MH->Prop):Prop:=
 match a with
 |.int x=>b.Dg λy=>Bu o x y H Q|.tup x=>o=.Add/\b.mB λy=>x.length+y.length<big/\Q (.tup (x++y)) H|.ref p=>eG o p b H Q|.str x=>o=.Add/\b.onStr λy=>Yn (vq x y) λz=>Q (.str z) H|_=>False
def YN (x c:MV)(H:MH)(Q:Bool->Prop):Prop:=
 match c with
 |.tup vs=>Yn (inv x vs) Q|.ref p=>xu H p (λvs=>Yn (inv x vs) Q) λxd=>x.key=true/\Q (ce xd x).isSome|_=>False
def Cu (a b:MV)(H:MH)(Q:Bool->Prop):Prop:=
 match eqv a b with
 |some r=>Q r|none=>(∃d,Dt.on H d a/\Dt.on H d b/\Dt.dep d<50)/\Q true
def fG (a b:MV)(f:Int->Int->Bool)(H:MH)(Q:MV->MH->Prop):Prop:=a.Dg λx=>b.Dg λy=>Q (.bool (f x y)) H
def xg (o:CmpOp)(a b:MV)(H:MH)(Q:MV->MH->Prop):Prop:=
 match o with
 |.Eq=>Cu a b H λr=>Q (.bool r) H|.NotEq=>(Cu a b H λr=>Q (.bool (!r)) H)\/((∃ds vs ws,a=.tup vs/\b=.tup ws/\Dq.Zn H ds vs/\Dq.Zn H ds ws/\∀d∈ds,Dq.dep d<50)/\Q (.bool false) H)|.Lt=>fG a b (λx y=>decide (x<y)) H Q|.LtE=>fG a b (λx y=>decide (x<=y)) H Q|.Gt=>fG a b (λx y=>decide (y<x)) H Q|.GtE=>fG a b (λx y=>decide (y<=x)) H Q|.Is=>b=.none/\a.Zg λa=>Q (.bool (MV.beq a .none)) H|.IsNot=>b=.none/\a.Zg λa=>Q (.bool (!(MV.beq a .none))) H|.In=>YN a b H λr=>Q (.bool r) H|.NotIn=>YN a b H λr=>Q (.bool (!r)) H
def ak (o i:MV)(H:MH)(Q:MV->MH->Prop):Prop:=
 match o with
 |.tup vs=>i.Dg λk=>vs.length<big/\Yn ((tj k vs.length).bind λj=>vs[j]?) λv=>Q v H|.ref p=>xu H p (λvs=>i.Dg λk=>vs.length<big/\Yn ((tj k vs.length).bind λj=>vs[j]?) λv=>Q v H)
  λxd=>i.key=true/\Yn (ce xd i) λv=>Q v H
 |_=>False
def cut {α:Type}(vs:List α)(lo hi:MV)(K:List α->Prop):Prop:=
 vs.length<big/\match lo with
 |.none=>hi.Dg λk=>0<=k/\K (vs.take k.toNat)|.int j=>(match hi with
  |.none=>0<=j/\j<=vs.length/\K (vs.drop j.toNat)|.int k=>0<=j/\j<=k/\k<=vs.length/\K ((vs.drop j.toNat).take (k.toNat-j.toNat))|_=>False)
 |_=>False
def Hj (o lo hi:MV)(H:MH)(Q:MV->MH->Prop):Prop:=
 match o with
 |.Qy ns=>cut ns lo hi λr=>alloc H (.list (r.map .int)) Q|.ref p=>Mf H p λvs=>cut vs lo hi λr=>alloc H (.list r) Q|_=>False
def gf:List MV->Option (List Int)
 |[]=>some []|v::r=>v.int?.bind λi=>(gf r).map (i::·)
theorem am {v:MV}{r:List MV}{ns:List Int}(e:gf (v::r)=some ns):∃i a,v=.int i/\gf r=some a/\ns=i::a:=by obtain⟨i,f,d⟩:=fb e;obtain⟨a,c,b⟩:=Ia d;exact⟨i,a,MV.kB f,c,b.symm⟩
def Ff (v:MV)(H:MH)(K:List MV->(MH->Prop)->Prop):Prop:=
 match v with
 |.tup vs=>K vs λ_=>True|.Il lo hi st=>(st=1/\0<=lo/\lo<2^40/\0<=hi/\hi<2^40/\K ((range (hi-lo).toNat).map λ(i:Nat)=>.int (lo+i)) λ_=>True)\/
  (st=-1/\hi=-1/\-1<=lo/\lo<2^40/\K ((range (lo+1).toNat).map λ(i:Nat)=>.int (lo-i)) λ_=>True)
 |.ref p=>Mf H p λvs=>K vs λH'=>H' p=some (.list vs)|_=>False
def Jj:List Nat->List MV->List MV->List MV
 |i::is,v::vs,L=>Jj is vs (L.set i v)|_,_,L=>L
def ri (t:Tg)(v:MV)(L:List MV)(Q:List MV->Prop):Prop:=
 match t with
 |.one i=>Q (L.set i v)|.many is=>v.mB λvs=>vs.length=is.length/\Q (Jj is vs L)
structure Pg where
 call:Nat->List MV->MH->(MV->MH->Prop)->Prop
 Zf:Nat->Nat->Option Nat
 th:Nat->Nat
def fX (v:MV)(H:MH):Option Nat:=
 match v with
 |.tup vs=>some vs.length|.ref p=>((H p).bind MO.Pl).map List.length|_=>none
theorem gG (e:fX v H=some n):∃vs,vs.length=n/\(v=.tup vs\/∃p,v=.ref p/\H p=some (.list vs)):=by
 cases v<;>first|(first|exact nn e|obtain rfl:=(oa e);done)|skip
 ·exact⟨_,oa e,.inl rfl⟩
 ·obtain⟨vs,b,a⟩:=Ia e;exact⟨vs,a,.inr ⟨_,rfl,ll b⟩⟩
def items? (v:MV)(H:MH):Option (List MV):=
 match v with
 |.tup vs=>some vs|.ref p=>(H p).bind MO.Pl|.Il lo hi st=>@ite _ (st=1/\0<=lo/\lo<big/\0<=hi/\hi<big) (Classical.propDecidable _) (some ((range (hi-lo).toNat).map λ(i:Nat)=>.int (lo+i))) none|_=>none
set_option tactic.hygienic true in
theorem gm (e:items? v H=some vs):v=.tup vs\/(∃p,v=.ref p/\H p=some (.list vs))\/ ∃lo hi,v=.Il lo hi 1/\0<=lo/\lo<big/\0<=hi/\hi<big/\vs=(range (hi-lo).toNat).map λ(i:Nat)=>.int (lo+i):=by
 cases v<;>first|(first|exact nn e|obtain rfl:=(oa e);done)|skip
 ·erw[.inl (Fc _ (oa e))]
 ·erw[.inr (.inl ⟨_,rfl,ll e⟩)]
 ·rename_i lo hi st;unfold items? at e;dsimp only at e;split at e
  ·rename_i h;erw[.inr (.inr ⟨lo,hi,by exact Er h.1 rfl,h.2.1,h.2.2.1,h.2.2.2.1,h.2.2.2.2,(oa e).symm⟩)]
  ·erw[nn e]
def Ry (v:MV)(H:MH):Option (List Int):=
 match v with
 |.tup vs=>gf vs|.ref p=>(H p).bind λo=>match o with
  |.list vs=>gf vs|.dict xd=>gf (xd.map (·.1))|.ns _=>none
 |_=>none
theorem Sy {v:MV}{H:MH}{ns:List Int}(e:Ry v H=some ns):(∃vs,gf vs=some ns/\items? v H=some vs)\/∃p a,v=.ref p/\H p=some (.dict a)/\gf (a.map (·.1))=some ns:=by
 cases v<;>first|(exact nn e;done)|skip
 ·erw[.inl ⟨_,e,rfl⟩]
 ·obtain⟨o,c,b⟩:=fb e;cases o with
  |list vs=>exact .inl ⟨vs,b,by show(H _).bind MO.Pl=_;exact Er c rfl⟩
  |dict a=>exact .inr ⟨_,a,rfl,c,b⟩|ns _=>exact nn b
def pB (args:List MV)(H:MH)(Q:MV->MH->Prop):Prop:=match args with
 |[]=>False|x::r=>x.Dg λa=>match r with
  |[]=>small a/\Q (.Il 0 a 1) H|y::t=>y.Dg λb=>match t with
   |[]=>small a/\small b/\Q (.Il a b 1) H|z::u=>z.Dg λc=>U3 u (small a/\small b/\c=-1/\Q (.Il a b c) H)
def Ii (b:Nat)(args:List MV)(H:MH)(Q:MV->MH->Prop):Prop:=
 match b with
 |0=>tF args λv=>Yn (fX v H) λn=>n<big/\Q (.int n) H|1=>tF args λv=>Yn (items? v H) λvs=>vs.length<big/\alloc H (.list vs) Q|2=>tF args λv=>Yn (items? v H) λvs=>vs.length<big/\Q (.tup vs) H|3=>tF args λv=>v.rq λp=>Mf H p λvs=>Yn (gf vs) λns=>Q (.int ns.sum) H|4=>tF args λv=>Yn (Ry v H) λns=>ns.length<60/\∀ms:List Int,ms.Perm ns->ms.Pairwise (·<=·)->alloc H (.list (ms.map .int)) Q|5=>V3 args λv w=>v.Dg λa=>w.Dg λb=>Q (.int (min a b)) H|6=>V3 args λv w=>v.Dg λa=>w.Dg λb=>Q (.int (max a b)) H|7=>tF args λv=>v.Dg λa=>a=0/\Q (.str 4) H|8=>pB args H Q|_=>False
def seq? (v:MV)(H:MH):Option (List MV):=match v with
 |.tup vs=>some vs|.ref p=>(H p).bind MO.Pl|_=>none
theorem iG (e:seq? v H=some vs):v=.tup vs\/∃p,v=.ref p/\H p=some (.list vs):=by
 cases v<;>first|(first|exact nn e|obtain rfl:=(oa e);done)|skip
 ·erw[.inl (Fc _ (oa e))]
 ·erw[.inr ⟨_,rfl,ll e⟩]
def ZN (m:Nat)(p:Nat)(args:List MV)(H:MH)(Q:MV->MH->Prop):Prop:=
 match m with
 |0=>Mf H p λvs=>tF args λv=>vs.length<big/\Q .none (H.set p (.list (vs++[v])))|1=>Mf H p λvs=>tF args λw=>Yn (seq? w H) λws=>vs.length<big/\ws.length<big/\Q .none (H.set p (.list (vs++ws)))|2=>Mf H p λvs=>U3 args (vs.length<big/\Yn vs.getLast? λv=>Q v (H.set p (.list vs.dropLast)))|3=>tq H p λxd=>V3 args λk v=>k.key=true/\Q ((ce xd k).getD v) H|_=>False
def Lg (P:Pg)(m:Nat)(o:MV)(args:List MV)(H:MH)(Q:MV->MH->Prop):Prop:=
 match o with
 |.obj c d=>Yn (P.Zf c m) λf=>P.call f (.obj c d::args) H Q|.ref p=>ZN m p args H Q|_=>False
def dO (m:Nat)(p:Nat)(H:MH):Prop:=match m with
 |0=>Mf H p λ_=>True|1=>Mf H p λ_=>True|2=>Mf H p λ_=>True|3=>tq H p λ_=>True|_=>False
def Ng (P:Pg)(m:Nat)(x:MV)(H:MH):Prop:=
 match x with
 |.obj k d=>(P.Zf k m).isSome=true/\∃fs,H d=some (.ns fs)|.ref p=>dO m p H|_=>False
def jG (P:Pg)(c:Nat)(args:List MV)(H:MH)(Q:MV->MH->Prop):Prop:=
 ∀d,H d=none->P.call (P.th c) (.obj c d::args) (H.set d (.ns λ_=>.td)) λv H'=>v=.none/\Q (.obj c d) H'
def Te (o:MV)(f:Nat)(H:MH)(Q:MV->MH->Prop):Prop:=o.nB λ_ d=>dG H d λfs=>(fs f).Zg λv=>Q v H
def af (bg:MH->Prop)(body:MV->MH->(List MV->MH->Prop)->Prop):List MV->List MV->MH->(List MV->MH->Prop)->Prop
 |[],rs,H,Q=>bg H/\Q rs H|x::xs,rs,H,Q=>bg H/\rs.length<big/\body x H λmore H'=>af bg body xs (rs++more) H' Q
def Yi (Gj:List (Option Nat))(L:List MV):List MV:=Gj.map λo=>match o with|some i=>L.getD i .td|none=>.td
def rowOf:MV->Option (List Int)
 |.tup vs=>gf vs|_=>none
def kG (v:MV)(H:MH)(Q:MV->MH->Prop):Prop:=v.rq λp=>Mf H p λvs=>vs.length<60/\(∀x∈vs,∃r,rowOf x=some r/\r.length<100)/\∀ws:List MV,ws.Perm vs->
 ws.Pairwise (λx y=>∀a b,rowOf x=some a->rowOf y=some b->a.length<=b.length)->alloc H (.list ws) Q
def Ue:List MV->List MV->List (MV×MV)->List (MV×MV)
 |k::ks,v::vs,d=>Ue ks vs (dput d k v)|_,_,d=>d
def yg:List MV->List (MV×MV)->List (MV×MV)
 |[],d=>d|k::w,d=>match w with
  |[]=>d|v::r=>yg r (dput d k v)
def ul (Q:Bool->MH->Prop)(x:MV)(H:MH):Prop:=Yn (truth x) λb=>Q b H
mutual
def Yd (P:Pg):ME->List MV->MH->(MV->MH->Prop)->Prop
 |.bad,_,_,_=>False|.cst v,_,H,Q=>Q v H|.loc i,L,H,Q=>(L.getD i .td).Zg λv=>Q v H|.bin o a b,L,H,Q=>Yd P a L H λx H1=>Yd P b L H1 λy H2=>eg o x y H2 Q|.neg a,L,H,Q=>Yd P a L H λx H1=>x.Dg λi=>Q (.int (-i)) H1|.not a,L,H,Q=>Yd P a L H (ul λt=>Q (.bool (!t)))|.cmp o a b,L,H,Q=>Yd P a L H λx H1=>Yd P b L H1 λy H2=>xg o x y H2 Q|.and a b,L,H,Q=>Yd P a L H λx=>ul (λt H1=>(t=true->Yd P b L H1 Q)/\(t=false->Q x H1)) x|.or a b,L,H,Q=>Yd P a L H λx=>ul (λt H1=>(t=true->Q x H1)/\(t=false->Yd P b L H1 Q)) x|.ite c a b,L,H,Q=>Yd P c L H (ul λt H1=>(t=true->Yd P a L H1 Q)/\(t=false->Yd P b L H1 Q))|.fn f as,L,H,Q=>zh P as L H λvs H1=>P.call f vs H1 Q|.new c as,L,H,Q=>zh P as L H λvs H1=>jG P c vs H1 Q|.Kg o m as,L,H,Q=>Yd P o L H λx H1=>Ng P m x H1/\zh P as L H1 λvs H2=>Lg P m x vs H2 Q|.attr o f,L,H,Q=>Yd P o L H λx H1=>Te x f H1 Q|.sub o i,L,H,Q=>Yd P o L H λx H1=>Yd P i L H1 λy H2=>ak x y H2 Q|.slice o lo hi,L,H,Q=>Yd P o L H λx H1=>Yd P lo L H1 λa H2=>Yd P hi L H2 λb H3=>Hj x a b H3 Q|.lst es,L,H,Q=>zh P es L H λvs H1=>vs.length<big/\alloc H1 (.list vs) Q|.tup es,L,H,Q=>zh P es L H λvs H1=>vs.length<big/\Q (.tup vs) H1|.qq ks vs,L,H,Q=>zh P ks L H λas H1=>zh P vs L H1 λbs H2=>(∀k∈as,k.key=true)/\alloc H2 (.dict (Ue as bs [])) Q|.blt b as,L,H,Q=>zh P as L H λvs H1=>Ii b vs H1 Q|.comp Gj t it cs elt,L,H,Q=>Yd P it L H λv H1=>Ff v H1 λitems bg=>
  af bg (λx H2 K=>ri t x (Yi Gj L) λL'=>Du P cs L' H2 λb H3=>(b=true->Yd P elt L' H3 λr H4=>K [r] H4)/\(b=false->K [] H3)) items [] H1 λrs H'=>alloc H' (.list rs) Q
 |.Qs Gj t it t2 WN elt,L,H,Q=>Yd P it L H λv H1=>Ff v H1 λitems bg=>
  af bg (λx H2 K=>ri t x (Yi Gj L) λL'=>Yd P WN L' H2 λv2 H3=>Ff v2 H3 λLd Uy=>
   af Uy (λy H4 K2=>ri t2 y L' λaR=>Yd P elt aR H4 λr H5=>K2 [r] H5) Ld [] H3 K) items [] H1 λrs H'=>alloc H' (.list rs) Q
 |.sw Gj t it k v,L,H,Q=>Yd P it L H λw H1=>Ff w H1 λitems bg=>
  af bg (λx H2 K=>ri t x (Yi Gj L) λL'=>Yd P k L' H2 λa H3=>Yd P v L' H3 λb H4=>a.key=true/\K [a,b] H4) items [] H1
   λrs H'=>alloc H' (.dict (yg rs [])) Q
 |.P0 e,L,H,Q=>Yd P e L H λv H1=>kG v H1 Q
def zh (P:Pg):qh->List MV->MH->(List MV->MH->Prop)->Prop
 |.nil,_,H,Q=>Q [] H|.cons e r,L,H,Q=>Yd P e L H λv H1=>zh P r L H1 λvs H2=>Q (v::vs) H2
def Du (P:Pg):qh->List MV->MH->(Bool->MH->Prop)->Prop
 |.nil,_,H,Q=>Q true H|.cons e r,L,H,Q=>Yd P e L H (ul λt H1=>(t=true->Du P r L H1 Q)/\(t=false->Q false H1))
end
def ww (P:Pg)(e:ME)(L:List MV)(H:MH)(Q:Bool->MH->Prop):Prop:=Yd P e L H (ul Q)
theorem eO (P:Pg)(a:ME)(L:List MV)(H:MH)(Q:Bool->MH->Prop):ww P (.not a) L H Q=ww P a L H λb c=>Q (!b) c:=rfl
theorem uo (e:truth x=some t):ul Q x H=Q t H:=by unfold ul;exact Er e rfl
theorem fO (Q:Bool->MH->Prop)(R:MH->Prop):(λx=>ul (λt a=>(t=true->R a)/\(t=false->ul Q x a)) x)=ul λt a=>(t=true->R a)/\(t=false->Q false a):=by
 funext x a
 cases e:truth x with
 |none=>unfold ul;exact Er e rfl
 |some t=>
  refine(uo e).trans (Eq.trans ?_ (uo e).symm);cases t with
  |true=>exact propext ⟨λh=>⟨h.1,λw=>Bool.noConfusion w⟩,λh=>⟨h.1,λw=>Bool.noConfusion w⟩⟩|false=>exact Er (uo e) rfl
theorem gX (Q:Bool->MH->Prop)(R:MH->Prop):(λx=>ul (λt a=>(t=true->ul Q x a)/\(t=false->R a)) x)=ul λt a=>(t=true->Q true a)/\(t=false->R a):=by
 funext x a
 cases e:truth x with
 |none=>unfold ul;exact Er e rfl
 |some t=>
  refine(uo e).trans (Eq.trans ?_ (uo e).symm);cases t with
  |false=>exact propext ⟨λh=>⟨λw=>Bool.noConfusion w,h.2⟩,λh=>⟨λw=>Bool.noConfusion w,h.2⟩⟩|true=>exact Er (uo e) rfl
theorem qB (P:Pg)(a b:ME)(L:List MV)(H:MH)(Q:Bool->MH->Prop):ww P (.and a b) L H Q=ww P a L H λt c=>(t=true->ww P b L c Q)/\(t=false->Q false c):=Fc (Yd P a L H) (fO Q _)
theorem lG (P:Pg)(a b:ME)(L:List MV)(H:MH)(Q:Bool->MH->Prop):ww P (.or a b) L H Q=ww P a L H λt c=>(t=true->Q true c)/\(t=false->ww P b L c Q):=Fc (Yd P a L H) (gX Q _)
inductive MF where
 |next|cont|ret (v:MV)
def Nm (o:Operator)(a b:MV)(H:MH)(Q:MV->MH->Prop):Prop:=
 match a with
 |.ref p=>o=.Add/\b.rq λq=>Mf H p λx=>Mf H q λy=>x.length<big/\y.length<big/\Q (.ref p) (H.set p (.list (x++y)))|.int x=>b.Dg λy=>Bu o x y H Q|_=>False
def Om (o i v:MV)(H:MH)(Q:MH->Prop):Prop:=o.rq λp=>
 xu H p (λvs=>i.Dg λk=>0<=k/\vs.length<big/\Yn (tj k vs.length) λj=>Q (H.set p (.list (vs.set j v))))
  λxd=>i.key=true/\xd.length<big/\Q (H.set p (.dict (dput xd i v)))
def vo (o:MV)(f:Nat)(v:MV)(H:MH)(Q:MH->Prop):Prop:=o.nB λ_ d=>dG H d λfs=>Q (H.set d (.ns λx=>if x=f then v else fs x))
def Mh (bg:MH->Prop)(t:Tg)(body:List MV->MH->(MF->List MV->MH->Prop)->Prop):List MV->List MV->MH->(MF->List MV->MH->Prop)->Prop
 |[],L,H,Q=>bg H/\Q .next L H|x::xs,L,H,Q=>bg H/\ri t x L λL'=>body L' H λf aR H'=>match f with
  |.ret v=>Q (.ret v) aR H'|_=>Mh bg t body xs aR H' Q
mutual
def wpS (P:Pg):MS->List MV->MH->(MF->List MV->MH->Prop)->Prop
 |.asg i e,L,H,Q=>Yd P e L H λv H1=>Q .next (L.set i v) H1|.Zl is e,L,H,Q=>Yd P e L H λv H1=>ri (.many is) v L λL'=>Q .next L' H1|.swap i j a b,L,H,Q=>Yd P a L H λx H1=>Yd P b L H1 λy H2=>Q .next ((L.set i x).set j y) H2|.qi o f e,L,H,Q=>Yd P e L H λv H1=>Yd P o L H1 λx H2=>vo x f v H2 λH3=>Q .next L H3|.dg o i e,L,H,Q=>Yd P e L H λv H1=>Yd P o L H1 λx H2=>Yd P i L H2 λy H3=>Om x y v H3 λH4=>Q .next L H4|.aug i op e,L,H,Q=>(L.getD i .td).Zg λw=>Yd P e L H λv H1=>Nm op w v H1 λr H2=>Q .next (L.set i r) H2|.cG o f op e,L,H,Q=>Yd P o L H λx H1=>Te x f H1 λa H2=>Yd P e L H2 λv H3=>Nm op a v H3 λr H4=>vo x f r H4 λH5=>Q .next L H5|.tw o i op e,L,H,Q=>Yd P o L H λx H1=>Yd P i L H1 λy H2=>ak x y H2 λa H3=>Yd P e L H3 λv H4=>Nm op a v H4 λr H5=>Om x y r H5 λH6=>Q .next L H6|.ifs c a b,L,H,Q=>ww P c L H λt H1=>(t=true->Kd P a L H1 Q)/\(t=false->Kd P b L H1 Q)|.Jl t it body,L,H,Q=>Yd P it L H λv H1=>Ff v H1 λitems bg=>Mh bg t (λL' H' K=>Kd P body L' H' K) items L H1 Q|.Hi c body,L,H,Q=>∃I:Nat->List MV->MH->Prop,(∃n,I n L H)/\∀n L H,I n L H->ww P c L H λt H1=>
  (t=true->Kd P body L H1 λf L2 H2=>match f with|.ret v=>Q (.ret v) L2 H2|_=>∃m,m<n/\I m L2 H2)/\(t=false->Q .next L H1)
 |.ret e,L,H,Q=>Yd P e L H λv H1=>Q (.ret v) L H1|.cont,L,H,Q=>Q .cont L H|.exp e,L,H,Q=>Yd P e L H λ_ H1=>Q .next L H1|.bad,_,_,_=>False
def Kd (P:Pg):List MS->List MV->MH->(MF->List MV->MH->Prop)->Prop
 |[],L,H,Q=>Q .next L H|s::r,L,H,Q=>wpS P s L H λf L' H'=>match f with
  |.next=>Kd P r L' H' Q|f=>Q f L' H'
end
structure Fn where
 np:Nat
 nl:Nat
 body:List MS
def frameOf (f:Fn)(args:List MV):Option (List MV):=if args.length=f.np then some (args++replicate (f.nl-f.np) .td)else none
def Af:MF->MV
 |.ret v=>v|_=>.none
structure Text where
 fn:Nat->Option Fn
 Zf:Nat->Nat->Option Nat
 th:Nat->Nat
def Fd (X:Text):Nat->Nat->List MV->MH->(MV->MH->Prop)->Prop
 |0,_,_,_,_=>False|n+1,f,args,H,Q=>Yn (X.fn f) λd=>Yn (frameOf d args) λL=>Kd ⟨Fd X n,X.Zf,X.th⟩ d.body L H λfl _ H'=>Q (Af fl) H'
def Ce (X:Text)(n:Nat):Pg:=⟨Fd X n,X.Zf,X.th⟩
end
section
open W PyProof.Rows
abbrev Tb:=Addr->Option Obj
def Tb.set (T:Tb)(a:Addr)(o:Obj):Tb:=λb=>if b=a then some o else T b
def Tb.le (T T':Tb):Prop:=∀a o,T a=some o->T' a=some o
theorem Tb.le_refl (T:Tb):T.le T:=λ_ _ e=>e
theorem akt:type_of% @Tb.le_refl:=@Tb.le_refl
theorem Tb.le_trans {T c b:Tb}(x:T.le c)(y:c.le b):T.le b:=λa o e=>y a o (x a o e)
theorem aks:type_of% @Tb.le_trans:=@Tb.le_trans
theorem Tb.Gf {T:Tb}{a:Addr}(o:Obj)(h:T a=none):T.le (T.set a o):=λb c e=>by
 unfold Tb.set;split
 ·rename_i q;rw[q,h]at e;exact nn e
 ·erw[e]
theorem Tb.Jd (T:Tb)(a:Addr)(o:Obj):T.set a o a=some o:=by simp[Tb.set]
structure Cx where
 prog:Program
 w:World
 os:OsState
 P:Addr
 pos:Pos
 lq:Str
 L_:Addr
 sx:List Str
 cls:Nat->Addr
 jj:Tb
abbrev Yh (items:Array Value)(n:Nat):Obj:={cls:=.type "tuple",data:=.seq items n}
abbrev Ge (items:Array Value)(n:Nat):Obj:={cls:=.type "list",data:=.seq items n}
mutual
def VR (c:Cx)(T:Tb):MV->Value->Prop
 |.td,_=>False|.none,v=>v=.none|.bool b,v=>v=.bool b|.int i,v=>∃t,v=.int i t|.str n,v=>∃x t,c.sx[n]?=some x/\v=.str x t|.tup vs,v=>∃a items n,v=.ref a/\T a=some (Yh items n)/\Ee c T vs items.toList|.ref a,v=>v=.ref a|.obj k d,v=>∃a,v=.ref a/\T a=some (instObj (c.cls k) d)|.Il lo hi st,v=>∃a t u x,v=.ref a/\T a=some {cls:=.type "range",data:=.fields #[.int lo t,.int hi u,.int st x]}
 |.Qy ns,v=>∃a items n,v=.ref a/\T a=some (Ge items n)/\IntsAre items.toList ns
def Ee (c:Cx)(T:Tb):List MV->List Value->Prop
 |[],w=>match w with
  |[]=>True|_::_=>False
 |v::r,w=>match w with
  |[]=>False|x::t=>VR c T v x/\Ee c T r t
end
theorem Ee.ind {c:Cx}{T:Tb}{C:List MV->List Value->Prop}(d:C [] [])(b:∀v x r t,VR c T v x->Ee c T r t->C r t->C (v::r) (x::t)){vs:List MV}:∀{xs:List Value},Ee c T vs xs->C vs xs:=by
 induction vs with
 |nil=>
  intro l h;cases l with
  |nil=>exact d|cons _ _=>exact h.elim
 |cons v r a=>
  intro l h;cases l with
  |nil=>exact h.elim|cons x t=>exact b v x r t h.1 h.2 (a h.2)
theorem VR.mono (b:T.le T')(v:MV):∀x:Value,VR c T v x->VR c T' v x:=
 MV.rec (motive_1:=λv=>∀x,VR c T v x->VR c T' v x) (motive_2:=λv=>∀x,Ee c T v x->Ee c T' v x) (λ_ h=>h) (λ_ h=>h) (λ_ _ h=>h) (λ_ _ h=>h) (λ_ _ h=>h) (λ_ d _ h=>h.elim λa h=>h.elim λi h=>h.elim λn h=>⟨a,i,n,h.1,b _ _ h.2.1,d _ h.2.2⟩) (λ_ _ h=>h) (λ_ _ _ h=>h.elim λa h=>⟨a,h.1,b _ _ h.2⟩) (λ_ _ _ _ h=>h.elim λa h=>h.elim λt h=>h.elim λu h=>h.elim λx h=>⟨a,t,u,x,h.1,b _ _ h.2⟩) (λ_ _ h=>h.elim λa h=>h.elim λi h=>h.elim λn h=>⟨a,i,n,h.1,b _ _ h.2.1,h.2.2⟩) (λ_ h=>h) (λ_ _ f e x h=>by
   cases x with
   |nil=>exact h|cons y t=>exact⟨f y h.1,e t h.2⟩) v
theorem Ee.mono {T a:Tb}(d:T.le a)(vs:List MV)(xs:List Value)(h:Ee c T vs xs):Ee c a vs xs:=
 Ee.ind (C:=Ee c a) trivial (λ_ _ _ _ h _ b=>⟨VR.mono d _ _ h,b⟩) h
theorem Ee.length {xs:List Value}(h:Ee c T vs xs):vs.length=xs.length:=
 Ee.ind (C:=λvs xs=>vs.length=xs.length) rfl (λ_ _ _ _ _ _ a=>Fc Nat.succ a) h
theorem Ee.append {xs a:List Value}(h:Ee c T vs xs)(k:Ee c T ws a):Ee c T (vs++ws) (xs++a):=
 Ee.ind (C:=λvs xs=>Ee c T (vs++ws) (xs++a)) k (λ_ _ _ _ h _ b=>⟨h,b⟩) h
theorem Ee.get {c:Cx}{T:Tb}{vs:List MV}{xs:List Value}{i:Nat}{v:MV}(h:Ee c T vs xs)(e:vs[i]?=some v):∃x,xs[i]?=some x/\VR c T v x:=
 Ee.ind (C:=λvs xs=>∀i v,vs[i]?=some v->∃x,xs[i]?=some x/\VR c T v x) (λi v e=>nn e) (λw x r t h _ a i v e=>by
  cases i with
  |zero=>exact⟨x,rfl,oa e▸h⟩|succ i=>exact a i v e) h i v e
theorem Ee.take {xs:List Value}(n:Nat)(h:Ee c T vs xs):Ee c T (vs.take n) (xs.take n):=
 Ee.ind (C:=λvs xs=>∀n,Ee c T (vs.take n) (xs.take n)) (λn=>by cases n<;>exact trivial) (λ_ _ _ _ h _ a n=>by
  cases n with
  |zero=>exact trivial|succ n=>exact⟨h,a n⟩) h n
theorem Ee.drop {xs:List Value}(n:Nat)(h:Ee c T vs xs):Ee c T (vs.drop n) (xs.drop n):=
 Ee.ind (C:=λvs xs=>∀n,Ee c T (vs.drop n) (xs.drop n)) (λn=>by cases n<;>exact trivial) (λ_ _ _ _ h k a n=>by
  cases n with
  |zero=>exact⟨h,k⟩|succ n=>exact a n) h n
theorem Ee.set (b:VR c T v x){xs:List Value}(n:Nat)(h:Ee c T vs xs):Ee c T (vs.set n v) (xs.set n x):=
 Ee.ind (C:=λvs xs=>∀n,Ee c T (vs.set n v) (xs.set n x)) (λ_=>trivial) (λ_ _ _ _ h k a n=>by
  cases n with
  |zero=>exact⟨b,k⟩|succ n=>exact⟨h,a n⟩) h n
theorem Ee.replicate (b:VR c T v x)(n:Nat):Ee c T (replicate n v) (replicate n x):=by
 induction n with
 |zero=>exact trivial|succ n a=>exact⟨b,a⟩
def Cx.nm (c:Cx)(n:Nat)(x:Str):Prop:=c.sx[n]?=some x
set_option genInjectivity true in
set_option genCtorIdx true in
inductive FK where
 |i (n:Int)
 |s (x:Str)
 deriving DecidableEq
def FK.is:FK->Value->Bool
 |.i n,v=>v.isInt n|.s x,v=>Value.isStrOf x v
theorem FK.E {C:FK->Value->Prop}(hi:∀n t,C (.i n) (.int n t))(a:∀x t,C (.s x) (.str x t)){k:FK}{v:Value}(h:k.is v=true):C k v:=by
 cases k with
 |i n=>exact(Value.isInt_shape h).elim λt e=>e▸hi n t|s x=>exact(Value.isStrOf_shape h).elim λt e=>e▸a x t
theorem FK.aav {v:Value}{a b:FK}(d:a.is v=true)(c:b.is v=true):a=b:=
 FK.E (C:=λa v=>b.is v=true->a=b) (λn t c=>FK.E (C:=λb v=>v=.int n t->.i n=b) (λm u e=>Fc FK.i (Value.int.inj e).1.symm) (λx u e=>Xi Value.ctorIdx e rfl) c rfl) (λx t c=>FK.E (C:=λb v=>v=.str x t->.s x=b) (λm u e=>Xi Value.ctorIdx e rfl) (λy u e=>Fc FK.s (Value.str.inj e).1.symm) c rfl) d c
theorem xq (h:Q false s):wpAny (model prog w) A (PySem.eqBool (.int n t) (.str x u)) Q E s:=by unfold PySem.eqBool;erw[Bc ?_];rw[Dc (by rw[Zc];nofun)];erw[xc (EqMixed.eq_int_str (wpAny_truthy_bool h))]
theorem yq (h:Q false s):wpAny (model prog w) A (PySem.eqBool (.str x u) (.int n t)) Q E s:=by unfold PySem.eqBool;erw[Bc ?_];rw[Dc (by rw[Zc];nofun)];erw[xc (EqMixed.eq_str_int (wpAny_truthy_bool h))]
theorem rB {c d:Type}[DecidableEq c][DecidableEq d]{f:c->d}(g:∀a b,f a=f b->a=b)(a b:c):decide (f a=f b)=decide (a=b):=by
 by_cases e:a=b
 ·rw[Pb e,Pb (Fc f e)]
 ·rw[decide_eq_false e,decide_eq_false λq=>e (g _ _ q)]
theorem aD {prog:Program}{w:World}{A:Around}{E:Value->Shared->Prop}{s:Shared}{a b:FK}{u v:Value}{Q:Bool->Shared->Prop}(d:a.is u=true)(c:b.is v=true)(h:Q (decide (a=b)) s):wpAny (model prog w) A (PySem.eqBool u v) Q E s:=
 FK.E (C:=λa u=>Q (decide (a=b)) s->wpAny (model prog w) A (PySem.eqBool u v) Q E s) (λn t=>FK.E (C:=λb v=>Q (decide (.i n=b)) s->wpAny (model prog w) A (PySem.eqBool (.int n t) v) Q E s) (λm u h=>wpAny_eqBool_int (by rw[rB (λ_ _=>FK.i.inj)]at h;exact h)) (λx u h=>xq (by rwa[decide_eq_false (λe=>nomatch e)]at h)) c) (λx t=>FK.E (C:=λb v=>Q (decide (.s x=b)) s->wpAny (model prog w) A (PySem.eqBool (.str x t) v) Q E s) (λm u h=>yq (by rwa[decide_eq_false (λe=>nomatch e)]at h)) (λy u h=>wpAny_eqBool_str (by rw[rB (λ_ _=>FK.s.inj)]at h;exact h)) c) d h
theorem gO {k:FK}{x:Str}{t:Tok}{v:Value}(h:k.is (.str x t)=true):k.is v=v.isStr x:=
 FK.E (C:=λk u=>u=.str x t->k.is v=v.isStr x) (λn t e=>Xi Value.ctorIdx e rfl) (λy u e=>by
  rw[(Value.str.inj e).1]
  cases v<;>rfl) h rfl
def Nf (prog:Program)(w:World):KeyKind prog w FK where
 is:=FK.is
 hash k:=match k with|.i n=>hashInt n|.s x=>hashStr w x
 inj _ _ _:=FK.aav
 byValue _ _ h:=FK.E (C:=λ_ v=>carriedByValue v=true) (λ_ _=>rfl) (λ_ _=>rfl) h
 pyHash {A E s _ _ Q} hv h:=FK.E (C:=λk v=>Q ((match k with|.i n=>hashInt n|.s x=>hashStr w x:Int)) {s with toks:=s.toks+1}->wpAny (model prog w) A (PySem.pyHash v) Q E s) (λ_ _ h=>wpAny_pyHash_int h) (λ_ _ h=>wpAny_pyHash_str h) hv h
 eqBool:=aD
 «strs» _ _ _ _:=gO
end
section
open W PyProof.Rows
variable {H H' : MH} {T T' F : Tb} {Q : MV → MH → Prop} {E : Value → Shared → Prop} {c : Cx} {mg mb : Str → Option Value} {s : Shared} {nm : List Str} {n : Nat} {A : Around} {P : Pg} {sc : Scope} {env : Env} {L : List MV}
def fk (c:Cx):MV->Option FK
 |.int i=>some (.i i)|.str n=>(c.sx[n]?).map .s|_=>none
def hashOf (c:Cx):MV->Int
 |.tup vs=>tupleKeyHash (Nf c.prog c.w) (vs.filterMap (fk c))|k=>match fk c k with
  |some f=>(Nf c.prog c.w).hash f|none=>0
inductive ah (c:Cx)(T:Tb):List (MV×MV)->List DictEntry->Prop where
 |nil:ah c T [] []
 |cons {k v:MV} {x y:Value} {r:List (MV×MV)} {es:List DictEntry}:VR c T k x->VR c T v y->k.key=true->ah c T r es->ah c T ((k,v)::r) (⟨hashOf c k,x,y⟩::es)
theorem ah.mono (e:T.le T')(h:ah c T xd es):ah c T' xd es:=by
 induction h with
 |nil=>exact .nil|cons a b d _ f=>exact .cons (VR.mono e _ _ a) (VR.mono e _ _ b) d f
theorem ah.length (h:ah c T xd es):xd.length=es.length:=by
 induction h with
 |nil=>rfl|cons a b d _ e=>simp[e]
abbrev Ah (es:Array DictEntry)(n:Nat):Obj:={cls:=.type "dict",data:=.dict es n}
def Vy (c:Cx)(T:Tb)(f:Nat->MV)(m:Str->Option Value):Prop:=
 ∀i,f i≠.td->∃x v,c.sx[i]?=some x/\m x=some v/\VR c T (f i) v
def di (c:Cx)(T:Tb)(h:Heap)(a:Addr):MO->Prop
 |.list vs=>∃items n,h.get? a=some (Ge items n)/\Ee c T vs items.toList|.dict xd=>∃es n,h.get? a=some (Ah es n)/\ah c T xd es.toList/\(a==sysModules)=false/\(xd.map (·.1)).Nodup|.ns f=>∃m,h.Ns1 a m/\Within m c.sx/\Vy c T f m
theorem di.ex (x:di c T h a o):∃ob,h.get? a=some ob:=by
 cases o with
 |list d=>obtain⟨i,n,e,_⟩:=x;exact⟨_,e⟩
 |dict b=>obtain⟨i,n,e,_⟩:=x;exact⟨_,e⟩
 |ns f=>obtain⟨m,⟨o,_,_,e,_⟩,_,_⟩:=x;exact⟨_,e⟩
theorem di.at (g:T.le T')(x:di c T h a o)(k:∀ob,h.get? a=some ob->h'.get? a=some ob):di c T' h' a o:=by
 cases o with
 |list z=>obtain⟨i,n,e,r⟩:=x;exact⟨i,n,k _ e,Ee.mono g _ _ r⟩
 |dict w=>obtain⟨i,n,e,r,q,nd⟩:=x;exact⟨i,n,k _ e,r.mono g,q,nd⟩
 |ns f=>
  erw[Xf x λm u j y=>(We u λo p t e r=>⟨m,⟨o,p,t,k _ e,r⟩,j,λi l=>by obtain⟨x,v,a,b,d⟩:=y i l;exact⟨x,v,a,b,VR.mono g _ _ d⟩⟩)]
def X3 (c:Cx)(T:Tb)(ps:Array Value):Prop:=
 ps=#[]\/∃c' o vs t,ps=#[rawInt c.pos.line,rawInt c.pos.col,.ref c']/\T c'=some o/\o.data=.fields vs/\vs[1]?=some (.str c.lq t)
inductive St (c:Cx)(H:MH)(T F:Tb)(s:Shared):Prop
 |mk (Qm:∀a o,H a=some o->di c T s.heap a o) (Sm:∀a o,T a=some o->s.heap.get? a=some o) (Tm:∀a o,F a=some o->s.heap.get? a=some o) (iO:∀a o,H a=some o->T a=none) (jO:∀a o,H a=some o->F a=none) (Eu:∀a o,F a=some o->T a=none) (base:c.jj.le T) (gens:s.gens=#[]) (os:s.os=c.os) (tab:∃ps,s.heap.get? c.P=some (tabObj ps)/\X3 c T ps) (kO:H c.P=none/\T c.P=none/\F c.P=none)
theorem St.xw (x:St c H T F s)(b:s.heap.get? a=none):H a=none:=by
 cases e:H a with
 |none=>rfl|some o=>obtain⟨d,q⟩:=di.ex (x.1 a o e);rw[b]at q;exact nn q
theorem St.bD (x:St c H T F s)(b:s.heap.get? a=none):T a=none:=by
 cases e:T a with
 |none=>rfl|some o=>have:=x.2 a o e;rw[b]at this;exact nn this
theorem St.cD (x:St c H T F s)(b:s.heap.get? a=none):F a=none:=by
 cases e:F a with
 |none=>rfl|some o=>have:=x.3 a o e;rw[b]at this;exact nn this
theorem de (h:Heap):h.get? h.objs.size=none:=by
 cases e:h.get? h.objs.size with
 |none=>rfl|some o=>exact qd (Heap.lt_size e) (Ic _)
theorem St.dD (x:St c H T F s)(b:s.heap.get? a=none):c.P≠a:=λe=>by
 obtain⟨d,q,_⟩:=x.10;rw[e,b]at q;exact nn q
theorem St.grow (x:St c H T F s)(k:∀b o,s.heap.get? b=some o->s'.heap.get? b=some o)(h:s'.gens=s.gens:=by rfl)(g:s'.os=s.os:=by rfl):St c H T F s':=
 .mk
 (Qm:=λa o e=>di.at (akt T) (x.1 a o e) λf=>k a f)
 (Sm:=λa o e=>k _ _ (x.2 a o e))
 (Tm:=λa o e=>k _ _ (x.3 a o e))
 (iO:=x.4)
 (jO:=x.5)
 (Eu:=x.6)
 (base:=x.7)
 (gens:=h.trans x.8)
 (os:=g.trans x.9)
 (tab:=by
  obtain⟨d,q,r⟩:=x.10
  exact⟨d,k _ _ q,r⟩)
 (kO:=x.11)
theorem St.tok (x:St c H T F s)(t:Nat):St c H T F {s with toks:=t}:=x.grow (λzz zz e=>e)
theorem St.Y3 (x:St c H T F s)(j:s.heap.get? a=some o)(l:H a=none)(k:c.P≠a)(f:T a=none)(m:F a=none):St c H (T.set a o) F s:=
 .mk
 (Qm:=λb d e=>di.at (Tb.Gf o f) (x.1 b d e) λzz q=>q)
 (Sm:=λb d e=>by
  unfold Tb.set at e;split at e
  ·rename_i q;obtain rfl:=(oa e);rw[q];exact j
  ·exact x.2 b d e)
 (Tm:=x.3)
 (iO:=λb d e=>by
  unfold Tb.set;split
  ·rename_i q;rw[q,l]at e;exact nn e
  ·exact x.4 b d e)
 (jO:=x.5)
 (Eu:=λb d e=>by
  unfold Tb.set;split
  ·rename_i q;rw[q,m]at e;exact nn e
  ·exact x.6 b d e)
 (base:=aks x.7 (Tb.Gf o f))
 (gens:=x.8)
 (os:=x.9)
 (tab:=by
  refine Sd x.10 λh q r=>(⟨h,q,r.imp id λp=>by obtain⟨z,i,g,t,y,w,v,u⟩:=p;exact⟨z,i,g,t,y,Tb.Gf o f _ _ w,v,u⟩⟩))
 (kO:=⟨x.11.1,by unfold Tb.set;rw[Dc k];exact x.11.2.1,x.11.2.2⟩)
theorem St.Fk (x:St c H T F s)(f:s.heap.get? a=some o)(i:H a=none)(h:c.P≠a)(g:T a=none):St c H T (F.set a o) s:=
 .mk
 (Qm:=x.1)
 (Sm:=x.2)
 (Tm:=λb d e=>by
  unfold Tb.set at e;split at e
  ·rename_i q;obtain rfl:=(oa e);rw[q];exact f
  ·exact x.3 b d e)
 (iO:=x.4)
 (jO:=λb d e=>by
  unfold Tb.set;split
  ·rename_i q;rw[q,i]at e;exact nn e
  ·exact x.5 b d e)
 (Eu:=λb d e=>by
  unfold Tb.set at e;split at e
  ·rename_i q;rw[q];exact g
  ·exact x.6 b d e)
 (base:=x.7)
 (gens:=x.8)
 (os:=x.9)
 (tab:=x.10)
 (kO:=⟨x.11.1,x.11.2.1,by unfold Tb.set;rw[Dc h];exact x.11.2.2⟩)
theorem St.Gk (x:St c H T F s)(h:F'.le F):St c H T F' s:=
 .mk
 (Qm:=x.1)
 (Sm:=x.2)
 (Tm:=λb a e=>x.3 b a (h b a e))
 (iO:=x.4)
 (jO:=λb a e=>by
  cases q:F' b with
  |none=>rfl|some z=>have:=h b z q;rw[x.5 b a e]at this;exact nn this)
 (Eu:=λb a e=>x.6 b a (h b a e))
 (base:=x.7)
 (gens:=x.8)
 (os:=x.9)
 (tab:=x.10)
 (kO:=⟨x.11.1,x.11.2.1,by
  cases q:F' c.P with
  |none=>rfl|some z=>have:=h _ z q;rw[x.11.2.2]at this;cases this⟩)
theorem St.put (x:St c H T F s)(k:∀b ob,b≠a->s.heap.get? b=some ob->s'.heap.get? b=some ob)(i:di c T s'.heap a o)(d:T a=none) (g:F a=none) (f:c.P≠a) (l:s'.gens=s.gens:=by rfl) (j:s'.os=s.os:=by rfl):St c (H.set a o) T F s':=
 .mk
 (Qm:=λb ob e=>by
  unfold MH.set at e;split at e
  ·rename_i q;obtain rfl:=(oa e);rw[q];exact i
  ·rename_i q;exact di.at (akt T) (x.1 b ob e) λz=>k b z q)
 (Sm:=λb ob e=>k b ob (λq=>by rw[q,d]at e;exact nn e) (x.2 b ob e))
 (Tm:=λb ob e=>k b ob (λq=>by rw[q,g]at e;exact nn e) (x.3 b ob e))
 (iO:=λb ob e=>by
  unfold MH.set at e;split at e
  ·rename_i q;rw[q];exact d
  ·exact x.4 b ob e)
 (jO:=λb ob e=>by
  unfold MH.set at e;split at e
  ·rename_i q;rw[q];exact g
  ·exact x.5 b ob e)
 (Eu:=x.6)
 (base:=x.7)
 (gens:=l.trans x.8)
 (os:=j.trans x.9)
 (tab:=by
  obtain⟨h,q,r⟩:=x.10
  exact⟨h,k _ _ f q,r⟩)
 (kO:=⟨by unfold MH.set;rw[Dc f];exact x.11.1,x.11.2.1,x.11.2.2⟩)
theorem St.but (x:St c H T F s)(k:∀b ob,b≠a->s.heap.get? b=some ob->s'.heap.get? b=some ob)(j:H a=none)(h:T a=none) (l:F a=none) (i:c.P≠a) (g:s'.gens=s.gens:=by rfl) (f:s'.os=s.os:=by rfl):St c H T F s':=
 .mk
 (Qm:=λb ob e=>di.at (akt T) (x.1 b ob e) λz=>k b z λq=>by rw[q,j]at e;exact nn e)
 (Sm:=λb ob e=>k b ob (λq=>by rw[q,h]at e;exact nn e) (x.2 b ob e))
 (Tm:=λb ob e=>k b ob (λq=>by rw[q,l]at e;exact nn e) (x.3 b ob e))
 (iO:=x.4)
 (jO:=x.5)
 (Eu:=x.6)
 (base:=x.7)
 (gens:=g.trans x.8)
 (os:=f.trans x.9)
 (tab:=by
  obtain⟨d,q,r⟩:=x.10
  exact⟨d,k _ _ i q,r⟩)
 (kO:=x.11)
theorem St.new (x:St c H T F s)(a:di c T (s.heap.push ob) s.heap.objs.size o)(t:Nat):St c (H.set s.heap.objs.size o) T F {s with heap:=s.heap.push ob,toks:=t}:=
 x.put (λb d zz e=>Wc _ e) a (x.bD (de _)) (x.cD (de _)) (x.dD (de _))
theorem St.mG (x:St c H T F s)(a:ob.isFreed=false)(t:Nat):St c H (T.set s.heap.objs.size ob) F {s with heap:=s.heap.push ob,toks:=t}/\T.le (T.set s.heap.objs.size ob):=
 ⟨(x.grow (s':={s with heap:=s.heap.push ob,toks:=t}) λb o e=>Wc _ e).Y3 (Xc _ a) (x.xw (de _)) (x.dD (de _)) (x.bD (de _)) (x.cD (de _)),Tb.Gf _ (x.bD (de _))⟩
inductive Cd (c:Cx)(T F:Tb)(Q:MV->MH->Prop)(v:Value)(s:Shared):Prop
 |mk (mv:MV) (H':MH) (T':Tb) (le:T.le T') (st:St c H' T' F s) (vr:VR c T' mv v) (q:Q mv H')
inductive Wo (c:Cx)(T F:Tb)(Q:MH->Prop)(s:Shared):Prop
 |mk (H':MH) (T':Tb) (le:T.le T') (st:St c H' T' F s) (q:Q H')
inductive Z3 (c:Cx)(T F:Tb)(Q:List MV->MH->Prop)(vs:List Value)(s:Shared):Prop
 |mk (Qr:List MV) (H':MH) (T':Tb) (le:T.le T') (st:St c H' T' F s) (vr:Ee c T' Qr vs) (q:Q Qr H')
inductive yw (c:Cx)(T F:Tb)(Q:Bool->MH->Prop)(b:Bool)(s:Shared):Prop
 |mk (H':MH) (T':Tb) (le:T.le T') (st:St c H' T' F s) (q:Q b H')
abbrev akn (_:Value)(_:Shared):Prop:=False
theorem Cd.up (h:T.le T')(x:Cd c T' F Q v s):Cd c T F Q v s:=by obtain⟨e,g,f,a,r,d,b⟩:=x;exact⟨e,g,f,aks h a,r,d,b⟩
theorem yw.up {Q:Bool->MH->Prop}{v:Bool}(h:T.le T')(x:yw c T' F Q v s):yw c T F Q v s:=by obtain⟨e,d,a,r,b⟩:=x;exact⟨e,d,aks h a,r,b⟩
theorem Cd.of (x:St c H T F s)(a:VR c T mv v)(q:Q mv H):Cd c T F Q v s:=⟨mv,H,T,akt T,x,a,q⟩
def lO (T:Tb)(a:Addr)(m:Str->Option Value):Prop:=∃o es ep,T a=some o/\o.data=.dict es ep/\StrKeys es/\∀name,nsFind es name=m name
theorem lO.le (h:T.le T')(x:lO T a m):lO T' a m:=let ⟨o,es,ep,e,r⟩:=x;⟨o,es,ep,h _ _ e,r⟩
theorem lO.ns {T:Tb}{a:Addr}{m:Str->Option Value}{h:Heap}(k:∀a o,T a=some o->h.get? a=some o)(x:lO T a m):h.Ns a m:=let ⟨o,es,ep,e,r⟩:=x;⟨o,es,ep,k _ _ e,r⟩
inductive Bs (c:Cx)(mg mb:Str->Option Value):Prop
 |mk (g:lO c.jj mainGlobals mg) (b:lO c.jj builtinsNs mb) (lim:∃mc,lO c.jj cStatics mc/\mc "sys.recursionlimit"=none) (sxn:c.sx.Nodup) (sxl:c.sx.length<=1000) (sxo:∀x∈c.sx,PyData.strOk x=true) (sm:∃o,c.jj sysModules=some o) (cat:∀i j k,vq i j=some k->∃x y,c.sx[i]?=some x/\c.sx[j]?=some y/\c.sx[k]?=some (x++y)/\x.length+y.length<=sizeLine)
theorem Bs.cR (bs:Bs c mg mb)(st:St c H T F s)(b:s.heap.get? a=none):(a==sysModules)=false:=by rw[beq_eq_false_iff_ne];rintro rfl;obtain⟨o,e⟩:=bs.7;rw[st.2 _ _ (st.7 _ _ e)]at b;exact ns b
def eD (sc:Scope):Bool:=sc.names.any λp=>p.1==("free":Str)
structure Bf (c:Cx)(env:Env)(sc:Scope):Prop where
 Rr:env.scope=sc
 kind:sc.kind=.function
 globals:env.globals=mainGlobals
 builtins:env.builtins=builtinsNs
 cls:∀x,sc.names.lookup x=some .cell\/sc.names.lookup x=some .free->(env.cells.lookup x).isSome=true
 code:eD sc=true->env.code=.ref c.L_/\env.qual++("<lambda>":Str)=c.lq
def Rm (n:Nat)(A:Around):Prop:=A.depth+4*n+10<recursionLimit/\A.units+20*n+200<cLine/\A.handled=none
theorem Rm.in1 (h:Rm (n+1) A):Rm n A.in1:=⟨by haveI:=h.1;rw[Around.in1_depth];exact se 0x2ea1c141d0bbb32ea1ce1b41d0bbb10 rfl this,by haveI:=h.2.1;rw[Around.in1_units];exact se 0x2ec82c1142de0bbbb32ec82ce1b142d0bbb10 rfl this,h.2.2⟩
theorem Rm.units (h:Rm n A):A.units+200<cLine:=by haveI:=h.2.1;exact se 0x2ec82c0bb32ec82c1142d0bbb10 rfl this
inductive Hk (c:Cx)(env:Env)(nm:List Str)(L:List MV)(T F:Tb):Prop
 |mk (len:nm.length=L.length) (ns:∃o es ep,F env.locals=some o/\o.data=.dict es ep/\StrKeys es/\∀(i:Nat)(x:Str)(v:MV),nm[i]?=some x->env.kindOf x=some .local->L[i]?=some v->v≠.td->∃pv,nsFind es x=some pv/\VR c T v pv) (cells:∀(i:Nat)(x:Str)(v:MV),nm[i]?=some x->(env.kindOf x=some .cell\/env.kindOf x=some .free)->L[i]?=some v->v≠.td->∃a o pv,env.cells.lookup x=some a/\F a=some o/\o.data=.cell (some pv)/\VR c T v pv)
theorem Hk.mono (h:T.le T')(x:Hk c env nm L T F):Hk c env nm L T' F:=
 ⟨x.1,by
  obtain⟨o,m,t,a,b,d,e⟩:=x.2;refine⟨o,m,t,a,b,d,λi x v l k j g=>?_⟩;obtain⟨f,p,q⟩:=e i x v l k j g;exact⟨f,p,VR.mono h _ _ q⟩,
  λi y v l k j g=>by
  obtain⟨a,o,f,p,q,r,z⟩:=x.3 i y v l k j g
  exact⟨a,o,f,p,q,r,VR.mono h _ _ z⟩⟩
abbrev ako (c:Cx):Model:=model c.prog c.w
def Pd (c:Cx)(P:Pg)(n:Nat)(sc:Scope)(nm:List Str)(pe:Expr)(me:ME):Prop:=
 ∀(A:Around)(env:Env)(T F:Tb)(H:MH)(L:List MV)(s:Shared)(Q:MV->MH->Prop),Rm n A->Bf c env sc->Hk c env nm L T F->St c H T F s->Yd P me L H Q->
  wpAny (ako c) A (eval pe env) (Cd c T F Q) akn s
def ui (c:Cx)(P:Pg)(n:Nat)(sc:Scope)(nm:List Str)(pe:Expr)(me:ME):Prop:=
 ∀(A:Around)(env:Env)(T F:Tb)(H:MH)(L:List MV)(s:Shared)(Q:Bool->MH->Prop),Rm n A->Bf c env sc->Hk c env nm L T F->St c H T F s->ww P me L H Q->
  wpAny (ako c) A (isTrue pe env (eval pe env)) (yw c T F Q) akn s
theorem dR {a:Type}{M:Model}{A:Around}{t:Sem a}{Q:a->Shared->Prop}{E:Value->Shared->Prop}{s:Shared}(h:wpAny M A t Q akn s):wpAny M A t Q E s:=
 zc h (λ_ _ x=>x) λ_ _ f=>f.elim
theorem Um (m:nm[i]?=some x)(hd:(x==("__debug__":Str))=false)(C:(x==("__classdict__":Str))=false)(f:sc.names.lookup x=some .local\/sc.names.lookup x=some .cell\/sc.names.lookup x=some .free):Pd c P n sc nm (.Name x pos) (.loc i):=by
 intro A j T F H L s Q K t lf st h;obtain⟨y,l⟩:=Bi h;haveI B:i<L.length:=by
  rw[<-lf.1];exact(Fa m).1
 have w:L[i]?=some (L.getD i .td):=by rw[Ga,wa B];rfl
 have g:j.kindOf x=sc.names.lookup x:=by unfold Env.kindOf;rw[t.Rr]
 have k:j.scope.kind=.function:=by rw[t.Rr];exact t.kind
 erw[wpAny_Name ?_ hd];rcases f with f|f
 ·erw[We lf.2 λo D G a I=>(pj I λb d e=>(Sd (e i x _ m (g.trans f) w y) λu p q=>(wpAny_loadName_local k (g.trans f) ⟨o,D,G,st.3 _ _ a,b,d,λ_=>rfl⟩ p (Cd.of st q l))))]
 ·erw[We (lf.3 i x _ m (f.imp g.trans g.trans) w y) λa o u p J=>(pj J λq r z=>?_),haveI v:s.heap.IsCell a (some u):=⟨o,st.3 _ _ q,r⟩;?_,Or.elim f (λf=>(wpAny_loadName_cell k (g.trans f) p v (Cd.of st z l))) (λf=>(wpAny_loadName_free k (g.trans f) p v (Cd.of st z l) C))]
theorem mO:Pd c P n sc nm (.Constant (.int i) k pos) (.cst (.int i)):=by intro A a T F H L s Q b d lf st h;erw[wpAny_Constant_int (Cd.of (mv:=.int i) (st.tok _) ⟨_,rfl⟩ h)]
theorem nG:Pd c P n sc nm (.Constant .none k pos) (.cst .none):=by intro A a T F H L s Q b d lf st h;erw[yc (Cd.of (mv:=.none) st rfl h)]
theorem oG:Pd c P n sc nm (.Constant (.bool b) k pos) (.cst (.bool b)):=by intro A a T F H L s Q d e lf st h;erw[yc (Cd.of (mv:=.bool b) st rfl h)]
theorem nO (a:c.sx[i]?=some x):Pd c P n sc nm (.Constant (.str x) k pos) (.cst (.str i)):=by intro A b T F H L s Q d e lf st h;erw[PySem.Calls.Constant_str (Cd.of (mv:=.str i) (st.tok _) ⟨x,_,a,rfl⟩ h)]
theorem pG {t:Tok}(bs:Bs c mg mb)(e:sc.names.lookup x=some .globalImplicit)(hd:(x==("__debug__":Str))=false)(d:mg x=some (.int i t)):Pd c P n sc nm (.Name x pos) (.cst (.int i)):=by
 intro A b T F H L s Q g a lf st h;haveI f:b.kindOf x=sc.names.lookup x:=by unfold Env.kindOf;rw[a.Rr]
 erw[PySem.Calls.Name_function_global (by rw[a.Rr];exact a.kind) (f.trans e) (PySem.Calls.loadGlobal_global (mg:=mg) ?_ d (Cd.of (mv:=.int i) st ⟨_,rfl⟩ h)) hd];rw[a.globals];exact(bs.1.le st.7).ns st.2
theorem Fu (b:0<=x)(a:0<=y):Builtin.bitAnd x y=band x y:=by unfold Builtin.bitAnd band;simp[b,a]
theorem Gu (x:Int):Builtin.bitNot x=-x-1:=by unfold Builtin.bitNot;exact Pc (Lm 0xe0dae0da3 rfl) (Lm 0xe0dae0da3 rfl)
theorem Wy (b:0<=x)(a:0<=y):Builtin.bitOr x y=bor x y:=by
 unfold Builtin.bitOr Builtin.bitAnd bor;haveI e:¬0<=Builtin.bitNot x:=by rw[Gu];exact Int.not_le_of_gt (Lm 0xfee0dab30f10 rfl b)
 haveI d:¬0<=Builtin.bitNot y:=by rw[Gu];exact Int.not_le_of_gt (Lm 0xfee0dab30f10 rfl a)
 simp only[e,d,decide_false];simp only[Gu];rw[Y2 x,Y2 y];exact Pc (Lm 0xee0dada3 rfl) (Lm 0xee0dada03 rfl)
theorem zq (a b:Nat):(a|||b)=(a^^^b)+(a&&&b):=by
 haveI j:a<2^(a+b):=Ma Nat.lt_two_pow_self (Ab akq (jb a b));haveI f:b<2^(a+b):=Ma Nat.lt_two_pow_self (Ab akq (Nat.le_add_left b a));haveI g:=Nat.xor_lt_two_pow j f;haveI h:a&&&b<2^(a+b):=Nat.and_lt_two_pow a f;haveI d:(a^^^b)+(a&&&b)<2^(a+b+1):=by rw[Nat.pow_succ,Nat.mul_two];exact Nat.add_lt_add g h
 have z:BitVec.ofNat (a+b+1) (a^^^b)&&&BitVec.ofNat (a+b+1) (a&&&b)=0#(a+b+1):=by
  apply BitVec.eq_of_getLsbD_eq;intro i k;simp only[BitVec.getLsbD_and,BitVec.getLsbD_ofNat,Nat.testBit_xor,Nat.testBit_and];cases a.testBit i<;>cases b.testBit i<;>simp
 haveI e:=Fc BitVec.toNat (BitVec.add_eq_or_of_and_eq_zero _ _ z);rw[BitVec.toNat_add,BitVec.toNat_or,BitVec.toNat_ofNat,BitVec.toNat_ofNat,Nat.mod_eq_of_lt (a:=a^^^b) (ja (jb _ _) d),Nat.mod_eq_of_lt (a:=a&&&b) (ja (Nat.le_add_left _ _) d),Nat.mod_eq_of_lt d]at e;rw[e];apply Nat.eq_of_testBit_eq;intro i;simp only[Nat.testBit_or,Nat.testBit_xor,Nat.testBit_and];cases a.testBit i<;>cases b.testBit i<;>rfl
theorem sB (b:0<=x)(a:0<=y):Builtin.bitXor x y=bxor x y:=by unfold Builtin.bitXor;rw[Wy b a,Fu b a];unfold bor band bxor;rw[zq,Int.natCast_add,Int.add_sub_cancel]
theorem Ts (a:small x):IntMulOk x y:=.of_left (intBits_le_64 (wc akq a.1) (wc a.2 akq))
theorem Cd.int (k:Nat)(st:St c H T F s)(q:Q (.int i) H):Cd c T F Q (.int i t) {s with toks:=k}:=Cd.of (mv:=.int i) (st.tok k) ⟨_,rfl⟩ q
theorem Cd.bool (st:St c H T F s)(q:Q (.bool b) H):Cd c T F Q (.bool b) s:=Cd.of (mv:=.bool b) st rfl q
theorem qG (h:Bu o x y H Q)(st:St c H T F s):wpAny (ako c) A (binaryOp o (.int x t) (.int y u)) (Cd c T F Q) akn s:=by
 cases o<;>first|exact h.elim|skip
 ·erw[P.add_int (Cd.int _ st h)]
 ·erw[P.sub_int (Cd.int _ st h)]
 ·erw[P.mul_int (Cd.int _ st h.2.2) (Ts h.1)]
 ·erw[mod_int' (Int.ne_of_gt h.1) (by rw[Int.fmod_eq_emod_of_nonneg _ (Int.le_of_lt h.1)];exact Cd.int _ st h.2)]
 ·obtain⟨rfl,d,b,a⟩:=h;erw[pow_int_small d (Lm 0xf42405c03186a05c010 rfl b) akq (Cd.int _ st a)]
 ·obtain⟨e,d,b,a⟩:=h;erw[lshift_int_small d (Lm 0xf42405c03186a05c010 rfl b) (vN (wc akq e.1) (wc e.2 akq)) (Cd.int _ st a)]
 ·erw[rshift_int h.1 ?_];rw[Int.fdiv_eq_ediv_of_nonneg _ (Int.le_of_lt (Int.pow_pos akq))];erw[Cd.int _ st h.2]
 ·refine or_int ?_;rw[Wy h.1 h.2.1];exact Cd.int _ st h.2.2
 ·refine xor_int ?_;rw[sB h.1 h.2.1];exact Cd.int _ st h.2.2
 ·refine and_int ?_;rw[Fu h.1 h.2.1];exact Cd.int _ st h.2.2
 ·erw[floordiv_int (Int.ne_of_gt h.1) ?_ (.inl (PyProof.noPylong_small (vN (wc akq h.1) (Int.lt_of_lt_of_le h.2.1 akq))))]
  ·rw[Int.fdiv_eq_ediv_of_nonneg _ (Int.le_of_lt h.1)];exact Cd.int _ st h.2.2
theorem rG (h:Bu o x y H Q)(st:St c H T F s):wpAny (ako c) A (inplaceOp o (.int x t) (.int y u)) (Cd c T F Q) akn s:=by
 cases o<;>first|exact h.elim|skip
 ·erw[P.iadd_int (Cd.int _ st h)]
 ·erw[P.isub_int (Cd.int _ st h)]
 ·erw[P.imul_int (Cd.int _ st h.2.2) (Ts h.1)]
 ·erw[imod_int (Int.ne_of_gt h.1) (by rw[Int.fmod_eq_emod_of_nonneg _ (Int.le_of_lt h.1)];exact Cd.int _ st h.2)]
 ·obtain⟨rfl,d,b,a⟩:=h;erw[ipow_int_small d (Lm 0xf42405c03186a05c010 rfl b) akq (Cd.int _ st a)]
 ·obtain⟨e,d,b,a⟩:=h;erw[ilshift_int_small d (Lm 0xf42405c03186a05c010 rfl b) (vN (wc akq e.1) (wc e.2 akq)) (Cd.int _ st a)]
 ·erw[irshift_int h.1 ?_];rw[Int.fdiv_eq_ediv_of_nonneg _ (Int.le_of_lt (Int.pow_pos akq))];erw[Cd.int _ st h.2]
 ·refine ior_int ?_;rw[Wy h.1 h.2.1];exact Cd.int _ st h.2.2
 ·refine ixor_int ?_;rw[sB h.1 h.2.1];exact Cd.int _ st h.2.2
 ·refine iand_int ?_;rw[Fu h.1 h.2.1];exact Cd.int _ st h.2.2
 ·erw[ifloordiv_int (Int.ne_of_gt h.1) ?_ (.inl (PyProof.noPylong_small (vN (wc akq h.1) (Int.lt_of_lt_of_le h.2.1 akq))))]
  ·rw[Int.fdiv_eq_ediv_of_nonneg _ (Int.le_of_lt h.1)];exact Cd.int _ st h.2.2
theorem zw (h:n<big):n+n+100<=sizeLine:=by rw[sizeLine_eq];exact ee 0x10000007c642c00bb3186a05ce0b20 rfl h
theorem wo (h:n<big)(k:m<big):n+m+100<=sizeLine:=by rw[sizeLine_eq];exact je 0x10000007c642c10bb3186a05ce1b10186a05ce0b10 rfl h k
theorem uf (h:n<big):n<=sizeLine:=Ba (Ba (jb n n) (jb _ 100)) (zw h)
theorem fits (b:-(2^63:Int)<=m)(a:m<2^63):Builtin.List.listFitsIndex m=true:=(Da _ _).mpr ⟨Pb b,Pb a⟩
theorem iX (h:n+m+100<=sizeLine):¬(b&&Builtin.List.listTooLong (n+m))=true:=λa=>qd (Sb ((Da _ _).mp a).2) (rc (Ba (jb _ 100) h))
theorem ext2 (h:n+m+100<=sizeLine):n<=sizeLine:=Ba (jb n m) (Ba (jb _ 100) h)
theorem ext3 (h:n+m+100<=sizeLine):n+m<=sizeLine+1:=Ba (jb _ 100) (Ba h (Nat.le_succ _))
theorem Cd.list (k:Nat)(st:St c H T F s)(a:Ee c T vs xs)(q:alloc H (.list vs) Q):Cd c T F Q (.ref s.heap.objs.size) {s with heap:=s.heap.push (Ge xs.toArray 0),toks:=k}:=
 Cd.of (mv:=.ref _) (st.new (o:=.list vs) ⟨xs.toArray,0,Xc _ rfl,by simpa using a⟩ k) rfl (q _ (st.xw (de _)))
theorem Cd.tup (k:Nat)(st:St c H T F s)(a:Ee c T vs xs)(q:Q (.tup vs) H):Cd c T F Q (.ref s.heap.objs.size) {s with heap:=s.heap.push (Yh xs.toArray 0),toks:=k}:=by erw[eA (st.mG (ob:=Yh xs.toArray 0) rfl k) λb le=>⟨.tup vs,H,_,le,b,⟨_,xs.toArray,0,rfl,Tb.Jd ..,Ee.mono le _ _ (by simpa using a)⟩,q⟩]
theorem St.lst (st:St c H T F s)(h:H p=some (.list vs)):∃items k,s.heap.get? p=some (Ge items k)/\Ee c T vs items.toList:=st.1 p _ h
theorem St.UM (st:St c H T F s)(h:H p=some (.dict xd)):∃a k,s.heap.get? p=some (Ah a k)/\ah c T xd a.toList/\(p==sysModules)=false/\(xd.map (·.1)).Nodup:=st.1 p _ h
theorem St.nsp (st:St c H T F s)(h:H p=some (.ns f)):∃m,s.heap.Ns1 p m/\Within m c.sx/\Vy c T f m:=st.1 p _ h
theorem Ee.arr {vs:List MV}{items:Array Value}(h:Ee c T vs items.toList):vs.length=items.size:=by rw[h.length];simp
theorem foldl_rep:∀(k:Nat)(a:Array Value),List.foldl (λd b=>d++b) a (replicate k #[x])=a++(replicate k x).toArray:=by
 intro n
 induction n with
 |zero=>
  intro a;simp
 |succ k e=>
  intro a;rw[List.replicate_succ,List.foldl_cons,e,List.replicate_succ,Array.append_assoc]
  congr 1
  apply Array.ext';simp
theorem oO (st:St c H T F s)(w:VR c T (.tup x) a)(v:VR c T (.tup y) b)(z:x.length+y.length<big)(q:Q (.tup (x++y)) H):wpAny (ako c) A (binaryOp .Add a b) (Cd c T F Q) akn s:=by
 erw[we w λp d k B=>(Fi a B λu l=>(we v λr f i C=>(Fi b C λt j=>?_)))];haveI h:=st.2 _ _ u;haveI g:=st.2 _ _ t;by_cases m:d.isEmpty=true
 ·have e:x=[]:=List.length_eq_zero_iff.mp (by rw[l.length,show d.toList=[] by simpa using m];rfl);subst e;exact concat_meets ⟨_,h,rfl⟩ ⟨_,g,rfl⟩ noFill_tuple_add seq_tuple_add PySem.F.slot_tuple_add PySem.F.entry_tuple_add (PySem.F.args_tuple_add_2 _ _) (tuple_addW0 p r d f k i none none #[] #[] m) ⟨h,g,Cd.of (mv:=.tup y) st ⟨r,f,i,rfl,t,j⟩ q⟩
 ·by_cases o:f.isEmpty=true
  ·haveI e:y=[]:=List.length_eq_zero_iff.mp (by rw[j.length,show f.toList=[] by simpa using o];rfl);subst e;rw[ib]at q;exact concat_meets ⟨_,h,rfl⟩ ⟨_,g,rfl⟩ noFill_tuple_add seq_tuple_add PySem.F.slot_tuple_add PySem.F.entry_tuple_add (PySem.F.args_tuple_add_2 _ _) (tuple_addW1 p r d f k i none none #[] #[] m o) ⟨h,g,Cd.of (mv:=.tup x) st ⟨p,d,k,rfl,u,l⟩ q⟩
  ·refine concat_meets ⟨_,h,rfl⟩ ⟨_,g,rfl⟩ noFill_tuple_add seq_tuple_add PySem.F.slot_tuple_add PySem.F.entry_tuple_add (PySem.F.args_tuple_add_2 _ _) (tuple_addW2 p r d f k i none none #[] #[] m o (by rw[<-l.arr,<-j.arr];exact uf z)) ⟨h,g,?_⟩
   haveI:=Cd.tup (Q:=Q) s.toks st (l.append j) q;rw[show(d.toList++f.toList).toArray=d++f by simp]at this;erw[this]
theorem pO (st:St c H T F s)(g:H p=some (.list x))(f:H r=some (.list y))(h:x.length+y.length<big)(q:alloc H (.list (x++y)) Q):wpAny (ako c) A (binaryOp .Add (.ref p) (.ref r)) (Cd c T F Q) akn s:=by erw[vf (st.lst g) λa k j d=>(vf (st.lst f) λe l i b=>(P.add_list j i ?_ (by rw[<-d.arr,<-b.arr];exact uf h)))];haveI:=Cd.list (Q:=Q) s.toks st (d.append b) q;rw[show(a.toList++e.toList).toArray=a++e by simp]at this;erw[this]
theorem qO {p:Nat}{v:MV}{m:Int}{u:Tok}(st:St c H T F s)(l:H p=some (.list [v]))(f:0<=m)(e:m<big)(j:alloc H (.list (replicate m.toNat v)) Q):wpAny (ako c) A (binaryOp .Mult (.ref p) (.int m u)) (Cd c T F Q) akn s:=by
 erw[vf (st.lst l) λa k d b=>?_];have o:∃x,a=#[x]/\VR c T v x:=by
  haveI r:=b.arr
  match hit:a.toList,b with
  |[x],b=>exact⟨x,by rw[<-Array.toArray_toList (xs:=a),hit],b.1⟩
  |[],b=>exact b.elim|_::_::_,b=>exact b.2.elim
 erw[Sd o λx q i=>?_];subst q;haveI t:=zw (n:=m.toNat) (NF f e);refine wpAny_binaryOp_repeat_ref (T:="list") (U:="int") akq ⟨_,d,rfl⟩ (λg=>typeIs_int g m u) noFill_list_mul PySem.F.fills_int_mul PySem.F.slot_int_rmul repeat_list PySem.F.slot_int_index.lookup (call_meets PySem.F.slot_int_rmul (typeIs_int s m u) PySem.F.entry_int_rmul (PySem.F.args_int_rmul_2 _ _) (int___rmul___int_list m u p #[x] k) ⟨d,rfl,⟨_,d,rfl⟩,call_meets PySem.F.slot_list_mul ⟨_,d,rfl⟩ PySem.F.entry_list_mul (PySem.F.args_list_mul_2 _ _) (AutoListH.list___mul___list_int_3 p #[x] k m u (by rw[fits (Int.le_trans akq f) (wc e akq)];exact Na) (rc (Ba (Ob (Qb _)) (Ba (Ib (NF f e)) akq))) (λh=>qd (Sb h) (rc (Ba (Ob (Qb _)) (uf (NF f e)))))) ⟨d,?_⟩⟩)
 haveI:=Cd.list (Q:=Q) s.toks st (Ee.replicate i m.toNat) j;rw[show(if (#[x]:Array Value).isEmpty=true then 0 else m.toNat)=m.toNat from rfl,foldl_rep];simpa using this
theorem rO {b:Value}(h:eG o p y H Q)(st:St c H T F s)(d:VR c T y b):wpAny (ako c) A (binaryOp o (.ref p) b) (Cd c T F Q) akn s:=by
 cases o<;>first|exact h.elim|skip
 ·erw[Sd (qj h) λq j h=>?_];subst j;erw[Sd (Pe h) λf a h=>(Sd (Pe h) λk i h=>?_)];obtain rfl:b=.ref q:=d;erw[pO st a i h.1 h.2]
 ·erw[Sd (Be h) λm g h=>?_];subst g;erw[Sd (Pe h) λf a h=>(Sd (Lh h) λv e h=>?_)];subst e;erw[Xh b d λu=>(qO st a h.1 h.2.1 h.2.2)]
theorem sO (bs:Bs c mg mb)(h:Yn (vq x y) λz=>Q (.str z) H)(st:St c H T F s)(e:VR c T (.str x) a)(d:VR c T (.str y) b):wpAny (ako c) A (binaryOp .Add a b) (Cd c T F Q) akn s:=by erw[Sd (Me h) λz g h=>(JF a e λq t k=>(JF b d λp u j=>(ff (bs.8 _ _ _ g) λo m f1 f2 l=>(eA l λf3 i=>?_))))];rw[k]at f1;obtain rfl:=(oa f1);rw[j]at f2;obtain rfl:=(oa f2);erw[PyProof.Rows.add_str (λr f=>Cd.of (mv:=.str z) (st.tok f) ⟨_,_,f3,rfl⟩ h) i]
theorem jX (bs:Bs c mg mb)(h:eg o x y H Q)(st:St c H T F s)(e:VR c T x a)(d:VR c T y b):wpAny (ako c) A (binaryOp o a b) (Cd c T F Q) akn s:=by
 cases x<;>first|exact h.elim|skip
 ·erw[Sd (Be h) λi f h=>?_];subst f;erw[Xh a e λt=>(Xh b d λu=>(qG h st))]
 ·obtain⟨rfl,h⟩:=h;erw[Sd (YC h) λz j h=>?_];subst j;erw[sO bs h st e d]
 ·obtain⟨rfl,h⟩:=h;erw[Sd (XC h) λz g h=>?_];subst g;erw[oO st e d h.1 h.2]
 ·obtain rfl:=e;erw[rO h st d]
end
section
open W PyProof.Rows
def fD (c:Cx):MV->PyData
 |.int i=>.int i|.str n=>.str (c.sx.getD n Str.empty)|.bool b=>.bool b|_=>.none
def gD (f:MV->PyData)(c:Cx):MV->PyData
 |.tup vs=>.tuple (vs.map f)|v=>fD c v
def dat (c:Cx):MV->PyData:=gD (gD (fD c) c) c
def Rd (c:Cx)(T:Tb)(g:MV->Bool)(f:MV->PyData):Prop:=∀v x (h:Heap),(∀a o,T a=some o->h.get? a=some o)->g v=true->VR c T v x->∃as,Reads h x (f v) as/\(f v).canLay0=true
theorem rd0 (bs:Bs c mg mb):Rd c T aj (fD c):=by
 intro v x h k g r;cases v with
 |none=>exact r▸⟨_,.none,rfl⟩|int i=>exact Xh x r λt=>⟨_,.int _ _,rfl⟩|str n=>
  erw[JF x r λy t e=>?_,haveI a:c.sx.getD n Str.empty=y:=(Ga ..).trans (by rw[e];rfl);?_,⟨[],?_,?_⟩]
  ·show Reads h _ (.str (c.sx.getD n Str.empty)) [];rw[a];exact .str _ _
  ·show PyData.canLay0 (.str (c.sx.getD n Str.empty))=true;rw[a];exact bs.6 y (Eb e)
 |_=>exact ft g
theorem d4 {g:MV->Bool}{f:MV->PyData}(R:Rd c T g f)(h:Heap)(k:∀a o,T a=some o->h.get? a=some o):∀(vs:List MV)(xs:List Value),vs.all g=true->Ee c T vs xs->∃i,ReadsAll h xs (vs.map f) i/\PyData.canLayAll0 (vs.map f)=true:=by
 intro l
 induction l with
 |nil=>
  intro b s h;cases b with
  |nil=>
   exact⟨_,.nil,rfl⟩
  |cons _ _=>
   erw[h.elim]
 |cons v r n=>
  intro b e d;cases b with
  |nil=>
   erw[d.elim]
  |cons x t=>
   simp only[all_cons,Da]at e;erw[Sd (R v x h k e.1 d.1) λi m q=>(Sd (n t e.2 d.2) λu j p=>⟨_,.cons m j,by rewrite[yb,PyData.canLayAll0,q];exact Er p rfl⟩)]
theorem rdT {g:MV->Bool}{f:MV->PyData}(bs:Bs c mg mb)(R:Rd c T g f):Rd c T (Zj g) (gD f c):=by
 intro v x h k e r;have m:=rd0 bs v x h k;cases v with
 |tup d=>
  erw[we r λa b n p=>(Fi x p λl j=>(Sd (d4 R h k d _ e j) λq i o=>⟨_,.tuple (k _ _ l) rfl rfl i,o⟩))]
 |_=>exact m e r
theorem eR (bs:Bs c mg mb):Rd c T xh (dat c):=rdT bs (rdT bs (rd0 bs))
def Ij (g:MV->Bool)(f:MV->PyData)(ok:MV->Prop):Prop:=∀a b,g a=true->g b=true->ok a->ok b->PyData.eqv (f a) (f b)=MV.beq a b
def known (c:Cx):MV->Prop
 |.str n=>n<c.sx.length|_=>True
def Nk (f:MV->Prop)(c:Cx):MV->Prop
 |.tup vs=>∀v∈vs,f v|v=>known c v
theorem VR.known {v:MV}{x:Value}(r:VR c T v x):Mine.known c v:=by
 cases v<;>first|trivial|skip
 erw[vf r λy t e _=>((Fa e).1)]
theorem Ee.mem {vs:List MV}{xs:List Value}(r:Ee c T vs xs):∀v∈vs,∃x,VR c T v x:=by intro v a;erw[eE (Lb a) λi b=>?_,Sd (r.get b) λx _ h=>⟨x,h⟩]
theorem VR.Nk {f:MV->Prop}(h:∀v x,VR c T v x->f v){v:MV}{x:Value}(r:VR c T v x):Mine.Nk f c v:=by
 cases v with
 |tup j=>
  erw[we r λa b n i=>(Fi x i λk e=>?_)];intro v g;obtain⟨y,d⟩:=e.mem v g;erw[h v y d]
 |_=>exact r.known
def Ji (c:Cx):MV->Prop:=Nk (Nk (known c) c) c
theorem VR.Ji {v:MV}{x:Value}(r:VR c T v x):Mine.Ji c v:=VR.Nk (λ_ _ h=>VR.Nk (λ_ _ h=>h.known) h) r
set_option tactic.hygienic true in
theorem ij0 (bs:Bs c mg mb):Ij aj (fD c) (known c):=by
 intro a b i h g f;cases a<;>first|(exact ft i;done)|skip
 all_goals cases b<;>first|(exact ft h;done)|rfl|skip
 rename_i n m;show(c.sx.getD n _==c.sx.getD m _)=(n==m);haveI d:n<c.sx.length:=g;haveI hm:m<c.sx.length:=f;refine Er Ga ?_;refine Er Ga ?_;refine Er (wa d) ?_;refine Er (wa hm) ?_;simp only[Option.getD_some];by_cases e:n=m
 ·subst e;simp
 ·refine Er (Yc e) ?_;rw[beq_eq_false_iff_ne];intro q;erw[e ((Vc d bs.4).mp (by refine Er (wa d) ?_;refine Er (wa hm) ?_;exact Er q rfl))]
theorem fR {g:MV->Bool}{f:MV->PyData}{ok:MV->Prop}(R:Ij g f ok):∀(vs ws:List MV),vs.all g=true->ws.all g=true->(∀v∈vs,ok v)->(∀v∈ws,ok v)->PyData.eqvAll (vs.map f) (ws.map f)=MV.wu vs ws
 |[],[],_,_,_,_=>rfl|[],_::_,_,_,_,_=>rfl|_::_,[],_,_,_,_=>rfl|v::r,w::t,c,b,d,h4=>by
  simp only[all_cons,Da]at c b;show(PyData.eqv (f v) (f w)&&PyData.eqvAll (r.map f) (t.map f))=(MV.beq v w&&MV.wu r t);erw[Er (R v w c.1 b.1 (d v (.head _)) (h4 w (.head _))) (Er (fR R r t c.2 b.2 (λx a=>d x (.tail _ a)) λx a=>h4 x (.tail _ a)) rfl)]
theorem Aq {f:MV->PyData}{g:MV->Bool}{ok:MV->Prop}{a:MV}(h:∀vs,a≠.tup vs):gD f c a=fD c a/\Zj g a=aj a/\(Mine.Nk ok c a->known c a):=by cases a<;>first|exact qd rfl (h _)|exact⟨rfl,rfl,λx=>x⟩
theorem ijT {g:MV->Bool}{f:MV->PyData}{ok:MV->Prop}(bs:Bs c mg mb)(R:Ij g f ok):Ij (Zj g) (gD f c) (Mine.Nk ok c):=by
 intro a b l k p o;by_cases j:∃h,a=.tup h<;>by_cases i:∃h,b=.tup h
 ·obtain⟨h,rfl⟩:=j;obtain⟨d,rfl⟩:=i;erw[fR R h d l k p o]
 ·obtain⟨h,rfl⟩:=j;obtain⟨n,m,_⟩:=Aq (c:=c) (f:=f) (g:=g) (ok:=ok) λd e=>i ⟨d,e⟩;refine Er n ?_;rw[m]at k;cases b<;>first|rfl|(exact ft k;done)|exact qd rfl (λe=>i ⟨_,e⟩)
 ·obtain⟨d,rfl⟩:=i;obtain⟨n,m,_⟩:=Aq (c:=c) (f:=f) (g:=g) (ok:=ok) λd e=>j ⟨d,e⟩;refine Er n ?_;rw[m]at l;cases a<;>first|rfl|(exact ft l;done)|exact qd rfl (λe=>j ⟨_,e⟩)
 ·obtain⟨n,m,q⟩:=Aq (c:=c) (f:=f) (g:=g) (ok:=ok) λd e=>j ⟨d,e⟩;obtain⟨f1,f2,f3⟩:=Aq (c:=c) (f:=f) (g:=g) (ok:=ok) λd e=>i ⟨d,e⟩;refine Er n (Er f1 ?_);rw[m]at l;rw[f2]at k;erw[ij0 bs _ _ l k (q p) (f3 o)]
theorem M_ (bs:Bs c mg mb):Ij xh (dat c) (Ji c):=ijT bs (ijT bs (ij0 bs))
theorem tG (v:MV):(fD c v).depth=0:=by cases v<;>rfl
theorem Aw {f:MV->PyData}{k:Nat}(h:∀v,(f v).depth<=k):∀vs:List MV,PyData.depthAll (vs.map f)<=k:=by
 intro l
 induction l with
 |nil=>
  erw[Ta _]
 |cons v r a=>
  rw[yb,PyData.depthAll];exact Nat.max_le.mpr ⟨h v,a⟩
theorem uG {f:MV->PyData}{k:Nat}(h:∀v,(f v).depth<=k)(v:MV):(gD f c v).depth<=k+1:=by
 by_cases b:∃a,v=.tup a
 ·erw[Xh v b λa=>(Wa (Aw h a))]
 ·rw[(Aq (c:=c) (f:=f) (g:=aj) (ok:=known c) λd e=>b ⟨d,e⟩).1,tG];exact ee 0xe0bf3 rfl
theorem Hu (v:MV):(dat c v).depth<=2:=uG (λv=>uG (λv=>Ob (tG v)) v) v
theorem Lj {v:MV}(h:isBool v=true):∃b,v=.bool b:=by cases v<;>first|(exact ft h;done)|exact⟨_,rfl⟩
theorem xl (bs:Bs c mg mb){A:Around}{s:Shared}{v w:MV}{x y:Value}(k:∀a o,T a=some o->s.heap.get? a=some o)(d:xh v=true)(b:xh w=true)(rv:VR c T v x)(e:VR c T w y)(h:A.units+10<cLine):SeqAt.EqAt A s x y (MV.beq v w):=by erw[Sd (eR bs v x s.heap k d rv) λm g j=>(Sd (eR bs w y s.heap k b e) λl f i=>(Es (M_ bs v w d b rv.Ji e.Ji) (SeqAt.eqAt_reads _ _ A s _ _ _ _ g f j i (by haveI:=Hu (c:=c) v;haveI:min (dat c v).depth (dat c w).depth<=2:=Ba (qc _ _) this;exact se 0x1e20bb321c2101ea1c0bb10 rfl h this))))]
theorem Bw (bs:Bs c mg mb){A:Around}{s:Shared}{v w:MV}{x y:Value}{r:Bool}(k:∀a o,T a=some o->s.heap.get? a=some o)(e:eqv v w=some r)(rv:VR c T v x)(d:VR c T w y)(f:A.units+10<cLine):SeqAt.EqAt A s x y r:=by
 unfold eqv at e;split at e
 ·obtain rfl:=(oa e);rename_i h;simp only[Rb,Da]at h;rcases h with h|h
  ·erw[xl bs k h.1 h.2 rv d f]
  ·obtain⟨a,rfl⟩:=Lj h.1;obtain⟨b,rfl⟩:=Lj h.2;obtain rfl:=rv;obtain rfl:=d;erw[SeqAt.EqAt.bool_bool a b]
 ·erw[nn e]
end
section
open W PyProof.Rows
variable {H H' : MH} {T T' F : Tb} {Q : MV → MH → Prop} {E : Value → Shared → Prop} {c : Cx} {mg mb : Str → Option Value} {s : Shared} {nm : List Str} {n : Nat} {A : Around} {P : Pg} {sc : Scope} {env : Env} {L : List MV}
theorem Ee.aax (r:Ee c T vs xs):∀x∈xs,∃v∈vs,VR c T v x:=by
 intro x a
 induction xs generalizing vs with
 |nil=>cases a|cons y t b=>
  cases vs with
  |nil=>exact r.elim|cons v w=>
   rcases xa a with rfl|a
   ·exact⟨v,.head _,r.1⟩
   ·obtain⟨u,d,h⟩:=b r.2 a;exact⟨u,.tail _ d,h⟩
theorem Ee.aay (r:Ee c T vs xs):∀v∈vs,∃x∈xs,VR c T v x:=by intro v a;erw[eE (Lb a) λi b=>?_,Sd (r.get b) λx e h=>⟨x,Eb e,h⟩]
open Classical in
def iR (c:Cx)(T:Tb)(vs:List MV)(x:MV)(y:Value):Bool:=decide (∃v∈vs,VR c T v y/\MV.beq v x=true)
theorem vG (e:inv x vs=some r):r=vs.any (λy=>MV.beq y x)/\∀v∈vs,eqv v x=some (MV.beq v x):=by
 unfold inv at e;split at e
 ·rename_i h;obtain rfl:=(oa e);refine⟨rfl,λv a=>?_⟩;unfold eqv;rw[Ec];simp only[Rb,Da,all_eq_true]at h⊢;rcases h with h|h
  ·erw[.inl ⟨h.2 v a,h.1⟩]
  ·erw[.inr ⟨h.2 v a,h.1⟩]
 ·erw[nn e]
open Classical in
theorem Iu (bs:Bs c mg mb){x:MV}{vs:List MV}{j:Value}{items:Array Value}{r:Bool}(e:inv x vs=some r)(k:∀a o,T a=some o->s.heap.get? a=some o)(m:Ee c T vs items.toList)(l:VR c T x j)(p:A.units+10<cLine):(∀y,y∈items->SeqAt.EqAt A s y j (iR c T vs x y))/\items.any (iR c T vs x)=r:=by
 erw[rF r (vG e) λt=>?_];constructor
 ·intro y i;by_cases q:∃v∈vs,VR c T v y/\MV.beq v x=true
  ·erw[Xf q λv d f g=>?_];haveI:iR c T vs x y=true:=Pb ⟨v,d,f,g⟩;rw[this,<-g];erw[Bw bs k (t v d) f l p]
  ·haveI:iR c T vs x y=false:=decide_eq_false q;erw[Sd (m.aax y (Array.mem_toList_iff.mpr i)) λv d f=>?_];have g:MV.beq v x=false:=by
    cases b:MV.beq v x with
    |false=>rfl|true=>exact qd ⟨v,d,f,b⟩ q
   rw[this,<-g];erw[Bw bs k (t v d) f l p]
 ·rw[Bool.eq_iff_iff,<-Array.any_toList,List.any_eq_true,List.any_eq_true];constructor
  ·intro w;erw[Sd w λy _ h=>(Xf (Sb h) λv d _ g=>⟨v,d,g⟩)]
  ·intro u;erw[Sd u λv d h=>(Sd (m.aay v d) λy i f=>⟨y,i,Pb ⟨v,d,f,h⟩⟩)]
theorem ug {d:Type}{M:Model}{A:Around}{p:Prop}[Decidable p]{a b:Sem d}{Q:d->Shared->Prop}{E:Value->Shared->Prop}{s:Shared}(h:¬p)(k:wpAny M A b Q E s):wpAny M A (if p then a else b) Q E s:=by rw[Dc h];exact k
theorem Ju {d:Type}{M:Model}{A:Around}{p:Prop}[Decidable p]{a b:Sem d}{Q:d->Shared->Prop}{E:Value->Shared->Prop}{s:Shared}(h:p)(k:wpAny M A a Q E s):wpAny M A (if p then a else b) Q E s:=by rw[Ec h];exact k
theorem Fq {d:Type}{M:Model}{A:Around}{p:Prop}[Decidable p]{a b:Sem d}{Q:d->Shared->Prop}{E:Value->Shared->Prop}{s:Shared}(h:p->wpAny M A a Q E s)(k:¬p->wpAny M A b Q E s):wpAny M A (if p then a else b) Q E s:=by
 split
 ·erw[h ‹_›]
 ·erw[k ‹_›]
theorem wG {C:MV->Prop}(hi:∀i,C (.int i))(a:∀n,C (.str n))(k:MV)(h:qo k=true):C k:=by cases k<;>first|exact hi _|exact a _|exact ft h
theorem jD {C:MV->Prop}(hi:∀i,C (.int i))(b:∀n,C (.str n))(a:∀vs,vs.all qo=true->C (.tup vs))(k:MV)(h:k.key=true):C k:=by cases k<;>first|exact hi _|exact b _|exact a _ h|exact ft h
theorem xG {C:MV->Value->Prop}{k:MV}{x:Value}(g:k.key=true)(r:VR c T k x)(hi:∀i t,C (.int i) (.int i t))(f:∀n y t,c.sx[n]?=some y->C (.str n) (.str y t))(d:∀vs a items n,vs.all qo=true->T a=some (Yh items n)->Ee c T vs items.toList->C (.tup vs) (.ref a)):C k x:=
 jD (C:=λk=>∀x,VR c T k x->C k x) (λi x r=>r.elim λt e=>e▸hi i t) (λn x r=>r.elim λy r=>r.elim λt r=>r.2▸f n y t r.1) (λvs h x r=>r.elim λa r=>r.elim λb r=>r.elim λn r=>r.1▸d vs a b n h r.2.1 r.2.2) k g x r
theorem i4 {C:MV->FK->Prop}(hi:∀i,C (.int i) (.i i))(a:∀n y,c.sx[n]?=some y->C (.str n) (.s y)){k:MV}{f:FK}(e:fk c k=some f):C k f:=by
 cases k with
 |int i=>exact oa e▸hi i|str n=>exact(Ia e).elim λy h=>h.2▸a n y h.1|_=>exact nn e
theorem Us {k:MV}(h:k.key=true):xh k=true:=
 jD (C:=λk=>xh k=true) (λ_=>rfl) (λ_=>rfl) (λb h=>all_eq_true.mpr λv a=>wG (C:=λv=>Zj aj v=true) (λ_=>rfl) (λ_=>rfl) v (Ja h v a)) k h
theorem tB {f:FK}(e:fk c k=some f)(r:VR c T k x):f.is x=true:=
 i4 (C:=λk f=>VR c T k x->f.is x=true) (λi r=>r.elim λt e=>e▸Pa i) (λn y h r=>r.elim λz r=>r.elim λt r=>by rw[r.2,oa (h.symm.trans r.1)];exact Pa z) e r
theorem yo:∀{vs:List MV}{xs:List Value},vs.all qo=true->Ee c T vs xs->ItemsAre (Nf c.prog c.w) (vs.filterMap (fk c)) xs:=by
 intro l
 induction l with
 |nil=>
  intro a d h;cases a with
  |nil=>exact .nil|cons _ _=>exact h.elim
 |cons v r b=>
  intro a h k;cases a with
  |nil=>exact k.elim|cons x t=>
   rw[all_cons,Da]at h;have e:∃f,fk c v=some f:=wG (C:=λv=>VR c T v x->∃f,fk c v=some f) (λi zz=>⟨.i i,rfl⟩) (λn r=>r.elim λy r=>r.elim λzz r=>⟨.s y,Fc (Option.map FK.s) r.1⟩) v h.1 k.1;erw[eE e λf e=>?_];rw[List.filterMap_cons,e];erw[.cons (tB e k.1) (b h.2 k.2)]
theorem uB (i:(MV.tup vs).key=true)(r:VR c T (.tup vs) (.ref a))(k:∀a o,T a=some o->h.get? a=some o):IsTupleKey (Nf c.prog c.w) h (vs.filterMap (fk c)) a:=by erw[We r λj b n e d=>(eA d λg f=>?_)];obtain rfl:=(Value.ref.inj e);exact⟨_,b,n,k _ _ g,rfl,rfl,yo i f⟩
theorem Gq (e:c.sx[n]?=some y):fk c (.str n)=some (.s y):=Fc (Option.map FK.s) e
theorem Op {f:FK}(e:fk c k=some f):hashOf c k=(Nf c.prog c.w).hash f:=
 i4 (C:=λk f=>hashOf c k=(Nf c.prog c.w).hash f) (λi=>rfl) (λn y e=>by
  show(match fk c (.str n)with|some f=>(Nf c.prog c.w).hash f|none=>0)=_
  rw[Gq e]) e
theorem vB {k:MV}{x:Value}{Q:Int->Shared->Prop}(st:St c H T F s)(l:k.key=true)(r:VR c T k x)(f:A.units+10<cLine)(h:∀t,Q (hashOf c k) {s with toks:=t}):wpAny (ako c) A (pyHash x) Q E s:=
 xG (C:=λk x=>(∀t,Q (hashOf c k) {s with toks:=t})->wpAny (ako c) A (pyHash x) Q E s) l r (λi t h=>(Nf c.prog c.w).pyHash (k:=.i i) (tB (c:=c) (T:=T) (k:=.int i) rfl ⟨t,rfl⟩) (h _)) (λn y t e h=>(Nf c.prog c.w).pyHash (k:=.s y) (Pa y) (by have:=h (s.toks+1);rw[Op (Gq e)]at this;exact this)) (λm a b n d g j h=>wpAny_pyHash_tuple (je 0x1e0b31ea1c0bb10 rfl f) (uB d ⟨a,b,n,rfl,g,j⟩ st.2) (h _)) h
theorem Dw {k:MV}{x:Value}{Q:Bool->Shared->Prop}(st:St c H T F s)(j:k.key=true)(r:VR c T k x)(h:Q true s):wpAny (ako c) A (eqIsQuiet 8 x) Q E s:=
 xG (C:=λk x=>wpAny (ako c) A (eqIsQuiet 8 x) Q E s) j r (λi t=>wpAny_of_eq (eqIsQuiet_byValue 8 rfl) h) (λn y t e=>wpAny_of_eq (eqIsQuiet_byValue 8 rfl) h)
  λl a b n d f g=>wpAny_eqIsQuiet_tuple (uB d ⟨a,b,n,rfl,f,g⟩ st.2) h
theorem yG {k:MV}{x:Value}{a:List Value}{Q:Bool->Shared->Prop}(st:St c H T F s)(i:k.key=true)(r:VR c T k x)(p:∀v∈a,∃d:MV,d.key=true/\VR c T d v)(h:Q false s):wpAny (ako c) A (tableMayTell x a) Q E s:=by
 unfold tableMayTell;split
 ·erw[yc h]
 ·erw[xc (Dw st i r ?_)];simp only[Bool.not_true,Bool.false_eq_true,if_false];erw[xc (wpAny_forIn_list _ (λb r e=>e=s/\r=(none,())/\∀v∈b,∃d:MV,d.key=true/\VR c T d v) _ ?_ ?_ _ _ ⟨rfl,rfl,p⟩)]
  ·intro x b r e o;obtain⟨rfl,rfl,f⟩:=o;erw[Sd (f x List.mem_cons_self) λd l j=>(xc (Dw st l j ?_))];simp only[Bool.not_true,Bool.false_eq_true,if_false];erw[yc ⟨rfl,rfl,λv g=>f v (List.mem_cons_of_mem _ g)⟩]
  ·intro r e m;obtain⟨rfl,rfl,_⟩:=m;erw[yc h]
theorem ah.at (h:ah c T xd es):∀{i:Nat}{q:MV×MV},xd[i]?=some q->∃e,es[i]?=some e/\e.hash=hashOf c q.1/\VR c T q.1 e.key/\VR c T q.2 e.val/\q.1.key=true:=by
 induction h with
 |nil=>intro i q e;simp at e
 |cons a b d _ f=>
  intro i q e;cases i with
  |zero=>simp only[List.getElem?_cons_zero,Option.some.injEq]at e;subst e;exact⟨_,rfl,rfl,a,b,d⟩
  |succ i=>simp only[List.getElem?_cons_succ]at e;obtain⟨j,g,r⟩:=f e;exact⟨j,by simpa using g,r⟩
theorem ah.at' {a:List (MV×MV)}{g:List DictEntry}(h:ah c T a g){i:Nat}{e:DictEntry}(d:g[i]?=some e):∃q,a[i]?=some q/\e.hash=hashOf c q.1/\VR c T q.1 e.key/\VR c T q.2 e.val/\q.1.key=true:=by have b:i<a.length:=Er h.length ((Fa d).1);erw[Sd (h.at (wa b)) λj f r=>?_];rw[d]at f;refine Er ((oa f)) ?_;exact⟨_,wa b,r⟩
theorem az (bs:Bs c mg mb)(st:St c H T F s){k a:MV}{x b:Value}{Q:Bool->Shared->Prop}(i:k.key=true)(g:a.key=true)(e:VR c T k x)(d:VR c T a b)(f:A.units+10<cLine)(h:Q (MV.beq k a) s):wpAny (ako c) A (eqBool x b) Q E s:=xl bs st.2 (Us i) (Us g) e d f _ _ _ _ h
theorem zG (bs:Bs c mg mb){t:Tok}(h:k.key=true)(r:VR c T k x)(f:VR c T (.str n) (.str y t))(g:isExactStrKey x=true):x.isStr y=MV.beq k (.str n):=by
 erw[xG (C:=λk x=>isExactStrKey x=true->x.isStr y=MV.beq k (.str n)) h r (λi t e=>nomatch e) (λm z u b zz=>?_) (λo a v n w B D e=>nomatch e) g,vf f λl p d q=>?_];cases q;show(z==y)=(m==n);haveI hm:=(Fa b).1;by_cases e:m=n
 ·subst e;refine Er (oa (b.symm.trans d)) ?_;rw[Pa,Pa]
 ·erw[Er (Yc e) (Yc λj=>e ((Vc hm bs.4).mp (b.trans ?_))),Er j d.symm]
@[elab_as_elim] theorem j4 {C:Value->Prop}{k:MV}{x:Value}(f:k.key=true)(r:VR c T k x)(hi:∀i t,C (.int i t))(d:∀y t,x=.str y t->C (.str y t))(b:∀a,x=.ref a->C (.ref a)):C x:=
 xG (C:=λzz x=>(∀y t,x=.str y t->C (.str y t))->(∀a,x=.ref a->C (.ref a))->C x) f r (λi t zz zz=>hi i t) (λn y t e h zz=>h y t rfl) (λg a j n l b m zz h=>h a rfl) d b
theorem AG {x:Value}(G:k.key=true)(o:f.key=true)(r:VR c T k x)(p:VR c T f x):hashOf c k=hashOf c f:=
 xG (C:=λk x=>VR c T f x->hashOf c k=hashOf c f) G r (λi t=>jD (C:=λf=>VR c T f (.int i t)->hashOf c (.int i)=hashOf c f) (λj r=>r.elim λu e=>by cases e;rfl) (λn r=>r.elim λy r=>r.elim λu r=>nomatch r.2) (λg h r=>r.elim λa r=>r.elim λb r=>r.elim λd r=>nomatch r.1) f o) (λn y t e=>jD (C:=λf=>VR c T f (.str y t)->hashOf c (.str n)=hashOf c f) (λj r=>r.elim λu e=>nomatch e) (λm r=>r.elim λz r=>r.elim λu r=>by
   obtain⟨J,q⟩:=r
   cases q;exact(Op (Gq e)).trans (Op (Gq J)).symm) (λg h r=>r.elim λa r=>r.elim λb r=>r.elim λd r=>nomatch r.1) f o)
  (λg a M n v B D=>jD (C:=λf=>VR c T f (.ref a)->hashOf c (.tup g)=hashOf c f) (λj r=>r.elim λu e=>nomatch e) (λm r=>r.elim λz r=>r.elim λu r=>nomatch r.2) (λK h r=>r.elim λb r=>r.elim λN r=>r.elim λd r=>by
   obtain⟨e,l,I⟩:=r;obtain rfl:=(Value.ref.inj e);have l:=B▸l;cases l
   exact Fc (tupleKeyHash (Nf c.prog c.w)) ((yo v D).inj (yo h I))) f o) p
def Kr (xd:List (MV×MV))(k:MV)(j:Nat):Prop:=∃q,xd[j]?=some q/\q.1=k
theorem Kr.uniq (d:(xd.map (·.1)).Nodup)(hi:Kr xd k i)(f:Kr xd k j):i=j:=by
 erw[Sd hi λq l m=>?_];subst m;erw[Sd f λb h e=>?_];haveI a:(xd.map (·.1))[i]?=some q.1:=by refine Er za ?_;exact Er l rfl
 haveI g:(xd.map (·.1))[j]?=some b.1:=by refine Er za ?_;exact Er h rfl
 exact(Vc (Fa a).1 d).mp (by simp only[a,g,e])
theorem Kr.some (f:(xd.map (·.1)).Nodup)(h:Kr xd k j):(xd.findIdx? λq=>MV.beq q.1 k)=some j:=by erw[Sd (id h) λq g e=>?_];obtain⟨a,l⟩:=Fa g;rw[List.findIdx?_eq_some_iff_getElem];erw[⟨a,by refine Er l ?_;refine Er e ?_;exact MV.beq_refl k,λi d b=>?_⟩,Kc d (Kr.uniq f ⟨_,wa (ya d a),MV.beq_eq _ _ b⟩ h)]
theorem Kr.none (h:∀j,¬Kr xd k j):(xd.findIdx? λq=>MV.beq q.1 k)=none:=by
 rw[List.findIdx?_eq_none_iff];intro q a;erw[eE (Lb a) λj d=>?_];cases b:MV.beq q.1 k with
 |false=>rfl|true=>exact qd ⟨q,d,MV.beq_eq _ _ b⟩ (h j)
inductive N_ (c:Cx)(T:Tb)(xd:List (MV×MV))(es:Array DictEntry)(k:MV)(hs:Int)(pl:List Nat):Prop
 |mk (nd:pl.Nodup) (all:∀j,Kr xd k j->j∈pl) (at':∀z∈pl,∃e q,es[z]?=some e/\xd[z]?=some q/\(e.hash==hs)=true/\VR c T q.1 e.key/\q.1.key=true)
theorem bz {k:MV}(d:ah c T xd es.toList):N_ c T xd es k (hashOf c k) (placesWithHash es.size (λi=>es[i]?.map (·.hash)) (hashOf c k)):=by
 refine⟨List.nodup_range.filter _,λj ⟨q,g,e⟩=>?_,λz l=>?_⟩
 ·erw[Xf (d.at g) λt b o zz=>?_];rw[Array.getElem?_toList]at b;erw[mem_filter.mpr ⟨Xa (Array.getElem?_eq_some_iff.mp b).1,by show(Option.map _ es[j]?==_)=true;exact Er b (Er (Option.map_some ..) (Er o (Er e (Pa _))))⟩]
 ·obtain⟨p,a⟩:=mem_filter.mp l;haveI hex:=Array.getElem?_eq_getElem (xs:=es) (Mb p);erw[Yj (d.at' (by rw[Array.getElem?_toList];exact hex)) λq m zz h r=>?_,eA r λzz f=>?_,haveI a:(Option.map (·.hash) es[z]?==some (hashOf c k))=true:=a;?_,haveI a:=hex▸a;?_,⟨_,q,hex,m,a,h,f⟩]
theorem scan_plain (u:(xd.map (·.1)).Nodup)(p:N_ c T xd es k hs pl)(v:∀z (R:ForInStep (Option (Option Nat)×Unit)->Shared->Prop),z∈pl->(¬Kr xd k z->R (.yield (none,())) s)->(Kr xd k z->R (.done (some (some z),())) s)->wpAny (ako c) A (body z (none,())) R E s)(w:∀j,(xd.findIdx? λq=>MV.beq q.1 k)=some j->R (some (some j),()) s) (x:(xd.findIdx? λq=>MV.beq q.1 k)=none->R (none,()) s):wpAny (ako c) A (forIn pl (none,()) body) R E s:=by
 erw[wpAny_forIn_list _ (λa b g=>g=s/\b=(none,())/\(∀z∈a,z∈pl)/\∀j,Kr xd k j->j∈a) _ ?_ ?_ _ _ ⟨rfl,rfl,λzz h=>h,p.2⟩]
 ·intro z a b g B;obtain⟨rfl,rfl,o,i⟩:=B;erw[v z _ (o z (.head _)) (λl=>?_) (λf=>w z (f.some u)),⟨rfl,rfl,λy t=>o y (.tail _ t),λj d=>(xa (i j d)).resolve_left λe=>l (e▸d)⟩]
 ·intro b g r;erw[fj r λm C zz i=>(Er m (Er C (x (Kr.none λj d=>nomatch i j d))))]
theorem cz (o:(xd.map (·.1)).Nodup)(p:N_ c T xd es k hs pl)(w:∀z a (R:ForInStep (Option (Option Nat)×Option Nat)->Shared->Prop),z∈pl->(¬Kr xd k z->R (.yield (none,a)) s)->(Kr xd k z->R (.yield (none,some z)) s)->(Kr xd k z->∀h,R (.done (some (some z),h)) s)->(Kr xd k z->a=none)->wpAny (ako c) A (body z (none,a)) R E s)(x:∀j,(xd.findIdx? λq=>MV.beq q.1 k)=some j->∀h,R (some (some j),h) s) (B:∀h,(xd.findIdx? λq=>MV.beq q.1 k)=h->R (none,h) s):wpAny (ako c) A (forIn pl (none,none) body) R E s:=by
 refine wpAny_forIn_list _ (λd b m=>m=s/\∃a,b=(none,a)/\(∀z∈d,z∈pl)/\d.Nodup/\((a=none/\∀j,Kr xd k j->j∈d)\/∃j,a=some j/\Kr xd k j/\j∉d)) _ ?_ ?_ _ _ ⟨rfl,none,rfl,λzz h=>h,p.1,.inl ⟨rfl,p.2⟩⟩
 ·intro z d b m C;obtain⟨rfl,a,rfl,t,l,i⟩:=C;haveI l:=jd l;haveI u:∀y∈d,y∈pl:=λy v=>t y (.tail _ v);erw[w z a _ (t z (.head _)) (λr=>⟨rfl,a,rfl,u,l.2,?_⟩) (λf=>⟨rfl,some z,rfl,u,l.2,.inr ⟨z,rfl,f,l.1⟩⟩) (λf h=>x z (f.some o) h) λf=>?_]
  ·rcases i with⟨e,i⟩|⟨j,e,g,hm⟩
   ·erw[.inl ⟨e,λj g=>(xa (i j g)).resolve_left λe=>r (e▸g)⟩]
   ·erw[.inr ⟨j,e,g,λh=>hm (.tail _ h)⟩]
  ·rcases i with⟨e,-⟩|⟨j,-,g,hm⟩
   ·erw[e]
   ·erw[qd (f.uniq o g▸List.mem_cons_self) hm]
 ·intro b m D;obtain⟨rfl,a,rfl,-,-,i⟩:=D;erw[B a ?_];rcases i with⟨rfl,i⟩|⟨j,rfl,g,-⟩
  ·erw[Kr.none λj g=>nomatch i j g]
  ·erw[g.some o]
theorem EG (bs:Bs c mg mb)(st:St c H T F s){Q:Option Nat->Shared->Prop}(i:s.heap.get? p=some (Ah es ep))(y:k.key=true)(r:VR c T k x)(v:A.units+10<cLine)(w:(xd.map (·.1)).Nodup)(pc:N_ c T xd es k hs pl)(h:Q (xd.findIdx? λq=>MV.beq q.1 k) s):wpAny (ako c) A (dictWalkPlain p x hs es pl) Q E s:=by
 erw[xc (scan_plain w pc (λz R u C t=>?_) (λj e=>yc (e▸h)) λe=>yc (e▸h)),hide λG l=>(ff (pc.3 z u) λe q a f d=>(pj d λB o m=>(l ?_)))];clear l;erw[Er a ?_];dsimp only;erw[Er (Ec B) (xc (wpAny_dictEpoch i rfl (xc (az bs st m y o r v (xc (wpAny_dictEpoch i rfl ?_)))))),ug (by rw[bne_self_eq_false];exact Na) ?_];cases b:MV.beq q.1 k with
 |true=>exact xc (wpAny_rule (yc (t ⟨q,f,MV.beq_eq _ _ b⟩)))|false=>
  erw[xc (wpAny_rule (yc (C λ⟨D,g,e⟩=>?_)))];rw[f]at g;obtain rfl:=(oa g);rw[e,MV.beq_refl]at b;exact(nomatch b)
theorem FG (bs:Bs c mg mb)(st:St c H T F s){Q:Option Nat->Shared->Prop}(u:s.heap.get? p=some (Ah es ep))(r:VR c T (.str m) (.str y t))(C:A.units+10<cLine)(v:ah c T xd es.toList)(l:(es.all λe=>isExactStrKey e.key)=true) (h:Q (xd.findIdx? λq=>MV.beq q.1 (.str m)) s):wpAny (ako c) A (foundByValue p (.str y t) es y) Q E s:=by
 have b:es.size=xd.length:=by refine Er v.length ?_;simp
 have at':∀i (a:i<es.size)(d:i<xd.length),VR c T xd[i].1 es[i].key/\xd[i].1.key=true:=λi a d=>by
  erw[Yj (v.at' (i:=i) (e:=es[i]) (by refine Er Array.getElem?_toList ?_;exact Array.getElem?_eq_getElem a)) λq o zz z B=>?_,eA B λzz x=>?_];rw[wa d]at o;refine Er ((oa o)) ?_;exact⟨z,x⟩
 have ek:∀i (a:i<es.size)(d:i<xd.length),es[i].key.isStr y=MV.beq xd[i].1 (.str m):=λi a d=>
  zG bs (at' i a d).2 (at' i a d).1 r (by rw[Array.all_eq_true]at l;exact l i a)
 haveI e:(es.findIdx? λe=>e.key.isStr y)=(xd.findIdx? λq=>MV.beq q.1 (.str m)):=by
  cases hf:(xd.findIdx? λq=>MV.beq q.1 (.str m))with
  |none=>
   rw[Array.findIdx?_eq_none_iff];intro e g;obtain⟨i,a,rfl⟩:=Array.mem_iff_getElem.mp g;erw[Er (ek i a (b▸a)) ?_];rw[List.findIdx?_eq_none_iff]at hf;erw[hf _ (List.getElem_mem _)]
  |some i=>
   obtain⟨a,k,w⟩:=List.findIdx?_eq_some_iff_getElem.mp hf;rw[Array.findIdx?_eq_some_iff_getElem];exact⟨b▸a,by refine Er (ek i (b▸a) a) ?_;exact k,λj f=>by exact Er (ek j (b▸ya f a) (ya f a)) (w j f)⟩
 unfold foundByValue;erw[Er e ?_];cases hf:(xd.findIdx? λq=>MV.beq q.1 (.str m))with
 |none=>haveI h:=hf▸h;exact yc h
 |some i=>
  haveI h:=hf▸h;obtain⟨a,k,w⟩:=List.findIdx?_eq_some_iff_getElem.mp hf;have d:i<es.size:=b▸a;dsimp only;erw[Er (Array.getElem?_eq_getElem d) ?_,xc (wpAny_dictEpoch u rfl (xc (az bs st (at' i d a).2 rfl (at' i d a).1 r C (xc (wpAny_dictEpoch u rfl ?_))))),ug (by rw[bne_self_eq_false];exact Na) (Er k (xc (wpAny_rule (yc h))))]
theorem GG {p:Prop}[Decidable p]{b:Type}{G:Bool->Sem b}{Q:b->Shared->Prop}{x:Value}{a:List Value}(d:∀Q:Bool->Shared->Prop,Q false s->wpAny (ako c) A (tableMayTell x a) Q E s)(h:wpAny (ako c) A (G false) Q E s):wpAny (ako c) A (if p then(pure false>>=λt=>G t)else(tableMayTell x a>>=λt=>G t)) Q E s:=by
 split
 ·erw[xc (yc h)]
 ·erw[xc (d _ h)]
theorem HG (bs:Bs c mg mb)(st:St c H T F s){Q:Option Nat->Shared->Prop}(i:s.heap.get? p=some (Ah es ep))(l:k.key=true)(r:VR c T k (.str y t))(g:A.units+10<cLine)(o:ah c T xd es.toList)(f:(es.all λe=>isExactStrKey e.key)=true) (h:Q (xd.findIdx? λq=>MV.beq q.1 k) s):wpAny (ako c) A (foundByValue p (.str y t) es y) Q E s:=
 jD (C:=λk=>VR c T k (.str y t)->Q (xd.findIdx? λq=>MV.beq q.1 k) s->wpAny (ako c) A (foundByValue p (.str y t) es y) Q E s) (λj r=>r.elim λu e=>nomatch e) (λm r h=>FG bs st i r g o f h) (λv h r=>r.elim λa r=>r.elim λb r=>r.elim λd r=>nomatch r.1) k l r h
theorem IG (bs:Bs c mg mb)(st:St c H T F s){Q:Option Nat->Shared->Prop}(hp:H p=some (.dict xd))(l:k.key=true)(r:VR c T k x)(I:A.units+10<cLine){G:Int}(N:hashOf c k=G)(h:Q (xd.findIdx? λq=>MV.beq q.1 k) s):wpAny (ako c) A (dictFind p x G) Q E s:=by
 erw[hide λZz C=>(ff (st.UM hp) λf ep w O W=>(eA W λzz Y=>(C ?_)))];clear C;subst N;have pc:=bz (k:=k) O;have Ku:∀v∈(placesWithHash f.size (λi=>f[i]?.map (·.hash)) (hashOf c k)).filterMap (λi=>f[i]?.map (·.key)),∃X:MV,X.key=true/\VR c T X v:=by
  intro v hv;erw[Sd (List.mem_filterMap.mp hv) λi M e=>(ff (pc.3 i M) λzz q d zz m4=>(pj m4 λzz o u=>?_))];haveI e:=d▸e;refine Es ((oa e)) ?_;exact⟨q.1,u,o⟩
 have V:¬(f.any λe=>e.key==x&&e.hash !=hashOf c k)=true:=by
  erw[Er (propext Array.any_eq_true) ?_];intro Kk;obtain⟨i,M,S⟩:=Kk;simp only[Da,Zc,bne_iff_ne,ne_eq]at S;erw[Yj (O.at' (i:=i) (e:=f[i]) (by refine Er (Array.getElem?_toList ..) ?_;exact Array.getElem?_eq_getElem M)) λq K B o n4=>?_,eA n4 λzz u=>?_];rw[S.1]at o;erw[S.2 (Er B (AG u l o r))]
 have step:∀z (D:z∈placesWithHash f.size (λi=>f[i]?.map (·.hash)) (hashOf c k)),∃e,f[z]?=some e/\(e.hash==hashOf c k)=true/\∃b,(b=true->Kr xd k z)/\(b=false->¬Kr xd k z)/\∀Q:Bool->Shared->Prop,Q b s->wpAny (ako c) A (eqBool e.key x) Q E s:=λz D=>by
  erw[hide λZz C=>?_];obtain⟨e,q,d,K,B,o,u⟩:=pc.3 z D;erw[C ?_];clear C;refine⟨e,d,B,MV.beq q.1 k,λb=>⟨q,K,MV.beq_eq _ _ b⟩,λb ⟨q',g,e⟩=>?_,λQ h=>az bs st u l o r I h⟩;rw[K]at g;obtain rfl:=(oa g);rw[e,MV.beq_refl]at b;exact(nomatch b)
 have plain:=EG (E:=E) (Q:=Q) bs st w l r I Y pc h;have tell:=λ(Q:Bool->Shared->Prop)(h:Q false s)=>yG (A:=A) (E:=E) st l r Ku h;unfold dictFind;erw[Bc (xc (wpAny_dictEntries w rfl ?_))];extract_lets -underBinder J;have m:wpAny (ako c) A (J ()) Q E s:=by
  erw[Fq (λzz=>plain) λzz=>?_];extract_lets -underBinder J2;have m:wpAny (ako c) A (J2 ()) Q E s:=by
   erw[GG tell (ug (Er (Bool.false_and ..) Na) (xc (cz Y pc (λz hit R D bo lX Z B4=>?_) (λj e g=>yc (e▸h)) λg e=>yc (e▸h)))),Xf (step z D) λe d B k2=>(Xf k2 λb U b2 b3=>(Er d (Ju B (xc (wpAny_dictEpoch w rfl (xc (b3 _ (xc (wpAny_dictEpoch w rfl (ug (by rw[bne_self_eq_false];exact Na) ?_))))))))))];cases b with
   |true=>
    erw[Er (B4 (U rfl)) (xc (wpAny_rule (Fq (λzz=>yc (Z (U rfl) _)) λzz=>yc (lX (U rfl)))))]
   |false=>exact xc (wpAny_rule (ug (by rw[Bool.false_and];exact Na) (yc (bo (b2 rfl)))))
  clear_value J2;erw[j4 l r (λzz zz=>m) (λzz zz zz=>m) λa e=>ug (e▸V) m]
 clear_value J;erw[j4 l r (λzz zz=>m) (λy t e=>Fq (λG=>HG bs st w l (e▸r) I O G h) λzz=>m) λzz zz=>m]
end
section
open W PyProof.Rows
theorem tO (a:List (MV×MV))(k:MV):ce a k=(a.findIdx? λq=>MV.beq q.1 k).bind λi=>a[i]?.map (·.2):=by
 unfold ce
 induction a with
 |nil=>rfl|cons q r c=>
  simp only[List.find?_cons,List.findIdx?_cons];cases b:MV.beq q.1 k with
  |true=>simp|false=>
   simp only[c];cases List.findIdx? (λq=>q.fst.beq k) r<;>simp
theorem xB (a:List (MV×MV))(k:MV):(a.any λp=>MV.beq p.1 k)=(a.findIdx? λq=>MV.beq q.1 k).isSome:=by
 induction a with
 |nil=>rfl|cons q r c=>
  simp only[any_cons,List.findIdx?_cons];cases b:MV.beq q.1 k with
  |true=>simp|false=>rw[Bool.false_or,c];simp only[Bool.false_eq_true,if_false,Option.isSome_map]
theorem JG {a:List (MV×MV)}{k v:MV}(h:(a.any λp=>MV.beq p.1 k)=false):(a.map λp=>if MV.beq p.1 k then(p.1,v)else p)=a:=by
 induction a with
 |nil=>rfl|cons q r b=>
  simp only[any_cons,Bool.or_eq_false_iff]at h;rw[yb,b h.2,Dc (by rw[h.1];exact Na)]
theorem ah.modify {g:List (MV×MV)}{l:List DictEntry}(h:ah c T g l){k v:MV}{y:Value}(o:VR c T v y):∀{i:Nat},(g.map (·.1)).Nodup->(g.findIdx? λq=>MV.beq q.1 k)=some i->ah c T (g.map λp=>if MV.beq p.1 k then(p.1,v)else p) (l.modify i λe=>{e with val:=y}):=by
 induction h with
 |nil=>intro i _ e;simp at e
 |@cons m A z x r B a b d he n=>
  intro i f e;rw[yb,List.nodup_cons]at f;have f:=f;rw[List.findIdx?_cons]at e;cases bq:MV.beq m k with
  |true=>
   simp only[bq,if_true]at e;have e:=e;obtain rfl:=(oa e);haveI w:(r.any λp=>MV.beq p.1 k)=false:=by
    rw[Bool.eq_false_iff];intro q;erw[Sd (List.any_eq_true.mp q) λp s u=>(f.1 (by rw[MV.beq_eq _ _ bq,<-MV.beq_eq _ _ u];exact mem_map.mpr ⟨p,s,rfl⟩))]
   rw[yb,JG w];simp only[bq,if_true];erw[.cons a o d he]
  |false=>
   simp only[bq]at e;erw[Ef i (Ia e) λj t=>?_];rw[yb];simp only[bq];erw[.cons a b d (n f.2 t)]
theorem ah.push {e:List (MV×MV)}{f:List DictEntry}(h:ah c T e f){k v:MV}{x y:Value}(i:VR c T k x)(j:VR c T v y)(l:k.key=true):ah c T (e++[(k,v)]) (f++[⟨hashOf c k,x,y⟩]):=by
 induction h with
 |nil=>exact .cons i j l .nil|cons a b d _ g=>exact .cons a b d g
theorem kD {a:List (MV×MV)}{k v:MV}:((a.map λp=>if MV.beq p.1 k then(p.1,v)else p).map (·.1))=a.map (·.1):=by rw[map_map];erw[List.map_congr_left λp zz=>?_];simp only[Function.comp];split<;>rfl
theorem dz {c:List (MV×MV)}{k v:MV}(h:(c.map (·.1)).Nodup):((dput c k v).map (·.1)).Nodup:=by
 unfold dput;split
 ·rw[kD];exact h
 ·rename_i g;rw[Aa,List.nodup_append];refine⟨h,by simp,λa i b d e=>g ?_⟩;simp only[yb,List.map_nil,mem_singleton]at d;subst d e;erw[Ef a (Gb i) λp f=>(List.any_eq_true.mpr ⟨p,f,MV.beq_refl _⟩)]
theorem Lu (bs:Bs c mg mb)(st:St c H T F s){p:Nat}{a:List (MV×MV)}{k:MV}{x:Value}{Q:Option Value->Shared->Prop}(d:H p=some (.dict a))(f:k.key=true)(r:VR c T k x)(b:A.units+10<cLine)(h:∀t o,(∀v,ce a k=some v->∃y,o=some y/\VR c T v y)->(ce a k=none->o=none)->Q o {s with toks:=t}):wpAny (ako c) A (dictGet p x) Q E s:=by
 erw[ff (st.UM d) λD G l n z=>(eA z λzz C=>?_)];unfold dictGet;erw[Bc (xc (vB st f r b λt=>xc (IG bs (st.tok t) d f r b rfl ?_)))];rw[tO]at h;have h:=h;cases hf:(a.findIdx? λq=>MV.beq q.1 k)with
 |none=>exact yc (h t none (λv e=>by rw[hf]at e;exact nn e) λzz=>rfl)
 |some i=>
  erw[xc (wpAny_dictEntries (s:={s with toks:=t}) l rfl (yc (h t _ (λv e=>?_) λe=>?_)))]
  ·rw[hf]at e;erw[Ef v (Ia e) λq j=>(Yj (n.at j) λw g zz zz B=>(eA B λu zz=>?_))];rw[Array.getElem?_toList]at g;exact⟨w.val,by rw[g];rfl,u⟩
  ·rw[hf]at e;have e:=e;have m:i<a.length:=(List.findIdx?_eq_some_iff_getElem.mp hf).1;rw[Option.bind_some,wa m]at e;exact ns e
theorem uO {h:Heap}{p:Nat}{o:Obj}{f:Obj->Obj}{b:Nat}{ob:Obj}(a:b≠p)(e:h.get? b=some ob):(h.update p f).get? b=some ob:=(Heap.get?_update_other h f (Ne.symm a)).trans e
theorem Mu (bs:Bs c mg mb)(st:St c H T F s){p:Nat}{a:List (MV×MV)}{k v:MV}{x y:Value}{Q:Unit->Shared->Prop}(l:H p=some (.dict a))(w:k.key=true)(r:VR c T k x)(rv:VR c T v y)(B:A.units+10<cLine)(G:a.length<big) (h:∀s',St c (H.set p (.dict (dput a k v))) T F s'->Q () s'):wpAny (ako c) A (dictSet p x y) Q E s:=by
 erw[ff (st.UM l) λd j u z L=>(eA L λI C=>?_)];haveI m:d.size=a.length:=by rw[z.length];simp
 haveI K:c.P≠p:=λe=>by have:=st.11.1;rw[e,l]at this;exact ns this
 have put:∀(f:Array DictEntry->Array DictEntry)(g:Obj->Obj)(n:Nat)(t:Nat),g (Ah d j)=Ah (f d) n->ah c T (dput a k v) (f d).toList->
  St c (H.set p (.dict (dput a k v))) T F {s with heap:=s.heap.update p g,toks:=t}:=λf g n t D M=>
  st.put (s':={s with heap:=s.heap.update p g,toks:=t}) (λb N J e=>uO (o:=Ah d j) J e) ⟨f d,n,by rw[<-D];exact Heap.get?_update_self _ u (by rw[D];rfl),M,I,dz C⟩ (st.4 _ _ l) (st.5 _ _ l) K
 unfold dictSet;erw[Bc (xc (vB st w r B λt=>?_))];unfold dictSetHashed;erw[Bc (xc (IG bs (st.tok t) l w r B rfl ?_))];cases hf:(a.findIdx? λq=>MV.beq q.1 k)with
 |none=>
  erw[xc (wpAny_rule (wpAny_updateDictKeys (s:={s with toks:=t}) (o:=Ah d j) u rfl (h _ (put (·.push ⟨hashOf c k,x,y⟩) _ (j+1) t rfl ?_)) (by rw[m];exact uf G)))];have:dput a k v=a++[(k,v)]:=by unfold dput;rw[xB,hf];rfl
  rw[this];simpa using z.push r rv w
 |some i=>
  erw[xc (wpAny_rule (xc (wpAny_updateDict (s:={s with toks:=t}) (o:=Ah d j) u rfl (wpAny_point (h _ (put (·.modify i λe=>{e with val:=y}) _ j t rfl ?_))) (by simp))))];haveI:dput a k v=a.map λp=>if MV.beq p.1 k then(p.1,v)else p:=by unfold dput;rw[xB,hf];rfl
  rw[this];simpa using z.modify rv C hf
theorem Ok (st:St c H T F s){p:Nat}{a:List (MV×MV)}(b:H p=some (.dict a)):s.TypeIs (.ref p) "dict":=by obtain⟨e,f,d,_⟩:=st.UM b;exact⟨_,d,rfl⟩
theorem KG (bs:Bs c mg mb)(st:St c H T F s){p:Nat}{a:List (MV×MV)}{k:MV}{x:Value}{Q:Bool->Shared->Prop}(b:H p=some (.dict a))(g:k.key=true)(r:VR c T k x)(e:A.units+20<cLine)(h:∀s',St c H T F s'->Q (ce a k).isSome s'):wpAny (ako c) A (contains (.ref p) x) Q E s:=by
 obtain⟨q,u,l,n,f,m⟩:=st.UM b;have d:=Ok st b;unfold contains;erw[Bc (xc (wpAny_specialOf d slot_dict_contains.lookup ?_)),ug (by rw[beq_builtin_none];exact Na) ?_]
 refine xc (wpAny_callSpecialUnlessNone?_slot (name:=Str.ofString "__contains__") d slot_dict_contains (wpAny_call_entry slot_dict_contains d entry_dict_contains ?_ (args_dict_contains _ _)))
 show wpAny _ _ (dictGet p x>>=_) _ _ s;erw[xc (Lu bs st b g r (by rw[Around.in1_units];exact je 0x1ea1ce0bbb31e142c0bb10 rfl e) λt o j i=>?_)];cases hg:ce a k with
 |some v=>
  erw[Qf o (j v hg) λy zz=>?_];rw[hg]at h;erw[yc ⟨_,rfl,wpAny_truthy_bool (h _ (st.tok t))⟩]
 |none=>
  rw[i hg];rw[hg]at h;erw[xc (wpAny_pendingKey_other f (yc ⟨_,rfl,wpAny_truthy_bool (h _ (st.tok t))⟩))]
theorem LG (bs:Bs c mg mb)(st:St c H T F s){p:Nat}{b:List (MV×MV)}{k v:MV}{x:Value}{Q:Value->Shared->Prop}(d:H p=some (.dict b))(g:k.key=true)(r:VR c T k x)(i:ce b k=some v)(f:A.units+20<cLine)(h:∀y s',St c H T F s'->VR c T v y->Q y s'):wpAny (ako c) A (getItem (.ref p) x) Q E s:=by
 haveI a:=Ok st d;unfold getItem;erw[Bc (xc (wpAny_sequenceKey a akq ?_))]
 refine xc (wpAny_callSpecial?_slot (name:=Str.ofString "__getitem__") a slot_dict_getitem (wpAny_call_entry slot_dict_getitem a entry_dict_getitem ?_ (args_dict_getitem _ _)))
 show wpAny _ _ (dictGet p x>>=_) _ _ s;erw[xc (Lu bs st d g r (by rw[Around.in1_units];exact je 0x1ea1ce0bbb31e142c0bb10 rfl f) λt o j l=>?_),Qf o (j v i) λy e=>(yc ⟨y,rfl,yc (h y _ (st.tok t) e)⟩)]
theorem vO (bs:Bs c mg mb)(st:St c H T F s){p:Nat}{b:List (MV×MV)}{k v:MV}{x y:Value}{Q:Unit->Shared->Prop}(d:H p=some (.dict b))(g:k.key=true)(r:VR c T k x)(rv:VR c T v y)(f:A.units+20<cLine)(e:b.length<big) (h:∀s',St c (H.set p (.dict (dput b k v))) T F s'->Q () s'):wpAny (ako c) A (setItem (.ref p) x y) Q E s:=by
 haveI a:=Ok st d;unfold setItem;erw[Bc (xc (wpAny_sequenceKey a akq ?_))]
 refine xc (wpAny_callSpecial?_slot (name:=Str.ofString "__setitem__") a slot_dict_setitem (wpAny_call_entry slot_dict_setitem a entry_dict_setitem ?_ (args_dict_setitem _ _ _)))
 show wpAny _ _ (Builtin.Dict.notOrdered "__setitem__" ⟨[.ref p,x,y],[]⟩>>=_) _ _ s;erw[xc (wpAny_notOrdered_dict a ?_)];show wpAny _ _ (dictSet p x y>>=_) _ _ s;erw[xc (Mu bs st d g r rv (by rw[Around.in1_units];exact je 0x1ea1ce0bbb31e142c0bb10 rfl f) e λs' i=>yc ⟨.none,rfl,yc (h s' i)⟩)]
theorem MG (bs:Bs c mg mb)(st:St c H T F s){p:Nat}{a:List (MV×MV)}{k d:MV}{x y:Value}{Q:Value->Shared->Prop}(b:H p=some (.dict a))(j:k.key=true)(r:VR c T k x)(e:VR c T d y)(g:A.units+20<cLine)(h:∀z s',St c H T F s'->VR c T ((ce a k).getD d) z->Q z s'):wpAny (ako c) A (call (.builtin "dict.get") [.ref p,x,y]) Q E s:=by
 erw[ff (st.UM b) λC D u B q=>(eA q λi w=>?_),have l:=Ok st b;?_,wpAny_call_entry PySem.F.slot_dict_get l PySem.F.entry_dict_get ?_ (PySem.F.args_dict_get_3 _ _ _)];show wpAny _ _ (dictGet p x>>=_) _ _ s;erw[xc (Lu bs st b j r (by rw[Around.in1_units];exact je 0x1ea1ce0bbb31e142c0bb10 rfl g) λt o n m=>?_)];cases hg:ce a k with
 |some v=>
  erw[Qf o (n v hg) λz f=>?_];rw[hg]at h;erw[yc ⟨z,rfl,h z _ (st.tok t) f⟩]
 |none=>
  rw[m hg];rw[hg]at h;erw[xc (wpAny_missed_other i (yc ⟨y,rfl,h y _ (st.tok t) e⟩))]
end
section
open W PyProof.Rows
variable {H H' : MH} {T T' F : Tb} {Q : MV → MH → Prop} {E : Value → Shared → Prop} {c : Cx} {mg mb : Str → Option Value} {s : Shared} {nm : List Str} {n : Nat} {A : Around} {P : Pg} {sc : Scope} {env : Env} {L : List MV}
theorem yB (a:qo k=true)(r:VR c T k x):∃f,fk c k=some f:=
 wG (C:=λv=>VR c T v x->∃f,fk c v=some f) (λi zz=>⟨.i i,rfl⟩) (λn r=>r.elim λy r=>r.elim λzz r=>⟨.s y,Gq r.1⟩) k a r
theorem oX (bs:Bs c mg mb)(e:fk c k=some f)(b:fk c a=some f):k=a:=
 i4 (C:=λk f=>fk c a=some f->k=a) (λi b=>i4 (C:=λa f=>∀i,f=.i i->.int i=a) (λj i q=>by obtain rfl:=(FK.i.inj q);rfl) (λn y h i q=>nomatch q) b i rfl) (λn y d b=>i4 (C:=λa f=>∀y,f=.s y->c.sx[n]?=some y->.str n=a) (λj y q=>nomatch q) (λm z g y q d=>by
   obtain rfl:=(FK.s.inj q);exact Fc MV.str ((Vc (Fa d).1 bs.4).mp (d.trans g.symm))) b y rfl d) e b
def gz (c:Cx)(k:MV):FK:=(fk c k).getD (.i 0)
theorem iz (h:ah c T xd es)(i:∀p∈xd,qo p.1=true):Pairs (Nf c.prog c.w) es (List.zip (xd.map λp=>gz c p.1) (es.map (·.val)))/\∀e∈es,∃k,(Nf c.prog c.w).is k e.key=true/\e.hash=(Nf c.prog c.w).hash k:=by
 induction h with
 |nil=>exact⟨.nil,λ_ h=>by cases h⟩
 |@cons k v x y r t a b d he j=>
  erw[eE (yB (i _ (.head _)) a) λf e=>?_];have hf:(Nf c.prog c.w).is (gz c k) x=true:=by unfold gz;rw[e];exact tB e a
  erw[eA (j λp o=>i p (.tail _ o)) λm l=>⟨.cons hf rfl m,λq g=>?_⟩];rcases xa g with rfl|g
  ·exact⟨f,tB e a,Op e⟩
  ·erw[l q g]
theorem jz (h:ah c T xd es)(g:∀p∈xd,qo p.1=true):∀k∈xd.map (·.1),∃f,fk c k=some f:=by
 induction h with
 |nil=>intro k hk;cases hk
 |@cons k v x y r l a b d he i=>
  intro q e;rcases xa e with rfl|e
  ·erw[yB (g _ (.head _)) a]
  ·erw[i (λp j=>g p (.tail _ j)) q e]
theorem lD (bs:Bs c mg mb):∀{ks:List MV},(∀k∈ks,∃f,fk c k=some f)->ks.Nodup->(ks.map (gz c)).Nodup:=by
 intro l
 induction l with
 |nil=>
  intro _ _;erw[.nil]
 |cons k r i=>
  intro h n;rw[List.nodup_cons]at n;have n:=n;rw[yb,List.nodup_cons];erw[⟨λm=>?_,i (λq j=>h q (.tail _ j)) n.2⟩,Sd (Gb m) λg d e=>?_];obtain⟨f,b⟩:=h k (.head _);obtain⟨o,a⟩:=h g (.tail _ d);unfold gz at e;rw[b,a]at e;haveI e:o=f:=e;subst e;erw[n.1 (oX bs b a▸d)]
theorem mD (h:ah c T xd es):Ee c T (xd.map (·.2)) (es.map (·.val)):=by
 induction h with
 |nil=>trivial|cons a b d he e=>exact⟨b,e⟩
theorem St.NG (bs:Bs c mg mb)(st:St c H T F s){p:Nat}{ks vs:List MV}(l:H p=some (.dict (ks.zip vs)))(f:ks.length=vs.length)(r:∀k∈ks,qo k=true):(p==sysModules)=false/\(ks.map (gz c)).Nodup/\∃xs:List Value,Ee c T vs xs/\s.heap.DictOf (Nf c.prog c.w) p (List.zip (ks.map (gz c)) xs):=by
 erw[ff (st.UM l) λt u m g x=>(eA x λo i=>?_)];haveI b:(ks.zip vs).map (·.1)=ks:=List.map_fst_zip (Ob f);haveI v:(ks.zip vs).map (·.2)=vs:=List.map_snd_zip (je 0x131012 rfl f);have a:∀p∈ks.zip vs,qo p.1=true:=λq j=>r _ (by rw[<-b];exact mem_map.mpr ⟨q,j,rfl⟩);obtain⟨p1,p2⟩:=iz g a;haveI d:=mD g;haveI kn:=jz g a;rw[b]at i kn;rw[v]at d;haveI em:((ks.zip vs).map λp=>gz c p.1)=ks.map (gz c):=by
  rw[<-b,map_map,b];rfl
 rw[em]at p1;haveI nd:=lD bs kn i;refine⟨o,nd,_,d,_,t,u,m,⟨rfl,rfl,rfl⟩,rfl,λe h=>p2 e (Array.mem_toList_iff.mpr h),p1,?_⟩;rw[List.map_fst_zip (by rw[<-d.length,aa];exact(Ob f))];erw[nd]
theorem Ew (nd:fs.Nodup):∀{xs:List Value}{i:Nat}{f:FK}{x:Value},fs[i]?=some f->xs[i]?=some x->valueAt (List.zip fs xs) f=some x:=by
 unfold valueAt
 induction fs with
 |nil=>intro xs i f x h;simp at h
 |cons g r d=>
  intro xs i f x b a;rw[List.nodup_cons]at nd;cases xs with
  |nil=>simp at a|cons y t=>
   rw[zip_cons_cons,List.find?_cons];cases i with
   |zero=>simp at b a;subst b a;simp
   |succ i=>
    simp at b a;have:¬(g=f):=λe=>nd.1 (e▸Eb b);simp only[this,decide_false];erw[d nd.2 b a]
theorem OG {a:List FK}(nd:a.Nodup){xs d:List Value}(f:xs.length=a.length)(j:d.length=a.length){A:Around}(h:∀(i:Nat) x y,xs[i]?=some x->d[i]?=some y->SeqAt.EqAt A s x y true):∀(n:Nat),KeqHits A s (List.zip a d) ((List.zip a xs).drop n) true:=by
 haveI key:∀(m n:Nat),a.length-n=m->KeqHits A s (List.zip a d) ((List.zip a xs).drop n) true:=by
  intro m
  induction m with
  |zero=>
   intro n e;rw[List.drop_of_length_le (by rw[List.length_zip];exact Ba (qc _ _) (Nat.le_of_sub_eq_zero e))];exact .nil
  |succ m k=>
   intro n e;have a1:n<a.length:=Nat.sub_pos_iff_lt.mp (by rw[e];exact Nat.succ_pos m);haveI l:n<(List.zip a xs).length:=by rw[List.length_zip,f,Nat.min_self];exact a1
   have a2:n<xs.length:=se 0x2e0b312121e0b10 rfl a1 f;haveI g:n<d.length:=se 0x2e0b312121e0b10 rfl a1 j;rw[List.drop_eq_getElem_cons l,List.getElem_zip];haveI:=KeqHits.hit (A:=A) (s:=s) (b:=true) (Ew nd (wa a1) (wa g)) (h n _ _ (wa a2) (wa g)) (k (n+1) (Ka (jo 0x403e4b311213b122e1b0b11 rfl (ta a1) (ta (je 0x1031e0b10 rfl a1)) e) (jo 0x4133e2b4b12320b11e1b012 rfl e (ta (je 0x1031e0b10 rfl a1)) (ta a1))));rwa[Bool.and_self]at this
 erw[λn=>key _ n rfl]
theorem Fw (h:Dt.Zn H (d::r) vs):∃v t,vs=v::t/\Dt.on H d v/\Dt.Zn H r t:=by
 cases vs with
 |nil=>exact h.elim|cons v t=>exact⟨v,t,rfl,h⟩
theorem Ee.cons_inv (h:Ee c T (v::r) xs):∃x t,xs=x::t/\VR c T v x/\Ee c T r t:=by
 cases xs with
 |nil=>exact h.elim|cons x t=>exact⟨x,t,rfl,h⟩
theorem Dt.Bh:∀{vs:List MV},Dt.Zn H ds vs->ds.length=vs.length:=by
 induction ds with
 |nil=>intro vs h;cases vs with|nil=>rfl|cons _ _=>exact h.elim
 |cons d r a=>intro vs h;cases vs with|nil=>exact h.elim|cons v t=>exact Fc Nat.succ (a h.2)
theorem Hf (n:Nat):(range n).all (λ_=>true)=true:=by simp
def P_ (c:Cx)(T:Tb)(H:MH)(s:Shared)(d:Dt):Prop:=∀(a b:MV)(x y:Value)(A:Around),Dt.on H d a->Dt.on H d b->VR c T a x->VR c T b y->A.units+d.dep+10<cLine->SeqAt.EqAt A s x y true
theorem kz:(∀d∈ds,P_ c T H s d)->∀(vs ws:List MV)(xs a:List Value)(A:Around),Dt.Zn H ds vs->Dt.Zn H ds ws->Ee c T vs xs->Ee c T ws a->A.units+Dt.Au ds+10<cLine->∀j (b:j<xs.length)(h:j<a.length),SeqAt.EqAt A s xs[j] a[j] true:=by
 induction ds with
 |nil=>
  intro zz vs ws xs a A b h e i g j f l;erw[qd f (by rw[<-e.length,<-Dt.Bh b];exact kc _)]
 |cons d r m=>
  intro k vs ws xs a A b h e i g j f l;obtain⟨v,vs,rfl,D,C⟩:=Fw b;obtain⟨w,ws,rfl,B,z⟩:=Fw h;obtain⟨x,xs,rfl,u,t⟩:=e.cons_inv;obtain⟨y,a,rfl,q,p⟩:=i.cons_inv;cases j with
  |zero=>exact k d (.head _) v w x y A D B u q (ja (Nat.add_le_add_right (Gc (Nat.le_max_left _ _) _) _) g)|succ j=>exact m (λd o=>k d (.tail _ o)) vs ws xs a A C z t p (ja (Nat.add_le_add_right (Gc (Nat.le_max_right _ _) _) _) g) j (Nat.lt_of_succ_lt_succ f) (Nat.lt_of_succ_lt_succ l)
theorem Gw (a:A.units+(n+1)+10<cLine):A.in1.units+n+10<cLine:=by rw[Around.in1_units];exact se 0x2ea1c1e0bbbb32ea1ce1b0bbb10 rfl a
theorem PG (a:A.units+n+10<cLine):A.units+10<cLine:=se 0x2ea1c0bb32ea1c10bbb10 rfl a
theorem zB (a:A.units+n+10<cLine):A.units+1<=cLine:=se 0x2e0b32ea1c10bbb10 rfl a
theorem deep (bs:Bs c mg mb)(st:St c H T F s)(d:Dt):P_ c T H s d:=by
 erw[Dt.rec (motive_1:=P_ c T H s) (motive_2:=λK=>∀d∈K,P_ c T H s d) ?_ ?_ ?_ (λd N=>nomatch N) (λd r g h q l=>(xa l).elim (λe=>e▸g) λl=>h q l) d]
 ·intro v a b x y A g h o m i;rw[g.2]at o;rw[h.2]at m;haveI:=xl bs (A:=A) (s:=s) st.2 g.1 g.1 o m (PG i);rwa[MV.beq_refl]at this
 ·intro K G a b x y A g h;erw[Qf a g λB g=>(Qf b h λz h=>?_)];intro o m i;obtain⟨p,f,k,rfl,J,u⟩:=o;obtain⟨q,w,M,rfl,l,t⟩:=m;have I:f.size=w.size:=by rw[<-u.arr,<-t.arr,<-Dt.Bh g,Dt.Bh h]
  haveI:=SeqAt.RcAt.tuples (A:=A) (e:=λ_=>true) ⟨_,st.2 _ _ J,rfl,_,rfl⟩ ⟨_,st.2 _ _ l,rfl,_,rfl⟩ (zB i) (λj D C=>kz G B z f.toList w.toList A.in1 g h u t (Gw i) j D C);rw[Hf,I,Pa]at this;by_cases e:p=q
  ·rw[e];exact SeqAt.EqAt.same _
  ·erw[SeqAt.EqAt.of_refs e this]
 ·intro K G a b x y A g h o m i;obtain⟨p,B,rfl,J,g⟩:=g;obtain⟨q,z,rfl,l,h⟩:=h;obtain rfl:x=.ref p:=o;obtain rfl:y=.ref q:=m;erw[vf (st.lst J) λf k R u=>(vf (st.lst l) λw M O t=>?_)];have I:f.size=w.size:=by rw[<-u.arr,<-t.arr,<-Dt.Bh g,Dt.Bh h]
  haveI:=SeqAt.RcAt.lists (A:=A) (e:=λ_=>true) ⟨_,R,rfl,_,rfl⟩ ⟨_,O,rfl,_,rfl⟩ I (zB i) (λj D C=>kz G B z f.toList w.toList A.in1 g h u t (Gw i) j D C);rw[Hf]at this;by_cases e:p=q
  ·rw[e];exact SeqAt.EqAt.same _
  ·erw[SeqAt.EqAt.of_refs e this]
theorem Hw (bs:Bs c mg mb)(st:St c H T F s)(b:List Dt)(vs ws:List MV)(xs a:List Value)(A:Around)(f:Dt.Zn H b vs)(e:Dt.Zn H b ws)(h:Ee c T vs xs)(g:Ee c T ws a)(i:A.units+Dt.Au b+10<cLine):∀j (f:j<xs.length)(e:j<a.length),SeqAt.EqAt A s xs[j] a[j] true:=kz (λd _=>deep bs st d) vs ws xs a A f e h g i
def Q_ (c:Cx)(A:Around)(s:Shared)(x y:Value):Prop:=∀(E:Value->Shared->Prop)(Q:Bool->Shared->Prop),Q true s->wpAny (ako c) A (eqBool x y) Q E s
theorem C4 (bs:Bs c mg mb)(st:St c H T F s):∀(d:Dq)(a b:MV)(x y:Value)(A:Around),Dq.on H d a->Dq.on H d b->VR c T a x->VR c T b y->A.units+d.dep+10<cLine->Q_ c A s x y
 |.one d,a,b,x,y,A,j,g,l,k,f=>λE Q q=>deep bs st d a b x y A j g l k f c.prog c.w E Q q|.dict ks ds,a,b,x,y,A,j,g,l,k,f=>by
  obtain⟨p,vs,rfl,O,v,z,j⟩:=j;obtain⟨q,D,rfl,N,u,_,g⟩:=g;obtain rfl:x=.ref p:=l;obtain rfl:y=.ref q:=k;by_cases e:p=q
  ·subst e;exact λE Q h=>SeqAt.EqAt.same _ c.prog c.w E Q h
  ·erw[pj (st.NG bs O v z) λJ nd G=>(Sd G λo C X=>(pj (st.NG bs N u z) λI _ Y=>(Sd Y λm B W=>?_)))];rw[Dq.dep]at f;haveI:=Hw bs st ds vs D o m A.in1 j g C B (by rw[Around.in1_units];exact se 0x2ea1c1e0bbbb32ea1ce1b0bbb10 rfl f);have t:o.length=(ks.map (gz c)).length:=by rw[<-C.length,aa,v]
   have r:m.length=(ks.map (gz c)).length:=by rw[<-B.length,aa,u]
   haveI R:=OG (s:=s) nd t r (A:=A.in1) (λi x y V U=>by
    obtain⟨M,rfl⟩:=Fa V;obtain⟨K,rfl⟩:=Fa U
    exact this i M K) 0
   intro E Q S;unfold eqBool;erw[Bc (ug (by simpa using e) (xc ?_)),keq_eq J I X W (se 0x2e0b32ea1ce1b0bbb10 rfl f) (λ_=>R) (wpAny_truthy_bool ?_)];rw[List.length_zip,List.length_zip,t,r,Nat.min_self,Pa];erw[S]
theorem nD (o:s.heap.get? l=some (Yh items n))(r:s.heap.get? b=some (Yh Ld n2))(hsz:items.size=Ld.size)(q:∀p∈items.toList.zip Ld.toList,Q_ c A s p.1 p.2) (h:R (.done (.ret (.bool false))) s):wpAny (ako c) A (Builtin.«tuple.__ne__» ⟨[.ref l,.ref b],[]⟩) R E s:=by
 obtain⟨f,g,d,k,os⟩:=s;haveI f2:=AutoSeq1.sub_tuple_tuple;haveI v:(items.size !=Ld.size)=false:=by rw[hsz];simp
 wp_walk using AutoSeq1.wpAny_loadPart' o,AutoSeq1.wpAny_loadPart' r,wpAny_forIn_list _ (λa b e=>b.1=none/\e=⟨f,g,d,k,os⟩/\∀p∈a,Q_ c A ⟨f,g,d,k,os⟩ p.1 p.2) _
 case turn=>
  intro z a b e u;erw[eA u λi w=>(rF e w λj=>(xc (j _ (.head _) _ _ ?_)))]
  wp_walk
  exact⟨rfl,rfl,λp f=>j p (.tail _ f)⟩
 case fin=>
  intro t e m;obtain⟨y,x⟩:=t;obtain⟨i,rfl,j⟩:=m;simp only at i;subst i
  wp_walk
  simpa[Builtin.Tuple.tupleCompareSizes,v]using h
 case h=>
  exact⟨rfl,rfl,q⟩
theorem tup_ne (bs:Bs c mg mb)(st:St c H T F s){Q:Value->Shared->Prop}(R:Dq.Zn H g vs)(O:Dq.Zn H g ws)(I:VR c T (.tup vs) x)(G:VR c T (.tup ws) y)(N:∀d∈g,A.units+d.dep+20<cLine) (o:A.units+10<cLine) (h:Q (.bool false) s):wpAny (ako c) A (compareOp .NotEq x y) Q E s:=by
 erw[we I λp m k D=>(Fi x D λi M=>(we G λq V U S=>(Fi y S λu K=>?_)))];haveI z:=st.2 _ _ i;haveI B:=st.2 _ _ u;haveI go:∀(g:List Dq)(vs ws:List MV)(f e:List Value),(∀d∈g,A.units+d.dep+20<cLine)->Dq.Zn H g vs->Dq.Zn H g ws->Ee c T vs f->Ee c T ws e->
  f.length=e.length/\∀p∈f.zip e,Q_ c A.in1 s p.1 p.2:=by
  intro g
  induction g with
  |nil=>
   intro vs ws f e _ a b r j;cases vs<;>cases ws<;>first|exact a.elim|exact b.elim|skip
   cases f<;>cases e<;>first|exact⟨rfl,λp i=>by cases i⟩|exact r.elim|exact j.elim
  |cons d t J=>
   intro vs ws f e C a b r j;cases vs with
   |nil=>exact a.elim|cons v vs=>
    cases ws with
    |nil=>exact b.elim|cons w ws=>
     cases f with
     |nil=>exact r.elim|cons x f=>
      cases e with
      |nil=>exact j.elim|cons y e=>
       erw[eA (J vs ws f e (λq u=>C q (.tail _ u)) a.2 b.2 r.2 j.2) λl k=>⟨by simp[l],λp i=>?_⟩];rcases xa i with rfl|i
       ·erw[C4 bs st d v w x y A.in1 a.1 b.1 r.1 j.1 (by haveI:=C d (.head _);rw[Around.in1_units];exact se 0x2ea1c1e0bbbb32e142c10bbb10 rfl this)]
       ·erw[k p i]
 erw[eA (go g vs ws _ _ N R O M K) λl k=>(wpAny_richCompare_same_room (op:=.NotEq) ⟨_,z,rfl⟩ ⟨_,B,rfl⟩ PySem.F.slot_tuple_ne ?_ (je 0x1e0b31ea1c0bb10 rfl o)),wpAny_call_entry PySem.F.slot_tuple_ne ⟨_,z,rfl⟩ PySem.F.entry_tuple_ne ?_ (PySem.F.args_tuple_ne_2 _ _),nD z B (by simpa using l) k ⟨_,rfl,by nofun,h⟩]
theorem Xm (h:n+1<=m)(a:A.units+m<cLine):A.in1.units+n<cLine:=by rw[Around.in1_units];exact oi 0x2e3e0bbb31e3b102e10bb10 rfl a h
theorem Og (h:n<=m)(a:A.units+m<cLine):A.units+n<cLine:=ja (Gc h _) a
theorem D4 (bs:Bs c mg mb){x v:MV}{a b:Value}{K:Bool->Prop}{E:Value->Shared->Prop}{Q:Value->Shared->Prop}(h:YN x v H K)(st:St c H T F s)(f:VR c T x a)(o:VR c T v b)(i:A.units+40<cLine)(q:∀r s',K r->St c H T F s'->Q (.bool r) s'):wpAny (ako c) A (compareOp .In a b) Q E s:=by
 cases v<;>first|exact h.elim|skip
 ·obtain⟨r,j,h⟩:=Me h;obtain⟨p,d,k,rfl,e,g⟩:=o;obtain⟨m,l⟩:=Iu (A:=A.in1) bs (s:=s) j st.2 g f (Xm akq i);erw[SeqAt.in_tupleAt (iR c T _ x) ⟨_,st.2 _ _ e,rfl,_,rfl⟩ m (by rw[l];exact q _ _ h st)]
 ·obtain rfl:=o;rcases Mm h with⟨t,e,h⟩|⟨y,e,h⟩
  ·obtain⟨r,j,h⟩:=Me h;obtain⟨d,k,u,g⟩:=st.lst e;obtain⟨m,l⟩:=Iu (A:=A.in1) bs (s:=s) j st.2 g f (Xm akq i);erw[SeqAt.in_listAt (iR c T t x) ⟨_,u,rfl,_,rfl⟩ m (by rw[l];exact q _ _ h st)]
  ·erw[xc (KG bs st e h.1 f (Og akq i) λs' w=>yc (q _ _ h.2 w))]
theorem QG (bs:Bs c mg mb){x v:MV}{a b:Value}{K:Bool->Prop}{E:Value->Shared->Prop}{Q:Value->Shared->Prop}(h:YN x v H K)(st:St c H T F s)(f:VR c T x a)(o:VR c T v b)(i:A.units+40<cLine)(q:∀r s',K r->St c H T F s'->Q (.bool (!r)) s'):wpAny (ako c) A (compareOp .NotIn a b) Q E s:=by
 cases v<;>first|exact h.elim|skip
 ·obtain⟨r,j,h⟩:=Me h;obtain⟨p,d,k,rfl,e,g⟩:=o;obtain⟨m,l⟩:=Iu (A:=A.in1) bs (s:=s) j st.2 g f (Xm akq i);erw[SeqAt.notIn_tupleAt (iR c T _ x) ⟨_,st.2 _ _ e,rfl,_,rfl⟩ m (by rw[l];exact q _ _ h st)]
 ·obtain rfl:=o;rcases Mm h with⟨t,e,h⟩|⟨y,e,h⟩
  ·obtain⟨r,j,h⟩:=Me h;obtain⟨d,k,u,g⟩:=st.lst e;obtain⟨m,l⟩:=Iu (A:=A.in1) bs (s:=s) j st.2 g f (Xm akq i);erw[SeqAt.notIn_listAt (iR c T t x) ⟨_,u,rfl,_,rfl⟩ m (by rw[l];exact q _ _ h st)]
  ·erw[xc (KG bs st e h.1 f (Og akq i) λs' w=>yc (q _ _ h.2 w))]
theorem RG (bs:Bs c mg mb)(k:∀a o,T a=some o->h.get? a=some o)(e:eqv v w=some r)(rv:VR c T v x)(i:VR c T w y):∃d f j g,Reads h x d j/\Reads h y f g/\d.canLay0=true/\f.canLay0=true/\d.depth<=2/\PyData.eqv d f=r:=by
 unfold eqv at e;split at e
 ·obtain rfl:=(oa e);rename_i h;simp only[Rb,Da]at h;rcases h with h|h
  ·erw[Sd (eR bs v x _ k h.1 rv) λj m q=>(Sd (eR bs w y _ k h.2 i) λt l p=>⟨_,_,_,_,m,l,q,p,Hu v,M_ bs v w h.1 h.2 rv.Ji i.Ji⟩)]
  ·obtain⟨a,rfl⟩:=Lj h.1;obtain⟨b,rfl⟩:=Lj h.2;obtain rfl:=rv;obtain rfl:=i;exact⟨_,_,_,_,.bool _,.bool _,rfl,rfl,Ta _,rfl⟩
 ·erw[nn e]
set_option tactic.hygienic true in
theorem E4 (bs:Bs c mg mb){v w:MV}{x y:Value}{K:Bool->Prop}{E:Value->Shared->Prop}{Q:Value->Shared->Prop}(h:Cu v w H K)(st:St c H T F s)(rv:VR c T v x)(o:VR c T w y)(i:A.units+200<cLine)(q:∀r,K r->Q (.bool r) s):wpAny (ako c) A (compareOp .Eq x y) Q E s:=by
 unfold Cu at h;split at h
 ·rename_i r W;obtain⟨d,Z,as,as',C,B,R,O,c3,rfl⟩:=RG bs (h:=s.heap) st.2 W rv o;erw[SeqAt.compareEq_reads C B R O (by have:min d.depth Z.depth<=2:=Ba (qc _ _) c3;exact se 0x1e20bb321c2101ec82c0bb10 rfl i this) (q _ h)]
 ·obtain⟨⟨d,f,b,U⟩,N⟩:=h;cases d with
  |flat v'=>
   obtain⟨g,rfl⟩:=f;obtain⟨_,rfl⟩:=b;obtain⟨as,C,R⟩:=eR bs _ x _ st.2 g rv;obtain⟨bs',B,O⟩:=eR bs _ y _ st.2 g o;have e:=M_ bs _ _ g g rv.Ji o.Ji;rw[MV.beq_refl]at e;erw[SeqAt.compareEq_reads C B R O (by have:=Hu (c:=c) w;have:min (dat c w).depth (dat c w).depth<=2:=Ba (qc _ _) this;exact se 0x1e20bb321c2101ec82c0bb10 rfl i this) (by rw[e];exact q _ N)]
  |tup ds=>
   obtain⟨z,rfl,f⟩:=f;obtain⟨u,rfl,b⟩:=b;obtain⟨p,a,k,rfl,M,m⟩:=rv;obtain⟨S,t,V,rfl,J,l⟩:=o;have I:a.size=t.size:=by rw[<-m.arr,<-l.arr,<-Dt.Bh f,Dt.Bh b]
   refine SeqAt.eq_tupleAt (e:=λzz=>true) ⟨_,st.2 _ _ M,rfl,_,rfl⟩ ⟨_,st.2 _ _ J,rfl,_,rfl⟩ (je 0x1e0b31ec82c0bb10 rfl i) (λj G D=>Hw bs st ds z u a.toList t.toList A.in1 f b m l (by rw[Around.in1_units];exact se 0x1ea1c2e0bbbb3322cee2bb101ec82c0bb10 rfl i U) j G D) ?_
   rw[Hf,I,Pa];erw[q _ N]
  |list ds=>
   obtain⟨p,z,rfl,M,f⟩:=f;obtain⟨S,u,rfl,J,b⟩:=b;obtain rfl:x=.ref p:=rv;obtain rfl:y=.ref S:=o;obtain⟨a,k,Y,m⟩:=st.lst M;obtain⟨t,V,X,l⟩:=st.lst J;have I:a.size=t.size:=by rw[<-m.arr,<-l.arr,<-Dt.Bh f,Dt.Bh b]
   refine SeqAt.eq_listAt (e:=λzz=>true) ⟨_,Y,rfl,_,rfl⟩ ⟨_,X,rfl,_,rfl⟩ I (je 0x1e0b31ec82c0bb10 rfl i) (λj G D=>Hw bs st ds z u a.toList t.toList A.in1 f b m l (by rw[Around.in1_units];exact se 0x1ea1c2e0bbbb3322cee2bb101ec82c0bb10 rfl i U) j G D) ?_
   rw[Hf];erw[q _ N]
set_option tactic.hygienic true in
theorem F4 (bs:Bs c mg mb){v w:MV}{x y:Value}{K:Bool->Prop}{E:Value->Shared->Prop}{Q:Value->Shared->Prop}(h:Cu v w H K)(st:St c H T F s)(rv:VR c T v x)(o:VR c T w y)(i:A.units+200<cLine)(q:∀r,K r->Q (.bool (!r)) s):wpAny (ako c) A (compareOp .NotEq x y) Q E s:=by
 unfold Cu at h;split at h
 ·rename_i r W;obtain⟨d,Z,as,as',C,B,R,O,c3,rfl⟩:=RG bs (h:=s.heap) st.2 W rv o;erw[SeqAt.compareNe_reads C B R O (by have:min d.depth Z.depth<=2:=Ba (qc _ _) c3;exact se 0x1e20bb321c2101ec82c0bb10 rfl i this) (q _ h)]
 ·obtain⟨⟨d,f,b,U⟩,N⟩:=h;cases d with
  |flat v'=>
   obtain⟨g,rfl⟩:=f;obtain⟨_,rfl⟩:=b;obtain⟨as,C,R⟩:=eR bs _ x _ st.2 g rv;obtain⟨bs',B,O⟩:=eR bs _ y _ st.2 g o;have e:=M_ bs _ _ g g rv.Ji o.Ji;rw[MV.beq_refl]at e;erw[SeqAt.compareNe_reads C B R O (by have:=Hu (c:=c) w;have:min (dat c w).depth (dat c w).depth<=2:=Ba (qc _ _) this;exact se 0x1e20bb321c2101ec82c0bb10 rfl i this) (by rw[e];exact q _ N)]
  |tup ds=>
   obtain⟨z,rfl,f⟩:=f;obtain⟨u,rfl,b⟩:=b;obtain⟨p,a,k,rfl,M,m⟩:=rv;obtain⟨S,t,V,rfl,J,l⟩:=o;have I:a.size=t.size:=by rw[<-m.arr,<-l.arr,<-Dt.Bh f,Dt.Bh b]
   refine SeqAt.RcNeAt.tuples (e:=λzz=>true) ⟨_,st.2 _ _ M,rfl,_,rfl⟩ ⟨_,st.2 _ _ J,rfl,_,rfl⟩ (je 0x1e0b31ec82c0bb10 rfl i) (λj G D=>Hw bs st ds z u a.toList t.toList A.in1 f b m l (by rw[Around.in1_units];exact se 0x1ea1c2e0bbbb3322cee2bb101ec82c0bb10 rfl i U) j G D) c.prog c.w E Q ?_
   rw[Hf,I,Pa];erw[q _ N]
  |list ds=>
   obtain⟨p,z,rfl,M,f⟩:=f;obtain⟨S,u,rfl,J,b⟩:=b;obtain rfl:x=.ref p:=rv;obtain rfl:y=.ref S:=o;obtain⟨a,k,Y,m⟩:=st.lst M;obtain⟨t,V,X,l⟩:=st.lst J;have I:a.size=t.size:=by rw[<-m.arr,<-l.arr,<-Dt.Bh f,Dt.Bh b]
   refine SeqAt.RcNeAt.lists (e:=λzz=>true) ⟨_,Y,rfl,_,rfl⟩ ⟨_,X,rfl,_,rfl⟩ I (je 0x1e0b31ec82c0bb10 rfl i) (λj G D=>Hw bs st ds z u a.toList t.toList A.in1 f b m l (by rw[Around.in1_units];exact se 0x1ea1c2e0bbbb3322cee2bb101ec82c0bb10 rfl i U) j G D) c.prog c.w E Q ?_
   rw[Hf];erw[q _ N]
theorem AB (r:VR c T v x):(x==.none)=MV.beq v .none:=by
 cases v with
 |td=>exact r.elim|none=>obtain rfl:=r;rfl
 |bool b=>obtain rfl:=r;rfl
 |int i=>obtain⟨t,rfl⟩:=r;rfl
 |str n=>obtain⟨y,t,_,rfl⟩:=r;rfl
 |tup e=>obtain⟨a,_,_,rfl,_⟩:=r;rfl
 |ref a=>obtain rfl:=r;rfl
 |obj k d=>obtain⟨a,rfl,_⟩:=r;rfl
 |Il _ _ _=>obtain⟨a,_,_,_,rfl,_⟩:=r;rfl
 |Qy ns=>obtain⟨a,_,_,rfl,_⟩:=r;rfl
theorem Ym (h:fG x y f H Q)(st:St c H T F s)(k:VR c T x a)(g:VR c T y b):∃i j t u,a=.int i t/\b=.int j u/\Cd c T F Q (.bool (f i j)) s:=by erw[Sd (Be h) λi e m=>?_];subst e;erw[Sd (Be m) λj d l=>?_];subst d;obtain⟨t,rfl⟩:=k;obtain⟨u,rfl⟩:=g;exact⟨i,j,t,u,rfl,rfl,Cd.bool st l⟩
theorem SG (bs:Bs c mg mb){Q:MV->MH->Prop}(h:xg o x y H Q)(st:St c H T F s)(f:VR c T x a)(e:VR c T y b)(g:A.units+200<cLine):wpAny (ako c) A (compareOp o a b) (Cd c T F Q) akn s:=by
 cases o
 ·erw[E4 bs h st f e g λr q=>Cd.bool st q]
 ·rcases h with h|⟨⟨ds,vs,ws,rfl,rfl,h1,h2,hd⟩,q⟩
  ·erw[F4 bs h st f e g λr q=>Cd.bool st q]
  ·erw[tup_ne bs st h1 h2 f e (λd m=>by haveI:=hd d m;exact se 0x1e142c20bbb3322ce2b101ec82c0bb10 rfl g this) (je 0x1ea1c0bb31ec82c0bb10 rfl g) (Cd.bool st q)]
 ·erw[we (Ym h st f e) λi j t D=>(Qf a D λu C=>(rF b C λp=>(PyProof.Rows.lt_int p)))]
 ·erw[we (Ym h st f e) λi j t B=>(Qf a B λu J=>(rF b J λp=>(PyProof.Rows.le_int p)))]
 ·erw[we (Ym h st f e) λi j t z=>(Qf a z λu w=>(rF b w λp=>(PyProof.Rows.gt_int p)))]
 ·erw[we (Ym h st f e) λi j t I=>(Qf a I λu G=>(rF b G λp=>(PyProof.Rows.ge_int p)))]
 ·obtain⟨rfl,q⟩:=h;obtain⟨-,q⟩:=Bi q;obtain rfl:b=.none:=e;erw[is_none (Er (AB f) (Cd.bool st q))]
 ·obtain⟨rfl,q⟩:=h;obtain⟨-,q⟩:=Bi q;obtain rfl:b=.none:=e;erw[isNot_none (Er (AB f) (Cd.bool st q))]
 ·erw[D4 bs h st f e (Og akq g) λr v k l=>Cd.bool l k]
 ·erw[QG bs h st f e (Og akq g) λr v k l=>Cd.bool l k]
def akp:Expr->Nat
 |.BoolOp ..=>1|.UnaryOp ..=>2|.IfExp ..=>3|.Set ..=>4|.ListComp ..=>5|.SetComp ..=>6|.DictComp ..=>7|.Compare ..=>8|.Call _ [] _ _=>9|.Starred ..=>10|.Name ..=>11|.Tuple ..=>12|.Slice ..=>13|_=>0
def Li (e:Expr):Bool:=akp e==5||akp e==6||akp e==7
def Zm (e:Expr):Bool:=akp e==12
def gg (e:Expr):Bool:=akp e==4
def isSlice (e:Expr):Bool:=akp e==13
def notStar (e:Expr):Bool:=akp e !=10
def gn (e:Expr):Bool:=akp e !=9
def yl (e:Expr):Bool:=!(akp e==1||akp e==2||akp e==3||akp e==8)
theorem jn {l r:Expr}{p o:ME}(I:Pd c P n sc nm l p)(G:Pd c P n sc nm r o){A:Around} {env:Env} {T F:Tb} {H:MH} {L:List MV} {s:Shared} {K:MV->MV->MH->Prop} {g:Type} {Q:g->Shared->Prop} {t:Value->Value->Sem g}(m:Rm n A) (q:Bf c env sc) (lf:Hk c env nm L T F) (st:St c H T F s) (h:Yd P p L H λx e=>Yd P o L e λy H2=>K x y H2)(k:∀x y a b H' d s',T.le d->St c H' d F s'->VR c d x a->VR c d y b->K x y H'->wpAny (ako c) A (t a b) Q akn s'):wpAny (ako c) A (eval l env>>=λa=>holding [a] (eval r env)>>=λb=>t a b) Q akn s:=by erw[xc (zc (I A env T F H L s _ m q lf st h) (λa R D=>?_) λzz zz f=>f)];obtain⟨x,e,N,j,O,v,z⟩:=D;erw[xc (Bc (zc (G A env N F e L R _ m q (lf.mono j) O z) (λb B J=>?_) λzz zz f=>f))];obtain⟨y,H2,M,i,C,u,w⟩:=J;erw[k x y a b H2 M B (aks j i) C (VR.mono i _ _ v) u w]
theorem Mj (o:Pd c P n sc nm e me){K:MV->MH->Prop} {d:Type} {Q:d->Shared->Prop} {t:Value->Sem d}(j:Rm n A) (p:Bf c env sc) (lf:Hk c env nm L T F) (st:St c H T F s) (h:Yd P me L H K)(k:∀x a H' b s',T.le b->St c H' b F s'->VR c b x a->K x H'->wpAny (ako c) A (t a) Q akn s'):wpAny (ako c) A (eval e env>>=t) Q akn s:=by erw[xc (zc (o A env T F H L s _ j p lf st h) (λa v m=>?_) λzz zz f=>f)];obtain⟨x,u,q,i,r,g,l⟩:=m;erw[k x a u q v i r g l]
theorem vj (o:ui c P n sc nm e me){K:Bool->MH->Prop} {d:Type} {Q:d->Shared->Prop} {t:Bool->Sem d}(j:Rm n A) (p:Bf c env sc) (lf:Hk c env nm L T F) (st:St c H T F s) (h:ww P me L H K)(k:∀b H' g s',T.le g->St c H' g F s'->K b H'->wpAny (ako c) A (t b) Q akn s'):wpAny (ako c) A (isTrue e env (eval e env)>>=t) Q akn s:=by erw[xc (zc (o A env T F H L s _ j p lf st h) (λa v m=>?_) λzz zz f=>f)];obtain⟨u,q,i,r,l⟩:=m;erw[k a u q v i r l]
theorem yO (bs:Bs c mg mb){pos:Pos}(j:Pd c P n sc nm l ml)(i:Pd c P n sc nm r mr):Pd c P n sc nm (.BinOp l o r pos) (.bin o ml mr):=by intro A m T F H L s Q g k lf st h;rw[arm_eval_BinOp];erw[jn j i g k lf st h λx y a b w v u le t e d q=>xc (Cc (wpAny_operating (zc (jX bs q t e d) (λzz zz p=>p.up le) λzz zz f=>f)))]
theorem rn {Q:Bool->MH->Prop}{x:MV}{H:MH}(h:ul Q x H):∃b,truth x=some b/\Q b H:=Me h
theorem tn {A:Around}{T F:Tb}{H:MH}{s:Shared}{x:MV}{a:Value}{b:Bool}{Q:Bool->Shared->Prop}(st:St c H T F s)(d:VR c T x a)(e:truth x=some b)(q:Q b s):wpAny (ako c) A (truthy a) Q akn s:=by
 cases x<;>first|(first|exact nn e|obtain rfl:=(oa e);done)|skip
 ·obtain rfl:=d;exact Er ((oa e)) (wpAny_truthy_bool q)
 ·obtain⟨t,rfl⟩:=d;obtain rfl:=(oa e);exact PyProof.Rows.truthy_int q
theorem CB {e:Expr}{b:ME}{pos:Pos}(g:Pd c P n sc nm e b):Pd c P n sc nm (.UnaryOp .USub e pos) (.neg b):=by intro A k T F H L s Q f j lf st h;rw[arm_eval_UnaryOp];erw[Mj g f j lf st h λx a r p o le m d q=>xc (Cc (Bc ?_)),Sd (Be q) λi l q=>?_];subst l;erw[Xh a d λt=>(PyProof.Rows.neg_int ((Cd.int _ m q).up le))]
theorem zO {e:Expr}{d:ME}{pos:Pos}(j:Pd c P n sc nm e d):Pd c P n sc nm (.UnaryOp .Not e pos) (.not d):=by intro A m T F H L s Q i l lf st h;rw[arm_eval_UnaryOp];erw[Mj j i l lf st h λx a r p o le f g q=>xc (Cc (Bc ?_)),Sd (rn q) λb k q=>?_];unfold unaryOp;erw[Bc ?_];show wpAny _ _ (do return Value.bool (!(<-truthy a)):Sem Value) _ _ _;erw[xc (tn f g k (yc ((Cd.bool f q).up le)))]
theorem Xo (h:gg e=false):markedBehindIn o e t=t:=by
 haveI a:behindInMarks o e=false:=by cases e<;>first|rfl|(exact tf h;done)
 unfold markedBehindIn;erw[Er a rfl]
theorem AO (bs:Bs c mg mb){pos:Pos}(k:gg r=false)(m:Pd c P n sc nm l ml)(j:Pd c P n sc nm r mr):Pd c P n sc nm (.Compare l [o] [r] pos) (.cmp o ml mr):=by intro A d T F H L s Q e t lf st h;show wpAny _ _ (eval l d>>=λa=>holding [a] (markedBehindIn o r (eval r d))>>=λb=>standAt pos>>=λzz=>operate [a,b] (compareOp o a b)) _ _ _;erw[Er (Xo k) (jn m j e t lf st h λx y a b z w v le u i g q=>xc (Cc (wpAny_operating (zc (SG bs q u i g e.units) (λzz zz p=>p.up le) λzz zz f=>f))))]
theorem ZG {A:Around}{T F:Tb}{Q:Bool->MH->Prop}{v:Value}{s:Shared}(h:Cd c T F (ul Q) v s):wpAny (ako c) A (truthy v) (yw c T F Q) akn s:=by obtain⟨x,j,i,f,d,e,a⟩:=h;erw[Sd (rn a) λb g a=>(tn d e g ⟨j,i,f,d,a⟩)]
theorem aH (bs:Bs c mg mb){pos:Pos}(m:gg r=false)(t:Pd c P n sc nm l ml)(k:Pd c P n sc nm r mr):ui c P n sc nm (.Compare l [o] [r] pos) (.cmp o ml mr):=by intro A e T F H L s Q g u lf st h;show wpAny _ _ (eval l e>>=λa=>holding [a] (markedBehindIn o r (eval r e))>>=λb=>standAt pos>>=λzz=>operate [a,b] (compareOp o a b)>>=λd=>holding [d] (truthy d)) _ _ _;erw[Er (Xo m) (jn t k g u lf st h λx y a b D C B le w j i q=>xc (Cc (xc (wpAny_operating (zc (SG bs q w j i g.units) (λv z p=>?_) λzz zz f=>f))))),Bc (ZG (p.up le))]
theorem isTrue_plain (h:yl e=true)(env:Env)(t:Sem Value):isTrue e env t=(do let v<-t;standAt e.pos;holding [v] (truthy v)):=by cases e<;>first|rfl|(exact ft h;done)
theorem lz (env:Env)(t:Sem Value):isTrue (.UnaryOp .USub e p) env t=(do let v<-t;standAt (Expr.UnaryOp .USub e p).pos;holding [v] (truthy v)):=rfl
theorem DB (d:∀env t,isTrue e env t=(do let v<-t;standAt e.pos;holding [v] (truthy v)))(b:Pd c P n sc nm e me):ui c P n sc nm e me:=by intro A env T F H L s Q a g lf st h;rw[d];erw[xc (zc (b A env T F H L s _ a g lf st h) (λv i p=>xc (Cc (Bc (ZG p)))) λzz zz f=>f)]
theorem bH {e:Expr}{a:ME}{pos:Pos}(f:ui c P n sc nm e a):ui c P n sc nm (.UnaryOp .Not e pos) (.not a):=by intro A i T F H L s Q d g lf st h;rw[eO]at h;rw[arm_isTrue_UnaryOp];erw[vj f d g lf st h λb l k m le j q=>yc ⟨l,k,le,j,q⟩]
theorem cH {e:Expr}{a:ME}{pos:Pos}(f:ui c P n sc nm e a):ui c P n sc nm (.BoolOp o [e] pos) a:=by intro A i T F H L s Q d g lf st h;rw[arm_isTrue_BoolOp,arm_allTrue_cons];erw[vj f d g lf st h λb l k m le j q=>?_];cases o<;>cases b<;>exact yc ⟨l,k,le,j,q⟩
theorem dH {d:List Expr}{i g:ME}{pos:Pos}(v:ui c P n sc nm l i)(u:ui c P n sc nm (.BoolOp .And (m::d) pos) g):ui c P n sc nm (.BoolOp .And (l::m::d) pos) (.and i g):=by
 intro A a T F H L s Q e j lf st h;rw[qB]at h;rw[arm_isTrue_BoolOp,arm_allTrue_cons];erw[vj v e j lf st h λb r o t le k q=>?_];cases b with
 |false=>exact yc ⟨r,o,le,k,q.2 rfl⟩|true=>exact zc (u A a o F r L t Q e j (lf.mono le) k (q.1 rfl)) (λzz zz p=>p.up le) λzz zz f=>f
theorem BO {d:List Expr}{i g:ME}{pos:Pos}(v:ui c P n sc nm l i)(u:ui c P n sc nm (.BoolOp .Or (m::d) pos) g):ui c P n sc nm (.BoolOp .Or (l::m::d) pos) (.or i g):=by
 intro A a T F H L s Q e j lf st h;rw[lG]at h;rw[arm_isTrue_BoolOp,arm_allTrue_cons];erw[vj v e j lf st h λb r o t le k q=>?_];cases b with
 |true=>exact yc ⟨r,o,le,k,q.1 rfl⟩|false=>exact zc (u A a o F r L t Q e j (lf.mono le) k (q.2 rfl)) (λzz zz p=>p.up le) λzz zz f=>f
theorem eH {t a b:Expr}{j k l:ME}{pos:Pos}(u:ui c P n sc nm t j)(w:ui c P n sc nm a k)(v:ui c P n sc nm b l):ui c P n sc nm (.IfExp t a b pos) (.ite j k l):=by
 intro A d T F H L s Q e g lf st h;rw[arm_isTrue_IfExp];erw[vj u e g lf st h λt r o i le m q=>?_];cases t with
 |true=>exact Ju rfl (zc (w A d o F r L i Q e g (lf.mono le) m (q.1 rfl)) (λzz zz p=>p.up le) λzz zz f=>f)|false=>exact ug Na (zc (v A d o F r L i Q e g (lf.mono le) m (q.2 rfl)) (λzz zz p=>p.up le) λzz zz f=>f)
theorem CO {t a b:Expr}{j k l:ME}{pos:Pos}(u:ui c P n sc nm t j)(w:Pd c P n sc nm a k)(v:Pd c P n sc nm b l):Pd c P n sc nm (.IfExp t a b pos) (.ite j k l):=by
 intro A d T F H L s Q e g lf st h;rw[arm_eval_IfExp];erw[vj u e g lf st h λt r o i le m q=>?_];cases t with
 |true=>exact Ju rfl (zc (w A d o F r L i Q e g (lf.mono le) m (q.1 rfl)) (λzz zz p=>p.up le) λzz zz f=>f)|false=>exact ug Na (zc (v A d o F r L i Q e g (lf.mono le) m (q.2 rfl)) (λzz zz p=>p.up le) λzz zz f=>f)
theorem DO {l m:Expr}{i:List Expr}{o k:ME}{pos:Pos}(v:Pd c P n sc nm l o)(u:Pd c P n sc nm (.BoolOp .And (m::i) pos) k):Pd c P n sc nm (.BoolOp .And (l::m::i) pos) (.and o k):=by
 intro A d T F H L s Q j r lf st h;erw[Mj v j r lf st h λx a z y t le e g q=>xc (Cc (xc (Bc ?_)))];obtain⟨b,w,q⟩:=rn q;erw[tn e g w ?_];cases b with
 |true=>exact zc (u A d y F z L t Q j r (lf.mono le) e (q.1 rfl)) (λzz zz p=>p.up le) λzz zz f=>f|false=>exact yc (Cd.up le (Cd.of e g (q.2 rfl)))
theorem pX {l m:Expr}{i:List Expr}{o k:ME}{pos:Pos}(v:Pd c P n sc nm l o)(u:Pd c P n sc nm (.BoolOp .Or (m::i) pos) k):Pd c P n sc nm (.BoolOp .Or (l::m::i) pos) (.or o k):=by
 intro A d T F H L s Q j r lf st h;erw[Mj v j r lf st h λx a z y t le e g q=>xc (Cc (xc (Bc ?_)))];obtain⟨b,w,q⟩:=rn q;erw[tn e g w ?_];cases b with
 |false=>exact zc (u A d y F z L t Q j r (lf.mono le) e (q.2 rfl)) (λzz zz p=>p.up le) λzz zz f=>f|true=>exact yc (Cd.up le (Cd.of e g (q.1 rfl)))
def wj (c:Cx)(P:Pg)(n:Nat)(sc:Scope)(nm:List Str)(vi:List Expr)(Yo:qh):Prop:=
 ∀(pos:Pos)(A:Around)(env:Env)(T F:Tb)(H:MH)(L:List MV)(s:Shared)(Q:List MV->MH->Prop),Rm n A->Bf c env sc->Hk c env nm L T F->St c H T F s->zh P Yo L H Q->
  wpAny (ako c) A (spliced (backTo pos (starEach vi env))) (Z3 c T F Q) akn s
theorem zo (h:notStar e=true)(r:List Expr)(env:Env):starEach (e::r) env=(false,eval e env)::starEach r env:=by cases e<;>first|rfl|(exact ft h;done)
theorem vn:wj c P n sc nm [] .nil:=by intro pos A a T F H L s Q b d lf st h;erw[PySem.Calls.spliced_nil ⟨[],H,T,akt T,st,trivial,h⟩]
theorem Ci (u:notStar e=true)(w:Pd c P n sc nm e me)(v:wj c P n sc nm r mr):wj c P n sc nm (e::r) (.cons me mr):=by intro pos A d T F H L s Q j k lf st h;rw[zo u];erw[PySem.Calls.spliced_cons (zc (w A d T F H L s _ j k lf st h) (λa J t=>?_) λzz zz f=>f)];obtain⟨x,I,C,i,D,m,p⟩:=t;erw[zc (v pos A d C F I L J _ j k (lf.mono i) D p) (λb K z=>?_) λzz zz f=>f];obtain⟨y,G,B,g,q,l,o⟩:=z;exact⟨x::y,G,B,aks i g,q,⟨VR.mono g _ _ m,l⟩,o⟩
theorem EO (l:wj c P n sc nm es Yo):Pd c P n sc nm (.List es pos) (.lst Yo):=by intro A a T F H L s Q g m lf st h;erw[wpAny_List (zc (l pos A a T F H L s _ g m lf st h) (λo e p=>?_) λzz zz f=>f)];obtain⟨y,r,q,d,k,b,j,i⟩:=p;exact⟨by rw[<-b.length];exact uf j,(Cd.list (Q:=Q) e.toks k b i).up d⟩
theorem EB (m:wj c P n sc nm es Yo):Pd c P n sc nm (.Tuple es k pos) (.tup Yo):=by intro A a T F H L s Q g o lf st h;erw[wpAny_Tuple (zc (m pos A a T F H L s _ g o lf st h) (λq e p=>?_) λzz zz f=>f)];obtain⟨y,t,r,d,l,b,j,i⟩:=p;exact⟨by rw[<-b.length];exact uf j,(Cd.tup (Q:=Q) e.toks l b i).up d⟩
set_option tactic.hygienic true in
theorem Iw {a d:Expr}{g:String}{l:String}{o i:Value}{Q:Value->Shared->Prop}{E:Value->Shared->Prop}(m:typeLookup (.type g) "__getitem__"=pure (some (.builtin l)))(f:s.TypeIs o g)(h:wpAny (ako c) A (getItem o i) Q E s):wpAny (ako c) A (getitemInPython o>>=λb=>subscripted d b o i>>=λr=>letTemporaryGo a o r>>=λzz=>pure r) Q E s:=by
 erw[xc ?_];rw[getitemInPython_of_ne f.not_modules];erw[xc (wpAny_specialOf f m ?_)];have fin:∀e,wpAny (ako c) A (operate e (getItem o i)) (λr j=>wpAny (ako c) A (letTemporaryGo a o r>>=λzz=>pure r) Q E j) E s:=λe=>
  wpAny_operating (zc h (λr j k=>xc (wpAny_letTemporaryGo (yc k))) λzz zz x=>x)
 erw[yc (xc ?_)];cases d<;>first|exact fin _|skip
 rename_i st _;cases st<;>exact fin _
theorem FB (h:n<big):(n:Int)<2^63:=wc (Nb h) akq
theorem Ao (h:tj k n=some j):(0<=k/\k<n/\k.toNat=j)\/(k<0/\-(n:Int)<=k/\(k+n).toNat=j):=by
 delta tj at h;by_cases h0:0<=k
 ·rw[Ec h0]at h;exact(i3 h).elim (λh=>.inl ⟨h0,h⟩) λh=>nomatch h.2
 ·rw[Dc h0]at h;exact(i3 h).elim (λh=>.inr ⟨Int.lt_of_not_ge h0,h⟩) λh=>nomatch h.2
theorem FO {l:Addr}{items:Array Value}{k:Int}{t:Tok}{j:Nat}{x:Value}{Q:Value->Shared->Prop}{E:Value->Shared->Prop}(b:s.heap.IsList l items)(e:items.size<big)(f:tj k items.size=some j)(a:items[j]?=some x)(h:Q x s):wpAny (ako c) A (getItem (.ref l) (.int k t)) Q E s:=by haveI d:=FB e;exact(Ao f).elim (λg=>(wpAny_getItem_list b g.1 (wc g.2.1 d) (g.2.2▸a) h)) λg=>(wpAny_getItem_list_neg b g.1 g.2.1 (Int.le_trans (Int.neg_le_neg (Int.le_of_lt d)) g.2.1) (g.2.2▸a) h)
theorem GO (h:tj k n=some j):seqIndex? k n=some j:=by
 unfold seqIndex?;refine(Ao h).elim (λg=>?_) λg=>?_
 ·rw[Dc (Int.not_lt.mpr g.1),Ec ((Da _ _).mpr ⟨Pb g.1,Pb g.2.1⟩),g.2.2]
 ·rw[Ec g.1,Ec ((Da _ _).mpr ⟨Pb (aaq g.2.1),Pb (Z2 g.1)⟩),g.2.2]
theorem Ee.at {vs:List MV}{items:Array Value}{i:Nat}{v:MV}(h:Ee c T vs items.toList)(e:vs[i]?=some v):∃x,items[i]?=some x/\VR c T v x:=by erw[Sd (h.get e) λx b a=>⟨x,by exact(Array.getElem?_toList)▸b,a⟩]
theorem Zo (h:tj k n=some j):-(n:Int)<=k/\k<n:=
 (Ao h).elim (λh=>⟨aar n h.1,h.2.1⟩) λh=>⟨h.2.1,Int.lt_of_lt_of_le h.1 (Ua n)⟩
theorem fH (bs:Bs c mg mb){Q:MV->MH->Prop}(h:ak x y H Q)(st:St c H T F s)(B:VR c T x a)(q:VR c T y b)(K:A.units+200<cLine):∃I J,typeLookup (.type I) "__getitem__"=pure (some (.builtin J))/\s.TypeIs a I/\wpAny (ako c) A (getItem a b) (Cd c T F Q) akn s:=by
 cases x<;>first|exact h.elim|skip
 ·erw[Xf (Be h) λk N f d=>?_];subst N;erw[Sd (Me d) λv z d=>(we B λp e m O=>(Fi a O λl g=>(Xh b q λt=>?_))),haveI G:=st.2 _ _ l;?_,Sd (fb z) λj o i=>(Sd (g.at i) λx w u=>?_)];rw[g.arr]at o f;haveI C:=Zo o;unfold big at f;exact⟨"tuple",_,PySem.F.slot_tuple_getitem.lookup,⟨_,G,rfl⟩,getItem_tuple ⟨_,G,rfl,_,rfl⟩ (Int.le_trans (Int.neg_le_neg (Int.le_of_lt (FB f))) C.1) (wc C.2 (FB f)) (GO o) w (Cd.of st u d)⟩
 ·obtain rfl:=B;rcases Mm h with⟨U,l,d⟩|⟨S,l,M,d⟩
  ·erw[vf (st.lst l) λe k D g=>?_];obtain⟨k,rfl,f,d⟩:=Be d;erw[Sd (Me d) λv z d=>(Xh b q λt=>(Sd (fb z) λj o i=>(Sd (g.at i) λx w u=>?_)))];rw[g.arr]at o f;exact⟨"list",_,list_getitem_lookup,⟨_,D,rfl⟩,FO ⟨_,D,rfl,_,rfl⟩ f o w (Cd.of st u d)⟩
  ·erw[Sd (Me d) λv g d=>⟨"dict",_,slot_dict_getitem.lookup,Ok st l,LG bs st l M q g (Og akq K) λy V R r=>Cd.of R r d⟩]
theorem HO (bs:Bs c mg mb)(k:Pd c P n sc nm o mo)(hi:Pd c P n sc nm i mi):Pd c P n sc nm (.Subscript o i pos) (.sub mo mi):=by intro A u T F H L s Q d t lf st h;simp only[arm_eval_Subscript];erw[jn k hi d t lf st h λx y a b G D w le v j g q=>xc (Cc ?_),hide λB e=>(ff (fH bs q v j g d.units) λC z r m l=>(e ?_))];clear e;erw[Iw r m (zc l (λzz zz p=>p.up le) λzz zz f=>f)]
theorem pD (items:Array Value)(b:Nat):slicePick items none (some (b:Int)) none=(items.toList.take b).toArray:=by
 erw[Or.elim (Nat.le_total b items.size) (λh=>(slicePick_upto items b h)) (λh=>?_)]
 ·rw[List.take_of_length_le (by simpa using h)];haveI e:sliceBounds none (some (b:Int)) none items.size=sliceBounds none (some (items.size:Int)) none items.size:=by
   simp only[sliceBounds,Option.getD_none];haveI d:¬((b:Int)<0):=Int.not_lt.mpr (Ua b);haveI a:¬((items.size:Int)<0):=Int.not_lt.mpr (Ua _);simp only[d,a,if_false,show(1:Int)>0 by decide,if_true];rw[Int.min_eq_right (Int.ofNat_le.mpr h),Int.min_self]
  haveI:=slicePick_upto items items.size (Qa _);unfold slicePick at this⊢;rw[e,this,List.take_of_length_le (by simp)]
theorem Jw {g:Type}{vs:List g}{lo hi:MV}{a b:Value}{K:List g->Prop}(h:cut vs lo hi K)(o:VR c T lo a)(m:VR c T hi b):∃r l u,K r/\IsPart a l/\IsPart b u/\vs.length<big/\∀(R:List g->List Value->Prop)(items:Array Value),vs.length=items.size->(∀i,R (vs.take i) (items.toList.take i))->(∀i,R (vs.drop i) (items.toList.drop i))->(∀i j,R ((vs.drop i).take j) ((items.toList.drop i).take j))->R r (slicePick items l u none).toList:=by
 obtain⟨p,h⟩:=h;cases lo<;>first|exact h.elim|skip
 ·erw[Xf (Be h) λk y f d=>?_];subst y;obtain rfl:=o;obtain⟨t,rfl⟩:=m;refine⟨_,_,_,d,.none,.int _ _,p,λR items e d w v=>?_⟩;haveI:=pD items k.toNat;rw[Int.toNat_of_nonneg f]at this;rw[this];exact d _
 ·cases hi<;>first|exact h.elim|skip
  ·erw[pj h λf q d=>?_];obtain⟨t,rfl⟩:=o;obtain rfl:=m;refine⟨_,_,_,d,.int _ _,.none,p,λR items e d w v=>?_⟩;haveI:=slicePick_from items _ ((e)▸Int.toNat_le.mpr q);rw[Int.toNat_of_nonneg f]at this;rw[this];exact w _
  ·erw[fj h λf x q d=>?_];obtain⟨t,rfl⟩:=o;obtain⟨u,rfl⟩:=m;refine⟨_,_,_,d,.int _ _,.int _ _,p,λR items e d w v=>?_⟩;haveI:=slicePick_run items _ _ ((e)▸Int.toNat_le.mpr q) (Int.toNat_le_toNat x);rw[Int.toNat_of_nonneg f,Int.toNat_of_nonneg (Int.le_trans f x)]at this;rw[this];exact v _ _
theorem Xs {vs:List Value}{ns:List Int}(h:IntsAre vs ns):∀i,IntsAre (vs.take i) (ns.take i):=by
 induction h with
 |nil=>intro i;simp;exact .nil
 |cons a t r b=>intro i;cases i with
  |zero=>exact .nil|succ i=>exact .cons a t (b i)
theorem Ys {vs:List Value}{ns:List Int}(h:IntsAre vs ns):∀i,IntsAre (vs.drop i) (ns.drop i):=by
 induction h with
 |nil=>intro i;simp;exact .nil
 |cons a t r b=>intro i;cases i with
  |zero=>exact .cons a t r|succ i=>exact b i
theorem Kw {vs:List Value}{ns:List Int}(h:IntsAre vs ns):Ee c T (ns.map .int) vs:=by
 induction h with
 |nil=>trivial|cons a t r b=>exact⟨⟨t,rfl⟩,b⟩
theorem Lw {vs:List Value}{ns:List Int}(h:IntsAre vs ns):ns.length=vs.length:=by
 induction h with
 |nil=>rfl|cons a t r b=>simp[b]
set_option tactic.hygienic true in
theorem gH {x lo hi:MV}{a b d:Value}{Q:MV->MH->Prop}{D:Addr}(h:Hj x lo hi H Q)(st:St c H T F s)(C:VR c T x a)(z:VR c T lo b)(B:VR c T hi d)(G:s.heap.IsSliceOf D b d .none):s.TypeIs a "list"/\wpAny (ako c) A (getItem a (.ref D)) (Cd c T F Q) akn s:=by
 cases x<;>first|exact h.elim|skip
 ·obtain rfl:=C;erw[Sd (Pe h) λR q N=>(vf (st.lst q) λf k I m=>(hide λy g=>(We (Jw N z B) λr l u v M=>(fj M λp1 p2 o t=>(g ?_)))))];clear g;refine⟨⟨_,I,rfl⟩,wpAny_getItem_list_slice ⟨_,I,rfl,_,rfl⟩ G p1 p2 .none (by nofun) ?_ (by rw[<-m.arr];exact uf o)⟩;haveI:=Cd.list (Q:=Q) s.toks st (t (λa b=>Ee c T a b) f m.arr (λi=>m.take i) (λi=>m.drop i) (λi j=>(m.drop i).take j)) v;rwa[Array.toArray_toList]at this
 ·rename_i ns;haveI h:cut ns lo hi λr=>alloc H (.list (r.map .int)) Q:=h;erw[hide λy g=>(We C λp f k O K=>(eA K λq m=>?_))];subst O;erw[g ?_];clear g;have J:=st.2 _ _ q;erw[hide λy g=>(hide λy g=>(We (Jw h z B) λr l u v w=>(fj w λp1 p2 o t=>(g ?_))))];clear g;erw[g ?_];clear g;have e:ns.length=f.size:=by simp only[Lw m,Array.length_toList]
  refine⟨⟨_,J,rfl⟩,wpAny_getItem_list_slice ⟨_,J,rfl,_,rfl⟩ G p1 p2 .none (by nofun) ?_ (by rw[<-e];exact uf o)⟩;haveI:=Cd.list (Q:=Q) s.toks st (Kw (t (λa b=>IntsAre b a) f e (λi=>Xs m i) (λi=>Ys m i) (λi j=>Xs (Ys m i) j))) v;rwa[Array.toArray_toList]at this
def JO (c:Cx)(P:Pg)(n:Nat)(sc:Scope)(nm:List Str)(pe:Option Expr)(me:ME):Prop:=
 (pe=none/\me=.cst .none)\/∃e,pe=some e/\Pd c P n sc nm e me
theorem GB (a:JO c P n sc nm e me){K:MV->MH->Prop}(b:Rm n A) (d:Bf c env sc) (lf:Hk c env nm L T F) (st:St c H T F s) (h:Yd P me L H K):wpAny (ako c) A (valueOrNone (evalOpt e env)) (Cd c T F K) akn s:=by
 rcases a with⟨rfl,rfl⟩|⟨e,rfl,a⟩
 ·erw[yc (Cd.of (mv:=.none) st rfl h)]
 ·erw[a A env T F H L s K b d lf st h]
theorem rD {o:Expr}{lo hi:Option Expr}{mo t u:ME}{p pos:Pos}(I:Pd c P n sc nm o mo)(J:JO c P n sc nm lo t)(K:JO c P n sc nm hi u):Pd c P n sc nm (.Subscript o (.Slice lo hi none p) pos) (.slice mo t u):=by intro A O T F H L s Q g k lf st h;simp only[arm_eval_Subscript];erw[Mj I g k lf st h λx a H1 Z W l U B q=>?_];simp only[arm_eval_Slice];erw[xc (Bc (xc (zc (GB J g k (lf.mono l) U q) (λb V j=>?_) λzz zz f=>f)))];obtain⟨y,H2,Y,i,G,w,D⟩:=j;erw[xc (Bc (zc (GB K g k (lf.mono (aks l i)) G D) (λd r M=>?_) λzz zz f=>f))];obtain⟨z,H3,X,m,R,v,C⟩:=M;erw[xc (Bc (yc (wpAny_newObj_type ?_))),xc (Cc ?_)];haveI S:=R.grow (s':={r with heap:=r.heap.push {cls:=.type "slice",data:=.fields #[b,d,.none]}}) λb o e=>Wc _ e;obtain⟨N,j⟩:=gH (A:=A) C S (VR.mono (aks i m) _ _ B) (VR.mono m _ _ w) v (Heap.IsSliceOf.new ..);erw[Iw list_getitem_lookup N (zc j (λzz zz p=>p.up (aks l (aks i m))) λzz zz f=>f)]
def Own (env:Env)(b:Addr):Prop:=b=env.locals\/∃x,env.kindOf x=some .cell/\env.cells.lookup x=some b
inductive Fr (c:Cx)(env:Env)(nm:List Str)(L:List MV)(H:MH)(T F:Tb)(s:Shared):Prop
 |mk (len:nm.length=L.length) (ns:∃m,s.heap.Ns env.locals m/\∀(i:Nat)(x:Str)(v:MV),nm[i]?=some x->env.kindOf x=some .local->L[i]?=some v->v≠.td->∃pv,m x=some pv/\VR c T v pv) (has:∀x a,env.kindOf x=some .cell->env.cells.lookup x=some a->∃w,s.heap.IsCell a w) (cells:∀(i:Nat)(x:Str)(v:MV),nm[i]?=some x->env.kindOf x=some .cell->L[i]?=some v->v≠.td->∃a pv,env.cells.lookup x=some a/\s.heap.IsCell a (some pv)/\VR c T v pv) (frees:∀(i:Nat)(x:Str)(v:MV),nm[i]?=some x->env.kindOf x=some .free->L[i]?=some v->v≠.td->∃a o pv,env.cells.lookup x=some a/\F a=some o/\o.data=.cell (some pv)/\VR c T v pv) (ap:∀b,Own env b->H b=none/\T b=none/\F b=none/\c.P≠b) (apart:∀x y a,env.kindOf x=some .cell->env.kindOf y=some .cell->env.cells.lookup x=some a->env.cells.lookup y=some a->x=y) (apl:∀x a,env.kindOf x=some .cell->env.cells.lookup x=some a->a≠env.locals)
section
variable {s:Shared}
open Classical in
def qm (env:Env)(s:Shared)(F:Tb):Tb:=λb=>if Own env b then s.heap.get? b else F b
theorem xj (h:Own env b):qm env s F b=s.heap.get? b:=by unfold qm;rw[Ec h]
theorem yj (h:¬Own env b):qm env s F b=F b:=by unfold qm;rw[Dc h]
theorem Fr.le (b:Fr c env nm L H T F s):F.le (qm env s F):=λa o e=>by
 by_cases h:Own env a
 ·rw[(b.6 a h).2.2.1]at e;exact nn e
 ·rw[yj h];exact e
theorem Fr.st (b:Fr c env nm L H T F s)(st:St c H T F s):St c H T (qm env s F) s:=
 .mk
 (Qm:=st.1)
 (Sm:=st.2)
 (Tm:=λa o e=>by
  by_cases h:Own env a
  ·rwa[xj h]at e
  ·rw[yj h]at e;exact st.3 a o e)
 (iO:=st.4)
 (jO:=λa o e=>by
  by_cases h:Own env a
  ·rw[(b.6 a h).1]at e;exact nn e
  ·rw[yj h];exact st.5 a o e)
 (Eu:=λa o e=>by
  by_cases h:Own env a
  ·exact(b.6 a h).2.1
  ·rw[yj h]at e;exact st.6 a o e)
 (base:=st.7)
 (gens:=st.8)
 (os:=st.9)
 (tab:=st.10)
 (kO:=⟨st.11.1,st.11.2.1,by
  rw[yj λh=>(b.6 _ h).2.2.2 rfl];exact st.11.2.2⟩)
theorem Fr.lf (e:Fr c env nm L H T F s):Hk c env nm L T (qm env s F):=
 .mk
 (len:=e.1)
 (ns:=by
  erw[Sd e.2 λm I h=>(We I λo u w D G=>(pj G λC B y=>⟨o,u,w,by rw[xj (.inl rfl)];exact D,C,B,λi x v j b g f=>?_⟩))]
  exact Sd (h i x v j b g f) λd p q=>(⟨d,by rw[y];exact p,q⟩))
 (cells:=λi x v j b g f=>by
  rcases b with b|b
  ·erw[ff (e.4 i x v j b g f) λa d p k r=>(Sd k λo t l=>⟨a,o,d,p,by rw[xj (.inr ⟨x,b,p⟩)];exact t,l,r⟩)]
  ·exact We (e.5 i x v j b g f) λa o d p J=>(pj J λq r z=>(⟨a,o,d,p,e.le _ _ q,r,z⟩)))
theorem Fr.next (f:Fr c env nm L H T F s)(le:T.le T')(u:St c H' T' (qm env s F) s'):Fr c env nm L H' T' F s'/\St c H' T' F s':=by
 haveI y:∀b,Own env b->∀o,s.heap.get? b=some o->s'.heap.get? b=some o:=λb h o e=>u.3 b o (by rw[xj h];exact e);haveI ex:∀b,Own env b->∃o,s.heap.get? b=some o:=λb h=>by
  rcases h with rfl|⟨x,g,d⟩
  ·obtain⟨m,⟨o,D,G,j,_⟩,_⟩:=f.2;exact⟨o,j⟩
  ·obtain⟨w,o,j,_⟩:=f.3 x b g d;exact⟨o,j⟩
 refine⟨⟨f.1,?_,?_,?_,?_,?_,f.7,f.8⟩,u.Gk f.le⟩
 ·erw[Sd f.2 λm I h=>(We I λo D G j B=>⟨m,⟨o,D,G,y _ (.inl rfl) _ j,B⟩,λi x v g d t l=>?_⟩),Sd (h i x v g d t l) λk p q=>⟨k,p,VR.mono le _ _ q⟩]
 ·intro x a g d;erw[vf (f.3 x a g d) λw o j B=>⟨w,o,y _ (.inr ⟨x,g,d⟩) _ j,B⟩]
 ·intro i x v g d t l;erw[ff (f.4 i x v g d t l) λa k p O r=>(Sd O λo K J=>⟨a,k,p,⟨o,y _ (.inr ⟨x,d,p⟩) _ K,J⟩,VR.mono le _ _ r⟩)]
 ·intro i x v g d t l;erw[We (f.5 i x v g d t l) λa o k p M=>(pj M λq r z=>⟨a,o,k,p,q,r,VR.mono le _ _ z⟩)]
 ·intro b h;erw[eE (ex b h) λo e=>?_];have C:qm env s F b=some o:=by rw[xj h];exact e
  refine⟨?_,u.6 b o C,(f.6 b h).2.2⟩;cases q:H' b with
  |none=>rfl|some N=>haveI:=u.5 b N q;rw[C]at this;exact ns this
theorem Fr.grow (d:Fr c env nm L H T F s)(k:∀b o,s.heap.get? b=some o->s'.heap.get? b=some o):Fr c env nm L H T F s':=by
 refine⟨d.1,(Sd d.2 λm D h=>(We D λo B C j g=>⟨m,⟨o,B,C,k _ _ j,g⟩,h⟩)),?_,?_,d.5,d.6,d.7,d.8⟩
 ·intro x a f e;erw[vf (d.3 x a f e) λw o j g=>⟨w,o,k _ _ j,g⟩]
 ·intro i x v f e z y;erw[ff (d.4 i x v f e z y) λa t p u r=>(Sd u λo q l=>⟨a,t,p,⟨o,k _ _ q,l⟩,r⟩)]
inductive agO (sc:Scope)(nm:List Str):Prop
 |mk (nodup:nm.Nodup)
theorem nz {nm:List Str}(nd:nm.Nodup){i j:Nat}{x:Str}(a:nm[i]?=some x)(b:nm[j]?=some x):i=j:=
 (Vc (Fa a).1 nd).mp (a.trans b.symm)
theorem sd (h:(L.set i v)[j]?=some w):(i=j/\w=v)\/(i≠j/\L[j]?=some w):=by
 rw[List.getElem?_set]at h;have h:=h;split at h
 ·rename_i e;split at h<;>(first|obtain rfl:=(oa h)|exact nn h);erw[.inl ⟨e,rfl⟩]
 ·rename_i e;exact .inr ⟨e,h⟩
theorem Fr.store (k:Fr c env nm L H T F s)(st:St c H T F s)(nd:nm.Nodup)(W:Bf c env sc){Q:Unit->Shared->Prop}{E:Value->Shared->Prop}(z:nm[i]?=some x) (u:sc.names.lookup x=some .local\/(sc.names.lookup x=some .cell/\(env.cells.lookup x).isSome=true)) (Z:VR c T v I)(h:∀s',St c H T F s'->Fr c env nm (L.set i v) H T F s'->Q () s'):wpAny (ako c) A (bindName env x I) Q E s:=by
 have G:∀x,env.kindOf x=sc.names.lookup x:=λx=>by unfold Env.kindOf;rw[W.Rr]
 have Y:env.scope.kind=.function:=by rw[W.Rr];exact W.kind
 erw[wpAny_bindName ?_];rcases u with u|⟨u,hc⟩
 ·erw[hide λZz Od=>?_];obtain⟨m,hm,V⟩:=k.2;erw[Od ?_];clear Od;erw[wpAny_storeName_local ((G x).trans u) hm (λJ Mw O=>?_) (by rw[Y];rfl)];have l:∀b B,b≠env.locals->s.heap.get? b=some B->J.get? b=some B:=λb B l e=>(O.2 b l).trans e;have ap:=k.6 env.locals (.inl rfl);erw[h _ (st.but (s':={s with heap:=J,toks:=s.toks+1}) l ap.1 ap.2.1 ap.2.2.1 ap.2.2.2) ⟨by rw[length_set];exact k.1,⟨_,Mw,?_⟩,?_,?_,?_,k.6,k.7,k.8⟩]
  ·intro j y w d f g t;rcases sd g with⟨rfl,rfl⟩|⟨C,g⟩
   ·rw[z]at d;obtain rfl:=(oa d);exact⟨I,by simp,Z⟩
   ·erw[Sd (V j y w d f g t) λp q r=>⟨p,?_,r⟩];rw[Dc];exact q;rintro rfl;exact C (nz nd z d)
  ·intro y a d f;erw[vf (k.3 y a d f) λw o M K=>⟨w,o,l _ _ (k.8 y a d f) M,K⟩]
  ·intro j y w d f g t;rcases sd g with⟨rfl,rfl⟩|⟨C,g⟩
   ·rw[z]at d;obtain rfl:=(oa d);rw[G,u]at f;exact Xi NameKind.ctorIdx (oa f) rfl
   ·erw[ff (k.4 j y w d f g t) λa I p Lq r=>(Sd Lq λo S R=>⟨a,I,p,⟨o,l _ _ (k.8 y a f p) S,R⟩,r⟩)]
  ·intro j y w d f g t;rcases sd g with⟨rfl,rfl⟩|⟨C,g⟩
   ·rw[z]at d;obtain rfl:=(oa d);rw[G,u]at f;exact Xi NameKind.ctorIdx (oa f) rfl
   ·erw[k.5 j y w d f g t]
 ·obtain⟨a,D⟩:=Option.isSome_iff_exists.mp hc;have N:env.kindOf x=some .cell:=(G x).trans u;obtain⟨agP,hw⟩:=k.3 x a N D;erw[wpAny_storeName_cell Y N D hw λJ Mq O=>?_];have l:∀b B,b≠a->s.heap.get? b=some B->J.get? b=some B:=λb B l e=>(O.2 b l).trans e;haveI ap:=k.6 a (.inr ⟨x,N,D⟩);erw[h _ (st.but (s':={s with heap:=J}) l ap.1 ap.2.1 ap.2.2.1 ap.2.2.2) ⟨by rw[length_set];exact k.1,?_,?_,?_,?_,k.6,k.7,k.8⟩]
  ·erw[Sd k.2 λm X V=>(We X λo es ep M K=>⟨m,⟨o,es,ep,l _ _ (Ne.symm (k.8 x a N D)) M,K⟩,λj y w d f g t=>?_⟩)];rcases sd g with⟨rfl,rfl⟩|⟨C,g⟩
   ·rw[z]at d;obtain rfl:=(oa d);rw[G,u]at f;exact Xi NameKind.ctorIdx (oa f) rfl
   ·erw[V j y w d f g t]
  ·intro y b d f;by_cases e:b=a
   ·subst e;exact⟨_,Mq⟩
   ·erw[vf (k.3 y b d f) λw o M K=>⟨w,o,l _ _ e M,K⟩]
  ·intro j y w d f g t;rcases sd g with⟨rfl,rfl⟩|⟨C,g⟩
   ·rw[z]at d;obtain rfl:=(oa d);exact⟨a,I,D,Mq,Z⟩
   ·erw[ff (k.4 j y w d f g t) λb U p oz r=>(Sd oz λo S R=>⟨b,U,p,⟨o,l _ _ ?_ S,R⟩,r⟩)];rintro rfl;erw[C (nz nd z (by rw[k.7 x y b N f D p];exact d))]
  ·intro j y w d f g t;rcases sd g with⟨rfl,rfl⟩|⟨C,g⟩
   ·rw[z]at d;obtain rfl:=(oa d);rw[G,u]at f;exact Xi NameKind.ctorIdx (oa f) rfl
   ·erw[k.5 j y w d f g t]
end
end
section
open W PyProof.Rows
theorem Ur {r:Addr}{lo hi st:Int}{t u v:Tok}{k:Nat}{R:List Value->Shared->Prop}(I:A.handled=none)(H:IsRange s.heap r lo hi st t u v)(D:Builtin.Range.small lo hi st=true)(d:Builtin.Range.rangeSize lo hi st=k) (j:k<=2^24)(h:∀(h':Heap)(tk:Nat)(n:Array Value),(∀b o,s.heap.get? b=some o->h'.get? b=some o)->ItemsOf (λi v=>∃t,v=.int (lo+i*st) t) n k->R n.toList {s with heap:=h',toks:=tk}):wpAny (ako c) A (collect (.ref r)) R E s:=by
 unfold collect;erw[xc (wpAny_runValue (codeAny_builtin PySem.F.entry_proto_collect ?_))];rw[Around.under_plainId PySem.F.plain_proto_collect _];show wpAny _ A.in1 (newList []>>=λl=>again (.builtin "list.__iadd__" ⟨[l,.ref r],[]⟩)) _ _ s;erw[xc (wpAny_newObj_type ?_),yc ⟨plainId_quiet PySem.F.plain_list_iadd _,codeAny_builtin PySem.F.entry_list_iadd ?_⟩];rw[Around.under_plainId PySem.F.plain_list_iadd _];haveI L:(s.heap.push {cls:=.type "list",data:=.seq ([]:List Value).toArray}).get? s.heap.objs.size=some {cls:=.type "list",data:=.seq #[]}:=Xc _ rfl;show wpAny _ A.in1 (Builtin.List.listExtendWith (.ref s.heap.objs.size) (.ref r) (.ref s.heap.objs.size)) _ _ _;haveI key:=wpAny_extend_range (prog:=c.prog) (w:=c.w) (A:=A) (s:={s with heap:=s.heap.push {cls:=.type "list",data:=.seq ([]:List Value).toArray}}) (R:=λ(q:Result)(z:Shared)=>∃(h':Heap)(tk:Nat)(a:Array Value)(m:Nat),q=.ok (.ret (.ref s.heap.objs.size))/\z={s with heap:=h',toks:=tk}/\ (∀b o,s.heap.get? b=some o->h'.get? b=some o)/\h'.get? s.heap.objs.size=some {cls:=.type "list",dict:=none,data:=.seq a m,slots:=#[]}/\ItemsOf (λi v=>∃t,v=.int (lo+i*st) t) a k)
  I (r:=r) (Wc _ H) D d j s.heap.objs.size (.ref s.heap.objs.size) 0 L
  (λh' tk a m d p g=>⟨h',tk,a,m,rfl,rfl,λb o e=>d b o (Kc (Heap.lt_size e)) (Wc _ e),p,g⟩)
 erw[zc key (λfin z x=>?_) λe z x=>(we x λzz zz zz K=>(Sd K λzz J zz=>(Xi Except.ctorIdx J rfl)))]
 ·cases fin with
  |done f=>
   erw[hide λO B=>?_];obtain⟨h',tk,a,m,e,rfl,d,p,g⟩:=x;erw[B ?_];clear B;obtain rfl:=(Except.ok.inj e);show wpAny _ A (load s.heap.objs.size>>=_) _ _ _;erw[xc (wpAny_load p (yc (h h' tk a d g)))]
  |again c₁=>
   erw[⟨x.1,codeAny_mono x.2 λq G y=>?_⟩,we y λh' tk a M=>(Qf q M λm C=>(Fi G C λd N=>(eA N λp g=>?_)))];show wpAny _ A (load s.heap.objs.size>>=_) _ _ _;erw[xc (wpAny_load p (yc (h h' tk a d g)))]
theorem sD {vs:List MV}{a:Array Value}(b:a.size=vs.length)(h:∀(i:Nat) v x,vs[i]?=some v->a[i]?=some x->VR c T v x):Ee c T vs a.toList:=by
 obtain⟨l⟩:=a;simp only[List.size_toArray,List.getElem?_toArray]at b h;show Ee c T vs l
 induction vs generalizing l with
 |nil=>cases l with|nil=>trivial|cons _ _=>simp at b
 |cons v r d=>cases l with
  |nil=>simp at b|cons x t=>exact⟨h 0 v x rfl rfl,d t (by simpa using b) λi v x f e=>h (i+1) v x (by simpa using f) (by simpa using e)⟩
theorem Pk {lo hi:Int}(a:0<=lo):Builtin.Range.rangeSize lo hi 1=((hi-lo).toNat:Nat):=by
 unfold Builtin.Range.rangeSize;rw[Ec akq];by_cases h:lo<hi
 ·rw[Ec h,Int.ediv_one,Int.sub_add_cancel];exact PW (Int.sub_nonneg_of_le (Int.le_of_lt h))
 ·rw[Dc h];exact tnz (Int.sub_nonpos_of_le (Int.not_lt.mp h))
theorem bp {lo:Int}:Builtin.Range.rangeSize lo (-1) (-1)=((lo+1).toNat:Nat):=by
 unfold Builtin.Range.rangeSize;rw[Dc akq];by_cases h:lo>-1
 ·rw[Ec h,show(- -1:Int)=1 by decide,Int.ediv_one,Int.sub_add_cancel,Int.sub_neg];exact PW (Int.le_of_lt (Int.lt_add_one_of_le (Int.add_one_le_of_lt h)))
 ·rw[Dc h];exact tnz (Int.add_one_le_of_lt (Int.lt_of_le_of_lt (Int.not_lt.mp h) akq))
theorem HB {lo hi:Int}{a:Array Value}(h:ItemsOf (λi v=>∃t,v=.int (lo+i*1) t) a (hi-lo).toNat):Ee c T ((range (hi-lo).toNat).map λ(i:Nat)=>.int (lo+i)) a.toList:=by erw[sD (by rw[h.1,aa,Ca]) λi v x d g=>(Xh x (h.2 i x g) λe=>?_)];rw[za,Ha]at d;erw[Ef v d λj f=>?_];obtain⟨k,b⟩:=Fa f;rw[List.getElem_range]at b;subst b;exact⟨e,by rw[Int.mul_one]⟩
theorem dt {lo hi:Int}(c:0<=lo)(b:lo<big)(a:0<=hi)(h4:hi<big):Builtin.Range.small lo hi 1=true:=by erw[small_one (Int.le_trans akq c) (wc b akq) (Int.le_trans akq a) (wc h4 akq)]
theorem IB {lo hi:Int}(a:((range (hi-lo).toNat).map λ(i:Nat)=>MV.int (lo+i)).length<big):(hi-lo).toNat<=2^24:=by rw[aa,Ca]at a;exact Ba (Ib a) akq
theorem ig {vs:List MV}{items:Array Value}(b:Ee c T vs items.toList)(a:vs.length<big):items.size<=sizeLine:=by rw[<-b.arr];exact uf a
theorem um {v:MV}{vs:List MV}{x:Value}{Q:List Value->Shared->Prop}(o:A.handled=none)(st:St c H T F s)(r:VR c T v x)(e:items? v H=some vs)(g:vs.length<big)(h:∀j s',St c H T F s'->Ee c T vs j->Q j s'):wpAny (ako c) A (collect x) Q E s:=by
 rcases gm e with rfl|⟨p,rfl,hp⟩|⟨lo,hi,rfl,h1,h2,h3,h4,rfl⟩
 ·erw[we r λa items k z=>(Fi x z λi b=>(wpAny_collect_seq (hsz:=ig b g) a (.inr rfl) (st.2 _ _ i) rfl rfl λf d=>h _ _ (st.grow (s':={s with heap:=f}) d) b))]
 ·obtain rfl:=r;erw[vf (st.lst hp) λitems k q b=>(wpAny_collect_seq (hsz:=ig b g) p (.inl rfl) q rfl rfl λf d=>h _ _ (st.grow (s':={s with heap:=f}) d) b)]
 ·erw[we r λa t u n=>(Qf x n λy i=>(Ur o (st.2 _ _ i) (dt h1 h2 h3 h4) (Pk h1) (IB g) λf m w d l=>h _ _ (st.grow (s':={s with heap:=f,toks:=m}) d) (HB l)))]
theorem Nu {v:MV}{vs:List MV}{x:Value}{Q:MV->MH->Prop}(D:A.handled=none)(st:St c H T F s)(r:VR c T v x)(e:items? v H=some vs)(m:vs.length<big)(h:alloc H (.list vs) Q):wpAny (ako c) A (call (.type "list") [x]) (Cd c T F Q) akn s:=by
 have fin:∀(d:Heap)(j:Nat)(items:Array Value)(k:Nat),(∀b o,s.heap.get? b=some o->d.get? b=some o)->d.get? s.heap.objs.size=some (Ge items k)->Ee c T vs items.toList->Cd c T F Q (.ref s.heap.objs.size) {s with heap:=d,toks:=j}:=λd j items k i g f=>
  Cd.of (mv:=.ref _) (st.put (s':={s with heap:=d,toks:=j}) (λb C zz e=>i b C e) (o:=.list vs) ⟨items,k,g,f⟩ (st.bD (de _)) (st.cD (de _)) (st.dD (de _))) rfl (h _ (st.xw (de _)))
 rcases gm e with rfl|⟨p,rfl,hp⟩|⟨lo,hi,rfl,h1,h2,h3,h4,rfl⟩
 ·erw[we r λa items k B=>(Fi x B λn f=>(call_list_seq (hsz:=ig f m) a (.inr rfl) (st.2 _ _ n) rfl rfl λd l i g=>fin d s.toks items l i g f))]
 ·obtain rfl:=r;erw[vf (st.lst hp) λitems k E f=>(call_list_seq (hsz:=ig f m) p (.inl rfl) E rfl rfl λd l i g=>fin d s.toks items l i g f)]
 ·erw[we r λa t u w=>(Qf x w λy n=>(call_list_range D (st.2 _ _ n) (dt h1 h2 h3 h4) (Pk h1) (IB m) λd j q l i g z=>fin d j q l i g (HB z)))]
theorem zp {r:Addr}{R:Fin->Shared->Prop}{G:List Value->Shared->Prop}(a:s.TypeIs (.ref r) "range")(b:∀(Q:List Value->Shared->Prop),(∀vs s',G vs s'->Q vs s')->wpAny (ako c) A (collect (.ref r)) Q E s)(h:∀vs s',G vs s'->vs.length<=sizeLine/\R (.done (.ret (.ref s'.heap.objs.size))) {s' with heap:=s'.heap.push {cls:=.type "tuple",data:=.seq vs.toArray}}):wpAny (ako c) A (Builtin.«tuple.__new__» ⟨[.type "tuple",.ref r],[]⟩) R E s:=by
 obtain⟨p,g,d,n,os⟩:=s;erw[Sd (id a) λo f q=>?_];haveI l:=sub_tuple_self;haveI m:=init_tuple_lookup;haveI i:=madeHere_tuple
 wp_walk using AutoSeq1.wpAny_loadPart' f,wpAny_typeOf a,b _
 intro vs s' k;obtain⟨e,j⟩:=h vs s' k;show wpAny _ _ (Builtin.Tuple.tupleExact vs.toArray>>=λv=>ret v) _ _ _;unfold Builtin.Tuple.tupleExact;erw[xc (wpAny_newObj_type (yc j) (by show vs.toArray.size<=sizeLine;simpa using e))]
theorem Vr {v:MV}{vs:List MV}{x:Value}{Q:MV->MH->Prop}(B:A.handled=none)(st:St c H T F s)(r:VR c T v x)(e:items? v H=some vs)(l:vs.length<big)(h:Q (.tup vs) H):wpAny (ako c) A (call (.type "tuple") [x]) (Cd c T F Q) akn s:=by
 rcases gm e with rfl|⟨p,rfl,hp⟩|⟨lo,hi,rfl,h1,h2,h3,h4,-⟩
 ·erw[we r λa items k J=>(Fi x J λg f=>(call_tuple_tup ⟨_,st.2 _ _ g,rfl,_,rfl⟩ (Cd.of (mv:=.tup vs) st ⟨a,items,k,rfl,g,f⟩ h)))]
 ·obtain rfl:=r;erw[vf (st.lst hp) λitems k I f=>(call_tuple_list (hsz:=ig f l) ⟨_,I,rfl,_,rfl⟩ λE z=>?_)];haveI:=Cd.tup (Q:=Q) s.toks (st.grow (s':={s with heap:=E}) z) f h;rwa[Array.toArray_toList]at this
 ·erw[we (id r) λa t u w=>(Sd w λy q g=>?_)];subst q;have C:s.TypeIs (.ref a) "range":=⟨_,st.2 _ _ g,rfl⟩;refine callType_newIn (Bn:=Builtin.«tuple.__new__») (S:=λo R i=>i=s/\o=A.in1/\∀d b,St c H T F b->Ee c T vs d->R (.ok (.ret (.ref b.heap.objs.size))) {b with heap:=b.heap.push {cls:=.type "tuple",data:=.seq d.toArray}})
   PySem.F.called_tuple akq (PySem.F.typeCall_tuple_1 _) (PySem.F.newCall_tuple_1 _) (λobj=>PySem.F.args_object_init_2 obj _) PySem.F.entry_tuple_new (.of_wp λo R i m=>?_) ⟨rfl,rfl,λd b j f=>⟨⟨_,Xc _ rfl,rfl⟩,?_⟩⟩
  ·obtain⟨rfl,rfl,m⟩:=m;erw[zp (G:=λd b=>St c H T F b/\Ee c T vs d) C (λQ D=>um B st r e l λd b j f=>D d b ⟨j,f⟩) λd b n=>⟨by rw[<-n.2.length];exact uf l,⟨_,rfl,m d b n.1 n.2⟩⟩]
  ·erw[Cd.tup (Q:=Q) b.toks j f h]
theorem Ow {v:MV}{k:Nat}{x:Value}{Q:MV->MH->Prop}(st:St c H T F s)(r:VR c T v x)(e:fX v H=some k)(m:k<big)(h:Q (.int k) H):wpAny (ako c) A (call (.builtin "len") [x]) (Cd c T F Q) akn s:=by
 erw[Sd (gG e) λj i q=>?_];subst i;clear e;have fin:∀{b:Array Value},Ee c T j b.toList->((b.size:Int)<2^63)/\∀l f,Cd c T F Q (.int b.size l) {s with toks:=f}:=λd=>by
  rw[<-d.arr];exact⟨wc (Nb m) akq,λzz zz=>Cd.int _ st h⟩
 rcases q with rfl|⟨p,rfl,hp⟩
 ·erw[we r λa b k g=>(Fi x g λn d=>(len_tuple ⟨_,st.2 _ _ n,rfl,_,rfl⟩ (fin d).1 ((fin d).2 _ _)))]
 ·obtain rfl:=r;erw[vf (st.lst hp) λb k o d=>(len_list ⟨_,o,rfl,_,rfl⟩ (fin d).1 ((fin d).2 _ _))]
theorem Pp:∀{vs:List MV}{ns:List Int}{xs:List Value},gf vs=some ns->Ee c T vs xs->IntsAre xs ns:=by
 intro l
 induction l with
 |nil=>
  intro ns a e b;cases a with
  |nil=>
   obtain rfl:=(oa e);exact .nil
  |cons _ _=>
   erw[b.elim]
 |cons v r j=>
  intro ns a e h;cases a with
  |nil=>
   erw[h.elim]
  |cons x t=>
   erw[ff (am e) λi m f k d=>?_];subst f;subst d;erw[Xh x h.1 λg=>(.cons i g (j k h.2))]
theorem Pw {p:Nat}{vs:List MV}{ns:List Int}{Q:MV->MH->Prop}(o:A.handled=none)(st:St c H T F s)(m:H p=some (.list vs))(e:gf vs=some ns)(h:Q (.int ns.sum) H):wpAny (ako c) A (call (.builtin "sum") [.ref p]) (Cd c T F Q) akn s:=by
 erw[vf (st.lst m) λa k r j=>?_];have f:=Pp e j;obtain⟨b,g⟩:=f.allInts.items;have d:a=intItems b:=by rw[<-g]
 erw[sum_intListG o (l:=p) (xs:=b) ⟨_,r,rfl,_,by rw[d]⟩ λq i u n=>?_];haveI t:preSum (numAt b) b.size=ns.sum:=by
  rw[preSum_eq,List.take_of_length_le (by simp),<-nums_intItems,<-d,f.numsOf]
 rw[t];erw[Cd.of (mv:=.int _) (st.grow (s':={s with heap:=q,toks:=i}) n) ⟨_,rfl⟩ h]
end
section
open W PyProof.Rows
variable {H H' : MH} {T T' F : Tb} {Q : MV → MH → Prop} {E : Value → Shared → Prop} {c : Cx} {mg mb : Str → Option Value} {s : Shared} {nm : List Str} {n : Nat} {A : Around} {P : Pg} {sc : Scope} {env : Env} {L : List MV}
theorem ints_map:∀{vs:List MV}{ns:List Int},gf vs=some ns->vs=ns.map .int:=by
 intro l
 induction l with
 |nil=>
  intro ns e;erw[Es ((oa e)) rfl]
 |cons v r a=>
  intro ns e;erw[ff (am e) λi g f b d=>?_,Er f (Er d ?_),Er (a b) rfl]
theorem Aj {vs:List MV}{ns:List Int}(e:gf vs=some ns):vs.length=ns.length:=Er (ints_map e) (Er (aa ..) rfl)
theorem KO {x:Value}{ns:List Int}{Q:MV->MH->Prop}(g:ns.length<60)(q:∀(Q:List Value->Shared->Prop),(∀a s',St c H T F s'->IntsAre a ns->Q a s')->wpAny (ako c) A.in1 (collect x) Q akn s)(h:∀i:List Int,i.Perm ns->i.Pairwise (·<=·)->alloc H (.list (i.map .int)) Q):wpAny (ako c) A (call (.builtin "sorted") [x]) (Cd c T F Q) akn s:=by erw[PySem.Calls.call_function_entry kind_sorted plain_sorted entry_sorted (args_sorted1 _) ?_];unfold Builtin.«sorted»;erw[xc (m:=checkCount "sorted" 1 1 _) (yc ?_),xc (q _ λa s' st p=>?_),have l:a.length=ns.length:=(Lw p).symm;?_,xc (wpAny_newList ?_ (Er l (Er sizeLine_eq (ee 0x10000007c033c2ce0b10 rfl g))))];haveI d:(s'.heap.push (seqObj "list" a.toArray 0)).get? s'.heap.objs.size=some (seqObj "list" a.toArray 0):=Xc _ rfl;show wpAny _ _ _ _ _ {s' with heap:=s'.heap.push (seqObj "list" a.toArray 0)};erw[xc (Bc (wpAny_call_entry slot_list_sort ⟨_,d,rfl⟩ entry_list_sort (list_sort_tree d p (je 0x402ce0b33c2ce1b101011 rfl l g) λout f v u t=>⟨_,rfl,?_⟩) (args_list_sort _))),yc ⟨_,rfl,?_⟩];obtain⟨e,r⟩:=sortedHeap_at (vs:=a) (out:=out) d;erw[Cd.of (mv:=.ref _) (st.put (s':={s' with heap:=sortedHeap (s'.heap.push (seqObj "list" a.toArray 0)) s'.heap.objs.size a out}) (λb w y k=>?_) (o:=.list (f.map .int)) ⟨out,e,r,Kw v⟩ (st.bD (de _)) (st.cD (de _)) (st.dD (de _))) rfl (h f u t _ (st.xw (de _)))];haveI j:b<s'.heap.objs.size:=Heap.lt_size k;rw[sortedHeap_old (Kc j) (Ma j (by rw[size_push'];exact Nat.le_succ _))];erw[Wc _ k]
theorem iH:∀a:List (MV×MV),(a.map (·.1)).zip (a.map (·.2))=a:=by
 intro l
 induction l with
 |nil=>
  erw[rfl]
 |cons q r b=>
  erw[Er yb (Er yb (Er zip_cons_cons (Er b rfl)))]
theorem tD (bs:Bs c mg mb):∀{f:List (MV×MV)}{j:List DictEntry}{ns:List Int},ah c T f j->gf (f.map (·.1))=some ns->(∀p∈f,qo p.1=true)/\(f.map λp=>gz c p.1)=ns.map .i:=by
 intro f j ns h e
 induction h generalizing ns with
 |nil=>exact Es ((oa e)) ⟨λ_ h=>(nomatch h),rfl⟩|@cons k v x y r w a b d he o=>
  erw[ff (am e) λi z l u m=>?_];subst l;erw[Er m ?_];obtain⟨t,q⟩:=o u;refine⟨λp g=>?_,by exact Er yb (Er yb (Er q rfl))⟩;rcases xa g with rfl|g
  ·rfl
  ·erw[t p g]
theorem Nq (bs:Bs c mg mb){v:MV}{ns:List Int}{x:Value}{Q:MV->MH->Prop}(hh:A.handled=none)(st:St c H T F s)(r:VR c T v x)(e:Ry v H=some ns)(z:ns.length<60)(h:∀o:List Int,o.Perm ns->o.Pairwise (·<=·)->alloc H (.list (o.map .int)) Q):wpAny (ako c) A (call (.builtin "sorted") [x]) (Cd c T F Q) akn s:=by
 erw[KO z (λQ M=>?_) h];haveI f:A.in1.handled=none:=hh;haveI hb:ns.length<big:=ya z akq;rcases Sy e with⟨S,e,ei⟩|⟨p,b,rfl,K,e⟩
 ·erw[um f st r ei (Er (Aj e) hb) λN J Td j=>M N J Td (Pp e j)]
 ·erw[Er r ?_];have key:∀(ns:List Int)(l:List Value),l.length=ns.length->(∀(i:Nat) x,l[i]?=some x->∃t,x=.int (ns.getD i 0) t)->IntsAre l ns:=by
   intro ns
   induction ns with
   |nil=>intro l hl _;cases l with|nil=>exact .nil|cons _ _=>exact Xi Nat.ctorIdx hl rfl
   |cons a r Y=>intro l hl g;cases l with
    |nil=>exact Xi Nat.ctorIdx hl rfl|cons y t=>
     erw[Xh y (g 0 y rfl) λV=>(.cons _ V (Y t (Nat.succ.inj hl) λi x e=>by simpa using g (i+1) x (by simpa using e)))]
  haveI I:(b.map (·.1)).zip (b.map (·.2))=b:=by
   erw[iH b]
  erw[ff (st.UM K) λes ep ho he R=>(eA R λB hn=>(eA (tD bs he e) λX W=>?_))]
  obtain⟨_,nd,O,j,G⟩:=st.NG bs (p:=p) (ks:=b.map (·.1)) (vs:=b.map (·.2)) (by exact Er I K) (by simp) (by
   intro k C
   exact Ef k (Gb C) λq Z=>(X q Z))
  obtain⟨ep',dat⟩:=G.dictAt;have hlen:(List.zip ((b.map (·.1)).map (gz c)) O).length=ns.length:=by
   erw[Er (List.length_zip ..) (Er (aa ..) (Er (aa ..) (Es (j.length ..) (Er (aa ..) (Er (Nat.min_self ..) (Es (Aj e) (Er (aa ..) rfl)))))))]
  erw[kdu_collect (kdl_dict (prog:=c.prog) (w:=c.w) B) f dat (Er hlen (Er sizeLine_eq (ee 0x10000007c033c2ce0b10 rfl z))) λh' U acc C d=>M _ _ (st.grow (s':={s with heap:=h',toks:=U}) C) ?_,haveI d:=hlen▸d;?_,have d:=d;?_,key ns _ (Er Array.length_toList d.1) λi x g=>(vf (d.2 i x (by refine Es Array.getElem?_toList ?_;exact g)) λk y h1 h2=>?_)];haveI D:((b.map (·.1)).map (gz c))[i]?=some k:=by
   haveI:=Fc (Option.map (·.1)) h1;rw[<-za,List.map_fst_zip (by refine Es j.length ?_;simp)]at this;erw[this]
  rw[map_map]at D;haveI u:(b.map ((gz c)∘λx=>x.1))=ns.map .i:=W;rw[u,za,Ha]at D;obtain⟨m,B,rfl⟩:=D;erw[Xh x (Value.isInt_shape (show x.isInt m=true from h2)) λt=>⟨t,by refine Er Ga ?_;exact Er B rfl⟩]
theorem Qw (i:A.handled=none)(st:St c H T F s)(h:Q (.int (min a b)) H):wpAny (ako c) A (call (.builtin "min") [.int a t,.int b u]) (Cd c T F Q) akn s:=
 min_two_ints i λj e f=>by
  have d:=st.grow (s':={s with heap:=j,toks:=e}) f;split
  ·rename_i g;exact Cd.of (mv:=.int b) d ⟨_,rfl⟩ (by rwa[Int.min_eq_right (Int.le_of_lt g)]at h)
  ·rename_i g;exact Cd.of (mv:=.int a) d ⟨_,rfl⟩ (by rwa[Int.min_eq_left (Int.not_lt.mp g)]at h)
theorem Sw (i:A.handled=none)(st:St c H T F s)(h:Q (.int (max a b)) H):wpAny (ako c) A (call (.builtin "max") [.int a t,.int b u]) (Cd c T F Q) akn s:=
 max_two_ints i λj e f=>by
  have d:=st.grow (s':={s with heap:=j,toks:=e}) f;split
  ·rename_i g;exact Cd.of (mv:=.int b) d ⟨_,rfl⟩ (by rwa[Int.max_eq_right (Int.le_of_lt g)]at h)
  ·rename_i g;exact Cd.of (mv:=.int a) d ⟨_,rfl⟩ (by rwa[Int.max_eq_left (Int.not_lt.mp g)]at h)
theorem Cd.Il {lo hi a:Int}{t u v:Tok}{Q:MV->MH->Prop}(k:Nat)(st:St c H T F s)(h:Q (.Il lo hi a) H):Cd c T F Q (.ref s.heap.objs.size) {s with heap:=s.heap.push {cls:=.type "range",data:=.fields #[.int lo t,.int hi u,.int a v]},toks:=k}:=by erw[eA (st.mG (ob:={cls:=.type "range",data:=.fields #[.int lo t,.int hi u,.int a v]}) rfl k) λb le=>⟨.Il lo hi a,H,_,le,b,⟨_,t,u,v,rfl,Tb.Jd ..⟩,h⟩]
def Bo:Nat->Option (Str×Value)
 |0=>some ("len",.builtin "len")
 |1=>some ("list",.type "list")
 |2=>some ("tuple",.type "tuple")
 |3=>some ("sum",.builtin "sum")
 |4=>some ("sorted",.builtin "sorted")
 |5=>some ("min",.builtin "min")
 |6=>some ("max",.builtin "max")
 |7=>some ("str",.type "str")
 |8=>some ("range",.type "range")
 |_=>none
theorem jH (st:St c H T F s)(r:Ee c T vs xs)(h:pB vs H Q):wpAny (ako c) A (call (.type "range") xs) (Cd c T F Q) akn s:=by
 cases vs with
 |nil=>exact h.elim|cons x vs=>
  cases xs with
  |nil=>exact r.elim|cons a xs=>
   erw[Sd (Be h) λi g h=>?_];subst g;obtain⟨⟨t,rfl⟩,r⟩:=r;cases vs with
   |nil=>
    cases xs with
    |cons _ _=>exact r.elim|nil=>exact call_range_1 (Cd.Il _ st h.2)
   |cons y vs=>
    cases xs with
    |nil=>exact r.elim|cons b xs=>
     erw[Sd (Be h) λj f h=>?_];subst f;obtain⟨⟨u,rfl⟩,r⟩:=r;cases vs with
     |nil=>
      cases xs with
      |cons _ _=>exact r.elim|nil=>exact call_range_2 (Cd.Il _ st h.2.2)
     |cons z vs=>
      cases xs with
      |nil=>exact r.elim|cons d xs=>
       erw[Sd (Be h) λk e h=>?_];subst e;obtain⟨⟨v,rfl⟩,r⟩:=r;obtain⟨rfl,m,l,rfl,h⟩:=yu h;cases xs with
       |cons _ _=>exact r.elim|nil=>exact call_range_3 akq (Cd.Il _ st h) (Or.inl (PyProof.noPylong_small akq))
theorem yX (bs:Bs c mg mb)(h4:c.sx[4]?=some ("0":Str))(d:Bo b=some (x,fv)){Q:MV->MH->Prop}(g:A.handled=none)(st:St c H T F s)(r:Ee c T vs xs)(h:Ii b vs H Q):wpAny (ako c) A (call fv xs) (Cd c T F Q) akn s:=by
 have one:∀{v:MV}{xs:List Value},Ee c T [v] xs->∃x,xs=[x]/\VR c T v x:=by
  intro v xs r
  match xs,r with
  |[x],r=>exact⟨x,rfl,r.1⟩|_::_::_,r=>exact r.2.elim
 haveI two:∀{v w:MV}{xs:List Value},Ee c T [v,w] xs->∃x y,xs=[x,y]/\VR c T v x/\VR c T w y:=by
  intro v w xs r
  match xs,r with
  |[x,y],r=>exact⟨x,y,rfl,r.1,r.2.1⟩|[_],r=>exact r.2.elim|_::_::_::_,r=>exact r.2.2.elim
 match b,d,h with
 |0,d,h=>
  cases d;erw[Sd (Lh h) λv S h=>?_];subst S;erw[Qf xs (one r) λx e=>(Sd (Me h) λn f h=>(Ow st e f h.1 h.2))]
 |1,d,h=>
  cases d;erw[Sd (Lh h) λv m h=>?_];subst m;erw[Qf xs (one r) λx e=>(Sd (Me h) λn f h=>(Nu g st e f h.1 h.2))]
 |2,d,h=>
  cases d;erw[Sd (Lh h) λv l h=>?_];subst l;erw[Qf xs (one r) λx e=>(Sd (Me h) λn f h=>(Vr g st e f h.1 h.2))]
 |3,d,h=>
  cases d;erw[Sd (Lh h) λv k h=>?_];subst k;erw[Qf xs (one r) λx e=>(Sd (qj h) λp o h=>?_)];subst o;obtain rfl:=e;erw[Sd (Pe h) λvs q h=>(Sd (Me h) λns G h=>(Pw g st q G h))]
 |4,d,h=>
  cases d;erw[Sd (Lh h) λv U h=>?_];subst U;erw[Qf xs (one r) λx e=>(Sd (Me h) λn f h=>(Nq bs g st e f h.1 h.2))]
 |5,d,h=>
  cases d;obtain⟨a,b,rfl,h⟩:=zu h;obtain⟨i,rfl,h⟩:=Be h;obtain⟨j,rfl,h⟩:=Be h;erw[kl (two r) λx y R=>(Fi xs R λO N=>(Xh x O λt=>(Xh y N λu=>(Qw g st h))))]
 |6,d,h=>
  cases d;obtain⟨a,b,rfl,h⟩:=zu h;obtain⟨i,rfl,h⟩:=Be h;obtain⟨j,rfl,h⟩:=Be h;erw[kl (two r) λx y M=>(Fi xs M λI C=>(Xh x I λt=>(Xh y C λu=>(Sw g st h))))]
 |7,d,h=>
  cases d;obtain⟨v,rfl,h⟩:=Lh h;erw[Xf (Be h) λi K J B=>?_];subst K;subst J;erw[Qf xs (one r) λx D=>(Xh x D λt=>(PySem.P.str_of_int akq (Cd.of (mv:=.str 4) (st.tok _) ⟨_,s.toks,h4,Fc (λz=>Value.str z s.toks) ?_⟩ B)))];decide
 |8,d,h=>
  cases d;erw[jH st r h]
 |n+9,d,_=>exact nn d
structure Dx where
 K:Frag
 fa:Nat->Addr
 mn:Nat->Str
 fld:Nat->Bool
inductive Kb (c:Cx)(D:Dx)(Zf:Nat->Nat->Option Nat)(th:Nat->Nat):Prop
 |mk (inT:∀a o,D.K.lookup a=some o->c.jj a=some o) (ga:∀k,findIn D.K (.ref (c.cls k)) "__getattribute__"=some (some (.builtin "object.__getattribute__"))) (gx:∀k,findIn D.K (.ref (c.cls k)) "__getattr__"=some none) (sa:∀k,findIn D.K (.ref (c.cls k)) "__setattr__"=some (some (.builtin "object.__setattr__"))) (pl:∀k,plainOver D.K (c.cls k)=true) (hd:∀k,(clsIn D.K (c.cls k)).any (·.hasDict)=true) (fl:∀k f x,D.fld f=true->c.sx[f]?=some x->findIn D.K (.ref (c.cls k)) x=some none) (mkc:∀k,makesIn D.K (c.cls k)=true) (ini:∀k,findIn D.K (.ref (c.cls k)) "__init__"=some (some (.ref (D.fa (th k))))) (inf:∀k,typeIn D.K (.ref (D.fa (th k)))=some (.type "function")) (mth:∀k m f,Zf k m=some f->findIn D.K (.ref (c.cls k)) (D.mn m)=some (some (.ref (D.fa f)))/\typeIn D.K (.ref (D.fa f))=some (.type "function")) (mns:∀m,D.mn m∉c.sx) (m0:D.mn 0="append") (m1:D.mn 1="extend") (m2:D.mn 2="pop") (m3:D.mn 3="get")
theorem Kb.R_ (kb:Kb c D Zf th)(st:St c H T F s):D.K.In s.heap:=λa o e=>st.2 _ _ (st.7 _ _ (kb.1 _ _ e))
theorem LO {o:Obj}{b:Array DictEntry}{g:Nat}{m:Str->Option Value}{x:Str}(hd:o.data=.dict b g)(d:StrKeys b)(a:∀name,nsFind b name=m name):lookIn x o=some (m x):=by
 unfold lookIn;rw[hd];dsimp only;haveI a:=a x;simp only[nsFind,findBy]at a;rw[<-Array.find?_toList]at a;cases q:b.toList.find? (λe=>e.key.isStr x)with
 |some e=>
  rw[q]at a;simp only;rw[<-a];rfl
 |none=>
  rw[q]at a;have:b.toList.any (·.refKey)=false:=by
   rw[List.any_eq_false];intro e f;erw[kl (d e (Array.mem_toList_iff.mp f)) λy t h=>?_];simp[DictEntry.refKey,h]
  erw[Er this (Es a rfl)]
theorem St.inst (st:St c H T F s)(h:T a=some (instObj (c.cls k) d))(i:H d=some (.ns f)):∃o m,InstAt s.heap a (instObj (c.cls k) d) (c.cls k) (some o)/\(∀x,lookIn x o=some (m x))/\s.heap.Ns1 d m/\Within m c.sx/\Vy c T f m:=by erw[Xf (st.nsp i) λm b e g=>(We (id b) λo t u q r=>(fj r λp l v j=>⟨o,m,⟨st.2 _ _ h,rfl,rfl,q⟩,λx=>LO p l j,b,e,g⟩))]
theorem VR.handed (h:VR c T v x):handedIn x=true:=by
 cases v with
 |td=>exact h.elim|none=>obtain rfl:=h;rfl
 |bool _=>obtain rfl:=h;rfl
 |int _=>obtain⟨_,rfl⟩:=h;rfl
 |str _=>obtain⟨_,_,_,rfl⟩:=h;rfl
 |tup _=>obtain⟨_,_,_,rfl,_⟩:=h;rfl
 |ref _=>obtain rfl:=h;rfl
 |obj _ _=>obtain⟨_,rfl,_⟩:=h;rfl
 |Il _ _ _=>obtain⟨_,_,_,_,rfl,_⟩:=h;rfl
 |Qy _=>obtain⟨_,_,_,rfl,_⟩:=h;rfl
theorem JB (kb:Kb c D Zf th)(w:D.fld f=true)(b:c.sx[f]?=some name)(st:St c H T F s)(i:VR c T x a)(h:Te x f H Q):wpAny (ako c) A (getAttr a name expr) (Cd c T F Q) akn s:=by
 ·erw[vf (Rs h) λk d G B=>?_];subst G;erw[Sd (uw B) λR q z=>(Qf a i λp r=>?_)]
  ·erw[ff (st.inst r q) λo m I u J=>(pj J λO N l=>(eA (Bi z) λK t=>(ff (l f K) λy v g C e=>?_)))];rw[b]at g;obtain rfl:=(oa g);have X:=kb.R_ st;erw[Sd (any_some (kb.6 k)) λS j M=>(get_value X I (kb.2 k) (v:=v) ?_ e.handed (Cd.of (st.tok _) e t))];unfold findObj;erw[Er j (Er (Option.bind_some ..) (Er (kb.7 k f name w b) (Er (Option.bind_some ..) ?_))),Er (Option.bind_some ..) ?_];unfold W.ownOf;erw[Er M (Er (Ec rfl) ?_)];simp only[u,C,Option.bind_some]
set_option tactic.hygienic true in
theorem Pq (h:gn o=true)(name:Str)(env:Env)(w:Sem Value):attributeBase o name env w=w:=by
 cases o<;>first|rfl|skip
 rename_i f b d p;cases b with
 |nil=>exact ft h|cons a r=>cases f<;>rfl
theorem kH (kb:Kb c D Zf th)(i:gn o=true)(j:D.fld f=true)(e:c.sx[f]?=some name)(g:Pd c P n sc nm o mo):Pd c P n sc nm (.Attribute o name pos) (.attr mo f):=by intro A l T F H L s Q d k lf st h;rw[arm_eval_Attribute,Pq i];erw[Mj g d k lf st h λx a w v u le m b q=>xc (Cc (xc (Bc ?_))),zc (JB kb j e m b q) (λr t p=>?_) λ_ _ f=>f,xc (wpAny_letTemporaryGo (yc (p.up le)))]
theorem KB (bs:Bs c mg mb)(kb:Kb c D Zf th){x v:MV}{a y:Value}{f:Nat}{name:Str}{Q:MH->Prop}(Z:D.fld f=true)(l:c.sx[f]?=some name)(st:St c H T F s)(M:VR c T x a)(K:VR c T v y)(h:vo x f v H Q):wpAny (ako c) A (setAttr a name y) (λ_ s'=>Wo c T F Q s') akn s:=by
 ·erw[vf (Rs h) λk d gk h1=>?_];subst gk;erw[Sd (uw h1) λfs j h2=>(Qf a M λp V=>?_)]
  ·erw[ff (st.inst V j) λo m I hl Ki=>(pj Ki λY J R=>?_),have X:=kb.R_ st;?_,Sd (any_some (kb.6 k)) λcd O Hm=>(set_plain X I (kb.4 k) (osa_open (s:={s with toks:=s.toks+1}) (r:=none) X I (kb.5 k) (by unfold takerIn;exact Er (kb.7 k f name Z l) rfl) λb=>?_))];haveI I':=I;obtain⟨S_,jk,bo,hdd⟩:=I';erw[xc (yc (xc (xc (wpAny_loadPart S_ (xc (looks_clsIn X O _ _ _ _ (λ_ _ e=>e) ?_)))))),Er Hm (yc (a:=some d) (xc (yc (xc ?_)))),wpAny_nsSet1 (s:={s with toks:=s.toks+1}) Y λh' G W=>?_];have g:Within (λC=>if C=name then some y else m C) c.sx:=λz U=>by
    by_cases e:z=name
    ·erw[Er e (Eb l)]
    ·erw[J z (by simpa[e]using U)]
   erw[We (G.count g) λoD esD epD q S=>(eA S λu w=>(xc (wpAny_lookBehind q (Er u (pastItsLine_dict (Ba w (by haveI:=bs.5;refine Er sizeLine_eq ?_;exact ee 0xe10000007cb033e83c010 rfl this)))) ?_))),yc ⟨_,T,akt T,?_,h2⟩,st.put (s':={s with heap:=h',toks:=s.toks+1+1}) (λb ob hb e=>(W.2 b hb).trans e) (o:=.ns _) ⟨_,G,g,λi t=>?_⟩ (st.4 _ _ j) (st.5 _ _ j) (λe=>by have:=st.11.1;rw[e,j]at this;exact ns this)];by_cases e:i=f
   ·erw[Er e ?_];simp only[if_true]at t⊢;exact⟨name,y,l,by simp,K⟩
   ·simp only[e,if_false]at t⊢;erw[ff (R i t) λz N B e2 e3=>⟨z,N,B,?_,e3⟩];rw[Dc];exact e2;rintro rfl;erw[e ((Vc (Fa B).1 bs.4).mp (B.trans l.symm))]
end
section
open W PyProof.Rows
set_option tactic.hygienic true
section
variable {T F:Tb}
inductive xi (c:Cx)(T:Tb):MV->List MV->Nat->Obj->Prop where
 |list {p:Nat} {vs:List MV} {i:Nat} {o:Obj}:o.cls=.type "list_iterator"->o.data=.fields #[.ref p,.int i 0]->xi c T (.ref p) vs i o
 |tup {t:Addr} {xs:Array Value} {k:Nat} {vs:List MV} {i:Nat} {o:Obj}:o.cls=.type "tuple_iterator"->o.data=.fields #[.ref t,.int i 0]->T t=some (Yh xs k)->Ee c T vs xs.toList->xi c T (.tup vs) vs i o
 |up {lo hi:Int} {i:Nat}:xi c T (.Il lo hi 1) ((range (hi-lo).toNat).map λ(i:Nat)=>.int (lo+i)) i
  {cls:=.type "range_iterator",dict:=none,data:=.fields #[rawInt (lo+i),rawInt (((hi-lo).toNat:Int)-i),rawInt 1],slots:=#[]}
 |down {lo:Int} {i:Nat}:xi c T (.Il lo (-1) (-1)) ((range (lo+1).toNat).map λ(i:Nat)=>.int (lo-i)) i
  {cls:=.type "range_iterator",dict:=none,data:=.fields #[rawInt (lo-i),rawInt (((lo+1).toNat:Int)-i),rawInt (-1)],slots:=#[]}
theorem xi.mono {f:Tb}(h:T.le f){v:MV}{vs:List MV}{i:Nat}{o:Obj}(x:xi c T v vs i o):xi c f v vs i o:=by
 cases x with
 |list a b=>exact .list a b|tup a b d e=>exact .tup a b (h _ _ d) (Ee.mono h _ _ e)|up=>exact .up|down=>exact .down
theorem xi.plain {v:MV}{vs:List MV}{i:Nat}{o:Obj}(x:xi c T v vs i o):∃n,o.cls=.type n/\(["enumerate","zip","dict_itemiterator","dict_reverseitemiterator","odict_iterator","itertools.zip_longest","itertools.pairwise"].contains n)=false:=by
 cases x with
 |list a _=>exact⟨_,a,akq⟩|tup a _ _ _=>exact⟨_,a,akq⟩|up=>exact⟨_,rfl,akq⟩|down=>exact⟨_,rfl,akq⟩
set_option backward.match.sparseCases true in
theorem lH {M:Model}{b:Expr}{I:Addr}{d:Value}{o:Obj}{Q:Unit->Shared->Prop}(h:s.heap.get? I=some o)(k:∃n,o.cls=.type n/\(["enumerate","zip","dict_itemiterator","dict_reverseitemiterator","odict_iterator","itertools.zip_longest","itertools.pairwise"].contains n)=false)(q:Q () s):wpAny M A (letOwnedTupleGo b (.ref I) d) Q E s:=by
 obtain⟨n,i,j⟩:=k
 have key:∀a:Addr,wpAny M A (load I>>=λo=>match o.cls,o.data with
  |.type n,.fields e=>
   if ["enumerate","zip","dict_itemiterator","dict_reverseitemiterator","odict_iterator","itertools.zip_longest","itertools.pairwise"].contains n&&e[0]?==some (rawInt a)then(do
    rule "for.unpacks-the-owned-tuple"
    updateField I 0 .none:Sem Unit)else pure ()
  |_,_=>pure ()) Q E s:=by
  intro a;erw[xc (wpAny_load h ?_)];obtain⟨g,l,c,f⟩:=o;obtain rfl:g=.type n:=i;cases c<;>first|exact yc q|skip
  dsimp only;erw[Er j (yc q)]
 cases b<;>first|exact yc q|(cases d<;>first|exact yc q|exact key _)
theorem St.Uw (st:St c H T (F.set I o) s)(h:F I=none)(g:H I=none)(e:T I=none)(f:c.P≠I){s':Shared}{d:Obj}(k:∀b ob,b≠I->s.heap.get? b=some ob->s'.heap.get? b=some ob)(i:s'.heap.get? I=some d)(j:s'.gens=s.gens:=by rfl) (a:s'.os=s.os:=by rfl):St c H T (F.set I d) s'/\St c H T F s':=by haveI s1:St c H T F s':=(st.Gk (Tb.Gf o h)).but k g e h f j a;exact⟨s1.Fk i g f e,s1⟩
theorem gt {v:MV}{vs:List MV}{bg:MH->Prop}{I:Addr}{i:Nat}{o:Obj}{x:MV}{Q:Option Value->Shared->Prop}(V:xi c T v vs i o)(X:∀p,v=.ref p->H p=some (.list vs))(st:St c H T (F.set I o) s)(G:F I=none) (D:H I=none) (B:T I=none) (C:c.P≠I) (u:vs[i]?=some x)(h:∀q r s',VR c T x q->xi c T v vs (i+1) r->St c H T (F.set I r) s'->(∀b ob,b≠I->s.heap.get? b=some ob->s'.heap.get? b=some ob)->Q (some q) s'):wpAny (ako c) A (pyNext (.ref I)) Q E s:=by
 have z:s.heap.get? I=some o:=st.3 _ _ (Tb.Jd ..);cases V with
 |@list p vs i o a b=>
  obtain⟨K,k,g,W⟩:=st.lst (X _ rfl);erw[hide λZ U=>?_];obtain⟨q,O,N⟩:=W.at u;erw[U ?_];clear U;erw[wpAny_pyNext_list_item ⟨o,z,a,b⟩ ⟨_,g,rfl,_,rfl⟩ O λm n l=>(Xf n λr J S R=>(h q r _ N (.list S R) (st.Uw G D B C (λb ob f e=>(l.2 b f).trans e) J).1 λb ob f e=>(l.2 b f).trans e))]
 |@tup t xs k vs i o a b d e=>
  obtain⟨q,O,N⟩:=e.at u;erw[wpAny_pyNext_tuple_item ⟨o,z,a,b⟩ ⟨_,st.2 _ _ d,rfl,_,rfl⟩ O λm n l=>(Xf n λr J S R=>(h q r _ N (.tup S R d e) (st.Uw G D B C (λb ob f e=>(l.2 b f).trans e) J).1 λb ob f e=>(l.2 b f).trans e))]
 |@up lo n i=>
  rw[za,Ha]at u;obtain⟨j,M,rfl⟩:=u;obtain⟨y,w⟩:=Fa M;rw[List.getElem_range]at w;subst w;rw[Ca]at y;erw[wpAny_pyNext_range_item z (Jy 0x1aefb31e0b10 rfl (Nb y)) λm L l=>?_];have e:IsRangeIter m I (lo+(i+1:Nat)) (((n-lo).toNat:Int)-(i+1:Nat)) 1:=by
   haveI:IsRangeIter m I (lo+i+1) (((n-lo).toNat:Int)-i-1) 1:=L;erw[Er (show lo+(i+1:Nat)=lo+i+1 by exact Pc (Jy 0xe10bbe1b0b3 rfl) (Jy 0xe1b0be10bb3 rfl)) (Er (show(((n-lo).toNat:Int)-(i+1:Nat))=((n-lo).toNat:Int)-i-1 by exact Pc (Jy 0xe10aae1b0a3 rfl) (Jy 0xe1b0ae10aa3 rfl)) this)]
  erw[h _ _ {s with heap:=m,toks:=s.toks+1} ⟨_,rfl⟩ .up (st.Uw G D B C (λb ob f e=>(l.2 b f).trans e) e).1 λb ob f e=>(l.2 b f).trans e]
 |@down lo i=>
  rw[za,Ha]at u;erw[Sd u λj M Y=>?_];subst Y;obtain⟨y,w⟩:=Fa M;rw[List.getElem_range]at w;subst w;rw[Ca]at y;erw[wpAny_pyNext_range_item z (Jy 0x1aefb31e0b10 rfl (Nb y)) λm L l=>?_];have e:IsRangeIter m I (lo-(i+1:Nat)) (((lo+1).toNat:Int)-(i+1:Nat)) (-1):=by
   haveI:IsRangeIter m I (lo-i+-1) (((lo+1).toNat:Int)-i-1) (-1):=L;erw[Er (show lo-(i+1:Nat)=lo-i+-1 by exact Pc (Jy 0xed10abe1b0a3 rfl) (Jy 0xe1b0aed10ab3 rfl)) (Er (show(((lo+1).toNat:Int)-(i+1:Nat))=((lo+1).toNat:Int)-i-1 by exact Pc (Jy 0xe10aae1b0a3 rfl) (Jy 0xe1b0ae10aa3 rfl)) this)]
  erw[h _ _ {s with heap:=m,toks:=s.toks+1} ⟨_,rfl⟩ .down (st.Uw G D B C (λb ob f e=>(l.2 b f).trans e) e).1 λb ob f e=>(l.2 b f).trans e]
theorem Vw {v:MV}{vs:List MV}{I:Addr}{i:Nat}{o:Obj}{Q:Option Value->Shared->Prop}(m:A.handled=none)(w:xi c T v vs i o)(y:∀p,v=.ref p->H p=some (.list vs))(st:St c H T (F.set I o) s)(u:F I=none) (C:H I=none) (z:T I=none) (B:c.P≠I) (f:i=vs.length)(h:∀s',St c H T F s'->(∀b ob,b≠I->s.heap.get? b=some ob->s'.heap.get? b=some ob)->Q none s'):wpAny (ako c) A (pyNext (.ref I)) Q E s:=by
 have l:s.heap.get? I=some o:=st.3 _ _ (Tb.Jd ..);have fin:∀(j:Heap),Heap.ExtBut I s.heap j->Q none {s with heap:=j}:=λj r=>
  h {s with heap:=j} ((st.Gk (Tb.Gf o u)).but (s':={s with heap:=j}) (λb ob q e=>r b ob q e) C z u B) λb ob q e=>r b ob q e
 cases w with
 |@list p vs i o a b=>
  erw[vf (st.lst (y _ rfl)) λn k g x=>(wpAny_pyNext_list_end m ⟨o,l,a,b⟩ ⟨_,g,rfl,_,rfl⟩ (by rw[Array.getElem?_eq_none];exact Es x.arr (je 0x131012 rfl f)) fin)]
 |@tup t xs k vs i o a b d e=>
  erw[wpAny_pyNext_tuple_end m ⟨o,l,a,b⟩ ⟨_,st.2 _ _ d,rfl,_,rfl⟩ (by rw[Array.getElem?_eq_none];exact Es e.arr (je 0x131012 rfl f)) fin]
 |@up lo D i=>
  rw[aa,Ca]at f;erw[wpAny_pyNext_range_end m l (Jy 0xf01a31012 rfl (Fc Int.ofNat f)) fin]
 |@down lo i=>
  rw[aa,Ca]at f;erw[wpAny_pyNext_range_end m l (Jy 0xf01a31012 rfl (Fc Int.ofNat f)) fin]
theorem jt {v:MV}{vs:List MV}{I:Addr}{i:Nat}{o:Obj}{Q:Value->Shared->Prop}(e:xi c T v vs i o)(d:s.heap.get? I=some o)(h:Q (.ref I) s):wpAny (ako c) A (pyIter (.ref I)) Q E s:=by
 cases e with
 |list a b=>exact wpAny_pyIter_listiter ⟨o,d,a,b⟩ h|tup a b _ _=>exact wpAny_pyIter_tupleiter ⟨o,d,a,b⟩ h|up=>exact wpAny_pyIter_rangeiter d h|down=>exact wpAny_pyIter_rangeiter d h
theorem small_down {a:Int}(c:-1<=a)(b:a<2^40):Builtin.Range.small a (-1) (-1)=true:=by
 haveI e:=bp (lo:=a);haveI f:∀x:Int,-(2^62)<=x->x<2^62->Builtin.Range.rangeFitsLong x=true:=λx b d=>by
  exact(Da _ _).mpr ⟨Pb (Int.le_trans akq b),Pb (wc d akq)⟩
 unfold Builtin.Range.small;rw[e,f a (Int.le_trans akq c) (wc b akq),f (-1) akq akq,f _ (Int.le_trans akq (Ua _)) (Es (PW (Int.add_le_add_right c 1)) (Int.lt_of_le_of_lt (Int.add_one_le_of_lt b) akq)),Dc akq,f (-1+(-1+1)) akq akq];simp
theorem Ou {v:MV}{x:Value}{K:List MV->(MH->Prop)->Prop}{Q:Value->Shared->Prop}(h:Ff v H K)(st:St c H T F s)(r:VR c T v x)(k:∀vs bg o s',K vs bg->(∀H',bg H'->∀p,v=.ref p->H' p=some (.list vs))->xi c T v vs 0 o->St c H T F s'->s'.heap.get? s.heap.objs.size=some o->(∀b ob,s.heap.get? b=some ob->s'.heap.get? b=some ob)->Q (.ref s.heap.objs.size) s'):wpAny (ako c) A (pyIter x) Q E s:=by
 have fin:∀(o:Obj)(z:o.isFreed=false) vs bg,K vs bg->(∀H',bg H'->∀p,v=.ref p->H' p=some (.list vs))->xi c T v vs 0 o->Q (.ref s.heap.objs.size) {s with heap:=s.heap.push o}:=λo z vs bg q D C=>
  k vs bg o _ q D C (st.grow (s':={s with heap:=s.heap.push o}) λb ob e=>Wc _ e) (Xc _ z) λb ob e=>Wc _ e
 cases v<;>first|exact h.elim|skip
 ·erw[we r λa f m B=>(Fi x B λj w=>(wpAny_pyIter_tuple ⟨_,st.2 _ _ j,rfl,_,rfl⟩ (fin _ rfl _ _ h (λzz zz p e=>by exact Xi MV.ctorIdx e rfl) (.tup rfl rfl j w))))]
 ·erw[Er r (Sd (Pe h) λvs G l=>(vf (st.lst G) λf m g w=>(wpAny_pyIter_list ⟨_,g,rfl,_,rfl⟩ (fin _ rfl _ _ l (λH' e q I=>by exact Es ((MV.ref.inj I)) e) (.list rfl rfl)))))]
 ·rename_i d n N;erw[we r λa t u M=>(Qf x M λy j=>?_)];rcases h with⟨rfl,h0,l,L,J,h⟩|⟨rfl,rfl,h0,l,h⟩
  ·erw[wpAny_pyIter_range (st.2 _ _ j) (small_one (Int.le_trans akq h0) (wc l akq) (Int.le_trans akq L) (wc J akq)) (Er (Pk h0) ?_)];haveI:=xi.up (c:=c) (T:=T) (lo:=d) (hi:=n) (i:=0);rw[show d+((0:Nat):Int)=d by exact Pc (Lm 0xf0b3 rfl) (Lm 0xf0b03 rfl),show(((n-d).toNat:Int)-((0:Nat):Int))=((n-d).toNat:Int) by exact Pc (Lm 0xf0a3 rfl) (Lm 0xf0a03 rfl)]at this;erw[fin _ rfl _ _ h (λzz zz p e=>by exact Xi MV.ctorIdx e rfl) this]
  ·erw[wpAny_pyIter_range (st.2 _ _ j) (small_down h0 l) (Er bp ?_)];haveI:=xi.down (c:=c) (T:=T) (lo:=d) (i:=0);rw[show d-((0:Nat):Int)=d by exact Pc (Lm 0xf0a3 rfl) (Lm 0xf0a03 rfl),show(((d+1).toNat:Int)-((0:Nat):Int))=((d+1).toNat:Int) by exact Pc (Lm 0xf0a3 rfl) (Lm 0xf0a03 rfl)]at this;erw[fin _ rfl _ _ h (λzz zz p e=>by exact Xi MV.ctorIdx e rfl) this]
end
end
section
open W PyProof.Rows
variable {H H' : MH} {T T' F : Tb} {Q : MV → MH → Prop} {E : Value → Shared → Prop} {c : Cx} {mg mb : Str → Option Value} {s : Shared} {nm : List Str} {n : Nat} {A : Around} {P : Pg} {sc : Scope} {env : Env} {L : List MV} {D : Dx}
structure Ap (c:Cx)(env:Env)(sc:Scope):Prop extends Bf c env sc
theorem Ap.cl (e:Ap c env sc)(x:Str)(h:sc.names.lookup x=some .cell):(env.cells.lookup x).isSome=true:=e.cls x (.inl h)
def mR (c:Cx)(T:Tb):MF->Flow->Prop
 |.next,fl=>fl=.next|.cont,fl=>fl=.cont|.ret v,fl=>∃pv,fl=.ret pv/\VR c T v pv
inductive Tf (c:Cx)(env:Env)(nm:List Str)(T F:Tb)(Q:MF->List MV->MH->Prop)(fl:Flow)(s:Shared):Prop
 |mk (mf:MF) (L':List MV) (H':MH) (T':Tb) (le:T.le T') (st:St c H' T' F s) (fr:Fr c env nm L' H' T' F s) (fl:mR c T' mf fl) (q:Q mf L' H')
def uh (c:Cx)(P:Pg)(n:Nat)(sc:Scope)(nm:List Str)(ps:Stmt)(ms:MS):Prop:=
 ∀(A:Around)(env:Env)(T F:Tb)(H:MH)(L:List MV)(s:Shared)(Q:MF->List MV->MH->Prop),Rm n A->Ap c env sc->Fr c env nm L H T F s->St c H T F s->wpS P ms L H Q->
  wpAny (ako c) A (exec ps env) (Tf c env nm T F Q) akn s
def wn (c:Cx)(P:Pg)(n:Nat)(sc:Scope)(nm:List Str)(ps:List Stmt)(ms:List MS):Prop:=
 ∀(A:Around)(env:Env)(T F:Tb)(H:MH)(L:List MV)(s:Shared)(Q:MF->List MV->MH->Prop),Rm n A->Ap c env sc->Fr c env nm L H T F s->St c H T F s->Kd P ms L H Q->
  wpAny (ako c) A (execs ps env) (Tf c env nm T F Q) akn s
theorem Tf.up {T':Tb}{Q:MF->List MV->MH->Prop}{fl:Flow}(h:T.le T')(x:Tf c env nm T' F Q fl s):Tf c env nm T F Q fl s:=
 by obtain⟨f,i,j,g,a,r,e,d,b⟩:=x;exact⟨f,i,j,g,aks h a,r,e,d,b⟩
theorem kg (p:Pd c P n sc nm e me){K:MV->MH->Prop}{Q:Value->Shared->Prop}(j:Rm n A) (q:Ap c env sc) (d:Fr c env nm L H T F s) (st:St c H T F s) (h:Yd P me L H K)(k:∀x a H' b s',T.le b->St c H' b F s'->Fr c env nm L H' b F s'->VR c b x a->K x H'->Q a s'):wpAny (ako c) A (eval e env) Q akn s:=by erw[zc (p A env T (qm env s F) H L s _ j q.toBf d.lf (d.st st) h) (λa w o=>?_) λzz zz f=>f];obtain⟨x,v,r,g,t,i,l⟩:=o;erw[eA (d.next g t) λu m=>(k x a v r w g m u i l)]
theorem LB (p:ui c P n sc nm e me){K:Bool->MH->Prop}{Q:Bool->Shared->Prop}(j:Rm n A) (q:Ap c env sc) (d:Fr c env nm L H T F s) (st:St c H T F s) (h:ww P me L H K)(k:∀b H' g s',T.le g->St c H' g F s'->Fr c env nm L H' g F s'->K b H'->Q b s'):wpAny (ako c) A (isTrue e env (eval e env)) Q akn s:=by erw[zc (p A env T (qm env s F) H L s _ j q.toBf d.lf (d.st st) h) (λa w o=>?_) λzz zz f=>f];obtain⟨v,r,i,t,l⟩:=o;erw[eA (d.next i t) λu m=>(k a v r w i m u l)]
def Qq (sc:Scope)(nm:List Str)(e:Expr)(i:Nat):Prop:=∃x pos,e=.Name x pos/\nm[i]?=some x/\(sc.names.lookup x=some .local\/sc.names.lookup x=some .cell)
inductive Nh (sc:Scope)(nm:List Str):List Expr->List Nat->Prop where
 |nil:Nh sc nm [] []
 |cons {e:Expr} {i:Nat} {es:List Expr} {is:List Nat}:Qq sc nm e i->Nh sc nm es is->Nh sc nm (e::es) (i::is)
def NO (sc:Scope)(nm:List Str)(e:Expr):Tg->Prop
 |.one i=>Qq sc nm e i|.many is=>∃es k pos,e=.Tuple es k pos/\Nh sc nm es is
theorem Qp (nd:nm.Nodup)(a:Ap c env sc)(ne:Qq sc nm e i)(g:Fr c env nm L H T F s)(st:St c H T F s)(b:VR c T v pv)(k:∀s',St c H T F s'->Fr c env nm (L.set i v) H T F s'->R () s'):wpAny (ako c) A (assign e env pv) R E s:=by erw[ff ne λx pos j d f=>?_];subst j;rw[arm_assign_Name];erw[xc (Cc ?_),g.store st nd a.toBf d (f.imp id λh=>⟨h,a.cl x h⟩) b k]
theorem Nh.len (x:Nh sc nm es is):es.length=is.length:=by
 induction x with
 |nil=>rfl|cons _ _ a=>simp[a]
theorem Nh.each (x:Nh sc nm es is)(env:Env):assignEach es env=es.map λe=>(false,assign e env):=by
 induction x with
 |nil=>rfl|cons a _ b=>
  erw[vf a λy pos d zz=>?_];subst d;rw[yb,<-b];rfl
theorem mH (nd:nm.Nodup)(l:Ap c env sc)(ne:Nh sc nm g is):∀{L:List MV}{s:Shared}{vs:List MV}{xs:List Value}{R:Unit->Shared->Prop},Fr c env nm L H T F s->St c H T F s->Ee c T vs xs->vs.length=is.length->(∀s',St c H T F s'->Fr c env nm (Jj is vs L) H T F s'->R () s')->wpAny (ako c) A (assignInOrder ((g.map λe=>(false,assign e env)).map (·.2)) xs) R E s:=by
 induction ne with
 |nil=>
  intro L s vs xs R f st b d k;cases vs with
  |nil=>cases xs with
   |nil=>exact yc (k s st f)|cons _ _=>exact b.elim
  |cons _ _=>simp at d
 |@cons e i g is a r j=>
  intro L s vs xs R f st b d k;cases vs with
  |nil=>simp at d|cons v vs=>
   cases xs with
   |nil=>exact b.elim|cons x xs=>
    show wpAny _ _ (do holding xs (assign e env x);assignInOrder _ xs) _ _ _;erw[xc (Bc (Qp nd l a f st b.1 λs' m h=>?_)),j h m b.2 (by simpa using d) k]
theorem ot (nd:nm.Nodup)(B:Ap c env sc)(I:A.handled=none)(q:NO sc nm e t){Q:List MV->Prop}{R:Unit->Shared->Prop}(z:Fr c env nm L H T F s)(st:St c H T F s)(p:VR c T v pv)(h:ri t v L Q) (k:∀L' s',St c H T F s'->Fr c env nm L' H T F s'->Q L'->R () s'):wpAny (ako c) A (assign e env pv) R E s:=by
 cases t with
 |one i=>exact Qp nd B q z st p λs' l f=>k _ s' l f h|many is=>
  erw[we q λN V pos S=>(rF e S λne=>?_)];cases v with
  |tup U=>
   erw[eA h λw M=>(we p λa d m C=>(Fi pv C λK u=>?_))];haveI j:=ne.each env;haveI O:(assignEach N env).length=d.size:=by rw[j,aa,ne.len,<-w,u.arr]
   erw[assign_Tuple_tuple I (⟨_,st.2 _ _ K,rfl,_,rfl⟩:IsTup s.heap a d) O (by rw[j,List.findIdx?_eq_none_iff];intro x G;obtain⟨y,_,rfl⟩:=Gb G;rfl) λg J=>?_];rw[j];haveI r:∀b o,s.heap.get? b=some o->g.get? b=some o:=λb o e=>J b o (Kc (Heap.lt_size e)) e;erw[mH nd B ne (z.grow (s':={s with heap:=g}) r) (st.grow (s':={s with heap:=g}) r) u w λs' l f=>k _ s' l f M]
  |_=>exact h.elim
end
section
open W PyProof.Rows
theorem Nj (f:Array Value->Array Value)(items:Array Value)(k:Nat):∃a,Obj.mapSeq f (Ge items k)=Ge (f items) a:=⟨_,rfl⟩
theorem St.uD (st:St c H T F s){p:Nat}{vs ws:List MV}{items a:Array Value}{k:Nat}{h':Heap}(d:H p=some (.list vs))(h:h'.get? p=some (Ge a k))(g:∀b ob,b≠p->s.heap.get? b=some ob->h'.get? b=some ob)(f:Ee c T ws a.toList)(t:Nat):St c (H.set p (.list ws)) T F {s with heap:=h',toks:=t}:=
 st.put (s':={s with heap:=h',toks:=t}) g (o:=.list ws) ⟨a,k,h,f⟩ (st.4 _ _ d) (st.5 _ _ d) λe=>by have:=st.11.1;rw[e,d]at this;exact ns this
theorem Pu {h:Heap}{p:Nat}{f:Obj->Obj}:∀b ob,b≠p->h.get? b=some ob->(h.update p f).get? b=some ob:=λb ob a e=>(Heap.get?_update_ne _ _ _ _ a).trans e
theorem Qu {p q:Nat}{vs ws:List MV}{Q:MV->MH->Prop}(st:St c H T F s)(n:H p=some (.list vs))(u:H q=some (.list ws))(y:vs.length<big)(w:ws.length<big)(h:Q (.ref p) (H.set p (.list (vs++ws)))):wpAny (ako c) A (inplaceOp .Add (.ref p) (.ref q)) (Cd c T F Q) akn s:=by
 erw[vf (st.lst n) λa k i m=>(vf (st.lst u) λd t o l=>?_)];have f:a.size+d.size+100<=sizeLine:=by rw[<-m.arr,<-l.arr];exact wo y w
 haveI v:typeLookup (.type "list") (dunderI "add")=pure (some (.builtin "list.__iadd__")):=PySem.F.slot_list_iadd.lookup;haveI j:seqSlot? (.type "list") (dunderI "add")=pure (some (.builtin "list.__iadd__")):=PySem.seqSlot_of PySem.F.slot_list_iadd.lookup (by decide+kernel);haveI e:fillsInplaceSlot (.type "list") "add" (Operator.Add==.Add)=pure false:=by
  unfold fillsInplaceSlot;show(typeLookup (.type "list") (dunderI "add")>>=λr=>pure (r.isSome&&!isSeqSlot r))=pure false;rw[v];show(pure _:Sem Bool)=_;rw[show(!isSeqSlot (some (Value.builtin "list.__iadd__")))=false from by decide+kernel,Bool.and_false]
 haveI g:s.TypeIs (.ref p) "list":=⟨_,i,rfl⟩;unfold inplaceOp;erw[Bc (xc (wpAny_typeOf g (xc (wpAny_of_eq e ?_))))];show wpAny _ A (if false=true then _ else _) _ _ s;rw[Dc Na];erw[xc (wpAny_binaryOp1_none (nm:="add") g ⟨_,o,rfl⟩ noFill_list_add ?_),xc (wpAny_of_eq j (xc (wpAny_rule ?_)))];refine call_meets PySem.F.slot_list_iadd g PySem.F.entry_list_iadd (PySem.F.args_list_iadd_2 _ _) (AutoSeq1.list___iadd___list_list_0 p a k q d t (iX f) (ext2 f) (ext3 f)) ⟨i,o,?_⟩
 erw[eE (Nj (λx=>x++d) a k) λB b=>?_,haveI z:=st.uD (h':=s.heap.update p (Obj.mapSeq λx=>x++d)) (items:=a) n (by rw[<-b];exact Heap.get?_update_self _ i (by rw[b];rfl)) Pu (ws:=vs++ws) (by simpa using m.append l) s.toks;?_,Cd.of (mv:=.ref p) z rfl h]
theorem rz {o:Operator}{x y:MV}{a b:Value}{Q:MV->MH->Prop}(st:St c H T F s)(g:VR c T x a)(f:VR c T y b)(h:Nm o x y H Q):wpAny (ako c) A (inplaceOp o a b) (Cd c T F Q) akn s:=by
 cases x<;>first|exact h.elim|skip
 ·erw[Sd (Be h) λj m e=>?_];subst m;obtain⟨t,rfl⟩:=g;obtain⟨u,rfl⟩:=f;erw[rG e st]
 ·erw[rF o h λh=>(Sd (qj h) λq n e=>?_)];subst n;erw[Sd (Pe e) λr k l=>(Sd (Pe l) λp i d=>?_)];obtain rfl:=g;obtain rfl:=f;erw[Qu st k i d.1 d.2.1 d.2.2]
theorem tz {l:Addr}{items:Array Value}{m:Nat}{k:Int}{t:Tok}{v:Value}{Q:Unit->Shared->Prop}(f:0<=k)(e:k<items.size)(h:items.size<100000)(a:s.heap.get? l=some (Ge items m))(n:∀h',(∀b ob,b≠l->s.heap.get? b=some ob->h'.get? b=some ob)->∀m',h'.get? l=some (Ge (items.setIfInBounds k.toNat v) m')->Q () {s with heap:=h'}):wpAny (ako c) A (setItem (.ref l) (.int k t) v) Q E s:=by
 haveI d:s.TypeIs (.ref l) "list":=⟨_,a,rfl⟩;haveI hf:=fitsIndex_of f (wc e (FB h));unfold setItem;erw[Bc (xc (wpAny_sequenceKey d akq ?_))]
 refine xc (wpAny_callSpecial?_slot (name:=Str.ofString "__setitem__") d slot_list_setitem (wpAny_call_entry slot_list_setitem d entry_list_setitem ?_ (args_list_setitem _ _ _)))
 show wpAny _ _ (Builtin.List.listSubscript? (.int k t)>>=_) _ _ s;erw[xc (wpAny_listSubscript_int hf ?_)];clear hf;obtain⟨j,rfl⟩:=Int.eq_ofNat_of_zero_le f;have i:j<items.size:=Int.ofNat_lt.mp e;erw[eE (Nj (·.setIfInBounds j v) items m) λm' g=>?_];haveI fin:=n (s.heap.update l (Obj.mapSeq (·.setIfInBounds j v))) Pu m' (by rw[Int.toNat_natCast,<-g];exact Heap.get?_update_self _ a (by rw[g];rfl));show wpAny _ _ ((seqItemAt l j>>=λr=>pure (r.map (j,·)))>>=_) _ _ s;erw[xc (xc (wpAny_seqItemAt a rfl (yc ?_)))];rw[Array.getElem?_eq_getElem i];show wpAny _ _ (setSeqItemAt l j v>>=_) _ _ s;erw[xc (wpAny_setSeqItemAt a rfl ?_)]
 first
  |exact xc (yc (yc ⟨.none,rfl,yc fin⟩))
  |exact yc ⟨.none,rfl,yc fin⟩
theorem nH (bs:Bs c mg mb){x y v:MV}{a b z:Value}{Q:MH->Prop}(st:St c H T F s)(B:VR c T x a)(l:VR c T y b)(i:VR c T v z)(D:A.units+200<cLine)(h:Om x y v H Q):wpAny (ako c) A (setItem a b z) (λ_ s'=>Wo c T F Q s') akn s:=by
 erw[Sd (qj h) λp C K=>?_];subst C;obtain rfl:=B;rcases Mm K with⟨w,g,f⟩|⟨P,g,f⟩
 ·erw[Yj (Be f) λk N r o J=>?_];subst N;erw[Xh b l λt=>(Sd (Me J) λj e I=>(vf (st.lst g) λd m L q=>?_))];rw[q.arr]at e o;obtain⟨-,n⟩:=Zo e;haveI M:j=k.toNat:=by
   unfold tj at e;rw[Ec r,Ec n]at e;exact(oa e).symm
  subst M;exact tz r n o L λu E R G=>⟨_,T,akt T,st.uD (h':=u) (items:=d) g G E (ws:=w.set k.toNat v) (by rw[Array.toList_setIfInBounds];exact q.set i _) s.toks,I⟩
 ·erw[vO bs st g f.1 l i (Og akq D) f.2.1 λs' O=>⟨_,T,akt T,O,f.2.2⟩]
end
section
open W PyProof.Rows
set_option tactic.hygienic true
variable {H H' : MH} {T T' F : Tb} {Q : MV → MH → Prop} {E : Value → Shared → Prop} {c : Cx} {mg mb : Str → Option Value} {s : Shared} {nm : List Str} {n : Nat} {A : Around} {P : Pg} {sc : Scope} {env : Env} {L : List MV} {D : Dx}
theorem Qk (h:Li v=false)(t:Option Expr)(a:Nat)(env:Env):swapsWith v t a env=pure false:=by cases v<;>first|rfl|(exact tf h;done)
theorem OO (a:Nat)(h:env.kindOf x=some .cell):swapsWith v (some (.Name x pos)) a env=pure false:=by have e:(env.blockKind==ScopeKind.function&&env.kindOf x==some .local)=false:=Er h (Bool.and_false _);cases v<;>first|rfl|exact Fc (λb=>(pure (b&&_&&_):Sem Bool)) e
theorem xn (h:Zm v=false\/Zm t=false/\(∀l p,t≠.List l p))(env:Env):swappedStores [t] v env=pure none:=by
 cases t<;>first|rfl|skip
 ·rcases h with h|⟨_,h⟩
  ·cases v<;>first|rfl|(exact tf h;done)
  ·erw[qd rfl (h _ _)]
 ·rcases h with h|⟨h,_⟩
  ·cases v<;>first|rfl|(exact tf h;done)
  ·erw[tf h]
section
variable {Zf:Nat->Nat->Option Nat}{th:Nat->Nat}
theorem Rp {t v:Expr}{pos:Pos}{Q:Flow->Shared->Prop}(d:swapsWith v (some t) pos.line env=pure false)(b:swappedStores [t] v env=pure none)(f:assignEach [t] env=[(false,assign t env)])(h:wpAny (ako c) A (eval v env) (λx a=>wpAny (ako c) A (assign t env x) (λzz=>Q .next) E a) E s):wpAny (ako c) A (exec (.Assign [t] v pos) env) Q E s:=
 wpAny_Assign_stores (zc h (λx a g=>by exact Er f g) λzz zz e=>e) d b
theorem Tf.next {Q:MF->List MV->MH->Prop}{L':List MV}(le:T.le T')(st:St c H' T' F s)(a:Fr c env nm L' H' T' F s)(q:Q .next L' H'):Tf c env nm T F Q .next s:=⟨.next,L',H',T',le,st,a,rfl,q⟩
theorem Ww (nd:nm.Nodup)(ne:Qq sc nm t i)(d:Li v=false\/∃x p,t=.Name x p/\sc.names.lookup x=some .cell)(u:Pd c P n sc nm v me):uh c P n sc nm (.Assign [t] v pos) (.asg i me):=by
 intro A b T F H L s Q k f w st h;have r:swapsWith v (some t) pos.line b=pure false:=by
  rcases d with d|⟨x,p,rfl,hk⟩
  ·erw[Qk d _ _ _]
  ·erw[OO _ (by unfold Env.kindOf;exact Er f.Rr hk)]
 have o:Zm t=false/\(∀l p,t≠.List l p):=by obtain⟨x,p,rfl,_⟩:=ne;exact⟨rfl,λzz zz e=>by cases e⟩
 erw[Rp r (xn (.inr o) b) (by obtain⟨x,p,rfl,_⟩:=ne;rfl) (kg u k f w st h λx a I G C le z g j q=>?_),Qp nd f ne g z j λB m y=>Tf.next le m y q]
theorem vD (nd:nm.Nodup){pos:Pos}(d:NO sc nm t (.many is))(o:Li v=false)(l:Zm v=false)(m:Pd c P n sc nm v me):uh c P n sc nm (.Assign [t] v pos) (.Zl is me):=by intro A b T F H L s Q e f p st h;erw[Rp (Qk o _ _ _) (xn (.inl l) b) (by obtain⟨_,_,_,rfl,_⟩:=d;rfl) (kg m e f p st h λx a C z y le u g i q=>?_),ot nd f e.2.2 d g u i q λB w k r j=>Tf.next le k r j]
theorem wD (nd:nm.Nodup)(K:A.handled=none)(p:Ap c env sc)(hi:nm[i]?=some x)(h:nm[j]?=some y)(I:sc.names.lookup x=some .local)(G:sc.names.lookup y=some .local)(O:(y==x)=false){a b:MV} {g f:Value} {t:Addr} {Q:MF->List MV->MH->Prop} (N:Fr c env nm L H T F s) (st:St c H T F s) (J:IsTup s.heap t #[g,f]) (w:VR c T a g) (v:VR c T b f) (q:Q .next ((L.set i a).set j b) H):wpAny (ako c) A (unpackItems (.ref t) 2 none) (λitems B=>wpAny (ako c) A (assignInOrder ([x,y].reverse.map λn=>bindName env n) items.reverse) (λzz=>Tf c env nm T F Q .next) akn B) akn s:=by
 erw[PyProof.Rows.unpackItems_tuple (items:=#[g,f]) K J λk M=>?_];haveI m:∀b o,s.heap.get? b=some o->k.get? b=some o:=λb o e=>M b o (Kc (Heap.lt_size e)) e;haveI R:=st.grow (s':={s with heap:=k}) m;haveI u:=N.grow (s':={s with heap:=k}) m;erw[xc (Bc (u.store R nd p.toBf h (.inl G) v λU z r=>?_)),xc (Bc (r.store z nd p.toBf hi (.inl I) w λS d l=>yc ?_))];haveI C:i≠j:=λe=>by subst e;rw[hi]at h;obtain rfl:=(oa h);simp at O
 erw[Tf.next (akt T) d (L':=(L.set j b).set i a) l (Er (List.set_comm _ _ (Ne.symm C)) q)]
theorem zD (nd:nm.Nodup)(hi:nm[i]?=some x)(U:nm[j]?=some y)(I:sc.names.lookup x=some .local)(G:sc.names.lookup y=some .local)(J:(y==x)=false) (N:p1.line=p2.line) (O:(u==("__debug__":Str))=false) (X:Pd c P n sc nm (.Name u p5) m1) (W:Pd c P n sc nm (.Name v p6) m2):uh c P n sc nm (.Assign [.Tuple [.Name x p1,.Name y p2] k1 p3] (.Tuple [.Name u p5,.Name v p6] k2 p4) pos) (.swap i j m1 m2):=by
 intro A d T F H L s Q B k z st h;have K:∀x,d.kindOf x=sc.names.lookup x:=λx=>by unfold Env.kindOf;exact Er k.Rr rfl
 have w:d.blockKind=.function:=by
  unfold Env.blockKind;erw[Er k.Rr (Er k.kind rfl)]
 have hw:swappedStores [.Tuple [.Name x p1,.Name y p2] k1 p3] (.Tuple [.Name u p5,.Name v p6] k2 p4) d=pure (some [x,y]):=by
  haveI Y:([x,y].eraseDups)=[x,y]:=by
   simp only[List.eraseDups_cons,List.eraseDups_nil,Wb,List.filter_nil,J,Bool.not_false,if_true]
  unfold swappedStores;dsimp only;generalize hfm:List.filterMap _ [Expr.Name x p1,Expr.Name y p2]=fm;obtain rfl:fm=[x,y]:=by
   rw[<-hfm,List.filterMap_cons_some (b:=x),List.filterMap_cons_some (b:=y),List.filterMap_nil]
   ·show(if (d.kindOf y==some .local&&p2.line==p1.line)=true then some y else none)=some y;simp only[K,G,N,Pa];rfl
   ·show(if (d.kindOf x==some .local&&p1.line==p1.line)=true then some x else none)=some x;simp only[K,I,Pa];rfl
  erw[Er Y ((Dc (λh=>?_)).trans ((Dc (λh=>by exact ft h)).trans ((Dc (λh=>by exact ft h)).trans ((Dc (λh=>by exact ft h)).trans (Dc λh=>?_)))))]
  ·haveI h:(d.blockKind !=ScopeKind.function)=true:=h;haveI h:=w▸h;exact ft h
  ·haveI h:((u==("__debug__":Str))&&_)=true:=h;haveI h:=O▸h;exact ft h
 erw[PyProof.Rows.Assign_Tuple_swapped (names:=[x,y]) ?_ rfl hw,haveI R:wj c P n sc nm [.Name u p5,.Name v p6] (.cons m1 (.cons m2 .nil)):=Ci rfl X (Ci rfl W vn);?_,wpAny_Tuple (zc (R p4 A d T (qm d s F) H L s (λm M=>match m with|[a,b]=>Q .next ((L.set i a).set j b) M|_=>False) B k.toBf z.lf (z.st st) h) (λm l S=>?_) λzz zz f=>f)];obtain⟨Qr,M,T2,le,r,g,q⟩:=S;erw[eA (z.next le r) λZ r=>?_];split at q
 ·rename_i a b
  match m,g with
  |[pa,pb],g=>
   refine⟨by show 2<=sizeLine;refine Er sizeLine_eq ?_;exact by decide,?_⟩;haveI C:∀b o,l.heap.get? b=some o->(l.heap.push (Yh #[pa,pb] 0)).get? b=some o:=λb o e=>Wc _ e;refine zc (wD (s:={l with heap:=l.heap.push (Yh #[pa,pb] 0)}) nd B.2.2 k hi U I G J (Z.grow C) (r.grow C) ⟨_,Xc _ rfl,rfl,_,rfl⟩ g.1 g.2.1 q) (λt s3 V=>zc V (λzz zz p=>p.up le) λzz zz f=>f) λzz zz f=>f
  |[],g=>exact g.elim|[_],g=>exact g.2.elim|_::_::_::_,g=>exact g.2.2.elim
 ·erw[q.elim]
theorem Wo.go {K:MH->Prop}{X:Shared->Prop}(e:Fr c env nm L H T' F s)(le:T.le T'){s':Shared}(h:Wo c T' (qm env s F) K s')(k:∀H2 a,T.le a->St c H2 a F s'->Fr c env nm L H2 a F s'->K H2->X s'):X s':=by obtain⟨H2,a,d,b,q⟩:=h;erw[eA (e.next d b) λf b=>(k H2 a (aks le d) b f q)]
theorem AD (bs:Bs c mg mb)(kb:Kb c D Zf th){d pos:Pos}(z:D.fld f=true)(u:c.sx[f]?=some name)(C:Li v=false)(w:Pd c P n sc nm o mo)(B:Pd c P n sc nm v mv):uh c P n sc nm (.Assign [.Attribute o name d] v pos) (.qi mo f mv):=by intro A e T F H L s Q g j I st h;erw[Rp (Qk C _ _ _) (xn (.inr ⟨rfl,λzz zz h=>Expr.noConfusion h⟩) e) rfl (kg B g j I st h λy b H1 Y V K M O l r=>?_)];simp only[arm_assign_Attribute];erw[xc (Bc (kg w g j O M r λx a H2 X U i t k m q=>?_)),xc (Cc (xc (Bc ?_))),zc (KB bs kb z u (k.st t) m (VR.mono i _ _ l) q) (λzz S G=>?_) λzz zz f=>f,Wo.go k (aks K i) G λZ W N J R p=>wpAny_release (Tf.next N J R p)]
theorem CD (bs:Bs c mg mb){k pos:Pos}(N:Li v=false)(K:Pd c P n sc nm o mo)(hi:Pd c P n sc nm i mi)(M:Pd c P n sc nm v mv):uh c P n sc nm (.Assign [.Subscript o i k] v pos) (.dg mo mi mv):=by intro A j T F H L s Q e g R st h;erw[Rp (Qk N _ _ _) (xn (.inr ⟨rfl,λzz zz h=>Expr.noConfusion h⟩) j) rfl (kg M e g R st h λy b H1 T1 s1 V X Y t G=>?_)];rw[arm_assign_Subscript];erw[xc (Bc (kg K e g Y X G λx a H2 T2 s2 m J S u C=>?_)),xc (Bc (kg hi e g S J C λz d H3 T3 s3 l U p r B=>?_)),xc (Cc (xc (Bc ?_))),zc (nH bs (p.st U) (VR.mono l _ _ u) r (VR.mono (aks m l) _ _ t) e.units B) (λzz Z O=>?_) λzz zz f=>f,Wo.go p (aks V (aks m l)) O λH4 T4 I W q w=>wpAny_release (Tf.next I W q w)]
theorem PO (l:nm[i]?=some x)(B:(x==("__classdict__":Str))=false)(f:sc.names.lookup x=some .local\/sc.names.lookup x=some .cell\/sc.names.lookup x=some .free)(m:Bf c env sc) (lf:Hk c env nm L T F) (st:St c H T F s) (w:L.getD i .td≠.td) (k:Q (L.getD i .td) H):wpAny (ako c) A (loadName env x) (Cd c T F Q) akn s:=by
 haveI y:i<L.length:=by
  exact(lf.1)▸(Fa l).1
 have v:L[i]?=some (L.getD i .td):=by refine Er Ga ?_;refine Er (wa y) ?_;rfl
 have g:env.kindOf x=sc.names.lookup x:=by unfold Env.kindOf;exact Er m.Rr rfl
 have j:env.scope.kind=.function:=Er m.Rr m.kind;rcases f with f|f
 ·erw[hide λI h=>(We lf.2 λo C G a J=>(pj J λb d e=>(h ?_)))];clear h;erw[Sd (e i x _ l (g.trans f) v w) λt p q=>(wpAny_loadName_local j (g.trans f) ⟨o,C,G,st.3 _ _ a,b,d,λzz=>rfl⟩ p (Cd.of st q k))]
 ·erw[hide λI h=>(We (lf.3 i x _ l (f.imp g.trans g.trans) v w) λa o t p K=>(pj K λq r z=>(h ?_)))];clear h;haveI u:s.heap.IsCell a (some t):=⟨o,st.3 _ _ q,r⟩;erw[Or.elim f (λf=>(wpAny_loadName_cell j (g.trans f) p u (Cd.of st z k))) (λf=>(wpAny_loadName_free j (g.trans f) p u (Cd.of st z k) B))]
theorem qH (nd:nm.Nodup)(l:nm[i]?=some x)(O:(x==("__classdict__":Str))=false)(m:sc.names.lookup x=some .local\/sc.names.lookup x=some .cell)(N:Pd c P n sc nm v mv):uh c P n sc nm (.AugAssign (.Name x ag7) op v pos) (.aug i op mv):=by intro A U T F H L s Q I d e st h;erw[eA (Bi h) λX h=>?_];simp only[arm_exec_AugAssign];erw[xc (Cc (xc ?_)),zc (PO (Q:=λv Y=>v=L.getD i .td/\Y=H) l O (m.imp id .inl) d.toBf e.lf (e.st st) X ⟨rfl,rfl⟩) (λa s1 S=>?_) λzz zz f=>f,hide λZz q=>?_];obtain⟨w,H1,T1,p,j,G,rfl,rfl⟩:=S;erw[q ?_];clear q;erw[eA (e.next p j) λW j=>(xc (Bc (kg N I d W j h λy b H2 T2 s2 k M o C K=>?_))),xc (Cc (xc (wpAny_operating (zc (rz (o.st M) (VR.mono k _ _ G) C K) (λr s3 R=>?_) λzz zz f=>f))))];obtain⟨z,H3,T3,t,g,B,J⟩:=R;obtain⟨Z,g⟩:=o.next t g;erw[xc (Cc (xc ?_)),Z.store g nd d.toBf l (m.imp id λh=>⟨h,d.cl x h⟩) B λs4 V u=>yc (Tf.next (aks p (aks k t)) V u J)]
theorem DD (bs:Bs c mg mb)(kb:Kb c D Zf th){BX pos:Pos}(q:D.fld f=true)(p:c.sx[f]?=some name)(V:Pd c P n sc nm o mo)(W:Pd c P n sc nm v mv):uh c P n sc nm (.AugAssign (.Attribute o name BX) op v pos) (.cG mo f op mv):=by intro A env T F H L s Q m t fr st h;erw[wpAny_AugAssign_AttributeAny (kg V m t fr st h λx a H1 T1 s1 Sg Oe B l U=>?_),zc (JB kb q p (B.st Oe) l U) (λw s2 Z=>?_) λzz zz f=>f];obtain⟨y,H2,T2,b,g,I,S⟩:=Z;erw[eA (B.next b g) λdp g=>(kg W m t dp g S λz d H3 T3 s3 j Vi C K R=>(zc (rz (C.st Vi) (VR.mono j _ _ I) K R) (λr s4 Y=>?_) λzz zz f=>f))];obtain⟨u,H4,T4,e,i,J,O⟩:=Y;obtain⟨k,i⟩:=C.next e i;erw[zc (KB bs kb q p (k.st i) (VR.mono (aks b (aks j e)) _ _ l) J O) (λzz s5 X=>?_) λzz zz f=>f,Wo.go k (aks Sg (aks b (aks j e))) X λH5 T5 Lr M G N=>Tf.next Lr M G N]
theorem ED (bs:Bs c mg mb){BX pos:Pos}(hs:isSlice i=false)(ho:Pd c P n sc nm o mo)(hi:Pd c P n sc nm i mi)(he:Pd c P n sc nm v mv):uh c P n sc nm (.AugAssign (.Subscript o i BX) op v pos) (.tw mo mi op mv):=by intro A env T F H L s Q e q fr st h;erw[wpAny_AugAssign_SubscriptAny (kg ho e q fr st h λx a H1 T1 s1 Sg Oe Kl J q1=>?_) (λzz zz zz=>by cases i<;>first|rfl|(exact tf hs;done)),kg hi e q Kl Oe q1 λy b H2 T2 s2 k jf M I Z=>(hide λZz N=>(ff (fH bs Z (M.st jf) (VR.mono k _ _ J) I e.units) λzz zz zz zz g=>(N ?_)))];clear N;erw[zc g (λw s3 h3=>?_) λzz zz f=>f];obtain⟨z,H3,T3,O,t,R,Y⟩:=h3;obtain⟨BD,t⟩:=M.next O t;erw[kg he e q BD t Y λz d H4 T4 s4 K Ql G U X=>(zc (rz (G.st Ql) (VR.mono K _ _ R) U X) (λr s5 h5=>?_) λzz zz f=>f)];obtain⟨u,H5,T5,Lr,l,S,W⟩:=h5;obtain⟨C,l⟩:=G.next Lr l;haveI B:=aks O (aks K Lr);erw[zc (nH bs (C.st l) (VR.mono (aks k B) _ _ J) (VR.mono B _ _ I) S e.units W) (λzz s6 h6=>?_) λzz zz f=>f,Wo.go C (aks Sg (aks k B)) h6 λH6 T6 m j p V=>Tf.next m j p V]
theorem rH (i:Li e=false)(g:Pd c P n sc nm e me):uh c P n sc nm (.Expr e pos) (.exp me):=by intro A k T F H L s Q d b j st h;erw[wpAny_Expr_any (kg g d b j st h λx a t r q l m o p f=>Tf.next l m o f) ?_ (Qk i _ _ _)];unfold interactive;erw[Er b.Rr (Er b.kind rfl)]
theorem sH (g:Pd c P n sc nm e me):uh c P n sc nm (.Return (some e) pos) (.ret me):=by intro A k T F H L s Q d j i st h;erw[wpAny_Return_some (kg g d j i st h λx a q l r m o p b f=>⟨.ret x,L,q,l,m,o,p,⟨a,rfl,b⟩,f⟩)]
theorem FD:uh c P n sc nm (.Return none pos) (.ret (.cst .none)):=by intro A b T F H L s Q d e a st h;erw[wpAny_Return_none ⟨.ret .none,L,H,T,akt T,st,a,⟨_,rfl,rfl⟩,h⟩]
theorem GD:uh c P n sc nm (.Continue pos) .cont:=by intro A b T F H L s Q d e a st h;erw[wpAny_Continue ⟨.cont,L,H,T,akt T,st,a,rfl,h⟩]
theorem HD:wn c P n sc nm [] []:=by intro A b T F H L s Q d e a st h;erw[wpAny_execs_nil (Tf.next (akt T) st a h)]
theorem uz (x:uh c P n sc nm ps ms)(w:wn c P n sc nm pr mr):wn c P n sc nm (ps::pr) (ms::mr):=by
 intro A a T F H L s Q l m y st h;erw[wpAny_execs_cons (zc (x A a T F H L s _ l m y st h) (λz o p=>?_) λzz zz f=>f)];obtain⟨t,i,k,d,e,g,j,b,q⟩:=p;cases t with
 |next=>
  obtain rfl:=b;erw[zc (w A a d F k i o Q l m j g q) (λzz zz p=>p.up e) λzz zz f=>f]
 |cont=>obtain rfl:=b;exact⟨.cont,i,k,d,e,g,j,rfl,q⟩
 |ret v=>obtain⟨r,rfl,u⟩:=b;exact⟨.ret v,i,k,d,e,g,j,⟨r,rfl,u⟩,q⟩
theorem tH {t:Expr}{l:ME}{k j:List Stmt}{m o:List MS}{pos:Pos}(x:ui c P n sc nm t l)(z:wn c P n sc nm k m)(y:wn c P n sc nm j o):uh c P n sc nm (.If t k j pos) (.ifs l m o):=by
 intro A a T F H L s Q d e B st h;erw[wpAny_If (LB x d e B st h λb w q g r u v i=>?_)];cases b with
 |true=>
  simp only[if_true];erw[zc (z A a q F w L g Q d e v u (i.1 rfl)) (λzz zz p=>p.up r) λzz zz f=>f]
 |false=>
  simp only[Bool.false_eq_true,if_false];erw[zc (y A a q F w L g Q d e v u (i.2 rfl)) (λzz zz p=>p.up r) λzz zz f=>f]
end
end
section
open W PyProof.Rows
variable {H H' : MH} {T T' F : Tb} {Q : MV → MH → Prop} {E : Value → Shared → Prop} {c : Cx} {mg mb : Str → Option Value} {s : Shared} {nm : List Str} {n : Nat} {A : Around} {P : Pg} {sc : Scope} {env : Env} {L : List MV} {D : Dx}
section
variable {th:Nat->Nat}
theorem Fr.uH (e:Fr c env nm L H T F s)(d:s.heap.get? a=none):¬Own env a:=λh=>by
 rcases h with rfl|⟨x,h1,h2⟩
 ·obtain⟨m,⟨o,f,g,b,_⟩,_⟩:=e.2;rw[d]at b;exact nn b
 ·obtain⟨w,o,b,_⟩:=e.3 x a h1 h2;rw[d]at b;exact nn b
theorem Fr.at (d:Fr c env nm L H T F s)(k:∀b,Own env b->∀o,s.heap.get? b=some o->s'.heap.get? b=some o):Fr c env nm L H T F s':=by
 refine⟨d.1,?_,?_,?_,d.5,d.6,d.7,d.8⟩
 ·erw[hide λq e=>(Sd d.2 λm J h=>(We J λo G I l j=>(e ?_)))];clear e;exact⟨m,⟨o,G,I,k _ (.inl rfl) _ l,j⟩,h⟩
 ·intro x a g f;erw[hide λq e=>(vf (d.3 x a g f) λw o l j=>(e ?_))];clear e;exact⟨w,o,k _ (.inr ⟨x,g,f⟩) _ l,j⟩
 ·intro i x v g f B z;erw[hide λq e=>(ff (d.4 i x v g f B z) λa y p C r=>(Sd C λo u t=>(e ?_)))];clear e;exact⟨a,y,p,⟨o,k _ (.inr ⟨x,f,p⟩) _ u,t⟩,r⟩
theorem Fr.Xw (d:Fr c env nm L H T F s)(m:¬Own env a)(t:F a=none):Fr c env nm L H T (F.set a o) s:=by
 refine⟨d.1,d.2,d.3,d.4,?_,?_,d.7,d.8⟩
 ·intro i x v h g f e;erw[We (d.5 i x v h g f e) λb l k p u=>(eA u λq r=>⟨b,l,k,p,Tb.Gf o t _ _ q,r⟩)]
 ·intro b j;erw[fj (d.6 b j) λh g f e=>⟨h,g,?_,e⟩];unfold Tb.set;rw[Dc];exact f;rintro rfl;exact m j
theorem Fr.Ru (d:Fr c env nm L H T (F.set a o) s)(u:F a=none)(l:∀v,o.data≠.cell v):Fr c env nm L H T F s:=by
 refine⟨d.1,d.2,d.3,d.4,?_,?_,d.7,d.8⟩
 ·intro i x v h g e f;erw[We (d.5 i x v h g e f) λb k j p t=>(eA t λq r=>⟨b,k,j,p,?_,r⟩)];unfold Tb.set at q;split at q
  ·obtain rfl:=(oa q);exact qd r.1 (l _)
  ·erw[q]
 ·intro b m;erw[fj (d.6 b m) λh g e f=>⟨h,g,?_,f⟩];unfold Tb.set at e;split at e
  ·exact(nomatch e)
  ·erw[e]
theorem xi.Co (x:xi c T v vs i o):∀w,o.data≠.cell w:=by
 intro w e;cases x with
 |list _ b=>rw[b]at e;exact Xi Data.ctorIdx e rfl
 |tup _ b _ _=>rw[b]at e;exact Xi Data.ctorIdx e rfl
 |up=>exact Xi Data.ctorIdx e rfl|down=>exact Xi Data.ctorIdx e rfl
theorem vH (I:Nat->Shared->Prop)(turn:∀n s,I n s->wpAny (ako c) A (pyNext it) (λr e=>match r with
  |none=>R (.ok .next) e|some v=>wpAny (ako c) A (letOwnedTupleGo target it v) (λzz g=>wpAny (ako c) A (assign target env v) (λzz j=>wpAny (ako c) A (execs body env) (λf d=>match f with
   |.next|.cont=>∃m,m<n/\I m d|.brk=>R (.ok .next) d|.ret v=>R (.ok (.ret v)) d) akn j) akn g) akn e) akn s)
 (n:Nat) (h:I n s):codeAny (ako c) A (.forLoop target it body [] env) R s:=by
 erw[codeAny_loop' rfl I (λn s l=>?_) n h,wpAny_noted ?_];dsimp only[forTurn];erw[xc (Cc (xc (wpAny_onRaise (zc (turn n s l) (λr e i=>?_) λzz zz a=>a.elim))))];cases r with
 |none=>exact yc (.inr ⟨rfl,codeAny_block (wpAny_execs_nil i)⟩)|some v=>
  erw[xc (zc i (λzz g o=>?_) λzz zz a=>a.elim),xc (zc o (λzz j k=>xc (zc k (λf d b=>?_) λzz zz a=>a.elim)) λzz zz a=>a.elim)];cases f with
  |next=>exact yc (.inl ⟨rfl,b⟩)|cont=>exact yc (.inl ⟨rfl,b⟩)|brk=>exact yc b|ret v=>exact yc b
theorem wH (nd:nm.Nodup)(tg:NO sc nm target t)(qk:gg iter=false)(hi:Pd c P n sc nm iter mi)(M:wn c P n sc nm pb Vs):uh c P n sc nm (.For target iter pb [] pos) (.Jl t mi Vs):=by
 intro A l T F H L s Q U eo fr st h;erw[wpAny_For (kg hi U eo fr st h λv x H1 Z s1 Sg R Kl va q1=>?_) (λx=>by cases iter<;>first|rfl|(exact tf qk;done)),Ou q1 R va λj N o s2 q2 vm it jf ho kp=>?_];haveI C:=de s1.heap;generalize s1.heap.objs.size=I at ho C⊢;have B:F I=none:=R.cD C;haveI hH:=R.xw C;haveI hT:=R.bD C;have hP:=R.dD C;have X:¬Own l I:=Kl.uH C;haveI dp:=Kl.grow (s':=s2) kp
 refine vH (λk J=>∃p g a d r,p.length=k/\Z.le d/\(∃i,i+k=j.length/\j.drop i=p/\xi c d v j i r)/\St c a d (F.set I r) J/\Fr c l nm g a d (F.set I r) J/\
  Mh N t (λg a K=>Kd P Vs g a K) p g a Q) (λk J hI=>?_) j.length
  ⟨j,L,H1,Z,o,rfl,akt Z,⟨0,by exact Ka (ee 0xfb3 rfl) (ee 0xfb03 rfl),rfl,it⟩,jf.Fk ho hH hP hT,dp.Xw X B,q2⟩
 erw[hide λZz Od=>?_];obtain⟨p,g,a,d,r,u,yn,⟨i,G,hd,SO⟩,O,wy,W⟩:=hI;erw[Od ?_];clear Od;haveI lR:J.heap.get? I=some r:=O.3 _ _ (Tb.Jd ..);have Y4:a I=none:=by
  cases e:a I with
  |none=>rfl|some z=>haveI:=O.5 _ _ e;rw[Tb.Jd]at this;exact ns this
 haveI Z4:d I=none:=O.6 _ _ (Tb.Jd ..);cases p with
 |nil=>
  have im:i=j.length:=by simp at u;exact Ka (se 0x203210b11 rfl G) (se 0x231f12210b12 rfl G u)
  erw[Vw U.2.2 SO (vm a W.1) O B Y4 Z4 hP im λs3 Y DX=>(Tf.next (aks Sg yn) Y ((wy.Ru B SO.Co).at λb M o e=>DX b o (λq=>X (q▸M)) e) W.2)]
 |cons y S=>
  haveI im:i<j.length:=by simp at u;exact oi 0x2e0b31e3b11210b11 rfl G u
  have hy:j[i]?=some y:=by
   haveI:=Fc List.head? hd;rw[List.head?_drop]at this;exact this
  haveI xO:j.drop (i+1)=S:=Es List.tail_drop (Er hd rfl);erw[gt (bg:=N) SO (vm a W.1) O B Y4 Z4 hP hy λpv V s3 vy EX Y DX=>?_,haveI BD:Fr c l nm g a d (F.set I V) s3:=(((wy.Ru B SO.Co).at λb M o e=>DX b o (λq=>X (q▸M)) e)).Xw X B;?_,lH (Y.3 _ _ (Tb.Jd ..)) EX.plain (ot nd eo U.2.2 tg BD Y vy W.2 λL4 s4 Ql xD q4=>(zc (M A l d (F.set I V) a L4 s4 _ U eo xD Ql q4) (λfl s5 h5=>?_) λzz zz f=>f))];obtain⟨mf,L5,H5,T5,Lr,qt,yD,fw,q5⟩:=h5;haveI step:Mh N t (λg a K=>Kd P Vs g a K) S L5 H5 Q->∃m,m<k/\∃p g a d r,p.length=m/\Z.le d/\(∃i,i+m=j.length/\j.drop i=p/\xi c d v j i r)/\St c a d (F.set I r) s5/\Fr c l nm g a d (F.set I r) s5/\
   Mh N t (λg a K=>Kd P Vs g a K) p g a Q:=λq=>
   ⟨S.length,by simp at u;exact je 0x1e0b31e0b11 rfl u,S,L5,H5,T5,V,rfl,aks yn Lr,⟨i+1,by simp at u;exact Ka (oi 0x23e0bb31e3b11210b11 rfl G u) (oi 0x3e0bb231e3b12210b12 rfl G u),xO,EX.mono Lr⟩,qt,yD,q⟩
  cases mf with
  |next=>obtain rfl:=fw;exact step q5
  |cont=>obtain rfl:=fw;exact step q5
  |ret w=>
   erw[Sd fw λpw' xo vw=>(Er xo ⟨.ret w,L5,H5,T5,aks Sg (aks yn Lr),qt.Gk (Tb.Gf V B),yD.Ru B EX.Co,⟨pw',rfl,vw⟩,q5⟩)]
theorem wz {t:Expr}{O:ME}{y:List Stmt}{U:List MS}{pos:Pos}(ht:ui c P n sc nm t O)(hb:wn c P n sc nm y U):uh c P n sc nm (.While t y [] pos) (.Hi O U):=by
 intro A a T F H L s Q M S fr st h;erw[hide λZz i=>(Sd h λI Ki hI=>(eE Ki λk hk=>(i ?_)))];clear i;erw[wpAny_While (codeAny_whileLoop (λk p=>∃g d e,T.le e/\St c d e F p/\Fr c a nm g d e F p/\I k g d) (λk p hs=>?_) k ⟨L,H,T,akt T,st,fr,hk⟩),hide λZz i=>(We hs λg d e K Hq=>(pj Hq λTd Y hi=>(i ?_)))];clear i
 refine zc (LB (Q:=λb R=>if b=true then wpAny (ako c) A (execs y a) (λf l=>match f with
  |.next|.cont=>∃m,m<k/\∃g d e,T.le e/\St c d e F l/\Fr c a nm g d e F l/\I m g d|.brk=>Tf c a nm T F Q .next l|.ret v=>Tf c a nm T F Q (.ret v) l) akn R else Tf c a nm T F Q .next R) ht M S Y Td (hI k g d hi) λb H1 T1 s1 V W X N=>?_) (λb s2 j=>?_) λzz zz f=>f.elim
 ·cases b with
  |false=>
   simp only[Bool.false_eq_true,if_false];erw[Tf.next (aks K V) W X (N.2 rfl)]
  |true=>
   simp only[if_true];erw[zc (hb A a T1 F H1 g s1 _ M S X W (N.1 rfl)) (λfl s5 h5=>?_) λzz zz f=>f];obtain⟨mf,G,J,C,Lr,r,o,B,u⟩:=h5;haveI le:=aks K (aks V Lr);cases mf with
   |next=>obtain rfl:=B;obtain⟨m,z,q⟩:=u;exact⟨m,z,G,J,C,le,r,o,q⟩
   |cont=>obtain rfl:=B;obtain⟨m,z,q⟩:=u;exact⟨m,z,G,J,C,le,r,o,q⟩
   |ret w=>obtain⟨x,rfl,Z⟩:=B;exact⟨.ret w,G,J,C,le,r,o,⟨x,rfl,Z⟩,u⟩
 ·cases b with
  |false=>
   dsimp only[Bool.false_eq_true,if_false]at j⊢;erw[wpAny_execs_nil j]
  |true=>
   dsimp only[if_true]at j⊢;erw[zc j (λf s3 h3=>by cases f<;>exact h3) λzz zz f=>f.elim]
end
def MB (c:Cx)(T F:Tb)(Q:MV->MH->Prop)(r:Result)(s:Shared):Prop:=∃v,r=.ok (.ret v)/\Cd c T F Q v s
def xF (n:Nat)(A:Around):Prop:=A.depth+4*n+8<recursionLimit/\A.units+20*n+190<cLine/\A.handled=none
def bh (c:Cx)(P:Pg)(D:Dx)(n:Nat):Prop:=
 ∀(f:Nat)(vs:List MV)(xs:List Value)(A:Around)(T F:Tb)(H:MH)(s:Shared)(Q:MV->MH->Prop),xF n A->St c H T F s->Ee c T vs xs->P.call f vs H Q->
  codeAny (ako c) A (.call (.ref (D.fa f)) ⟨xs,[]⟩) (MB c T F Q) s
theorem rt {b a:Type}{l:List b}{f:b->a->Sem (ForInStep a)}(c:a)(h:∀x∈l,f x c=pure (.yield c)):forIn l c f=pure c:=by
 induction l with
 |nil=>rfl|cons x r d=>
  erw[Er (List.forIn_cons ..) (Er (h x (.head _)) ?_),d λy e=>h y (.tail _ e)]
theorem TO:∀(names:List Str)(d:List Value),names.Nodup->d.length=names.length->∀x∈names,((names.zip d).lookup x).isSome=true:=by
 intro names
 induction names with
 |nil=>exact λ_ _ _ x b=>nomatch b|cons a r g=>
  intro d h f x b;cases d with|nil=>exact nomatch f|cons y t=>?_
  erw[Er zip_cons_cons (Er Uc ?_)];cases e:(x==a)with
  |true=>rfl|false=>exact(xa b).elim (λq=>qd (Zc.mpr q) (e▸Na)) λb=>g t (jd h).2 (Nat.succ.inj f) x b
theorem xH {b d:Type}{f g:b->Option d}{l:List b}:(∀x∈l,f x=g x)->l.filterMap f=l.filterMap g:=by
 induction l with
 |nil=>exact λ_=>rfl|cons a r e=>intro h;exact Er List.filterMap_cons (Er List.filterMap_cons (Er (h a (.head _)) (Er (e λx i=>h x (.tail _ i)) rfl)))
theorem ID:∀(names:List Str)(b:List Value),names.Nodup->b.length=names.length->names.filterMap (λn=>((names.zip b).lookup n).map (n,·))=names.zip b:=by
 intro names
 induction names with
 |nil=>exact λ_ _ _=>rfl|cons a r f=>
  intro b i d;cases b with|nil=>exact nomatch d|cons y t=>?_
  have e:=jd i;refine Er zip_cons_cons ?_;rw[List.filterMap_cons,Uc,Pa];show(a,y)::_=_;rw[xH (g:=λn=>((r.zip t).lookup n).map (n,·)),f t e.2 (Nat.succ.inj d)];intro x h;erw[Er Uc (Er (show(x==a)=false from Yc λq=>e.1 (q▸h)) rfl)]
theorem yH {names:List Str}{p:Str->Bool}(h:∀x∈names,p x=false)(k:Nat):(names.take k).filter p=[]:=by rw[List.filter_eq_nil_iff];intro x a;erw[Er (h x (List.mem_of_mem_take a)) Na]
theorem JD:∀{o:Option α},o.isSome=true->o.isNone=false
 |some _,_=>rfl
theorem KD (h:l=[]):¬(!l.isEmpty)=true:=Er h Na
theorem FX {b a:Type}{l:List b}{f:b->a->Sem (ForInStep a)}{c:a}{M:Model}{Q:a->Shared->Prop}(h:∀x∈l,f x c=pure (.yield c))(q:Q c s):wpAny M A (forIn l c f) Q E s:=by erw[Er (rt c h) (yc q)]
theorem LD {xs:List Value}(t:fd.params.posonlyargs=[])(q:fd.params.vararg=none)(m:fd.params.kwonlyargs=[])(h4:fd.params.kwarg=none)(nd:(fd.params.args.map (·.arg)).Nodup)(l:xs.length=fd.params.args.length)(hd:fd.defaults=.none\/∃a o items k,fd.defaults=.ref a/\s.heap.get? a=some o/\o.data=.seq items k):BindsTo s fd ⟨xs,[]⟩ ((fd.params.args.map (·.arg)).zip xs):=by
 intro M A E Q j;have d:xs.length=(fd.params.args.map (·.arg)).length:=Er (aa ..) l;have f:∀x∈fd.params.args.map (·.arg),(((fd.params.args.map (·.arg)).zip xs).lookup x).isNone=false:=λx g=>JD (TO _ xs nd d x g);have self:=ID _ xs nd d;have u:wpAny M A (seqItems? fd.defaults) (λ_ i=>i=s) E s:=by
  rcases hd with hd|⟨a,o,items,k,h5,h6,h7⟩
  ·erw[Er hd (yc rfl)]
  ·erw[Er h5 (wpAny_seqItems h6 h7 rfl)]
 clear hd nd l;obtain⟨R,f1,p,f3,O,N,K,J,I,G,C,B,y,w,v⟩:=fd;obtain⟨p1,p2,p3,p4,p5,p6,p7⟩:=p;dsimp only at t q m h4 d self f u j;subst t q m h4;unfold bindArgs;dsimp only[List.map_nil,List.nil_append,ib];generalize hn:p2.map (·.arg)=names at*;erw[xc (yc ?_),xc (zc u (λr i e=>?_) λ_ _ e=>e),Er e (ug (λh=>(Ic _ (Nat.lt_of_lt_of_eq (Sb (Bool.and_eq_true_iff.mp h).1) d))) (ug (KD (yH f _)) (xc (FX ?_ (xc (yc (ug (λh=>nomatch h) (yc (Eq.mpr (Fc (λz=>Q z _) ((Fc (List.filterMap _) (ib names)).trans self)) j)))))))))]
 ·intro x g;erw[Dc λe=>Na ((f _ (List.mem_of_mem_drop (List.of_mem_zip (a:=x.1) (b:=x.2) g).1)).symm.trans e)]
section
variable {Zf:Nat->Nat->Option Nat}{th:Nat->Nat}
theorem xz:∀{m:Str->Option Value},x∉binds.map (·.1)->bindL k binds m x=m x:=by
 induction binds with
 |nil=>exact λ_=>rfl|cons p r a=>
  intro m h;rw[yb,List.mem_cons,not_or]at h;show bindL k r _ x=m x;erw[Er (a h.2) ?_];by_cases e:k p.1=some .local
  ·rw[Ec e];exact Dc h.1
  ·rw[Dc e]
theorem yz:∀{m:Str->Option Value},x∉binds.map (·.1)->bindC k binds m x=m x:=by
 induction binds with
 |nil=>exact λ_=>rfl|cons p r a=>
  intro m h;rw[yb,List.mem_cons,not_or]at h;show bindC k r _ x=m x;erw[Er (a h.2) ?_];by_cases e:k p.1=some .local
  ·rw[Ec e]
  ·rw[Dc e];exact Dc h.1
theorem AH:∀{names:List Str}{b:List Value}{m:Str->Option Value}{i:Nat}{v:Value},names.Nodup->names[i]?=some x->b[i]?=some v->k x=some .local->bindL k (names.zip b) m x=some v:=by
 intro names
 induction names with
 |nil=>exact λ_ h=>nomatch h|cons a r l=>
  intro b m i v q g d f;cases b with|nil=>exact nomatch d|cons y t=>?_
  have j:=jd q;refine Er zip_cons_cons ?_;rw[bindL];cases i with
  |zero=>
   obtain rfl:=oa g;obtain rfl:=oa d
   rw[xz (λh=>j.1 (by
    obtain⟨p,o,e⟩:=Gb h
    rw[<-e];exact(List.of_mem_zip o).1)),Ec f,Ec rfl]
  |succ i=>exact l j.2 g d f
theorem BH:∀{names:List Str}{b:List Value}{m:Str->Option Value}{i:Nat}{v:Value},names.Nodup->names[i]?=some x->b[i]?=some v->k x≠some .local->bindC k (names.zip b) m x=some v:=by
 intro names
 induction names with
 |nil=>exact λ_ h=>nomatch h|cons a r l=>
  intro b m i v q g d f;cases b with|nil=>exact nomatch d|cons y t=>?_
  have j:=jd q;refine Er zip_cons_cons ?_;rw[bindC];cases i with
  |zero=>
   obtain rfl:=oa g;obtain rfl:=oa d
   rw[yz (λh=>j.1 (by
    obtain⟨p,o,e⟩:=Gb h
    rw[<-e];exact(List.of_mem_zip o).1)),Dc f,Ec rfl]
  |succ i=>exact l j.2 g d f
theorem Yw {h:Heap}{a:Addr}(b:h.objs.size<=a):h.get? a=none:=by
 cases e:h.get? a with
 |none=>rfl|some o=>exact qd (Heap.lt_size e) (rc b)
def b5:Flow->Value
 |.ret v=>v|_=>.none
theorem CH (h:mR c T mf fl):∃v,b5 fl=v/\VR c T (Af mf) v:=by
 cases mf with
 |next=>obtain rfl:=h;exact⟨_,rfl,rfl⟩
 |cont=>obtain rfl:=h;exact⟨_,rfl,rfl⟩
 |ret w=>obtain⟨b,rfl,a⟩:=h;exact⟨_,rfl,a⟩
inductive MD (c:Cx)(T:Tb)(fd:FuncData)(np nl:Nat)(sc:Scope)(nm:List Str):Prop
 |mk (e1:fd.scope=sc) (e3:fd.globals=mainGlobals) (e4:fd.closure=[]) (e5:fd.builtins=builtinsNs) (p:fd.params.posonlyargs=[]/\fd.params.vararg=none/\fd.params.kwonlyargs=[]/\fd.params.kwarg=none/\fd.params.args.map (·.arg)=nm.take np) (df:fd.defaults=.none\/∃a o items k,fd.defaults=.ref a/\T a=some o/\o.data=.seq items k) (cd:eD sc=true->fd.code=.ref c.L_/\(fd.qualname++(".<locals>.":Str))++("<lambda>":Str)=c.lq) (kind:sc.kind=.function) (len:nm.length=nl) (U_:np<=nl) (nd:nm.Nodup) (pk:∀x∈nm.take np,sc.names.lookup x=some .local\/sc.names.lookup x=some .cell) (cl:∀n x,sc.names.lookup x=some .cell->((cellsFrom n sc.names []).lookup x).isSome=true) (DH:∀x,sc.names.lookup x≠some .free)
theorem Zw (bs:Bs c mg mb)(ok:MD c T fd np nl sc nm)(st:St c H T F s)(K:Ee c T vs xs)(M:vs.length=np){B:Env->Code}{R:Result->Shared->Prop}(k:∀f s',Ap c f sc->Fr c f nm (vs++replicate (nl-np) .td) H T F s'->St c H T F s'->codeAny (ako c) A (B f) R s'):wpAny (ako c) A.in1 (bindArgs fd ⟨xs,[]⟩) (λp Dh=>wpAny (ako c) A.in1 (newFunctionEnv fd.scope fd.globals fd.closure p (fd.qualname++".<locals>.") (some a) fd.code none fd.builtins) (λenv S=>S.heap.NoLimit/\codeAny (ako c) A (B env) R S) (λe s'=>R (.error e) s') Dh) (λe s'=>R (.error e) s') s:=by
 erw[fj ok.5 λp1 p2 p3 bf=>(eA bf λp4 p5=>?_)];have Wr:xs.length=np:=Es K.length M;have Az:fd.params.args.length=np:=by
  haveI:=Fc List.length p5;rw[aa,zb,ok.9]at this;erw[Er this (Nat.min_eq_left ok.10)]
 have l:(nm.take np).Nodup:=(List.take_sublist _ _).nodup ok.11;haveI w:BindsTo s fd ⟨xs,[]⟩ ((nm.take np).zip xs):=by
  erw[Es p5 (LD p1 p2 p3 p4 (Er p5 l) (Er Wr (Er Az rfl)) (ok.6.imp id ?_)),λZd=>?_,we Zd λa o m Bk=>(Xf Bk λk g d j=>⟨a,o,m,k,g,st.2 _ _ d,j⟩)]
 erw[w _ _ _ _ (Er ok.1 (Er ok.2 (Er ok.3 (Er ok.4 ?_)))),wpAny_newFunctionEnv_cells ok.8 ?_ λf he s' x=>?_]
 ·intro y u;have hm:=(List.of_mem_zip u).1;exact(ok.12 y.1 hm).imp id λh=>⟨h,ok.13 _ _ h⟩
 subst he;erw[Sd bs.3 λmc oH Z=>?_,haveI keep:=x.toInCall.keep;?_,vf x.done λC O qz _=>?_];subst qz;have N:St c H T F {s with heap:=C,toks:=O}:=st.grow (s':={s with heap:=C,toks:=O}) keep;refine⟨⟨mc,(oH.le N.7).ns N.2,Z⟩,?_⟩;generalize hE:newEnv sc s.heap.objs.size mainGlobals (cellsFrom (s.heap.objs.size+1) sc.names []) (fd.qualname++".<locals>.") (some a) fd.code none builtinsNs=f at x⊢;haveI V:f.scope=sc:=Es hE rfl;haveI X:f.locals=s.heap.objs.size:=Es hE rfl;haveI ec:f.cells=cellsFrom (s.heap.objs.size+1) sc.names []:=Es hE rfl;have W:Ap c f sc:=⟨⟨V,ok.8,by exact Es hE rfl,by exact Es hE rfl,λy u=>by refine Er ec ?_;exact u.elim (ok.13 _ _) λh=>qd h (ok.14 y),λh=>by exact Es hE (ok.7 h)⟩⟩;have Y:∀y,f.kindOf y=sc.names.lookup y:=λy=>by unfold Env.kindOf;exact Er V rfl
 have fresh:∀b,Own f b->s.heap.objs.size<=b:=λb w=>by
  rcases w with rfl|⟨y,_,u⟩
  ·erw[Er X (Qa _)]
  ·erw[Ib (ja (by exact Er X (Qa _)) (x.above y b (mem_of_lookup u)))]
 have arg:∀(i:Nat)(v:MV),(vs++replicate (nl-np) .td)[i]?=some v->v≠.td->vs[i]?=some v:=λi v e hn=>by
  rw[tc]at e;split at e
  ·erw[e]
  ·rw[List.getElem?_replicate]at e;have e:=e;split at e
   ·obtain rfl:=(oa e);exact qd rfl hn
   ·erw[nn e]
 have t:∀(i:Nat)(y:Str)(v:MV),nm[i]?=some y->vs[i]?=some v->(nm.take np)[i]?=some y:=λi y v C h2=>by
  haveI:i<np:=Es M ((Fa h2).1);refine Er List.getElem?_take ?_;exact Er (Ec this) C
 erw[k f _ W ?_ N,⟨?_,⟨_,x.toInCall.ns,?_⟩,?_,?_,?_,?_,?_,?_⟩]
 ·refine Er ua (Er Bb (Er M (Er ok.9 ?_)));haveI:=ok.10;exact Ka (se 0x1b23210b12 rfl (ta this)) (se 0x201b3210b11 rfl (ta this))
 ·intro i y v g d j q;have r:=arg i v j q;obtain⟨J,I,G⟩:=K.get r;exact⟨J,AH l (t i y v g r) I d,G⟩
 ·intro y a g d;exact⟨_,x.cell y a d⟩
 ·intro i y v g d j q;have r:=arg i v j q;erw[Sd (K.get r) λJ I G=>?_];obtain⟨a,U⟩:=Option.isSome_iff_exists.mp (W.cl y (by rw[<-Y];exact d));refine⟨a,J,U,?_,G⟩;haveI:=x.cell y a U;rwa[BH l (t i y v g r) I (by refine Er d ?_;intro e;exact Xi NameKind.ctorIdx (oa e) rfl)]at this
 ·intro i y v g d j q;erw[qd (by rw[<-Y];exact d) (ok.14 y)]
 ·intro b w;haveI:=Yw (fresh b w);exact⟨st.xw this,st.bD this,st.cD this,st.dD this⟩
 ·intro y z a g d j q;erw[name_of_addr x.apart (mem_of_lookup j) (mem_of_lookup q)]
 ·intro y a g d;erw[Nat.ne_of_gt (x.above y a (mem_of_lookup d))]
inductive EH (c:Cx)(D:Dx)(f:Nat)(d:Fn)(sc:Scope)(nm:List Str)(body:List Stmt):Prop
 |mk (obj:∃o fd,c.jj (D.fa f)=some o/\o.data=.func fd/\fd.body=.stmts body/\MD c c.jj fd d.np d.nl sc nm/\∃cd o vs t,fd.code=.ref cd/\c.jj cd=some o/\o.data=.fields vs/\vs[1]?=some (.str fd.qualname t)) (co:sc.isCoroutine=false) (gen:sc.isGenerator=false)
theorem EH.nd (ok:EH c D f d sc nm body):nm.Nodup:=by obtain⟨_,_,_,_,_,a,_⟩:=ok.1;erw[a.11]
theorem MD.le (h:T.le T')(ok:MD c T fd np nl sc nm):MD c T' fd np nl sc nm:=
 ⟨ok.1,ok.2,ok.3,ok.4,ok.5,ok.6.imp id λq=>by
  obtain⟨a,o,b,k,f,e,d⟩:=q
  exact⟨a,o,b,k,f,h _ _ e,d⟩,ok.7,ok.8,ok.9,ok.10,ok.11,ok.12,ok.13,ok.14⟩
theorem xF.deeper (a:xF (n+1) A):Rm n (A.deeper env):=⟨by show A.depth+1+_+_<_;have:=a.1;exact se 0x2ea1c141de0bbbb32e81ce1b41d0bbb10 rfl this,by refine Er (Around.deeper_units ..) ?_;have:=a.2.1;exact se 0x2ec82c1142d31c0bbbb32ebe2ce1b142d0bbb10 rfl this,a.2.2⟩
theorem UO (bs:Bs c mg mb)(ok:EH c D f d sc nm body)(b:wn c P n sc nm body d.body)(k:xF (n+1) A) (st:St c H T F s) (B:Ee c T vs xs) (G:vs.length=d.np) (h:Kd P d.body (vs++replicate (d.nl-d.np) .td) H λfl _ H'=>Q (Af fl) H'):codeAny (ako c) A (.call (.ref (D.fa f)) ⟨xs,[]⟩) (MB c T F Q) s:=by erw[hide λZz m=>?_];obtain⟨o,fd,C,I,O,i,S,x,j,R,t,X,W,g⟩:=ok.1;erw[m ?_];clear m;haveI l:∀a o,c.jj a=some o->s.heap.get? a=some o:=λa o e=>st.2 _ _ (st.7 _ _ e);erw[codeAny_call_function (by haveI:=k.1;exact se 0x2e0b32e81ce1b41d0bbb10 rfl this) (l _ _ C) I (Er i.1 ok.2) (Er i.1 ok.3) O ⟨S,x,j,R,t,l _ _ X,W,g⟩ (Zw bs (i.le st.7) st B G λq s' N K V=>codeAny_func ?_),zc (b _ q T F H _ _ _ k.deeper N K V h) (λfl Z p=>?_) λ_ _ f=>f.elim];obtain⟨y,L2,Y,U,u,z,dp,J,w⟩:=p;erw[Sd (CH J) λv M r=>⟨v,?_,Af y,Y,U,u,z,r,w⟩,Es M ?_];cases fl<;>rfl
end
end
section
open W PyProof.Rows
def Kp (c:Cx)(fv:Value):Prop:=∀h:Heap,(∀a o,c.jj a=some o->h.get? a=some o)->∃k,(k=Keeper.frame\/k=Keeper.machine\/k=Keeper.boundFrame)/\Looks (ako c) h (keeperOf fv) k
theorem Kp.notRef {b:Value}(h:∀a,b≠.ref a):Kp c b:=λzz zz=>⟨.machine,.inr (.inl rfl),by
 cases b<;>first|exact qd rfl (h _)|exact Looks.of_pure rfl⟩
theorem Kp.ofK {K:Frag}{b:Value}(f:∀a o,K.lookup a=some o->c.jj a=some o)(h:keepIn K b=true):Kp c b:=λd k=>keeps_K h d λa o e=>k _ _ (f _ _ e)
theorem Su {M:Model}{f:Value}{l:List (Bool×Sem Value)}{Q:Args->Shared->Prop}(a:l.all (λp=>!p.1)=true)(h:wpAny M A (spliced l) (λvs s'=>Q ⟨vs,[]⟩ s') E s):wpAny M A (evalArgs f true l []) Q E s:=by
 cases l with
 |nil=>
  unfold evalArgs;show wpAny M A (spliced []>>=_) Q E s;erw[xc (zc h (λvs s' c=>?_) λzz zz x=>x),xc (yc (Bc ?_)),xc (yc (xc (yc (yc c))))]
 |cons p r=>
  obtain⟨b,x⟩:=p;cases b with
  |false=>exact PySem.Calls.evalArgs_plain h|true=>simp at a
theorem ax {a:List Expr}(h:a.all notStar=true)(pos:Pos)(env:Env):(backTo pos (starEach a env)).all (λp=>!p.1)=true:=by
 induction a with
 |nil=>rfl|cons e r b=>
  simp only[all_cons,Da]at h;rw[zo h.1];haveI:=b h.2;show(List.all ((false,_)::backTo pos (starEach r env)) _)=true;rw[all_cons,this];rfl
theorem yi {g:Value}{first:List Value}{b:List Expr}{m:qh}{pos:Pos}(kp:Kp c g)(v:wj c P n sc nm b m)(w:b.all notStar=true)(t:Rm n A) (x:Bf c env sc) (lf:Hk c env nm L T F) (st:St c H T F s) {K:List MV->MH->Prop} {Q:Value->Shared->Prop} (h:zh P m L H K)(k:∀vs xs H' i s',T.le i->St c H' i F s'->Ee c i vs xs->K vs H'->wpAny (ako c) A (call g (first++xs)) Q akn s'):wpAny (ako c) A (callWith pos g first (backTo pos (starEach b env)) []) Q akn s:=by
 haveI l:=ax w pos env;haveI d:((backTo pos (starEach b env)).any (·.1)||([]:List (Option Str×Sem Value)).any (·.1.isNone))=false:=by
  rw[List.any_nil,Bool.or_false,List.any_eq_false];intro p d;haveI:=Ja l p d;simpa using this
 erw[callWith_of (P:=λh=>∀a o,c.jj a=some o->h.get? a=some o) d kp (Su l ?_),zc (v pos A env T F H L s _ t x lf st h) (λxs r p=>?_) λzz zz f=>f];obtain⟨vs,B,y,z,j,u,q⟩:=p;exact⟨λa o e=>j.2 _ _ (j.7 _ _ e),k vs xs B y r z j u q⟩
theorem OB (bs:Bs c mg mb){x:Str}{v:Value}{pos:Pos}(d:sc.names.lookup x=some .globalImplicit)(hd:(x==("__debug__":Str))=false)(b:mg x=some v)(a:Bf c env sc)(st:St c H T F s){Q:Value->Shared->Prop}(q:Q v s):wpAny (ako c) A (eval (.Name x pos) env) Q E s:=by
 have e:env.kindOf x=sc.names.lookup x:=by unfold Env.kindOf;rw[a.Rr]
 erw[PySem.Calls.Name_function_global (by rw[a.Rr];exact a.kind) (e.trans d) (PySem.Calls.loadGlobal_global (mg:=mg) ?_ b q) hd];rw[a.globals];exact(bs.1.le st.7).ns st.2
theorem PB (bs:Bs c mg mb){x:Str}{v:Value}{pos:Pos}(e:sc.names.lookup x=some .globalImplicit)(hd:(x==("__debug__":Str))=false)(d:mg x=none)(b:mb x=some v)(a:Bf c env sc)(st:St c H T F s){Q:Value->Shared->Prop}(q:Q v s):wpAny (ako c) A (eval (.Name x pos) env) Q E s:=by
 haveI f:env.kindOf x=sc.names.lookup x:=by unfold Env.kindOf;rw[a.Rr]
 erw[PySem.Calls.Name_function_global (by rw[a.Rr];exact a.kind) (f.trans e) (PySem.Calls.loadGlobal_builtin (mg:=mg) (mb:=mb) ?_ d ?_ b q) hd]
 ·rw[a.globals];exact(bs.1.le st.7).ns st.2
 ·rw[a.builtins];exact(bs.2.le st.7).ns st.2
theorem Rm.sub {A:Around}(h:Rm n A):xF n A:=⟨by have:=h.1;exact se 0x2e81c141d0bbb32ea1c141d0bbb10 rfl this,by have:=h.2.1;exact se 0x2ebe2c1142d0bbb32ec82c1142d0bbb10 rfl this,h.2.2⟩
theorem call_of {a:Value}{xs:List Value}{b:Tb}{Q:MV->MH->Prop}(le:T.le b)(h:codeAny (ako c) A (.call a ⟨xs,[]⟩) (MB c b F Q) s):wpAny (ako c) A (call a xs) (Cd c T F Q) akn s:=by erw[wpAny_call (codeAny_mono h λr d p=>?_),Qf r p λv q=>(q.up le)]
theorem Tu (pos:Pos)(env:Env):backToKw pos (keywordEach [] env)=[]:=rfl
theorem GX (bs:Bs c mg mb){f:Nat}{x:Str}{p pos:Pos}{a:List Expr}{g:qh}(v:bh c P D n)(kp:Kp c (.ref (D.fa f)))(o:sc.names.lookup x=some .globalImplicit)(hd:(x==("__debug__":Str))=false)(b:mg x=some (.ref (D.fa f)))(m:a.all notStar=true) (l:wj c P n sc nm a g):Pd c P n sc nm (.Call (.Name x p) a [] pos) (.fn f g):=by intro A r T F H L s Q d e lf st h;rw[arm_eval_Call_Name',Tu];erw[xc (OB bs o hd b e st ?_),yi kp l m d e lf st h λj i w u k le t b q=>call_of le (v f j i A u F w k Q d.sub t b q)]
theorem QB (bs:Bs c mg mb)(h4:c.sx[4]?=some ("0":Str)){b:Nat}{x:Str}{k:Value}{p pos:Pos}{g:List Expr}{o:qh}(d:Bo b=some (x,k))(v:sc.names.lookup x=some .globalImplicit)(hd:(x==("__debug__":Str))=false)(u:mg x=none)(i:mb x=some k)(t:g.all notStar=true) (r:wj c P n sc nm g o):Pd c P n sc nm (.Call (.Name x p) g [] pos) (.blt b o):=by
 intro A w T F H L s Q l m lf st h;rw[arm_eval_Call_Name',Tu];erw[xc (PB bs v hd u i m st ?_)];haveI j:∀a,k≠.ref a:=by
  intro a e;subst e;unfold Bo at d;split at d<;>cases d
 erw[yi (Kp.notRef j) r t l m lf st h λB z E D C le y i q=>zc (yX bs h4 d l.2.2 y i q) (λzz zz p=>p.up le) λzz zz f=>f]
theorem VO (h:Heap):(h.push emptyDict).Ns1 h.objs.size (λzz=>none):=
 ⟨_,#[],0,Xc _ rfl,rfl,λe a=>by simp at a,List.Pairwise.nil,λzz=>rfl⟩
theorem IX (kb:Kb c D Zf th)(hi:P.th=th)(M:bh c P D n){k:Nat}{vs:List MV}{xs:List Value}{Q:MV->MH->Prop}(j:Rm n A)(st:St c H T F s)(E:Ee c T vs xs)(h:jG P k vs H Q):codeAny (ako c) A (.call (.ref (c.cls k)) ⟨xs,[]⟩) (MB c T F Q) s:=by
 subst hi;haveI X:=kb.R_ st;obtain⟨a,g,d,t,os⟩:=s;erw[make_core (makes_of X (kb.8 k)) (looks_findIn X (kb.9 k)) (λb=>bind_fn X b (kb.10 k)) (.inl rfl) ?_];haveI e:=de a;haveI G:=st.xw e;haveI R:=st.bD e;haveI U:=st.cD e;haveI S:=st.dD e;haveI L:St c (H.set a.objs.size (.ns λzz=>.td)) T F ⟨a.push emptyDict,g,d,t,os⟩:=
  st.new (ob:=emptyDict) (o:=.ns λzz=>.td) ⟨λzz=>none,VO a,λy C=>qd rfl C,λi hi=>qd rfl hi⟩ t
 haveI I:(a.push emptyDict).objs.size=a.objs.size+1:=Heap.size_push ..;obtain⟨m,l⟩:=L.mG (ob:=instObj (c.cls k) a.objs.size) rfl t;rw[I]at m l;have q:=h a.objs.size G;have f:xF n (A.under (.builtin "type.__call__" ⟨.ref (c.cls k)::xs,[]⟩)):=by
  have x:(Code.builtin "type.__call__" ⟨.ref (c.cls k)::xs,[]⟩).weight=1:=rfl;have u:(Code.builtin "type.__call__" ⟨.ref (c.cls k)::xs,[]⟩).cUnits=1:=rfl;refine⟨?_,?_,j.2.2⟩
  ·show A.depth+_+_+_<_;rw[x];have:=j.1;exact se 0x2e81c141de0bbbb32ea1c141d0bbb10 rfl this
  ·show A.units+_+_+_<_;rw[u];have:=j.2.1;exact se 0x2ebe2c1142de0bbbb32ec82c1142d0bbb10 rfl this
 erw[codeAny_mono (M (P.th k) (.obj k a.objs.size::vs) (.ref (a.objs.size+1)::xs) _ _ F _ _ _ f m ⟨⟨_,rfl,Tb.Jd ..⟩,Ee.mono l _ _ E⟩ q) λr O p=>?_];obtain⟨v,rfl,w,N,K,le,J,z,rfl,B⟩:=p;obtain rfl:=z;refine⟨rfl,_,rfl,.obj k a.objs.size,N,K,aks l le,J,⟨_,rfl,le _ _ (Tb.Jd ..)⟩,B⟩
theorem WO (bs:Bs c mg mb)(kb:Kb c D Zf th)(hi:P.th=th){k:Nat}{x:Str}{p pos:Pos}{a:List Expr}{f:qh}(o:bh c P D n)(kp:Kp c (.ref (c.cls k)))(j:sc.names.lookup x=some .globalImplicit)(hd:(x==("__debug__":Str))=false)(b:mg x=some (.ref (c.cls k)))(i:a.all notStar=true) (g:wj c P n sc nm a f):Pd c P n sc nm (.Call (.Name x p) a [] pos) (.new k f):=by intro A l T F H L s Q d e lf st h;rw[arm_eval_Call_Name',Tu];erw[xc (OB bs j hd b e st ?_),yi kp g i d e lf st h λt r w v u le m b q=>call_of le (IX kb hi o d m b q)]
end
section
open W PyProof.Rows
set_option tactic.hygienic true
variable {H H' : MH} {T T' F : Tb} {Q : MV → MH → Prop} {E : Value → Shared → Prop} {c : Cx} {mg mb : Str → Option Value} {s : Shared} {nm : List Str} {n : Nat} {A : Around} {P : Pg} {sc : Scope} {env : Env} {L : List MV} {D : Dx}
section
variable {Zf:Nat->Nat->Option Nat}{th:Nat->Nat}
theorem OD (st:St c H T F s)(d:H p=some (.list vs))(l:VR c T v x)(j:vs.length<big)(h:Q .none (H.set p (.list (vs++[v])))):wpAny (ako c) A (call (.builtin "list.append") [.ref p,x]) (Cd c T F Q) akn s:=by obtain⟨a,k,g,i⟩:=st.lst d;erw[append_at g (λf m o=>?_) (by rw[<-i.arr];exact uf j),haveI r:=st.uD (h':=f) (items:=a) d o (λb t q e=>(m.2 b q).trans e) (ws:=vs++[v]) (by rw[Array.toList_push];exact i.append ⟨l,trivial⟩) s.toks;?_,Cd.of (mv:=.none) r rfl h]
theorem PD (st:St c H T F s)(j:H p=some (.list vs))(m:H q=some (.list ws))(r:vs.length<big)(o:ws.length<big)(h:Q .none (H.set p (.list (vs++ws)))):wpAny (ako c) A (call (.builtin "list.extend") [.ref p,.ref q]) (Cd c T F Q) akn s:=by
 erw[vf (st.lst j) λa k f i=>(vf (st.lst m) λd l t g=>?_)];have e:a.size+d.size+100<=sizeLine:=by rw[<-i.arr,<-g.arr];exact wo r o
 refine call_meets PySem.F.slot_list_extend ⟨_,f,rfl⟩ PySem.F.entry_list_extend (PySem.F.args_list_extend_2 _ _) (AutoSeq1.list_extend_list_list_0 p a k q d l (iX e) (ext2 e) (ext3 e)) ⟨f,t,?_⟩
 erw[eE (Nj (λx=>x++d) a k) λv b=>?_,haveI u:=st.uD (h':=s.heap.update p (Obj.mapSeq λx=>x++d)) (items:=a) j (by rw[<-b];exact Heap.get?_update_self _ f (by rw[b];rfl)) Pu (ws:=vs++ws) (by simpa using i.append g) s.toks;?_,Cd.of (mv:=.none) u rfl h]
theorem Bz (st:St c H T F s)(l:H p=some (.list vs))(o:VR c T (.tup ws) y)(t:vs.length<big)(r:ws.length<big)(h:Q .none (H.set p (.list (vs++ws)))):wpAny (ako c) A (call (.builtin "list.extend") [.ref p,y]) (Cd c T F Q) akn s:=by
 erw[vf (st.lst l) λa k g j=>(we o λq d m u=>(Fi y u λe i=>?_))];have g2:=st.2 _ _ e;have f:a.size+d.size+100<=sizeLine:=by rw[<-j.arr,<-i.arr];exact wo t r
 refine call_meets PySem.F.slot_list_extend ⟨_,g,rfl⟩ PySem.F.entry_list_extend (PySem.F.args_list_extend_2 _ _) (AutoSeq1.list_extend_list_tuple_0 p a k q d m (iX f) (ext2 f) (ext3 f)) ⟨g,g2,?_⟩
 erw[eE (Nj (λx=>x++d) a k) λw b=>?_,haveI v:=st.uD (h':=s.heap.update p (Obj.mapSeq λx=>x++d)) (items:=a) l (by rw[<-b];exact Heap.get?_update_self _ g (by rw[b];rfl)) Pu (ws:=vs++ws) (by simpa using j.append i) s.toks;?_,Cd.of (mv:=.none) v rfl h]
theorem Ee.dropLast (h:Ee c T vs xs):Ee c T vs.dropLast xs.dropLast:=by rw[List.dropLast_eq_take,List.dropLast_eq_take,h.length];exact h.take _
theorem JX (st:St c H T F s)(i:H p=some (.list vs))(j:vs.getLast?=some v)(m:vs.length<big)(h:Q v (H.set p (.list vs.dropLast))):wpAny (ako c) A (call (.builtin "list.pop") [.ref p]) (Cd c T F Q) akn s:=by erw[vf (st.lst i) λa k g d=>?_];rw[List.getLast?_eq_getElem?]at j;erw[Sd (d.at j) λx f o=>?_];rw[d.arr]at f;erw[Copied.pop_at g f (λl q r=>?_) (by rw[<-d.arr];exact uf m),haveI u:=st.uD (h':=l) (items:=a) i r (λb w t e=>(q.2 b t).trans e) (ws:=vs.dropLast) (by rw[Array.toList_pop];exact d.dropLast) s.toks;?_,Cd.of (mv:=v) u o h]
theorem Cz (kb:Kb c D Zf th)(R:P.Zf=Zf){m:Nat}{x:MV}{a:Value}{pl:Sem Bool}{Q:Value×List Value->Shared->Prop}(st:St c H T F s)(y:VR c T x a)(b:Ng P m x H)(U:∀k d f,x=.obj k d->Zf k m=some f->Q (.ref (D.fa f),[a]) s)(w:∀p,x=.ref p->m=0->Q (.builtin "list.append",[a]) s) (v:∀p,x=.ref p->m=1->Q (.builtin "list.extend",[a]) s) (h4:∀p,x=.ref p->m=2->Q (.builtin "list.pop",[a]) s) (u:∀p,x=.ref p->m=3->Q (.builtin "dict.get",[a]) s):wpAny (ako c) A (getMethod a (D.mn m) pl) Q E s:=by
 cases x<;>first|exact b.elim|skip
 ·rename_i p;obtain rfl:=y;haveI lst:∀{K:List MV->Prop},Mf H p K->∃o,s.heap.get? p=some o/\o.cls=.type "list"/\o.dict=none:=λh=>by
   erw[Sd (Pe h) λZ t zz=>(vf (st.lst t) λr k g zz=>⟨_,g,rfl,rfl⟩)]
  match m,b,w,v,h4,u with
  |0,b,w,_,_,_=>
   rw[kb.13];obtain⟨o,g,l,j⟩:=lst b;erw[getMethod_builtin ⟨o,g,l⟩ PySem.F.plainAttrs_list PySem.F.slot_list_append PySem.F.type_list_append (λa e=>by obtain rfl:=(Value.ref.inj e);exact⟨o,g,j⟩) (w p rfl rfl)]
  |1,b,_,v,_,_=>
   rw[kb.14];obtain⟨o,g,l,j⟩:=lst b;erw[getMethod_builtin ⟨o,g,l⟩ PySem.F.plainAttrs_list PySem.F.slot_list_extend PySem.F.type_list_extend (λa e=>by obtain rfl:=(Value.ref.inj e);exact⟨o,g,j⟩) (v p rfl rfl)]
  |2,b,_,_,h4,_=>
   rw[kb.15];obtain⟨o,g,l,j⟩:=lst b;erw[getMethod_builtin ⟨o,g,l⟩ PySem.F.plainAttrs_list PySem.F.slot_list_pop PySem.F.type_list_pop (λa e=>by obtain rfl:=(Value.ref.inj e);exact⟨o,g,j⟩) (h4 p rfl rfl)]
  |3,b,_,_,_,u=>
   erw[Sd (uq b) λY t zz=>(vf (st.UM t) λes k g zz=>?_)];rw[kb.16];erw[getMethod_builtin ⟨_,g,rfl⟩ PySem.F.plainAttrs_dict PySem.F.slot_dict_get PySem.F.type_dict_get (λa e=>by obtain rfl:=(Value.ref.inj e);exact⟨_,g,rfl⟩) (u p rfl rfl)]
  |n+4,b,_,_,_,_=>exact b.elim
 ·rename_i k d;erw[Sd y λp W O=>?_];subst W;erw[HW b λV fs N=>(ff (st.inst O N) λo B I S G=>(pj G λhn C sh=>?_))];obtain⟨f,i⟩:=Option.isSome_iff_exists.mp V;rw[R]at i;have i:=i;haveI X:=kb.R_ st;erw[eA (kb.11 k m f i) λM J=>(method_fn X I (kb.2 k) (kb.3 k) M J ?_ (U k d f rfl i))];unfold shadowIn;dsimp only;rw[S];haveI:B (D.mn m)=none:=by
   cases e:B (D.mn m)with
   |none=>rfl|some z=>exact qd (C (D.mn m) (by rw[e];exact λq=>by exact ns q)) (kb.12 m)
  rw[this];rfl
theorem GH (h:vi.all notStar=true)(a:k<30)(pos:Pos)(env:Env):methodCallForm k (backTo pos (starEach vi env)) []=true:=by unfold methodCallForm;rw[ax h];simp[a]
theorem HH (r:Ee c T [v] xs):∃x,xs=[x]/\VR c T v x:=by
 match xs,r with
 |[x],r=>exact⟨x,rfl,r.1⟩|_::_::_,r=>exact r.2.elim
theorem KX (r:Ee c T [v,w] xs):∃x y,xs=[x,y]/\VR c T v x/\VR c T w y:=by
 match xs,r with
 |[x,y],r=>exact⟨x,y,rfl,r.1,r.2.1⟩|[_],r=>exact r.2.elim|_::_::_::_,r=>exact r.2.2.elim
theorem XO (r:Ee c T [] xs):xs=[]:=by
 cases xs with
 |nil=>rfl|cons _ _=>exact r.elim
theorem IH (bs:Bs c mg mb)(kb:Kb c D Zf th)(Y:P.Zf=Zf){Yo:qh}(HX:bh c P D n)(U:D.mn m=name)(ho:gn o=true)(hl:apos.endLine=pos.line)(X:vi.all notStar=true)(hk:vi.length<30)(kp:∀k f,Zf k m=some f->Kp c (.ref (D.fa f))) (so:Pd c P n sc nm o mo) (hs:wj c P n sc nm vi Yo):Pd c P n sc nm (.Call (.Attribute o name apos) vi [] pos) (.Kg mo m Yo):=by
 intro A g T F H L s Q M Z lf st h;rw[arm_eval_Call,Pq ho,Tu];erw[Mj so M Z lf st h λx a H1 T1 s1 I Oe J q=>xc (Cc ?_)];obtain⟨hr,q⟩:=q;unfold methodCall;haveI O:methodCallForm (vi.length+([]:List Keyword).length) (backTo pos (starEach vi g)) []=true:=GH X (by simpa using hk) pos g;rw[O];haveI hp:∀o:Expr,methodCallPos true o g apos pos=pure pos:=λo=>by
  unfold methodCallPos;rw[hl];simp
 erw[xc (Bc ?_)];unfold calleeOf;rw[Ec rfl];subst U;have go:∀R,Kp c R->(∀j b u t w,T1.le t->St c u t F w->Ee c t j b->Lg P m x j u Q->wpAny (ako c) A (call R ([a]++b)) (Cd c T F Q) akn w)->
  wpAny (ako c) A (methodCallPos true o g apos pos>>=λYO=>callWith YO R [a] (backTo pos (starEach vi g)) []) (Cd c T F Q) akn s1:=λR S k=>by
  rw[hp];erw[xc (yc ?_),yi S hs X M Z (lf.mono I) Oe q k]
 refine Cz kb Y Oe J hr (λk d f e O=>go _ (kp k f O) λj b u t w le i l q=>?_) (λp e G=>go _ (Kp.notRef λzz e=>by exact Xi Value.ctorIdx e rfl) λj b u t w le i l q=>?_) (λp e G=>go _ (Kp.notRef λzz e=>by exact Xi Value.ctorIdx e rfl) λj b u t w le i l q=>?_) (λp e G=>go _ (Kp.notRef λzz e=>by exact Xi Value.ctorIdx e rfl) λj b u t w le i l q=>?_) (λp e G=>go _ (Kp.notRef λzz e=>by exact Xi Value.ctorIdx e rfl) λj b u t w le i l q=>?_)
 ·subst e;haveI q:Yn (P.Zf k m) λf=>P.call f (.obj k d::j) u Q:=q;rw[Y,O]at q;erw[call_of (aks I le) (HX f (.obj k d::j) (a::b) A t F u w Q M.sub i ⟨VR.mono le _ _ J,l⟩ q)]
 ·subst e G;obtain rfl:a=.ref p:=J;erw[Sd (Pe q) λV C q=>?_];obtain⟨v,rfl,B,q⟩:=Lh q;erw[Qf b (HH l) λy K=>(zc (OD i C K B q) (λzz zz p=>p.up (aks I le)) λzz zz f=>f)]
 ·subst e G;obtain rfl:a=.ref p:=J;erw[Sd (Pe q) λV C q=>(Sd (Lh q) λv xo q=>?_)];subst xo;erw[Yj (Me q) λus T_ B N W=>?_];clear q;erw[Qf b (HH l) λy K=>?_];rcases iG T_ with rfl|⟨r,rfl,O_⟩
  ·erw[zc (Bz i C K B N W) (λzz zz p=>p.up (aks I le)) λzz zz f=>f]
  ·obtain rfl:y=.ref r:=K;erw[zc (PD i C O_ B N W) (λzz zz p=>p.up (aks I le)) λzz zz f=>f]
 ·subst e G;obtain rfl:a=.ref p:=J;erw[Sd (Pe q) λV C q=>?_];obtain⟨rfl,B,q⟩:=yu q;erw[Sd (Me q) λv hg q=>?_];obtain rfl:=XO l;erw[zc (JX i C hg B q) (λzz zz p=>p.up (aks I le)) λzz zz f=>f]
 ·subst e G;obtain rfl:a=.ref p:=J;erw[Sd (uq q) λxd C q=>?_];obtain⟨k,v,rfl,VM,q⟩:=zu q;erw[kl (KX l) λy z sG=>(Fi b sG λK B=>(MG bs i C VM K B (Og akq M.units) λz s2 jf N=>Cd.up (aks I le) (Cd.of jf N q)))]
end
end
section
open W PyProof.Rows
variable {H H' : MH} {T T' F : Tb} {Q : MV → MH → Prop} {E : Value → Shared → Prop} {c : Cx} {mg mb : Str → Option Value} {s : Shared} {nm : List Str} {n : Nat} {A : Around} {P : Pg} {sc : Scope} {env : Env} {L : List MV} {D : Dx}
def tt:ME->Bool
 |.cst _=>true|.loc _=>true|_=>false
def zn (L:List MV):ME->MV
 |.cst v=>v|.loc i=>L.getD i .td|_=>.td
section
variable {Zf:Nat->Nat->Option Nat}{th:Nat->Nat}
theorem MH.set_set (H:MH)(a:Nat)(o d:MO):(H.set a o).set a d=H.set a d:=by funext b;unfold MH.set;split<;>rfl
theorem MH.Jd (H:MH)(a:Nat)(o:MO):H.set a o a=some o:=by unfold MH.set;rw[Ec rfl]
inductive gp (c:Cx)(P:Pg)(n:Nat)(sc:Scope)(nm:List Str):List (Option Expr)->List Expr->List MV->List ME->Prop where
 |nil:gp c P n sc nm [] [] [] []
 |cons {k v:Expr} {kv:MV} {mv:ME} {ks:List (Option Expr)} {vs:List Expr} {xd:List MV} {Qr:List ME}:Pd c P n sc nm k (.cst kv)->Pd c P n sc nm v mv->tt mv=true->gp c P n sc nm ks vs xd Qr->
  gp c P n sc nm (some k::ks) (v::vs) (kv::xd) (mv::Qr)
def qh.of:List ME->qh
 |[]=>.nil|e::r=>.cons e (qh.of r)
theorem JH:∀(a:List MV){L:List MV}{H:MH}{K:List MV->MH->Prop},zh P (qh.of (a.map .cst)) L H K->K a H:=by
 intro l
 induction l with
 |nil=>
  intro _ _ _ h;erw[h]
 |cons k r d=>
  intro _ _ K h;erw[d (K:=λb e=>K (k::b) e) h]
theorem ZO {e:ME}{K:MV->MH->Prop}(a:tt e=true)(h:Yd P e L H K):(∀H' (Q:MV->MH->Prop),Q (zn L e) H'->Yd P e L H' Q)/\K (zn L e) H:=by
 cases e<;>first|(exact ft a;done)|skip
 ·exact⟨λH' Q q=>q,h⟩
 ·haveI h:=Bi (v:=L.getD _ .td) (K:=λv=>K v H) h;exact⟨λH' Q q=>oe (v:=L.getD _ .td) (K:=λv=>Q v H') h.1 q,h.2⟩
theorem QD:∀(b:List ME){L:List MV}{H:MH}{K:List MV->MH->Prop},(∀e∈b,tt e=true)->zh P (qh.of b) L H K->(∀e∈b,∀H' (Q:MV->MH->Prop),Q (zn L e) H'->Yd P e L H' Q)/\K (b.map (zn L)) H:=by
 intro l
 induction l with
 |nil=>
  intro _ _ _ _ h;exact⟨λzz h=>(nomatch h),h⟩
 |cons e r i=>
  intro L H K g h;haveI key:=ZO (K:=λv m=>zh P (qh.of r) L m λd f=>K (v::d) f) (g e (.head _)) h;erw[eA (i (K:=λd f=>K (zn L e::d) f) (λx a=>g x (.tail _ a)) key.2) λk j=>⟨λx a=>?_,j⟩];rcases xa a with rfl|a
  ·erw[key.1]
  ·erw[k x a]
theorem gp.len (d:gp c P n sc nm ks vs xd Qr):xd.length=ks.length:=by
 induction d with
 |nil=>rfl|cons _ _ _ _ a=>simp[a]
theorem LH (d:gp c P n sc nm ks vs I G)(pos:Pos):∀{s:Shared}{T:Tb}{Q:List (Value×Value)->Shared->Prop},Rm n A->Bf c env sc->Hk c env nm L T F->St c H T F s->(∀e∈G,∀H' (Q:MV->MH->Prop),Q (zn L e) H'->Yd P e L H' Q)->(∀l i s',T.le i->St c H i F s'->Ee c i I (l.map (·.1))->Ee c i (G.map (zn L)) (l.map (·.2))->Q l s')->∃h:List (Sem Value×Sem Value),(evalEachOpt ks env).zip ((evalEach vs env).map λv=>do let x<-v;standAt pos;pure x)=h.map (λp=>(some p.1,p.2))/\h.length=ks.length/\wpAny (ako c) A (evalPairs h) Q akn s:=by
 induction d with
 |nil=>intro s T Q j m lf st q k;exact⟨[],rfl,rfl,evalPairs_nil (k [] T s (akt T) st trivial trivial)⟩
 |@cons k v X J ks vs I G hk hv ha r K=>
  intro s T Q j m lf st q Y;erw[Xf (K (s:=s) (T:=T) (Q:=λzz zz=>True) j m lf st (λx B=>q x (.tail _ B)) (λzz zz zz zz zz zz zz=>trivial)) λh M e2 zz=>⟨(eval k env,do let x<-eval v env;standAt pos;pure x)::h,?_,by simp[e2],?_⟩]
  ·show((some (eval k env),_)::_)=_;rw[yb,<-M];rfl
  ·erw[evalPairs_cons (zc (hk A env T F H L s (λw H'=>w=X/\H'=H) j m lf st (show _/\_ from⟨rfl,rfl⟩)) (λx U h1=>?_) λzz zz f=>f),hide λZz o=>?_];obtain⟨w,N,T1,C,Oe,R,rfl,rfl⟩:=h1;erw[o ?_];clear o;erw[xc (zc (hv A env T1 F N L U (λw H'=>w=zn L J/\H'=N) j m (lf.mono C) Oe (q J (.head _) _ _ ⟨rfl,rfl⟩)) (λy S h2=>xc (Cc (yc ?_))) λzz zz f=>f),hide λZz o=>?_];obtain⟨z,H2,T2,u,Z,O,rfl,rfl⟩:=h2;erw[o ?_];clear o
   obtain⟨LX,f1,f2,g⟩:=K (s:=S) (T:=T2) (Q:=λvs s'=>Q ((x,y)::vs) s') j m (lf.mono (aks C u)) Z (λx B=>q x (.tail _ B)) (λl i s' t Td W V=>
    Y ((x,y)::l) i s' (aks C (aks u t)) Td ⟨VR.mono (aks u t) _ _ R,W⟩ ⟨VR.mono t _ _ O,V⟩)
   haveI:LX=h:=by
    haveI:=f1.symm.trans M;exact(List.map_inj_right (λa b e=>by simp only[Prod.mk.injEq,Option.some.injEq]at e;exact Prod.ext e.1 e.2)).mp this
   rw[<-this];exact g
theorem RD (bs:Bs c mg mb)(o:A.units+20<cLine):∀(e:List (Value×Value))(b vs:List MV)(a:List (MV×MV))(s:Shared)(Q:PUnit->Shared->Prop),St c (H.set d (.dict a)) T F s->Ee c T b (e.map (·.1))->Ee c T vs (e.map (·.2))->(∀k∈b,k.key=true)->a.length+e.length<big->(∀s',St c (H.set d (.dict (Ue b vs a))) T F s'->Q PUnit.unit s')->wpAny (ako c) A (forIn e PUnit.unit λ(x:Value×Value)(_:PUnit)=>(do dictSet d x.1 x.2;pure (ForInStep.yield PUnit.unit):Sem (ForInStep PUnit))) Q E s:=by
 intro e
 induction e with
 |nil=>
  intro b vs a s Q st f h i g q;rw[List.forIn_nil];erw[yc (q s ?_)];cases b with
  |nil=>exact st|cons _ _=>exact f.elim
 |cons p e l=>
  intro b vs a s Q st f h i g q;cases b with|nil=>exact f.elim|cons k b=>?_
  cases vs with|nil=>exact h.elim|cons v vs=>?_
  rw[List.forIn_cons];rw[length_cons]at g;erw[xc (xc (Mu bs st (MH.Jd ..) (i k (.head _)) f.1 h.1 (je 0x1ea1c0bb31e142c0bb10 rfl o) (se 0x2e0b32ee1b0bb10 rfl g) λs' j=>yc ?_))];rw[MH.set_set]at j;haveI r:(dput a k v).length<=a.length+1:=by
   unfold dput;split
   ·rw[aa];exact ee 0xe0b03 rfl
   ·rw[ua,List.length_singleton];erw[Qa _]
  erw[l b vs (dput a k v) s' Q j f.2 h.2 (λx m=>i x (.tail _ m)) (oi 0x3e20bb33ee2b1bb10e1b010 rfl r g) q]
theorem aP (bs:Bs c mg mb)(d:gp c P n sc nm ks vs xd Qr)(l:ks.length<=15)(C:ks≠[])(y:∀e∈Qr,tt e=true):Pd c P n sc nm (.Dict ks vs pos) (.qq (qh.of (xd.map .cst)) (qh.of Qr)):=by
 intro A b T F H L s Q r G lf st h;haveI h:=JH xd h;erw[pj (QD Qr y h) λw z B=>?_];haveI u:=de s.heap;haveI K:St c (H.set s.heap.objs.size (.dict [])) T F {s with heap:=s.heap.push emptyDict}:=
  st.new (ob:=emptyDict) (o:=.dict []) ⟨#[],0,Xc _ rfl,.nil,bs.cR st u,List.nodup_nil⟩ s.toks
 obtain⟨a,I,k,g⟩:=LH (A:=A) (env:=b) (F:=F) (L:=L) d pos (Q:=λj i=>wpAny (ako c) A (forIn j PUnit.unit λ(x:Value×Value)(_:PUnit)=>(do dictSet s.heap.objs.size x.1 x.2;pure (ForInStep.yield PUnit.unit):Sem (ForInStep PUnit))) (λzz p=>Cd c T F Q (.ref s.heap.objs.size) p) akn i) r G lf K w (λj M i le J t v=>RD bs (by haveI:=r.units;exact je 0x1e142c0bb31ec82c0bb10 rfl this) j xd (Qr.map (zn L)) [] i _ J t v z (by haveI:=t.length;rw[aa,d.len]at this;rw[List.length_nil];unfold big;exact je 0x186a05ce1fbb3f1c0101012 rfl this l) λp m=>Cd.up le (Cd.of (mv:=.ref _) m rfl (B _ (st.xw u))))
 rw[arm_eval_Dict,I,dictDisplay_pairs a (by intro e;rw[e]at k;exact C (List.length_eq_zero_iff.mp k.symm)) (je 0x112ce0b3f1c1101011 rfl k l)];erw[xc (Cc (xc ?_))];unfold subDict;erw[xc (wpAny_alloc (xc (Bc ?_)))];rw[Ec (by exact je 0xf1c03f1c1101011 rfl k l)];erw[xc (zc g (λj i q=>Bc ?_) λzz zz f=>f),xc (zc q (λzz p q=>yc (yc (yc q))) λzz zz f=>f)]
theorem NH (bs:Bs c mg mb):Pd c P n sc nm (.Dict [] [] pos) (.qq .nil .nil):=by
 intro A b T F H L s Q e f lf st h;haveI a:=de s.heap;rw[eval_Dict_empty];simp only[newDict];erw[xc (Cc (wpAny_newObj_type ?_))];haveI d:St c (H.set s.heap.objs.size (.dict [])) T F {s with heap:=s.heap.push emptyDict}:=
  st.new (ob:=emptyDict) (o:=.dict []) ⟨#[],0,Xc _ rfl,.nil,bs.cR st a,List.nodup_nil⟩ s.toks
 erw[Cd.of (mv:=.ref _) d rfl (h.2 _ (st.xw a))]
end
inductive Cf (c:Cx)(env:Env)(nm:List Str)(L:List MV)(H:MH)(T F:Tb)(s:Shared):Prop
 |mk (len:nm.length=L.length) (ns:∃m,s.heap.Ns env.locals m/\∀(i:Nat)(x:Str)(v:MV),nm[i]?=some x->env.kindOf x=some .local->L[i]?=some v->v≠.td->∃pv,m x=some pv/\VR c T v pv) (ahf:∀(i:Nat)(x:Str)(v:MV),nm[i]?=some x->(env.kindOf x=some .cell\/env.kindOf x=some .free)->L[i]?=some v->v≠.td->∃a o pv,env.cells.lookup x=some a/\F a=some o/\o.data=.cell (some pv)/\VR c T v pv) (ap:H env.locals=none/\T env.locals=none/\F env.locals=none/\c.P≠env.locals)
theorem Cf.obj (a:Cf c env nm L H T F s):∃o,s.heap.get? env.locals=some o:=by obtain⟨m,⟨o,_,_,e,_⟩,_⟩:=a.2;exact⟨o,e⟩
theorem Cf.st (a:Cf c env nm L H T F s)(st:St c H T F s)(b:s.heap.get? env.locals=some o):St c H T (F.set env.locals o) s:=
 st.Fk b a.4.1 a.4.2.2.2 a.4.2.1
theorem Cf.lf (b:Cf c env nm L H T F s)(u:s.heap.get? env.locals=some o):Hk c env nm L T (F.set env.locals o):=
 .mk
 (len:=b.1)
 (ns:=by
  erw[Sd b.2 λm J h=>?_,We J λk w y l I=>?_,pj I λG C B=>?_];rw[u]at l;obtain rfl:=(oa l)
  exact⟨o,w,y,Tb.Jd ..,G,C,λi x v j g f e=>by
   erw[Sd (h i x v j g f e) λd p q=>?_]
   exact⟨d,by rw[B];exact p,q⟩⟩)
 (cells:=λi x v j g f e=>by
  erw[We (b.3 i x v j g f e) λa k d p t=>?_,pj t λq r z=>?_]
  exact⟨a,k,d,p,Tb.Gf o b.4.2.2.1 _ _ q,r,z⟩)
theorem Cf.next (b:Cf c env nm L H T F s)(B:s.heap.get? env.locals=some o)(le:T.le T')(d:St c H' T' (F.set env.locals o) s'):Cf c env nm L H' T' F s'/\St c H' T' F s':=by
 haveI t:(F.set env.locals o) env.locals=some o:=Tb.Jd ..;refine⟨⟨b.1,?_,?_,?_⟩,d.Gk (Tb.Gf o b.4.2.2.1)⟩
 ·erw[Sd b.2 λm J h=>?_,We J λu C G w I=>?_];rw[B]at w;obtain rfl:=(oa w)
  exact⟨m,⟨o,C,G,d.3 _ _ t,I⟩,λi x v l k j g=>by
   erw[Sd (h i x v l k j g) λf p q=>?_]
   exact⟨f,p,VR.mono le _ _ q⟩⟩
 ·intro i x v l k j g;erw[We (b.3 i x v l k j g) λa u f p y=>(pj y λq r z=>⟨a,u,f,p,q,r,VR.mono le _ _ z⟩)]
 ·refine⟨?_,d.6 _ _ t,b.4.2.2⟩;cases e:H' env.locals with
  |none=>rfl|some z=>have:=d.5 _ _ e;rw[t]at this;exact ns this
theorem Cf.at (a:Cf c env nm L H T F s)(k:∀o,s.heap.get? env.locals=some o->s'.heap.get? env.locals=some o):Cf c env nm L H T F s':=by erw[Sd a.2 λm g h=>(We g λo b d f e=>⟨a.1,⟨m,⟨o,b,d,k _ f,e⟩,h⟩,a.3,a.4⟩)]
theorem Cf.Xw (d:Cf c env nm L H T F s)(h:a≠env.locals)(j:F a=none):Cf c env nm L H T (F.set a o) s:=by
 refine⟨d.1,d.2,?_,?_⟩
 ·intro i x v t m l k;erw[We (d.3 i x v t m l k) λb g e p f=>(eA f λq r=>⟨b,g,e,p,Tb.Gf o j _ _ q,r⟩)]
 ·refine⟨d.4.1,d.4.2.1,?_,d.4.2.2.2⟩;unfold Tb.set;rw[Dc (Ne.symm h)];exact d.4.2.2.1
theorem Cf.Ru (e:Cf c env nm L H T (F.set a o) s)(l:∀v,o.data≠.cell v):Cf c env nm L H T F s:=by
 refine⟨e.1,e.2,?_,?_⟩
 ·intro i x v h g d f;erw[We (e.3 i x v h g d f) λb k j p m=>(eA m λq r=>⟨b,k,j,p,?_,r⟩)];unfold Tb.set at q;split at q
  ·obtain rfl:=(oa q);exact qd r.1 (l _)
  ·erw[q]
 ·erw[fj e.4 λh g d f=>⟨h,g,?_,f⟩];unfold Tb.set at d;split at d
  ·erw[ns d]
  ·erw[d]
theorem Cf.weak (b:Cf c env nm L H T F s)(j:Oj.length=L.length)(h:∀(i:Nat) v,Oj[i]?=some v->v≠.td->L[i]?=some v):Cf c env nm Oj H T F s:=by erw[⟨b.1.trans j.symm,?_,λi x v f e d a=>b.3 i x v f e (h i v d a) a,b.4⟩,Sd b.2 λm g k=>⟨m,g,λi x v f e d a=>k i x v f e (h i v d a) a⟩]
theorem Rq (r:Pd c P n sc nm e me){K:MV->MH->Prop}{Q:Value->Shared->Prop}(l:Rm n A) (t:Bf c env sc) (b:Cf c env nm L H T F s) (st:St c H T F s) (h:Yd P me L H K)(k:∀x a H' d s',T.le d->St c H' d F s'->Cf c env nm L H' d F s'->VR c d x a->K x H'->Q a s'):wpAny (ako c) A (eval e env) Q akn s:=by erw[eE b.obj λo g=>(zc (r A env T (F.set env.locals o) H L s _ l t (b.lf g) (b.st st g) h) (λa z q=>?_) λzz zz f=>f)];obtain⟨x,y,v,i,w,j,m⟩:=q;erw[eA (b.next g i w) λu p=>(k x a y v z i p u j m)]
theorem cP (r:ui c P n sc nm e me){K:Bool->MH->Prop}{Q:Bool->Shared->Prop}(l:Rm n A) (t:Bf c env sc) (d:Cf c env nm L H T F s) (st:St c H T F s) (h:ww P me L H K)(k:∀b H' i s',T.le i->St c H' i F s'->Cf c env nm L H' i F s'->K b H'->Q b s'):wpAny (ako c) A (isTrue e env (eval e env)) Q akn s:=by erw[eE d.obj λo g=>(zc (r A env T (F.set env.locals o) H L s _ l t (d.lf g) (d.st st g) h) (λa y q=>?_) λzz zz f=>f)];obtain⟨x,v,j,w,m⟩:=q;erw[eA (d.next g j w) λu p=>(k a x v y j p u m)]
def OH (sc:Scope)(nm:List Str)(e:Expr)(i:Nat):Prop:=∃x pos,e=.Name x pos/\nm[i]?=some x/\sc.names.lookup x=some .local
inductive kj (sc:Scope)(nm:List Str):List Expr->List Nat->Prop where
 |nil:kj sc nm [] []
 |cons {e:Expr} {i:Nat} {es:List Expr} {is:List Nat}:OH sc nm e i->kj sc nm es is->kj sc nm (e::es) (i::is)
def Bp (sc:Scope)(nm:List Str)(e:Expr):Tg->Prop
 |.one i=>OH sc nm e i|.many is=>∃es k pos,e=.Tuple es k pos/\kj sc nm es is
def Tg.slots:Tg->List Nat
 |.one i=>[i]|.many is=>is
theorem RB (nd:nm.Nodup)(u:Bf c env sc)(ne:OH sc nm e i)(g:Cf c env nm L H T F s)(st:St c H T F s)(I:VR c T v pv)(k:∀s',St c H T F s'->Cf c env nm (L.set i v) H T F s'->R () s'):wpAny (ako c) A (assign e env pv) R E s:=by
 erw[ff ne λx pos K l z=>?_];subst K;have G:∀x,env.kindOf x=sc.names.lookup x:=λx=>by unfold Env.kindOf;rw[u.Rr]
 have M:env.scope.kind=.function:=by rw[u.Rr];exact u.kind
 rw[arm_assign_Name];erw[xc (Cc (wpAny_bindName ?_)),Sd g.2 λm O N=>(wpAny_storeName_local ((G x).trans z) O (λB S J=>?_) (by rw[M];rfl))];haveI o:∀b h,b≠env.locals->s.heap.get? b=some h->B.get? b=some h:=λb h o e=>(J.2 b o).trans e;haveI ap:=g.4;erw[k _ (st.but (s':={s with heap:=B,toks:=s.toks+1}) o ap.1 ap.2.1 ap.2.2.1 ap.2.2.2) ⟨by rw[length_set];exact g.1,⟨_,S,?_⟩,?_,ap⟩]
 ·intro j y w d a f t;rcases sd f with⟨rfl,rfl⟩|⟨C,f⟩
  ·rw[l]at d;obtain rfl:=(oa d);exact⟨pv,by simp,I⟩
  ·erw[Sd (N j y w d a f t) λp q r=>⟨p,?_,r⟩];rw[Dc];exact q;rintro rfl;exact C (nz nd l d)
 ·intro j y w d a f t;rcases sd f with⟨rfl,rfl⟩|⟨C,f⟩
  ·rw[l]at d;obtain rfl:=(oa d);rw[G,z]at a;rcases a with a|a<;>exact Xi NameKind.ctorIdx (oa a) rfl
  ·erw[g.3 j y w d a f t]
theorem kj.len (x:kj sc nm es is):es.length=is.length:=by
 induction x with
 |nil=>rfl|cons _ _ a=>simp[a]
theorem kj.each (x:kj sc nm es is)(env:Env):assignEach es env=es.map λe=>(false,assign e env):=by
 induction x with
 |nil=>rfl|cons a _ b=>
  erw[vf a λy pos d zz=>?_];subst d;rw[yb,<-b];rfl
theorem PH (nd:nm.Nodup)(l:Bf c env sc)(ne:kj sc nm g is):∀{L:List MV}{s:Shared}{vs:List MV}{xs:List Value}{R:Unit->Shared->Prop},Cf c env nm L H T F s->St c H T F s->Ee c T vs xs->vs.length=is.length->(∀s',St c H T F s'->Cf c env nm (Jj is vs L) H T F s'->R () s')->wpAny (ako c) A (assignInOrder ((g.map λe=>(false,assign e env)).map (·.2)) xs) R E s:=by
 induction ne with
 |nil=>
  intro L s vs xs R f st b d k;cases vs with
  |nil=>cases xs with
   |nil=>exact yc (k s st f)|cons _ _=>exact b.elim
  |cons _ _=>simp at d
 |@cons e i g is a r j=>
  intro L s vs xs R f st b d k;cases vs with
  |nil=>simp at d|cons v vs=>
   cases xs with
   |nil=>exact b.elim|cons x xs=>
    show wpAny _ _ (do holding xs (assign e env x);assignInOrder _ xs) _ _ _;erw[xc (Bc (RB nd l a f st b.1 λs' m h=>?_)),j h m b.2 (by simpa using d) k]
theorem SD (nd:nm.Nodup)(J:Bf c env sc)(U:A.handled=none)(z:Bp sc nm e t){Q:List MV->Prop}{R:Unit->Shared->Prop}(K:Cf c env nm L H T F s)(st:St c H T F s)(w:VR c T v pv)(h:ri t v L Q) (k:∀L' s',St c H T F s'->Cf c env nm L' H T F s'->Q L'->L'.length=L.length->(∀j,j∉t.slots->L'[j]?=L[j]?)->R () s'):wpAny (ako c) A (assign e env pv) R E s:=by
 cases t with
 |one i=>exact RB nd J z K st w λs' u q=>k _ s' u q h (by rw[length_set]) (λj g=>by rw[List.getElem?_set,Dc];intro e;exact g (by rw[e];exact mem_singleton.mpr rfl))
 |many is=>
  erw[we z λY k' pos Zy=>(rF e Zy λne=>?_)];cases v with
  |tup f=>
   erw[eA h λI X=>(we w λa d m QH=>(Fi pv QH λW G=>?_))];haveI p:=ne.each env;haveI Z:(assignEach Y env).length=d.size:=by rw[p,aa,ne.len,<-I,G.arr]
   erw[assign_Tuple_tuple U (⟨_,st.2 _ _ W,rfl,_,rfl⟩:IsTup s.heap a d) Z (by rw[p,List.findIdx?_eq_none_iff];intro x S;obtain⟨y,_,rfl⟩:=Gb S;rfl) λl V=>?_];rw[p];have C:∀b o,s.heap.get? b=some o->l.get? b=some o:=λb o e=>V b o (Kc (Heap.lt_size e)) e;haveI B:∀(is:List Nat)(f L:List MV),(Jj is f L).length=L.length/\∀j,j∉is->(Jj is f L)[j]?=L[j]?:=by
    intro is
    induction is with
    |nil=>intro f L;cases f<;>exact⟨rfl,λzz zz=>rfl⟩
    |cons i r O=>
     intro f L;cases f with
     |nil=>exact⟨rfl,λzz zz=>rfl⟩|cons v t=>
      obtain⟨N,M⟩:=O t (L.set i v);refine⟨by show(Jj r t (L.set i v)).length=_;rw[N,length_set],λj g=>?_⟩;rw[List.mem_cons,not_or]at g;show(Jj r t (L.set i v))[j]?=_;rw[M j g.2,List.getElem?_set,Dc (Ne.symm g.1)]
   erw[PH nd J ne (K.at (s':={s with heap:=l}) λo e=>C _ _ e) (st.grow (s':={s with heap:=l}) C) G I λs' u q=>k _ s' u q X (B is f L).1 (B is f L).2]
  |_=>exact h.elim
structure RH (c:Cx) where
 r:List MV->Tb->Obj->Prop
 mono:∀rs T T' o,T.le T'->r rs T o->r rs T' o
 Do:∀rs T o,r rs T o->∀v,o.data≠.cell v
inductive CS (c:Cx)(R:RH c)(env:Env)(nm:List Str)(Ac:Addr)(F:Tb)(rs:List MV)(L:List MV)(H:MH)(T:Tb)(s:Shared):Prop
 |mk (ex:∃o,R.r rs T o/\St c H T (F.set Ac o) s/\Cf c env nm L H T (F.set Ac o) s)
theorem Tb.set_comm (F:Tb)(o f:Obj)(h:a≠b):(F.set a o).set b f=(F.set b f).set a o:=by
 funext x
 unfold Tb.set;by_cases d:x=a
 ·subst d;rw[Dc h,Ec rfl,Ec rfl]
 ·by_cases e:x=b
  ·subst e;rw[Ec rfl,Dc d,Ec rfl]
  ·rw[Dc e,Dc d,Dc d,Dc e]
theorem Tb.Ug (F:Tb)(o:Obj)(h:b≠a):F.set a o b=F b:=by unfold Tb.set;rw[Dc h]
theorem Dz (e:Expr)(d:Nat)(b a:Value)(env:Env):(Code.compLoop e d b a env).quiet=true:=rfl
theorem SH (t:(Code.compStart e d a acc env).isFrame=false)(r:((clausesOf e)[d]?).elim false (λg=>g.is_async !=0)=false)(l:(Code.compStart e d a acc env).weight=0) (o:(Code.compStart e d a acc env).cUnits=0)(p:∀(Q:Value->Shared->Prop),Q a s->wpAny (ako c) A (pyIter a) Q akn s) (h:codeAny (ako c) A (.compLoop e d a acc env) X s):codeAny (ako c) A (.compStart e d a acc env) X s:=by
 erw[codeAny_of_tree ?_];rw[Around.under_of_weight l o];haveI u:(ako c).den (.compStart e d a acc env)=(compStart e d a acc env).onRaise (λx=>do noteFrame x env;standAt theWindowsPlace):=by
  show(if (Code.compStart e d a acc env).isFrame then _ else _)=_;rw[t];rfl
 rw[u];erw[wpAny_onRaise (zc (Q:=λfin b=>match fin with|.done f=>X (.ok f) b|.again i=>i.quiet=true/\codeAny (ako c) A i X b) (E:=akn) ?_ (λ_ _ q=>q) λ_ _ f=>f.elim)];have k:wpAny (ako c) A (again (Code.compLoop e d a acc env)) (λfin b=>match fin with|.done f=>X (.ok f) b|.again i=>i.quiet=true/\codeAny (ako c) A i X b) akn s:=yc ⟨Dz ..,h⟩;have j:wpAny (ako c) A (pyIter a>>=λa=>again (Code.compLoop e d a acc env)) (λfin b=>match fin with|.done f=>X (.ok f) b|.again i=>i.quiet=true/\codeAny (ako c) A i X b) akn s:=xc (p _ k);unfold compStart;rw[r];erw[xc (m:=ask) (wpAny_askSetting (wpAny_ite ?_))];split
 ·erw[k]
 ·erw[xc (wpAny_rule ?_)];dsimp only;split
  ·erw[xc (Cc j)]
  ·erw[j]
theorem SB {Vs:List MV->MH->(List MV->MH->Prop)->Prop}{Q:List MV->MH->Prop}{X:Result->Shared->Prop}(MX:(Code.compLoop e depth (.ref I) (.ref Ac) env).isFrame=false) (Z:(Code.compLoop e depth (.ref I) (.ref Ac) env).weight=0) (hu:(Code.compLoop e depth (.ref I) (.ref Ac) env).cUnits=0)(d5:compTurn e depth (.ref I) (.ref Ac) env=(standAt p0>>=λ_=>pyNext (.ref I)>>=λr=>match r with
  |none=>pure (.done .next)|some v=>letOwnedTupleGo Wi (.ref I) v>>=λ_=>assign Wi env v>>=λ_=>body))
 (nd:nm.Nodup) (eo:Bf c env sc) (hh:A.handled=none) (tg:Bp sc nm Wi t) (Xr:∀j∈t.slots,∀v,Oj[j]?=some v->v=.td)
 (Zv:I≠Ac) (yF:F I=none) (Eo:F Ac=none) (TD:I≠env.locals) (ip:Ac≠env.locals) (zF:c.P≠I)
 (vm:∀H',bg H'->∀p,v=.ref p->H' p=some (.list vs)) (it:xi c T v vs 0 oI)
 (hb:∀L' H' a TB l s' K,T.le a->(∀v,TB.data≠.cell v)->CS c R env nm Ac (F.set I TB) (bj++l) L' H' a s'->l.length<big->(∀j,j∉t.slots->L'[j]?=Oj[j]?)->Vs L' H' K->
  wpAny (ako c) A body (λfin Uu=>fin=.again (.compLoop e depth (.ref I) (.ref Ac) env)/\∃more NX W3,a.le W3/\CS c R env nm Ac (F.set I TB) (bj++l++more) L' NX W3 Uu/\K more NX) akn s')
 (cs:CS c R env nm Ac (F.set I oI) (bj++l) Oj H T s) (h:af bg (λx H K=>ri t x Oj λL'=>Vs L' H K) vs l H Q)
 (hX:∀b H' a s',T.le a->CS c R env nm Ac F (bj++b) Oj H' a s'->Q b H'->X (.ok .next) s'):codeAny (ako c) A (.compLoop e depth (.ref I) (.ref Ac) env) X s:=by
 refine codeAny_loop rfl (λk s'=>∃q b H' a Y,q.length=k/\T.le a/\(∃i,i+k=vs.length/\vs.drop i=q/\xi c a v vs i Y)/\CS c R env nm Ac (F.set I Y) (bj++b) Oj H' a s'/\
  af bg (λx H K=>ri t x Oj λL'=>Vs L' H K) q b H' Q) (λk s' hI=>?_) vs.length ⟨vs,l,H,T,oI,rfl,akt T,⟨0,by exact Ka (ee 0xfb3 rfl) (ee 0xfb03 rfl),rfl,it⟩,cs,h⟩
 erw[hide λZz C=>?_];obtain⟨q,b,H',a,Y,d,O,⟨i,m,hd,M⟩,⟨G,ra,B,bx⟩,g⟩:=hI;erw[C ?_];clear C;rw[Around.under_of_weight Z hu];haveI e1:(ako c).den (.compLoop e depth (.ref I) (.ref Ac) env)=(compTurn e depth (.ref I) (.ref Ac) env).onRaise (λx=>do noteFrame x env;theTreesLotGoes x):=by
  show(if (Code.compLoop e depth (.ref I) (.ref Ac) env).isFrame then _ else _)=_;rw[MX];rfl
 rw[e1];erw[wpAny_onRaise (dR ?_)];rw[d5];erw[xc (Cc (xc ?_))];rw[Tb.set_comm F _ _ Zv]at B bx;have Sk:(F.set Ac G) I=none:=by rw[Tb.Ug _ _ Zv];exact yF
 have Y4:H' I=none:=by
  cases e:H' I with
  |none=>rfl|some z=>have:=B.5 _ _ e;rw[Tb.Jd]at this;exact ns this
 haveI Z4:a I=none:=B.6 _ _ (Tb.Jd ..);cases q with
 |nil=>
  have g:=g;have im:i=vs.length:=by simp at d;exact Ka (se 0x203210b11 rfl m) (se 0x231f12210b12 rfl m d)
  erw[Vw hh M (vm H' g.1) B Sk Y4 Z4 zF im λS J DX=>yc (hX b H' a S O ⟨G,ra,J,?_⟩ g.2),(bx.Ru M.Co).at λo e=>DX _ o (Ne.symm TD) e]
 |cons y N=>
  erw[pj g λhc hz g=>?_];haveI im:i<vs.length:=by simp at d;exact oi 0x2e0b31e3b11210b11 rfl m d
  haveI hy:vs[i]?=some y:=by
   haveI:=Fc List.head? hd;rw[List.head?_drop]at this;exact this
  haveI xO:vs.drop (i+1)=N:=by rw[<-List.tail_drop,hd];rfl
  erw[gt (bg:=bg) M (vm H' hc) B Sk Y4 Z4 zF hy λpv W S vy EX J DX=>?_,have cf3:Cf c env nm Oj H' a ((F.set Ac G).set I W) S:=((bx.Ru M.Co).at λo e=>DX _ o (Ne.symm TD) e).Xw TD Sk;?_,xc (lH (J.3 _ _ (Tb.Jd ..)) EX.plain (xc ?_)),SD nd eo hh tg cf3 J vy g λL4 s4 Ql g5 q4 hl4 u=>?_];rw[Tb.set_comm F _ _ (Ne.symm Zv)]at Ql g5;erw[zc (hb L4 H' a W b s4 _ O EX.Co ⟨G,ra,Ql,g5⟩ hz u q4) (λfin s5 h5=>?_) λ_ _ f=>f,hide λZz C=>?_];obtain⟨rfl,more,H5,T5,Lr,⟨V,U,qt,cf5⟩,q5⟩:=h5;erw[C ?_];clear C;erw[⟨rfl,N.length,by simp at d;exact je 0x1e0b31e0b11 rfl d,N,b++more,H5,T5,W,rfl,aks O Lr,⟨i+1,by simp at d;exact Ka (oi 0x23e0bb31e3b11210b11 rfl m d) (oi 0x3e0bb231e3b12210b12 rfl m d),xO,EX.mono Lr⟩,⟨V,by rw[<-Db];exact U,qt,?_⟩,q5⟩,cf5.weak hl4.symm λj w hj Z=>?_];by_cases hm:j∈t.slots
  ·erw[qd (Xr j hm w hj) Z]
  ·rw[u j hm];exact hj
def Uk (c:Cx):RH c where
 r rs T o:=∃items k,o=Ge items k/\Ee c T rs items.toList
 mono rs T T' o h x:=by obtain⟨items,k,e,v⟩:=x;exact⟨items,k,e,Ee.mono h _ _ v⟩
 Do rs T o x v e:=by obtain⟨items,k,rfl,_⟩:=x;exact Xi Data.ctorIdx e rfl
def TH (c:Cx):RH c where
 r rs T o:=∃es k,o=Ah es k/\ah c T (yg rs []) es.toList/\((yg rs []).map λp:MV×MV=>p.1).Nodup
 mono rs T T' o h x:=by obtain⟨es,k,e,v,n⟩:=x;exact⟨es,k,e,v.mono h,n⟩
 Do rs T o x v e:=by obtain⟨es,k,rfl,_⟩:=x;exact Xi Data.ctorIdx e rfl
def Al (c:Cx)(R:RH c)(n m:Nat)(sc:Scope)(nm:List Str)(e:Expr)(d:Nat)(t:Tg)(sl:List Nat)(mb:List MV->MH->(List MV->MH->Prop)->Prop):Prop:=
 ∀(A:Around)(env:Env)(F:Tb)(I Ac:Addr)(v:MV)(vs:List MV)(bg:MH->Prop)(oI:Obj)(Oj bj rs:List MV)(H:MH)(T:Tb)(s:Shared)(Q:List MV->MH->Prop)(X:Result->Shared->Prop),Rm n A->Bf c env sc->I≠Ac->F I=none->F Ac=none->I≠env.locals->Ac≠env.locals->c.P≠I->c.P≠Ac-> (∀H',bg H'->∀p,v=.ref p->H' p=some (.list vs))->xi c T v vs 0 oI->(∀j∈sl,∀v,Oj[j]?=some v->v=.td)->bj.length<m->CS c R env nm Ac (F.set I oI) (bj++rs) Oj H T s->
  af bg (λx H K=>ri t x Oj λL'=>mb L' H K) vs rs H Q->(∀yy H' T' s',T.le T'->CS c R env nm Ac F (bj++yy) Oj H' T' s'->Q yy H'->X (.ok .next) s')->
  codeAny (ako c) A (.compLoop e d (.ref I) (.ref Ac) env) X s
inductive Pj (c:Cx)(P:Pg)(n:Nat)(sc:Scope)(nm:List Str):List Expr->qh->Prop where
 |nil:Pj c P n sc nm [] .nil
 |cons {e:Expr} {me:ME} {es:List Expr} {Yo:qh}:ui c P n sc nm e me->Pj c P n sc nm es Yo->Pj c P n sc nm (e::es) (.cons me Yo)
theorem dx {M:Model}{a:List Expr}{Q:Bool->Shared->Prop}(h:Q false s):wpAny M A (forIn a false λc r=>if r=true then do let ok<-isTrue c env (eval c env);pure (ForInStep.yield ok)else pure (ForInStep.yield r)) Q E s:=by
 induction a with
 |nil=>exact yc h|cons e r b=>rw[List.forIn_cons];exact xc (yc b)
theorem UH {cs:qh}(p:Pj c P n sc nm ifs cs):∀{T:Tb}{H:MH}{s:Shared}{Q:Bool->MH->Prop}{K:Bool->Shared->Prop},Rm n A->Bf c env sc->Cf c env nm L H T F s->St c H T F s->Du P cs L H Q->(∀b H' a s',T.le a->St c H' a F s'->Cf c env nm L H' a F s'->Q b H'->K b s')->wpAny (ako c) A (forIn ifs true λc r=>if r=true then do let ok<-isTrue c env (eval c env);pure (ForInStep.yield ok)else pure (ForInStep.yield r)) K akn s:=by
 induction p with
 |nil=>
  intro T H s Q K d f g st h k;rw[List.forIn_nil];erw[yc (k _ _ _ _ (akt T) st g h)]
 |@cons e x y z he r t=>
  intro T H s Q K d f g st h k;rw[List.forIn_cons];erw[xc ?_];rw[Ec rfl];erw[xc (cP he d f g st h λb C B w l m j i=>yc ?_)];cases b with
  |false=>exact dx (k _ _ _ _ l m j (i.2 rfl))|true=>exact t d f j m (i.1 rfl) λb H' a s' o v u q=>k b H' a s' (aks l o) v u q
theorem ut {K:Value->Shared->Prop}(l:F Ac=none)(C:c.P≠Ac)(h:Ac≠env.locals)(t:rs.length<3*big)(p:VR c T r x)(cs:CS c (Uk c) env nm Ac F rs L H T s)(k:∀s',CS c (Uk c) env nm Ac F (rs++[r]) L H T s'->K .none s'):wpAny (ako c) A (call (.builtin "list.append") [.ref Ac,x]) K akn s:=by
 erw[hide λM j=>?_];obtain⟨J,⟨a,m,rfl,i⟩,st,I⟩:=cs;erw[j ?_];clear j;haveI w:s.heap.get? Ac=some (Ge a m):=st.3 _ _ (Tb.Jd ..);have G:H Ac=none:=by
  cases e:H Ac with
  |none=>rfl|some z=>have:=st.5 _ _ e;rw[Tb.Jd]at this;exact ns this
 haveI B:T Ac=none:=st.6 _ _ (Tb.Jd ..);erw[append_at w (λd u q=>?_) (by rw[<-i.arr,sizeLine_eq];exact Ba (Ib t) akq)];have g:∀b f,b≠Ac->s.heap.get? b=some f->d.get? b=some f:=λb f y e=>(u.2 b y).trans e;erw[k {s with heap:=d} ⟨Ge (a.push x) (m+1),⟨_,_,rfl,by rw[Array.toList_push];exact i.append ⟨p,trivial⟩⟩,(st.Uw (s':={s with heap:=d}) l G B C g q).1,?_⟩,((I.Ru λv e=>by exact Xi Data.ctorIdx e rfl).at (s':={s with heap:=d}) λo e=>g _ o (Ne.symm h) e).Xw h l]
theorem Pf (b:Expr)(g:List Comprehension)(a:Scope)(pos:Pos)(d:Nat)(f e:Value)(env:Env):(Code.compLoop (.ListComp b g a pos) d f e env).isFrame=false/\(Code.compLoop (.ListComp b g a pos) d f e env).weight=0/\(Code.compLoop (.ListComp b g a pos) d f e env).cUnits=0/\ (Code.compStart (.ListComp b g a pos) d f e env).isFrame=false/\(Code.compStart (.ListComp b g a pos) d f e env).weight=0/\(Code.compStart (.ListComp b g a pos) d f e env).cUnits=0:=⟨rfl,rfl,rfl,rfl,rfl,rfl⟩
theorem Rl (k v:Expr)(g:List Comprehension)(a:Scope)(pos:Pos)(d:Nat)(e b:Value)(env:Env):(Code.compLoop (.DictComp k v g a pos) d e b env).isFrame=false/\(Code.compLoop (.DictComp k v g a pos) d e b env).weight=0/\(Code.compLoop (.DictComp k v g a pos) d e b env).cUnits=0/\ (Code.compStart (.DictComp k v g a pos) d e b env).isFrame=false/\(Code.compStart (.DictComp k v g a pos) d e b env).weight=0/\(Code.compStart (.DictComp k v g a pos) d e b env).cUnits=0:=⟨rfl,rfl,rfl,rfl,rfl,rfl⟩
theorem dP (nd:nm.Nodup){m:ME}(R:Bp sc nm Wi t)(O:Pj c P n sc nm ifs cs)(Y:Pd c P n sc nm elt m):Al c (Uk c) n (2*big) sc nm (.ListComp elt [⟨Wi,iter,ifs,0⟩] scope pos) 0 t t.slots (λL' H K=>Du P cs L' H λb y=>(b=true->Yd P m L' y λr H4=>K [r] H4)/\(b=false->K [] y)):=by
 intro A g F I B v vs bg oI Oj bj rs H T s Q X e f u J z TD o G Ez M W Xr C OX h Z;erw[fj (Pf elt [⟨Wi,iter,ifs,0⟩] scope pos 0 (.ref I) (.ref B) g) λf1 f2 f3 zz=>(SB f1 f2 f3 (compTurn_list ..) nd f e.2.2 R Xr u J z TD o G M W ?_ OX h Z)];intro L' H' T' TB V_ s' K yn nc ⟨l,ra,Td,bx⟩ PX _ q;haveI Sk:(F.set I TB) B=none:=by rw[Tb.Ug _ _ (Ne.symm u)];exact z
 erw[xc (UH O e f bx Td q λb H1 T1 s1 d w p k=>?_)];cases b with
 |false=>exact yc ⟨rfl,[],H1,T1,d,⟨l,by rw[ib];exact(Uk c).mono _ _ _ _ d ra,w,p⟩,k.2 rfl⟩
 |true=>
  rw[Ec rfl];erw[xc (xc (Rq Y e f p w (k.1 rfl) λx a H2 T2 s2 j V U N S=>?_)),xc (ut Sk Ez o (by rw[ua];exact se 0x131de20bb31e2b10121de0b10 rfl C PX) N ⟨l,(Uk c).mono _ _ _ _ (aks d j) ra,V,U⟩ λs3 i=>yc (yc ⟨rfl,[x],H2,T2,aks d j,i,S⟩))]
end
section
open W PyProof.Rows
theorem VH (c h b e g:Expr)(a:Scope)(pos:Pos)(f d:Value)(env:Env):compTurn (.ListComp c [⟨h,b,[],0⟩,⟨e,g,[],0⟩] a pos) 1 f d env=(standAt g.pos>>=λ_=>pyNext f>>=λr=>match r with
  |none=>pure (.done .next)|some v=>letOwnedTupleGo e f v>>=λ_=>assign e env v>>=λ_=>((eval c env>>=λx=>call (.builtin "list.append") [d,x]>>=λ_=>pure ())>>=λ_=>
   again (.compLoop (.ListComp c [⟨h,b,[],0⟩,⟨e,g,[],0⟩] a pos) 1 f d env))):=by rfl
theorem UD (c f b h e:Expr)(a:Scope)(pos:Pos)(g d:Value)(env:Env):compTurn (.ListComp c [⟨f,b,[],0⟩,⟨h,e,[],0⟩] a pos) 0 g d env=(standAt b.pos>>=λ_=>pyNext g>>=λr=>match r with
  |none=>pure (.done .next)|some v=>letOwnedTupleGo f g v>>=λ_=>assign f env v>>=λ_=>(eval e env>>=λx=>standAt e.pos>>=λ_=>foldedSetIterable e env x>>=λx=>holding [x] (pyIter x)>>=λi=>
   runOwn (.compStart (.ListComp c [⟨f,b,[],0⟩,⟨h,e,[],0⟩] a pos) 1 i d env) env>>=λ_=>
   again (.compLoop (.ListComp c [⟨f,b,[],0⟩,⟨h,e,[],0⟩] a pos) 0 g d env))):=by rfl
theorem fold_plain {e:Expr}(h:gg e=false)(env:Env)(x:Value):foldedSetIterable e env x=pure x:=by cases e<;>first|rfl|(exact tf h;done)
theorem i5 (nd:nm.Nodup){e u d g w:Expr}{b:Scope}{pos:Pos}{f:Tg}{m:ME}(J:Bp sc nm g f)(S:Pd c P n sc nm e m):Al c (Uk c) n (2*big) sc nm (.ListComp e [⟨u,d,[],0⟩,⟨g,w,[],0⟩] b pos) 1 f f.slots (λL' H K=>Yd P m L' H λr H4=>K [r] H4):=by
 intro A i F I z v vs bg oI Oj bj rs H T s Q X k p t D y W o C Ez E R V B OX h U;erw[fj (Pf e [⟨u,d,[],0⟩,⟨g,w,[],0⟩] b pos 1 (.ref I) (.ref z) i) λf1 f2 f3 _=>(SB f1 f2 f3 (VH ..) nd p k.2.2 J V t D y W o C E R ?_ OX h U)];intro L' H' T' Y V_ s' K yn nc ⟨N,ra,Td,bx⟩ PX _ q;have Sk:(F.set I Y) z=none:=by rw[Tb.Ug _ _ (Ne.symm t)];exact y
 erw[xc (xc (Rq S k p bx Td q λx a H2 Z s2 l O M G L=>?_)),xc (ut Sk Ez o (by rw[ua];exact se 0x131de20bb31e2b10121de0b10 rfl B PX) G ⟨N,(Uk c).mono _ _ _ _ l ra,O,M⟩ λs3 j=>yc (yc ⟨rfl,[x],H2,Z,l,j,L⟩))]
theorem QX (nd:nm.Nodup){g G d D B:Expr}{b:Scope}{pos:Pos}{t C:Tg}{me mi:ME}(tg:Bp sc nm G t)(M:Bp sc nm D C)(qk:gg B=false)(RX:∀j∈C.slots,j∉t.slots)(hi:Pd c P n sc nm B mi) (he:Pd c P n sc nm g me):Al c (Uk c) n big sc nm (.ListComp g [⟨G,d,[],0⟩,⟨D,B,[],0⟩] b pos) 0 t (t.slots++C.slots) (λL' H K=>Yd P mi L' H λv2 H3=>Ff v2 H3 λLd Y=>
  af Y (λy H4 K2=>ri C y L' λaR=>Yd P me aR H4 λr Z=>K2 [r] Z) Ld [] H3 K):=by
 intro A f F I m v vs bg oI Oj bj rs H T s Q X N U Zv yF Eo TD ip zF Ez vm it Xr zy OX h hX;erw[fj (Pf g [⟨G,d,[],0⟩,⟨D,B,[],0⟩] b pos 0 (.ref I) (.ref m) f) λf1 f2 f3 _=>(SB f1 f2 f3 (UD ..) nd U N.2.2 tg (λj E=>Xr j (List.mem_append_left _ E)) Zv yF Eo TD ip zF vm it ?_ OX h hX)];intro L' H' T' J V_ s' K yn nc ⟨oA,ra,Td,bx⟩ PX hLL q;have Sk:(F.set I J) m=none:=by rw[Tb.Ug _ _ (Ne.symm Zv)];exact Eo
 erw[xc (Rq hi N U bx Td q λx a H2 T2 s2 rh u oR va q2=>xc (Cc ?_))];rw[fold_plain qk];erw[xc (yc (xc (Bc ?_))),Ou q2 u va λL Y o2 s3 q3 j5 WN Vi l kp=>?_];haveI k:=de s2.heap;generalize s2.heap.objs.size=I2 at l k⊢;have p:((F.set I J).set m oA) I2=none:=u.cD k;haveI S:=u.xw k;haveI R:=u.bD k;haveI w:=u.dD k;haveI z:I2≠f.locals:=λe=>by obtain⟨o,l⟩:=oR.obj;rw[<-e,k]at l;exact nn l
 haveI i:I2≠m:=λe=>by rw[e,Tb.Jd]at p;exact ns p
 haveI W:(F.set I J) I2=none:=by rw[Tb.Ug _ _ i]at p;exact p
 haveI Ql:=Vi.Fk l S w R;haveI g5:=(oR.at (s':=s3) λo e=>kp _ _ e).Xw (a:=I2) (o:=o2) z p;rw[Tb.set_comm _ _ _ (Ne.symm i)]at Ql g5;haveI O:=(Uk c).mono _ _ _ _ rh ra;erw[fj (Pf g [⟨G,d,[],0⟩,⟨D,B,[],0⟩] b pos 1 (.ref I2) (.ref m) f) λ_ _ _ Zd=>(pj Zd λg1 g2 g3=>(xc (wpAny_runOwn ?_)))];rw[Around.mark_none];erw[SH g1 rfl g2 g3 (λQ q=>jt WN l q) (i5 (P:=P) nd M he A f (F.set I J) I2 m x L Y o2 L' (bj++V_) [] H2 T2 s3 K _ N U i W Sk z ip w Ez j5 WN (λj E v hv=>?_) ?_ ⟨oA,by rw[ib];exact O,Ql,g5⟩ q3 λyy Z T5 s5 Lr V q5=>(yc ⟨rfl,yy,Z,T5,aks rh Lr,V,q5⟩))]
 ·rw[hLL j (RX j E)]at hv;erw[Xr j (List.mem_append_right _ E) v hv]
 ·rw[ua];exact se 0x121de20bb31e2b101e0b10 rfl zy PX
end
section
open W PyProof.Rows
variable {H H' : MH} {T T' F : Tb} {Q : MV → MH → Prop} {E : Value → Shared → Prop} {c : Cx} {mg mb : Str → Option Value} {s : Shared} {nm : List Str} {n : Nat} {A : Around} {P : Pg} {sc : Scope} {env : Env} {L : List MV} {D : Dx}
theorem St.drop (st:St c (H.set a o) T F s)(f:H a=none):St c H T F s:=
 .mk
 (Qm:=λb d e=>st.1 b d (by unfold MH.set;rw[Dc];exact e;rintro rfl;rw[f]at e;exact nn e))
 (Sm:=st.2)
 (Tm:=st.3)
 (iO:=λb d e=>st.4 b d (by unfold MH.set;rw[Dc];exact e;rintro rfl;rw[f]at e;exact nn e))
 (jO:=λb d e=>st.5 b d (by unfold MH.set;rw[Dc];exact e;rintro rfl;rw[f]at e;exact nn e))
 (Eu:=st.6)
 (base:=st.7)
 (gens:=st.8)
 (os:=st.9)
 (tab:=st.10)
 (kO:=⟨by
  have:=st.11.1;unfold MH.set at this;split at this
  ·erw[ns this]
  ·exact this,st.11.2⟩)
theorem fx {a:Type}{C:List a->Prop}(f:C [])(e:∀k,C [k])(d:∀k v r,C r->C (k::v::r))(l:List a):C l:=
 (List.rec (motive:=λl=>C l/\∀k,C (k::l)) ⟨f,e⟩ (λk _ b=>⟨b.2 k,λj=>d j k _ b.1⟩) l).1
theorem Gz (a:List MV)(d:List (MV×MV)):(yg a d).length<=a.length+d.length:=
 fx (C:=λa=>∀d,(yg a d).length<=a.length+d.length) (λd=>Nat.le_add_left _ _) (λ_ d=>Nat.le_add_left _ _) (λk v r b d=>by
  have e:(dput d k v).length<=d.length+1:=by
   unfold dput;split
   ·rw[aa];exact ee 0xe0b03 rfl
   ·rw[ua,List.length_singleton];exact Qa _
  haveI:=b (dput d k v);show(yg r (dput d k v)).length<=r.length+1+1+d.length
  exact oi 0x3ee1bbb03e3b21021b010 rfl this e) a d
theorem jp {a b:MV}(e:List MV)(d:List (MV×MV))(h:e.length%2=0):yg (e++[a,b]) d=dput (yg e d) a b:=
 fx (C:=λe=>∀d,e.length%2=0->yg (e++[a,b]) d=dput (yg e d) a b) (λ_ _=>rfl) (λ_ _ h=>Xi id h rfl) (λk v r f d h=>f (dput d k v) ((Nat.add_mod_right r.length 2).symm.trans h)) e d h
def Tq (c:Cx):RH c where
 r rs T o:=rs.length%2=0/\(TH c).r rs T o
 mono rs T T' o h x:=⟨x.1,(TH c).mono _ _ _ _ h x.2⟩
 Do rs T o x:=(TH c).Do _ _ _ x.2
theorem VD (bs:Bs c mg mb){K:Unit->Shared->Prop}(j:F Ac=none)(r:c.P≠Ac)(q:Ac≠env.locals)(O:rs.length<big)(S:A.units+10<cLine)(W:k.key=true)(C:VR c T k x)(B:VR c T v y)(cs:CS c (Tq c) env nm Ac F rs L H T s)(kk:∀s',CS c (Tq c) env nm Ac F (rs++[k,v]) L H T s'->K () s'):wpAny (ako c) A (dictSet Ac x y) K akn s:=by
 erw[hide λZz w=>?_];obtain⟨oA,⟨a,u,m,rfl,R,V⟩,st,d⟩:=cs;erw[w ?_];clear w;have U:s.heap.get? Ac=some (Ah u m):=st.3 _ _ (Tb.Jd ..);have t:H Ac=none:=by
  cases e:H Ac with
  |none=>rfl|some z=>have:=st.5 _ _ e;rw[Tb.Jd]at this;exact ns this
 have g:T Ac=none:=st.6 _ _ (Tb.Jd ..);have J:(Ac==sysModules)=false:=by
  rw[beq_eq_false_iff_ne];rintro rfl;obtain⟨o,e⟩:=bs.7;rw[st.7 _ _ e]at g;exact ns g
 haveI Z:St c (H.set Ac (.dict (yg rs []))) T F s:=(st.Gk (Tb.Gf _ j)).put (s':=s) (λ_ _ _ e=>e) (o:=.dict _) ⟨u,m,U,R,J,V⟩ g j r;obtain⟨oC,b⟩:=d.obj;haveI i:Cf c env nm L H T F s:=d.Ru λv e=>by exact Xi Data.ctorIdx e rfl
 haveI N:=Z.Fk b (by unfold MH.set;rw[Dc (Ne.symm q)];exact d.4.1) d.4.2.2.2 d.4.2.1;erw[Mu bs N (MH.Jd ..) W C B S (by haveI:=Gz rs [];simp at this;exact se 0x2e0b32e1b101010 rfl this O) λs' f=>?_];rw[MH.set_set]at f;have f:=f;erw[ff (f.UM (MH.Jd ..)) λl p M G X=>(eA X λ_ Mw=>?_)];haveI Y:=f.drop t;obtain⟨h,I⟩:=i.next b (akt T) Y;erw[kk s' ⟨Ah l p,⟨by rw[ua];simp;exact Ka (Ob a) (ee 0xf3 rfl),l,p,rfl,by rw[jp _ _ a];exact G,by rw[jp _ _ a];exact Mw⟩,I.Fk M t r g,h.Xw q j⟩]
theorem WD (e d f b:Expr)(a:Scope)(pos:Pos)(I g:Addr)(env:Env):compTurn (.DictComp e d [⟨f,b,[],0⟩] a pos) 0 (.ref I) (.ref g) env=(standAt b.pos>>=λ_=>pyNext (.ref I)>>=λr=>match r with
  |none=>pure (.done .next)|some v=>letOwnedTupleGo f (.ref I) v>>=λ_=>assign f env v>>=λ_=>((eval e env>>=λx=>holding [x] (eval d env)>>=λy=>standAt {e.pos with endLine:=d.pos.endLine,endCol:=d.pos.endCol}>>=λ_=>holding [x,y] (dictSet g x y))>>=λ_=>
   again (.compLoop (.DictComp e d [⟨f,b,[],0⟩] a pos) 0 (.ref I) (.ref g) env))):=by rfl
theorem eP (bs:Bs c mg mb)(nd:nm.Nodup){o mv:ME}(N:Bp sc nm Wi t)(Y:Pd c P n sc nm kx o)(W:Pd c P n sc nm vx mv):Al c (Tq c) n 1 sc nm (.DictComp kx vx [⟨Wi,iter,[],0⟩] scope pos) 0 t t.slots (λL' H K=>Yd P o L' H λa k=>Yd P mv L' k λb H4=>a.key=true/\K [a,b] H4):=by
 intro A f F I w v vs bg oI Oj bj rs H T s Q X d e r C u TD p B Ez G V Xr z OX h Z;erw[fj (Rl kx vx [⟨Wi,iter,[],0⟩] scope pos 0 (.ref I) (.ref w) f) λf1 f2 f3 _=>(SB f1 f2 f3 (WD ..) nd e d.2.2 N Xr r C u TD p B G V ?_ OX h Z)];intro L' H' T' TB V_ s' K yn nc ⟨S,ra,Td,bx⟩ PX _ q;haveI Sk:(F.set I TB) w=none:=by rw[Tb.Ug _ _ (Ne.symm r)];exact u
 haveI X_:bj=[]:=List.length_eq_zero_iff.mp (Ka (ee 0xf03ee0b10 rfl z) (ee 0xf3 rfl));subst X_;erw[xc (xc (Rq Y d e bx Td q λx a H2 T2 s2 l U R M O=>xc (Bc ?_))),Rq W d e R U O λy b k T3 s3 j Vi i J m=>(xc (Cc (Bc ?_))),VD bs Sk Ez p (by simpa using PX) (by haveI:=d.units;exact je 0x1ea1c0bb31ec82c0bb10 rfl this) m.1 (VR.mono j _ _ M) J ⟨S,(Tq c).mono _ _ _ _ (aks l j) ra,Vi,i⟩ λs4 g=>yc ⟨rfl,[x,y],k,T3,aks l j,g,m.2⟩]
end
section
open W PyProof.Rows
def Eh (sc He:Scope):Scope:={He with names:=He.names.map λ(n,k)=>if (k==.free&&sc.kind==.function&&sc.names.lookup n==some .cell)then(n,.cell)else(n,k)}
def An (cells:List (Str×Addr)):List (Str×NameKind)->List (Str×Addr)->List (Str×Addr)
 |[],cs=>cs|p::r,cs=>An cells r (if p.2==.free then(p.1,(cells.lookup p.1).getD 0)::cs else cs)
theorem Uq (env:Env):∀(l:List (Str×NameKind))(cs:List (Str×Addr)),(∀x∈l,x.2=.free->(env.cells.lookup x.1).isSome=true)->(forIn l cs λ(x:Str×NameKind)(cs:List (Str×Addr))=>if (x.2==NameKind.free)=true then do let a<-cellOf env x.1;pure (ForInStep.yield ((x.1,a)::cs))else(pure (ForInStep.yield cs):Sem _))=pure (An env.cells l cs)
 |[],cs,_=>rfl|(n,k)::r,cs,h=>by
  rw[List.forIn_cons];show _=pure (An env.cells r (if (k==NameKind.free)=true then _ else _));by_cases e:(k==NameKind.free)=true
  ·haveI c:=h (n,k) (.head _) (by simpa using e);rw[Ec e,Ec e];cases q:env.cells.lookup n with
   |none=>rw[q]at c;exact ft c
   |some a=>
    haveI:cellOf env n=pure a:=by unfold cellOf;rw[q]
    show(cellOf env n>>=_)>>=_=_;rw[this];erw[Uq env r _ λx b=>h x (.tail _ b)]
  ·rw[Dc e,Dc e];erw[Uq env r _ λx b=>h x (.tail _ b)]
theorem fP {env:Env}{a:Scope}(h:∀x∈a.names,x.2=.free->(env.cells.lookup x.1).isSome=true):closureFor a env=pure (An env.cells a.names []):=by unfold closureFor;erw[Fc (λt:Sem (List (Str×Addr))=>t>>=λb=>pure b) (Uq env a.names [] h)]
theorem UB {cells:List (Str×Addr)}{x:Str}{a:Addr}(b:cells.lookup x=some a):∀(l:List (Str×NameKind))(cs:List (Str×Addr)),(cs.lookup x=some a\/(cs.lookup x=none/\(x,NameKind.free)∈l))->(An cells l cs).lookup x=some a
 |[],cs,h=>by
  rcases h with h|⟨_,h⟩
  ·erw[h]
  ·cases h
 |(n,k)::r,cs,h=>by
  show(An cells r (if (k==NameKind.free)=true then _ else _)).lookup x=some a;erw[UB b r _ ?_];by_cases e:(k==NameKind.free)=true
  ·rw[Ec e,Uc];by_cases q:x=n
   ·subst q;rw[Pa,b];exact .inl rfl
   ·haveI c:(x==n)=false:=Yc q;rw[c];erw[h.imp id λh=>⟨h.1,?_⟩];rcases xa h.2 with h|h
    ·cases h;exact qd rfl q
    ·erw[h]
  ·rw[Dc e];erw[h.imp id λh=>⟨h.1,?_⟩];rcases xa h.2 with h|h
   ·cases h;exact qd rfl e
   ·erw[h]
inductive Fo (sc:Scope)(nm:List Str)(He:Scope)(Mr:List Str)(Gj:List (Option Nat))(sl:List Nat):Prop
 |mk (kind:He.kind=.function) (Do:∀x∈He.names,x.2≠.cell) (loc:∀x∈He.names,x.2=.local->He.names.lookup x.1=some .local) (free:∀x∈He.names,x.2=.free->sc.names.lookup x.1=some .cell\/sc.names.lookup x.1=some .free) (nd:Mr.Nodup) (len:Mr.length=Gj.length) (at':∀(j:Nat)(x:Str)(o:Option Nat),Mr[j]?=some x->Gj[j]?=some o->match o with|some i=>nm[i]?=some x/\He.names.lookup x=some .free|none=>He.names.lookup x=some .local) (sl:∀j∈sl,Gj[j]?=some none) (nl:eD He=false)
theorem iP {b a:Scope}:eD (Eh b a)=eD a:=by
 unfold eD Eh;dsimp only;rw[List.any_map]
 congr 1
 funext p
 dsimp only[Function.comp];split<;>rfl
theorem Hz {a:Scope}{x:Str}:∀{names:List (Str×NameKind)}{k:NameKind},(names.map λ(n,k)=>if (k==NameKind.free&&a.kind==.function&&a.names.lookup n==some .cell)then(n,NameKind.cell)else(n,k)).lookup x=some k->names.lookup x=some k\/(names.lookup x=some .free/\k=.cell):=by
 intro names
 induction names with
 |nil=>exact λh=>nomatch h|cons p r c=>
  obtain⟨n,j⟩:=p;intro k h;rw[yb,Uc]at h;have h:=h;rw[Uc];by_cases b:(j==NameKind.free&&a.kind==.function&&a.names.lookup n==some .cell)=true
  ·simp only[b,if_true]at h;cases hx:x==n with
   |true=>
    simp only[Da,Zc]at b;rw[hx]at h;obtain rfl:=(oa h);erw[.inr ⟨by rw[b.1.1],rfl⟩]
   |false=>rw[hx]at h;exact c h
  ·simp only[b,Bool.false_eq_true,if_false]at h;cases hx:x==n with
   |true=>rw[hx]at h;exact .inl h
   |false=>rw[hx]at h;exact c h
theorem mem_lookup {c d:Type}[BEq c][LawfulBEq c]{x:c}{v:d}:∀{l:List (c×d)},l.lookup x=some v->(x,v)∈l:=by
 intro l
 induction l with
 |nil=>exact λh=>nomatch h|cons p r f=>
  obtain⟨a,b⟩:=p;intro h;rw[Uc]at h;cases e:x==a with
  |true=>rw[e]at h;obtain rfl:=(oa h);obtain rfl:=ub e;exact .head _
  |false=>rw[e]at h;exact .tail _ (f h)
end
section
open W PyProof.Rows
variable {H H' : MH} {T T' F : Tb} {Q : MV → MH → Prop} {E : Value → Shared → Prop} {c : Cx} {mg mb : Str → Option Value} {s : Shared} {nm : List Str} {n : Nat} {A : Around} {P : Pg} {sc : Scope} {env : Env} {L : List MV} {D : Dx}
theorem Vu {a:List (Option Nat)}{j:Nat}:(Yi a L)[j]?=(a[j]?).map λo=>match o with|some i=>L.getD i .td|none=>.td:=za ..
theorem XD (W:Bf c env sc)(rm:Rm n A)(lf:Hk c env nm L T F)(st:St c H T F s)(d:Fo sc nm He Mr Gj sl)(jk:clausesOf e=g::gs) (ha:(g.is_async !=0)=false) (qk:gg g.iter=false)(MX:∀S O env,(Code.compStart e 0 S O env).isFrame=false/\(Code.compStart e 0 S O env).weight=0/\(Code.compStart e 0 S O env).cUnits=0) (hi:Pd c P n sc nm g.iter mi)(zj:∀(s:Shared)(T:Tb)(Q:Value->Shared->Prop),(∀o,o.isFreed=false->R.r [] T o->Q (.ref s.heap.objs.size) {s with heap:=s.heap.push o})->wpAny (ako c) A Iz Q akn s)(hl:Al c R n m (Eh sc He) Mr e 0 t sl body) (B:0<m) {Q:Value->Shared->Prop} {Z:List MV->MH->Prop}(h:Yd P mi L H λv H1=>Ff v H1 λitems bg=>af bg (λx H2 K=>ri t x (Yi Gj L) λL'=>body L' H2 K) items [] H1 Z)(fin:∀rs H' T' z jP C s',jP.locals=C->T.le T'->CS c R jP Mr z F rs (Yi Gj L) H' T' s'->F z=none->z≠jP.locals->c.P≠z->Z rs H'->compPost (ako c) A akn use Q (.ref z) C (.ok .next) s'):wpAny (ako c) A (comprehension e He env pos Iz false (eval g.iter env) use) Q akn s:=by
 obtain rfl:=W.Rr;have pR:∀x,He.names.lookup x=some .free->∃a,env.cells.lookup x=some a/\(An env.cells He.names []).lookup x=some a:=λx u=>by
  have B:=mem_lookup u;have:=W.cls x (d.4 _ B rfl);cases q:env.cells.lookup x with
  |none=>rw[q]at this;exact ft this
  |some a=>exact⟨a,rfl,UB q _ _ (.inr ⟨rfl,B⟩)⟩
 haveI hnc:∀x,He.names.lookup x≠some .cell:=λx u=>d.2 _ (mem_lookup u) rfl;erw[wpAny_comprehension_free jk (λx=>fold_plain qk env x) (fP λx u hk=>W.cls x.1 (d.4 x u hk)) d.1 d.3 (zc (hi A env T F H L s _ rm W lf st h) (λx s1 p=>?_) λzz zz f=>f)];obtain⟨v,H1,T1,Sg,Y,va,q1⟩:=p;erw[Ou q1 Y va λvs bg oI l q2 vm S jf N kp=>?_];haveI U:=de s1.heap;generalize s1.heap.objs.size=I at N U⊢;haveI yF:=Y.cD U;have Vi:=jf.Fk N (Y.xw U) (Y.dD U) (Y.bD U);haveI zF:c.P≠I:=Y.dD U;erw[zj l T1 _ λM hf ra=>?_];haveI iD:=de l.heap;have up:∀b o,l.heap.get? b=some o->(l.heap.push M).get? b=some o:=λb o e=>Wc _ e;haveI v5:(l.heap.push M).get? l.heap.objs.size=some M:=Xc _ hf;generalize l.heap.objs.size=z at v5 iD⊢;have Sk:=Vi.cD iD;have Zv:I≠z:=λe=>by rw[e,Tb.Jd]at Sk;exact ns Sk
 have Eo:F z=none:=by rw[Tb.Ug _ _ (Ne.symm Zv)]at Sk;exact Sk
 have Ez:c.P≠z:=Vi.dD iD;haveI X:=(Vi.grow (s':={l with heap:=l.heap.push M}) up).Fk v5 (Vi.xw iD) Ez (Vi.bD iD);haveI lP:=up _ _ N;generalize hs3:({l with heap:=l.heap.push M}:Shared)=s3 at X⊢;have e3:l.heap.push M=s3.heap:=by rw[<-hs3]
 rw[e3]at lP v5;erw[wpAny_newFunctionEnv d.2 (λy hy=>nomatch hy) (λh' WM vF=>?_) d.1];haveI J:=de s3.heap;have y5:∀b o,s3.heap.get? b=some o->h'.get? b=some o:=λb o e=>vF.extBut b o (λq=>by rw[q,J]at e;exact nn e) (Wc _ e);generalize hC:s3.heap.objs.size=C at J WM vF⊢;haveI VB:=X.cD J;have ip:z≠C:=λe=>by rw[e,J]at v5;exact nn v5
 haveI TD:I≠C:=λe=>by rw[e,J]at lP;exact nn lP
 haveI qt:=X.grow (s':={s3 with heap:=h',toks:=s3.toks+([]:List (Str×Value)).length}) y5;erw[SH (MX ..).1 (by rw[jk];exact ha) (MX ..).2.1 (MX ..).2.2 (λQ q=>jt S (y5 _ _ lP) q) ?_];haveI z5:∀x k,(Eh env.scope He).names.lookup x=some k->He.names.lookup x=some k\/(He.names.lookup x=some .free/\k=.cell):=λx k=>Hz;haveI hcf:∀x,(Eh env.scope He).names.lookup x=some .cell\/(Eh env.scope He).names.lookup x=some .free->He.names.lookup x=some .free:=λx u=>by
  rcases u with u|u<;>rcases z5 _ _ u with h|⟨h,-⟩<;>first|exact h|exact qd h (hnc x)
 haveI eo':Bf c ({(newEnv He C env.globals (An env.cells He.names []) env.qual none .none (some env) builtinsNs)with scope:=relabel He env}:Env) (Eh env.scope He):=by
  refine⟨rfl,d.1,W.globals,W.builtins,λx u=>?_,λh=>?_⟩
  ·erw[Sd (pR x (hcf x u)) λa zz e=>?_];show((An env.cells He.names []).lookup x).isSome=true;rw[e];rfl
  ·rw[iP,d.9]at h;exact ft h
 erw[hl A _ F I z v vs bg oI (Yi Gj L) [] [] H1 T1 _ Z _ rm eo' Zv yF Eo TD ip zF Ez vm S ?_ B ⟨M,ra,qt,?_⟩ q2 λyy H' T' s' yn cs' q'=>fin yy H' T' z _ C s' rfl (aks Sg yn) cs' Eo ip Ez q']
 ·intro j hj v hv;rw[Vu,d.8 j hj]at hv;have hv:=hv;obtain rfl:=(oa hv);rfl
 ·haveI slot:∀(i:Nat)(x:Str),Mr[i]?=some x->∃o,Gj[i]?=some o/\match o with|some k=>nm[k]?=some x/\He.names.lookup x=some .free|none=>He.names.lookup x=some .local:=λi x V=>by
   obtain⟨im,-⟩:=Fa V;rw[d.6]at im;exact⟨_,wa im,d.7 i x _ V (wa im)⟩
  refine⟨by rw[d.6,Yi,aa],⟨_,WM,?_⟩,?_,X.xw J,X.bD J,VB,X.dD J⟩
  ·intro i x w V h2 G h4;obtain⟨o,e,B⟩:=slot i x V;rw[Vu,e]at G;cases o with
   |none=>obtain rfl:=(oa G);exact qd rfl h4
   |some k=>
    rcases z5 x .local h2 with h|⟨-,h⟩
    ·rw[B.2]at h;exact Xi NameKind.ctorIdx (oa h) rfl
    ·erw[Xi NameKind.ctorIdx h rfl]
  ·intro i x w V h2 G h4;obtain⟨o,e,B⟩:=slot i x V;rw[Vu,e]at G;cases o with
   |none=>obtain rfl:=(oa G);exact qd rfl h4
   |some k=>
    erw[Sd (pR x B.2) λa p1 p2=>?_];haveI hL:L[k]?=some w:=by
     cases q:L[k]? with
     |none=>simp[List.getD,q]at G;exact qd G.symm h4
     |some w'=>simp[List.getD,q]at G;rw[G]
    erw[We (lf.3 k x w B.1 (d.4 _ (mem_lookup B.2) rfl) hL h4) λa' o' pv z1 Zd=>(pj Zd λz2 z3 z4=>?_)];rw[p1]at z1;obtain rfl:=(oa z1);exact⟨a,o',pv,p2,Tb.Gf _ Sk _ _ (Tb.Gf _ yF _ _ z2),z3,VR.mono Sg _ _ z4⟩
def ym (c:Cx)(P:Pg)(n:Nat)(sc:Scope)(nm:List Str)(run:Env->Option (Value->Sem Unit)->Sem Value)(me:ME):Prop:=
 ∀(A:Around)(env:Env)(T F:Tb)(H:MH)(L:List MV)(s:Shared)(Q0:MV->MH->Prop)(use:Option (Value->Sem Unit))(Q:Value->Shared->Prop),Rm n A->Bf c env sc->Hk c env nm L T F->St c H T F s->Yd P me L H Q0-> (∀H' T' Ac C oC m s',T.le T'->St c H' T' (F.set C oC) s'->F C=none->(∀v,oC.data≠.cell v)->s'.heap.Ns C m->Q0 (.ref Ac) H'->compPost (ako c) A akn use Q (.ref Ac) C (.ok .next) s')->
  wpAny (ako c) A (run env use) Q akn s
theorem CS.out (w:env.locals=C)(cs:CS c R env nm Ac F rs L H T s)(l:F Ac=none)(d:Ac≠C)(O:c.P≠Ac)(q:∀ob,R.r rs T ob->s.heap.get? Ac=some ob->T Ac=none->di c T s.heap Ac o):H Ac=none/\∃a m,St c (H.set Ac o) T (F.set C a) s/\F C=none/\(∀v,a.data≠.cell v)/\s.heap.Ns C m:=by
 subst w;erw[hide λS k=>?_];obtain⟨b,p,st,j⟩:=cs;erw[k ?_];clear k;haveI t:s.heap.get? Ac=some b:=st.3 _ _ (Tb.Jd ..);haveI f:T Ac=none:=st.6 _ _ (Tb.Jd ..);haveI u:H Ac=none:=by
  cases e:H Ac with
  |none=>rfl|some z=>have:=st.5 _ _ e;rw[Tb.Jd]at this;exact ns this
 erw[Sd j.2 λm M _=>(We M λa G I i K=>(eA K λh J=>(fj j.4 λB y g x=>?_)))];haveI N:F env.locals=none:=by rw[Tb.Ug _ _ (Ne.symm d)]at g;exact g
 haveI hd:∀v,a.data≠.cell v:=λv e=>by rw[h]at e;exact Xi Data.ctorIdx e rfl
 erw[⟨u,a,m,?_,N,hd,⟨a,G,I,i,h,J⟩⟩,((st.Gk (Tb.Gf _ l)).put (s':=s) (λ_ _ _ e=>e) (q b p t f) f l O).Fk i ?_ x y];unfold MH.set;rw[Dc (Ne.symm d)];exact B
theorem Wu (bs:Bs c mg mb)(ck:Fo sc nm He Mr Gj sl)(I:clausesOf e=g::gs) (W:(g.is_async !=0)=false) (y:gg g.iter=false)(MX:∀f a env,(Code.compStart e 0 f a env).isFrame=false/\(Code.compStart e 0 f a env).weight=0/\(Code.compStart e 0 f a env).cUnits=0) (hi:Pd c P n sc nm g.iter mi)(u:∀(A:Around)(s:Shared)(T:Tb)(Q:Value->Shared->Prop),(∀o,o.isFreed=false->R.r [] T o->Q (.ref s.heap.objs.size) {s with heap:=s.heap.push o})->wpAny (ako c) A Iz Q akn s)(U:Al c R n m (Eh sc He) Mr e 0 t sl body) (S:0<m) {mo:List MV->MO}(M:∀(d:List MV)(T:Tb)(ob:Obj)(s:Shared)(b:Addr),(b==sysModules)=false->R.r d T ob->s.heap.get? b=some ob->di c T s.heap b (mo d))(i:∀L H Q,Yd P me L H Q=Yd P mi L H λv q=>Ff v q λitems bg=>af bg (λx H2 K=>ri t x (Yi Gj L) λL'=>body L' H2 K) items [] q λd H'=>alloc H' (mo d) Q):ym c P n sc nm (λenv use=>comprehension e He env pos Iz false (eval g.iter env) use) me:=by
 intro A env T F H L s Q0 use Q w Z lf st h fin;rw[i]at h;erw[XD Z w lf st ck I W y MX hi (u A) U S h λd H' p b jP C j Y le l Eo J Ez z=>?_];subst Y
 obtain⟨X,B,G,Oe,VB,V,WM⟩:=l.out rfl Eo J Ez λob N O k=>M d p ob j b (by
  rw[beq_eq_false_iff_ne];rintro rfl;obtain⟨ob,-,st,-⟩:=l;obtain⟨o,e⟩:=bs.7
  rw[st.7 _ _ e]at k;exact ns k) N O
 erw[fin _ p b _ B G j le Oe VB V WM (z b X)]
theorem YD (bs:Bs c mg mb){cs:qh}(d:Fo sc nm He Mr Gj t.slots)(j:gg iter=false)(hi:Pd c P n sc nm iter mi) (i:Bp (Eh sc He) Mr Wi t) (f:Pj c P n (Eh sc He) Mr ifs cs) (o:Pd c P n (Eh sc He) Mr elt me):ym c P n sc nm (λenv use=>comprehension (.ListComp elt [⟨Wi,iter,ifs,0⟩] He pos) He env pos' (newList []) false (eval iter env) use) (.comp Gj t mi cs me):=
 Wu bs (R:=Uk c) (mo:=.list) (g:=⟨Wi,iter,ifs,0⟩) d rfl rfl j (λl b env=>(Pf elt [⟨Wi,iter,ifs,0⟩] He pos 0 l b env).2.2.2) hi (λA s T Q h=>wpAny_newObj_type (h _ rfl ⟨_,_,rfl,trivial⟩)) (dP d.5 i f o) akq (λp T q s r _ ⟨a,k,e,v⟩ m=>⟨a,k,e▸m,v⟩) λL H Q=>rfl
theorem WH (bs:Bs c mg mb){i b l:ME}(m:Fo sc nm He Mr Gj (t.slots++t2.slots))(p:gg iter=false)(w:gg Uf=false)(x:∀j∈t2.slots,j∉t.slots) (hi:Pd c P n sc nm iter i) (o:Bp (Eh sc He) Mr Wi t) (d:Bp (Eh sc He) Mr lj t2) (y:Pd c P n (Eh sc He) Mr Uf b) (u:Pd c P n (Eh sc He) Mr elt l):ym c P n sc nm (λenv use=>comprehension (.ListComp elt [⟨Wi,iter,[],0⟩,⟨lj,Uf,[],0⟩] He pos) He env pos' (newList []) false (eval iter env) use) (.Qs Gj t i t2 b l):=
 Wu bs (R:=Uk c) (mo:=.list) (g:=⟨Wi,iter,[],0⟩) m rfl rfl p (λq f env=>(Pf elt [⟨Wi,iter,[],0⟩,⟨lj,Uf,[],0⟩] He pos 0 q f env).2.2.2) hi (λA s T Q h=>wpAny_newObj_type (h _ rfl ⟨_,_,rfl,trivial⟩)) (QX m.5 o d w x y u) akq (λz T B s C _ ⟨a,k,e,v⟩ r=>⟨a,k,e▸r,v⟩) λL H Q=>rfl
theorem ZD (bs:Bs c mg mb){f d mv:ME}(i:Fo sc nm He Mr Gj t.slots)(l:gg iter=false)(hi:Pd c P n sc nm iter f) (j:Bp (Eh sc He) Mr Wi t) (r:Pd c P n (Eh sc He) Mr kx d) (p:Pd c P n (Eh sc He) Mr vx mv):ym c P n sc nm (λenv use=>comprehension (.DictComp kx vx [⟨Wi,iter,[],0⟩] He pos) He env pos' newDict false (eval iter env) use) (.sw Gj t f d mv):=
 Wu bs (R:=Tq c) (mo:=λb=>.dict (yg b [])) (g:=⟨Wi,iter,[],0⟩) i rfl rfl l (λo a env=>(Rl kx vx [⟨Wi,iter,[],0⟩] He pos 0 o a env).2.2.2) hi (λA s T Q h=>wpAny_newObj_type (h _ rfl ⟨rfl,_,_,rfl,.nil,List.nodup_nil⟩)) (eP bs i.5 j r p) akq (λb T x s y m w q=>by obtain⟨_,u,k,e,v,nd⟩:=w;exact⟨u,k,e▸q,v,m,nd⟩) λL H Q=>rfl
theorem YH {d:Env->Option (Value->Sem Unit)->Sem Value}{e:Expr}{k:ME}(x:ym c P n sc nm d k)(t:∀env,eval e env=d env none):Pd c P n sc nm e k:=by
 intro A env T F H L s Q r w lf st h;rw[t];erw[x A env T F H L s Q none _ r w lf st h λo B G C j m i le f l J y q=>⟨m,y,λv p=>⟨.ref G,o,B,le,?_,rfl,q⟩⟩,have g:(F.set C j) C=some j:=Tb.Jd ..;?_,(f.Gk (Tb.Gf _ l)).but (s':={i with heap:=v}) (a:=C) (λb I u e=>(p.2 b u).trans e) ?_ (f.6 _ _ g) l ?_]
 ·cases e:o C with
  |none=>rfl|some z=>have:=f.5 _ _ e;rw[g]at this;exact ns this
 ·rintro e;have:=f.11.2.2;rw[e,g]at this;exact ns this
theorem aE (nd:nm.Nodup){d:Env->Option (Value->Sem Unit)->Sem Value}{v:Expr}{x:Str}{t pos:Pos}{i:Nat}{K:ME}(co:ym c P n sc nm d K)(hn:nm[i]?=some x)(hk:sc.names.lookup x=some .local)(hs:∀env,Bf c env sc->swapsWith v (some (.Name x t)) pos.line env=pure true) (he:∀env u,evalThenUse v env u=(d env (some u)>>=λ_=>pure ())):uh c P n sc nm (.Assign [.Name x t] v pos) (.asg i K):=by
 intro A env T F H L s Q Z I l st h;rw[exec_Assign_Name_used _ _ _ _ (hs env I.toBf),he];erw[xc (Cc (xc (xc ?_))),co A env T (qm env s F) H L s _ _ _ Z I.toBf l.lf (l.st st) h λX T' Ac C f m J le j g hd WM q=>?_];have p:((qm env s F).set C f) C=some f:=Tb.Jd ..;have a:¬Own env C:=λV=>by
  rw[xj V]at g;erw[l.uH g V]
 have k:F C=none:=by rw[yj a]at g;exact g
 have U:X C=none:=by
  cases e:X C with
  |none=>rfl|some z=>have:=j.5 _ _ e;rw[p]at this;exact ns this
 have R:=j.6 _ _ p;have S:c.P≠C:=by rintro e;have:=j.11.2.2;rw[e,p]at this;exact ns this
 have M:=j.3 _ _ p;erw[eA (l.next le (j.Gk (Tb.Gf _ g))) λKl Oe=>(Qp (i:=i) nd I ⟨x,t,rfl,hn,.inl hk⟩ (Kl.Xw (o:=f) a k) (Oe.Fk M U S R) (v:=.ref Ac) rfl λr O dp=>?_),haveI y:=O.3 _ _ (Tb.Jd F C f);?_,We WM λo' es ep W e2=>?_];rw[M]at W;obtain rfl:=(oa W);refine⟨m,⟨f,es,ep,y,e2⟩,λG Y=>yc (yc ?_)⟩;have N:∀b w,b≠C->r.heap.get? b=some w->G.get? b=some w:=λb w B e=>(Y.2 b B).trans e;erw[Tf.next le ((O.Gk (Tb.Gf _ k)).but (s':={r with heap:=G}) N U R k S) ((dp.Ru k hd).at (s':={r with heap:=G}) λb B o e=>N b o (λq=>a (q▸B)) e) q]
def Rh (N:Nat)(g:Nat->Nat)(Q:α->Prop):KasT α->Prop
 |.ret a=>Q a|.ask i j k=>(i<N/\j<N)/\∀b,(b=true->g i<=g j)->(b=false->g j<=g i)->Rh N g Q (k b)
theorem Rh.bind {Q:β->Prop}{f:α->KasT β}:∀{t:KasT α},Rh N g (λa=>Rh N g Q (f a)) t->Rh N g Q (t.bind f)
 |.ret _,h=>h|.ask _ _ _,h=>⟨h.1,λb e d=>Rh.bind (h.2 b e d)⟩
theorem Rh.wp {I:Shared->Prop}{Q:α->Prop}{R:α->Shared->Prop}(d:∀i j s (C:Bool->Shared->Prop),i<N->j<N->I s->(∀b s',I s'->(b=true->g i<=g j)->(b=false->g j<=g i)->C b s')->cmp i j C s)(e:∀a s,Q a->I s->R a s):∀{t:KasT α}{s:Shared},Rh N g Q t->I s->t.kasWp cmp R s
 |.ret a,s,h,i=>e a s h i|.ask _ _ _,s,h,i=>d _ _ s _ h.1.1 h.1.2 i λb _ i' k f=>Rh.wp d e (h.2 b k f) i'
inductive Pm (N:Nat)(p:Array Nat):Prop
 |mk (sz:p.size=N) (pm:p.toList.Perm (range N))
theorem Pm.lt (x:Pm N p)(h:k<N):p.getD k 0<N:=by
 haveI a:k<p.size:=by rw[x.1];exact h
 haveI e:p.getD k 0=p[k]:=by simp[Array.getD,a]
 rw[e];erw[Mb (x.2.mem_iff.mp (Array.mem_toList_iff.mpr (Array.getElem_mem a)))]
theorem getD_eq {p:Array Nat}{k:Nat}:p.getD k 0=p[k]?.getD 0:=by rw[Array.getD_eq_getD_getElem?]
theorem Pm.rev (x:Pm N p)(i j:Nat):Pm N (kas_rev p i j):=⟨(mirror_size _ _ _ _).trans x.1,(Array.perm_iff_toList_perm.mp (mirror_perm _ _ _ _)).trans x.2⟩
theorem Pm.bub (x:Pm N p)(i j:Nat):Pm N (bubble p i j):=⟨(bubble_size _ _ _).trans x.1,(Array.perm_iff_toList_perm.mp (bubble_perm _ _ _)).trans x.2⟩
theorem Xu {p:Array Nat}{i j k:Nat}(a:j<=p.size)(d:i<=k)(b:k<j):(kas_rev p i j).getD k 0=p.getD (i+j-1-k) 0:=by rw[getD_eq,getD_eq];unfold kas_rev;rw[getElem?_mirror_all a,Ec ⟨d,b⟩]
theorem WB {p:Array Nat}{i j k:Nat}(a:j<=p.size)(h:¬(i<=k/\k<j)):(kas_rev p i j).getD k 0=p.getD k 0:=by rw[getD_eq,getD_eq];unfold kas_rev;rw[getElem?_mirror_all a,Dc h]
def Up (g:Nat->Nat)(p:Array Nat)(n:Nat):Prop:=∀k,k+1<n->g (p.getD k 0)<=g (p.getD (k+1) 0)
def Dn (g:Nat->Nat)(p:Array Nat)(n:Nat):Prop:=∀k,k+1<n->g (p.getD (k+1) 0)<=g (p.getD k 0)
theorem Up.le (u:Up g p n):∀{a b:Nat},a<=b->b<n->g (p.getD a 0)<=g (p.getD b 0)
 |a,0,h,_=>by rw[Nat.le_zero.mp h];exact Qa _
 |a,b+1,h,d=>by
  rcases Nat.lt_or_ge b a with h'|h'
  ·rw[Ka h h'];exact Qa _
  ·erw[Ba (Up.le u h' (Nat.lt_of_succ_lt d)) (u b d)]
theorem Up.snoc (u:Up g p (n+1))(h:g (p.getD n 0)<=g (p.getD (n+1) 0)):Up g p (n+2):=λk a=>by
 rcases Nat.lt_or_ge (k+1) (n+1)with h'|h'
 ·erw[u k h']
 ·obtain rfl:k=n:=by exact Ka (je 0x10321c1bee0bb10 rfl a) (je 0x103e1be0b10 rfl h')
  erw[h]
theorem Dn.snoc (u:Dn g p (n+1))(h:g (p.getD (n+1) 0)<=g (p.getD n 0)):Dn g p (n+2):=λk a=>by
 rcases Nat.lt_or_ge (k+1) (n+1)with h'|h'
 ·erw[u k h']
 ·obtain rfl:k=n:=by exact Ka (je 0x10321c1bee0bb10 rfl a) (je 0x103e1be0b10 rfl h')
  erw[h]
theorem XB {p:Array Nat}(d:Pm N p){Q:Nat->Prop}:∀(f n:Nat),n+1+f<=N->Up g p (n+1)->(∀m,n<=m->m<=n+f->Up g p (m+1)->(m<n+f->g (p.getD (m+1) 0)<=g (p.getD m 0))->Q (m+1))->Rh N g Q (kas_asc p f (n+1)):=by
 intro e
 induction e with
 |zero=>
  intro n _ u h;erw[h n (Qa _) (Qa _) u λq=>qd q (Ic _)]
 |succ f i=>
  intro n a u h
  exact⟨⟨d.lt (by exact se 0x2ee0bb32e1be0bb10 rfl a),d.lt (by exact oi 0x3e0b33e2be1bb10e1be0b11 rfl (ta (ee 0xe0be3 rfl)) a)⟩,λb k j=>by
   cases b with
   |true=>exact h n (Qa _) (jb _ _) u λ_=>k rfl|false=>exact i (n+1) (by exact se 0x21ee0bbb32e1be0bb10 rfl a) (u.snoc (j rfl)) λm t r o l=>h m (by exact je 0x1031e0b10 rfl t) (by exact se 0xe2b1b032e1bb010 rfl r) o λq=>l (by exact se 0x2e1bbe0b3e2b1be0b10 rfl q)⟩
inductive Fl (N:Nat)(g:Nat->Nat)(p:Array Nat)(n q:Nat):Prop
 |mk (pm:Pm N p) (dn:Dn g p (n+1)) (qn:q<=n) (eq:∀k,n<=k+q->k<=n->g (p.getD k 0)=g (p.getD n 0))
theorem Fl.rev (x:Fl N g p n q)(d:n<N)(k:Nat):g ((kas_rev p (n+1-(q+1)) (n+1)).getD k 0)=g (p.getD k 0):=by
 have a:n+1<=p.size:=by rw[x.1.1];exact d
 have b:=x.3;by_cases h:n+1-(q+1)<=k/\k<n+1
 ·rw[Xu a h.1 h.2,x.4 _ (by exact pN 0x14b23e2be5b10354b12e2b0be3b12e2be1b0b12 rfl (ta (je 0xe1be0b31010 rfl b)) (ta (je 0xe1b0be3 rfl)) (ta (oi 0x203e1b3be2b12e1be0b10 rfl h.2 (ta (je 0xe1b0be3 rfl)))) h.2) (by exact jo 0x4031310e4b3be2b11210b11 rfl (ta (oi 0x203e1b3be2b12e1be0b10 rfl h.2 (ta (je 0xe1b0be3 rfl)))) (ta (je 0xe1b0be3 rfl)) h.1),x.4 k (by exact oi 0x13b233010e2be1b0b12 rfl (ta (je 0xe1be0b31010 rfl b)) h.1) (by exact je 0x103e1be0b10 rfl h.2)]
 ·rw[WB a h]
theorem Fl.flat (x:Fl N g p n q)(a:n<N):Fl N g (kas_rev p (n+1-(q+1)) (n+1)) n 0:=
 ⟨x.1.rev _ _,λk b=>by rw[x.rev a,x.rev a];exact x.2 k b,Ta _,λk e d=>by rw[Ka d e]⟩
theorem Fl.zero (x:Fl N g p n q):Fl N g p n 0:=⟨x.1,x.2,Ta _,λk b a=>by rw[Ka a b]⟩
theorem Fl.less (x:Fl N g p n 0)(h:g (p.getD (n+1) 0)<=g (p.getD n 0)):Fl N g p (n+1) 0:=⟨x.1,x.2.snoc h,Ta _,λk b a=>by rw[Ka a b]⟩
theorem Fl.same (x:Fl N g p n q)(h:g (p.getD (n+1) 0)=g (p.getD n 0)):Fl N g p (n+1) (q+1):=⟨x.1,x.2.snoc (Ob h),Wa x.3,λk b a=>by
 rcases Nat.lt_or_ge n k with h'|h'
 ·rw[Ka a h']
 ·rw[h];exact x.4 k (by exact se 0x21b03e2b1be0b10 rfl b) h'⟩
theorem ZH {Q:Array Nat×Nat×Nat->Prop}:∀(f n q:Nat)(p:Array Nat),n+1+f<=N->Fl N g p n q->(∀i m e,m<=n+f->Fl N g i m e->Q (i,m+1,e))->Rh N g Q (kas_desc f p (n+1) q):=by
 intro r
 induction r with
 |zero=>
  intro n q p _ x h;erw[h p n q (Qa _) x]
 |succ f k=>
  intro n q p a x h
  exact⟨⟨x.1.lt (by exact se 0x2ee0bb32e1be0bb10 rfl a),x.1.lt (by exact oi 0x3e0b33e2be1bb10e1be0b11 rfl (ta (ee 0xe0be3 rfl)) a)⟩,λb o t=>by
   cases b with
   |true=>
    show Rh N g Q (if q>0 then _ else _);by_cases l:q>0
    ·rw[Ec l];erw[k (n+1) 0 _ (by exact se 0x21ee0bbb32e1be0bb10 rfl a) ((x.flat (by exact se 0x2e0b32e1be0bb10 rfl a)).less ?_) λi m e j=>h i m e (by exact se 0xe2b1b032e1bb010 rfl j)];rw[x.rev (by exact se 0x2e0b32e1be0bb10 rfl a),x.rev (by exact se 0x2e0b32e1be0bb10 rfl a)];exact o rfl
    ·rw[Dc l];erw[k (n+1) 0 _ (by exact se 0x21ee0bbb32e1be0bb10 rfl a) (x.zero.less (o rfl)) λi m e j=>h i m e (by exact se 0xe2b1b032e1bb010 rfl j)]
   |false=>
    refine⟨⟨x.1.lt (by show n<N;exact se 0x2e0b32e1be0bb10 rfl a),x.1.lt (by exact se 0x2ee0bb32e1be0bb10 rfl a)⟩,λd v u=>?_⟩;cases d with
    |true=>exact h p n q (by exact je 0xe1b0b03 rfl) x
    |false=>exact k (n+1) (q+1) _ (by exact se 0x21ee0bbb32e1be0bb10 rfl a) (x.same (Ka (u rfl) (t rfl))) λi m e j=>h i m e (by exact se 0xe2b1b032e1bb010 rfl j)⟩
theorem xt {Q:Nat×Array Nat->Prop}{p:Array Nat}(d:n<N)(x:Fl N g p n 0)(h:∀m b,m<N->Pm N b->Up g b (m+1)->Q (m+1,b)):Rh N g Q (kas_tail3 (n+1) N p):=by
 have e:n+1<=p.size:=by rw[x.1.1];exact d
 erw[Rh.bind (XB (x.1.rev _ _) _ _ (by exact se 0x20e1bb32e1b0b11 rfl (ta d)) (λk a=>?_) λm j i f _=>h m _ (by exact oi 0x3e0b33e1b2b1121b010 rfl i (ta d)) (x.1.rev _ _) f)];rw[Xu e (Ta _) (by exact je 0xe1be0b3e1bee0bb10 rfl a),Xu e (Ta _) a];haveI:=x.2 (n-(k+1)) (by exact se 0xe2bee0bb32e1b0b11 rfl (ta (je 0x1e0b3e1bee0bb10 rfl a)));rwa[show n-(k+1)+1=0+(n+1)-1-k by exact Ka (jo 0x4e0b3314b12e2bfbe3b122e1b0b11 rfl (ta (je 0x1e0b3e1bee0bb10 rfl a)) (ta (ee 0xe0bfbe3 rfl)) (ta (se 0x203e1bfbe2b12e1bee0bb10 rfl a (ta (ee 0xe0bfbe3 rfl))))) (jo 0xe4b033e1b4b12e3bfbe2b11210b11 rfl (ta (se 0x203e1bfbe2b12e1bee0bb10 rfl a (ta (ee 0xe0bfbe3 rfl)))) (ta (ee 0xe0bfbe3 rfl)) (ta (je 0x1e0b3e1bee0bb10 rfl a))),show n-(k+1)=0+(n+1)-1-(k+1) by exact Ka (jo 0x4033e1b4b12e2bfbe3b122e1b0b11 rfl (ta (je 0x1e0b3e1bee0bb10 rfl a)) (ta (ee 0xe0bfbe3 rfl)) (ta (se 0x2e0b3e1bfbe2b12e1bee0bb10 rfl a (ta (ee 0xe0bfbe3 rfl))))) (jo 0x4033e1b4b12e3bfbe2b112e1b0b11 rfl (ta (se 0x2e0b3e1bfbe2b12e1bee0bb10 rfl a (ta (ee 0xe0bfbe3 rfl)))) (ta (ee 0xe0bfbe3 rfl)) (ta (je 0x1e0b3e1bee0bb10 rfl a)))]at this
theorem Cn {Q:Nat×Array Nat->Prop}{p:Array Nat}(b:n+1<N)(x:Fl N g p (n+1) 0)(h:∀m a,m<N->Pm N a->Up g a (m+1)->Q (m+1,a)):Rh N g Q (kas_descPart (n+1) N p):=by
 erw[Rh.bind (ZH _ (n+1) 0 p (by exact se 0x20ee1bbb32ee1bb0b11 rfl (ta b)) x λa m e d i=>?_)];show Rh N g Q (if e>0 then _ else _);by_cases f:e>0
 ·rw[Ec f];exact xt (by exact oi 0x3e0b33ee1bb2b112e1bb010 rfl d (ta b)) (i.flat (by exact oi 0x3e0b33ee1bb2b112e1bb010 rfl d (ta b))) h
 ·rw[Dc f];exact xt (by exact oi 0x3e0b33ee1bb2b112e1bb010 rfl d (ta b)) i.zero h
theorem bE {Q:Nat×Array Nat->Prop}{p:Array Nat}(f:1<=N)(d:Pm N p)(h:∀m j,m<N->Pm N j->Up g j (m+1)->Q (m+1,j)):Rh N g Q (kas_count N p):=by
 erw[Rh.bind (XB d _ 0 (by exact je 0x10efbb31e0b11 rfl (ta f)) (λk a=>(kc k (Nat.lt_of_succ_lt_succ a)).elim) λm _ x i w=>?_)];have hm:m<N:=by exact se 0x2e0b32e1b111fb010 rfl x (ta f)
 by_cases t:(m+1==N)=true
 ·rw[Ec t];exact h m p hm d i
 ·rw[Dc t];have l:m+1<N:=vc hm λq=>t (by rw[q];exact Pa _);have u:m+1<=p.size:=by rw[d.1];exact hm
  have hf:=w (by exact se 0x2fbe0b31e2b121ee0bb10 rfl l (ta f));by_cases r:m+1>1
  ·rw[Ec r];refine⟨⟨d.lt (by exact ee 0xefb30e10 rfl f),d.lt (by exact se 0x2e0b32e1b10e1be0b11 rfl (ta (ee 0xe0be3 rfl)) hm)⟩,λb y v=>?_⟩;cases b with
   |true=>exact h m p hm d i|false=>
    have flat:∀k,k<=m->g (p.getD k 0)=g (p.getD 0 0):=λk a=>Ka (Ba (i.le a (Oc _)) (v rfl)) (i.le (Ta _) (Nat.lt_succ_of_le a));haveI e:∀k,k<=m->g ((kas_rev p 0 (m+1)).getD k 0)=g (p.getD 0 0):=λk a=>by rw[Xu u (Ta _) (Nat.lt_succ_of_le a)];exact flat _ (by exact oi 0x303e3bfbe2b11210b11 rfl (ta (se 0x203e1bfbe2b121010 rfl a (ta (ee 0xe0bfbe3 rfl)))) (ta (ee 0xe0bfbe3 rfl)))
    erw[Cn l ⟨d.rev _ _,λk a=>?_,Ta _,λk f o=>by rw[Ka o f]⟩ h];rcases Nat.lt_or_ge k m with h'|h'
    ·rw[e _ h',e _ (Ib h')];exact Qa _
    ·obtain rfl:k=m:=by exact Ka (je 0x103ee1bbee0bb10 rfl a) h'
     rw[e _ (Qa _),<-flat k (Qa _),WB u (λh=>Ic _ h.2)];exact hf
  ·rw[Dc r];obtain rfl:m=0:=by exact Ka (ee 0xf03ee0b10 rfl (uc r)) (ee 0xf3 rfl)
   erw[Cn l ⟨d,λk a=>Er (Nat.lt_one_iff.mp (Nat.lt_of_succ_lt_succ a)) hf,Ta _,λk f o=>by rw[Ka o f]⟩ h]
theorem dE {Q:Nat->Prop}{k:Nat}{p:Array Nat}(w:Pm N p)(x:k<N)(u:Up g p k):∀(f l r:Nat),r<=l+f->r<=k->l<=k->(∀a,a<l->g (p.getD a 0)<=g (p.getD k 0))->(∀a,r<=a->a<k->g (p.getD k 0)<=g (p.getD a 0))->(∀l,l<=k->(∀a,a<l->g (p.getD a 0)<=g (p.getD k 0))->(∀a,l<=a->a<k->g (p.getD k 0)<=g (p.getD a 0))->Q l)->Rh N g Q (kas_place p k f l r):=by
 intro n
 induction n with
 |zero=>
  intro l r q _ o m j h;erw[h l o m λa d=>j a (Ba q d)]
 |succ f v=>
  intro l r q e o m j h;unfold kas_place;by_cases i:l>=r
  ·rw[Ec i];exact h l o m λa d=>j a (Ba i d)
  ·rw[Dc i];have hm:(l+r)/2<r:=Nat.div_lt_of_lt_mul (by rw[Nat.two_mul];exact Nat.add_lt_add_right (Nat.lt_of_not_le i) r);haveI t:l<=(l+r)/2:=(Nat.le_div_iff_mul_le akq).mpr (by rw[Nat.mul_two];exact Gc (Ib (Nat.lt_of_not_le i)) l);refine⟨⟨w.lt x,w.lt (by exact oi 0x3e0b33e2b1021101e0b10 rfl hm e x)⟩,λb z y=>?_⟩;cases b with
   |true=>exact v l _ (by exact oi 0x32b03e3b2b1101e0b10 rfl hm q) (by exact se 0x20321101e0b10 rfl hm e) o m (λa C B=>Ba (z rfl) (u.le C B)) h
   |false=>exact v _ r (by exact oi 0x2e3bb033110e2b1b010 rfl q t) e (by exact se 0x2e0b321101e0b10 rfl hm e) (λa d=>Ba (u.le (Cb d) (Ma hm e)) (y rfl)) j h
theorem bI {p:Array Nat}{k l a:Nat}(d:k<p.size)(b:l<=k):(bubble p k (k-l)).getD a 0=if a=l then p.getD k 0 else if l<a/\a<=k then p.getD (a-1) 0 else p.getD a 0:=by
 rw[getD_eq,getElem?_bubble d _ (Nat.sub_le _ _),Nat.sub_sub_self b,getD_eq,getD_eq,getD_eq];split
 ·rfl
 ·split<;>rfl
theorem nP {Q:Array Nat->Prop}:∀(f k:Nat)(p:Array Nat),k+f=N->Pm N p->Up g p k->(∀j,Pm N j->Up g j N->Q j)->Rh N g Q (kas_bin f p k):=by
 intro n
 induction n with
 |zero=>
  intro k p e d u h;erw[h p d (by rw[<-e];exact u)]
 |succ f r=>
  intro k p e d u h;haveI o:k<p.size:=by rw[d.1];exact se 0x2e0b32e1b0b11 rfl e
  erw[Rh.bind (dE d (by exact se 0x2e0b32e1b0b11 rfl e) u k 0 k (by exact ee 0xfb03 rfl) (Qa _) (Ta _) (λa b=>qd b (kc _)) (λa x w=>qd w (rc x)) λl m v t=>r (k+1) _ (by exact Ka (se 0x21e0bb32e1b0b11 rfl e) (se 0x1e0bb232e1b0b12 rfl e)) (d.bub _ _) (λa b=>?_) h)];rw[bI o m,bI o m];rcases Nat.lt_trichotomy a l with q|q|q
  ·rw[Dc (Kc q),Dc (λh=>Nat.lt_asymm q h.1)];by_cases i:a+1=l
   ·rw[Ec i];exact v a q
   ·rw[Dc i,Dc (λh=>qd (Cb h.1) (Nat.not_le.mpr q))];exact u a (Ma (vc q i) m)
  ·rw[Ec q,Dc (by exact Nat.ne_of_gt (je 0xe0be1b31012 rfl q)),Ec (by exact⟨je 0xe0be1b31012 rfl q,je 0x1e0b3e1bee0bb10 rfl b⟩),Nat.add_sub_cancel];exact t a (Ob q.symm) (by exact je 0x1e0b3e1bee0bb10 rfl b)
  ·rw[Dc (Nat.ne_of_gt q),Ec (by exact⟨je 0x1e0b31e0b10 rfl q,je 0x103e1bee0bb10 rfl b⟩),Dc (by exact Nat.ne_of_gt (je 0xe1be0b31e0b10 rfl q)),Ec (by exact⟨je 0xe1be0b31e0b10 rfl q,je 0x1e0b3e1bee0bb10 rfl b⟩),Nat.add_sub_cancel];erw[u.le (Nat.sub_le _ _) (by exact je 0x1e0b3e1bee0bb10 rfl b)]
theorem eI {Q:Array Nat->Prop}(d:1<=N)(h:∀p,Pm N p->Up g p N->Q p):Rh N g Q (kas_sort N):=by
 erw[Rh.bind (bE d ⟨by simp,by simp⟩ λm p a b u=>?_)];show Rh N g Q (if m+1<N then kas_bin (N-max (m+1) 1) p (max (m+1) 1)else .ret p);rw[Nat.max_eq_left (Wa (Ta m))];by_cases e:m+1<N
 ·rw[Ec e];exact nP _ _ p (by exact Ka (se 0x20e1bb32e1b0b11 rfl (ta a)) (se 0xe1bb232e1b0b12 rfl (ta a))) b u h
 ·rw[Dc e];exact h p b (by rw[show N=m+1 by exact Ka (uc e) a];exact u)
inductive Y_ (c:Cx)(mg:Str->Option Value):Prop
 |mk (hd:∀h:Heap,(∀a o,c.jj a=some o->h.get? a=some o)->CodeHd h c.L_ c.P) (gP:mainGlobals≠c.P) (bt:∀h:Heap,(∀a o,c.jj a=some o->h.get? a=some o)->h.BuiltinsAt mg c.P)
theorem ix (h:∀x∈Di.names,x.2≠.free):closureFor Di env=pure []:=by
 unfold closureFor;dsimp only;rw[rt []]
 ·rfl
 ·intro x d;haveI:(x.2==NameKind.free)=false:=Yc (h x d);obtain⟨a,b⟩:=x;dsimp only at this⊢;rw[this];rfl
def En (c:Cx)(T:Tb)(args:Arguments)(body:Expr)(Di:Scope)(q:Addr):Prop:=
 ∃pm cd fI o vs t,T q=some {cls:=.type "function",data:=.func (kla_fn "<lambda>" c.lq args body Di [] pm (.ref cd) fI)}/\T cd=some o/\o.data=.fields vs/\vs[1]?=some (.str c.lq t)
theorem En.le (h:T.le T')(x:En c T args body Di q):En c T' args body Di q:=
 by
 obtain⟨f,i,g,o,e,t,a,b,d⟩:=x;exact⟨f,i,g,o,e,t,h _ _ a,h _ _ b,d⟩
theorem St.row (x:St c H T F s)(b:Heap.ExtBut c.P s.heap h')(l:s.heap.objs.size<=ca)(g:h'.get? ca=some oc)(hd:oc.data=.fields vs)(f:vs[1]?=some (.str c.lq t))(i:h'.get? c.P=some (tabObj #[rawInt c.pos.line,rawInt c.pos.col,.ref ca])):St c H (T.set ca oc) F {s with heap:=h',toks:=tk}/\T.le (T.set ca oc):=by
 have hf:=Yw l;have h:=x.bD hf;have j:=x.xw hf;have k:=x.cD hf;haveI le:=Tb.Gf oc h;refine⟨⟨λa o e=>di.at le (x.1 a o e) λd=>b a d λq=>?_,λa o e=>?_,λa o e=>b _ _ (λq=>?_) (x.3 a o e),λa o e=>?_,x.5,λa o e=>?_,aks x.7 le,x.8,x.9,⟨_,i,.inr ⟨ca,oc,vs,t,rfl,Tb.Jd ..,hd,f⟩⟩,x.11.1,?_,x.11.2.2⟩,le⟩
 ·rw[q,x.11.1]at e;exact nn e
 ·unfold Tb.set at e;split at e
  ·rename_i q;obtain rfl:=(oa e);rw[q];exact g
  ·erw[b _ _ (λq=>by rw[q,x.11.2.1]at e;exact nn e) (x.2 a o e)]
 ·rw[q,x.11.2.2]at e;exact nn e
 ·unfold Tb.set;split
  ·rename_i q;rw[q,j]at e;exact nn e
  ·erw[x.4 a o e]
 ·unfold Tb.set;split
  ·rename_i q;rw[q,k]at e;exact nn e
  ·erw[x.6 a o e]
 ·unfold Tb.set;rw[Dc (x.dD hf)];exact x.11.2.1
theorem gI (bs:Bs c mg mb)(lm:Y_ c mg)(hd:args.defaults=[])(R:args.kw_defaults=[])(g:∀x∈Di.names,x.2≠.free)(U:eD sc=true)(u:Bf c env sc)(st:St c H T F s){Q:Value->Shared->Prop} (k:∀q y s',T.le y->St c H y F s'->En c y args body Di q->Q (.ref q) s'):wpAny (ako c) A (eval (.Lambda args body Di c.pos) env) Q E s:=by
 erw[eA (u.code U) λI v=>?_];rw[arm_eval_Lambda,defaultsOf_eq,hd,R];show wpAny _ A (do let dv<-evalAll [];let kdv<-holding dv (evalAllOpt []);makeFunction "<lambda>" (env.qual++"<lambda>") args (.expr body) Di env dv kdv [] c.pos c.pos.line) Q E s;erw[xc (yc (xc (Bc (yc ?_))))];haveI v:env.qual++Str.ofString "<lambda>"=c.lq:=v;show wpAny _ A (makeFunction (Str.ofString "<lambda>") (env.qual++Str.ofString "<lambda>") args (.expr body) Di env [] [] [] c.pos c.pos.line) Q E s;rw[v];haveI j:∀a o,c.jj a=some o->s.heap.get? a=some o:=λa o e=>st.2 _ _ (st.7 _ _ e);erw[Sd st.10 λZ C O=>?_];have B:=(bs.1.le st.7).ns st.2;rcases O with rfl|⟨b,o,l,t,rfl,q1,q2,q3⟩
 ·erw[kla_makeFunction (ix g) u.globals B I (lm.1 _ j) C trivial rfl lm.2 (lm.3 _ j) λb i G d N W jg w p=>(we w λc2 K l X=>(Yj X λt V r J h=>?_))];obtain rfl:=(Value.ref.inj V);obtain⟨z,Y⟩:=st.row (tk:=d) N W r J h p;obtain⟨m,f⟩:=z.mG (ob:=kla_obj "<lambda>" c.lq args body Di [] ((mg "__name__").getD .none) b i) rfl d;erw[k _ _ _ (aks Y f) m ⟨_,b,i,K,l,t,Tb.Jd ..,f _ _ (Tb.Jd ..),J,h⟩]
 ·haveI S:codeAmong c.pos (#[rawInt c.pos.line,rawInt c.pos.col,.ref b]:Array Value).toList=some (.ref b):=by
   show(if ((c.pos.line:Int)==c.pos.line&&(c.pos.col:Int)==c.pos.col)=true then some (Value.ref b)else codeAmong c.pos [])=_;rw[Pa,Pa];rfl
  erw[kla_makeFunctionHit (ix g) u.globals B I (lm.1 _ j) C trivial S (lm.3 _ j) λi G d M zz=>?_];haveI z:St c H T F {s with heap:=G,toks:=d}:=st.grow M;obtain⟨m,f⟩:=z.mG (ob:={cls:=.type "function",data:=.func (kla_fn "<lambda>" c.lq args body Di [] ((mg "__name__").getD .none) (.ref b) i)}) rfl d;erw[k _ _ _ f m ⟨_,b,i,o,l,t,Tb.Jd ..,f _ _ q1,q2,q3⟩]
inductive Vq (args:Arguments)(Di:Scope)(x:Str):Prop
 |mk (d:args.defaults=[]) (kd:args.kw_defaults=[]) (po:args.posonlyargs=[]) (va:args.vararg=none) (ko:args.kwonlyargs=[]) (kw:args.kwarg=none) (as:args.args.map (·.arg)=[x]) (DH:∀x∈Di.names,x.2≠.free) (Do:∀x∈Di.names,x.2≠.cell) (loc:Di.names.lookup x=some .local) (kind:Di.kind=.function) (co:Di.isCoroutine=false) (gen:Di.isGenerator=false) (nl:eD Di=false)
theorem iI (bs:Bs c mg mb)(b:Vq args Di x)(w:En c T args body Di q)(g:Pd c P n Di [x] body me)(m:xF (n+1) A) (st:St c H T F s) (C:VR c T v xv) (h:Yd P me [v] H Q):wpAny (ako c) A (call (.ref q) [xv]) (Cd c T F Q) akn s:=by
 erw[we w λu j J S=>(We S λo l t R X=>(pj X λO N M=>?_))];have d:∀y k,Di.names.lookup y=some k->k≠.free/\k≠.cell:=λy k e=>⟨b.8 _ (mem_lookup e),b.9 _ (mem_lookup e)⟩
 haveI I:MD c T (kla_fn "<lambda>" c.lq args body Di [] u (.ref j) J) 1 1 Di [x]:=.mk (e1:=rfl) (e3:=rfl) (e4:=rfl) (e5:=rfl) (p:=⟨b.3,b.4,b.5,b.6,b.7⟩) (df:=.inl rfl) (cd:=λh=>by rw[b.14]at h;exact ft h) (kind:=b.11) (len:=rfl) (U_:=Qa _) (nd:=List.nodup_cons.mpr ⟨Ea,.nil⟩) (pk:=λy f=>.inl (by rw[ia f];exact b.10)) (cl:=λzz y f=>qd rfl (d y _ f).2) (DH:=λy f=>qd rfl (d y _ f).1)
 refine wpAny_call (kla_callFunE (by haveI:=m.1;exact se 0x2e0b32e81ce1b41d0bbb10 rfl this) (st.2 _ _ R) rfl b.12 b.13 rfl ⟨j,o,l,t,rfl,st.2 _ _ O,N,M⟩ (Zw bs I st (vs:=[v]) (xs:=[xv]) ⟨C,trivial⟩ rfl (B:=λi=>.expr body i) λY s' K G V=>kla_codeExpr ?_))
 erw[dR (kg g m.deeper K G V h λy a W U Z le z dp r q=>⟨y,W,U,le,z,r,q⟩)]
def jI (p:Value×Value):Prop:=∃i j t u,p.1=.int i t/\p.2=.int j u
theorem fE:∀{xs a:List Value}{ns d:List Int},IntsAre xs ns->IntsAre a d->∀p∈xs.zip a,jI p:=by
 intro xs a ns d k
 induction k generalizing a d with
 |nil=>intro _ p h;cases h
 |cons i t _ f=>
  intro g p h;cases g with
  |nil=>cases h|cons j u b=>exact(xa h).elim (λe=>e▸⟨_,_,_,_,rfl,rfl⟩) λh=>f b p h
theorem gE (C:s.heap.get? l=some (Yh items n))(I:s.heap.get? b=some (Yh Ld n2))(G:∀p∈items.toList.zip Ld.toList,jI p) (h:∀r,R (.done (.ret (.bool r))) s):wpAny (ako c) A (Builtin.«tuple.__lt__» ⟨[.ref l,.ref b],[]⟩) R E s:=by
 obtain⟨o,g,d,z,os⟩:=s;haveI f2:=AutoSeq1.sub_tuple_tuple
 wp_walk using AutoSeq1.wpAny_loadPart' C,AutoSeq1.wpAny_loadPart' I,wpAny_forIn_list _ (λa b f=>f=⟨o,g,d,z,os⟩/\b.1=none/\∀p∈a,jI p) _
 case turn=>
  intro M a b f K;obtain⟨y,x⟩:=M;obtain⟨rfl,k,m⟩:=K;erw[hide λS w=>?_];obtain⟨i,j,t,u,v,q⟩:=m _ (.head _);erw[w ?_];clear w;dsimp only at v q;subst v q;erw[xc (wpAny_eqBool_int ?_)];cases e:i==j with
  |true=>
   wp_walk
   exact⟨rfl,rfl,λp o=>m p (.tail _ o)⟩
  |false=>
   simp only[Bool.not_false,if_true];erw[xc (wpAny_rule (xc (PyProof.Rows.lt_int ?_)))]
   wp_walk
   erw[h _]
 case fin=>
  intro J f B;obtain⟨O,N⟩:=J;erw[Fi f B λk m=>?_];simp only at k;subst k
  wp_walk
  erw[h _]
 case h=>
  exact⟨rfl,rfl,G⟩
theorem St.rR (x:St c H' T F s)(h:∀a o,H a=some o->H' a=some o)(b:H c.P=none):St c H T F s:=
 ⟨λa o e=>x.1 a o (h a o e),x.2,x.3,λa o e=>x.4 a o (h a o e),λa o e=>x.5 a o (h a o e),x.6,x.7,x.8,x.9,x.10,b,x.11.2⟩
theorem zi:H.set a o a=some o:=Ec rfl
theorem Vk (h:b≠a):H.set a o b=H b:=Dc h
theorem jx:(H.set a o).set a p=H.set a p:=by funext b;unfold MH.set;split<;>rfl
theorem mx (st:St c (H.set a (.list vs)) T F s)(o:vs.length<big)(l:ws.length<big)(g:∀items:Array Value,Ee c T vs items.toList->Ee c T ws (f items).toList) (k:∀s',St c (H.set a (.list ws)) T F s'->R () s'):wpAny (ako c) A (Builtin.List.listUpdate (.ref a) f) R E s:=by
 erw[vf (st.lst zi) λitems m e r=>?_];haveI t:=st.4 _ _ zi;haveI v:=st.5 _ _ zi;haveI u:c.P≠a:=λq=>by have:=st.11.1;rw[q,zi]at this;exact ns this
 erw[eE (⟨_,get?_update_seq e f⟩:∃d,(s.heap.update a (Obj.mapSeq f)).get? a=some (Ge (f items) d)) λd w=>?_];haveI j:=Heap.SameBut.update s.heap a (Obj.mapSeq f);haveI i:St c ((H.set a (.list vs)).set a (.list ws)) T F {s with heap:=s.heap.update a (Obj.mapSeq f)}:=st.put (λb x p h=>(j.2 b p).trans h) ⟨_,d,w,g _ r⟩ t v u;rw[jx]at i;erw[listUpdate_at e rfl (k _ i) (ig r o) (Qc (ig (g _ r) l))]
theorem iE (st:St c H T F s)(h:H a=some (.list vs))(k:∀items:Array Value,Ee c T vs items.toList->R items s):wpAny (ako c) A (Builtin.List.listItems (.ref a)) R E s:=by erw[vf (st.lst h) λitems m e r=>(listItems_at e rfl (k _ r))]
def Jz:ME:=.tup (.cons (.blt 0 (.cons (.loc 0) .nil)) (.cons (.loc 0) .nil))
def uk (us:List MV):MV:=.tup [.int us.length,.tup us]
theorem oP (h:us.length<big)(q:Q (uk us) H):Yd P Jz [.tup us] H Q:=⟨h,(by decide:2<100000),q⟩
theorem jE (bs:Bs c mg mb)(O:Vq args Di x)(j:Pd c P n Di [x] Gn Jz)(N:xF (n+1) A)(Z:∀x (s:Shared)(K:Shared->Prop),wpAny (ako c) A (call (.ref q) [x]) (λk s'=>wpAny (ako c) A (Builtin.List.listUpdate (.ref kS) (·.push k)) (λ_ Uu=>K Uu) akn s') akn s->wpAny (ako c) A (body x ⟨⟩) (λr s'=>r=.yield ⟨⟩/\K s') akn s):∀(b done:List (List MV))(e:List Value)(T:Tb)(s:Shared),Ee c T (b.map .tup) e->(∀a∈b,a.length<big)->En c T args Gn Di q->done.length+b.length<60->St c (H.set kS (.list (done.map uk))) T F s->(∀i s',T.le i->St c (H.set kS (.list ((done++b).map uk))) i F s'->R ⟨⟩ s')->wpAny (ako c) A (forIn e PUnit.unit body) R akn s:=by
 intro l
 induction l with
 |nil=>
  intro done t T s z X W V st k;cases t with
  |nil=>
   rw[List.forIn_nil];erw[yc (k T s (akt T) (by rw[ib];exact st))]
  |cons _ _=>
   erw[z.elim]
 |cons a b U=>
  intro done t T s B G C d st k;cases t with
  |nil=>
   erw[B.elim]
  |cons y e=>
   haveI d:done.length+(b.length+1)<60:=d;rw[List.forIn_cons];erw[xc (zc (Z y s (λm=>∃h,T.le h/\St c (H.set kS (.list ((done++[a]).map uk))) h F m) (zc (iI bs O C j N st B.1 (oP (Q:=λv H'=>v=uk a/\H'=H.set kS (.list (done.map uk))) (G a (.head _)) ⟨rfl,rfl⟩)) (λkv s1 p=>?_) λ_ _ f=>f)) (λr m p=>?_) λ_ _ f=>f)]
   ·erw[hide λZz I=>?_];obtain⟨_,_,T1,Sg,Oe,M,rfl,rfl⟩:=p;erw[I ?_];clear I;erw[mx (ws:=(done++[a]).map uk) Oe ?_ ?_ (λu r=>?_) λs' g=>⟨T1,Sg,g⟩]
    ·rw[aa];unfold big;exact je 0x186a05ce0b33c2cee1b0bb10 rfl d
    ·rw[aa,ua,List.length_singleton];unfold big;exact je 0x186a05cee0bb33c2cee1b0bb10 rfl d
    ·rw[Aa,Array.toList_push];erw[r.append ⟨M,trivial⟩]
   ·erw[rF r p λXg=>(Sd Xg λh o S=>(U (done++[a]) e h m (Ee.mono o _ _ B.2) (λw Y=>G w (.tail _ Y)) (C.le o) (by rw[ua,List.length_singleton];exact je 0x3c2ce1e0bbb33c2cee1b0bb10 rfl d) S λi s' J g=>?_))];rw[Db]at g;erw[k i s' (aks o J) g]
theorem Kz (r:VR c T (uk us) k):∃a m t y,k=.ref a/\T a=some (Yh #[.int us.length t,y] m)/\VR c T (.tup us) y:=by
 obtain⟨a,⟨b⟩,m,rfl,f,d⟩:=r;cases b with
 |nil=>exact d.elim|cons x0 r=>cases r with
  |nil=>exact d.2.elim|cons e r=>cases r with
   |nil=>obtain⟨⟨t,rfl⟩,g,-⟩:=d;exact⟨a,m,t,e,rfl,f,g⟩
   |cons _ _=>exact d.2.2.elim
theorem kI (j:∀a o,T a=some o->h.get? a=some o):∀{f:List (List MV)}{ks:List Value},Ee c T (f.map uk) ks->∃d,KatTups h ks d/\d.length=f.length/\∀v∈d,∃i t,v=.int i t:=by
 intro l
 induction l with
 |nil=>
  intro e h;cases e with
  |nil=>
   exact⟨[],trivial,rfl,λ_ h=>nomatch h⟩
  |cons _ _=>
   erw[h.elim]
 |cons us f p=>
  intro e b;cases e with
  |nil=>
   erw[b.elim]
  |cons k ks=>
   erw[we (Kz b.1) λa m t x=>(Qf k x λy g=>(eA g λq _=>(Xf (p b.2) λd w u r=>?_)))]
   exact⟨.int us.length t::d,⟨⟨a,_,_,m,rfl,j _ _ q,rfl,rfl,rfl⟩,w⟩,Fc (·+1) u,λv b=>by
    rcases xa b with rfl|b
    ·exact⟨_,_,rfl⟩
    ·exact r v b⟩
theorem ox (h:gf us=some r):xh (.tup us)=true:=by rw[ints_map h];erw[all_eq_true.mpr λx a=>(Ef x (Gb a) λi _=>?_)];rfl
theorem TX {Q:Bool->Shared->Prop}(u:gf us=some r)(t:gf ws=some r')(st:St c H T F s)(g:VR c T (.tup us) x)(f:VR c T (.tup ws) y)(l:A.units+20<cLine)(q:∀b,Q b s):wpAny (ako c) A (compareOp .Lt x y) (PySem.W.BoolBack Q) akn s:=by erw[we g λp a k h=>(Fi x h λo j=>(we f λp2 z w v=>(Fi y v λm i=>?_))),haveI d:=st.2 _ _ o;?_,haveI e:=st.2 _ _ m;?_,wpAny_richCompare_same_room (op:=.Lt) ⟨_,d,rfl⟩ ⟨_,e,rfl⟩ PySem.F.slot_tuple_lt ?_ (je 0x1e0b31e142c0bb10 rfl l),wpAny_call_entry PySem.F.slot_tuple_lt ⟨_,d,rfl⟩ PySem.F.entry_tuple_lt ?_ (PySem.F.args_tuple_lt_2 _ _),gE d e (fE (Pp u j) (Pp t i)) λr=>⟨_,rfl,by nofun,q r⟩]
theorem UX (bs:Bs c mg mb){d:List (List MV)}{ks:List Value}{i j:Nat}{Q:Bool->Shared->Prop}(K:Ee c T (d.map uk) ks)(M:∀f∈d,∃r,gf f=some r)(st:St c H T F s)(x:A.units+30<cLine)(hi:i<d.length)(O:j<d.length)(q:∀b,(b=true->(d.getD i []).length<=(d.getD j []).length)->(b=false->(d.getD j []).length<=(d.getD i []).length)->Q b s):kas_ask c.prog c.w A (tuples' true) ks i j Q s:=by
 have at':∀k,k<d.length->∃y,ks.getD k Value.none=y/\VR c T (uk (d.getD k [])) y/\∃r,gf (d.getD k [])=some r:=λk N=>by
  have e:d[k]?=some (d.getD k []):=by rw[Ga,wa N];rfl
  erw[Sd (K.get (v:=uk (d.getD k [])) (by rw[za,e];rfl)) λy V U=>?_,⟨y,by rw[Ga,V];rfl,U,M _ (Eb e)⟩]
 erw[Xf (at' i hi) λC X I Z=>(eE Z λn1 p=>(Xf (at' j O) λB W G Y=>(eE Y λn2 o=>?_)))];unfold kas_ask;rw[X,W];generalize d.getD i []=f at*;generalize d.getD j []=ws at*;erw[we (Kz I) λa m t J=>(Qf C J λy CG=>(eA CG λS l=>(we (Kz G) λb m' u VX=>(Qf B VX λz WX=>(eA WX λR g=>(kat_lt (st.2 _ _ S) rfl (st.2 _ _ R) rfl (kat_cons (wpAny_eqBool_int ?_))))))))];cases e:((f.length:Int)==ws.length)with
 |true=>
  haveI e:f.length=ws.length:=Int.ofNat.inj (Zc.mp e);haveI any:∀b,Q b s:=λb=>q b (λ_=>Ob e) λ_=>Ob e.symm;erw[kat_yes (kat_cons (xl bs st.2 (ox p) (ox o) l g (je 0x1ea1c0bb31e1e2c0bb10 rfl x) _ _ _ _ ?_))];cases MV.beq (.tup f) (.tup ws)with
  |true=>exact kat_yes (kat_nil (any _))|false=>exact kat_no (kat_one y z (TX p o st l g (je 0x1e142c0bb31e1e2c0bb10 rfl x) any))
 |false=>
  erw[kat_no (oneLt_int (q _ (λh=>(Ib (Int.ofNat_lt.mp (Sb h)))) λh=>(Int.ofNat_le.mp (Int.not_lt.mp (of_decide_eq_false h)))))]
theorem Ee.mapped:∀{l:List Nat},(∀i∈l,VR c T (f i) (g i))->Ee c T (l.map f) (l.map g):=by
 intro l
 induction l with
 |nil=>
  intro _;erw[trivial]
 |cons a r b=>
  intro h;exact⟨h a (.head _),b λi d=>h i (.tail _ d)⟩
theorem YB (J:kS≠a)(I:H a=none)(C:H kS=none)(p:F a=none)(st:St c (H.set kS (.list kv)) T (F.set a (Ge #[] e)) s)(x:kv.length<big)(w:ws.length<big)(u:(arrOf so).map (·.2)=out.toArray) (m:Ee c T ws out) (y:failedOf so=none) (h:∀s',St c (H.set a (.list ws)) T F s'->R (.done (.ret .none)) s'):wpAny (ako c) A (ksk_tail a false e (.ref kS) so) R E s:=by
 haveI hle:F.le (F.set a (Ge #[] e)):=Tb.Gf _ p;have r:c.P≠a:=λq=>by have:=st.11.2.2;rw[q,Tb.Jd]at this;exact ns this
 have k:H c.P=none:=by
  have:=st.11.1;unfold MH.set at this;split at this
  ·erw[ns this]
  ·erw[this]
 unfold ksk_tail;dsimp only;rw[u];erw[xc (mx (ws:=[]) st x akq (λzz zz=>trivial) λd l=>?_),xc (wpAny_letGo ?_),haveI j:=l.3 a _ (Tb.Jd ..);?_,xc (seqEpoch_at j rfl ?_),haveI i:out.toArray.size<=sizeLine:=ig (vs:=ws) (by rw[List.toList_toArray];exact m) w;?_,xc (listUpdate_at j rfl ?_ (Ta _) (by rw[Dc Na];exact Qc i))];rw[y];simp only[bne_self_eq_false,Bool.false_eq_true,if_false];erw[eE (⟨_,get?_update_seq j λzz=>out.toArray⟩:∃g,(d.heap.update a (Obj.mapSeq λzz=>out.toArray)).get? a=some (Ge out.toArray g)) λg B=>?_];haveI t:=Heap.SameBut.update d.heap a (Obj.mapSeq λzz=>out.toArray);have v:St c ((H.set kS (.list [])).set a (.list ws)) T F {d with heap:=d.heap.update a (Obj.mapSeq λzz=>out.toArray)}:=
  (l.Gk hle).put (λb G f q=>(t.2 b f).trans q) ⟨_,g,B,by rw[List.toList_toArray];exact m⟩ (l.6 a _ (Tb.Jd ..)) p r
 erw[yc (h _ (v.rR (λb o q=>?_) (by rw[Vk r];exact k)))];by_cases f:b=a
 ·subst f;rw[zi]at q⊢;exact q
 ·rw[Vk f]at q⊢;rw[Vk λz=>by rw[z,C]at q;cases q];exact q
inductive Qj (Df:List (List MV))(ws:List MV):Prop
 |mk (pm:ws.Perm (Df.map .tup)) (up:ws.Pairwise λx y=>∀a b,rowOf x=some a->rowOf y=some b->a.length<=b.length)
theorem Qj.short (h:Df.length<2):Qj Df (Df.map .tup):=
 ⟨.refl _,match Df,h with
  |[],_=>.nil|[u],_=>List.pairwise_singleton _ _⟩
theorem Qj.of (x:Pm Df.length p)(u:Up (λi=>(Df.getD i []).length) p Df.length):Qj Df (p.toList.map λi=>.tup (Df.getD i [])):=by
 refine⟨(x.2.map _).trans (.of_eq ?_),?_⟩
 ·erw[List.ext_getElem? λi=>?_];rw[za,za];erw[Or.elim (Nat.lt_or_ge i Df.length) (λh=>?_) (λh=>?_)]
  ·rw[List.getElem?_range h,Option.map_some,wa h,Ga,wa h];rfl
  ·rw[Tc h,Tc (by rw[Ca];exact h)];rfl
 ·rw[List.pairwise_map];erw[List.pairwise_iff_getElem.mpr λi j g f o a b m l=>?_];haveI e:∀(k:Nat)(d:k<p.toList.length),p.getD k 0=p.toList[k]:=λk d=>by
   haveI q:k<p.size:=by rw[<-Array.length_toList];exact d
   simp[Array.getD,q]
  haveI r:j<Df.length:=by rw[<-x.1,<-Array.length_toList];exact f
  haveI:=u.le (Ib o) r;rw[e i g,e j f]at this;rw[<-Aj m,<-Aj l];erw[this]
theorem XX (bs:Bs c mg mb)(U:kS≠a)(K:H a=none)(S:H kS=none)(O:F a=none)(hu:A.units+30<cLine)(w:Df.length<60)(hr:∀V∈Df,∃r,gf V=some r)(z:Ee c T (Df.map .tup) ys) (B:Ee c T (Df.map uk) ks) (st:St c (H.set kS (.list (Df.map uk))) T (F.set a (Ge #[] e)) s) (h:∀ws s',Qj Df ws->St c (H.set a (.list ws)) T F s'->R (.done (.ret .none)) s'):wpAny (ako c) A (ksk_end a false ys.toArray e (.ref kS) ks.toArray) R akn s:=by
 have l:ys.length=Df.length:=by rw[<-z.length,aa]
 have x:ks.length=ys.length:=by rw[<-B.length,aa,l]
 have M:(Df.map uk).length<big:=by rw[aa];exact ya w akq
 unfold ksk_end;dsimp only;rw[Dc Na,Dc Na];by_cases d:ys.toArray.size<2
 ·rw[Ec d,Ec d];erw[xc (yc ?_)];rw[StateT.run_pure];erw[xc (yc ?_)];dsimp only;erw[YB (ws:=Df.map .tup) (out:=ys) U K S O st M (by rw[aa];exact ya w akq) ?_ z rfl λs' o=>h _ s' (Qj.short (by rw[<-l];exact d)) o];show(ks.toArray.zip ys.toArray).map (·.2)=ys.toArray;apply Array.toList_inj.mp;rw[Array.toList_map,ksk_zip,List.toList_toArray,List.map_snd_zip (Ob x.symm)]
 ·rw[Dc d,Dc d];rw[List.size_toArray]at d;erw[Xf (kI (h:=s.heap) st.2 B) λfs Y X W=>(xc (kat_kind (T:=.type "int") Y (se 0x2efb312121011021c10 rfl (uc d) l X) (λv hv=>?_) rfl ?_))]
  ·erw[Iy v (W v hv) λi t=>(Looks.of_pure rfl)]
  rw[show(Value.type "int" !=Value.type "tuple")=true from rfl]
  refine xc (zc (kat_run (Q:=λu s'=>∃p:Array Nat,Pm Df.length p/\Up (λi=>(Df.getD i []).length) p Df.length/\arrOf u=p.map (kas_item (ks.toArray.zip ys.toArray))/\failedOf u=none/\
   St c (H.set kS (.list (Df.map uk))) T (F.set a (Ge #[] e)) s') (G:=λp s'=>Pm Df.length p/\Up (λi=>(Df.getD i []).length) p Df.length/\St c (H.set kS (.list (Df.map uk))) T (F.set a (Ge #[] e)) s') x (uc d) (je 0x402ce0b33c2ce1b101011 rfl l w) (λp u s' a1 a2 a3 J=>⟨p,J.1,J.2.1,a2,a3,J.2.2⟩)
   (Rh.wp (N:=Df.length) (g:=λi=>(Df.getD i []).length) (I:=λs'=>St c (H.set kS (.list (Df.map uk))) T (F.set a (Ge #[] e)) s') (Q:=λp=>Pm Df.length p/\Up (λi=>(Df.getD i []).length) p Df.length) (λi j s' C m hj o q=>UX bs B hr o hu m hj λb k d=>q b s' o k d) (λp s' k d=>⟨k.1,k.2,d⟩) (by rw[l];exact eI (je 0x1e31011021c10 rfl (uc d) l) λp k d=>⟨k,d⟩) st)) ?_ λzz zz f=>f)
  rintro⟨⟨⟩,u⟩ s' ⟨p,k,d,h3,h4,o⟩;dsimp only;erw[YB U K S O o M (by rw[aa,Array.length_toList,k.1];exact ya w akq) (kat_snds x h3) (Ee.mapped λi m=>?_) h4 λZ jf=>h _ Z (Qj.of k d) jf,have m:i<Df.length:=Mb (k.2.mem_iff.mp m);?_,Sd (z.get (v:=.tup (Df.getD i [])) (i:=i) (by rw[za,wa m,Ga,wa m];rfl)) λy e1 e2=>?_];haveI e:ys.getD i Value.none=y:=by rw[Ga,e1];rfl
  rw[e];exact e2
theorem pP (bs:Bs c mg mb)(z:Vq args Di x)(i:Pd c P n Di [x] Gn Jz)(o:xF (n+1) A)(B:En c T args Gn Di q)(O:kS≠a)(C:H a=none)(N:H kS=none)(l:F a=none)(v:Df.length<60) (t:∀d∈Df,d.length<big/\∃r,gf d=some r) (p:Ee c T (Df.map .tup) ys) (st:St c (H.set kS (.list [])) T (F.set a (Ge #[] e)) s)(h:∀ws g s',T.le g->Qj Df ws->St c (H.set a (.list ws)) g F s'->R (.done (.ret .none)) s'):wpAny (ako c) A (ksk_rest a (.ref q) false ys.toArray e (.ref kS)) R akn s:=by
 unfold ksk_rest;erw[xc (wpAny_rule ?_)];rw[List.forIn_toArray];erw[xc (jE bs z i o (λx s K I=>?_) Df [] ys T s p (λd j=>(t d j).1) B (by show 0+_<_;rw[bc];exact v) st λg s' m u=>?_)]
 ·erw[xc (wpAny_attempt (zc I (λk V J=>?_) λzz zz l=>l.elim))];dsimp only;erw[xc (zc J (λzz S M=>yc ⟨rfl,M⟩) λzz zz f=>f)]
 ·erw[xc (iE u zi λb r=>?_)];obtain⟨U⟩:=b;erw[XX bs O C N l (by haveI:=o.2.1;exact se 0x2e1e2c0bb32ebe2ce1b142d0bbb10 rfl this) v (λd j=>(t d j).2) (Ee.mono m _ _ p) r u λws y w G=>h ws g y m w G]
theorem qP (bs:Bs c mg mb)(U:Vq args Di x)(j:Pd c P n Di [x] Gn Jz)(O:xF (n+1) A)(V:En c T args Gn Di q)(k:H a=none)(G:F a=none)(M:Df.length<60) (W:∀B∈Df,B.length<big/\∃r,gf B=some r) (st:St c (H.set a (.list (Df.map .tup))) T F s)(h:∀ws J s',T.le J->Qj Df ws->St c (H.set a (.list ws)) J F s'->R (.done (.ret .none)) s'):wpAny (ako c) A (ksk_tree a (.ref q) false) R akn s:=by
 haveI f:(Df.map MV.tup).length<big:=by rw[aa];exact ya M akq
 haveI C:=st.4 _ _ zi;have y:c.P≠a:=λz=>by have:=st.11.1;rw[z,zi]at this;exact ns this
 have w:H c.P=none:=by haveI:=st.11.1;rwa[Vk y]at this
 unfold ksk_tree;erw[hide λZ K=>?_];obtain⟨⟨i⟩,m,e,u⟩:=st.lst zi;erw[K ?_];clear K;erw[xc (listItems_at e rfl ?_)];obtain⟨d,I⟩:∃d,(s.heap.update a (Obj.mapSeq λzz=>(#[]:Array Value))).get? a=some (Ge #[] d):=⟨_,get?_update_seq e λzz=>#[]⟩;haveI N:=Heap.SameBut.update s.heap a (Obj.mapSeq λzz=>(#[]:Array Value));erw[xc (listUpdate_at e rfl ?_ (ig u f) (Ta _))];haveI Y:St c ((H.set a (.list (Df.map .tup))).set a (.list [])) T F {s with heap:=s.heap.update a (Obj.mapSeq λzz=>(#[]:Array Value))}:=st.put (λb S f q=>(N.2 b f).trans q) ⟨_,d,I,trivial⟩ C G y;haveI l:St c H T (F.set a (Ge #[] d)) {s with heap:=s.heap.update a (Obj.mapSeq λzz=>(#[]:Array Value))}:=
  (Y.rR (λb o q=>by rw[jx,Vk λz=>by rw[z,k]at q;cases q];exact q) w).Fk I k y C
 generalize {s with heap:=s.heap.update a (Obj.mapSeq λzz=>(#[]:Array Value))}=s1 at l⊢;erw[xc (seqEpoch_at (l.3 a _ (Tb.Jd ..)) rfl ?_)];haveI t:i.length<=sizeLine:=by haveI:=ig u f;rwa[List.size_toArray]at this
 erw[xc (wpAny_newTuple ?_ t)];have g:=l.grow (s':={s1 with heap:=s1.heap.push {cls:=.type "tuple",data:=.seq i.toArray}}) λb o q=>Wc _ q;generalize {s1 with heap:=s1.heap.push {cls:=.type "tuple",data:=.seq i.toArray}}=s2 at g⊢;erw[xc (wpAny_newList ?_ (Ta _)),Bc ?_];haveI p:=de s2.heap;haveI v:s2.heap.objs.size≠a:=λz=>by rw[z,g.3 a _ (Tb.Jd ..)]at p;exact ns p
 haveI X:=g.new (ob:=Ge #[] 0) (o:=.list []) ⟨_,0,Xc _ rfl,trivial⟩ s2.toks;erw[pP bs U j O V v k (g.xw p) G M W u X h]
set_option tactic.hygienic true in
theorem mI (bs:Bs c mg mb)(N:Vq args Di x)(k:Pd c P n Di [x] Gn Jz)(M:xF (n+1) A.in1.in1)(W:A.handled=none)(O:En c T args Gn Di q)(st:St c H T F s)(r:VR c T v xv)(h:kG v H Q):wpAny (ako c) A (call (.builtin "sorted") [xv] [(Str.ofString "key",.ref q)]) (Cd c T F Q) akn s:=by
 erw[Sd (qj h) λp X h=>?_];subst X;erw[Yj (Pe h) λf G j B h=>?_];obtain⟨a,rfl,u⟩:∃a:List (List MV),f=a.map .tup/\∀g∈a,g.length<big/\∃r,gf g=some r:=by
  clear G h j
  induction f with
  |nil=>exact⟨[],rfl,λzz h=>nomatch h⟩|cons v f S=>
   erw[Qf f (S λx U=>B x (.tail _ U)) λa u=>(Sd (B v (.head _)) λr e V=>?_)];cases v<;>first|(exact nn e;done)|skip
   rename_i g;refine⟨g::a,rfl,λw t=>?_⟩;rcases xa t with rfl|t
   ·exact⟨by rw[Aj e];exact ya V akq,r,e⟩
   ·erw[u w t]
 rw[aa]at j;have I:(a.map MV.tup).length<big:=by rw[aa];exact ya j akq
 erw[call_function_entry_kw kind_sorted plain_sorted entry_sorted (ksk_s1 _ _) ?_];unfold Builtin.«sorted»;erw[xc (m:=checkCount "sorted" 1 1 _) (yc ?_),xc (um (A:=A.in1) W st r (by show(H p).bind MO.Pl=_;rw[G];rfl) I λd b i C=>?_),xc (wpAny_newList ?_ (by haveI:=ig (items:=d.toArray) (by rw[List.toList_toArray];exact C) I;rwa[List.size_toArray]at this)),haveI l:=de b.heap;?_,haveI R:=i.new (ob:=Ge d.toArray 0) (o:=.list (a.map .tup)) ⟨_,0,Xc _ rfl,by rw[List.toList_toArray];exact C⟩ b.toks;?_,haveI y:(b.heap.push (Ge d.toArray 0)).get? b.heap.objs.size=some (Ge d.toArray 0):=Xc _ rfl;?_,xc (Bc (wpAny_call_entry_kw slot_list_sort ⟨_,y,rfl⟩ entry_list_sort ?_ (ksk_l1 _ _)))];rw[ksk_t1];erw[qP bs N k M O (i.xw l) (i.cD l) j u R λK Z s' J z Y=>⟨_,rfl,yc ⟨_,rfl,?_⟩⟩,⟨.ref b.heap.objs.size,_,Z,J,Y,rfl,h K z.1 z.2 _ (i.xw l)⟩]
theorem rP (bs:Bs c mg mb)(lm:Y_ c mg)(I:eD sc=true)(g:Vq args Di x)(C:sc.names.lookup ("sorted":Str)=some .globalImplicit)(B:mg ("sorted":Str)=none)(w:mb ("sorted":Str)=some (.builtin "sorted"))(z:notStar e=true) (i:∀m,Pd c P m Di [x] Gn Jz) (G:Pd c P (n+1) sc nm e me):Pd c P (n+1) sc nm (.Call (.Name ("sorted":Str) p) [e] [⟨some (Str.ofString "key"),.Lambda args Gn Di c.pos,kp⟩] pos) (.P0 me):=by
 intro A d T F H L s Q b k lf st h;rw[arm_eval_Call_Name'];erw[xc (PB bs C akq B w k st ?_),haveI j:=zo z [] d;?_,callWith_kw ?_ (by rw[j];rfl) (by rw[j];rfl)];rw[j];erw[PySem.Calls.spliced_cons (zc (G A d T F H L s _ b k lf st h) (λa O p=>?_) λzz zz f=>f)];obtain⟨v,V,U,J,K,o,q⟩:=p;erw[PySem.Calls.spliced_nil (kws_cons (gI bs lm g.1 g.2 g.8 I k K λR S N l u t=>kws_nil ?_))];have hd:A.in1.in1.depth=A.depth:=by rw[Around.in1_depth,Around.in1_depth]
 have y:A.in1.in1.units=A.units+1+1:=by rw[Around.in1_units,Around.in1_units]
 erw[zc (mI (n:=n) bs g (i n) ⟨by rw[hd];have:=b.1;exact se 0x2e81ce1b41d0bbb32ea1ce1b41d0bbb10 rfl this,by rw[y];have:=b.2.1;exact se 0x2ebe2ce1b142dee0bbbbb32ec82ce1b142d0bbb10 rfl this,b.2.2⟩ b.2.2 t u (VR.mono l _ _ o) q) (λr M p=>p.up (aks J l)) λzz zz f=>f]
end
section
open W PyProof.Rows
variable {H H' : MH} {T T' F : Tb} {Q : MV → MH → Prop} {E : Value → Shared → Prop}
theorem bL (h:(a&&b)=true):a=true:=((Da a b).mp h).1
theorem bR (h:(a&&b)=true):b=true:=((Da a b).mp h).2
theorem bO (h:(a||b)=true):a=true\/b=true:=(Rb a b).mp h
@[elab_as_elim] theorem oE {b:Type}{C:Option b->Prop}(o:Option b)(d:o=none->C none)(c:∀a,o=some a->C (some a)):C o:=by
 cases o with
 |none=>exact d rfl|some a=>exact c a rfl
structure Gx where
 fns:List (Str×Nat)
 cls:List (Str×Nat)
 qx:List (Str×Nat)
 nums:List (Str×Int)
 sx:List Str
 fld:Nat->Bool
 mn:List Str
 nI:Pos
def idx (l:List Str)(x:Str):Option Nat:=l.findIdx? (·==x)
theorem Mi (h:idx l x=some i):l[i]?=some x:=by unfold idx at h;rw[List.findIdx?_eq_some_iff_getElem]at h;obtain⟨b,a,_⟩:=h;refine Er (wa b) ?_;exact Er (ub a) rfl
def rx {α:Type}(o:Option α)(f:α->ME):ME:=match o with
 |some a=>f a|none=>.bad
def ux (b:Bool)(e:ME):ME:=match b with
 |true=>e|false=>.bad
def aw {α:Type}(o:Option α)(f:α->MS):MS:=match o with
 |some a=>f a|none=>.bad
def mE (b:Bool)(e:MS):MS:=match b with
 |true=>e|false=>.bad
def qf (c:Cx)(P:Pg)(n:Nat)(sc:Scope)(nm:List Str)(pe:Expr)(me:ME):Prop:=Pd c P n sc nm pe me/\ui c P n sc nm pe me
theorem vg:qf c P n sc nm e .bad:=⟨λ_ _ _ _ _ _ _ _ _ _ _ _ h=>False.elim h,λ_ _ _ _ _ _ _ _ _ _ _ _ h=>False.elim h⟩
theorem Vf (h:∀a,o=some a->qf c P n sc nm e (f a)):qf c P n sc nm e (rx o f):=by
 cases o with
 |none=>exact vg|some a=>exact h a rfl
theorem dh (h:b=true->qf c P n sc nm e m):qf c P n sc nm e (ux b m):=by
 cases b with
 |false=>exact vg|true=>exact h rfl
theorem set_plain (a:yl e=true)(h:Pd c P n sc nm e m):qf c P n sc nm e m:=⟨h,DB (isTrue_plain a) h⟩
theorem Yu:uh c P n sc nm e .bad:=λ_ _ _ _ _ _ _ _ _ _ _ _ h=>False.elim h
theorem lg (h:∀a,o=some a->uh c P n sc nm e (f a)):uh c P n sc nm e (aw o f):=by
 cases o with
 |none=>exact Yu|some a=>exact h a rfl
theorem Zh (h:b=true->uh c P n sc nm e m):uh c P n sc nm e (mE b m):=by
 cases b with
 |false=>exact Yu|true=>exact h rfl
def Fh (cell:Bool)(sc:Scope)(nm:List Str)(x:Str):Option Nat:=match sc.names.lookup x with
 |some .local=>idx nm x|some .cell=>if cell then idx nm x else none
 |_=>none
theorem Rj (h:Fh b sc nm x=some i):nm[i]?=some x/\(sc.names.lookup x=some .local\/(b=true/\sc.names.lookup x=some .cell)):=by
 unfold Fh at h;cases e:sc.names.lookup x with
 |none=>haveI h:=e▸h;exact nn h
 |some k=>
  rw[e]at h;cases k<;>first|(exact nn h;done)|skip
  ·exact⟨Mi h,.inl rfl⟩
  ·cases b with
   |true=>exact⟨Mi h,.inr ⟨rfl,rfl⟩⟩|false=>exact nn h
def pick {α:Type}(i n:Nat)(f:i=n->α):Option α:=if h:i=n then some (f h)else none
theorem wg (h:pick i n f=some a):∃k,f k=a:=
 if k:i=n then⟨k,oa ((dif_pos k).symm.trans h)⟩else nomatch (dif_neg k).symm.trans h
def sR (e:Expr)(i:e.ctorIdx=23):Str:=Expr.Name.elim (motive_1:=λ_=>Str) e i λx _=>x
def nameOf (e:Expr):Option (Str):=pick e.ctorIdx 23 (sR e)
theorem ng (h:nameOf e=some x):∃p,e=.Name x p:=by obtain⟨i,rfl⟩:=wg h;erw[Expr.Name.elim (motive_1:=λe=>∀i,∃p,e=.Name (sR e i) p) e i (λ_ _ _=>⟨_,rfl⟩) i]
def D5 (e:Expr)(i:e.ctorIdx=25):List Expr:=Expr.Tuple.elim (motive_1:=λ_=>List Expr) e i λx _ _=>x
def Xq (e:Expr):Option (List Expr):=pick e.ctorIdx 25 (D5 e)
theorem Bl (h:Xq e=some x):∃k p,e=.Tuple x k p:=by obtain⟨i,rfl⟩:=wg h;erw[Expr.Tuple.elim (motive_1:=λe=>∀i,∃k p,e=.Tuple (D5 e i) k p) e i (λ_ _ _ _=>⟨_,_,rfl⟩) i]
def ZB (e:Expr)(i:e.ctorIdx=20):Expr×Str×Pos:=Expr.Attribute.elim (motive_1:=λ_=>Expr×Str×Pos) e i λo x p=>(o,x,p)
def Go (e:Expr):Option (Expr×Str×Pos):=pick e.ctorIdx 20 (ZB e)
theorem zm (h:Go e=some x):e=.Attribute x.1 x.2.1 x.2.2:=by obtain⟨i,rfl⟩:=wg h;erw[Expr.Attribute.elim (motive_1:=λe=>∀i,e=.Attribute (ZB e i).1 (ZB e i).2.1 (ZB e i).2.2) e i (λ_ _ _ _=>rfl) i]
def pI (e:Expr)(i:e.ctorIdx=4):Arguments×Expr×Scope×Pos:=Expr.Lambda.elim (motive_1:=λ_=>Arguments×Expr×Scope×Pos) e i λa b s p=>(a,b,s,p)
def tR (e:Expr):Option (Arguments×Expr×Scope×Pos):=pick e.ctorIdx 4 (pI e)
theorem nE (h:tR e=some x):e=.Lambda x.1 x.2.1 x.2.2.1 x.2.2.2:=by obtain⟨i,rfl⟩:=wg h;erw[Expr.Lambda.elim (motive_1:=λe=>∀i,e=.Lambda (pI e i).1 (pI e i).2.1 (pI e i).2.2.1 (pI e i).2.2.2) e i (λ_ _ _ _ _=>rfl) i]
def wx (e:Expr)(i:e.ctorIdx=16):Expr×List Expr×List Keyword×Pos:=Expr.Call.elim (motive_1:=λ_=>Expr×List Expr×List Keyword×Pos) e i λa b s p=>(a,b,s,p)
def qI (e:Expr):Option (Expr×List Expr×List Keyword×Pos):=pick e.ctorIdx 16 (wx e)
theorem Mz (h:qI e=some x):e=.Call x.1 x.2.1 x.2.2.1 x.2.2.2:=by obtain⟨i,rfl⟩:=wg h;erw[Expr.Call.elim (motive_1:=λe=>∀i,e=.Call (wx e i).1 (wx e i).2.1 (wx e i).2.2.1 (wx e i).2.2.2) e i (λ_ _ _ _ _=>rfl) i]
def Yq (e:Expr)(i:e.ctorIdx=26):Option Expr×Option Expr×Option Expr×Pos:=Expr.Slice.elim (motive_1:=λ_=>Option Expr×Option Expr×Option Expr×Pos) e i λa b s p=>(a,b,s,p)
def sliceOf (e:Expr):Option (Option Expr×Option Expr×Option Expr×Pos):=pick e.ctorIdx 26 (Yq e)
theorem xx (h:sliceOf e=some x):e=.Slice x.1 x.2.1 x.2.2.1 x.2.2.2:=by obtain⟨i,rfl⟩:=wg h;erw[Expr.Slice.elim (motive_1:=λe=>∀i,e=.Slice (Yq e i).1 (Yq e i).2.1 (Yq e i).2.2.1 (Yq e i).2.2.2) e i (λ_ _ _ _ _=>rfl) i]
def slotsOf (b:Bool)(sc:Scope)(nm:List Str):List Expr->Option (List Nat)
 |[]=>some []|e::r=>(nameOf e).bind λx=>(Fh b sc nm x).bind λi=>(slotsOf b sc nm r).map (i::·)
theorem Zq (h:slotsOf b sc nm (e::r)=some is):∃x p i a,e=.Name x p/\Fh b sc nm x=some i/\slotsOf b sc nm r=some a/\is=i::a:=by erw[Sd (fb h) λx k j=>(Sd (fb j) λi g f=>(Sd (Ia f) λa d c=>(Xh e (ng k) λp=>⟨x,p,i,a,rfl,g,d,c.symm⟩)))]
def yx (b:Bool)(sc:Scope)(nm:List Str)(e:Expr):Option Tg:=match nameOf e with
 |some x=>(Fh b sc nm x).map .one|none=>(Xq e).bind λes=>(slotsOf b sc nm es).map .many
theorem zx (h:yx b sc nm e=some t):(∃x p i,e=.Name x p/\Fh b sc nm x=some i/\t=.one i)\/∃a k p is,e=.Tuple a k p/\slotsOf b sc nm a=some is/\t=.many is:=by
 unfold yx at h;cases hn:nameOf e with
 |some x=>
  rw[hn]at h;have h:=h;erw[Sd (Ia h) λi d c=>(Xh e (ng hn) λp=>(.inl ⟨x,p,i,rfl,d,c.symm⟩))]
 |none=>
  rw[hn]at h;erw[hide λl f=>?_];obtain⟨a,d,c⟩:=fb h;erw[f ?_];clear f;erw[Sd (Ia c) λis j g=>(Iy e (Bl d) λk p=>(.inr ⟨a,k,p,is,rfl,j,g.symm⟩))]
theorem Ho (h:Fh false sc nm x=some i):nm[i]?=some x/\sc.names.lookup x=some .local:=
 ⟨(Rj h).1,(Rj h).2.resolve_right λh=>Bool.noConfusion h.1⟩
theorem sP:∀{a:List Expr}{is:List Nat},slotsOf false sc nm a=some is->kj sc nm a is:=by
 intro l
 induction l with
 |nil=>
  intro _ h;erw[Es ((oa h)) .nil]
 |cons _ _ b=>
  intro _ h;obtain⟨x,p,i,e,rfl,d,c,rfl⟩:=Zq h;erw[.cons ⟨x,p,rfl,Ho d⟩ (b c)]
theorem Tp (h:yx false sc nm e=some t):Bp sc nm e t:=by
 rcases zx h with⟨x,p,i,rfl,a,rfl⟩|⟨b,k,p,is,rfl,a,rfl⟩
 ·exact⟨x,p,rfl,Ho a⟩
 ·exact⟨b,k,p,rfl,sP a⟩
theorem Vp (h:Fh true sc nm x=some i):Qq sc nm (.Name x p) i:=⟨x,p,rfl,(Rj h).1,(Rj h).2.imp id (·.2)⟩
theorem Ax:∀{a:List Expr}{is:List Nat},slotsOf true sc nm a=some is->Nh sc nm a is:=by
 intro l
 induction l with
 |nil=>
  intro _ h;erw[Es ((oa h)) .nil]
 |cons _ _ b=>
  intro _ h;obtain⟨x,p,i,e,rfl,d,c,rfl⟩:=Zq h;erw[.cons (Vp d) (b c)]
theorem E5 (h:yx true sc nm e=some t):NO sc nm e t:=by
 rcases zx h with⟨x,p,i,rfl,a,rfl⟩|⟨b,k,p,is,rfl,a,rfl⟩
 ·erw[Vp a]
 ·exact⟨b,k,p,rfl,Ax a⟩
def Gh (He:Scope):List Str:=(He.names.filter λp=>p.2==.local||p.2==.free).map (·.1)
def Bx (nm:List Str)(He:Scope):List (Option Nat):=(Gh He).map λx=>if He.names.lookup x=some .free then idx nm x else none
def Io:List Str->Bool
 |[]=>true|x::r=>!(r.any (·==x))&&Io r
theorem Jo:∀{l:List Str},Io l=true->l.Nodup:=by
 intro l
 induction l with
 |nil=>
  intro _;erw[.nil]
 |cons x r a=>
  intro h;haveI h:(!(r.any (·==x))&&Io r)=true:=h;rw[Da,Ra,List.any_eq_false]at h;have h:=h;erw[List.nodup_cons.mpr ⟨λb=>h.1 x b (Pa x),a h.2⟩]
def Zu (sc:Scope)(nm:List Str)(He:Scope)(sl:List Nat):Bool:=
 He.kind==.function&&He.names.all (λx=>x.2 !=.cell)&&He.names.all (λx=>x.2 !=.local||He.names.lookup x.1==some .local)&&
 He.names.all (λx=>x.2 !=.free||sc.names.lookup x.1==some .cell||sc.names.lookup x.1==some .free)&&Io (Gh He)&&
 (Gh He).all (λx=>if He.names.lookup x=some .free then(idx nm x).isSome else He.names.lookup x==some .local)&&sl.all (λj=>(Bx nm He)[j]?==some none)&&!eD He
theorem Ko {d:List Nat}(h:Zu sc nm He d=true):Fo sc nm He (Gh He) (Bx nm He) d:=by
 have n:=bL h;have m:=bL n;have l:=bL m;have k:=bL l;have g:=bL k;have f:=bL g;refine⟨ub (bL f),λx a=>bne_iff_ne.mp (Ja (bR f) x a),λx a e=>(ub ((bO (Ja (bR g) x a)).resolve_left λq=>bne_iff_ne.mp q e)),λx a e=>((bO (Ja (bR k) x a)).imp (λq=>ub ((bO q).resolve_left λq=>bne_iff_ne.mp q e)) ub),Jo (bR l),(aa ..).symm,λj x o c p=>?_,λj c=>ub (Ja (bR n) j c),(Ra _).mp (bR h)⟩
 ·haveI b:=Ja (bR m) x (Eb c);haveI e:=(za.symm.trans p:Option.map _ _=some o);rw[c]at e;erw[Es (oa e) ?_];dsimp only;by_cases hf:He.names.lookup x=some .free
  ·rw[Ec hf]at b⊢;erw[oE (C:=λo=>o.isSome=true->match o with|some i=>nm[i]?=some x/\He.names.lookup x=some .free|none=>He.names.lookup x=some .local) (idx nm x) (λzz q=>nomatch q) (λi e q=>⟨Mi e,hf⟩) b]
  ·rw[Dc hf]at b⊢;erw[ub b]
def dunder (x:Str):Bool:=(x==("__debug__":Str))||(x==("__classdict__":Str))
theorem Bj (h:dunder x=false):(x==("__debug__":Str))=false/\(x==("__classdict__":Str))=false:=(Bool.or_eq_false_iff).mp h
def uR (G:Gx)(sc:Scope)(nm:List Str)(x:Str):ME:=ux (!dunder x) (
 match sc.names.lookup x with
 |some .globalImplicit=>rx (G.nums.lookup x) λi=>.cst (.int i)|some .globalExplicit=>.bad|none=>.bad|some _=>rx (idx nm x) λi=>.loc i)
def rI (G:Gx)(v:Const):ME:=
 match v with
 |.none=>.cst .none|.bool b=>.cst (.bool b)|.int i=>.cst (.int i)|.str x=>rx (idx G.sx x) λi=>.cst (.str i)|_=>.bad
def sI (G:Gx)(sc:Scope)(x:Str)(as:qh):ME:=ux (!dunder x&&sc.names.lookup x==some .globalImplicit) (
 match G.fns.lookup x with
  |some f=>.fn f as|none=>(match G.cls.lookup x with
   |some k=>.new k as|none=>rx (G.qx.lookup x) λb=>.blt b as))
def vR (m:ME):Option MV:=@ME.casesOn (λ_=>Option MV) m none (λv=>some v) (λ_=>none) (λ_ _ _=>none) (λ_=>none) (λ_=>none) (λ_ _ _=>none) (λ_ _=>none) (λ_ _=>none) (λ_ _ _=>none) (λ_ _=>none) (λ_ _=>none) (λ_ _ _=>none) (λ_ _=>none) (λ_ _=>none) (λ_ _ _=>none) (λ_=>none) (λ_=>none) (λ_ _=>none) (λ_ _=>none) (λ_ _ _ _ _=>none) (λ_ _ _ _ _ _=>none) (λ_ _ _ _ _=>none) (λ_=>none)
theorem pE (h:vR m=some v):m=.cst v:=by cases m<;>first|exact nn h|exact Fc ME.cst (oa h)
def keysOf (f:Expr->ME):List (Option Expr)->Option (List MV)
 |[]=>some []|o::r=>o.bind λe=>(vR (f e)).bind λv=>(keysOf f r).map (v::·)
def xR (f:Scope->List Str->Expr->ME)(sc:Scope)(nm:List Str)(elt:Expr)(gens:List Comprehension)(He:Scope):ME:=
 match gens with
 |[]=>.bad|g::r=>rx (yx false (Eh sc He) (Gh He) g.target) λt=>ux (g.is_async==0&&!gg g.iter) (match r with
  |[]=>ux (Zu sc nm He t.slots) (.comp (Bx nm He) t (f sc nm g.iter) (qh.of (g.ifs.map (f (Eh sc He) (Gh He)))) (f (Eh sc He) (Gh He) elt))|g2::r2=>rx (yx false (Eh sc He) (Gh He) g2.target) λt2=>ux (g.ifs.isEmpty&&g2.ifs.isEmpty&&r2.isEmpty&&g2.is_async==0&&!gg g2.iter&&Zu sc nm He (t.slots++t2.slots)&&t2.slots.all λj=>!(t.slots.contains j))
   (.Qs (Bx nm He) t (f sc nm g.iter) t2 (f (Eh sc He) (Gh He) g2.iter) (f (Eh sc He) (Gh He) elt)))
def tI (f:Scope->List Str->Expr->ME)(sc:Scope)(nm:List Str)(kx vx:Expr)(gens:List Comprehension)(He:Scope):ME:=
 match gens with
 |[]=>.bad|g::r=>rx (yx false (Eh sc He) (Gh He) g.target) λt=>ux (g.is_async==0&&!gg g.iter&&g.ifs.isEmpty&&r.isEmpty&&Zu sc nm He t.slots)
  (.sw (Bx nm He) t (f sc nm g.iter) (f (Eh sc He) (Gh He) kx) (f (Eh sc He) (Gh He) vx))
def Nz {α:Type}(l:List α):Option α:=@List.casesOn α (λ_=>Option α) l none λa r=>bif r.isEmpty then some a else none
theorem Xk (h:Nz l=some a):l=[a]:=by
 cases l with
 |nil=>exact nn h|cons b r=>
  cases r with
  |nil=>exact Er ((oa h)) rfl|cons _ _=>exact nn h
def tP {α:Type}(l:List α):Option (α×α):=@List.casesOn α (λ_=>Option (α×α)) l none λa r=>(Nz r).map λb=>(a,b)
theorem br (h:tP l=some a):l=[a.1,a.2]:=by
 cases l with
 |nil=>exact nn h|cons b r=>refine Ef a (Ia h) λd e=>?_;exact Er (Xk e) rfl
def bC (x:Str)(Di:Scope)(e:Expr):Bool:=
 S3 ((Xq e).bind tP) λt=>S3 (qI t.1) λq=>S3 (Nz q.2.1) λy=>
  nameOf q.1==some ("len":Str)&&q.2.2.1.isEmpty&&nameOf y==some x&&nameOf t.2==some x&&Di.names.lookup ("len":Str)==some .globalImplicit&&!dunder x
def cC (a:Arguments)(s:Scope)(x:Str):Bool:=
 a.defaults.isEmpty&&a.kw_defaults.isEmpty&&a.posonlyargs.isEmpty&&a.vararg.isNone&&a.kwonlyargs.isEmpty&&a.kwarg.isNone&&a.args.map (·.arg)==[x]&&s.names.all (λy=>y.2 !=.free&&y.2 !=.cell)&&
 s.names.lookup x==some .local&&s.kind==.function&&!s.isCoroutine&&!s.isGenerator&&!eD s
theorem Oz (h:cC a s x=true):Vq a s x:=by have l:=bL h;have k:=bL l;have j:=bL k;have i:=bL j;have c:=bL i;have g:=bL c;have f:=bL g;have e:=bL f;have d:=bL e;have m:=bL d;have n:=bL m;exact⟨isEmpty_iff.mp (bL n),isEmpty_iff.mp (bR n),isEmpty_iff.mp (bR m),Option.isNone_iff_eq_none.mp (bR d),isEmpty_iff.mp (bR e),Option.isNone_iff_eq_none.mp (bR f),ub (bR g),λy b=>bne_iff_ne.mp (bL (Ja (bR c) y b)),λy b=>bne_iff_ne.mp (bR (Ja (bR c) y b)),ub (bR i),ub (bR j),(Ra _).mp (bR k),(Ra _).mp (bR l),(Ra _).mp (bR h)⟩
def F5 (G:Gx)(f:Expr->ME)(sc:Scope)(fe:Expr)(vi:List Expr)(uI:List Keyword):ME:=
 rx (Nz uI) λk=>rx (tR k.value) λl=>rx (Nz (l.1.args.map (·.arg))) λx=>rx (Nz vi) λe=>
  ux (k.arg==some (Str.ofString "key")&&nameOf fe==some ("sorted":Str)&&sc.names.lookup ("sorted":Str)==some .globalImplicit&&notStar e&&eD sc&&l.2.2.2==G.nI&&G.qx.lookup ("sorted":Str)==some 4&&G.qx.lookup ("len":Str)==some 0&&
   cC l.1 l.2.2.1 x&&bC x l.2.2.1 l.2.1) (.P0 (f e))
def vI (G:Gx)(f:Expr->ME)(sc:Scope)(fe:Expr)(vi:List Expr)(uI:List Keyword)(pos:Pos):ME:=
 if uI.isEmpty then ux (vi.all notStar) (match nameOf fe with
  |some x=>sI G sc x (qh.of (vi.map f))|none=>rx (Go fe) λa=>rx (idx G.mn a.2.1) λm=>ux (gn a.1&&a.2.2.endLine==pos.line&&decide (vi.length<30)) (.Kg (f a.1) m (qh.of (vi.map f))))
 else F5 G f sc fe vi uI
def cBool (f:Expr->ME)(o:BoolOp):List Expr->ME
 |[]=>.bad|e::r=>match r with
  |[]=>f e|_::_=>match o with
   |.And=>.and (f e) (cBool f o r)|.Or=>.or (f e) (cBool f o r)
def yR (f:Expr->ME)(ks:List (Option Expr))(vs:List Expr):ME:=
 match ks with
 |[]=>(match vs with|[]=>.qq .nil .nil|_::_=>.bad)
 |_::_=>rx (keysOf f ks) λxd=>ux (decide (ks.length<=15)&&ks.length==vs.length&&(vs.map f).all tt) (.qq (qh.of (xd.map .cst)) (qh.of (vs.map f)))
def cO (f:Expr->ME):Option Expr->ME
 |none=>.cst .none|some e=>f e
def wI (f:Expr->ME)(o i:Expr):ME:=match sliceOf i with
 |some s=>ux s.2.2.1.isNone (.slice (f o) (cO f s.1) (cO f s.2.1))|none=>.sub (f o) (f i)
def G5 (f:Expr->ME)(l:Expr)(os:List CmpOp)(rs:List Expr):ME:=match os with
 |[]=>.bad|o::os=>match rs with
  |[]=>.bad|r::rs=>ux (os.isEmpty&&rs.isEmpty&&!gg r) (.cmp o (f l) (f r))
def cUn (o:UnaryOp)(m:ME):ME:=match o with
 |.USub=>.neg m|.Not=>.not m|_=>.bad
def cE (G:Gx)(k:Nat):Scope->List Str->Expr->ME:=Nat.rec (λ_ _ _=>.bad) (λ_ r sc nm e=>@Expr.casesOn (λ_=>ME) e (λo es _=>cBool (r sc nm) o es) (λ_ _ _=>.bad) (λl o q _=>.bin o (r sc nm l) (r sc nm q)) (λo e _=>cUn o (r sc nm e)) (λ_ _ _ _=>.bad) (λt a b _=>.ite (r sc nm t) (r sc nm a) (r sc nm b)) (λks vs _=>yR (r sc nm) ks vs) (λ_ _ _=>.bad) (λelt gens He _=>xR r sc nm elt gens He) (λ_ _ _ _=>.bad) (λkx vx gens He _=>tI r sc nm kx vx gens He) (λ_ _ _ _=>.bad) (λ_ _=>.bad) (λ_ _=>.bad) (λ_ _=>.bad) (λl os rs _=>G5 (r sc nm) l os rs) (λfe vi uI pos=>vI G (r sc nm) sc fe vi uI pos) (λ_ _ _ _=>.bad) (λ_ _=>.bad) (λv _ _=>rI G v) (λo x _=>rx (idx G.sx x) λf=>ux (gn o&&G.fld f) (.attr (r sc nm o) f)) (λo i _=>wI (r sc nm) o i) (λ_ _=>.bad) (λx _=>uR G sc nm x) (λes _=>ux (es.all notStar) (.lst (qh.of (es.map (r sc nm))))) (λes _ _=>ux (es.all notStar) (.tup (qh.of (es.map (r sc nm))))) (λ_ _ _ _=>.bad)) k
end
section
open W PyProof.Rows
variable {H H' : MH} {T T' F : Tb} {Q : MV → MH → Prop} {E : Value → Shared → Prop} {c : Cx} {mg mb : Str → Option Value} {s : Shared} {nm : List Str} {n : Nat} {A : Around} {P : Pg} {sc : Scope} {env : Env} {L : List MV} {D : Dx}
inductive BF (c:Cx)(P:Pg)(D:Dx)(G:Gx)(mg mb:Str->Option Value):Prop
 |mk (bs:Bs c mg mb) (kb:Kb c D P.Zf P.th) (h4:c.sx[4]?=some ("0":Str)) (fns:∀x f,G.fns.lookup x=some f->mg x=some (.ref (D.fa f))/\Kp c (.ref (D.fa f))) (cls:∀x k,G.cls.lookup x=some k->mg x=some (.ref (c.cls k))/\Kp c (.ref (c.cls k))) (qx:∀x b,G.qx.lookup x=some b->mg x=none/\∃fv,Bo b=some (x,fv)/\mb x=some fv) (nums:∀x i,G.nums.lookup x=some i->∃t,mg x=some (.int i t)) (sx:c.sx=G.sx) (fld:D.fld=G.fld) (mn:∀m x,G.mn[m]?=some x->D.mn m=x) (kp:∀k m f,P.Zf k m=some f->Kp c (.ref (D.fa f))) (nI:c.pos=G.nI) (lm:Y_ c mg)
theorem av {b:Type}{X:ME->Prop}{o:Option b}{f:b->ME}(d:X .bad)(h:∀a,o=some a->X (f a)):X (rx o f):=by
 cases o with
 |none=>exact d|some a=>exact h a rfl
theorem Wp {X:ME->Prop}{b:Bool}{m:ME}(a:X .bad)(h:b=true->X m):X (ux b m):=by
 cases b with
 |false=>exact a|true=>exact h rfl
theorem xI (d:∀e,qf c P n sc nm e (f e)):∀a:List Expr,a.all notStar=true->wj c P n sc nm a (qh.of (a.map f)):=by
 intro l
 induction l with
 |nil=>
  intro _;erw[vn]
 |cons e r b=>
  intro h;rw[all_cons,Da]at h;have h:=h;erw[Ci h.1 (d e).1 (b h.2)]
theorem I5 (d:∀e,qf c P n sc nm e (f e)):∀a:List Expr,Pj c P n sc nm a (qh.of (a.map f)):=by
 intro l
 induction l with
 |nil=>
  erw[.nil]
 |cons e r b=>
  erw[.cons (d e).2 (b)]
theorem Ex (a:∀e,qf c P n sc nm e (f e)):∀d:List Expr,qf c P n sc nm (.BoolOp o d pos) (cBool f o d)
 |[]=>vg|[e]=>⟨λA env T F H L s Q g i lf st h=>(a e).1 A env T F H L s Q g i lf st h,cH (a e).2⟩|e::j::r=>by
  have b:=Ex a (o:=o) (pos:=pos) (j::r);cases o with
  |And=>exact⟨DO (a e).1 b.1,dH (a e).2 b.2⟩|Or=>exact⟨pX (a e).1 b.1,BO (a e).2 b.2⟩
theorem yI (b:∀e,qf c P n sc nm e (f e)):∀(ks:List (Option Expr))(vs:List Expr)(a:List MV),keysOf f ks=some a->ks.length=vs.length->(vs.map f).all tt=true->gp c P n sc nm ks vs a (vs.map f)
 |[],[],_,h,_,_=>by exact Es ((oa h)) .nil
 |[],_::_,_,_,h,_=>by exact Xi Nat.ctorIdx h rfl
 |_::_,[],_,_,h,_=>by exact Xi Nat.ctorIdx h rfl
 |o::r,v::t,a,h,g,d=>by
  erw[Qf o (fb h) λe k=>(Sd (fb k) λw j i=>(Ef a (Ia i) λws h4=>?_))];rw[yb,all_cons,Da]at d;erw[.cons (by haveI:=(b e).1;rwa[pE j]at this) (b v).1 d.1 (yI b r t ws h4 (Nat.succ.inj g) d.2)]
def yt (c:Cx)(P:Pg)(n:Nat)(sc:Scope)(nm:List Str)(e:Expr)(me:ME):Prop:=me=.bad\/∃run,ym c P n sc nm run me/\(∀env,eval e env=run env none)/\∀env u,evalThenUse e env u=(run env (some u)>>=λ_=>pure ())
theorem yt.set (a:yl e=true)(h:yt c P n sc nm e me):qf c P n sc nm e me:=by
 rcases h with rfl|⟨run,h,he,_⟩
 ·erw[vg]
 ·erw[set_plain a (YH h he)]
theorem Fx (bs:Bs c mg mb){f:Scope->List Str->Expr->ME}(b:∀sc nm e,qf c P n sc nm e (f sc nm e)){h:Expr}{gens:List Comprehension}{p:Scope}{pos:Pos}:yt c P n sc nm (.ListComp h gens p pos) (xR f sc nm h gens p):=by
 cases gens with
 |nil=>exact .inl rfl|cons g r=>
  erw[av (.inl rfl) λt m=>Wp (.inl rfl) λo=>?_];obtain⟨I,l,i,a⟩:=g;simp only[Da,Zc,Ra]at o;erw[rF a o λk=>?_];cases r with
  |nil=>
   erw[Wp (.inl rfl) λd=>.inr ⟨_,YD bs (Ko d) k (b _ _ _).1 (Tp m) (I5 (b _ _) i) (b _ _ _).1,λ_=>rfl,λ_ _=>rfl⟩]
  |cons g2 B=>
   erw[av (.inl rfl) λz x=>Wp (.inl rfl) λd=>?_];obtain⟨C,J,w,G⟩:=g2;simp only[Da,Zc,Ra,isEmpty_iff,all_eq_true]at d;obtain⟨⟨⟨⟨⟨⟨rfl,rfl⟩,rfl⟩,rfl⟩,y⟩,d⟩,v⟩:=d;erw[.inr ⟨_,WH bs (Ko d) k y (λj u q=>by haveI:=v j u;rw[List.contains_iff_mem.mpr q]at this;exact tf this) (b _ _ _).1 (Tp m) (Tp x) (b _ _ _).1 (b _ _ _).1,λ_=>rfl,λ_ _=>rfl⟩]
theorem At (bs:Bs c mg mb){f:Scope->List Str->Expr->ME}(d:∀sc nm e,qf c P n sc nm e (f sc nm e)){i h:Expr}{gens:List Comprehension}{l:Scope}{pos:Pos}:yt c P n sc nm (.DictComp i h gens l pos) (tI f sc nm i h gens l):=by
 cases gens with
 |nil=>exact .inl rfl|cons g r=>
  erw[av (.inl rfl) λt p=>Wp (.inl rfl) λk=>?_];obtain⟨w,j,b,a⟩:=g;simp only[Da,Zc,Ra,isEmpty_iff]at k;erw[eA k λu q=>(Ak r u λv=>(Ak b v λo=>(rF a o λm=>(.inr ⟨_,ZD bs (Ko q) m (d _ _ _).1 (Tp p) (d _ _ _).1 (d _ _ _).1,λ_=>rfl,λ_ _=>rfl⟩))))]
theorem qE (a:c.sx=G.sx):qf c P n sc nm (.Constant v k pos) (rI G v):=by
 cases v<;>first|exact vg|exact set_plain rfl nG|exact set_plain rfl oG|exact set_plain rfl mO|skip
 erw[Vf λi h=>set_plain rfl (nO (Er a (Mi h)))]
theorem zI (g:BF c P D G mg mb):qf c P n sc nm (.Name x pos) (uR G sc nm x):=by
 erw[dh λd=>?_];rw[Ra]at d;erw[eA (Bj d) λa b=>?_];cases e:sc.names.lookup x with
 |none=>exact vg|some k=>
  cases k<;>first|exact vg|skip
  ·erw[Vf λi h=>set_plain rfl (Um (Mi h) a b (.inl e))]
  ·erw[Vf λi h=>set_plain rfl (Um (Mi h) a b (.inr (.inl e)))]
  ·erw[Vf λi h=>set_plain rfl (Um (Mi h) a b (.inr (.inr e)))]
  ·erw[Vf λi h=>(eE (g.7 x i h) λt f=>(set_plain rfl (pG g.1 e a f)))]
theorem Ni {f:Expr}{a:List Expr}{ks:List Keyword}{p:Pos}:yl (.Call f a ks p)=true:=by cases a<;>rfl
theorem rE (g:BF c P D G mg mb)(l:bh c P D n)(e:vi.all notStar=true)(d:wj c P n sc nm vi Yo):qf c P n sc nm (.Call (.Name x p) vi [] pos) (sI G sc x Yo):=by
 erw[dh λa=>?_];rw[Da,Ra,Zc]at a;erw[eA a λa i=>(eA (Bj a) λj u=>?_)];cases e1:G.fns.lookup x with
 |some f=>exact set_plain Ni (GX g.1 l (g.4 x f e1).2 i j (g.4 x f e1).1 e d)|none=>
  cases e2:G.cls.lookup x with
  |some k=>exact set_plain Ni (WO g.1 g.2 rfl l (g.5 x k e2).2 i j (g.5 x k e2).1 e d)|none=>
   erw[Vf λb h=>(HW (g.6 x b h) λq t r=>(eA r λo m=>(set_plain Ni (QB g.1 g.3 o i j q m e d))))]
theorem uP (g:BF c P D G mg mb)(M:G.qx.lookup ("len":Str)=some 0)(b:Di.names.lookup x=some .local)(h:bC x Di e=true)(m:Nat):Pd c P m Di [x] e Jz:=by erw[Sd (Np h) λt K h=>(Sd (Np h) λq J h=>(Sd (Np h) λy I h=>(Sd (fb K) λZ C B=>?_)))];simp only[Da,isEmpty_iff,Zc,Ra]at h;erw[hide λZz i=>?_];obtain⟨⟨⟨⟨⟨w,v⟩,u⟩,r⟩,o⟩,l⟩:=h;erw[i ?_];clear i;erw[Iy e (Bl C) λk p=>(Er (br B) ?_)];haveI U:=Mz J;haveI S:=Xk I;obtain⟨p1,R⟩:=ng w;obtain⟨p2,O⟩:=ng u;obtain⟨p3,N⟩:=ng r;erw[eA (Bj l) λf d=>(Er U (Er S (Er R (Er O (Er v (Er N ?_)))))),HW (g.6 _ _ M) λX Y j=>(eA j λW V=>?_),haveI z:Pd c P m Di [x] (.Name x p2) (.loc 0):=Um rfl f d (.inl b);?_,haveI a:Pd c P m Di [x] (.Name x p3) (.loc 0):=Um rfl f d (.inl b);?_,EB (Ci rfl (QB g.1 g.3 W o akq X V rfl (Ci rfl z vn)) (Ci rfl a vn))]
theorem vP (g:BF c P D G mg mb)(a:1<=n)(q:∀e,qf c P n sc nm e (f e)):qf c P n sc nm (.Call fe vi uI pos) (F5 G f sc fe vi uI):=by erw[Vf λk o=>Vf λl j=>Vf λx U=>Vf λe r=>dh λb=>(Er (Xk o) (Er (Xk r) ?_))];haveI h:=nE j;simp only[Da,Zc]at b;erw[hide λW i=>?_];obtain⟨⟨⟨⟨⟨⟨⟨⟨⟨d,C⟩,B⟩,z⟩,y⟩,w⟩,v⟩,u⟩,t⟩,M⟩:=b;erw[i ?_];clear i;erw[Xh fe (ng C) λp=>?_];obtain⟨S,O,R⟩:=k;dsimp only at d h;obtain⟨n,rfl⟩:∃m,n=m+1:=⟨n-1,by exact Ka (je 0xe0b131e0b12 rfl (ta a)) (Ob (ta a))⟩;erw[Er d (Er h (Er w (Es g.12 ?_))),HW (g.6 _ _ v) λK V N=>(eA N λJ I=>?_)];cases J;have li:=Oz t;erw[set_plain Ni (rP g.1 g.13 y li B K I z (uP g u li.10 M) (q e).1)]
theorem AI (g:BF c P D G mg mb)(t:1<=n)(l:bh c P D n)(j:∀e,qf c P n sc nm e (f e)):qf c P n sc nm (.Call fe vi uI pos) (vI G f sc fe vi uI pos):=by
 unfold vI;by_cases i:uI.isEmpty=true
 case neg=>rw[Dc i];exact vP g t j
 rw[Ec i];erw[Er (isEmpty_iff.mp i) (dh λd=>?_)];have o:=xI j vi d;cases e1:nameOf fe with
 |some x=>
  erw[Xh fe (ng e1) λp=>(rE g l d o)]
 |none=>
  erw[Vf λa r=>Vf λm q=>dh λb=>(Er (zm r) ?_)];simp only[Da,Zc,decide_eq_true_eq]at b;erw[set_plain Ni (IH g.1 g.2 rfl l (g.10 m _ (Mi q)) b.1.1 b.1.2 d b.2 (λk f h=>g.11 k _ f h) (j _).1 o)]
theorem BI (bs:Bs c mg mb)(g:∀e,qf c P n sc nm e (f e)):qf c P n sc nm (.Dict ks vs pos) (yR f ks vs):=by
 cases ks with
 |nil=>
  cases vs with
  |nil=>exact set_plain rfl (NH bs)|cons _ _=>exact vg
 |cons k r=>
  erw[Vf λb d=>dh λa=>?_];simp only[Da,Zc,decide_eq_true_eq]at a;erw[set_plain rfl (aP bs (yI g _ vs b d a.1.2 a.2) a.1.1 (λh=>nomatch h) (Ja a.2))]
theorem zR (a:∀e,qf c P n sc nm e (f e)):∀e:Option Expr,JO c P n sc nm e (cO f e)
 |none=>.inl ⟨rfl,rfl⟩|some e=>.inr ⟨e,rfl,(a e).1⟩
theorem CI (bs:Bs c mg mb)(a:∀e,qf c P n sc nm e (f e)):qf c P n sc nm (.Subscript o i pos) (wI f o i):=by
 unfold wI;cases e:sliceOf i with
 |none=>exact set_plain rfl (HO bs (a o).1 (a i).1)|some s=>
  erw[dh λb=>(Er (xx e) ?_)];rw[Option.isNone_iff_eq_none]at b;erw[Er b (set_plain rfl (rD (a o).1 (zR a _) (zR a _)))]
theorem wP (bs:Bs c mg mb)(b:∀e,qf c P n sc nm e (f e)){l:Expr}{os:List CmpOp}{a:List Expr}{pos:Pos}:qf c P n sc nm (.Compare l os a pos) (G5 f l os a):=by
 cases os with
 |nil=>exact vg|cons o os=>
  cases a with
  |nil=>exact vg|cons r a=>
   erw[dh λd=>?_];simp only[Da,isEmpty_iff,Ra]at d;obtain⟨⟨rfl,rfl⟩,h⟩:=d;exact⟨AO bs h (b l).1 (b r).1,aH bs h (b l).1 (b r).1⟩
set_option tactic.hygienic true in
theorem dC (g:BF c P D G mg mb)(l:1<=n)(i:bh c P D n):∀(k:Nat)(sc:Scope)(nm:List Str)(e:Expr),qf c P n sc nm e (cE G k sc nm e):=by
 intro k
 induction k with
 |zero=>exact λ_ _ _=>vg|succ k a=>
  intro sc nm e;haveI hf:=a sc nm;cases e<;>first|exact vg|skip
  ·erw[Ex hf _]
  ·erw[set_plain rfl (yO g.1 (hf _).1 (hf _).1)]
  ·rename_i o e p;cases o<;>first|exact vg|skip
   ·exact⟨zO (hf e).1,bH (hf e).2⟩
   ·exact⟨CB (hf e).1,DB (λh t=>lz h t) (CB (hf e).1)⟩
  ·exact⟨CO (hf _).2 (hf _).1 (hf _).1,eH (hf _).2 (hf _).2 (hf _).2⟩
  ·erw[BI g.1 hf]
  ·exact(Fx g.1 a).set rfl
  ·exact(At g.1 a).set rfl
  ·erw[wP g.1 hf]
  ·erw[AI g l i hf]
  ·erw[qE g.8]
  ·erw[Vf λf j=>dh λd=>?_];rw[Da]at d;erw[set_plain rfl (kH g.2 d.1 (Er g.9 d.2) (Er g.8 (Mi j)) (hf _).1)]
  ·erw[CI g.1 hf]
  ·erw[zI g]
  ·erw[dh λb=>set_plain rfl (EO (xI hf _ b))]
  ·erw[dh λb=>set_plain rfl (EB (xI hf _ b))]
end
section
open W PyProof.Rows
@[elab_as_elim] theorem AR {i g e c:Type}(v:c){f:i->g->e->c}{C:c->Prop}(h:∃x y z,v=f x y z)(k:∀x y z,C (f x y z)):C v:=h.elim λa h=>h.elim λb h=>h.elim λd h=>h▸k a b d
def lcS (e:Expr)(i:e.ctorIdx=8):Scope:=Expr.ListComp.elim (motive_1:=λzz=>Scope) e i λzz zz s zz=>s
def dcS (e:Expr)(i:e.ctorIdx=10):Scope:=Expr.DictComp.elim (motive_1:=λzz=>Scope) e i λzz zz zz s zz=>s
def Lo (e:Expr):Option Scope:=(pick e.ctorIdx 8 (lcS e)).or (pick e.ctorIdx 10 (dcS e))
theorem ir {e:Expr}{s:Scope}(h:Lo e=some s):(∃a b p,e=.ListComp a b s p)\/∃k a b p,e=.DictComp k a b s p:=by
 refine(Option.or_eq_some_iff.mp h).imp (λh=>?_) λh=>?_
 ·obtain⟨i,rfl⟩:=wg h;erw[Expr.ListComp.elim (motive_1:=λe=>∀i,∃a b p,e=.ListComp a b (lcS e i) p) e i (λzz zz zz zz zz=>⟨_,_,_,rfl⟩) i]
 ·obtain⟨i,rfl⟩:=wg h.2;erw[Expr.DictComp.elim (motive_1:=λe=>∀i,∃k a b p,e=.DictComp k a b (dcS e i) p) e i (λzz zz zz zz zz zz=>⟨_,_,_,_,rfl⟩) i]
def Hx (sc:Scope)(x:Str)(p:Pos)(v:Expr)(s:Scope):Bool:=sc.names.lookup x==some .local&&p.line==v.pos.line&&!(s.names.any λq=>q.1==x&&(q.2==.local||q.2==.cell))
def xP (e:Expr)(i:e.ctorIdx=21):Expr×Expr×Pos:=Expr.Subscript.elim (motive_1:=λzz=>Expr×Expr×Pos) e i λo i p=>(o,i,p)
def DI (e:Expr):Option (Expr×Expr×Pos):=pick e.ctorIdx 21 (xP e)
theorem Bt {e:Expr}{x:Expr×Expr×Pos}(h:DI e=some x):e=.Subscript x.1 x.2.1 x.2.2:=by obtain⟨i,rfl⟩:=wg h;erw[Expr.Subscript.elim (motive_1:=λe=>∀i,e=.Subscript (xP e i).1 (xP e i).2.1 (xP e i).2.2) e i (λzz zz zz zz=>rfl) i]
def Hn (e:Expr):Option (Str×Pos):=(nameOf e).map λx=>(x,e.pos)
theorem Vg {e:Expr}{x:Str×Pos}(h:Hn e=some x):e=.Name x.1 x.2:=by erw[Ef x (Ia h) λy a=>(Xh e (ng a) λp=>?_)];rfl
def BR (f:Expr->ME)(sc:Scope)(nm:List Str)(ts vs:List Expr):MS:=
 aw (tP ts) λt=>aw (tP vs) λv=>aw (Hn t.1) λx=>aw (Hn t.2) λy=>aw (Hn v.1) λu=>aw (Hn v.2) λzz=>aw (Fh false sc nm x.1) λi=>aw (Fh false sc nm y.1) λj=>
  mE (!(y.1==x.1)&&x.2.line==y.2.line&&!(dunder u.1)) (.swap i j (f v.1) (f v.2))
def aY (G:Gx)(f:Expr->ME)(sc:Scope)(nm:List Str)(t v:Expr):MS:=
 match Hn t with
 |some x=>aw (Fh true sc nm x.1) λi=>(match Lo v with
  |none=>mE (!Li v) (.asg i (f v))|some s=>mE (Hx sc x.1 x.2 v s||sc.names.lookup x.1==some .cell) (.asg i (f v)))
 |none=>(match Xq t with
  |some ts=>(match Xq v with
   |some vs=>BR f sc nm ts vs|none=>aw (slotsOf true sc nm ts) λis=>mE (!Li v&&!Zm v) (.Zl is (f v)))
  |none=>(match Go t with
   |some a=>aw (idx G.sx a.2.1) λfl=>mE (!Li v&&G.fld fl) (.qi (f a.1) fl (f v))|none=>aw (DI t) λs=>mE (!Li v) (.dg (f s.1) (f s.2.1) (f v))))
def bY (G:Gx)(f:Expr->ME)(sc:Scope)(nm:List Str)(t:Expr)(op:Operator)(v:Expr):MS:=
 match Hn t with
 |some x=>aw (Fh true sc nm x.1) λi=>mE (!dunder x.1) (.aug i op (f v))|none=>(match Go t with
  |some a=>aw (idx G.sx a.2.1) λfl=>mE (G.fld fl) (.cG (f a.1) fl op (f v))|none=>aw (DI t) λs=>mE (!isSlice s.2.1) (.tw (f s.1) (f s.2.1) op (f v)))
def cS (G:Gx)(ke:Nat)(k:Nat):Scope->List Str->Stmt->MS:=Nat.rec (λ_ _ _=>.bad) (λ_ r sc nm s=>@Stmt.casesOn (λ_=>MS) s (λ_ _ _ _ _ _ _ _ _ _=>.bad) (λ_ _ _ _ _ _ _ _ _ _=>.bad) (λ_ _ _ _ _ _ _ _ _ _ _=>.bad) (λv _=>v.elim (.ret (.cst .none)) λe=>.ret (cE G (ke+1) sc nm e)) (λ_ _=>.bad) (λts v _=>aw (Nz ts) λt=>aY G (cE G (ke+1) sc nm) sc nm t v) (λ_ _ _ _ _ _ _=>.bad) (λt op v _=>bY G (cE G (ke+1) sc nm) sc nm t op v) (λ_ _ _ _ _=>.bad) (λWi it body els _=>aw (yx true sc nm Wi) λt=>mE (els.isEmpty&&!gg it) (.Jl t (cE G (ke+1) sc nm it) (body.map (r sc nm)))) (λ_ _ _ _ _=>.bad) (λt body els _=>mE els.isEmpty (.Hi (cE G (ke+1) sc nm t) (body.map (r sc nm)))) (λt a b _=>.ifs (cE G (ke+1) sc nm t) (a.map (r sc nm)) (b.map (r sc nm))) (λ_ _ _=>.bad) (λ_ _ _=>.bad) (λ_ _ _=>.bad) (λ_ _ _=>.bad) (λ_ _ _ _ _=>.bad) (λ_ _ _ _ _=>.bad) (λ_ _ _=>.bad) (λ_ _=>.bad) (λ_ _ _ _=>.bad) (λ_ _=>.bad) (λ_ _=>.bad) (λe _=>mE (!Li e) (.exp (cE G (ke+1) sc nm e))) (λ_=>.bad) (λ_=>.bad) (λ_=>.cont)) k
theorem Cj {f:Stmt->MS}(h:∀s,uh c P n sc nm s (f s)):∀l:List Stmt,wn c P n sc nm l (l.map f):=by
 intro l
 induction l with
 |nil=>
  erw[HD]
 |cons s r a=>
  erw[uz (h s) (a)]
theorem Pz {e:Expr}{s:Scope}{x:Str}{p:Pos}{env:Env}{l:Nat}(h:Lo e=some s)(d:Hx sc x p e s=true)(f:Bf c env sc):swapsWith e (some (.Name x p)) l env=pure true:=by
 unfold Hx at d;rw[Da,Da,Zc]at d;obtain⟨⟨m,j⟩,i⟩:=d;haveI g:env.kindOf x=some .local:=by unfold Env.kindOf;exact Er f.Rr m
 haveI hf:env.blockKind=.function:=by unfold Env.blockKind;exact Er f.Rr (Er f.kind rfl)
 have key:(env.blockKind==.function&&env.kindOf x==some .local&&p.line==e.pos.line&&!(s.names.any λq=>q.1==x&&(q.2==.local||q.2==.cell)))=true:=Er hf (Er g (Er j (Er i rfl)));rcases ir h with⟨a,b,q,rfl⟩|⟨k,a,b,q,rfl⟩<;>exact Fc pure key
theorem EI (nd:nm.Nodup){t:Str}{p pos:Pos}{v:Expr}{s:Scope}{i:Nat}{b:ME}(f:Pd c P n sc nm v b)(d:Lo v=some s)(hi:Fh true sc nm t=some i)(g:yt c P n sc nm v b)(a:(Hx sc t p v s||sc.names.lookup t==some .cell)=true):uh c P n sc nm (.Assign [.Name t p] v pos) (.asg i b):=by
 rw[Rb,Zc]at a;erw[Or.elim a (λa=>?_) (λa=>(Ww nd (Vp hi) (.inr ⟨t,p,rfl,a⟩) f))]
 ·rcases g with rfl|⟨run,h1,h2,h3⟩
  ·erw[λzz zz zz zz zz zz zz zz zz zz zz zz h=>False.elim h]
  ·haveI e:sc.names.lookup t=some .local:=by
    unfold Hx at a;rw[Da,Da,Zc]at a;erw[a.1.1]
   erw[aE nd h1 (Rj hi).1 e (λk j=>Pz d a j) h3]
theorem FI (g:BF c P D G mg mb)(i:1<=n)(f:bh c P D n){k:Nat}{v:Expr}{s:Scope}(e:Lo v=some s):yt c P n sc nm v (cE G (k+1) sc nm v):=
 (ir e).elim (λh=>AR v h λa b p=>Fx g.1 (dC g i f k)) λh=>h.elim λa h=>AR v h λb d p=>At g.1 (dC g i f k)
theorem GI (nd:nm.Nodup)(o:∀e,qf c P n sc nm e (f e)){g vs:List Expr}{q p:Nat}{p1 p2 pos:Pos}:uh c P n sc nm (.Assign [.Tuple g q p1] (.Tuple vs p p2) pos) (BR f sc nm g vs):=by erw[lg λt A=>lg λv z=>(Er (br A) (Er (br z) ?_)),lg λx s=>lg λy r=>lg λu k=>lg λw h=>?_];haveI d:=(o v.1).1;haveI b:=(o v.2).1;generalize f v.1=m1 at d⊢;generalize f v.2=m2 at b⊢;rw[Vg k]at d;rw[Vg h]at b;erw[Er (Vg s) (Er (Vg r) (Er (Vg k) (Er (Vg h) ?_))),lg λi m=>lg λj l=>Zh λa=>?_];rw[Da,Da,Ra,Ra,Zc]at a;erw[zD nd (Ho m).1 (Ho l).1 (Ho m).2 (Ho l).2 a.1.1 a.1.2 (Bj a.2).1 d b]
theorem yP (g:BF c P D G mg mb)(h:1<=n)(f:bh c P D n)(nd:nm.Nodup){k:Nat}{t v:Expr}{pos:Pos}:uh c P n sc nm (.Assign [t] v pos) (aY G (cE G (k+1) sc nm) sc nm t v):=by
 haveI hf:=dC g h f (k+1) sc nm;delta aY;erw[oE (Hn t) (λzz=>?_) λx e=>Er (Vg e) (lg λi d=>(oE (Lo v) (λzz=>Zh λm=>Ww nd (Vp d) (.inl ((Ra _).mp m)) (hf v).1) λs e=>Zh λb=>EI nd (hf v).1 e d (FI g h f e) b))]
 ·erw[oE (Xq t) (λzz=>?_) λp e=>Iy t (Bl e) λr p1=>?_]
  ·erw[oE (Go t) (λzz=>?_) λa e=>Er (zm e) (lg λu j=>Zh λb=>?_)]
   ·erw[lg λs l=>Zh λb=>Er (Bt l) (CD g.1 ((Ra _).mp b) (hf _).1 (hf _).1 (hf v).1)]
   ·rw[Da,Ra]at b;erw[AD g.1 g.2 (Er g.9 b.2) (Er g.8 (Mi j)) b.1 (hf _).1 (hf v).1]
  ·erw[oE (Xq v) (λzz=>lg λis d=>Zh λb=>?_) λo e=>Iy v (Bl e) λq p2=>GI nd hf];rw[Da,Ra,Ra]at b;erw[vD nd ⟨_,_,_,rfl,Ax d⟩ b.1 b.2 (hf v).1]
theorem zP (g:BF c P D G mg mb)(nd:nm.Nodup)(b:∀e,qf c P n sc nm e (f e)){t v:Expr}{op:Operator}{pos:Pos}:uh c P n sc nm (.AugAssign t op v pos) (bY G f sc nm t op v):=by
 unfold bY;cases e1:Hn t with
 |some x=>
  erw[Er (Vg e1) (lg λi h=>Zh λl=>(qH nd (Rj h).1 (Bj ((Ra _).mp l)).2 ((Rj h).2.imp id (·.2)) (b v).1))]
 |none=>
  cases e3:Go t with
  |some a=>
   erw[Er (zm e3) (lg λm j=>Zh λd=>DD g.1 g.2 (Er g.9 d) (Er g.8 (Mi j)) (b _).1 (b v).1)]
  |none=>
   erw[lg λs k=>Zh λd=>(Er (Bt k) (ED g.1 ((Ra _).mp d) (b _).1 (b _).1 (b v).1))]
set_option tactic.hygienic true in
theorem J5 (g:BF c P D G mg mb)(i:1<=n)(f:bh c P D n)(nd:nm.Nodup){h:Nat}:∀(k:Nat)(s:Stmt),uh c P n sc nm s (cS G h k sc nm s):=by
 intro k
 induction k with
 |zero=>exact λzz=>Yu|succ k b=>
  intro s;have hf:=dC g i f (h+1) sc nm;cases s<;>first|exact Yu|skip
  ·rename_i v p;cases v with
   |none=>exact FD|some e=>exact sH (hf e).1
  ·erw[lg λt d=>(Er (Xk d) (yP g i f nd))]
  ·erw[zP g nd hf]
  ·erw[lg λt d=>Zh λa=>?_];rw[Da,isEmpty_iff,Ra]at a;obtain⟨rfl,j⟩:=a;erw[wH nd (E5 d) j (hf _).1 (Cj b _)]
  ·erw[Zh λa=>?_];obtain rfl:=isEmpty_iff.mp a;erw[wz (hf _).2 (Cj b _)]
  ·erw[tH (hf _).2 (Cj b _) (Cj b _)]
  ·erw[Zh λa=>rH ((Ra _).mp a) (hf _).1]
  ·erw[GD]
end
section
open W PyProof.Rows
variable {H H' : MH} {T T' F : Tb} {Q : MV → MH → Prop} {E : Value → Shared → Prop} {c : Cx} {mg mb : Str → Option Value} {s : Shared} {nm : List Str} {n : Nat} {A : Around} {P : Pg} {sc : Scope} {env : Env} {L : List MV} {D : Dx}
inductive HI (c:Cx)(D:Dx)(G:Gx)(X:Text)(mg mb:Str->Option Value):Prop
 |mk (g:∀n,BF c (Ce X n) D G mg mb) (fn:∀f d,X.fn f=some d->∃sc nm body ke ks,EH c D f d sc nm body/\d.body=body.map (cS G ke ks sc nm))
theorem II (t:HI c D G X mg mb):∀n,bh c (Ce X n) D (n+1):=by
 intro n
 induction n with
 |zero=>
  erw[λzz zz zz zz zz zz zz zz zz zz zz zz h=>False.elim h]
 |succ n l=>
  exact λf i r A T F H s Q j st m h=>by
   erw[Sd (Me h) λd p h=>(Sd (Me h) λL a h=>(we (t.2 f d p) λu nm b q=>(vf q λv k g o=>?_)))];unfold frameOf at a;by_cases e:i.length=d.np
   ·rw[Ec e]at a;obtain rfl:=(oa a);erw[UO (t.1 n).1 g (by rw[o];exact Cj (J5 (t.1 n) (Nat.le_add_left 1 n) (l) g.nd k) b) j st m e h]
   ·rw[Dc e]at a;exact nn a
end
section
open W PyProof.Rows
set_option tactic.hygienic true
def jv (sc:Scope):List Str:=(sc.names.filter λp=>p.2==.local||p.2==.cell).map (·.1)
def G0:Gx where
 fns:=SW
 cls:=TW
 qx:=jB
 nums:=RF
 sx:=sF.map Str.ofString
 fld:=Ky
 mn:=RW.map Str.ofString
 nI:=⟨351,32,351,59⟩
def cY (s:Src):Fn:=⟨s.2.2.1.args.length,(jv s.2.2.2.1).length,s.2.2.2.2.map (cS G0 40 12 s.2.2.2.1 (jv s.2.2.2.1))⟩
def lqS:Str:=Str.ofString "without_dominated.<locals>.<lambda>"
def CR (i:Nat)(s:Src):Bool:=
 let a:=s.2.2.1
 let sc:=s.2.2.2.1
 let nm:=jv sc
 a.posonlyargs.isEmpty&&a.vararg.isNone&&a.kwonlyargs.isEmpty&&a.kwarg.isNone&&a.args.map (·.arg)==nm.take a.args.length&&(!eD sc||(i==46&&s.qual++Str.ofString ".<locals>."++Str.ofString "<lambda>"==lqS))&&
 sc.kind==.function&&decide (a.args.length<=nm.length)&&Io nm&&(nm.take a.args.length).all (λx=>sc.names.lookup x==some .local||sc.names.lookup x==some .cell)&&sc.names.all (λx=>x.2 !=.free)&&!sc.isCoroutine&&!sc.isGenerator
end
section
set_option tactic.hygienic true
noncomputable section
namespace G
abbrev L (i:Nat):ME:=.loc i
abbrev I (i:Int):ME:=.cst (.int i)
abbrev S (i:Nat):ME:=.cst (.str i)
abbrev N:qh:=.nil
abbrev K (a:ME)(b:qh):qh:=.cons a b
abbrev k (a:ME):qh:=.cons a .nil
abbrev P (a b:ME):ME:=.bin .Add a b
abbrev O (o:Operator)(a b:ME):ME:=.bin o a b
abbrev E (a b:ME):ME:=.cmp .Eq a b
abbrev Q (o:CmpOp)(a b:ME):ME:=.cmp o a b
abbrev U (a b:ME):ME:=.sub a b
abbrev A (a:ME)(f:Nat):ME:=.attr a f
abbrev M (a:ME)(f:Nat)(b:qh):ME:=.Kg a f b
abbrev F (f:Nat)(b:qh):ME:=.fn f b
abbrev B (f:Nat)(b:qh):ME:=.blt f b
abbrev T (b:qh):ME:=.tup b
abbrev V (b:qh):ME:=.lst b
abbrev s (i:Nat)(a:ME):MS:=.asg i a
abbrev x (a:ME):MS:=.exp a
abbrev r (a:ME):MS:=.ret a
abbrev f (a:ME)(b d:List MS):MS:=.ifs a b d
abbrev o (i:Nat)(a:ME)(b:List MS):MS:=.Jl (.one i) a b
end G
open G
def p0:Fn:=⟨1,1,[.Hi (.cst (.bool true)) [.bad]]⟩
def p1:Fn:=⟨4,4,[.bad,.bad,.bad]⟩
def M5:List MS:=[r (.or (E (L 0) (S 14)) (E (L 0) (S 15)))]
def p2:Fn:=⟨1,1,M5⟩
def N5:List MS:=[.qi (L 0) 38 (V N)]
def O5:=.qi (L 0) 37 (V N)::N5
def P5:=.qi (L 0) 36 (V N)::O5
def Q5:=.qi (L 0) 35 (I 2)::P5
def S5:=.qi (L 0) 34 (L 1)::Q5
def p3:Fn:=⟨2,2,S5⟩
def abh:List MS:=[r (L 1)]
def U5:=.cG (L 0) 35 .Add (I 1)::abh
def V5:=s 1 (A (L 0) 35)::U5
def p4:Fn:=⟨1,2,V5⟩
def W5:List MS:=[r (.comp [none,none,some 0] (.one 1) (B 8 (k (L 1))) N (M (L 2) 4 N))]
def p5:Fn:=⟨2,2,W5⟩
def abi:List MS:=[r (L 3)]
def X5:=x (M (A (L 0) 36) 0 (k (T (K (L 1) (k (B 1 (k (L 3))))))))::abi
def Y5:=s 3 (M (L 0) 5 (k (L 2)))::X5
def p6:Fn:=⟨3,4,Y5⟩
def Z5:List MS:=[x (M (A (L 0) 37) 0 (k (T (K (L 1) (k (B 1 (k (L 2))))))))]
def p7:Fn:=⟨3,3,Z5⟩
def abj:List MS:=[r (L 4)]
def a6:=x (M (L 0) 9 (K (L 4) (K (L 1) (K (L 2) (k (L 3))))))::abj
def b6:=s 4 (M (L 0) 4 N)::a6
def p8:Fn:=⟨4,5,b6⟩
def d6:List MS:=[x (M (A (L 0) 38) 0 (k (T (K (L 2) (K (L 1) (K (B 2 (k (L 3))) (k (L 4))))))))]
def p9:Fn:=⟨5,5,d6⟩
def DR:List MS:=[x (M (L 1) 1 (k (L 3)))]
def ER:List MS:=[x (M (L 1) 0 (k (U (L 4) (I 1))))]
def FR:List MS:=[f (F 2 (k (U (L 4) (I 0)))) ER []]
def g6:List MS:=[r (L 1)]
def i6:=o 4 (A (L 0) 38) FR::g6
def j6:=.Jl (.many [2,3]) (A (L 0) 36) DR::i6
def GR:=s 1 (V N)::j6
def p10:Fn:=⟨1,5,GR⟩
def HR:List MS:=[x (M (L 1) 1 (k (L 3)))]
def IR:List MS:=[x (M (L 1) 1 (k (U (L 4) (I 2))))]
def JR:List MS:=[f (F 2 (k (U (L 4) (I 0)))) IR []]
def m6:List MS:=[r (L 1)]
def n6:=o 4 (A (L 0) 38) JR::m6
def u6:=.Jl (.many [2,3]) (A (L 0) 37) HR::n6
def KR:=s 1 (V N)::u6
def mj:Fn:=⟨1,5,KR⟩
def LR:List MS:=[x (M (L 1) 0 (k (L 2)))]
def MR:List MS:=[f (F 2 (k (U (U (A (L 0) 38) (L 2)) (I 0)))) LR []]
def v6:List MS:=[r (L 1)]
def w6:=o 2 (B 8 (k (B 0 (k (A (L 0) 38))))) MR::v6
def NR:=s 1 (V N)::w6
def nj:Fn:=⟨1,3,NR⟩
def y6:List MS:=[.bad]
def OR:List MS:=[.dg (L 1) (L 4) (.cst (.bool true))]
def PR:=f (Q .In (L 4) (L 1)) y6 []::OR
def QR:List MS:=[o 4 (L 3) PR]
def z6:List MS:=[.bad]
def RR:List MS:=[.dg (L 5) (L 4) (L 6)]
def SR:=.dg (L 1) (L 4) (.cst (.bool true))::RR
def TR:=f (Q .In (L 4) (L 1)) z6 []::SR
def UR:=s 4 (U (U (A (L 0) 38) (L 6)) (I 1))::TR
def WR:List MS:=[r (L 5)]
def JI:=o 6 (B 8 (k (B 0 (k (A (L 0) 38))))) UR::WR
def KI:=s 5 (.qq N N)::JI
def LI:=.Jl (.many [2,3]) (A (L 0) 36) QR::KI
def NI:=s 1 (.qq (K (I 0) (k (I 1))) (K (.cst (.bool true)) (k (.cst (.bool true)))))::LI
def p13:Fn:=⟨1,7,NI⟩
def B6:List MS:=[.cont]
def XR:List MS:=[.dg (L 4) (L 9) (V N)]
def OI:List MS:=[x (M (U (L 4) (L 9)) 0 (k (L 6)))]
def PI:=f (Q .NotIn (L 9) (L 4)) XR []::OI
def YR:=.aug 7 .Add (I 1)::PI
def C6:List MS:=[f (.and (Q .GtE (L 9) (I 0)) (.not (F 2 (k (U (U (L 2) (L 9)) (I 0)))))) YR []]
def ZR:=s 9 (M (L 1) 3 (K (L 8) (k (.neg (I 1)))))::C6
def aS:List MS:=[x (M (L 5) 0 (k (L 6)))]
def D6:List MS:=[f (E (L 7) (I 0)) aS []]
def bS:=.dg (L 3) (L 6) (L 7)::D6
def QI:=o 8 (U (U (L 2) (L 6)) (I 2)) ZR::bS
def RI:=s 7 (I 0)::QI
def SI:=f (F 2 (k (U (U (L 2) (L 6)) (I 0)))) B6 []::RI
def TI:List MS:=[x (M (L 5) 0 (k (L 6)))]
def dY:List MS:=[f (E (U (L 3) (L 6)) (I 0)) TI []]
def Qz:=.tw (L 3) (L 6) .Sub (I 1)::dY
def UI:List MS:=[.aug 10 .Add (I 1)]
def eY:=o 6 (M (L 4) 3 (K (U (L 5) (L 10)) (k (V N)))) Qz::UI
def fY:List MS:=[r (L 5)]
def gY:=.Hi (Q .Lt (L 10) (B 0 (k (L 5)))) eY::fY
def Rz:=s 10 (I 0)::gY
def VI:=o 6 (B 8 (k (B 0 (k (L 2))))) SI::Rz
def WI:=s 5 (V N)::VI
def XI:=s 4 (.qq N N)::WI
def YI:=s 3 (.qq N N)::XI
def ZI:=s 2 (A (L 0) 38)::YI
def p14:Fn:=⟨2,11,ZI⟩
def E6:List MS:=[.bad]
def F6:List MS:=[r (L 1)]
def G6:=f (Q .Lt (P (B 0 (k (L 1))) (B 0 (k (F 12 (k (L 0)))))) (B 0 (k (A (L 0) 38)))) E6 []::F6
def dS:=s 1 (F 14 (K (L 0) (k (F 13 (k (L 0))))))::G6
def aJ:Fn:=⟨1,2,dS⟩
def eS:List MS:=[.qi (L 0) 40 (.qq N N)]
def fS:=.qi (L 0) 37 (V N)::eS
def gS:=.qi (L 0) 36 (V N)::fS
def iS:=.qi (L 0) 39 (V (k (.cst .none)))::gS
def p16:Fn:=⟨1,1,iS⟩
def I6:List MS:=[r (O .Mult (I 2) (L 1))]
def jS:=x (M (A (L 0) 36) 0 (k (L 1)))::I6
def lS:=x (M (A (L 0) 39) 0 (k (.cst .none)))::jS
def mS:=s 1 (B 0 (k (A (L 0) 39)))::lS
def p17:Fn:=⟨1,2,mS⟩
def nS:List MS:=[x (M (A (L 0) 37) 0 (k (L 1)))]
def p18:Fn:=⟨2,2,nS⟩
def oS:List MS:=[r (Q .IsNot (U (A (L 0) 39) (L 1)) (.cst .none))]
def qs:Fn:=⟨2,2,oS⟩
def qS:List MS:=[.swap 1 2 (L 2) (L 1)]
def rS:List MS:=[r (I 0)]
def sS:List MS:=[r (L 2)]
def tS:List MS:=[.dg (A (L 0) 40) (T (K (L 1) (k (L 2)))) (L 3)]
def uS:=x (M (A (L 0) 39) 0 (k (T (K (L 1) (k (L 2))))))::tS
def vS:=s 3 (B 0 (k (A (L 0) 39)))::uS
def J6:List MS:=[r (O .Mult (I 2) (L 3))]
def K6:=f (Q .Lt (L 3) (I 0)) vS []::J6
def wS:=s 3 (M (A (L 0) 40) 3 (K (T (K (L 1) (k (L 2)))) (k (.neg (I 1)))))::K6
def L6:=f (.or (E (L 1) (I 1)) (E (L 1) (L 2))) sS []::wS
def Sz:=f (.or (E (L 1) (I 0)) (E (L 1) (O .BitXor (L 2) (I 1)))) rS []::L6
def hY:=f (Q .Gt (L 1) (L 2)) qS []::Sz
def p20:Fn:=⟨3,4,hY⟩
def xS:List MS:=[r (O .BitXor (M (L 0) 13 (K (O .BitXor (L 1) (I 1)) (k (O .BitXor (L 2) (I 1))))) (I 1))]
def p21:Fn:=⟨3,3,xS⟩
def yS:List MS:=[r (O .BitXor (M (L 0) 14 (K (M (L 0) 13 (K (L 4) (k (O .BitXor (L 5) (I 1))))) (k (M (L 0) 13 (K (O .BitXor (L 4) (I 1)) (k (L 5))))))) (L 3))]
def zS:=s 5 (O .BitXor (L 2) (O .BitAnd (L 2) (I 1)))::yS
def AS:=s 4 (O .BitXor (L 1) (O .BitAnd (L 1) (I 1)))::zS
def BS:=s 3 (O .BitAnd (O .BitXor (L 1) (L 2)) (I 1))::AS
def p22:Fn:=⟨3,6,BS⟩
def DS:List MS:=[r (L 2)]
def ES:List MS:=[r (M (L 0) 14 (K (M (L 0) 13 (K (L 1) (k (L 3)))) (k (M (L 0) 13 (K (O .BitXor (L 1) (I 1)) (k (L 2)))))))]
def FS:=f (E (L 2) (L 3)) DS []::ES
def p23:Fn:=⟨4,4,FS⟩
def p24:Fn:=⟨1,1,[x (F 0 (k (I 0)))]⟩
def p25:Fn:=⟨1,5,[s 1 (V N),o 2 (B 8 (k (B 0 (k (A (L 0) 39))))) [x (M (L 1) 0 (k (V N))),s 3 (U (A (L 0) 39) (L 2)),f (Q .IsNot (L 3) (.cst .none)) [o 4 (L 3) [x (M (U (L 1) (O .RShift (L 4) (I 1))) 0 (k (L 2)))]] []],r (L 1)]⟩
def M6:List MS:=[.tw (L 1) (O .RShift (L 3) (I 1)) .Add (I 1)]
def GS:List MS:=[o 3 (L 2) M6]
def HS:List MS:=[f (Q .IsNot (L 2) (.cst .none)) GS []]
def N6:List MS:=[.tw (L 1) (O .RShift (L 3) (I 1)) .Add (I 1)]
def O6:List MS:=[r (L 1)]
def P6:=o 3 (A (L 0) 37) N6::O6
def IS:=o 2 (A (L 0) 39) HS::P6
def JS:=s 1 (O .Mult (V (k (I 0))) (B 0 (k (A (L 0) 39))))::IS
def p26:Fn:=⟨1,4,JS⟩
def p27:Fn:=⟨3,3,[x (F 0 (k (I 1)))]⟩
def p28:Fn:=⟨3,10,[s 3 (O .LShift (I 1) (B 0 (k (L 2)))),f (E (L 1) (I 0)) [r (I 0)] [],f (E (L 1) (O .Sub (O .LShift (I 1) (L 3)) (I 1))) [r (I 1)] [],s 4 (O .RShift (L 3) (I 1)),s 5 (O .BitAnd (L 1) (O .Sub (O .LShift (I 1) (L 4)) (I 1))),s 6 (O .RShift (L 1) (L 4)),s 7 (.slice (L 2) (.cst .none) (.neg (I 1))),f (E (L 5) (L 6)) [r (F 28 (K (L 0) (K (L 5) (k (L 7)))))] [],s 8 (F 28 (K (L 0) (K (L 6) (k (L 7))))),s 9 (F 28 (K (L 0) (K (L 5) (k (L 7))))),r (M (L 0) 16 (K (U (L 2) (.neg (I 1))) (K (L 9) (k (L 8)))))]⟩
def Q6:List MS:=[r (F 28 (K (L 0) (K (L 2) (k (L 3)))))]
def R6:List MS:=[r (F 28 (K (L 0) (K (U (L 2) (I 1)) (k (L 3)))))]
def S6:List MS:=[r (M (L 0) 16 (K (U (L 3) (I 0)) (K (U (L 3) (I 1)) (k (U (L 3) (I 2))))))]
def U6:List MS:=[r (U (L 3) (I 0))]
def V6:List MS:=[r (O .BitXor (U (L 3) (I 0)) (I 1))]
def W6:List MS:=[r (M (L 0) 13 (K (U (L 3) (I 0)) (k (U (L 3) (I 1)))))]
def X6:List MS:=[r (O .BitXor (M (L 0) 13 (K (U (L 3) (I 0)) (k (U (L 3) (I 1))))) (I 1))]
def Y6:List MS:=[r (M (L 0) 14 (K (U (L 3) (I 0)) (k (U (L 3) (I 1)))))]
def Z6:List MS:=[r (O .BitXor (M (L 0) 14 (K (U (L 3) (I 0)) (k (U (L 3) (I 1))))) (I 1))]
def a7:List MS:=[r (M (L 0) 15 (K (U (L 3) (I 0)) (k (U (L 3) (I 1)))))]
def iY:List MS:=[r (O .BitXor (M (L 0) 15 (K (U (L 3) (I 0)) (k (U (L 3) (I 1))))) (I 1))]
def jY:List MS:=[.bad]
def kY:=f (E (L 1) (S 13)) iY []::jY
def lY:=f (E (L 1) (S 12)) a7 []::kY
def mY:=f (E (L 1) (S 11)) Z6 []::lY
def nY:=f (E (L 1) (S 10)) Y6 []::mY
def oY:=f (E (L 1) (S 9)) X6 []::nY
def pY:=f (E (L 1) (S 8)) W6 []::oY
def qY:=f (E (L 1) (S 7)) V6 []::pY
def rY:=f (E (L 1) (S 3)) U6 []::qY
def sY:=f (E (L 1) (S 2)) S6 []::rY
def tY:=f (E (L 1) (S 1)) R6 []::sY
def uY:=f (E (L 1) (S 0)) Q6 []::tY
def p29:Fn:=⟨4,4,uY⟩
def b7:List MS:=[.bad]
def KS:List MS:=[r (U (L 0) (L 1))]
def LS:=f (Q .NotIn (L 1) (L 0)) b7 []::KS
def W0:Fn:=⟨2,2,LS⟩
def bJ:List MS:=[.dg (L 2) (L 3) (M (L 1) 6 N)]
def NS:List MS:=[x (M (L 9) 0 (k (F 30 (K (L 2) (k (L 3))))))]
def cJ:List MS:=[.dg (L 2) (L 6) (F 29 (K (L 1) (K (L 5) (K (L 8) (k (L 9))))))]
def d7:=o 3 (L 7) NS::cJ
def OS:=s 9 (V N)::d7
def dJ:=.Zl [5,6,7,8] (U (A (L 0) 38) (L 4))::OS
def PS:List MS:=[x (M (L 1) 7 (k (F 30 (K (L 2) (k (L 3))))))]
def g7:List MS:=[r (L 1)]
def eJ:=o 3 (M (L 0) 11 N) PS::g7
def fJ:=o 4 (F 15 (k (L 0))) dJ::eJ
def vY:=o 3 (M (L 0) 10 N) bJ::fJ
def gJ:=s 2 (.qq (K (I 0) (k (I 1))) (K (I 0) (k (I 1))))::vY
def iJ:=s 1 (.new 1 N)::gJ
def p31:Fn:=⟨1,10,iJ⟩
def p32:Fn:=⟨1,1,[r (O .Sub (O .LShift (I 1) (O .LShift (I 1) (L 0))) (I 1))]⟩
def p33:Fn:=⟨2,3,[s 2 (F 32 (k (L 1))),r (O .BitXor (L 2) (O .FloorDiv (L 2) (P (O .LShift (I 1) (O .LShift (I 1) (L 0))) (I 1))))]⟩
def p34:Fn:=⟨4,6,[s 4 (O .BitAnd (L 0) (F 33 (K (L 1) (k (L 3))))),f (E (L 2) (I 1)) [r (O .BitOr (L 4) (O .RShift (L 4) (O .LShift (I 1) (L 1))))] [],s 5 (O .BitXor (L 0) (L 4)),r (O .BitOr (L 5) (O .LShift (L 5) (O .LShift (I 1) (L 1))))]⟩
def p35:Fn:=⟨3,3,[r (Q .NotEq (F 34 (K (L 0) (K (L 1) (K (I 0) (k (L 2)))))) (F 34 (K (L 0) (K (L 1) (K (I 1) (k (L 2)))))))]⟩
def p36:Fn:=⟨2,4,[s 2 (V N),o 3 (B 8 (k (L 1))) [f (F 35 (K (L 0) (K (L 3) (k (L 1))))) [x (M (L 2) 0 (k (L 3)))] []],r (L 2)]⟩
def p37:Fn:=⟨2,4,[s 2 (I 0),o 3 (B 8 (k (B 0 (k (L 1))))) [.aug 2 .BitOr (O .LShift (O .BitAnd (O .RShift (L 0) (L 3)) (I 1)) (U (L 1) (L 3)))],r (L 2)]⟩
def p38:Fn:=⟨3,5,[s 3 (I 0),o 4 (B 8 (k (O .LShift (I 1) (L 2)))) [.aug 3 .BitOr (O .LShift (O .BitAnd (O .RShift (L 0) (F 37 (K (L 4) (k (L 1))))) (I 1)) (L 4))],r (L 3)]⟩
def p39:Fn:=⟨2,5,[s 2 (F 36 (K (L 0) (k (L 1)))),s 3 (I 0),o 4 (B 8 (k (O .LShift (I 1) (B 0 (k (L 2)))))) [.aug 3 .BitOr (O .LShift (O .BitAnd (O .RShift (L 0) (F 37 (K (L 4) (k (L 2))))) (I 1)) (L 4))],r (T (K (L 3) (k (L 2))))]⟩
def p40:Fn:=⟨3,4,[s 3 (O .BitAnd (L 0) (F 33 (K (L 1) (k (L 2))))),r (O .BitOr (O .RShift (L 3) (O .LShift (I 1) (L 1))) (O .LShift (O .BitXor (L 0) (L 3)) (O .LShift (I 1) (L 1))))]⟩
def p41:Fn:=⟨1,6,[s 1 (V (k (T N))),o 2 (B 8 (k (L 0))) [s 3 (V N),o 4 (L 1) [o 5 (B 8 (k (L 0))) [f (Q .NotIn (L 5) (L 4)) [x (M (L 3) 0 (k (P (L 4) (T (k (L 5))))))] []]],s 1 (L 3)],r (L 1)]⟩
def p42:Fn:=⟨2,10,[s 2 (F 32 (k (L 1))),s 3 (L 0),s 4 (T (K (B 2 (k (B 8 (k (L 1))))) (K (I 0) (k (I 0))))),o 5 (F 41 (k (L 1))) [s 6 (F 38 (K (L 0) (K (L 5) (k (L 1))))),s 7 (I 0),o 8 (B 8 (k (O .LShift (I 1) (L 1)))) [f (Q .Gt (L 8) (I 0)) [s 9 (F 43 (k (L 8))),s 6 (F 40 (K (L 6) (K (L 9) (k (L 1))))),.aug 7 .BitXor (O .LShift (I 1) (L 9))] [],f (Q .Lt (L 6) (L 3)) [s 3 (L 6),s 4 (T (K (L 5) (K (L 7) (k (I 0)))))] [],f (Q .Lt (O .BitXor (L 2) (L 6)) (L 3)) [s 3 (O .BitXor (L 2) (L 6)),s 4 (T (K (L 5) (K (L 7) (k (I 1)))))] []]],r (T (K (L 3) (k (L 4))))]⟩
def p43:Fn:=⟨1,2,[s 1 (I 0),.Hi (E (O .BitAnd (O .RShift (L 0) (L 1)) (I 1)) (I 0)) [.aug 1 .Add (I 1)],r (L 1)]⟩
def QS:List MS:=[.aug 4 .Add (I 1)]
def jJ:=x (M (L 3) 0 (k (U (L 0) (L 4))))::QS
def RS:List MS:=[.aug 5 .Add (I 1)]
def kJ:=x (M (L 3) 0 (k (U (L 1) (L 5))))::RS
def SS:List MS:=[.aug 5 .Add (I 1)]
def TS:=.aug 4 .Add (I 1)::SS
def lJ:=x (M (L 3) 0 (k (U (L 0) (L 4))))::TS
def US:List MS:=[f (.or (E (L 4) (B 0 (k (L 0)))) (Q .Lt (U (L 1) (L 5)) (U (L 0) (L 4)))) kJ lJ]
def VS:List MS:=[f (.or (E (L 5) (B 0 (k (L 1)))) (.and (Q .Lt (L 4) (B 0 (k (L 0)))) (Q .Lt (U (L 0) (L 4)) (U (L 1) (L 5))))) jJ US]
def i7:List MS:=[r (.cst .none)]
def wY:List MS:=[r (B 2 (k (L 3)))]
def xY:=f (Q .Gt (B 0 (k (L 3))) (L 2)) i7 []::wY
def mJ:=.Hi (.or (Q .Lt (L 4) (B 0 (k (L 0)))) (Q .Lt (L 5) (B 0 (k (L 1))))) VS::xY
def nJ:=s 5 (I 0)::mJ
def oJ:=s 4 (I 0)::nJ
def pJ:=s 3 (V N)::oJ
def p44:Fn:=⟨3,6,pJ⟩
def j7:List MS:=[r (.cst (.bool false))]
def WS:List MS:=[f (Q .NotIn (L 2) (L 1)) j7 []]
def k7:List MS:=[r (.cst (.bool true))]
def m7:=o 2 (L 0) WS::k7
def p45:Fn:=⟨2,3,m7⟩
def t7:List MS:=[s 3 (.cst (.bool false))]
def XS:List MS:=[f (F 45 (K (L 4) (k (L 2)))) t7 []]
def YS:List MS:=[x (M (L 1) 0 (k (L 2)))]
def u7:List MS:=[f (L 3) YS []]
def v7:=o 4 (L 1) XS::u7
def ZS:=s 3 (.cst (.bool true))::v7
def w7:List MS:=[r (L 1)]
def y7:=o 2 (.P0 (L 0)) ZS::w7
def bT:=s 1 (V N)::y7
def p46:Fn:=⟨1,5,bT⟩
def dT:List MS:=[x (M (L 5) 0 (k (L 8)))]
def z7:List MS:=[f (Q .IsNot (L 8) (.cst .none)) dT []]
def eT:=s 8 (F 44 (K (L 6) (K (L 7) (k (L 3)))))::z7
def A7:List MS:=[o 7 (L 2) eT]
def C7:List MS:=[r (L 9)]
def fT:=x (M (L 9) 0 (k (T (k (L 0)))))::C7
def gT:=s 9 (.slice (F 46 (k (L 5))) (.cst .none) (L 4))::fT
def D7:=o 6 (L 1) A7::gT
def E7:=s 5 (V N)::D7
def p47:Fn:=⟨5,10,E7⟩
def iT:List MS:=[x (M (L 3) 0 (k (V (k (T (k (L 4)))))))]
def jT:List MS:=[x (M (L 3) 0 (k (F 47 (K (L 4) (K (U (L 3) (O .RShift (U (L 5) (I 0)) (I 1))) (K (U (L 3) (O .RShift (U (L 5) (I 1)) (I 1))) (K (L 1) (k (L 2)))))))))]
def lT:List MS:=[f (Q .Is (L 5) (.cst .none)) iT jT]
def mT:=s 5 (U (A (L 0) 39) (L 4))::lT
def F7:List MS:=[r (L 3)]
def nT:=o 4 (B 8 (K (I 1) (k (B 0 (k (A (L 0) 39)))))) mT::F7
def oT:=s 3 (V (k (V (k (T N)))))::nT
def p48:Fn:=⟨3,6,oT⟩
def G7:List MS:=[.cont]
def I7:List MS:=[.bad]
def pT:List MS:=[x (M (L 4) 0 (k (O .RShift (U (L 6) (I 1)) (I 1))))]
def qT:=x (M (L 4) 0 (k (O .RShift (U (L 6) (I 0)) (I 1))))::pT
def rT:=.dg (L 3) (L 5) (.cst (.bool true))::qT
def J7:=f (Q .Is (L 6) (.cst .none)) I7 []::rT
def sT:=s 6 (U (A (L 0) 39) (L 5))::J7
def K7:=f (.or (Q .In (L 5) (L 2)) (.or (Q .In (L 5) (L 3)) (E (L 5) (I 0)))) G7 []::sT
def tT:=s 5 (M (L 4) 2 N)::K7
def uT:List MS:=[r (B 4 (k (L 3)))]
def yY:=.Hi (Q .Gt (B 0 (k (L 4))) (I 0)) tT::uT
def qJ:=s 4 (V (k (L 1)))::yY
def rJ:=s 3 (.qq N N)::qJ
def p49:Fn:=⟨3,7,rJ⟩
def vT:List MS:=[r (O .BitXor (L 3) (L 2))]
def wT:List MS:=[r (L 3)]
def L7:=f (E (O .BitAnd (L 1) (I 1)) (I 1)) vT []::wT
def xT:=s 3 (U (L 0) (O .RShift (L 1) (I 1)))::L7
def p50:Fn:=⟨3,4,xT⟩
def yT:List MS:=[.dg (L 5) (U (L 2) (L 6)) (F 33 (K (L 6) (k (L 3))))]
def zT:List MS:=[.dg (L 5) (L 7) (O .BitAnd (F 50 (K (L 5) (K (U (L 8) (I 0)) (k (L 4))))) (F 50 (K (L 5) (K (U (L 8) (I 1)) (k (L 4))))))]
def AT:=s 8 (U (A (L 0) 39) (L 7))::zT
def CT:List MS:=[r (U (L 5) (L 1))]
def M7:=o 7 (F 49 (K (L 0) (K (L 1) (k (L 2))))) AT::CT
def N7:=o 6 (B 8 (k (L 3))) yT::M7
def DT:=s 5 (.qq (k (I 0)) (k (I 0)))::N7
def ET:=s 4 (F 32 (k (L 3)))::DT
def FT:=s 3 (B 0 (k (L 2)))::ET
def p51:Fn:=⟨3,9,FT⟩
def GT:List MS:=[.qi (L 0) 42 (L 5)]
def HT:=.qi (L 0) 41 (L 4)::GT
def IT:=.qi (L 0) 36 (L 3)::HT
def JT:=.qi (L 0) 40 (L 2)::IT
def KT:=.qi (L 0) 34 (L 1)::JT
def p52:Fn:=⟨6,6,KT⟩
def MT:List MS:=[x (M (L 1) 0 (k (.new 2 (K (L 2) (K (L 3) (K (L 4) (K (L 5) (k (L 6)))))))))]
def NT:List MS:=[r (L 1)]
def OT:=.Jl (.many [2,3,4,5,6]) (L 0) MT::NT
def sJ:=s 1 (V N)::OT
def QT:=s 0 (T (K (T (K (S 21) (K (I 1) (K (I 1) (K (I 2) (k (I 1))))))) (K (T (K (S 22) (K (I 2) (K (I 1) (K (I 3) (k (I 2))))))) (K (T (K (S 23) (K (I 7) (K (I 2) (K (I 3) (k (I 2))))))) (K (T (K (S 24) (K (I 1) (K (I 2) (K (I 3) (k (I 2))))))) (K (T (K (S 25) (K (I 8) (K (I 2) (K (I 4) (k (I 3))))))) (K (T (K (S 26) (K (I 14) (K (I 2) (K (I 4) (k (I 3))))))) (K (T (K (S 27) (K (I 6) (K (I 2) (K (I 7) (k (I 4))))))) (K (T (K (S 28) (K (I 9) (K (I 2) (K (I 7) (k (I 4))))))) (K (T (K (S 29) (K (I 127) (K (I 3) (K (I 5) (k (I 3))))))) (K (T (K (S 30) (K (I 1) (K (I 3) (K (I 5) (k (I 3))))))) (K (T (K (S 31) (K (I 7) (K (I 3) (K (I 5) (k (I 3))))))) (K (T (K (S 32) (K (I 31) (K (I 3) (K (I 5) (k (I 3))))))) (k (T (K (S 33) (K (I 228) (K (I 3) (K (I 8) (k (I 4)))))))))))))))))))))::sJ
def p53:Fn:=⟨0,7,QT⟩
def p54:Fn:=⟨1,2,[s 1 (I 0),.Hi (Q .Gt (L 0) (I 0)) [.aug 1 .Add (O .BitAnd (L 0) (I 1)),.aug 0 .RShift (I 1)],r (L 1)]⟩
def p55:Fn:=⟨1,2,[o 1 (L 0) [f (.and (E (A (L 1) 36) (I 1)) (E (A (L 1) 40) (I 1))) [r (L 1)] []],.bad]⟩
def p56:Fn:=⟨2,7,[.Zl [2,3,4,5] (L 1),s 6 (P (F 54 (k (L 4))) (L 5)),f (E (L 6) (I 0)) [r (A (L 2) 41)] [],r (P (A (L 2) 41) (O .Mult (L 6) (A (F 55 (k (L 0))) 41)))]⟩
def p57:Fn:=⟨2,6,[s 2 (V N),o 3 (L 0) [f (E (A (L 3) 36) (L 1)) [.Zl [4,5] (F 42 (K (A (L 3) 40) (k (L 1)))),x (M (L 2) 0 (k (T (K (L 3) (K (L 4) (k (L 5)))))))] []],r (L 2)]⟩
def p58:Fn:=⟨3,8,[s 3 (O .Mult (V (k (I 0))) (A (L 0) 36)),s 4 (I 0),o 5 (B 8 (k (A (L 0) 36))) [s 6 (U (U (L 1) (I 0)) (L 5)),.dg (L 3) (L 6) (U (U (L 2) (I 0)) (L 5)),s 7 (O .BitXor (O .BitAnd (O .RShift (U (L 1) (I 1)) (L 5)) (I 1)) (O .BitAnd (O .RShift (U (L 2) (I 1)) (L 5)) (I 1))),.aug 4 .BitOr (O .LShift (L 7) (L 6))],r (T (K (L 0) (K (B 2 (k (L 3))) (K (L 4) (k (O .BitXor (U (L 1) (I 2)) (U (L 2) (I 2))))))))]⟩
def p59:Fn:=⟨4,13,[.Zl [4,5] (F 42 (K (L 2) (k (L 3)))),s 6 (.cst .none),s 7 (I 0),.Jl (.many [8,9,10]) (L 0) [f (E (L 9) (L 4)) [s 11 (F 58 (K (L 8) (K (L 10) (k (L 5))))),s 12 (F 56 (K (L 1) (k (L 11)))),f (.or (Q .Is (L 6) (.cst .none)) (Q .Lt (L 12) (L 7))) [s 6 (L 11),s 7 (L 12)] []] []],r (L 6)]⟩
def p60:Fn:=⟨3,3,[r (F 59 (K (F 57 (K (L 0) (k (L 2)))) (K (L 0) (K (L 1) (k (L 2))))))]⟩
def RT:List MS:=[.qi (L 0) 45 (.qq N N)]
def TT:=.qi (L 0) 44 (.qq N N)::RT
def UT:=.qi (L 0) 43 (L 1)::TT
def p61:Fn:=⟨2,2,UT⟩
def WT:List MS:=[.dg (A (L 0) 44) (L 2) (F 57 (K (A (L 0) 43) (k (L 2))))]
def XT:List MS:=[s 5 (F 56 (K (A (L 0) 43) (k (L 4))))]
def tJ:List MS:=[.dg (A (L 0) 45) (L 3) (T (K (L 4) (k (L 5))))]
def YT:=f (Q .IsNot (L 4) (.cst .none)) XT []::tJ
def ZT:=s 5 (I 0)::YT
def aU:=s 4 (F 59 (K (U (A (L 0) 44) (L 2)) (K (A (L 0) 43) (K (L 1) (k (L 2))))))::ZT
def O7:=f (Q .NotIn (L 2) (A (L 0) 44)) WT []::aU
def uJ:List MS:=[r (U (A (L 0) 45) (L 3))]
def P7:=f (Q .NotIn (L 3) (A (L 0) 45)) O7 []::uJ
def bU:=s 3 (T (K (L 2) (k (L 1))))::P7
def Q7:Fn:=⟨3,6,bU⟩
def R7:List MS:=[.cont]
def cU:List MS:=[.cont]
def S7:List MS:=[.cont]
def T7:List MS:=[f (Q .Is (L 15) (.cst .none)) S7 []]
def dU:=.Zl [15,16] (M (L 6) 18 (K (L 12) (k (B 0 (k (L 14))))))::T7
def eU:List MS:=[.aug 17 .Add (U (L 8) (L 18))]
def fU:List MS:=[.dg (L 7) (L 9) (T (K (L 14) (K (L 12) (k (L 15)))))]
def vJ:=s 10 (L 17)::fU
def gU:List MS:=[f (.or (Q .Lt (L 10) (I 0)) (Q .Lt (L 17) (L 10))) vJ []]
def hU:=o 18 (L 14) eU::gU
def Tz:=s 17 (O .Mult (I 60) (L 16))::hU
def wJ:=f (Q .Gt (B 0 (k (L 14))) (I 1)) dU []::Tz
def xJ:=s 16 (I 0)::wJ
def yJ:=s 15 (.cst .none)::xJ
def zJ:=s 14 (B 2 (k (.comp [none,none,some 11] (.one 1) (L 13) N (U (L 2) (L 1)))))::yJ
def AJ:=.Zl [12,13] (F 39 (K (F 51 (K (L 0) (K (L 9) (k (L 11))))) (k (B 0 (k (L 11))))))::zJ
def Uz:=f (E (L 11) (T (k (L 9)))) cU []::AJ
def zY:List MS:=[.bad]
def BJ:List MS:=[.dg (L 8) (L 9) (O .FloorDiv (L 10) (B 6 (K (I 1) (k (U (L 4) (L 9))))))]
def CJ:=f (Q .Lt (L 10) (I 0)) zY []::BJ
def DJ:=o 11 (U (L 5) (L 9)) Uz::CJ
def EJ:=s 10 (.neg (I 1))::DJ
def Vz:=f (.not (M (L 0) 12 (k (L 9)))) R7 []::EJ
def FJ:List MS:=[r (L 7)]
def GJ:=o 9 (B 8 (k (B 0 (k (A (L 0) 39))))) Vz::FJ
def HJ:=s 8 (O .Mult (V (k (I 0))) (B 0 (k (A (L 0) 39))))::GJ
def IJ:=s 7 (O .Mult (V (k (.cst .none))) (B 0 (k (A (L 0) 39))))::HJ
def JJ:=s 6 (.new 3 (k (L 1)))::IJ
def KJ:=s 5 (F 48 (K (L 0) (K (L 2) (k (L 3)))))::JJ
def LJ:=s 4 (M (L 0) 17 N)::KJ
def p63:Fn:=⟨4,19,LJ⟩
def iU:List MS:=[.dg (L 2) (O .RShift (L 3) (I 1)) (.cst (.bool true))]
def jU:List MS:=[.dg (L 2) (L 5) (.cst (.bool true))]
def kU:List MS:=[o 5 (U (U (L 1) (L 4)) (I 0)) jU]
def lU:List MS:=[f (.and (U (L 2) (L 4)) (Q .IsNot (U (L 1) (L 4)) (.cst .none))) kU []]
def mU:List MS:=[r (.comp [none,none,some 1,some 2] (.one 1) (B 8 (k (B 0 (k (A (L 0) 39))))) (k (.and (U (L 3) (L 1)) (Q .IsNot (U (L 2) (L 1)) (.cst .none)))) (L 1))]
def U7:=o 4 (B 8 (K (O .Sub (B 0 (k (A (L 0) 39))) (I 1)) (K (.neg (I 1)) (k (.neg (I 1)))))) lU::mU
def V7:=o 3 (A (L 0) 37) iU::U7
def nU:=s 2 (O .Mult (V (k (.cst (.bool false)))) (B 0 (k (A (L 0) 39))))::V7
def p64:Fn:=⟨2,6,nU⟩
def oU:List MS:=[.qi (L 0) 47 (.qq (K (I 0) (k (I 1))) (K (I 1) (k (I 0))))]
def pU:=.qi (L 0) 43 (L 2)::oU
def qU:=.qi (L 0) 46 (L 1)::pU
def p65:Fn:=⟨3,3,qU⟩
def rU:List MS:=[.dg (A (L 0) 47) (L 3) (L 1)]
def sU:=.dg (A (L 0) 47) (L 1) (L 3)::rU
def tU:=s 3 (M (A (L 0) 46) 8 (K (S 1) (K (T (k (L 1))) (k (T (K (A (L 2) 34) (k (A (L 2) 40))))))))::sU
def uU:=s 2 (F 55 (k (A (L 0) 43)))::tU
def MJ:List MS:=[r (U (A (L 0) 47) (L 1))]
def vU:=f (Q .NotIn (L 1) (A (L 0) 47)) uU []::MJ
def p66:Fn:=⟨2,4,vU⟩
def wU:List MS:=[r (M (L 0) 21 (K (L 1) (k (L 2))))]
def xU:List MS:=[s 10 (M (L 0) 19 (k (L 10)))]
def NJ:List MS:=[x (M (L 8) 0 (k (L 10)))]
def W7:=f (O .BitAnd (O .RShift (L 6) (L 9)) (I 1)) xU []::NJ
def yU:=s 10 (U (L 1) (U (L 5) (L 9)))::W7
def zU:List MS:=[r (M (L 0) 19 (k (L 11)))]
def X7:List MS:=[r (L 11)]
def Y7:=f (L 7) zU []::X7
def AU:=s 11 (M (A (L 0) 46) 8 (K (S 1) (K (B 2 (k (L 8))) (k (T (K (A (L 4) 34) (k (A (L 4) 40))))))))::Y7
def Z7:=o 9 (B 8 (k (A (L 4) 36))) yU::AU
def OJ:=s 8 (V N)::Z7
def PJ:=.Zl [4,5,6,7] (L 3)::OJ
def QJ:=f (Q .Is (L 3) (.cst .none)) wU []::PJ
def p67:Fn:=⟨4,12,QJ⟩
def a8:List MS:=[r (O .BitAnd (L 2) (I 1))]
def BU:List MS:=[r (M (L 0) 19 (k (U (L 1) (I 0))))]
def CU:List MS:=[r (U (L 1) (I 0))]
def b8:=f (E (L 2) (I 1)) BU []::CU
def DU:=f (E (B 0 (k (L 1))) (I 0)) a8 []::b8
def p68:Fn:=⟨3,3,DU⟩
def EU:List MS:=[x (M (L 8) 1 (k (M (L 6) 6 (K (L 9) (k (B 0 (k (L 10))))))))]
def FU:List MS:=[.dg (L 7) (U (A (L 4) 36) (L 13)) (U (L 8) (L 13))]
def GU:List MS:=[.dg (L 7) (L 15) (M (L 14) 20 (K (.comp [none,none,some 7] (.one 1) (L 16) N (U (L 2) (L 1))) (K (L 17) (k (L 18)))))]
def RJ:=.Zl [16,17,18] (U (L 5) (L 15))::GU
def HU:List MS:=[s 21 (M (L 14) 19 (k (L 21)))]
def SJ:List MS:=[x (M (L 19) 0 (k (L 21)))]
def d8:=f (O .BitAnd (L 20) (I 1)) HU []::SJ
def IU:=s 21 (U (L 7) (O .RShift (L 20) (I 1)))::d8
def JU:List MS:=[.aug 22 .Add (B 0 (k (L 10)))]
def KU:=x (M (L 6) 7 (K (L 9) (k (.slice (L 19) (L 22) (P (L 22) (B 0 (k (L 10))))))))::JU
def TJ:List MS:=[.aug 22 .Add (B 0 (k (L 25)))]
def UJ:=x (M (L 6) 9 (K (U (L 12) (L 13)) (K (L 23) (K (B 2 (k (.slice (L 19) (L 22) (P (L 22) (B 0 (k (L 25))))))) (k (L 26))))))::TJ
def VJ:=.Zl [23,24,25,26] (U (A (L 0) 38) (U (L 11) (L 13)))::UJ
def AY:List MS:=[r (L 6)]
def Wz:=o 13 (B 8 (k (B 0 (k (L 11))))) VJ::AY
def WJ:=.Jl (.many [9,10]) (A (L 0) 37) KU::Wz
def Xz:=s 22 (I 0)::WJ
def BY:=o 20 (A (L 4) 37) IU::Xz
def Yz:=s 19 (V N)::BY
def XJ:=o 15 (F 64 (K (L 4) (k (L 5)))) RJ::Yz
def CY:=s 14 (.new 4 (K (L 6) (k (L 1))))::XJ
def aA:=o 13 (B 8 (k (B 0 (k (L 8))))) FU::CY
def YJ:=x (M (L 8) 1 (k (L 12)))::aA
def ZJ:=s 12 (M (L 6) 5 (k (B 0 (k (L 11)))))::YJ
def bA:=s 11 (F 12 (k (L 0)))::ZJ
def cA:=.Jl (.many [9,10]) (A (L 0) 36) EU::bA
def aK:=s 8 (V N)::cA
def bK:=s 7 (.qq (k (I 0)) (k (I 0)))::aK
def cK:=s 6 (.new 0 (k (A (L 0) 34)))::bK
def dK:=s 5 (F 63 (K (L 4) (K (L 1) (K (L 2) (k (L 3))))))::cK
def eK:=s 4 (F 31 (k (L 0)))::dK
def p69:Fn:=⟨4,27,eK⟩
def fK:List MS:=[r (.sw [none,none] (.one 1) (L 0) (A (L 1) 34) (L 1))]
def p70:Fn:=⟨1,1,fK⟩
def LU:List MS:=[.aug 3 .Add (A (U (L 2) (U (L 6) (I 0))) 41)]
def MU:List MS:=[f (E (L 4) (S 1)) LU []]
def NU:List MS:=[r (L 3)]
def OU:=.Jl (.many [4,5,5,6]) (A (L 0) 38) MU::NU
def PU:=s 3 (I 0)::OU
def QU:=s 2 (F 70 (k (L 1)))::PU
def p71:Fn:=⟨2,7,QU⟩
def RU:List MS:=[r (O .Mod (O .FloorDiv (U (L 0) (I 3)) (I 7)) (L 1))]
def SU:=.dg (L 0) (I 3) (O .Mod (O .Mult (U (L 0) (I 3)) (I 48271)) (I 2147483647))::RU
def TU:List MS:=[.dg (L 0) (I 2) (.ite (Q .GtE (L 2) (I 0)) (L 2) (.neg (L 2)))]
def UU:=.dg (L 0) (I 1) (P (U (L 0) (I 1)) (I 1))::TU
def VU:=s 2 (U (U (L 0) (I 0)) (U (L 0) (I 1)))::UU
def WU:=f (E (U (L 0) (I 1)) (B 0 (k (U (L 0) (I 0))))) SU []::VU
def XU:List MS:=[r (L 3)]
def YU:=.dg (L 0) (I 2) (O .FloorDiv (U (L 0) (I 2)) (L 1))::XU
def gK:=s 3 (O .Mod (U (L 0) (I 2)) (L 1))::YU
def ZU:=f (E (U (L 0) (I 2)) (I 0)) WU []::gK
def p72:Fn:=⟨2,4,ZU⟩
def g8:List MS:=[r (L 1)]
def aV:List MS:=[r (U (L 1) (I 1))]
def bV:List MS:=[r (U (.qq (K (S 3) (K (S 7) (K (S 8) (K (S 10) (K (S 12) (K (S 9) (K (S 11) (K (S 13) (k (S 2)))))))))) (K (I 2) (K (I 1) (K (I 8) (K (I 14) (K (I 6) (K (I 7) (K (I 1) (K (I 9) (k (I 228))))))))))) (L 0))]
def i8:=f (E (L 0) (S 1)) aV []::bV
def cV:=f (E (L 0) (S 0)) g8 []::i8
def p73:Fn:=⟨2,2,cV⟩
def eV:List MS:=[r (U (L 1) (F 72 (K (L 0) (k (B 0 (k (L 1)))))))]
def fV:List MS:=[r (U (L 1) (O .Sub (.neg (I 1)) (F 72 (K (L 0) (k (B 5 (K (B 0 (k (L 1))) (k (I 6)))))))))]
def gV:=f (E (F 72 (K (L 0) (k (I 3)))) (I 0)) eV []::fV
def p74:Fn:=⟨2,2,gV⟩
def j8:List MS:=[s 10 (.ite (E (L 8) (S 1)) (T (K (P .bad (B 7 (k (L 10)))) (k (L 10)))) (L 10))]
def k8:=s 10 (F 72 (K (L 0) (k (O .Pow (I 2) (O .Pow (I 2) (L 9))))))::j8
def q8:=s 9 (P (I 1) (F 72 (K (L 0) (k (I 3)))))::k8
def iK:List MS:=[x (M (L 5) 0 (k (M (L 4) 8 (K (L 8) (K (.comp [none,none,some 0,some 5] (.one 1) (B 8 (k (L 9))) N (F 74 (K (L 2) (k (L 3))))) (k (L 10)))))))]
def hV:=f (Q .In (L 8) (V (K (S 0) (k (S 1))))) q8 []::iK
def iV:=s 10 (.cst .none)::hV
def jV:=s 9 (M (.qq (K (S 7) (K (S 3) (k (S 2)))) (K (I 1) (K (I 1) (k (I 3))))) 3 (K (L 8) (k (I 2))))::iV
def jK:=s 8 (U (L 3) (F 72 (K (L 0) (k (B 0 (k (L 3)))))))::jV
def lV:List MS:=[x (M (L 4) 9 (K (U (L 6) (L 11)) (K (S 15) (K (L 15) (k (T (K (P (S 5) (B 7 (k (L 11)))) (k (L 13)))))))))]
def mV:List MS:=[x (M (L 4) 9 (K (U (L 6) (L 11)) (K (S 14) (K (L 15) (k (T (K (L 12) (K (P (S 5) (B 7 (k (L 11)))) (k (L 13))))))))))]
def kK:List MS:=[f (E (F 72 (K (L 0) (k (I 4)))) (I 3)) lV mV]
def nv:=s 15 (P (V (K (L 14) (k (F 74 (K (L 0) (k (L 5))))))) (.comp [none,none,some 0,some 5] (.one 1) (B 8 (k (I 2))) N (.ite (E (F 72 (K (L 2) (k (I 3)))) (I 2)) (F 74 (K (L 2) (k (L 3)))) (I 0))))::kK
def lK:=s 14 (.ite (E (F 72 (K (L 0) (k (I 3)))) (I 2)) (F 74 (K (L 0) (k (L 5)))) (I 2))::nv
def mK:=s 13 (F 72 (K (L 0) (k (I 2))))::lK
def dA:=s 12 (F 72 (K (L 0) (k (I 2))))::mK
def nK:List MS:=[r (L 4)]
def oK:=x (M (L 4) 7 (K (S 20) (k (V (k (F 74 (K (L 0) (k (L 5)))))))))::nK
def ov:=x (M (L 4) 7 (K (S 19) (k (.comp [none,none,some 0,some 5] (.one 1) (B 8 (k (P (I 1) (F 72 (K (L 0) (k (I 3))))))) N (F 74 (K (L 2) (k (L 3))))))))::oK
def pK:=o 11 (B 8 (k (B 0 (k (L 6))))) dA::ov
def qK:=o 7 (B 8 (k (F 72 (K (L 0) (k (P (L 1) (I 1))))))) jK::pK
def rK:=.aug 5 .Add (L 6)::qK
def sK:=s 6 (M (L 4) 5 (k (F 72 (K (L 0) (k (P (L 2) (I 1)))))))::rK
def fA:=s 5 (P (P (V (K (I 0) (k (I 1)))) (M (L 4) 6 (K (S 17) (k (P (I 1) (F 72 (K (L 0) (k (I 2))))))))) (M (L 4) 6 (K (S 18) (k (P (I 1) (F 72 (K (L 0) (k (I 2)))))))))::sK
def tK:=s 4 (.new 0 (k (S 16)))::fA
def p75:Fn:=⟨4,16,tK⟩
def uK:List MS:=[r (.comp [none,none] (.one 1) (A (L 0) 38) (k (Q .In (U (L 1) (I 0)) (V (K (S 14) (k (S 15)))))) (L 1))]
def p76:Fn:=⟨1,1,uK⟩
def nV:List MS:=[.dg (L 3) (U (L 1) (L 4)) (B 3 (k (.comp [none,none,some 4] (.one 1) (B 8 (k (L 2))) (k (E (O .Mod (O .FloorDiv (L 1) (O .Pow (I 2) (L 2))) (I 2)) (I 1))) (O .Pow (I 2) (L 1)))))]
def oV:List MS:=[r (T (K (L 3) (k (O .Sub (O .Pow (I 2) (L 2)) (I 1)))))]
def t8:=o 4 (B 8 (k (B 0 (k (L 1))))) nV::oV
def pV:=s 3 (.qq N N)::t8
def qV:=s 2 (O .Pow (I 2) (B 0 (k (L 1))))::pV
def rV:=.aug 1 .Add (.comp [none,none] (.one 1) (F 76 (k (L 0))) N (U (U (L 1) (I 3)) (.neg (I 2))))::qV
def sV:=s 1 (.Qs [none,none,none,none] (.many [1,2]) (A (L 0) 36) (.one 3) (B 8 (k (B 0 (k (L 2))))) (T (K (L 1) (k (L 3)))))::rV
def p77:Fn:=⟨1,5,sV⟩
def tV:List MS:=[s 5 (O .BitAnd (L 5) (.ite (E (O .Mod (O .FloorDiv (L 4) (O .Pow (I 2) (L 6))) (I 2)) (I 1)) (U (L 1) (L 6)) (O .Sub (L 2) (U (L 1) (L 6)))))]
def uV:List MS:=[s 3 (O .BitOr (L 3) (L 5))]
def vV:=o 6 (B 8 (k (B 0 (k (L 1))))) tV::uV
def wV:=s 5 (L 2)::vV
def xV:List MS:=[f (E (O .Mod (O .FloorDiv (L 0) (O .Pow (I 2) (L 4))) (I 2)) (I 1)) wV []]
def u8:List MS:=[r (L 3)]
def yV:=o 4 (B 8 (k (O .Pow (I 2) (B 0 (k (L 1)))))) xV::u8
def zV:=s 3 (I 0)::yV
def p78:Fn:=⟨3,7,zV⟩
def AV:List MS:=[.dg (L 3) (U (L 5) (L 6)) (U (L 1) (T (K (L 4) (k (L 6)))))]
def BV:List MS:=[o 6 (B 8 (k (B 0 (k (L 5))))) AV]
def CV:List MS:=[.dg (L 3) (U (L 7) (I 1)) (U (L 1) (U (U (L 7) (I 3)) (.neg (I 2))))]
def v8:List MS:=[x (M (L 10) 0 (k (L 7)))]
def EV:List MS:=[.dg (L 3) (U (L 7) (I 1)) (F 78 (K (F 73 (K (U (L 7) (I 0)) (k (U (L 7) (I 3))))) (K (.comp [none,none,some 3] (.one 1) (U (L 7) (I 2)) N (U (L 2) (L 1))) (k (L 2)))))]
def FV:List MS:=[f (Q .In (.cst (.bool false)) (.comp [none,none,some 3] (.one 1) (U (L 7) (I 2)) N (Q .In (L 1) (L 2)))) v8 EV]
def B8:List MS:=[s 8 (L 10)]
def C8:=o 7 (L 8) FV::B8
def GV:=s 10 (V N)::C8
def D8:List MS:=[r (L 3)]
def DY:=o 9 (B 8 (k (B 0 (k (L 8))))) GV::D8
def vK:=s 8 (.comp [none,none] (.one 1) (A (L 0) 38) (k (Q .NotIn (U (L 1) (I 0)) (V (K (S 14) (k (S 15)))))) (L 1))::DY
def EY:=o 7 (F 76 (k (L 0))) CV::vK
def FY:=.Jl (.many [4,5]) (A (L 0) 36) BV::EY
def wK:=s 3 (.qq (K (I 0) (k (I 1))) (K (I 0) (k (L 2))))::FY
def p79:Fn:=⟨3,11,wK⟩
def HV:List MS:=[.dg (L 5) (U (U (L 6) (I 3)) (.neg (I 2))) (T (K (U (L 6) (I 0)) (K (U (L 6) (I 3)) (k (.comp [none,none,some 3] (.one 1) (U (L 6) (I 2)) N (M (L 2) 3 (K (L 1) (k (.neg (I 1))))))))))]
def IV:List MS:=[r (T (K (L 4) (k (L 5))))]
def E8:=o 6 (F 76 (k (L 0))) HV::IV
def JV:=s 5 (.qq N N)::E8
def KV:=s 4 (.comp [none,none,none,some 3] (.many [1,2]) (A (L 0) 37) N (T (K (L 1) (k (.comp [none,none,some 3] (.one 1) (L 2) N (M (L 2) 3 (K (L 1) (k (.neg (I 1))))))))))::JV
def LV:=s 3 (F 79 (K (L 0) (K (L 1) (k (L 2)))))::KV
def p80:Fn:=⟨3,7,LV⟩
def NV:List MS:=[s 10 (O .Sub (I 1) (L 10))]
def xK:List MS:=[.aug 8 .Add (O .Mult (L 10) (O .Pow (I 2) (L 9)))]
def OV:=f (E (O .Mod (O .FloorDiv (L 3) (O .Pow (I 2) (L 9))) (I 2)) (I 1)) NV []::xK
def PV:=s 10 (O .Mod (O .FloorDiv (L 7) (O .Pow (I 2) (U (L 2) (L 9)))) (I 2))::OV
def QV:List MS:=[.aug 6 .Add (O .Mult (.ite (E (L 4) (I 1)) (O .Sub (I 1) (L 10)) (L 10)) (O .Pow (I 2) (L 7)))]
def SV:=s 10 (O .Mod (O .FloorDiv (L 0) (O .Pow (I 2) (L 8))) (I 2))::QV
def TV:=o 9 (B 8 (k (L 1))) PV::SV
def UV:=s 8 (I 0)::TV
def VV:List MS:=[r (L 6)]
def WV:=o 7 (B 8 (k (O .Pow (I 2) (L 5)))) UV::VV
def yK:=s 6 (I 0)::WV
def p81:Fn:=⟨6,11,yK⟩
def XV:List MS:=[s 1 (.Qs [none,none,none,some 2] (.one 1) (L 1) (.one 2) (B 8 (k (P (B 0 (k (L 1))) (I 1)))) (P (P (.slice (L 1) (.cst .none) (L 2)) (V (k (L 3)))) (.slice (L 1) (L 2) (.cst .none))))]
def F8:List MS:=[r (L 1)]
def G8:=o 2 (B 8 (k (L 0))) XV::F8
def YV:=s 1 (V (k (V N)))::G8
def p82:Fn:=⟨1,3,YV⟩
def I8:List MS:=[r (.cst (.bool true))]
def J8:List MS:=[f (.or (E (L 5) (L 1)) (E (O .Sub (O .Sub (O .Pow (I 2) (O .Pow (I 2) (L 2))) (I 1)) (L 5)) (L 1))) I8 []]
def ZV:=s 5 (F 81 (K (A (L 0) 40) (K (L 2) (K (L 3) (K (L 4) (K (I 0) (k (L 2))))))))::J8
def aW:List MS:=[o 4 (B 8 (k (O .Pow (I 2) (L 2)))) ZV]
def K8:List MS:=[r (.cst (.bool false))]
def bW:=o 3 (F 82 (k (L 2))) aW::K8
def p83:Fn:=⟨3,6,bW⟩
def L8:List MS:=[r (.cst (.bool false))]
def M8:List MS:=[r (.cst (.bool false))]
def N8:List MS:=[r (.cst (.bool false))]
def cW:List MS:=[.aug 10 .Add (A (U (L 16) (I 0)) 41)]
def dW:=f (Q .NotEq (B 0 (k (L 16))) (I 1)) N8 []::cW
def zK:=s 16 (.comp [none,none,some 13,some 14] (.one 1) (L 7) (k (.and (E (T (K (A (L 1) 34) (k (A (L 1) 40)))) (L 3)) (E (A (L 1) 36) (B 0 (k (L 2)))))) (L 1))::dW
def O8:List MS:=[r (.cst (.bool false))]
def P8:List MS:=[f (Q .NotIn (L 11) (V (K (S 14) (k (S 15))))) O8 []]
def eW:List MS:=[f (E (L 11) (S 1)) zK P8]
def Q8:List MS:=[r (.cst (.bool false))]
def AK:List MS:=[r (.or (E (L 17) (I 3)) (Q .NotIn (.cst (.bool true)) (.comp [none,none,some 18,some 17] (.one 1) (L 7) (k (E (A (L 1) 36) (L 3))) (F 83 (K (L 1) (K (L 2) (k (L 3))))))))]
def GY:List MS:=[r (.cst (.bool false))]
def BK:List MS:=[r (E (F 81 (K (A (L 15) 40) (K (L 17) (K (L 20) (K (L 21) (K (L 12) (k (L 17)))))))) (L 18))]
def HY:=f (.or (Q .NotEq (A (L 15) 36) (L 17)) (Q .NotEq (B 4 (k (L 20))) (B 1 (k (B 8 (k (L 17))))))) GY []::BK
def CK:=.Zl [15,20,21,12] (L 19)::HY
def IY:=f (Q .Is (L 19) (.cst .none)) AK []::CK
def JY:=s 19 (F 60 (K (L 7) (K (L 18) (k (L 17)))))::IY
def DK:=s 18 (F 72 (K (L 2) (k (O .Pow (I 2) (O .Pow (I 2) (L 17))))))::JY
def sv:=s 17 (P (P (I 1) (F 72 (K (L 2) (k (I 2))))) (O .FloorDiv (F 72 (K (L 2) (k (I 4)))) (I 3)))::DK
def EK:=f (Q .NotEq (F 71 (K (L 9) (k (L 7)))) (L 10)) Q8 []::sv
def GK:=.Jl (.many [11,12,13,14]) (A (L 9) 38) eW::EK
def gA:=s 10 (I 0)::GK
def KY:=f (Q .NotEq (F 80 (K (L 9) (K (L 5) (k (L 6))))) (F 80 (K (L 3) (K (L 5) (k (L 6)))))) M8 []::gA
def LY:=f (.or (Q .NotEq (.comp [none,none,none] (.many [1,2]) (A (L 9) 36) N (T (K (L 1) (k (B 0 (k (L 2))))))) (.comp [none,none,none] (.many [1,2]) (A (L 3) 36) N (T (K (L 1) (k (B 0 (k (L 2)))))))) (Q .NotEq (A (L 3) 38) (L 4))) L8 []::KY
def HK:=s 9 (F 69 (K (L 3) (K (L 7) (K (P (I 2) (O .FloorDiv (F 72 (K (L 2) (k (I 3)))) (I 2))) (k (L 8))))))::LY
def IK:=s 8 (P (I 2) (F 72 (K (L 2) (k (I 2)))))::HK
def JK:=s 7 (F 53 N)::IK
def KK:=.Zl [5,6] (F 77 (k (L 3)))::JK
def LK:=s 4 (B 1 (k (A (L 3) 38)))::KK
def MK:=s 3 (F 75 (K (L 2) (K (I 4) (K (I 1) (k (V (K (S 8) (K (S 12) (K (S 2) (K (S 7) (K (S 10) (K (S 9) (k (S 3))))))))))))))::LK
def NK:=s 2 (V (K (L 1) (K (I 0) (K (I 0) (K (O .Mult (O .Mod (B 3 (k (L 1))) (I 100003)) (I 7)) (k (I 0)))))))::MK
def OK:=s 1 (.slice (L 0) (.cst .none) (I 63))::NK
def p84:Fn:=⟨1,22,OK⟩
def XF:List Fn:=[p0,p1,p2,p3,p4,p5,p6,p7,p8,p9,p10,mj,nj,p13,p14,aJ,p16,p17,p18,qs,p20,p21,p22,p23,p24,p25,p26,p27,p28,p29,W0,p31,p32,p33,p34,p35,p36,p37,p38,p39,p40,p41,p42,p43,p44,p45,p46,p47,p48,p49,p50,p51,p52,p53,p54,p55,p56,p57,p58,p59,p60,p61,Q7,p63,p64,p65,p66,p67,p68,p69,p70,p71,p72,p73,p74,p75,p76,p77,p78,p79,p80,p81,p82,p83,p84]
def X:Text:=⟨λf=>XF[f]?,mq,Ms⟩
end
end
section
open W PyProof.Rows
set_option tactic.hygienic true
theorem R8:QC.map cY=XF:=by kernel_rfl
theorem PK:(QC.zipIdx.all λp=>CR p.2 p.1)=true:=by kernel_rfl
end
section
open W PyProof.Rows
section
variable {os:OsState}
def Mo (w:World)(os:OsState)(h:Heap):Cx where
 prog:=PySem.Challenge.pw_nn0333_01
 w:=w
 os:=os
 P:=pH h
 pos:=⟨351,32,351,59⟩
 lq:=lqS
 L_:=Pr h
 sx:=sF.map Str.ofString
 cls:=gj h
 jj:=λa=>if a=pH h then none else h.get? a
def fW (m:Nat):Str:=(RW.map Str.ofString).getD m (Str.ofString "append")
def AP (h:Heap):Dx:=⟨KH h,Jr h,fW,Ky⟩
inductive Lk (h:Heap):Prop
 |mk (ck:BN h=true) (rows:(range 85).map (TF h)=QC.map Oy) (tab:h.get? (pH h)=some (tabObj #[])) (row:(range 5).map (My h)=replicate 5 (some (some (.builtin "object.__getattribute__")),some none,some (some (.builtin "object.__setattr__")),true,true,true,UC,replicate 14 (some none))) (blt:UF h=jB.map λp=>(none,(Bo p.2).map (·.2))) (mth:Ny h=replicate 20 UC) (bm:((h.get? (YW h)).map λo=>(o.cls,o.dict,o.data))=some (.type "module",some builtinsNs,.plain)) (lc:(h.get? (Pr h)).map (·.cls)=some (.type "code"))
theorem Lk.of (e:Yf h=K_):Lk h:=by unfold Yf K_ at e;simp only[Prod.mk.injEq]at e;exact⟨e.1,e.2.1,e.2.2.1,e.2.2.2.1,e.2.2.2.2.1,e.2.2.2.2.2.1,e.2.2.2.2.2.2.1,e.2.2.2.2.2.2.2⟩
inductive Ck (h:Heap):Prop
 |mk (g:h.isNs mainGlobals=true) (b:h.isNs builtinsNs=true) (s:h.isNs cStatics=true) (rl:h.nsMap cStatics (Str.ofString "sys.recursionlimit")=none) (sm:∃o,h.get? sysModules=some o) (pg:mainGlobals≠pH h) (pb:builtinsNs≠pH h) (ps:cStatics≠pH h) (pm:sysModules≠pH h) (pl:Pr h≠pH h) (code:codeB h=true) (bmb:bmB h=true) (fns:∀p∈SW,TC h p.1 (Jr h p.2)=true/\keepIn (KH h) (.ref (Jr h p.2))=true) (cls:∀p∈TW,TC h p.1 (gj h p.2)=true/\keepIn (KH h) (.ref (gj h p.2))=true) (nums:∀p∈RF,VW h p=true) (mth:O3 h=true) (ini:P3 h=true) (fn:∀f∈range 85,fnB h f=true) (kP:∀p∈KH h,p.1≠pH h)
theorem Ck.of (e:BN h=true):Ck h:=by unfold BN at e;simp only[Da,Ra,beq_eq_false_iff_ne,all_eq_true,Option.isNone_iff_eq_none,Option.isSome_iff_exists,ne_eq]at e;erw[hide λw k=>?_];obtain⟨⟨⟨⟨⟨⟨⟨⟨⟨⟨⟨⟨⟨⟨⟨⟨⟨⟨t,s⟩,r⟩,q⟩,p⟩,o⟩,n⟩,m⟩,l⟩,j⟩,v⟩,u⟩,i⟩,g⟩,f⟩,d⟩,c⟩,b⟩,a⟩:=e;erw[k ?_];clear k;exact⟨t,s,r,q,p,o,n,m,l,j,v,u,i,g,f,d,c,b,a⟩
theorem jr {b:Type}{o:Option b}{f:b->Bool}(h:zN o f=true):∃a,o=some a/\f a=true:=by
 cases o with
 |none=>exact ft h|some a=>exact⟨a,rfl,h⟩
theorem rp {a:Addr}{o:Obj}(b:a≠pH h)(e:h.get? a=some o):(Mo w os h).jj a=some o:=(Dc b).trans e
theorem QK {a:Addr}{o:Obj}(e:(Mo w os h).jj a=some o):h.get? a=some o/\a≠pH h:=by
 haveI e:(if a=pH h then none else h.get? a)=some o:=e;split at e
 ·erw[nn e]
 ·rename_i q;exact⟨e,q⟩
theorem iA {a:Addr}(n:h.isNs a=true)(b:a≠pH h):lO (Mo w os h).jj a (h.nsMap a):=by erw[We (Heap.Ns.of_isNs n) λo c d e r=>⟨o,c,d,rp b e,r⟩]
theorem RK:Io (sF.map Str.ofString)=true:=by kernel_rfl
theorem T8:((sF.map Str.ofString).all PyData.strOk)=true:=by kernel_rfl
theorem OY:((sF.map Str.ofString)[5]?,(sF.map Str.ofString)[4]?,(sF.map Str.ofString)[6]?)=(some (Str.ofString "q"),some (Str.ofString "0"),some (Str.ofString "q"++Str.ofString "0")):=by kernel_rfl
theorem PY {i j k:Nat}(e:vq i j=some k):i=5/\j=4/\k=6:=by
 unfold vq at e;split at e
 ·obtain rfl:=(oa e);exact⟨rfl,rfl,rfl⟩
 ·erw[nn e]
theorem U8 (k:Ck h):Bs (Mo w os h) (Ly h) (I_ h):=
 .mk
 (g:=iA k.1 k.6)
 (b:=iA k.2 k.7)
 (lim:=⟨_,iA k.3 k.8,k.4⟩)
 (sxn:=Jo RK)
 (sxl:=by show(sF.map Str.ofString).length<=1000;rw[aa];decide)
 (sxo:=Ja T8)
 (sm:=by obtain⟨o,e⟩:=k.5;exact⟨o,rp k.9 e⟩)
 (cat:=λi j k e=>by
  erw[pj (PY e) λd c a=>?_];subst d;subst c;subst a;have s:=OY;simp only[Prod.mk.injEq]at s
  exact⟨_,_,s.1,s.2.1,s.2.2,by decide+kernel⟩)
theorem Oi {c d:Type}[BEq c][LawfulBEq c]{a:c}{b:d}:∀{l:List (c×d)},l.lookup a=some b->(a,b)∈l
 |[],e=>by exact nn e
 |(x,y)::r,e=>by
  rw[Uc]at e;cases q:a==x with
  |true=>rw[q]at e;obtain rfl:=(oa e);rw[ub q];exact .head _
  |false=>rw[q]at e;exact .tail _ (Oi e)
theorem V8 (k:Ck h){a:Addr}{o:Obj}(e:(KH h).lookup a=some o):(Mo w os h).jj a=some o:=by haveI m:(a,o)∈KH h:=Oi e;erw[rp (k.19 _ m) (Sd (List.mem_filterMap.mp m) λb _ q=>(Sd (Ia q) λf d c=>?_))];cases c;exact d
theorem SK (k:Ck h){v:Value}(e:keepIn (KH h) v=true):Kp (Mo w os h) v:=Kp.ofK (λ_ _=>V8 k) e
theorem Ig (k:Nat):gj h k=gj h (min k 4)/\Ms k=Ms (min k 4)/\min k 4<5:=by
 match k with
 |0|1|2|3|4=>exact⟨rfl,rfl,akq⟩|k+5=>exact⟨rfl,rfl,by rw[Nat.min_eq_right (by exact ee 0x51c0b41c3 rfl)];decide⟩
theorem Yk (l:Lk h)(k:Nat):My h (min k 4)=(some (some (.builtin "object.__getattribute__")),some none,some (some (.builtin "object.__setattr__")),true,true,true,UC,replicate 14 (some none)):=by haveI e:=Fc (λl=>l[min k 4]?) l.4;haveI a:=(Ig (h:=h) k).2.2;simp only[za,List.getElem?_range a,Option.map_some,List.getElem?_replicate,a,if_true,Option.some.injEq]at e;erw[e]
theorem Ct {o:Option (Option Value)}{a:Addr}(e:findR o=some a):o=some (some (.ref a)):=by
 match o,e with
 |some (some v),e=>
  have e:Xl v=some a:=e;cases v<;>first|(first|exact nn e|obtain rfl:=(oa e);done)|skip
  obtain rfl:=(oa e);rfl
theorem Jn {v:Value}{a:Addr}(e:Xl v=some a):v=.ref a:=by
 cases v<;>first|(first|exact nn e|obtain rfl:=(oa e);done)|skip
 obtain rfl:=(oa e);rfl
end
section
variable {os:OsState}
theorem eC (e:mq k m=some f):k<5/\m<22:=by
 haveI key:∀l:List (Nat×Nat),(l.all λp=>p.1<22)=true->l.lookup m=some f->m<22:=λl a e=>Sb (Ja a _ (Oi e))
 match k,e with
 |0,e=>exact⟨akq,key _ akq e⟩|1,e=>exact⟨akq,key _ akq e⟩|3,e=>exact⟨akq,key _ akq e⟩|4,e=>exact⟨akq,key _ akq e⟩
theorem TK (k:Ck h)(e:mq j m=some f):findIn (KH h) (.ref (gj h j)) (fW m)=some (some (.ref (Jr h f)))/\keepIn (KH h) (.ref (Jr h f))=true:=by erw[eA (eC e) λb a=>?_];haveI q:=Ja (Ja k.16 j (Xa b)) m (Xa a);rw[e]at q;rw[Da,Zc]at q;exact⟨Ct q.1,q.2⟩
theorem BP (l:Lk h)(e:mq j m=some f):typeIn (KH h) (.ref (Jr h f))=UC:=by obtain⟨b,a⟩:=eC e;haveI q:typeIn (KH h) (.ref (Jr h f))∈Ny h:=List.mem_flatMap.mpr ⟨j,Xa b,List.mem_filterMap.mpr ⟨m,Xa a,by rw[e];rfl⟩⟩;rw[l.6]at q;exact(mem_replicate.mp q).2
theorem RY:((sF.map Str.ofString).all λx=>(RW.map Str.ofString).all λy=>!(y==x))=true:=by kernel_rfl
theorem CP (m:Nat):fW m∈RW.map Str.ofString:=by
 unfold fW;rw[Ga];cases e:(RW.map Str.ofString)[m]? with
 |none=>exact .head _|some x=>exact Eb e
theorem W8 (k:Ck h)(l:Lk h):Kb (Mo w os h) (AP h) mq Ms:=
 .mk
 (inT:=λ_ _=>V8 k)
 (ga:=λj=>by have e:=Yk l j;exact(Fc (λv=>findIn (KH h) (.ref v) _) (Ig (h:=h) j).1).trans (Fc (·.1) e))
 (gx:=λj=>by have e:=Yk l j;exact(Fc (λv=>findIn (KH h) (.ref v) _) (Ig (h:=h) j).1).trans (Fc (·.2.1) e))
 (sa:=λj=>by have e:=Yk l j;exact(Fc (λv=>findIn (KH h) (.ref v) _) (Ig (h:=h) j).1).trans (Fc (·.2.2.1) e))
 (pl:=λj=>by have e:=Yk l j;exact(Fc (plainOver (KH h)) (Ig (h:=h) j).1).trans (Fc (·.2.2.2.1) e))
 (hd:=λj=>by have e:=Yk l j;exact(Fc (λv=>(clsIn (KH h) v).any (·.hasDict)) (Ig (h:=h) j).1).trans (Fc (·.2.2.2.2.1) e))
 (fl:=λj f x a b=>by
  haveI e:(((range 48).filter Ky).map λf=>findIn (KH h) (.ref (gj h (min j 4))) ((sF.map Str.ofString).getD f (Str.ofString "lut")))=replicate 14 (some none):=Fc (·.2.2.2.2.2.2.2) (Yk l j);haveI a:Ky f=true:=a;haveI b:(sF.map Str.ofString)[f]?=some x:=b;haveI hm:f∈(range 48).filter Ky:=mem_filter.mpr ⟨Xa (by unfold Ky at a;rw[Da]at a;exact Sb a.2),a⟩;haveI q:findIn (KH h) (.ref (gj h (min j 4))) x∈replicate 14 (some (none:Option Value)):=by
   rw[<-e];erw[mem_map.mpr ⟨f,hm,by rw[Ga,b];rfl⟩]
  exact(Fc (λv=>findIn (KH h) (.ref v) _) (Ig (h:=h) j).1).trans (mem_replicate.mp q).2)
 (mkc:=λj=>by have e:=Yk l j;exact(Fc (makesIn (KH h)) (Ig (h:=h) j).1).trans (Fc (·.2.2.2.2.2.1) e))
 (ini:=λj=>by
  haveI q:=Ja k.17 _ (Xa (Ig (h:=h) j).2.2);rw[<-(Ig (h:=h) j).1,<-(Ig (h:=h) j).2.1]at q
  exact Ct (ub q))
 (inf:=λj=>by have e:=Yk l j;exact(Fc (λv=>typeIn (KH h) (.ref (Jr h v))) (Ig (h:=h) j).2.1).trans (Fc (·.2.2.2.2.2.2.1) e))
 (mth:=λj m f e=>⟨(TK k e).1,BP l e⟩)
 (mns:=λm q=>by
  have z:=Ja (Ja RY _ q) _ (CP m);haveI z:(!(fW m==fW m))=true:=z
  rw[Pa]at z;exact ft z)
 (m0:=rfl)
 (m1:=rfl)
 (m2:=rfl)
 (m3:=rfl)
theorem jA (e:TC h x a=true):Ly h x=some (.ref a):=by unfold TC at e;erw[Sd (fb (ub e)) λv c b=>?_];rw[c,Jn b]
theorem sE:(jB.all λp=>(Bo p.2).map (·.1)==some p.1)=true:=by kernel_rfl
theorem UK (k:Ck h)(l:Lk h):Y_ (Mo w os h) (Ly h):=
 .mk
 (hd:=λI r=>by
  haveI q:=k.11;erw[Sd (jr q) λb j q=>(Sd (fb j) λo n e=>?_)];haveI hd:o.data=.fields b:=by
   unfold SC at e;split at e
   ·rename_i z;obtain rfl:=(oa e);exact z
   ·erw[nn e]
  haveI H:((b[11]?).bind Xl)=some (pH h):=by
   haveI:pH h=((((h.get? (Pr h)).bind SC).bind λb=>(b[11]?).bind Xl)).getD 0:=rfl;rw[j]at this;cases z:(b[11]?).bind Xl with
   |some a=>rw[this];show some a=some (((b[11]?).bind Xl).getD 0);rw[z];rfl
   |none=>
    simp only[Da]at q;haveI c:=q.1.1.1.1;rw[Array.getD_eq_getD_getElem?]at c;have c:=c;cases m:b[11]? with
    |none=>rw[m]at c;exact ft c
    |some v=>rw[m]at c z;cases v<;>first|(exact ft c;done)|exact ns z
  erw[Sd (fb H) λv s m=>?_];haveI y:=Jn m;subst y;haveI lc:=l.8;rw[n]at lc;haveI J:∀i,b.getD i .none=(b[i]?).getD .none:=λi=>by rw[Array.getD_eq_getD_getElem?]
  simp only[Da]at q;obtain⟨⟨⟨⟨c,g⟩,f⟩,d⟩,u⟩:=q;obtain⟨O,C,G⟩:∃a t,b.getD 18 .none=.str a t:=by cases z:b.getD 18 .none<;>rw[z]at g<;>first|(exact ft g;done)|exact⟨_,_,rfl⟩
  obtain⟨N,B,F⟩:∃a t,b.getD 7 .none=.int a t:=by cases z:b.getD 7 .none<;>rw[z]at f<;>first|(exact ft f;done)|exact⟨_,_,rfl⟩
  obtain⟨M,E⟩:∃a,b.getD 9 .none=.bool a:=by cases z:b.getD 9 .none<;>rw[z]at d<;>first|(exact ft d;done)|exact⟨_,rfl⟩
  obtain⟨L,A,D⟩:∃a t,b.getD 10 .none=.int a t:=by cases z:b.getD 10 .none<;>rw[z]at u<;>first|(exact ft u;done)|exact⟨_,_,rfl⟩
  exact⟨o,b,O,C,N,B,M,L,A,r _ _ (rp k.10 n),oa lc,hd,s,by rw[J,s];rfl,G,F,E,D,k.10⟩)
 (gP:=k.6)
 (bt:=λI r=>by
  have q:=k.12;unfold bmB at q;simp only[Da,Ra,beq_eq_false_iff_ne,Option.isSome_iff_exists]at q;obtain⟨⟨⟨⟨a,c⟩,g⟩,f⟩,d⟩:=q;erw[Sd (fb c) λv j n=>?_];have e:=Jn n;subst e;have K:YW h=a:=by unfold YW RC;rw[j];rfl
  haveI bm:=l.7;erw[Sd (Ia bm) λo x p=>?_];simp only[Prod.mk.injEq]at p;rw[K]at g f d x
  exact⟨a,o,j,g,f,d,r _ _ (rp d x),p.1,p.2.1,p.2.2⟩)
set_option tactic.hygienic true in
theorem SY (k:Ck h)(l:Lk h)(n:Nat):BF (Mo w os h) (Ce X n) (AP h) G0 (Ly h) (I_ h):=
 .mk
 (bs:=U8 k)
 (kb:=W8 k l)
 (h4:=rfl)
 (fns:=λx f e=>⟨jA (k.13 _ (Oi e)).1,SK k (k.13 _ (Oi e)).2⟩)
 (cls:=λx j e=>⟨jA (k.14 _ (Oi e)).1,SK k (k.14 _ (Oi e)).2⟩)
 (qx:=λx b e=>by
  haveI m:=Oi e;haveI q:=List.map_inj_left.mp l.5 _ m;haveI z:=ub (Ja sE _ m);obtain⟨⟨y,d⟩,c,a⟩:=Ia z;simp only[Prod.mk.injEq]at q;haveI a:y=x:=a;subst a
  exact⟨q.1,d,c,by rw[q.2,c];rfl⟩)
 (nums:=λx i e=>by
  haveI q:=k.15 _ (Oi e);unfold VW at q;split at q
  ·rename_i j t z;exact⟨t,by rw[<-show j=i from ub q];exact z⟩
  ·exact ft q)
 (sx:=rfl)
 (fld:=rfl)
 (mn:=λm x e=>by
  show fW m=x;unfold fW
  rw[Ga,show(RW.map Str.ofString)[m]?=some x from e];rfl)
 (kp:=λj m f e=>SK k (TK k e).2)
 (nI:=rfl)
 (lm:=UK k l)
end
theorem No:∀(names:List (Str×NameKind))(n:Nat)(a:List (Str×Addr)),(a.lookup x).isSome=true->((cellsFrom n names a).lookup x).isSome=true
 |[],_,_,e=>e|(y,k)::r,n,a,e=>by
  unfold cellsFrom;split
  ·erw[No r _ _ ?_];rw[Uc];split
   ·rfl
   ·erw[e]
  ·erw[No r _ _ e]
theorem Oo:∀(names:List (Str×NameKind))(n:Nat)(a:List (Str×Addr)),names.lookup x=some .cell->((cellsFrom n names a).lookup x).isSome=true
 |[],_,_,e=>by exact nn e
 |(y,k)::r,n,a,e=>by
  rw[Uc]at e;unfold cellsFrom;cases q:x==y with
  |true=>
   rw[q]at e;obtain rfl:=(oa e);rw[Ec (by rfl)];erw[No r _ _ (by rw[Uc,q];rfl)]
  |false=>
   rw[q]at e;split
   ·erw[Oo r _ _ e]
   ·erw[Oo r _ _ e]
section
variable {os:OsState}
theorem TY (e:J_ h f=some fd):∃o,h.get? (Jr h f)=some o/\o.data=.func fd:=by
 erw[Sd (fb e) λo b a=>⟨o,b,?_⟩];unfold I3 at a;split at a
 ·rename_i z;obtain rfl:=(oa a);exact z
 ·erw[nn a]
theorem UY (e:o.bind G3=some q):∃t,o=some (.str q t):=by
 erw[Qf o (fb e) λv e=>?_];cases v<;>first|(first|exact nn e|obtain rfl:=(oa e);done)|skip
 obtain rfl:=(oa e);exact⟨_,rfl⟩
set_option tactic.hygienic true in
theorem DP (k:Ck h)(l:Lk h)(e:X.fn f=some d):∃J nm g ke ks,EH (Mo w os h) (AP h) f d J nm g/\d.body=g.map (cS G0 ke ks J nm):=by
 haveI e:XF[f]?=some d:=e;rw[<-R8,za]at e;erw[Ef d (Ia e) λs F=>?_];have hf:f<85:=by
  haveI c:=Fc List.length R8;rw[aa]at c;haveI r:=(Fa F).1;rw[c]at r;exact r
 haveI row:TF h f=Oy s:=by
  haveI c:=Fc (λl=>l[f]?) l.2;simp only[za,List.getElem?_range hf,F,Option.map_some,Option.some.injEq]at c;erw[c]
 erw[Sd (Ia row) λE c r=>?_];simp only[Prod.mk.injEq]at r;erw[eA r λXg u=>(fj Xg λp r2 r3 Bk=>(fj Bk λr4 r5 Z K=>(Sd (TY c) λo ho hd=>?_))),haveI q:=k.18 f (Xa hf);?_,Sd (jr q) λfd' b q=>?_];rw[c]at b;obtain rfl:=(oa b);rw[Da]at q;obtain⟨m,v⟩:=q;erw[Sd (jr v) λG H v=>?_];simp only[Da,Ra,beq_eq_false_iff_ne,ne_eq]at v;obtain⟨c2,c3⟩:=v;rw[H]at u;erw[Sd (fb u) λcd' c0 u=>?_];obtain rfl:=(oa c0);erw[Sd (fb u) λI c4 c5=>(Sd (fb c4) λL c6 y=>?_)];have D:L.data=.fields I:=by
  unfold SC at y;split at y
  ·rename_i z;obtain rfl:=(oa y);exact z
  ·erw[nn y]
 obtain⟨t,c8⟩:=UY c5;haveI N:=Jn H;haveI A:=Ja PK (s,f) (List.mem_zipIdx_iff_getElem?.mpr F);unfold CR at A;simp only[Da,isEmpty_iff,Option.isNone_iff_eq_none,Zc,all_eq_true,bne_iff_ne,Ra,Rb,decide_eq_true_eq,ne_eq]at A;erw[hide λZz O=>?_];obtain⟨⟨⟨⟨⟨⟨⟨⟨⟨⟨⟨⟨Y,W⟩,V⟩,U⟩,T⟩,i⟩,S⟩,R⟩,Q⟩,C⟩,X0⟩,Y0⟩,B⟩:=A;erw[O ?_];clear O;refine⟨s.2.2.2.1,jv s.2.2.2.1,s.2.2.2.2,40,12,⟨⟨o,E,rp c3 ho,hd,r3,⟨r2,r4,r5,Z,⟨by rw[p];exact Y,by rw[p];exact W,by rw[p];exact V,by rw[p];exact U,by rw[p];exact T⟩,?_,λhl=>?_,S,rfl,R,Jo Q,C,λ_ _ e=>Oo _ _ _ e,λx e=>X0 _ (Oi e) rfl⟩,G,L,I,t,N,rp c2 c6,D,by rw[K];exact c8⟩,Y0,B⟩,rfl⟩
 ·unfold M3 at m;revert m;cases E.defaults<;>intro m<;>first|exact .inl rfl|(exact ft m;done)|skip
  rename_i a;simp only[Da,Ra,beq_eq_false_iff_ne,ne_eq]at m;obtain⟨b,P⟩:=m;cases ez:h.get? a with
  |none=>rw[ez]at b;exact ft b
  |some M=>
   rw[ez]at b;haveI b:UW M=true:=b;unfold UW at b;split at b
   ·rename_i j n z;exact .inr ⟨a,M,j,n,rfl,rp P ez,z⟩
   ·erw[ft b]
 ·rcases i with i|i
  ·rw[hl]at i;exact tf i
  ·refine⟨?_,by rw[K];exact i.2⟩;haveI:Pr h=G:=by
    unfold Pr;rw[<-i.1,c];show(Xl E.code).getD 0=G;rw[H];rfl
   rw[N];exact Fc Value.ref this.symm
theorem EP (k:Ck h)(l:Lk h):HI (Mo w os h) (AP h) G0 X (Ly h) (I_ h):=⟨SY k l,λ_ _ e=>DP k l e⟩
end
end
section
theorem ahX {v:MV}:Yd P (.cst v) L H Q=Q v H:=rfl
theorem uv {i:Nat}:Yd P (.loc i) L H Q=(L.getD i .td).Zg λv=>Q v H:=rfl
theorem VY {o:Operator}{a b:ME}:Yd P (.bin o a b) L H Q=Yd P a L H λx c=>Yd P b L c λy H2=>eg o x y H2 Q:=rfl
theorem ahY {a:ME}:Yd P (.neg a) L H Q=Yd P a L H λx b=>x.Dg λi=>Q (.int (-i)) b:=rfl
theorem ahZ {a:ME}:Yd P (.not a) L H Q=Yd P a L H (ul λt=>Q (.bool (!t))):=rfl
theorem ah0 {o:CmpOp}{a b:ME}:Yd P (.cmp o a b) L H Q=Yd P a L H λx c=>Yd P b L c λy H2=>xg o x y H2 Q:=rfl
theorem ah1 {a b:ME}:Yd P (.and a b) L H Q=Yd P a L H λx=>ul (λt c=>(t=true->Yd P b L c Q)/\(t=false->Q x c)) x:=rfl
theorem eOr {a b:ME}:Yd P (.or a b) L H Q=Yd P a L H λx=>ul (λt c=>(t=true->Q x c)/\(t=false->Yd P b L c Q)) x:=rfl
theorem ah2 {c a b:ME}:Yd P (.ite c a b) L H Q=Yd P c L H (ul λt d=>(t=true->Yd P a L d Q)/\(t=false->Yd P b L d Q)):=rfl
theorem eFn {f:Nat}{a:qh}:Yd P (.fn f a) L H Q=zh P a L H λvs b=>P.call f vs b Q:=rfl
theorem eNew {f:Nat}{a:qh}:Yd P (.new f a) L H Q=zh P a L H λvs b=>jG P f vs b Q:=rfl
theorem VK {o:ME}{m:Nat}{a:qh}:Yd P (.Kg o m a) L H Q=Yd P o L H λx b=>Ng P m x b/\zh P a L b λvs H2=>Lg P m x vs H2 Q:=rfl
theorem X8 {o:ME}{f:Nat}:Yd P (.attr o f) L H Q=Yd P o L H λx a=>Te x f a Q:=rfl
theorem Y8 {o i:ME}:Yd P (.sub o i) L H Q=Yd P o L H λx a=>Yd P i L a λy H2=>ak x y H2 Q:=rfl
theorem abn {o a b:ME}:Yd P (.slice o a b) L H Q=Yd P o L H λx d=>Yd P a L d λy H2=>Yd P b L H2 λz c=>Hj x y z c Q:=rfl
theorem abo {a:qh}:Yd P (.lst a) L H Q=zh P a L H λvs b=>vs.length<big/\alloc b (.list vs) Q:=rfl
theorem ah3 {a:qh}:Yd P (.tup a) L H Q=zh P a L H λvs b=>vs.length<big/\Q (.tup vs) b:=rfl
theorem ah4 {ks vs:qh}:Yd P (.qq ks vs) L H Q=zh P ks L H λa b=>zh P vs L b λbs H2=>(∀k∈a,k.key=true)/\alloc H2 (.dict (Ue a bs [])) Q:=rfl
theorem abp {b:Nat}{a:qh}:Yd P (.blt b a) L H Q=zh P a L H λvs c=>Ii b vs c Q:=rfl
theorem Sh {f:List (Option Nat)}{t:Tg}{c:ME}{cs:qh}{a:ME}:Yd P (.comp f t c cs a) L H Q=Yd P c L H λv e=>Ff v e λitems bg=>
 af bg (λx H2 K=>ri t x (Yi f L) λL'=>Du P cs L' H2 λb d=>(b=true->Yd P a L' d λr h=>K [r] h)/\(b=false->K [] d)) items [] e λg H'=>alloc H' (.list g) Q:=rfl
theorem WK {g:List (Option Nat)}{t b:Tg}{c d:ME}{a:ME}:Yd P (.Qs g t c b d a) L H Q=Yd P c L H λv f=>Ff v f λitems bg=>
 af bg (λx H2 K=>ri t x (Yi g L) λL'=>Yd P d L' H2 λh e=>Ff h e λl k=>
  af k (λy o m=>ri b y L' λj=>Yd P a j o λr n=>m [r] n) l [] e K) items [] f λi H'=>alloc H' (.list i) Q:=rfl
theorem WY {e:List (Option Nat)}{t:Tg}{c k v:ME}:Yd P (.sw e t c k v) L H Q=Yd P c L H λw d=>Ff w d λitems bg=>
 af bg (λx H2 K=>ri t x (Yi e L) λL'=>Yd P k L' H2 λa h=>Yd P v L' h λb g=>a.key=true/\K [a,b] g) items [] d
  λf H'=>alloc H' (.dict (yg f [])) Q:=rfl
theorem abq {e:ME}:Yd P (.P0 e) L H Q=Yd P e L H λv a=>kG v a Q:=rfl
theorem afg:zh P .nil L H Q=Q [] H:=rfl
theorem XY {e:ME}{r:qh}:zh P (.cons e r) L H Q=Yd P e L H λv a=>zh P r L a λvs H2=>Q (v::vs) H2:=rfl
theorem afh:Du P .nil L H R=R true H:=rfl
theorem abr {e:ME}{r:qh}:Du P (.cons e r) L H R=Yd P e L H (ul λt a=>(t=true->Du P r L a R)/\(t=false->R false a)):=rfl
theorem ah5:Kd P [] L H Q=Q .next L H:=rfl
theorem FP {i:Nat}{e:ME}:Kd P (.asg i e::r) L H Q=Yd P e L H λv a=>Kd P r (L.set i v) a Q:=rfl
theorem afi {is:List Nat}{e:ME}:Kd P (.Zl is e::r) L H Q=Yd P e L H λv a=>ri (.many is) v L λL'=>Kd P r L' a Q:=rfl
theorem afj {i j:Nat}{a b:ME}:Kd P (.swap i j a b::r) L H Q=Yd P a L H λx c=>Yd P b L c λy H2=>Kd P r ((L.set i x).set j y) H2 Q:=rfl
theorem afk {o e:ME}{f:Nat}:Kd P (.qi o f e::r) L H Q=Yd P e L H λv b=>Yd P o L b λx H2=>vo x f v H2 λa=>Kd P r L a Q:=rfl
theorem Z8 {o i e:ME}:Kd P (.dg o i e::r) L H Q=Yd P e L H λv c=>Yd P o L c λx H2=>Yd P i L H2 λy b=>Om x y v b λa=>Kd P r L a Q:=rfl
theorem ah6 {i:Nat}{op:Operator}{e:ME}:Kd P (.aug i op e::r) L H Q=(L.getD i .td).Zg λw=>Yd P e L H λv a=>Nm op w v a λx H2=>Kd P r (L.set i x) H2 Q:=rfl
theorem afl {o e:ME}{f:Nat}{op:Operator}:Kd P (.cG o f op e::r) L H Q=Yd P o L H λx g=>Te x f g λa H2=>Yd P e L H2 λv d=>Nm op a v d λy c=>vo x f y c λb=>Kd P r L b Q:=rfl
theorem afm {o i e:ME}{op:Operator}:Kd P (.tw o i op e::r) L H Q=Yd P o L H λx g=>Yd P i L g λy H2=>ak x y H2 λa f=>Yd P e L f λv d=>Nm op a v d λz c=>Om x y z c λb=>Kd P r L b Q:=rfl
theorem Ae {c:ME}{a b:List MS}:Kd P (.ifs c a b::r) L H Q=Yd P c L H (ul λt d=>(t=true->Kd P a L d λf L' H'=>match f with|.next=>Kd P r L' H' Q|f=>Q f L' H')/\(t=false->Kd P b L d λf L' H'=>match f with|.next=>Kd P r L' H' Q|f=>Q f L' H')):=rfl
theorem kA {t:Tg}{a:ME}{b:List MS}:Kd P (.Jl t a b::r) L H Q=Yd P a L H λv c=>Ff v c λitems bg=>Mh bg t (λL' H' K=>Kd P b L' H' K) items L c λf L' H'=>match f with|.next=>Kd P r L' H' Q|f=>Q f L' H':=rfl
theorem YY {e:ME}:Kd P (.ret e::r) L H Q=Yd P e L H λv a=>Q (.ret v) L a:=rfl
theorem afn:Kd P (.cont::r) L H Q=Q .cont L H:=rfl
theorem a9 {e:ME}:Kd P (.exp e::r) L H Q=Yd P e L H λ_ a=>Kd P r L a Q:=rfl
theorem qe {c:ME}{a b:List MS}(h:∀R:List MV->MH->Prop,(∀L' H',Kd P r L' H' Q->R L' H')->Yd P c L H (ul λt d=>(t=true->Kd P a L d λf L' H'=>match f with|.next=>R L' H'|f=>Q f L' H')/\(t=false->Kd P b L d λf L' H'=>match f with|.next=>R L' H'|f=>Q f L' H'))):Kd P (.ifs c a b::r) L H Q:=h _ λ_ _ x=>x
theorem Qd {t:Tg}{a:ME}{b:List MS}(h:∀(B:List MV->MH->(MF->List MV->MH->Prop)->Prop)(R:List MV->MH->Prop),(∀L' H' K,Kd P b L' H' K->B L' H' K)->(∀L' H',Kd P r L' H' Q->R L' H')->Yd P a L H λv c=>Ff v c λitems bg=>Mh bg t B items L c λf L' H'=>match f with|.next=>R L' H'|f=>Q f L' H'):Kd P (.Jl t a b::r) L H Q:=h _ _ (λ_ _ _ x=>x) λ_ _ x=>x
theorem yv {c:ME}{b:List MS}(I:Nat->List MV->MH->Prop)(n:Nat)(e:I n L H)(step:∀n L H,I n L H->ww P c L H λt d=>(t=true->Kd P b L d λf a H2=>match f with|.ret v=>Q (.ret v) a H2|_=>∃m,m<n/\I m a H2)/\(t=false->Kd P r L d Q)):Kd P (.Hi c b::r) L H Q:=by erw[Exists.intro I ⟨⟨n,e⟩,λn L H h=>?_⟩,haveI:=step n L H h;?_,this]
theorem Z0 {i:Int}{K:MV->Prop}:(MV.int i).Zg K=K (.int i):=rfl
theorem ZY {i:Bool}{K:MV->Prop}:(MV.bool i).Zg K=K (.bool i):=rfl
theorem aZ {K:MV->Prop}:MV.none.Zg K=K .none:=rfl
theorem B1 {i:Nat}{K:MV->Prop}:(MV.str i).Zg K=K (.str i):=rfl
theorem C1 {i:List MV}{K:MV->Prop}:(MV.tup i).Zg K=K (.tup i):=rfl
theorem D1 {i:Nat}{K:MV->Prop}:(MV.ref i).Zg K=K (.ref i):=rfl
theorem E1 {i j:Nat}{K:MV->Prop}:(MV.obj i j).Zg K=K (.obj i j):=rfl
theorem F1 {i j k:Int}{K:MV->Prop}:(MV.Il i j k).Zg K=K (.Il i j k):=rfl
theorem G1 {i:List Int}{K:MV->Prop}:(MV.Qy i).Zg K=K (.Qy i):=rfl
theorem I1 {i:Int}{K:Int->Prop}:(MV.int i).Dg K=K i:=rfl
theorem J1 {i:List MV}{K:List MV->Prop}:(MV.tup i).mB K=K i:=rfl
theorem K1 {i:Nat}{K:Nat->Prop}:(MV.ref i).rq K=K i:=rfl
theorem M1 {i:Nat}{K:Nat->Prop}:(MV.str i).onStr K=K i:=rfl
theorem N1 {i j:Nat}{K:Nat->Nat->Prop}:(MV.obj i j).nB K=K i j:=rfl
theorem b9 {b:Type}{a:b}{K:b->Prop}:Yn (some a) K=K a:=rfl
theorem u' {a:MV}{K:MV->Prop}:tF [a] K=K a:=rfl
theorem B' {a b:MV}{K:MV->MV->Prop}:V3 [a,b] K=K a b:=rfl
theorem C' {K:Prop}:U3 [] K=K:=rfl
theorem d9 {b:Bool}{Q:Bool->MH->Prop}:ul Q (.bool b) H=Q b H:=rfl
theorem D' {i:Int}{Q:Bool->MH->Prop}:ul Q (.int i) H=Q (i !=0) H:=rfl
theorem afo {a:MV}{l:List MV}:(a::l).getD 0 .td=a:=rfl
theorem afp {a:MV}{l:List MV}{n:Nat}:(a::l).getD (n+1) .td=l.getD n .td:=rfl
theorem ah7 {a b:MV}{l:List MV}:(a::l).set 0 b=b::l:=rfl
theorem sets {a b:MV}{l:List MV}{n:Nat}:(a::l).set (n+1) b=a::l.set n b:=rfl
theorem YM {P:Pg}{a b:ME}{L:List MV}{H:MH}{Q:Bool->MH->Prop}(h:Yd P a L H (ul λt c=>(t=true->Q true c)/\(t=false->Yd P b L c (ul Q)))):Yd P (.or a b) L H (ul Q):=(lG P a b L H Q).mpr h
theorem bZ {P:Pg}{a b:ME}{L:List MV}{H:MH}{Q:Bool->MH->Prop}(h:Yd P a L H (ul λt c=>(t=true->Yd P b L c (ul Q))/\(t=false->Q false c))):Yd P (.and a b) L H (ul Q):=(qB P a b L H Q).mpr h
def MH.le (H H':MH):Prop:=∀a o,H a=some o->H' a=some o
theorem MH.le.refl (H:MH):H.le H:=λ_ _ e=>e
theorem akr:type_of% @MH.le.refl:=@MH.le.refl
theorem MH.le.trans {H H' b:MH}(x:H.le H')(y:H'.le b):H.le b:=λa o e=>y a o (x a o e)
theorem MH.sd {H:MH}{a:Nat}{o:MO}:H.set a o a=some o:=Ec rfl
theorem MH.ud {H:MH}{a b:Nat}{o:MO}(h:b≠a):H.set a o b=H b:=Dc h
theorem MH.le.set {c H:MH}{a:Nat}{o:MO}(x:c.le H)(h:c a=none):c.le (H.set a o):=λb d e=>by
 rw[MH.ud (λq=>by rw[q,h]at e;exact nn e)];exact x b d e
theorem MH.le.fresh {b H:MH}{a:Nat}(x:b.le H)(h:H a=none):b a=none:=by
 cases e:b a with
 |none=>rfl|some o=>rw[x a o e]at h;exact ns h
theorem MH.le.new {b H:MH}{a:Nat}{o:MO}(x:b.le H)(h:H a=none):b.le (H.set a o):=x.set (x.fresh h)
theorem Gd {H:MH}{a b:Nat}{o:MO}(c:H a=some o)(d:H b=none):a≠b:=λe=>by rw[e,d]at c;exact nn c
theorem ge {H:MH}{a b:Nat}{o x:MO}(c:H b=some x)(d:H a=none):H.set a o b=some x:=by rw[MH.ud (Gd c d)];exact c
theorem dn {a b n:Nat}(h:a<=n+1)(e:Nat.ble (b+1) a=true:=by rfl):b<=n:=Hc (Ba (gc e) h)
theorem dm {a b n:Nat}(h:a<=n)(e:Nat.ble b a=true:=by rfl):b<=n:=Ba (gc e) h
theorem Of {d n:Nat}(h:d+1<=n):∃m,n=m+1:=⟨n-1,(Nat.succ_pred_eq_of_pos (Ma (Nat.succ_pos d) h)).symm⟩
theorem Ad {n f:Nat}{d:Fn}{a:List MV}{H:MH}{Q:MV->MH->Prop}(c:X.fn f=some d)(b:a.length=d.np)(h:Kd (Ce X n) d.body (a++replicate (d.nl-d.np) .td) H λfl _ H'=>Q (Af fl) H'):Fd X (n+1) f a H Q:=by haveI e:frameOf d a=some (a++replicate (d.nl-d.np) .td):=Ec b;haveI g:Yn (frameOf d a) λL=>Kd (Ce X n) d.body L H λfl _ H'=>Q (Af fl) H':=sf e h;erw[sf (K:=λd=>Yn (frameOf d a) λL=>Kd (Ce X n) d.body L H λfl _ H'=>Q (Af fl) H') c g]
theorem Th {bg:MH->Prop}{t:Tg}{b:List MV->MH->(MF->List MV->MH->Prop)->Prop}{items:List MV}{Q:MF->List MV->MH->Prop}{L:List MV}{H:MH}(I:Nat->List MV->MH->Prop) (n:I 0 L H) (j:∀k L H,I k L H->bg H)(step:∀k x L H (K:MF->List MV->MH->Prop),items[k]?=some x->I k L H->(∀a H2,I (k+1) a H2->K .next a H2)->(∀a H2,I (k+1) a H2->K .cont a H2)->(∀v a H2,Q (.ret v) a H2->K (.ret v) a H2)->ri t x L λL'=>b L' H K)(fin:∀L H,I items.length L H->Q .next L H):Mh bg t b items L H Q:=by
 haveI key:∀(c:List MV)(k:Nat)(L:List MV)(H:MH),items.drop k=c->k+c.length=items.length->I k L H->Mh bg t b c L H Q:=by
  intro c
  induction c with
  |nil=>
   intro k L H _ e d;obtain rfl:k=items.length:=e;exact⟨j _ L H d,fin L H d⟩
  |cons x r f=>
   intro k L H i e d;have m:items[k]?=some x:=by
    have:=Fc List.head? i;rw[List.head?_drop]at this;exact this
   have g:items.drop (k+1)=r:=by rw[<-List.tail_drop,i];rfl
   have l:k+1+r.length=items.length:=by rw[<-e,length_cons,Yb,Nat.add_comm 1]
   exact⟨j _ L H d,step k x L H _ m d (λa H2 h=>f (k+1) a H2 g l h) (λa H2 h=>f (k+1) a H2 g l h) λ_ _ _ h=>h⟩
 erw[key items 0 L H rfl (bc _) n]
theorem g9 {bg:MH->Prop}{b:MV->MH->(List MV->MH->Prop)->Prop}{items:List MV}{Q:List MV->MH->Prop}{H:MH}{c:List MV}(I:Nat->List MV->MH->Prop) (n:I 0 c H) (g:∀k a H,I k a H->bg H/\a.length<big)(step:∀k x a H (K:List MV->MH->Prop),items[k]?=some x->I k a H->(∀more H2,I (k+1) (a++more) H2->K more H2)->b x H K)(fin:∀a H,I items.length a H->Q a H):af bg b items c H Q:=by
 haveI key:∀(e:List MV)(k:Nat)(a:List MV)(H:MH),items.drop k=e->k+e.length=items.length->I k a H->af bg b e a H Q:=by
  intro e
  induction e with
  |nil=>
   intro k a H _ f d;obtain rfl:k=items.length:=f;exact⟨(g _ a H d).1,fin a H d⟩
  |cons x r j=>
   intro k a H i f d;have l:items[k]?=some x:=by
    have:=Fc List.head? i;rw[List.head?_drop]at this;exact this
   have m:items.drop (k+1)=r:=by rw[<-List.tail_drop,i];rfl
   have o:k+1+r.length=items.length:=by rw[<-f,length_cons,Yb,Nat.add_comm 1]
   exact⟨(g _ a H d).1,(g _ a H d).2,step k x a H _ l d λmore H2 h=>j (k+1) _ H2 m o h⟩
 erw[key items 0 c H rfl (bc _) n]
theorem Ud {n k:Nat}{f:Nat->MV}{x:MV}(h:((range n).map f)[k]?=some x):k<n/\x=f k:=by rw[za,Ha]at h;erw[Sd h λj d c=>?_];obtain⟨b,a⟩:=Fa d;rw[List.getElem_range]at a;subst a;exact⟨by rwa[Ca]at b,c.symm⟩
theorem Ze {hi:Nat}{H:MH}{K:List MV->(MH->Prop)->Prop}(a:hi<100000)(h:K ((range hi).map λ(i:Nat)=>.int i) λ_=>True):Ff (.Il 0 hi 1) H K:=by
 erw[.inl ⟨rfl,Int.le_refl _,akq,Ua _,by exact Int.lt_of_le_of_lt (b:=100000) (Lm 0x186a05c03186a05ce0b10 rfl (Nb a)) akq,?_⟩];haveI:(λ(i:Nat)=>MV.int (0+(i:Int)))=λ(i:Nat)=>MV.int i:=funext λi=>by rw[Int.zero_add]
 show K ((range ((hi:Int)-0).toNat).map λ(i:Nat)=>.int (0+i)) _;rw[this,Int.sub_zero];erw[h]
theorem ah8 {o:Operator}{x y:Int}:Nm o (.int x) (.int y) H Q=eg o (.int x) (.int y) H Q:=rfl
theorem Hh {a:Nat}(h:a<2^62):small a:=⟨Int.lt_of_lt_of_le akq (Ua a),Int.lt_of_lt_of_le (Nb h) akq⟩
theorem zg {a b:Nat}(h:Q (.int (a+b:Nat)) H):eg .Add (.int a) (.int b) H Q:=h
theorem zv {a b:Nat}(c:b<=a)(h:Q (.int (a-b:Nat)) H):eg .Sub (.int a) (.int b) H Q:=by show Q (.int ((a:Int)-b)) H;rw[<-Int.ofNat_sub c];exact h
theorem Av {a b:Nat}(d:a<2^62)(c:b<2^62)(h:Q (.int (a*b:Nat)) H):eg .Mult (.int a) (.int b) H Q:=⟨Hh d,Hh c,h⟩
theorem Cp {a b:Nat}(d:0<b)(c:b<2^30)(h:Q (.int (a/b:Nat)) H):eg .FloorDiv (.int a) (.int b) H Q:=⟨Int.natCast_pos.mpr d,Int.lt_of_lt_of_le (Nb c) akq,h⟩
theorem Bv {a b:Nat}(c:0<b)(h:Q (.int (a%b:Nat)) H):eg .Mod (.int a) (.int b) H Q:=⟨Int.natCast_pos.mpr c,h⟩
theorem Sj {b:Nat}(a:b<=100000)(h:Q (.int (2^b:Nat)) H):eg .Pow (.int 2) (.int b) H Q:=by refine⟨rfl,Ua _,by exact Lm 0x186a05c03186a05c010 rfl (Int.ofNat_le.mpr a),?_⟩;rw[Int.natCast_pow]at h;exact h
theorem xk {a b:Nat}(d:a<2^62)(c:b<=100000)(h:Q (.int (a*2^b:Nat)) H):eg .LShift (.int a) (.int b) H Q:=by refine⟨Hh d,Ua _,by exact Lm 0x186a05c03186a05c010 rfl (Int.ofNat_le.mpr c),?_⟩;rw[Int.natCast_mul,Int.natCast_pow]at h;exact h
theorem yk {a b:Nat}(h:Q (.int (a/2^b:Nat)) H):eg .RShift (.int a) (.int b) H Q:=by refine⟨Ua _,?_⟩;rw[Int.natCast_ediv,Int.natCast_pow]at h;exact h
theorem Tj {a b:Nat}(h:Q (.int (a&&&b:Nat)) H):eg .BitAnd (.int a) (.int b) H Q:=⟨Ua _,Ua _,h⟩
theorem iW {a b:Nat}(h:Q (.int (a|||b:Nat)) H):eg .BitOr (.int a) (.int b) H Q:=⟨Ua _,Ua _,h⟩
theorem Zi {a b:Nat}(h:Q (.int (a^^^b:Nat)) H):eg .BitXor (.int a) (.int b) H Q:=⟨Ua _,Ua _,h⟩
theorem abu {x y:List MV}(a:x.length+y.length<big)(h:Q (.tup (x++y)) H):eg .Add (.tup x) (.tup y) H Q:=⟨rfl,a,h⟩
theorem XK {p q:Nat}{x y:List MV}(c:H p=some (.list x))(b:H q=some (.list y))(d:x.length+y.length<big)(h:∀a,H a=none->Q (.ref a) (H.set a (.list (x++y)))):eg .Add (.ref p) (.ref q) H Q:=
 ue c (ue b ⟨d,h⟩)
theorem YK {p n:Nat}{v:MV}(b:H p=some (.list [v]))(c:n<big)(h:∀a,H a=none->Q (.ref a) (H.set a (.list (replicate n v)))):eg .Mult (.ref p) (.int n) H Q:=
 ue b ⟨Ua _,Nb c,h⟩
theorem i9 {p q:Nat}{x y:List MV}(b:H p=some (.list x))(a:H q=some (.list y))(d:x.length<big)(c:y.length<big)(h:Q (.ref p) (H.set p (.list (x++y)))):Nm .Add (.ref p) (.ref q) H Q:=
 ⟨rfl,ue b (ue a ⟨d,c,h⟩)⟩
theorem ah9 {a b:Int}:xg .Eq (.int a) (.int b) H Q=Q (.bool (a==b)) H:=rfl
theorem ah_ {a b:Nat}:xg .Eq (.str a) (.str b) H Q=Q (.bool (a==b)) H:=rfl
theorem cLt {a b:Int}:xg .Lt (.int a) (.int b) H Q=Q (.bool (decide (a<b))) H:=rfl
theorem cGt {a b:Int}:xg .Gt (.int a) (.int b) H Q=Q (.bool (decide (b<a))) H:=rfl
theorem cGe {a b:Int}:xg .GtE (.int a) (.int b) H Q=Q (.bool (decide (b<=a))) H:=rfl
theorem cNe {a b:MV}(h:eqv a b=some r)(k:Q (.bool (!r)) H):xg .NotEq a b H Q:=by erw[.inl ?_];unfold Cu;rw[h];exact k
theorem cEq {a b:MV}(h:eqv a b=some r)(k:Q (.bool r) H):xg .Eq a b H Q:=by show Cu a b H _;unfold Cu;rw[h];exact k
theorem Dl (a b:Nat):((a:Int)==(b:Int))=(a==b):=by rw[Bool.eq_iff_iff,Zc,Zc];exact Int.ofNat_inj
theorem zk {a b:Nat}(h:((a:Int)==(b:Int))=true):a=b:=by rw[Dl]at h;exact ub h
theorem Am {a b:Nat}(h:((a:Int)==(b:Int))=false):a≠b:=by rw[Dl]at h;exact ne_of_beq_false h
theorem tE {a b:Nat}(h:decide ((a:Int)<(b:Int))=true):a<b:=Int.ofNat_lt.mp (Sb h)
theorem fC {a b:Nat}(h:decide ((a:Int)<(b:Int))=false):b<=a:=Nat.not_lt.mp λk=>of_decide_eq_false h (Nb k)
theorem GP {a b:Nat}(h:Q (.bool (!(a==b))) H):xg .NotEq (.int a) (.int b) H Q:=cNe (r:=(a:Int)==(b:Int)) rfl (by rw[Dl];exact h)
theorem uE {a b:Nat}(h:Q (.bool (a==b)) H):xg .Eq (.int a) (.int b) H Q:=cEq (r:=(a:Int)==(b:Int)) rfl (by rw[Dl];exact h)
theorem ZK {a:MV}(h:a≠.td)(k:Q (.bool (MV.beq a .none)) H):xg .Is a .none H Q:=⟨rfl,oe h k⟩
theorem Dv {a:MV}(h:a≠.td)(k:Q (.bool (!(MV.beq a .none))) H):xg .IsNot a .none H Q:=⟨rfl,oe h k⟩
theorem abw {x:MV}{vs:List MV}(h:inv x vs=some r)(k:Q (.bool r) H):xg .In x (.tup vs) H Q:=sf h k
theorem jW {x:MV}{vs:List MV}(h:inv x vs=some r)(k:Q (.bool (!r)) H):xg .NotIn x (.tup vs) H Q:=sf h k
theorem cZ {x:MV}{p:Nat}{vs:List MV}(a:H p=some (.list vs))(h:inv x vs=some r)(k:Q (.bool r) H):xg .In x (.ref p) H Q:=rj a (sf h k)
theorem kW {x:MV}{p:Nat}{vs:List MV}(a:H p=some (.list vs))(h:inv x vs=some r)(k:Q (.bool (!r)) H):xg .NotIn x (.ref p) H Q:=rj a (sf h k)
theorem HP {x:MV}{p:Nat}{a:List (MV×MV)}(b:H p=some (.dict a))(h:x.key=true)(k:Q (.bool (ce a x).isSome) H):xg .In x (.ref p) H Q:=ql b ⟨h,k⟩
theorem Ix {x:MV}{p:Nat}{a:List (MV×MV)}(b:H p=some (.dict a))(h:x.key=true)(k:Q (.bool (!(ce a x).isSome)) H):xg .NotIn x (.ref p) H Q:=ql b ⟨h,k⟩
theorem Po {k n:Nat}(h:k<n):tj k n=some k:=by unfold tj;rw[Ec (Ua _),Ec (Nb h)];rfl
theorem Xe {vs:List MV}{k:Nat}{v:MV}(a:vs[k]?=some v)(b:vs.length<big)(h:Q v H):ak (.tup vs) (.int k) H Q:=
 ⟨b,sf (by rw[Po (Fa a).1];exact a) h⟩
theorem Ve {p:Nat}{vs:List MV}{k:Nat}{v:MV}(b:H p=some (.list vs))(a:vs[k]?=some v)(c:vs.length<big)(h:Q v H):ak (.ref p) (.int k) H Q:=
 rj b ⟨c,sf (by rw[Po (Fa a).1];exact a) h⟩
theorem Ll {p:Nat}{a:List (MV×MV)}{k v:MV}(c:H p=some (.dict a))(d:k.key=true)(b:ce a k=some v)(h:Q v H):ak (.ref p) k H Q:=ql c ⟨d,sf b h⟩
theorem putL {R:MH->Prop}{p:Nat}{vs:List MV}{k:Nat}{v:MV}(a:H p=some (.list vs))(c:k<vs.length)(b:vs.length<big)(h:R (H.set p (.list (vs.set k v)))):Om (.ref p) (.int k) v H R:=
 rj a ⟨Ua _,b,sf (Po c) h⟩
theorem putD {R:MH->Prop}{p:Nat}{a:List (MV×MV)}{k v:MV}(b:H p=some (.dict a))(d:k.key=true)(c:a.length<big)(h:R (H.set p (.dict (dput a k v)))):Om (.ref p) k v H R:=ql b ⟨d,c,h⟩
theorem Jx {k d f:Nat}{a:Nat->MV}(hd:H d=some (.ns a))(b:a f≠.td)(h:Q (a f) H):Te (.obj k d) f H Q:=oB hd (oe b h)
theorem Pi {R:MH->Prop}{k d f:Nat}{v:MV}{a:Nat->MV}(hd:H d=some (.ns a))(h:R (H.set d (.ns λx=>if x=f then v else a x))):vo (.obj k d) f v H R:=oB hd h
theorem afq {vs:List MV}:Ii 0 [.tup vs] H Q=(vs.length<big/\Q (.int vs.length) H):=rfl
theorem De {p:Nat}{vs:List MV}(a:H p=some (.list vs))(b:vs.length<big)(h:Q (.int vs.length) H):Ii 0 [.ref p] H Q:=
 sf (show((H p).bind MO.Pl).map List.length=some vs.length by rw[a];rfl) ⟨b,h⟩
theorem Bm {v:MV}{vs:List MV}(a:items? v H=some vs)(b:vs.length<big)(h:Q (.tup vs) H):Ii 2 [v] H Q:=sf a ⟨b,h⟩
theorem gC {v:MV}{vs:List MV}(b:items? v H=some vs)(c:vs.length<big)(h:∀a,H a=none->Q (.ref a) (H.set a (.list vs))):Ii 1 [v] H Q:=sf b ⟨c,h⟩
theorem Uj {p:Nat}{vs:List MV}(a:H p=some (.list vs)):items? (.ref p) H=some vs:=show(H p).bind MO.Pl=_ by rw[a];rfl
theorem aL {n:Nat}(a:n<big):items? (.Il 0 n 1) H=some ((range n).map λ(i:Nat)=>.int i):=by
 haveI h:(1:Int)=1/\(0:Int)<=0/\(0:Int)<big/\0<=(n:Int)/\(n:Int)<big:=⟨rfl,Int.le_refl _,Int.natCast_pos.mpr (ja (Ta n) a),Ua _,Nb a⟩;unfold items?;dsimp only;rw[Ec h];haveI:(λ(i:Nat)=>MV.int (0+(i:Int)))=λ(i:Nat)=>MV.int i:=funext λi=>by rw[Int.zero_add]
 rw[this,Int.sub_zero];rfl
theorem Rf {n:Nat}(a:n<2^62)(h:Q (.Il 0 n 1) H):Ii 8 [.int n] H Q:=⟨Hh a,h⟩
theorem eh {P:Pg}{p:Nat}{vs:List MV}{v:MV}(a:H p=some (.list vs))(b:vs.length<big)(h:Q .none (H.set p (.list (vs++[v])))):Lg P 0 (.ref p) [v] H Q:=ue a ⟨b,h⟩
theorem fh {P:Pg}{p:Nat}{vs:List MV}(a:H p=some (.list vs)):Ng P 0 (.ref p) H:=ue a trivial
theorem dZ {P:Pg}{p q:Nat}{vs ws:List MV}(c:H p=some (.list vs))(b:H q=some (.list ws))(d:vs.length<big)(a:ws.length<big)(h:Q .none (H.set p (.list (vs++ws)))):Lg P 1 (.ref p) [.ref q] H Q:=
 ue c (sf (show(H q).bind MO.Pl=some ws by rw[b];rfl) ⟨d,a,h⟩)
theorem j9 {P:Pg}{p:Nat}{vs ws:List MV}(b:H p=some (.list vs))(c:vs.length<big)(a:ws.length<big)(h:Q .none (H.set p (.list (vs++ws)))):Lg P 1 (.ref p) [.tup ws] H Q:=
 ue b (sf rfl ⟨c,a,h⟩)
theorem eZ {P:Pg}{p:Nat}{vs:List MV}(a:H p=some (.list vs)):Ng P 1 (.ref p) H:=ue a trivial
theorem abx {P:Pg}{p:Nat}{vs:List MV}{v:MV}(a:H p=some (.list (vs++[v])))(b:vs.length+1<big)(h:Q v (H.set p (.list vs))):Lg P 2 (.ref p) [] H Q:=
 ue a ⟨by rw[ua];exact b,sf List.getLast?_concat (by rw[List.dropLast_concat];exact h)⟩
theorem aby {P:Pg}{p:Nat}{vs:List MV}(a:H p=some (.list vs)):Ng P 2 (.ref p) H:=ue a trivial
theorem cL {P:Pg}{p:Nat}{a:List (MV×MV)}{k v:MV}(b:H p=some (.dict a))(c:k.key=true)(h:Q ((ce a k).getD v) H):Lg P 3 (.ref p) [k,v] H Q:=Ss b ⟨c,h⟩
theorem dL {P:Pg}{p:Nat}{a:List (MV×MV)}(b:H p=some (.dict a)):Ng P 3 (.ref p) H:=Ss b trivial
theorem Ih {P:Pg}{k d m f:Nat}{a:List MV}(b:P.Zf k m=some f)(h:P.call f (.obj k d::a) H Q):Lg P m (.obj k d) a H Q:=sf b h
theorem rObj {P:Pg}{k d m f:Nat}{a:Nat->MV}(b:P.Zf k m=some f)(hd:H d=some (.ns a)):Ng P m (.obj k d) H:=⟨by rw[b];rfl,a,hd⟩
theorem ve {p:Nat}{vs:List MV}{K:List MV->(MH->Prop)->Prop}(a:H p=some (.list vs))(h:K vs λH'=>H' p=some (.list vs)):Ff (.ref p) H K:=ue a h
theorem afr {vs:List MV}{K:List MV->(MH->Prop)->Prop}:Ff (.tup vs) H K=K vs λ_=>True:=rfl
theorem afs {i:Nat}{v:MV}{L:List MV}{Q:List MV->Prop}:ri (.one i) v L Q=Q (L.set i v):=rfl
theorem abz {is:List Nat}{vs:List MV}{L:List MV}{Q:List MV->Prop}:ri (.many is) (.tup vs) L Q=(vs.length=is.length/\Q (Jj is vs L)):=rfl
theorem eL {k:MV}:ce [] k=none:=rfl
theorem Jf {a b k:MV}{r:List (MV×MV)}:ce ((a,b)::r) k=if MV.beq a k=true then some b else ce r k:=by unfold ce;rw[List.find?_cons];cases MV.beq a k<;>rfl
theorem Kx {a b k v:MV}:(if MV.beq (a,b).1 k=true then((a,b).1,v)else(a,b))=(a,if MV.beq a k=true then v else b):=by cases h:MV.beq a k<;>rfl
theorem ie {d:List (MV×MV)}{k v f:MV}:ce (dput d k v) f=if MV.beq k f=true then some v else ce d f:=by
 unfold dput;by_cases c:d.any (λp=>MV.beq p.1 k)=true
 ·rw[Ec c];by_cases e:MV.beq k f=true
  ·rw[Ec e];obtain rfl:=MV.beq_eq _ _ e
   induction d with
   |nil=>exact ft c|cons p r g=>
    rw[yb,Kx,Jf];cases hb:MV.beq p.1 k with
    |true=>rfl|false=>
     rw[any_cons,hb]at c;erw[g c]
  ·rw[Dc e];clear c
   induction d with
   |nil=>rfl|cons p r g=>
    obtain⟨a,b⟩:=p;rw[yb,Kx,Jf,Jf,g];cases hb:MV.beq a k with
    |true=>
     obtain rfl:=MV.beq_eq _ _ hb;rw[Dc e,Dc e]
    |false=>rfl
 ·rw[Dc c]
  induction d with
  |nil=>exact Jf|cons p r g=>
   obtain⟨a,b⟩:=p;rw[any_cons,Rb,not_or]at c;rw[List.cons_append,Jf,Jf,g c.2];by_cases e:MV.beq k f=true
   ·obtain rfl:=MV.beq_eq _ _ e;rw[Dc c.1,Ec e,Ec e]
   ·rw[Dc e,Dc e]
theorem xf {a:List (MV×MV)}{k v:MV}:(dput a k v).length<=a.length+1:=by
 unfold dput;split
 ·rw[aa];exact Nat.le_succ _
 ·rw[ua];exact Qa _
end
section
variable {H H' H0 : MH} {Q : MV → MH → Prop} {K : MF → List MV → MH → Prop} {g : Nat → Nat → Bool}
theorem Vd (h:Nat.blt k 64=true):k<big:=ya (gc h) akq
abbrev iv (n:Nat):MV:=.int n
def Seq (H:MH)(v:MV)(ns:List Nat):Prop:=v=.tup (ns.map iv)\/∃p,v=.ref p/\H p=some (.list (ns.map iv))
theorem yf {ns:List Nat}{k x:Nat}(h:ns[k]?=some x):(ns.map iv)[k]?=some (iv x):=by refine Er za ?_;exact Er h rfl
theorem Seq.fL {v:MV}{ns:List Nat}(s:Seq H v ns):v≠.td:=by rcases s with rfl|⟨p,rfl,-⟩<;>exact MV.noConfusion
theorem Seq.len {v:MV}{ns:List Nat}(s:Seq H v ns)(a:ns.length<big)(h:Q (.int ns.length) H):Ii 0 [v] H Q:=by
 rw[<-aa (f:=iv)]at a h;rcases s with rfl|⟨p,rfl,hp⟩
 ·exact⟨a,h⟩
 ·erw[De hp a h]
theorem Seq.sub {v:MV}{ns:List Nat}{k x:Nat}(s:Seq H v ns)(b:ns[k]?=some x)(a:ns.length<big)(h:Q (.int x) H):ak v (.int k) H Q:=by
 rw[<-aa (f:=iv)]at a;have a:=a;rcases s with rfl|⟨p,rfl,hp⟩
 ·erw[Xe (yf b) a h]
 ·erw[Ve hp (yf b) a h]
def Uh (k:Nat):Nat:=2^2^k-1
def lr (i k:Nat):Nat:=Uh k^^^(Uh k/(2^2^i+1))
def gL (t i b k:Nat):Nat:=if b=1 then(t&&&lr i k)|||((t&&&lr i k)/2^2^i)else(t^^^(t&&&lr i k))|||((t^^^(t&&&lr i k))*2^2^i)
def vE (t i k:Nat):Bool:=!(gL t i 0 k==gL t i 1 k)
def Dj (t k:Nat):List Nat:=(range k).filter λi=>vE t i k
def Xp (m:Nat)(ns:List Nat)(k:Nat):Nat:=(range k).foldl (λrow j=>row|||((m/2^j&&&1)*2^(ns.getD j 0))) 0
def Ev (m:Nat)(ns:List Nat):Nat:=Xp m ns ns.length
def qr (t:Nat)(ns:List Nat)(k:Nat):Nat:=(range k).foldl (λres m=>res|||((t/2^(Ev m ns)&&&1)*2^m)) 0
def iL (t:Nat)(ns:List Nat)(k:Nat):Nat:=qr t ns (2^k)
def iC (t i k:Nat):Nat:=((t&&&lr i k)/2^2^i)|||((t^^^(t&&&lr i k))*2^2^i)
def Qe (t k:Nat):Nat:=qr t (Dj t k) (2^(Dj t k).length)
theorem Wf (a:k<=3):2^k<=8:=Ab akq a
theorem Oh (a:Nat):a&&&1<=1:=Nat.and_le_right
theorem Fv (d:1<=n)(c:k<=3)(h:Q (.int (Uh k:Nat)) H):Fd X n 32 [.int k] H Q:=by
 erw[Xh n (Of d) λn=>(Ad rfl rfl ?_),[Ae,p32],xk (a:=1) akq (ee 0x186a05c0331c010 rfl c) (xk (a:=1) akq ?_ ?_)]
 ·haveI:=Wf c;exact ee 0x186a05c011d381c010 rfl this
 ·erw[Er (Qb ..) (Er (Qb ..) ?_),zv (b:=1) (Nat.one_le_two_pow) h]
theorem lA (c:2<=n)(hi:i<3)(e:k<=3)(h:Q (.int (lr i k:Nat)) H):Fd X n 33 [.int i,.int k] H Q:=by erw[eE (Of c) λn j=>?_];subst j;haveI d:=Wf (Ib hi);haveI f:2^2^i<=2^8:=Ab akq d;erw[Ad rfl rfl ?_,[Ae,p33],Fv (Hc c) e ?_,[Ae],xk (a:=1) akq (ee 0x186a05c0331ce0b10 rfl hi) (Er (Qb ..) (xk (a:=1) akq (Ba d akq) (Er (Qb ..) (zg (b:=1) (Cp (Nat.succ_pos _) (ja (Wa f) akq) (Zi h))))))]
theorem jL (e:3<=n)(d:t<2^60)(hi:i<3)(j:k<=3)(h:Q (.int (gL t i b k:Nat)) H):Fd X n 34 [.int t,.int i,.int b,.int k] H Q:=by
 erw[eE (Of e) λn f=>?_];subst f;have l:2^i<=100000:=Ba (Wf (Ib hi)) akq;erw[Ad rfl rfl ?_,[Ae,p34],lA (Hc e) hi j (Tj ⟨λc=>?_,λc=>?_⟩)]
 ·erw[[Ae],xk (a:=1) akq (ee 0x186a05c0331ce0b10 rfl hi) (Er (Qb ..) (yk (iW ?_)))];unfold gL at h;rwa[Ec (zk (b:=1) c)]at h
 ·erw[[Ae],Zi ?_,[Ae],xk (a:=1) akq (ee 0x186a05c0331ce0b10 rfl hi) (Er (Qb ..) (xk (ya (Nat.xor_lt_two_pow d (ja Nat.and_le_left d)) akq) l (iW ?_)))];unfold gL at h;rwa[Dc (Am (b:=1) c)]at h
theorem fZ (a:4<=n)(c:t<2^60)(hi:i<3)(d:k<=3)(h:Q (.bool (vE t i k)) H):Fd X n 35 [.int t,.int i,.int k] H Q:=by obtain⟨n,rfl⟩:=Of a;erw[Ad rfl rfl ?_,[Ae,p35],jL (b:=0) (Hc a) c hi d (jL (b:=1) (Hc a) c hi d (GP h))]
theorem foldl_succ:(range (k+1)).foldl f a=f ((range k).foldl f a) k:=Er Xb (Er List.foldl_append rfl)
theorem Et:(range (j+1)).filter (λi=>vE t i k)=(range j).filter (λi=>vE t i k)++if vE t j k then[j]else[]:=by
 erw[Er (Xb ..) (Er (Vb ..) ?_)]
 congr 1
 erw[Er (Wb ..) (Er (List.filter_nil ..) rfl)]
theorem filter_le:((range k).filter f).length<=k:=by haveI:=List.length_filter_le f (range k);rwa[Ca]at this
theorem gZ (o:5<=n)(u:t<2^60)(c:k<=3)(h:∀p H',H.le H'->H' p=some (.list ((Dj t k).map iv))->Q (.ref p) H'):Fd X n 36 [.int t,.int k] H Q:=by
 obtain⟨n,rfl⟩:=Of o;erw[Ad rfl rfl ?_,[Ae,p36],⟨Vd rfl,λp l=>?_⟩,[Ae,kA],Rf (ja (m:=1000) (ee 0x3e83c0331c010 rfl c) akq) (Ze (ee 0x186a05ce0b331c010 rfl c) ?_),Th (λj d H'=>∃w,d=[.int t,.int k,.ref p,w]/\H.le H'/\H' p=some (.list (((range j).filter λi=>vE t i k).map iv))) ⟨_,rfl,(akr H).new l,MH.sd⟩ (λzz zz zz zz=>trivial) ?_ ?_]
 ·intro j x d H' K s y f _ _;erw[Qf d y λw r=>(eA r λa b=>(Ak x (Ud s) λq=>?_)),[Ae],fZ (Hc o) u (je 0x31ce0b331c1101e0b10 rfl q c) c ⟨λe=>⟨fh b,eh b (Er (aa ..) (ja filter_le (Ma q (Ba c akq)))) (f _ _ ⟨_,rfl,a.set l,(Er MH.sd (Er Et (Er e (Er Aa rfl))))⟩)⟩,λe=>f _ _ ⟨_,rfl,a,(Er b (Er Et (Er e (Er (Dc Na) (Er (ib ..) rfl)))))⟩⟩]
 ·intro d H' v;erw[Qf d v λw z=>(eA z λa b=>?_)];rw[aa,Ca]at b;erw[h p H' a b]
theorem Hv {m j:Nat}{ns:List Nat}:Xp m ns (j+1)=Xp m ns j|||((m/2^j&&&1)*2^(ns.getD j 0)):=foldl_succ
theorem Ft {m:Nat}{v:MV}{ns:List Nat}(p:1<=n)(c:Seq H v ns)(d:ns.length<100)(o:∀x∈ns,x<1000)(h:Q (.int (Ev m ns:Nat)) H):Fd X n 37 [.int m,v] H Q:=by
 obtain⟨n,rfl⟩:=Of p;erw[Ad rfl rfl ?_,[Ae,p37,kA],oe c.fL (c.len (ya d akq) (Rf (ja (m:=1000) (ee 0x3e83c03642ce0b10 rfl d) akq) (Ze (ee 0x186a05ce0b3642ce0b10 rfl d) ?_))),Th (λj e f=>f=H/\∃w,e=[.int m,v,.int (Xp m ns j:Nat),w]) ⟨rfl,_,rfl⟩ (λzz zz zz zz=>trivial) ?_ ?_]
 ·intro j x e f K a r l _ _;obtain⟨rfl,w,rfl⟩:=r;erw[Ak x (Ud a) λi=>?_];haveI a:=wa i;haveI k:=o _ (List.getElem_mem i);generalize ns[j]=b at a k;erw[[Ae],yk (Tj (b:=1) ?_),oe c.fL (c.sub a (ya d akq) (xk (ja (Oh _) akq) (Ba (Ib k) akq) (iW (l _ _ ⟨rfl,.int j,?_⟩))))];haveI:ns.getD j 0=b:=by refine Er Ga ?_;exact Er a rfl
  erw[Er Hv (Er this rfl)]
 ·intro e f q;obtain⟨rfl,w,rfl⟩:=q;erw[Er (aa ..) (Er (Ca ..) ?_),h]
theorem Cm {t k:Nat}{ns:List Nat}:qr t ns (k+1)=qr t ns k|||((t/2^(Ev k ns)&&&1)*2^k):=foldl_succ
theorem IP {t k:Nat}{ns:List Nat}(f:2<=n)(i:k<=3)(q:ns.length<100)(p:∀x∈ns,x<1000)(h:Q (.int (iL t ns k:Nat)) H):Fd X n 38 [.int t,.tup (ns.map iv),.int k] H Q:=by
 obtain⟨n,rfl⟩:=Of f;erw[Ad rfl rfl ?_,[Ae,p38,kA],xk (a:=1) akq (ee 0x186a05c0331c010 rfl i) (Er (Qb ..) ?_),haveI c:=Wf i;?_,Rf (ja (m:=1000) (ee 0x3e83c0381c010 rfl c) akq) (Ze (ee 0x186a05ce0b381c010 rfl c) ?_),Th (λj d e=>e=H/\∃w,d=[.int t,.tup (ns.map iv),.int k,.int (qr t ns j:Nat),w]) ⟨rfl,_,rfl⟩ (λzz zz zz zz=>trivial) ?_ ?_]
 ·intro j x d e K o u l _ _;obtain⟨rfl,w,rfl⟩:=u;erw[Ak x (Ud o) λr=>?_,[Ae],Ft (Hc f) (.inl rfl) q p (yk (Tj (b:=1) (xk (ja (Oh _) akq) (je 0x186a05c0381c1101e0b10 rfl r c) (iW (l _ _ ⟨rfl,.int j,?_⟩))))),Er Cm rfl]
 ·intro d e s;obtain⟨rfl,w,rfl⟩:=s;erw[Er (aa ..) (Er (Ca ..) ?_),h]
theorem wE {t k:Nat}(f:6<=n)(u:t<2^60)(l:k<=3)(h:∀p H',H.le H'->H' p=some (.list ((Dj t k).map iv))->Q (.tup [.int (Qe t k:Nat),.ref p]) H'):Fd X n 39 [.int t,.int k] H Q:=by
 obtain⟨n,rfl⟩:=Of f;erw[Ad rfl rfl ?_,[Ae,p39,kA],gZ (Hc f) u l λp z i e=>?_];haveI c:(Dj t k).length<=3:=Ba filter_le l;haveI hm:∀x∈Dj t k,x<1000:=λx d=>by haveI:=Mb (mem_filter.mp d).1;exact je 0x3e83ce0b331c1101e0b10 rfl this l
 haveI o:=Wf c;erw[[Ae],De e (Er (aa ..) (ja c akq)) (Er (aa ..) (xk (a:=1) akq (ee 0x186a05c0331c010 rfl c) (Er (Qb ..) (Rf (ja (m:=1000) (ee 0x3e83c0381c010 rfl o) akq) (Ze (ee 0x186a05ce0b381c010 rfl o) ?_))))),Th (λj q H'=>H'=z/\∃w,q=[.int t,.int k,.ref p,.int (qr t (Dj t k) j:Nat),w]) ⟨rfl,_,rfl⟩ (λzz zz zz zz=>trivial) ?_ ?_]
 ·intro j x q H' K d y r _ _;obtain⟨rfl,w,rfl⟩:=y;erw[Ak x (Ud d) λv=>?_,[Ae],Ft (dn f) (.inr ⟨p,rfl,e⟩) (ee 0x642ce0b331c010 rfl c) hm (yk (Tj (b:=1) (xk (ja (Oh _) akq) (je 0x186a05c0381c1101e0b10 rfl v o) (iW (r _ _ ⟨rfl,.int j,?_⟩))))),Er Cm rfl]
 ·intro q H' s;obtain⟨rfl,w,rfl⟩:=s;erw[Er (aa ..) (Er (Ca ..) ?_),[Ae],⟨Vd rfl,h p H' i e⟩]
theorem JP (a:t<2^b)(hi:i<3):iC t i k<2^(b+4):=by haveI d:2^i<=4:=Ab akq (Cb hi);haveI c:t&&&lr i k<2^b:=ja Nat.and_le_left a;erw[Nat.or_lt_two_pow (ja (Nat.div_le_self _ _) (Ma c (Ab akq (jb _ _)))) (Er (Nat.pow_add ..) (Nat.mul_lt_mul_of_lt_of_le (Nat.xor_lt_two_pow a c) (Ab akq d) akq))]
theorem KP (c:3<=n)(b:t<2^60)(hi:i<3)(d:k<=3)(h:Q (.int (iC t i k:Nat)) H):Fd X n 40 [.int t,.int i,.int k] H Q:=by obtain⟨n,rfl⟩:=Of c;haveI e:2^i<=100000:=Ba (Wf (Ib hi)) akq;erw[Ad rfl rfl ?_,[Ae,p40],lA (Hc c) hi d (Tj ?_),[Ae],xk (a:=1) akq (ee 0x186a05c0331ce0b10 rfl hi) (Er (Qb ..) (yk (Zi (xk (a:=1) akq (ee 0x186a05c0331ce0b10 rfl hi) ?_)))),Er (Qb ..) (xk (ya (Nat.xor_lt_two_pow b (ja Nat.and_le_left b)) akq) e (iW h))]
theorem kL {ns:List Nat}:(ns.map iv).all xh=true:=Er List.all_map (all_eq_true.mpr λzz zz=>rfl)
theorem hZ:∀{ns:List Nat},(ns.map iv).any (λy=>MV.beq y (iv i))=ns.any (·==i):=by
 intro l
 induction l with
 |nil=>
  erw[rfl]
 |cons a r b=>
  simp only[yb,any_cons,b];exact Fc (·||_) (Dl a i)
theorem mA {i:Nat}{ns:List Nat}:inv (iv i) (ns.map iv)=some (ns.any (·==i)):=by unfold inv;erw[Er kL (Er hZ rfl)]
def lowP (n:Nat):Nat:=if n%2=1 then 0 else if n/2%2=1 then 1 else 2
theorem lL:∀n:Nat,n<8->0<n->∀p:Nat,p<=lowP n->((n/2^p&&&1)==0)=decide (p<lowP n):=by decide
def Sl (k:Nat)(row:List Nat)(j:Nat):List (List Nat):=((range j).filter λi=>!(row.any (·==i))).map λi=>row++[i]
def Tl (k:Nat)(rows:List (List Nat)):List (List Nat):=rows.flatMap λr=>Sl k r k
def Jg (k:Nat):Nat->List (List Nat)
 |0=>[[]]|n+1=>Tl k (Jg k n)
def Vj (k:Nat):List (List Nat):=Jg k k
abbrev tv (r:List Nat):MV:=.tup (r.map iv)
theorem LP:MV.tup (r.map iv++[iv i])=tv (r++[i]):=Fc MV.tup (Aa (l₁:=r) (l₂:=[i])).symm
theorem sr:Sl k row (j+1)=Sl k row j++if row.any (·==j)=true then[]else[row++[j]]:=by
 unfold Sl;simp only[Xb,Vb,Aa]
 congr 1
 cases h:row.any (·==j)<;>simp[h]
theorem Ht:(Sl k row j).length<=j:=by unfold Sl;erw[Er (aa ..) filter_le]
theorem It:∀{a:List (List Nat)},(Tl k a).length<=a.length*k:=by
 intro l
 induction l with
 |nil=>
  simp only[List.length_nil,Nat.zero_mul];exact Qa _
 |cons r t b=>
  show(Sl k r k++Tl k t).length<=_;erw[Er (ua ..) (Er (length_cons ..) (Er (Nat.succ_mul ..) (Er (Nat.add_comm ..) ?_))),Nat.add_le_add b Ht]
theorem nA (b:k<=3):(Jg k n).length<=3^n:=by
 induction n with
 |zero=>exact Qa _|succ n a=>exact Ba It (by simp only[Nat.pow_succ];exact Nat.mul_le_mul a b)
theorem pA {k m:Nat}{a:List (List Nat)}{r:List Nat}(h:a[m]?=some r):Tl k (a.take (m+1))=Tl k (a.take m)++Sl k r k:=by erw[Er List.take_succ (Er h ?_)];unfold Tl;erw[Er Jb (Fc _ (ib _))]
theorem Dm:∀{n:Nat}{r:List Nat},r∈Jg k n->r.length=n/\∀x∈r,x<k:=by
 intro n
 induction n with
 |zero=>
  intro r h;erw[Er (ia h) ⟨rfl,λzz h=>nomatch h⟩]
 |succ n b=>
  intro r h;erw[Sd (List.mem_flatMap.mp h) λq c j=>(Ef r (Gb j) λi d=>(eA (b c) λf e=>⟨by exact Er ua (Er f rfl),λx a=>?_⟩)),Or.elim (Oa a) (λa=>(e x a)) (λa=>(Er (ia a) (Mb (mem_filter.mp d).1)))]
theorem iZ (j:1<=n)(k:t<8)(l:0<t)(h:Q (.int (lowP t:Nat)) H):Fd X n 43 [.int t] H Q:=by
 erw[eE (Of j) λn q=>?_];subst q;erw[Ad rfl rfl ?_,[Ae,p43],yv (λm f i=>i=H/\∃p:Nat,f=[.int t,.int p]/\p+m=lowP t) (lowP t) ⟨rfl,0,rfl,bc _⟩ ?_];intro m f i o;obtain⟨rfl,p,rfl,a⟩:=o;have e:p<=lowP t:=Nat.le_of_add_right_le (Ob a);unfold ww;erw[[Ae],yk (Tj (b:=1) (uE (b:=0) ?_))];simp only[lL t k l p e];refine⟨λc=>?_,λd=>?_⟩
 ·haveI c:=Sb c;erw[zg (b:=1) ⟨m-1,by exact je 0x1e0b31e0b11 rfl (ta (se 0x2e3120b121e0b10 rfl c a)),rfl,p+1,rfl,by exact Ka (oi 0x23e0bb31e3b11210b11 rfl a (ta (se 0x2e3120b121e0b10 rfl c a))) (oi 0x3e0bb231e3b12210b12 rfl a (ta (se 0x2e3120b121e0b10 rfl c a)))⟩]
 ·haveI d:=of_decide_eq_false d;obtain rfl:p=lowP t:=Ka e (Nat.not_lt.mp d);erw[h]
theorem xE {k:Nat}(W:1<=n)(t:k<=3)(h:∀p H',H.le H'->H' p=some (.list ((Vj k).map tv))->Q (.ref p) H'):Fd X n 41 [.int k] H Q:=by
 obtain⟨n,rfl⟩:=Of W;erw[Ad rfl rfl ?_,[Ae,p41,kA],⟨Vd rfl,Vd rfl,λp B=>?_⟩,Rf (ja (m:=1000) (ee 0x3e83c0331c010 rfl t) akq) (Ze (ee 0x186a05ce0b331c010 rfl t) ?_),Th (λj l H'=>∃p a b d e,l=[.int k,.ref p,a,b,d,e]/\H.le H'/\H p=none/\H' p=some (.list ((Jg k j).map tv))) ⟨p,_,_,_,_,rfl,(akr H).new B,B,MH.sd⟩ (λzz zz zz zz=>trivial) ?_ ?_]
 ·intro j x l H1 K v y u _ _;erw[hide λJ s=>(we y λp a b T=>(ff T λd e M c Ki=>(eA Ki λB f=>?_)))];subst M;erw[s ?_];clear s;erw[Ak x (Ud v) λL=>?_,[Ae,kA],⟨Vd rfl,λq A=>?_⟩,have C:=c.fresh A;?_,have F:=Gd f A;?_,ve (ge f A) ?_];refine Th (λm l H'=>∃d e,l=[.int k,.ref p,.int j,.ref q,d,e]/\H.le H'/\H' p=some (.list ((Jg k j).map tv))/\H' q=some (.list ((Tl k ((Jg k j).take m)).map tv))) ⟨d,e,rfl,c.set C,ge f A,MH.sd⟩ (λ_ _ _ S=>by obtain⟨_,_,_,_,h,_⟩:=S;exact h) ?_ ?_
  ·intro m x l H2 K v y u _ _;erw[hide λJ s=>(ff y λd e O c R=>(eA R λf o=>?_))];subst O;erw[s ?_];clear s;obtain⟨r,E,rfl⟩:∃r,(Jg k j)[m]?=some r/\x=tv r:=by
    rw[za,Ha]at v;obtain⟨r,h1,Z⟩:=v;exact⟨r,h1,Z.symm⟩
   haveI hm:m<3^j:=Ma (Fa E).1 (nA t);haveI G:3^j<=3^3:=Ab akq (je 0x31c0331c1101e0b10 rfl L t)
   haveI V:(Tl k ((Jg k j).take m)).length<=81:=Ba It (by
    exact Er (zb ..) (Ba (Nat.mul_le_mul (Ba (qc _ _) (Ba (Ib hm) G)) t) akq))
   erw[[Ae,kA],Rf (ja (m:=1000) (ee 0x3e83c0331c010 rfl t) akq) (Ze (ee 0x186a05ce0b331c010 rfl t) ?_)];refine Th (λi l H'=>∃e,l=[.int k,.ref p,.int j,.ref q,tv r,e]/\H.le H'/\H' p=some (.list ((Jg k j).map tv))/\H' q=some (.list ((Tl k ((Jg k j).take m)++Sl k r i).map tv))) ⟨e,rfl,c,f,by exact Er o (Fc (λz=>some (MO.list (List.map tv z))) (ib _).symm)⟩ (λzz zz zz zz=>trivial) ?_ ?_
   ·intro i x l H3 K v y u _ _;erw[Qf l y λe Zy=>(pj Zy λc f o=>(Ak x (Ud v) λY=>?_))];haveI U:((Tl k ((Jg k j).take m)++Sl k r i).map tv).length<big:=by
     erw[Er (aa ..) (Er (ua ..) ?_),ja (Nat.add_le_add V (Ba Ht (Ib Y))) (by unfold big;exact ee 0x186a05ce0512cbb331c010 rfl t)]
    erw[[Ae],jW mA ⟨λw=>?_,λw=>?_⟩]
    ·rw[Ra]at w;erw[⟨fh o,Vd rfl,?_⟩,abu ?_ (eh o U (u _ _ ⟨_,rfl,c.set C,(Er (MH.ud F) f),(Er (MH.sd ..) (Er sr (Er w (Er (Dc Na) (Es (Db ..) (Er (Aa (l₂:=[_])) (Er (xb ..) (Es LP rfl))))))))⟩))]
     ·refine Er (aa ..) (Er ((Dm (Eb E)).1) ?_);show j+1<100000;exact je 0x186a05cee0bb331c1101e0b10 rfl L t
    ·rw[Bool.not_eq_false']at w;erw[u _ _ ⟨_,rfl,c,f,?_⟩,Er o (Er sr (Er w (Er (Ec rfl) (Er (ib ..) rfl))))]
   ·intro l H3 bf;erw[Yj bf λe P c f o=>(Er P ?_)];rw[aa,Ca,<-pA E]at o;erw[u _ _ ⟨_,_,rfl,c,f,o⟩]
  ·intro l H2 D;erw[hide λJ s=>(ff D λd e N c CG=>(eA CG λf o=>?_))];subst N;erw[s ?_];clear s;rw[aa,Sa]at o;erw[[Ae],u _ _ ⟨q,_,_,_,_,rfl,c,C,o⟩]
 ·intro l H' D;erw[hide λJ s=>(we D λp a b WX=>(ff WX λd e VX c I=>(eA I λB f=>?_)))];subst VX;erw[s ?_];clear s;haveI f:=(Ca ..)▸(aa ..)▸f;erw[h p H' c f]
abbrev Cy:=Nat×List Nat×Nat×Nat
def Fg (c:Cy):MV:=.tup [tv c.2.1,.int c.2.2.1,.int c.2.2.2]
def tp (f:Nat)(o:List Nat)(i x:Nat)(c:Cy):Cy:=if f<c.1 then(f,o,i,x)else c
def jC (full k:Nat)(o:List Nat)(a:(Nat×Nat)×Cy)(s:Nat):(Nat×Nat)×Cy:=
 let p:=if 0<s then(iC a.1.1 (lowP s) k,a.1.2^^^2^lowP s)else a.1
 (p,tp (full^^^p.1) o p.2 1 (tp p.1 o p.2 0 a.2))
def gh (t k:Nat)(o:List Nat)(c:Cy)(m:Nat):(Nat×Nat)×Cy:=(range m).foldl (jC (Uh k) k o) ((iL t o k,0),c)
def Bg (t k:Nat)(m:Nat):Cy:=((Vj k).take m).foldl (λc o=>(gh t k o c (2^k)).2) (t,range k,0,0)
def ae (t k:Nat):Cy:=Bg t k (Vj k).length
theorem vp (h:(Vj k)[m]?=some o):Bg t k (m+1)=(gh t k o (Bg t k m) (2^k)).2:=by unfold Bg;simp only[List.take_succ,h,List.foldl_append];rfl
theorem MP {t k:Nat}{ns:List Nat}:iL t ns k<2^2^k:=by
 haveI key:∀j,j<=2^k->qr t ns j<2^2^k:=by
  intro j
  induction j with
  |zero=>exact λzz=>Ub _|succ j b=>
   intro a;erw[Er Cm (Nat.or_lt_two_pow (b (Nat.le_of_succ_le a)) (ja (Nat.mul_le_mul_right _ (Oh _)) (Er (Qb ..) (Nat.pow_lt_pow_right akq a))))]
 erw[key _ (Qa _)]
theorem mL (b:k<=3)(a:s<2^k)(c:0<s):lowP s<k:=by
 haveI:∀k,k<=3->∀s,s<2^k->0<s->lowP s<k:=by decide
 erw[this k b s a c]
theorem nL (b:k<=3):∀{m:Nat},m<=2^k->(gh t k o c m).1.1<2^(8+4*m):=by
 intro m
 induction m with
 |zero=>exact λzz=>Ma MP (Ab akq (Wf b))|succ m a=>
  intro d;haveI a:=a (Nat.le_of_succ_le d);unfold gh at a⊢;erw[Er foldl_succ ?_];unfold jC;dsimp only;split
  ·rename_i e;haveI:=mL b d e;erw[Ma (JP a (Ma this b)) (Ab akq (ee 0xe0b41d81cb41c041d81cbb3 rfl))]
  ·erw[Ma a (Ab akq (ee 0xe0b41d81cb041d81cb3 rfl))]
theorem Lx (A:4<=n)(j:k<=3)(h:∀H',H.le H'->Q (.tup [.int ((ae t k).1:Nat),Fg (ae t k)]) H'):Fd X n 42 [.int t,.int k] H Q:=by
 obtain⟨n,rfl⟩:=Of A;erw[Ad rfl rfl ?_,[p42],Fv (dn A) j ?_,[],have J:k<big:=ja j (Vd rfl);?_,have hit:=aL (H:=H) J;?_,Rf (ja (m:=1000) (ee 0x3e83c0331c010 rfl j) akq) ?_,have T:((range k).map λ(i:Nat)=>MV.int i).length<big:=Er (aa ..) (Er (Ca ..) J);?_,Bm hit T ⟨Vd rfl,?_⟩,Qd λB R F q=>(xE (dn A) j λp H1 l w=>ve w ?_)];refine Th (λm u H'=>H.le H'/\H' p=some (.list ((Vj k).map tv))/\∃a b d e f,u=[.int t,.int k,.int (Uh k:Nat),.int ((Bg t k m).1:Nat),Fg (Bg t k m),a,b,d,e,f]) ⟨l,w,_,_,_,_,_,rfl⟩ (λzz zz zz h=>h.2.1) ?_ ?_
 ·intro m x u H2 K z I y _ _;erw[pj I λl w N=>(we N λa b d G=>(Iy u G λe f=>?_))];obtain⟨o,L,rfl⟩:∃r,(Vj k)[m]?=some r/\x=tv r:=by
   rw[za,Ha]at z;obtain⟨r,Y,W⟩:=z;exact⟨r,Y,W.symm⟩
  obtain⟨P,O⟩:=Dm (Eb L);erw[F _ _ _ (IP (dn A) j (je 0x642ce0b331c1101011 rfl P j) (λx z=>by haveI:=O x z;exact je 0x3e83ce0b331c1101e0b10 rfl this j) ?_),[],Qd λB R F q=>?_,[],xk (a:=1) akq (ee 0x186a05c0331c010 rfl j) (Er (Qb ..) ?_),haveI E:=Wf j;?_,Rf (ja (m:=1000) (ee 0x3e83c0381c010 rfl E) akq) (Ze (ee 0x186a05ce0b381c010 rfl E) ?_)];refine Th (λs u H'=>H'=H2/\∃e f,u=[.int t,.int k,.int (Uh k:Nat),.int ((gh t k o (Bg t k m) s).2.1:Nat),Fg (gh t k o (Bg t k m) s).2,tv o,.int ((gh t k o (Bg t k m) s).1.1:Nat),.int ((gh t k o (Bg t k m) s).1.2:Nat),e,f]) ⟨rfl,_,_,rfl⟩ (λzz zz zz zz=>trivial) ?_ ?_
  ·intro s x u H' K z I y _ _;obtain⟨rfl,e,f,rfl⟩:=I;erw[Ak x (Ud z) λD=>?_];haveI v:=nL (t:=t) (o:=o) (c:=Bg t k m) j (Ib D);haveI v:(gh t k o (Bg t k m) s).1.1<2^60:=Ma v (Ab akq (je 0x3c2c041d81cb381c1401e0b40 rfl D E));haveI he:gh t k o (Bg t k m) (s+1)=jC (Uh k) k o (gh t k o (Bg t k m) s) s:=foldl_succ;haveI y:=he▸y;generalize gh t k o (Bg t k m) s=st at y v;erw[[],F _ _ _ (qe λR q=>?_)];have tail:∀(f:MV)(p:Nat×Nat),p=(if 0<s then(iC st.1.1 (lowP s) k,st.1.2^^^2^lowP s)else(st.1.1,st.1.2))->R [.int t,.int k,.int (Uh k:Nat),.int st.2.1,Fg (st.2.1,st.2.2.1,st.2.2.2.1,st.2.2.2.2),tv o,.int p.1,.int p.2,.int s,f] H':=by
    intro f p w;erw[q _ _ (qe λR q=>?_)];haveI tail:∀c:Cy,c=tp p.1 o p.2 0 (st.2.1,st.2.2.1,st.2.2.2.1,st.2.2.2.2)->R [.int t,.int k,.int (Uh k:Nat),.int (c.1:Nat),Fg c,tv o,.int p.1,.int p.2,.int s,f] H':=by
     intro c V;erw[q _ _ (qe λR q=>?_)];haveI tail:∀d:Cy,d=tp (Uh k^^^p.1) o p.2 1 c->R [.int t,.int k,.int (Uh k:Nat),.int (d.1:Nat),Fg d,tv o,.int p.1,.int p.2,.int s,f] H':=by
      intro d U;erw[q _ _ (y _ _ ⟨rfl,.int s,f,?_⟩)];subst U V;unfold jC;dsimp only;erw[Es w rfl]
     unfold tp at tail;erw[[Fg],Zi ⟨λv=>?_,λC=>(tail c (Dc (rc (fC C))).symm)⟩]
     ·erw[Zi ?_,[],⟨Vd rfl,tail (Uh k^^^p.1,o,p.2,1) (Ec (tE v)).symm⟩]
    unfold tp at tail;erw[[Fg],⟨λv=>⟨Vd rfl,tail (p.1,o,p.2,0) (Ec (tE v)).symm⟩,λC=>(tail (st.2.1,st.2.2.1,st.2.2.2.1,st.2.2.2.2) (Dc (rc (fC C))).symm)⟩]
   refine⟨λEj=>?_,λC=>(tail _ _ (Dc (rc (fC (a:=0) C))).symm)⟩
   ·haveI h0:=tE (a:=0) Ej;haveI M:=mL j D h0;erw[iZ (dn A) (je 0x81ce0b381c1101e0b10 rfl D E) h0 ?_,[],KP (dn A) v (je 0x31ce0b331c1101e0b10 rfl M j) j ?_,[],xk (a:=1) akq (je 0x186a05c0331c1101e0b10 rfl M j) (Er (Qb ..) (Zi (tail _ _ (Ec h0).symm)))]
  ·intro u H' Z;obtain⟨rfl,e,f,rfl⟩:=Z;erw[Er (aa ..) (Er (Ca ..) ?_),q _ _ (y _ _ ⟨l,w,_,_,_,e,f,by exact Er (vp L) rfl⟩)]
 ·intro u H' S;erw[pj S λl w TG=>(we TG λa b d UG=>(Iy u UG λe f=>(Er (aa ..) (q _ _ ?_)))),[Fg],⟨Vd rfl,h H' l⟩]
end
section
def nZ:List (Nat×Nat×Nat×Nat×Nat):=[(21,1,1,2,1),(22,2,1,3,2),(23,7,2,3,2),(24,1,2,3,2),(25,8,2,4,3),(26,14,2,4,3),(27,6,2,7,4),(28,9,2,7,4),(29,127,3,5,3),(30,1,3,5,3),(31,7,3,5,3),(32,31,3,5,3),(33,228,3,8,4)]
def cT (i:Nat):Nat×Nat×Nat×Nat×Nat:=nZ.getD i (0,0,0,0,0)
def Kf (i:Nat):Nat:=(cT i).2.1
def Yp (i:Nat):Nat:=(cT i).2.2.1
def bk (i:Nat):Nat:=(cT i).2.2.2.1
def Zk (k:Nat):List Nat:=(range 13).filter λi=>Yp i==k
abbrev Mt:=Nat×List Nat×Nat×Nat
def al (m:Nat):Nat:=m%2+m/2%2+m/4%2
def qA (k:Nat)(a b:List Nat)(n:Nat):List Nat:=(range n).foldl (λo j=>o.set (a.getD j 0) (b.getD j 0)) (replicate k 0)
def Mx (a:List Nat)(x y n:Nat):Nat:=(range n).foldl (λm j=>m|||(((x/2^j&&&1)^^^(y/2^j&&&1))*2^(a.getD j 0))) 0
def jh (i:Nat)(c t:Cy):Mt:=(i,qA (Yp i) c.2.1 t.2.1 (Yp i),Mx c.2.1 c.2.2.1 t.2.2.1 (Yp i),c.2.2.2^^^t.2.2.2)
def bl (m:Mt):Nat:=if al m.2.2.1+m.2.2.2=0 then bk m.1 else bk m.1+(al m.2.2.1+m.2.2.2)*2
def Nx (t:Cy)(k:Nat)(a:Option Mt×Nat)(i:Nat):Option Mt×Nat:=
 if (ae (Kf i) k).1=t.1 then(if a.1.isNone\/bl (jh i (ae (Kf i) k) t)<a.2 then(some (jh i (ae (Kf i) k) t),bl (jh i (ae (Kf i) k) t))else a)else a
def Ie (t k:Nat):Option Mt:=((Zk k).foldl (Nx (ae t k) k) (none,0)).1
def Zp (tab k:Nat)(o:List Nat)(m x row:Nat):Bool:=
 xor (tab.testBit ((range k).foldl (λa j=>a+(xor (row.testBit (o.getD j 0)) (m.testBit j)).toNat*2^j) 0)) (x==1)
def m9 (m:Option Mt)(t k:Nat):Bool:=match m with
 |none=>true|some (i,o,m,x)=>Yp i==k&&decide (i<13)&&o.length==k&&decide (m<8)&&decide (x<2)&&(o.all λj=>decide (j<k))&&((range k).all λj=>o.contains j)&&(range (2^k)).all λr=>t.testBit r==Zp (Kf i) k o m x r
theorem f1:(range 4).all (λt=>m9 (Ie t 1) t 1)=true:=by decide+kernel
theorem f2:(range 16).all (λt=>m9 (Ie t 2) t 2)=true:=by decide+kernel
theorem f3:(range 256).all (λt=>m9 (Ie t 3) t 3)=true:=by decide+kernel
end
section
variable {H H' H0 : MH} {Q : MV → MH → Prop} {K : MF → List MV → MH → Prop} {g : Nat → Nat → Bool}
def Sf (H:MH)(v:MV)(i:Nat):Prop:=∃d f,v=.obj 2 d/\H d=some (.ns f)/\f 34=.str (cT i).1/\f 40=iv (Kf i)/\f 36=iv (Yp i)/\f 41=iv (bk i)
inductive rf (H:MH)(p:Nat)(vs:List MV):Prop
 |mk (at':H p=some (.list vs)) (len:vs.length=13) (cell:∀(i:Nat)(v:MV),vs[i]?=some v->Sf H v i)
theorem Sf.mono (h:H.le H')(c:Sf H v i):Sf H' v i:=by obtain⟨d,f,a,b,r⟩:=c;exact⟨d,f,a,h _ _ b,r⟩
theorem rf.mono (h:H.le H')(l:rf H p vs):rf H' p vs:=⟨h _ _ l.1,l.2,λi v e=>(l.3 i v e).mono h⟩
theorem rf.get (l:rf H p vs)(hi:i<13):∃d,vs[i]?=some (.obj 2 d)/\vs.getD i .td=.obj 2 d/\Sf H (.obj 2 d) i:=by haveI e:=wa (l:=vs) (i:=i) (Er l.2 hi);have c:=l.3 i _ e;erw[hide λb a=>(vf (id c) λd f h r=>(a ?_))];clear a;rw[h]at c e;exact⟨d,e,by refine Er Ga ?_;exact Er e rfl,c⟩
theorem Sf.name (c:Sf H v i)(h:Q (.str (cT i).1) H):Te v 34 H Q:=by obtain⟨d,f,rfl,a,e,-⟩:=c;exact Jx a (Er e MV.noConfusion) (Er e h)
theorem Sf.tab (c:Sf H v i)(h:Q (iv (Kf i)) H):Te v 40 H Q:=by obtain⟨d,f,rfl,a,-,e,-⟩:=c;exact Jx a (Er e MV.noConfusion) (Er e h)
theorem Sf.ins (c:Sf H v i)(h:Q (iv (Yp i)) H):Te v 36 H Q:=by obtain⟨d,f,rfl,a,-,-,e,-⟩:=c;exact Jx a (Er e MV.noConfusion) (Er e h)
theorem Sf.oL (c:Sf H v i)(h:Q (iv (bk i)) H):Te v 41 H Q:=by obtain⟨d,f,rfl,a,-,-,-,e⟩:=c;exact Jx a (Er e MV.noConfusion) (Er e h)
def pL (vs:List MV)(m:Mt):MV:=.tup [vs.getD m.1 .td,tv m.2.1,iv m.2.2.1,iv m.2.2.2]
def Lf (vs:List MV):Option Mt->MV
 |none=>.none|some m=>pL vs m
theorem yE:∀a:Nat,a<8->al a=(a&&&1)+al (a/2^1):=by decide
theorem wr:(qA k a b n).length=k:=by
 induction n with
 |zero=>exact Bb|succ n c=>unfold qA at c⊢;exact Er foldl_succ (Er length_set (Er c rfl))
theorem zE:qA k a b (n+1)=(qA k a b n).set (a.getD n 0) (b.getD n 0):=foldl_succ
theorem xr:Mx a x y (n+1)=Mx a x y n|||(((x/2^n&&&1)^^^(y/2^n&&&1))*2^(a.getD n 0)):=foldl_succ
theorem qL (h:∀j,j<n->a.getD j 0<3):Mx a x y n<2^3:=by
 induction n with
 |zero=>exact(by decide:0<2^3)
 |succ n b=>
  erw[Er xr (Nat.or_lt_two_pow (b λj c=>h j (Nat.lt_succ_of_lt c)) ?_),haveI d:(x/2^n&&&1)^^^(y/2^n&&&1)<2^1:=Nat.xor_lt_two_pow (Nat.lt_succ_of_le (Oh _)) (Nat.lt_succ_of_le (Oh _));?_,ja (Nat.mul_le_mul_right _ (Cb d)) (Er (Qb ..) (Nat.pow_lt_pow_right akq (h n (Oc n))))]
def Qi (k:Nat)(c:Cy):Prop:=c.2.1.length=k/\(∀x∈c.2.1,x<k)/\c.2.2.2<2
theorem rA (d:o.length=k/\∀x∈o,x<k)(a:Qi k c):∀m,Qi k (gh t k o c m).2:=by
 haveI less:∀(f i x:Nat)(c:Cy),x<2->Qi k c->Qi k (tp f o i x c):=λf i x c e a=>by
  unfold tp;split
  ·exact⟨d.1,d.2,e⟩
  ·erw[a]
 intro m
 induction m with
 |zero=>exact a|succ m b=>
  unfold gh at b⊢;erw[Er foldl_succ (less _ _ _ _ akq (less _ _ _ _ akq b))]
theorem yr:Qi k (ae t k):=by
 haveI key:∀m,m<=(Vj k).length->Qi k (Bg t k m):=by
  intro m
  induction m with
  |zero=>exact λzz=>⟨Ca,λx c=>Mb c,(by decide:0<2)⟩
  |succ m b=>
   intro a;haveI e:=wa a;erw[Er (vp e) (rA (Dm (List.getElem_mem a)) (b (Nat.le_of_succ_le a)) _)]
 erw[key _ (Qa _)]
theorem NP (l:1<=n)(o:m<8)(h:Q (iv (al m)) H):Fd X n 54 [.int m] H Q:=by
 erw[Xh n (Of l) λn=>(Ad rfl rfl ?_),[p54],yv (λr j k=>k=H/\∃a c:Nat,j=[.int a,.int c]/\a=r/\a<8/\c+al a=al m) m ⟨rfl,m,0,rfl,rfl,o,bc _⟩ ?_];intro r j k p;obtain⟨rfl,a,c,rfl,rfl,i,f⟩:=p;unfold ww;erw[[],⟨λd=>?_,λe=>?_⟩]
 ·haveI d:=tE (a:=0) d;erw[Tj (b:=1) (zg ?_),[],yk (b:=1) ⟨a/2^1,Nat.div_lt_self d akq,rfl,a/2^1,_,rfl,rfl,ja (Nat.div_le_self _ _) i,?_⟩];rw[<-f,yE a i];exact Yb ..
 ·haveI e:=fC (a:=0) e;obtain rfl:a=0:=Nat.le_zero.mp e;obtain rfl:c=al m:=f;erw[h]
theorem rL (k:1<=n)(l:rf H p vs)(h:Q (vs.getD 0 .td) H):Fd X n 55 [.ref p] H Q:=by erw[Xh n (Of k) λn=>(Xf (l.get (i:=0) akq) λd r q c=>(Ad rfl rfl (Qd λB R o m=>?_))),[],ve l.1 (Th (λj a b=>j=0/\b=H/\a=[.ref p,.td]) ⟨rfl,rfl,rfl⟩ (λzz zz zz h=>by exact Er h.2.1 l.1) ?_ λa b h=>qd h.1 (by refine Er l.2 ?_;decide)),λj x a b K e s _ _ t=>?_,hide λu f=>?_];obtain⟨rfl,rfl,rfl⟩:=s;erw[f ?_];clear f;rw[r]at e;obtain rfl:=oa e;erw[o _ _ _ (qe λR m=>?_),[],c.ins ⟨λzz=>c.tab ?_,λh=>nomatch h⟩,⟨λzz=>t _ _ _ (q▸h),λh=>nomatch h⟩]
theorem kC (f:2<=n)(l:rf H p vs)(w:m.1<13)(q:m.2.2.1<8)(j:m.2.2.2<2)(h:Q (iv (bl m)) H):Fd X n 56 [.ref p,pL vs m] H Q:=by
 erw[eE (Of f) λn s=>?_];subst s;obtain⟨i,o,k,x⟩:=m;have j:x<2:=j;erw[Xf (l.get w) λd B y c=>(Ad rfl rfl ?_),[p56,pL],Er y ?_,have u:al k<=3:=(show∀a:Nat,a<8->al a<=3 by decide) k q;?_,⟨rfl,?_⟩,[],NP (dn f) q (zg ?_),[]];unfold bl at h;dsimp only at h;erw[qe λR v=>?_,[],⟨λt=>c.oL ?_,λe=>v _ _ ?_⟩]
 ·rw[Ec (zk (b:=0) t)]at h;exact h
 ·rw[Dc (Am (b:=0) e)]at h;erw[[],c.oL (rL (dn f) l (hide λD r=>(Xf (l.get (i:=0) akq) λC zz z A=>(r ?_))))];clear r;erw[Er z (A.oL (Av (Ma (Nat.add_lt_add_of_le_of_lt u j) akq) akq (zg h)))]
def Iv (vs:List MV)(k i:Nat):MV:=.tup [vs.getD i .td,iv (ae (Kf i) k).1,Fg (ae (Kf i) k)]
theorem Ox (y:5<=n)(F:k<=3)(l:rf H p vs)(h:∀q H',H.le H'->H q=none->H' q=some (.list ((Zk k).map (Iv vs k)))->Q (.ref q) H'):Fd X n 57 [.ref p,.int k] H Q:=by
 erw[hide λS A=>?_];obtain⟨n,rfl⟩:=Of y;erw[A ?_];clear A;erw[Ad rfl rfl ?_,[p57],⟨Vd rfl,λq o=>Qd λB R G r=>?_⟩,[],ve (ge l.1 o) ?_];refine Th (λj v H'=>H.le H'/\H' q=some (.list (((range j).filter λi=>Yp i==k).map (Iv vs k)))/\∃a b c,v=[.ref p,.int k,.ref q,a,b,c]) ⟨(akr H).new o,MH.sd,_,_,_,rfl⟩ (λzz zz zz h=>h.1 _ _ l.1) ?_ ?_
 ·intro j x v U K t N w _ _;erw[pj N λf m O=>(we O λa b e P=>(Er P ?_)),have z:j<13:=(l.2)▸(Fa t).1;?_,have D:=l.mono f;?_,Xf (D.get z) λd J I c=>?_];rw[J]at t;erw[Es (oa t) (G _ _ _ (qe λR r=>?_)),[],c.ins (uE ⟨λE=>c.tab ?_,λL=>r _ _ (w _ _ ⟨f,(Er m (Er (Xb ..) (Er (Vb ..) (Er (Wb ..) (Er L (Er (Dc Na) (Er (List.filter_nil ..) (Er (ib ..) rfl)))))))),_,_,_,rfl⟩)⟩)]
  ·erw[[],Lx (dn y) F λT s=>?_,[],⟨rfl,fh (s _ _ m),Vd rfl,?_⟩,eh (s _ _ m) ?_ (r _ _ (w _ _ ⟨(f.trans s).set o,?_,_,_,_,rfl⟩))]
   ·erw[Er (aa ..) (ja filter_le (ya z (Vd rfl)))]
   ·refine Er MH.sd ?_;rw[Xb,Vb,Aa,Wb,E,Ec rfl,List.filter_nil,xb,Iv,I]<;>rfl
 ·intro v H' M;erw[pj M λf m u=>(we u λa b c C=>(Er C ?_)),haveI m:=l.2▸m;?_,r _ _ (h q H' f o m)]
theorem sA {l:List Nat}{i x:Nat}:(l.map iv).set i (iv x)=(l.set i x).map iv:=by rw[List.map_set]
theorem PP {c t:Cy}(hn:1<=n)(U:Sf H (.obj 2 d) i)(A:Yp i=k)(u:k<=3)(fc:Qi k c)(ft:Qi k t)(h:∀H',H.le H'->Q (.tup [.obj 2 d,tv (jh i c t).2.1,iv (jh i c t).2.2.1,iv (jh i c t).2.2.2]) H'):Fd X n 58 [.obj 2 d,Fg c,Fg t] H Q:=by
 erw[Xh n (Of hn) λn=>?_];obtain⟨cl,s,M,cx⟩:=c;obtain⟨tl,to,F,tx⟩:=t;erw[pj fc λr D L=>(pj ft λp J I=>?_)];dsimp only at r D L p J I;erw[Ad rfl rfl ?_,[p58,Fg],⟨Vd rfl,λq hq=>?_⟩,haveI E:=(akr H).new (o:=.list [.int 0]) hq;?_,(U.mono E).ins (YK (v:=.int 0) MH.sd (Er A (ja u (Vd rfl))) λo S=>?_),haveI m:=E.new (o:=.list (replicate (Yp i) (.int 0))) S;?_,haveI G:=E.fresh S;?_,[],Qd λB R hB hR=>?_,[],(U.mono m).ins (Rf (ja (Ba (Ob A) u) akq) (Ze (ja (Ba (Ob A) u) akq) ?_))];rw[A]at m⊢;refine Th (λj O H'=>H.le H'/\H' o=some (.list ((qA k s to j).map iv))/\∃a b e,O=[.obj 2 d,Fg (cl,s,M,cx),Fg (tl,to,F,tx),.ref o,iv (Mx s M F j),a,b,e]) ⟨m,by refine Er MH.sd ?_;exact Fc (λz=>some (MO.list z)) (List.map_replicate (f:=iv) (n:=k) (a:=0)).symm,_,_,_,rfl⟩ (λzz zz zz zz=>trivial) ?_ ?_
 ·intro j x O V K hx Se W _ _;erw[pj Se λm y N=>(we N λa b e ZX=>(Er ZX (Ak x (Ud hx) λT=>?_)))];have C:s[j]?=some (s.getD j 0):=by rw[Ga,wa (Er r T)];rfl
  have E':to[j]?=some (to.getD j 0):=by rw[Ga,wa (Er p T)];rfl
  have P:=D _ (Eb C);have w:∀{l:List Nat},l.length=k->(l.map iv).length<big:=λe=>by exact Er (aa ..) (Er e (ja u (Vd rfl)))
  erw[hB _ _ _ ?_,[Fg],Xe (k:=0) rfl (Vd rfl) (Xe (yf C) (w r) ?_),[],Xe (k:=0) rfl (Vd rfl) (Xe (yf E') (w p) ?_),putL y (by simp only[aa,wr];exact P) (w wr) (Xe (k:=1) rfl (Vd rfl) (yk (Tj (b:=1) (Xe (k:=1) rfl (Vd rfl) (yk (Tj (b:=1) (Zi ?_))))))),[],xk (ya (Nat.xor_lt_two_pow (n:=1) (Nat.lt_succ_of_le (Oh _)) (Nat.lt_succ_of_le (Oh _))) akq) (Ba (Ib P) (Ba u akq)) (iW (W _ _ ⟨m.set G,(Er MH.sd (Er zE (Es sA rfl))),.int j,.int (s.getD j 0:Nat),.int (((M/2^j&&&1)^^^(F/2^j&&&1):Nat)),(Er xr rfl)⟩))]
 ·intro O V fg;erw[pj fg λm y Z=>(we Z λa b e Y=>(Er Y ?_)),haveI y:=(Ca ..)▸(aa ..)▸y;?_,haveI w:((qA k s to k).map iv).length<big:=Er (aa ..) (Er wr (ja u (Vd rfl)));?_,hR _ _ ?_,[Fg],Bm (Uj y) w ?_,[],Er (aa ..) (Er (Ca ..) ?_),Xe (k:=2) rfl (Vd rfl) (Xe (k:=2) rfl (Vd rfl) (Zi ⟨Vd rfl,?_⟩))];unfold jh at h;haveI h:=A▸h;erw[h V m]
theorem QP (d:Yp i=k)(e:k<=3)(b:Qi k c):(jh i c t).2.2.1<8:=by erw[qL λj a=>?_];rw[d]at a;rw[Ga,wa (Er b.1 a)];erw[Ma (b.2.1 _ (List.getElem_mem _)) e]
theorem oZ (a:Qi k c)(ft:Qi k t):(jh i c t).2.2.2<2:=Nat.xor_lt_two_pow (n:=1) a.2.2 ft.2.2
theorem pZ (h:i∈Zk k):i<13/\Yp i=k:=⟨Mb (mem_filter.mp h).1,ub (mem_filter.mp h).2⟩
def Mn (t k n:Nat):Option Mt×Nat:=((Zk k).take n).foldl (Nx (ae t k) k) (none,0)
theorem uA (h:(Zk k)[n]?=some i):Mn t k (n+1)=Nx (ae t k) k (Mn t k n) i:=by unfold Mn;simp only[List.take_succ,h,List.foldl_append];rfl
theorem Px (w:5<=n)(z:k<=3)(l:rf H p vs)(O:H q=some (.list ((Zk k).map (Iv vs k))))(h:∀H',H.le H'->Q (Lf vs (Ie t k)) H'):Fd X n 59 [.ref q,.ref p,.int t,.int k] H Q:=by
 erw[eE (Of w) λn G=>?_];subst G;erw[Ad rfl rfl ?_,[p59],Lx (dn w) z λH1 f=>?_,[],⟨rfl,Qd λB R hB u=>?_⟩,[],ve (f _ _ O) ?_];refine Th (λj v H'=>H.le H'/\∃a b c d e,v=[.ref q,.ref p,.int t,.int k,.int ((ae t k).1:Nat),Fg (ae t k),Lf vs (Mn t k j).1,.int ((Mn t k j).2:Nat),a,b,c,d,e]) ⟨f,_,_,_,_,_,rfl⟩ (λzz zz zz h=>h.1 _ _ O) ?_ ?_
 ·intro j x v H2 K N Se m _ _;erw[HW Se λf a AX=>(we AX λb c d F=>(Xh v F λe=>?_))];obtain⟨i,P,rfl⟩:∃i,(Zk k)[j]?=some i/\x=Iv vs k i:=by
   rw[za,Ha]at N;obtain⟨r,h1,h2⟩:=N;exact⟨r,h1,h2.symm⟩
  obtain⟨L,J⟩:=pZ (Eb P);haveI M:=l.mono f;erw[Xf (M.get L) λC e1 S cc=>?_];haveI A:=yr (t:=Kf i) (k:=k);haveI ft:=yr (t:=t) (k:=k);haveI m:=(uA P)▸m;generalize Mn t k j=st at m;obtain⟨o,s⟩:=st;unfold Iv;erw[Er S ?_,[],And.intro rfl (hB _ _ _ (qe λR u=>?_)),[],⟨λy=>?_,λbo=>u _ _ (m _ _ ⟨f,.obj 2 C,iv (ae (Kf i) k).1,Fg (ae (Kf i) k),d,e,?_⟩)⟩]
  ·haveI y:=zk y;erw[[],PP (dn w) cc J z A ft λH3 I=>?_];haveI U:=M.mono I;haveI em:pL vs (jh i (ae (Kf i) k) (ae t k))=.tup [.obj 2 C,tv (jh i (ae (Kf i) k) (ae t k)).2.1,iv (jh i (ae (Kf i) k) (ae t k)).2.2.1,iv (jh i (ae (Kf i) k) (ae t k)).2.2.2]:=by
    unfold pL;erw[Er (show(jh i (ae (Kf i) k) (ae t k)).1=i from rfl) (Er S rfl)]
   erw[Es em ?_,[],haveI hm:pL vs (jh i (ae (Kf i) k) (ae t k))≠.td:=MV.noConfusion;?_,oe hm (kC (dn w) U L (QP J z A) (oZ A ft) ?_),[]];have Z:Nx (ae t k) k (o,s) i=if (o.isNone=true\/bl (jh i (ae (Kf i) k) (ae t k))<s)then(some (jh i (ae (Kf i) k) (ae t k)),bl (jh i (ae (Kf i) k) (ae t k)))else(o,s):=Ec y
   rw[Z]at m;generalize hm2:jh i (ae (Kf i) k) (ae t k)=jm at m⊢;have fin:(o.isNone=true\/bl jm<s)->R [.ref q,.ref p,.int t,.int k,.int ((ae t k).1:Nat),Fg (ae t k),pL vs jm,iv (bl jm),.obj 2 C,iv (ae (Kf i) k).1,Fg (ae (Kf i) k),pL vs jm,iv (bl jm)] H3:=λY=>by
    rw[Ec Y]at m;erw[u _ _ (m _ _ ⟨f.trans I,_,_,_,_,_,rfl⟩)]
   erw[qe λR2 D=>?_,[]];cases o with
   |none=>
    erw[oe MV.noConfusion (ZK MV.noConfusion ⟨λzz=>?_,λh=>nomatch h⟩),⟨λzz=>oe MV.noConfusion (D _ _ (fin (.inl rfl))),λh=>nomatch h⟩]
   |some o=>
    erw[oe MV.noConfusion (ZK MV.noConfusion ⟨λh=>(nomatch h),λzz=>?_⟩),[],⟨λW=>(oe MV.noConfusion (D _ _ (fin (.inr (tE W))))),λZr=>?_⟩]
    ·rw[Dc (λh=>h.elim (λh=>nomatch h) (rc (fC Zr)))]at m;erw[D _ _ (u _ _ (m _ _ ⟨f.trans I,_,_,_,_,_,rfl⟩))]
  ·have:Nx (ae t k) k (o,s) i=(o,s):=Dc (Am bo);erw[Er this rfl]
 ·intro v H' V;erw[HW V λf a E=>(we E λb c d T=>(Xh v T λe=>(Er (aa ..) (u _ _ ?_)))),[]];haveI e0:Mn t k (Zk k).length=(Ie t k,(Mn t k (Zk k).length).2):=by unfold Ie Mn;exact Er (Sa ..) rfl
  erw[Er e0 (oe ?_ (h H' f))];cases Ie t k<;>exact MV.noConfusion
theorem AE (b:6<=n)(d:k<=3)(l:rf H p vs)(h:∀H',H.le H'->Q (Lf vs (Ie t k)) H'):Fd X n 60 [.ref p,.int t,.int k] H Q:=by erw[eE (Of b) λn c=>?_];subst c;erw[Ad rfl rfl ?_,[p60],Ox (dn b) d l λq j a zz f=>?_,[],Px (dn b) d (l.mono a) f λi e=>h i (a.trans e)]
theorem Xd {a:Type}{l:List a}{i:Nat}{x:a}(h:l[i]?=some x):l.take (i+1)=l.take i++[x]:=by simp only[List.take_succ,h];rfl
theorem yd {a:Type}{l:List a}{i:Nat}{x:a}(h:l[i]?=some x):i<l.length:=(Fa h).1
def MI (H0:MH)(c1 c2:List Nat)(k p r:Nat)(L:List MV)(H:MH):Prop:=H0.le H/\∃(m:List Nat)(i j:Nat),L=[tv c1,tv c2,iv k,.ref p,iv i,iv j]/\H p=some (.list (m.map iv))/\i<=c1.length/\j<=c2.length/\
 (∀x,x∈m↔x∈c1.take i\/x∈c2.take j)/\m.length<=i+j/\c1.length-i+(c2.length-j)<=r
theorem qZ {c d x i b i' y j a j':Nat}(e1:b+i'=c)(e:a+j'=d)(e3:x+i=c)(e4:y+j=d)(h:i+j<i'+j'):b+a<x+y:=by rw[<-e3]at e1;rw[<-e4]at e;erw[ar8 0x62be40bb351be73bb1076b54b1132b10b11 rfl e1 e h]
theorem MI.step {H2:MH}{b a m:List Nat}{k p r i j i' j' x:Nat}(t:H0 p=none)(c:H0.le H)(hi:i<=b.length)(f:j<=a.length)(u:∀x,x∈m↔x∈b.take i\/x∈a.take j)(o:m.length<=i+j)(s:b.length-i+(a.length-j)<=r) (n:(i'=i+1/\b[i]?=some x)\/i'=i) (l:(j'=j+1/\a[j]?=some x)\/j'=j) (d:i+j<i'+j') (e:H2=H.set p (.list (m.map iv++[iv x]))):∃q,q<r/\MI H0 b a k p q [tv b,tv a,iv k,.ref p,iv i',iv j'] H2:=by
 erw[Er e ?_];have a1:i'<=b.length/\∀y,y∈b.take i'↔y∈b.take i\/(i'=i+1/\y=x):=by
  rcases n with⟨rfl,h⟩|rfl
  ·exact⟨yd h,λy=>by rw[Xd h,mem_append,mem_singleton];simp⟩
  ·exact⟨hi,λy=>⟨.inl,λh=>h.resolve_right λh=>qd h.1 (Kc (Oc _))⟩⟩
 have a2:j'<=a.length/\∀y,y∈a.take j'↔y∈a.take j\/(j'=j+1/\y=x):=by
  rcases l with⟨rfl,h⟩|rfl
  ·exact⟨yd h,λy=>by rw[Xd h,mem_append,mem_singleton];simp⟩
  ·exact⟨f,λy=>⟨.inl,λh=>h.resolve_right λh=>qd h.1 (Kc (Oc _))⟩⟩
 haveI w:i'=i+1\/i'=i:=n.imp And.left id;haveI v:j'=j+1\/j'=j:=l.imp And.left id;haveI hd:=Ma (qZ (ta a1.1) (ta a2.1) (ta hi) (ta f) d) s;refine⟨r-1,Nat.sub_lt (ja (Ta _) hd) akq,c.set t,m++[x],i',j',rfl,by exact Er MH.sd (Er Aa rfl),a1.1,a2.1,λy=>?_,by refine Er ua ?_;show m.length+1<=_;exact jo 0x43be0b343be21bb1021b010 rfl o d,Nat.le_sub_one_of_lt hd⟩;rw[mem_append,mem_singleton,u,a1.2,a2.2];constructor
 ·rintro((h|h)|h)
  ·erw[.inl (.inl h)]
  ·erw[.inr (.inl h)]
  ·erw[Or.elim w (λe=>(.inl (.inr ⟨e,h⟩))) (λe=>(.inr (.inr ⟨v.resolve_right λq=>qd d (by rw[e,q];exact Ic _),h⟩)))]
 ·rintro((h|h)|(h|h))
  ·erw[.inl (.inl h)]
  ·erw[.inr h.2]
  ·erw[.inl (.inr h)]
  ·erw[.inr h.2]
theorem tL {k:Nat}(hn:1<=n)(o:c1.length<=3)(u:c2.length<=3)(h:∀m H',H.le H'->(∀x,x∈m↔x∈c1\/x∈c2)->m.length<=c1.length+c2.length->Q (if k<m.length then .none else tv m) H'):Fd X n 44 [tv c1,tv c2,.int k] H Q:=by
 erw[Xh n (Of hn) λn=>?_];haveI l:∀{c:List Nat},c.length<=6->(c.map iv).length<big:=λh=>by exact Er (aa ..) (ja h (Vd rfl))
 haveI len:∀{c:List Nat}{P:MV->MH->Prop}{H:MH},c.length<=6->P (iv c.length) H->Ii 0 [tv c] H P:=λh k=>⟨l h,by rw[aa];exact k⟩
 erw[Ad rfl rfl ?_,[p44,pJ,oJ,nJ,mJ],⟨Vd rfl,λp V=>?_⟩,yv (MI H c1 c2 k p) (c1.length+c2.length) ⟨(akr H).new V,[],0,0,rfl,MH.sd,Ta _,Ta _,λx=>by simp,Qa _,Qa _⟩ ?_,λr L' H' zs=>?_,hide λZz W=>?_];obtain⟨v,m,i,j,rfl,z,I,G,F,N,hr⟩:=zs;erw[W ?_];clear W;have D:m.length<=6:=jo 0x61c0331c410421031c310311021b010 rfl N I o G u;haveI L:c1.length<big:=ja o (Vd rfl);haveI S:c2.length<big:=ja u (Vd rfl);have A:=λ{K:MF->List MV->MH->Prop}(t:∀d a,(∃q,q<r/\MI H c1 c2 k p q d a)->K .next d a)(U T x:Nat) o u h3=>t _ _ (MI.step (H2:=H'.set p (.list (m.map iv++[iv x]))) (k:=k) (i':=U) (j':=T) (x:=x) V v I G F N hr o u h3 rfl);have A1:∀(K:MF->List MV->MH->Prop) x,(∀d a,(∃q,q<r/\MI H c1 c2 k p q d a)->K .next d a)->c1[i]?=some x->Kd (Ce X n) jJ [tv c1,tv c2,iv k,.ref p,iv i,iv j] H' K:=λK x t f=>by
  erw[[jJ,QS],⟨fh z,Xe (yf f) (l (ee 0x61c0331c010 rfl o)) (eh z (l D) (zg (b:=1) (A t (i+1) j x (.inl ⟨rfl,f⟩) (.inr rfl) (je 0x1e0bbe10bb3 rfl))))⟩]
 have A2:∀(K:MF->List MV->MH->Prop) x,(∀d a,(∃q,q<r/\MI H c1 c2 k p q d a)->K .next d a)->c2[j]?=some x->Kd (Ce X n) kJ [tv c1,tv c2,iv k,.ref p,iv i,iv j] H' K:=λK x t f=>by
  erw[[kJ,RS],⟨fh z,Xe (yf f) (l (ee 0x61c0331c010 rfl u)) (eh z (l D) (zg (b:=1) (A t i (j+1) x (.inr rfl) (.inl ⟨rfl,f⟩) (je 0xe1b0be10bb3 rfl))))⟩]
 have A3:∀(K:MF->List MV->MH->Prop) x,(∀d a,(∃q,q<r/\MI H c1 c2 k p q d a)->K .next d a)->c1[i]?=some x->c2[j]?=some x->Kd (Ce X n) lJ [tv c1,tv c2,iv k,.ref p,iv i,iv j] H' K:=λK x t f s=>by
  erw[[lJ,TS,SS],⟨fh z,Xe (yf f) (l (ee 0x61c0331c010 rfl o)) (eh z (l D) (zg (b:=1) ?_))⟩,[],zg (b:=1) (A t (i+1) (j+1) x (.inl ⟨rfl,f⟩) (.inl ⟨rfl,s⟩) (je 0xe1be0bbe10bb3 rfl))]
 haveI body:∀K:MF->List MV->MH->Prop,(i<c1.length\/j<c2.length)->(∀d a,(∃q,q<r/\MI H c1 c2 k p q d a)->K .next d a)->Kd (Ce X n) VS [tv c1,tv c2,iv k,.ref p,iv i,iv j] H' K:=by
  intro K M t;erw[qe λR E=>YM ?_];haveI w:=λd a h=>E d a (t d a h);erw[[],Er (aa ..) (Er (aa ..) ?_)];haveI Z:∀(K:MF->List MV->MH->Prop),(∀d a,(∃q,q<r/\MI H c1 c2 k p q d a)->K .next d a)->∀y,c2[j]?=some y->(∀x,c1[i]?=some x->y<=x)->Kd (Ce X n) US [tv c1,tv c2,iv k,.ref p,iv i,iv j] H' K:=by
   intro K t y s v;erw[qe λR E=>YM ?_];have w:=λd a h=>E d a (t d a h);erw[[],Er (aa ..) ⟨L,λh=>⟨λzz=>A2 _ y w s,λh=>nomatch h⟩,λB=>Xe (yf s) (l (ee 0x61c0331c010 rfl u)) ?_⟩,eE (⟨_,wa (vc I (Am B))⟩:∃x,c1[i]?=some x) λx f=>?_,Xe (yf f) (l (ee 0x61c0331c010 rfl o)) ⟨λzz=>A2 _ y w s,λM=>A3 _ x w f ?_⟩,Er s (Er (Ka (fC M) (v x f)) rfl)]
  haveI Y:j≠c2.length->∃y,c2[j]?=some y:=λh=>⟨_,wa (vc G h)⟩
  refine⟨S,λC=>⟨λzz=>?_,λh=>nomatch h⟩,λC=>⟨L,λB=>?_,λB=>⟨λh=>qd (h.symm.trans B) (λh=>nomatch h),λzz=>?_⟩⟩⟩
  ·haveI C:=zk C;erw[A1 _ _ w (wa (M.resolve_right (rc (Ob C.symm))))]
  ·erw[Zb (Y (Am C)) λy s=>?_,haveI f:=wa (tE B);?_,Xe (yf f) (l (ee 0x61c0331c010 rfl o)) (Xe (yf s) (l (ee 0x61c0331c010 rfl u)) ?_),⟨λzz=>A1 _ _ w f,λh=>Z _ w y s λx e=>?_⟩];rw[f]at e;erw[Es (oa e) (fC h)]
  ·obtain⟨y,s⟩:=Y (Am C);erw[Z _ w y s λx e=>qd (yd e) (rc (fC B))]
 erw[YM ?_,[],Er (aa ..) (Er (aa ..) ?_),⟨L,λo=>⟨λzz=>body _ (.inl (tE o)) λd a h=>h,λh=>nomatch h⟩,λo=>⟨S,λu=>(body _ (.inr (tE u)) λd a h=>h),λu=>?_⟩⟩]
 ·haveI e1:i=c1.length:=Ka I (fC o);haveI e2:j=c2.length:=Ka G (fC u);subst e1 e2;haveI J:=h m H' v (by haveI F:=(Sa ..)▸(Sa ..)▸F;exact F) N;erw[qe λR E=>?_,[],De z (l D) (Er (aa ..) ⟨λO=>?_,λO=>E _ _ ?_⟩)]
  ·rw[Ec (tE O)]at J;erw[J]
  ·rw[Dc (rc (fC O))]at J;erw[Bm (Uj z) (l D) J]
theorem BE (f:1<=n)(h:∀b,Q (.bool b) H):Fd X n 45 [tv c1,tv c2] H Q:=by
 erw[Xh n (Of f) λn=>(Ad rfl rfl (Qd λB R j i=>(Th (λk L a=>a=H/\∃v,L=[tv c1,tv c2,v]) ⟨rfl,_,rfl⟩ (λzz zz zz zz=>trivial) ?_ ?_)))]
 ·intro k x L a K d o c q p;obtain⟨rfl,v,rfl⟩:=o;erw[j _ _ _ ?_,[WS]];obtain⟨y,rfl⟩:∃y,x=iv y:=by
   erw[Sd (Gb (Eb d)) λy zz e=>⟨y,e.symm⟩]
  erw[qe λr l=>(jW mA ⟨λzz=>?_,λzz=>l _ _ (c _ _ ⟨rfl,_,rfl⟩)⟩),p _ _ _ (h _)]
 ·intro L a m;obtain⟨rfl,v,rfl⟩:=m;erw[i _ _ (h _)]
theorem vA (h:iv a=iv b):a=b:=Int.ofNat_inj.mp (MV.int.inj h)
theorem wA:∀{a b:List Nat},a.map iv=b.map iv->a=b:=by
 intro l
 induction l with
 |nil=>
  intro c h;cases c with
  |nil=>
   erw[rfl]
  |cons _ _=>
   erw[nomatch h]
 |cons _ _ d=>
  intro c h;cases c with
  |nil=>
   erw[nomatch h]
  |cons y b=>
   haveI h:=List.cons.inj h;erw[Er (vA h.1) (Er (d h.2) rfl)]
theorem xA (h:tv a=tv b):a=b:=wA (MV.tup.inj h)
theorem r9:∀{ws:List MV},(∀x∈ws,∃c,x=tv c)->∃cs:List (List Nat),ws=cs.map tv:=by
 intro l
 induction l with
 |nil=>
  intro _;exact⟨[],rfl⟩
 |cons x r a=>
  intro h;erw[Xh x (h x (.head _)) λc=>(Xh r (a λy m=>h y (.tail _ m)) λcs=>⟨c::cs,rfl⟩)]
theorem aq:∀{c:List Nat},gf (c.map iv)=some (c.map λ(i:Nat)=>(i:Int)):=by
 intro l
 induction l with
 |nil=>
  erw[rfl]
 |cons x r a=>
  show(gf (r.map iv)).map _=_;erw[Er a rfl]
theorem yA:rowOf (tv c)=some (c.map λ(i:Nat)=>(i:Int)):=aq
theorem Dd {a:Type}{l:List a}{i:Nat}{x:a}(h:l[i]?=some x):x∈l:=Eb h
def Kept (cs ks:List (List Nat)):Prop:=(∀c∈ks,c∈cs)/\(cs≠[]->∃c0 r,ks=c0::r/\∀c∈cs,c0.length<=c.length)
theorem RP {cs:List (List Nat)}(Y:2<=n)(hp:H p=some (.list (cs.map tv)))(Z:cs.length<60)(M:∀c∈cs,c.length<100)(h:∀q ks H',H.le H'->Kept cs ks->ks.length<=cs.length->H q=none->H' q=some (.list (ks.map tv))->Q (.ref q) H'):Fd X n 46 [.ref p] H Q:=by
 erw[eE (Of Y) λn Bk=>?_];subst Bk;erw[Ad rfl rfl ?_,[p46,bT],⟨Vd rfl,λq J=>?_⟩,Qd λB R hB hR=>(Er abq (ue (ge hp J) ⟨by refine Er (aa ..) ?_;exact Z,λx v=>?_,λws I O1 a ha=>?_⟩))]
 ·erw[Ef x (Gb v) λc C=>⟨_,yA,by exact Er (aa ..) (M c C)⟩]
 obtain⟨i,rfl⟩:∃i:List (List Nat),ws=i.map tv:=r9 λx v=>by
  erw[Sd (Gb (I.mem_iff.mp v)) λc zz e=>⟨c,e.symm⟩]
 have Ar:∀c,c∈i↔c∈cs:=λc=>by
  constructor
  ·intro m;erw[Sd (Gb (I.mem_iff.mp (List.mem_map_of_mem (f:=tv) m))) λd o e=>((xA e)▸o)]
  ·intro m;erw[Sd (Gb (I.mem_iff.mpr (List.mem_map_of_mem (f:=tv) m))) λd o e=>((xA e)▸o)]
 have hlen:i.length=cs.length:=by haveI:=I.length_eq;rwa[aa,aa]at this
 have G:(H.set q (.list [])) q=some (.list []):=MH.sd;have D:q≠a:=Gd G ha;have t9:i.Pairwise λc d=>c.length<=d.length:=by
  rw[List.pairwise_map]at O1;erw[O1.imp λh=>?_];haveI:=h _ _ yA yA;rwa[aa,aa]at this
 erw[ve MH.sd ?_]
 refine Th (λk L H'=>H.le H'/\H' a=some (.list (i.map tv))/\∃(ks:List (List Nat))(x y z:MV),L=[.ref p,.ref q,x,y,z]/\H' q=some (.list (ks.map tv))/\(∀c∈ks,c∈i)/\ks.length<=k/\ (0<k->∃r,ks=i.getD 0 []::r)) ⟨?_,MH.sd,[],_,_,_,rfl,?_,λzz h=>qd h Ea,Qa _,λh=>qd h (Ic _)⟩ (λk L H' h=>h.2.1) ?_ ?_
 ·exact((akr H).new J).new ha
 ·erw[Er (MH.ud D) G]
 ·intro k x L H' K v U V Ul OP;erw[hide λZz E=>?_];obtain⟨l,O,ks,x1,y,z,rfl,u,F,s,w⟩:=U;erw[E ?_];clear E;erw[hB _ _ _ ?_,[ZS]];obtain⟨c,C,rfl⟩:∃c,i[k]?=some c/\x=tv c:=by
   rw[za,Ha]at v;erw[Sd v λc h1 h2=>⟨c,h1,h2.symm⟩]
  have P:k<i.length:=yd C;erw[Qd λB2 R2 T cg=>?_,[],ve u (Th (λj L N=>N=H'/\∃(b:Bool)(z:MV),L=[.ref p,.ref q,tv c,.bool b,z]/\(j=0->b=true)) ⟨rfl,true,_,rfl,λzz=>rfl⟩ (λj L N h=>by exact Er h.1 u) ?_ ?_)]
  ·intro j x L N K2 Rx U W abO afv;obtain⟨rfl,b,z2,rfl,-⟩:=U;erw[T _ _ _ ?_,[XS],Ef x (Gb (Dd Rx)) λd zz=>(qe λR3 A=>(BE (dn Y) λb2=>⟨λzz=>?_,λzz=>A _ _ (W _ _ ⟨rfl,b,_,rfl,λh=>nomatch h⟩)⟩)),A _ _ (W _ _ ⟨rfl,false,_,rfl,λh=>nomatch h⟩)]
  ·intro L N Zd;obtain⟨rfl,b,z2,rfl,M⟩:=Zd;erw[cg _ _ (qe λR3 A=>?_),haveI mZ:(ks.map tv).length<big:=ja (m:=60) (Er (aa ..) (oi 0x3c2c033c2ce3b1032112e1b101010 rfl s P hlen Z)) (Vd rfl);?_,⟨λhbt=>?_,λS=>A _ _ (V _ _ ⟨l,O,ks,_,_,_,rfl,u,F,Qc s,λzz=>?_⟩)⟩]
   ·erw[[YS],⟨fh u,eh u mZ (A _ _ (V _ _ ⟨l.set J,by refine Er (MH.ud D.symm) ?_;exact O,ks++[c],_,_,_,rfl,by exact Er (MH.sd ..) (Er (Aa ..) rfl),λd o=>?_,?_,λzz=>?_⟩))⟩]
    ·rcases Oa o with h|h
     ·erw[F d h]
     ·erw[Er (ia h) (Dd C)]
    ·erw[Er (ua ..) (Wa s)]
    ·rcases Nat.eq_zero_or_pos k with e|e
     ·subst e;refine Er (List.eq_nil_of_length_eq_zero (Nat.le_zero.mp s)) ?_;refine Er (Ga ..) ?_;refine Er C ?_;exact⟨[],rfl⟩
     ·obtain⟨r,e⟩:=w e;exact⟨r++[c],by exact Er e rfl⟩
   ·rcases Nat.eq_zero_or_pos k with e|e
    ·subst e;rw[aa,List.eq_nil_of_length_eq_zero (Nat.le_zero.mp s)]at M;erw[nomatch (M rfl).symm.trans S]
    ·erw[w e]
 ·intro L H' G;erw[hide λZz E=>?_];obtain⟨l,O,ks,x1,y,z,rfl,u,F,s,w⟩:=G;erw[E ?_];clear E;erw[hR _ _ ?_];rw[aa]at w s;erw[h q ks H' l ⟨λc m=>(Ar c).mp (F c m),λIk=>?_⟩ (hlen▸s) J u];have o:0<i.length:=by
   erw[Er hlen (List.length_pos_iff.mpr Ik)]
  obtain⟨r,e⟩:=w o;refine⟨_,r,e,λc m=>?_⟩;cases i with
  |nil=>exact qd o (Ic _)|cons d0 t=>
   haveI m:=(Ar c).mpr m;rcases xa m with e|m
   ·erw[Er e (Qa _)]
   ·exact(List.pairwise_cons.mp t9).1 c m
inductive A2 (a b:Prop):Prop
 |mk (x1:a) (x2:b)
inductive A3 (a b c:Prop):Prop
 |mk (x1:a) (x2:b) (x3:c)
inductive A4 (a b c d:Prop):Prop
 |mk (x1:a) (x2:b) (x3:c) (x4:d)
inductive A5 (a b c d e:Prop):Prop
 |mk (x1:a) (x2:b) (x3:c) (x4:d) (x5:e)
inductive A6 (a b c d e f:Prop):Prop
 |mk (x1:a) (x2:b) (x3:c) (x4:d) (x5:e) (x6:f)
inductive A8 (a b c d e f g h:Prop):Prop
 |mk (x1:a) (x2:b) (x3:c) (x4:d) (x5:e) (x6:f) (x7:g) (x8:h)
theorem be {Q:MF->List MV->MH->Prop}(f:α->List MV) (I:Nat->α->MH->Prop) (a0:α) (p:I 0 a0 H) (l:∀k a H,I k a H->bg H)(step:∀k x a H (K:MF->List MV->MH->Prop),items[k]?=some x->I k a H->(∀b H2,I (k+1) b H2->K .next (f b) H2)->(∀b H2,I (k+1) b H2->K .cont (f b) H2)->(∀v c H2,Q (.ret v) c H2->K (.ret v) c H2)->ri t x (f a) λL'=>body L' H K)(fin:∀a H,I items.length a H->Q .next (f a) H):Mh bg t body items (f a0) H Q:=
 Th (λk L H=>∃a,L=f a/\I k a H) ⟨a0,rfl,p⟩ (λk L H q=>by obtain⟨a,_,h⟩:=q;exact l k a H h) (λk x L H K j i o n m=>by obtain⟨a,e,h⟩:=i;exact by subst e;exact step k x a H K j h (λb H2 h=>o _ _ ⟨b,rfl,h⟩) (λb H2 h=>n _ _ ⟨b,rfl,h⟩) m)
  λL H d=>by obtain⟨a,e,h⟩:=d;exact by subst e;exact fin a H h
theorem wL {i:Type}{P:Pg}{c:ME}{b r:List MS}{Q:MF->List MV->MH->Prop}(f:i->List MV)(I:Nat->i->MH->Prop)(n:Nat)(a0:i)(o:I n a0 H)(step:∀n a H (K:MF->List MV->MH->Prop),I n a H->(∀m d H2,m<n->I m d H2->K .next (f d) H2)->(∀m d H2,m<n->I m d H2->K .cont (f d) H2)->(∀v e H2,Q (.ret v) e H2->K (.ret v) e H2)->Yd P c (f a) H (ul λt l=>(t=true->Kd P b (f a) l K)/\(t=false->Kd P r (f a) l Q))):Kd P (.Hi c b::r) (f a0) H Q:=by erw[yv (λn L H=>∃a,L=f a/\I n a H) n ⟨a0,rfl,o⟩ ?_,λn _ H s=>?_,Sd s λa q h=>(Er q (step n a H (λp e H2=>match p with|.ret v=>Q (.ret v) e H2|_=>∃m,m<n/\∃a,e=f a/\I m a H2) h (λm d H2 j k=>⟨m,j,d,rfl,k⟩) (λm d H2 j k=>⟨m,j,d,rfl,k⟩) λv e H2 h=>h))]
theorem Gg {Q:List MV->MH->Prop}(f:α->List MV) (I:Nat->α->MH->Prop) (a0:α) (n:f a0=[]) (m:I 0 a0 H) (j:∀k a H,I k a H->bg H/\(f a).length<big)(step:∀k x a H (K:List MV->MH->Prop),items[k]?=some x->I k a H->(∀more b H2,f b=f a++more->I (k+1) b H2->K more H2)->body x H K)(fin:∀a H,I items.length a H->Q (f a) H):af bg body items [] H Q:=by
 erw[Es n ?_];exact g9 (λk L H=>∃a,L=f a/\I k a H) ⟨a0,rfl,m⟩ (λk L H o=>by obtain⟨a,e,h⟩:=o;exact by subst e;exact j k a H h) (λk x L H K i c l=>by obtain⟨a,e,h⟩:=c;exact by subst e;exact step k x a H K i h λmore b H2 e h=>l _ _ ⟨b,e.symm,h⟩)
  λL H d=>by obtain⟨a,e,h⟩:=d;exact by subst e;exact fin a H h
def Off (S:List Nat)(H H':MH):Prop:=∀a o,a∉S->H a=some o->H' a=some o
theorem Off.refl:Off S H H:=λ_ _ _ e=>e
theorem aku:type_of% @Off.refl:=@Off.refl
theorem Off.trans (x:Off S H H')(y:Off S H' NX):Off S H NX:=λa o n e=>y a o n (x a o n e)
theorem Off.set (x:Off S H H')(h:a∈S):Off S H (H'.set a o):=λb c n e=>by
 rw[MH.ud (λq=>n (by exact Er q h))];exact x b c n e
theorem Off.new (x:Off S H H')(h:H' a=none):Off S H (H'.set a o):=λb c n e=>ge (x b c n e) h
theorem Off.put (x:Off S H H')(h:H a=none):Off S H (H'.set a o):=λb c n e=>by
 rw[MH.ud (Gd e h)];exact x b c n e
theorem Off.more (x:Off S H H')(h:∀a∈S,a∈S'):Off S' H H':=λa o n e=>x a o (λm=>n (h a m)) e
theorem Off.le (y:H0.le H)(x:Off S H H')(h:∀a∈S,H0 a=none):H0.le H':=λa o e=>x a o (λm=>by have e:=(h a m)▸e;exact nn e) (y a o e)
theorem MH.le.off (x:H.le H'):Off S H H':=λa o _ e=>x a o e
abbrev Va:=Nat->Bool
def lv (v:Va)(l:Nat):Bool:=xor (v (l/2)) (decide (l%2=1))
abbrev Nd:=Option (Nat×Nat)
def Sx:Nd->MV
 |none=>.none|some p=>.tup [iv p.1,iv p.2]
def Ri (ns:List Nd)(v:Va):Prop:=v 0=false/\∀i l r,ns[i]?=some (some (l,r))->v i=(lv v l&&lv v r)
theorem Ri.pre {ns a:List Nd}{v:Va}(h:Ri (ns++a) v):Ri ns v:=⟨h.1,λi l r e=>h.2 i l r (by refine Er (jc (Fa e).1) ?_;exact e)⟩
theorem lv0 (h:v 0=false):lv v 0=false:=by unfold lv;exact Er h rfl
theorem lv1 (h:v 0=false):lv v 1=true:=by unfold lv;exact Er h rfl
theorem Jv:lv v (2*n)=v n:=by unfold lv;erw[Er (Nat.mul_div_cancel_left _ akq) (Er (Nat.mul_mod_right ..) (Er (decide_eq_false akq) (Er (Bool.xor_false ..) rfl)))]
theorem zA (l:Nat):(l^^^1)/2=l/2/\decide ((l^^^1)%2=1)=!decide (l%2=1):=by
 constructor
 ·erw[Er (Nat.xor_div_two ..) (Nat.xor_zero _)]
 ·erw[Es (Nat.testBit_zero ..) (Er (Nat.testBit_xor ..) (Er (Nat.testBit_zero ..) (Er (Nat.testBit_zero ..) (Bool.xor_true _))))]
theorem Wj:lv v (l^^^1)=!lv v l:=by unfold lv;erw[Er ((zA l).1) (Er ((zA l).2) (Er (Bool.xor_not ..) rfl))]
structure Ag where
 pn:Nat
 pi:Nat
 po:Nat
 pt:Nat
 wd:List Nd
 ins:List Nat
 outs:List Nat
inductive Fe (H:MH)(d:Nat)(A:Ag):Prop
 |mk (ns:∃f,A5 (H d=some (.ns f)) (f 39=.ref A.pn) (f 36=.ref A.pi) (f 37=.ref A.po) (f 40=.ref A.pt)) (an:H A.pn=some (.list (A.wd.map Sx))) (ai:H A.pi=some (.list (A.ins.map iv))) (ao:H A.po=some (.list (A.outs.map iv))) (ab:∃xd,A3 (H A.pt=some (.dict xd)) (xd.length<=A.wd.length) (∀l r x,ce xd (.tup [iv l,iv r])=some x->∃i,x=iv i/\A.wd[i]?=some (some (l,r)))) (ne1:A.pn≠A.pi) (ne2:A.pn≠A.po) (ne3:A.pi≠A.po) (wf:∀i l r,A.wd[i]?=some (some (l,r))->l/2<i/\r/2<i) (z:A.wd[0]?=some none)
inductive Ext (A A':Ag)(k:Nat):Prop
 |mk (more:∃ms,A'={A with wd:=A.wd++ms}/\ms.length<=k/\∀m∈ms,m≠none)
theorem Ext.refl:Ext A A k:=⟨[],by exact Er (ib ..) rfl,Ta _,λ_ h=>qd h Ea⟩
theorem Ext.trans (x:Ext A B k)(y:Ext B C j):Ext A C (k+j):=by obtain⟨a,rfl,e,d⟩:=x;obtain⟨ns,rfl,c,b⟩:=y;exact⟨a++ns,by refine Es (Db ..) ?_;rfl,by refine Er (ua ..) ?_;exact oi 0x31b20b332101010 rfl e c,λm h=>(Oa h).elim (d m) (b m)⟩
theorem Ext.pre {v:Va}(x:Ext A B k)(h:Ri B.wd v):Ri A.wd v:=by obtain⟨a,rfl,-,-⟩:=x;erw[h.pre]
theorem Ext.len (x:Ext A B k):A.wd.length<=B.wd.length/\B.wd.length<=A.wd.length+k:=by
 erw[hide λc b=>?_];obtain⟨a,rfl,h,-⟩:=x;erw[b ?_];clear b;constructor
 ·show _<=(A.wd++a).length;erw[Er ua (jb _ _)]
 ·show(A.wd++a).length<=_;erw[Er ua (Gc h _)]
theorem Ext.ad (x:Ext A B k):B.pn=A.pn/\B.pi=A.pi/\B.po=A.po/\B.pt=A.pt/\B.ins=A.ins/\B.outs=A.outs:=by erw[hide λc a=>?_];obtain⟨b,rfl,-,-⟩:=x;erw[a ?_];clear a;exact⟨rfl,rfl,rfl,rfl,rfl,rfl⟩
theorem Ext.up (x:Ext A B k)(h:k<=j):Ext A B j:=by obtain⟨a,e,c,b⟩:=x;exact⟨a,e,Ba c h,b⟩
theorem Vh (hd:H d=some (.ns fs))(e:fs f=v)(a:v≠.td)(h:Q v H):Te (.obj k d) f H Q:=Jx hd (Er e a) (Er e h)
theorem Fe.aN (a:Fe H d A)(h:Q (.ref A.pn) H):Te (.obj k d) 39 H Q:=by obtain⟨_,x⟩:=a.1;exact Vh x.1 x.2 MV.noConfusion h
theorem Fe.aI (a:Fe H d A)(h:Q (.ref A.pi) H):Te (.obj k d) 36 H Q:=by obtain⟨_,x⟩:=a.1;exact Vh x.1 x.3 MV.noConfusion h
theorem Fe.aO (a:Fe H d A)(h:Q (.ref A.po) H):Te (.obj k d) 37 H Q:=by obtain⟨_,x⟩:=a.1;exact Vh x.1 x.4 MV.noConfusion h
theorem Fe.aT (a:Fe H d A)(h:Q (.ref A.pt) H):Te (.obj k d) 40 H Q:=by obtain⟨_,x⟩:=a.1;exact Vh x.1 x.5 MV.noConfusion h
theorem Fe.Ei (a:Fe H d A)(h:X.Zf k m=some f):Ng (Ce X n) m (.obj k d) H:=by obtain⟨_,x⟩:=a.1;exact rObj h x.1
theorem Fe.Kg (h:X.Zf k m=some f)(c:Fd X n f (.obj k d::as) H Q):Lg (Ce X n) m (.obj k d) as H Q:=Ih h c
theorem og (c:H d=some (.ns f))(b:H a=some o)(h:∀f,o≠.ns f):d≠a:=λe=>by subst e;rw[c]at b;exact h f (oa b).symm
theorem Le (c:H d=some (.dict f))(b:H a=some (.list o)):d≠a:=λe=>by subst e;have b:=c▸b;exact Xi MO.ctorIdx (oa b) rfl
theorem Fe.off (a:Fe H d A)(o:Off S H H')(h:d∉S/\A.pn∉S/\A.pi∉S/\A.po∉S/\A.pt∉S):Fe H' d A:=by erw[eE a.1 λf x=>?_];obtain⟨k,y⟩:=a.5;exact⟨⟨f,o _ _ h.1 x.1,x.2,x.3,x.4,x.5⟩,o _ _ h.2.1 a.2,o _ _ h.2.2.1 a.3,o _ _ h.2.2.2.1 a.4,⟨k,o _ _ h.2.2.2.2 y.1,y.2,y.3⟩,a.6,a.7,a.8,a.9,a.10⟩
theorem Fe.mono (a:Fe H d A)(o:H.le H'):Fe H' d A:=a.off (S:=[]) (λa b _ e=>o a b e) ⟨Ea,Ea,Ea,Ea,Ea⟩
theorem CE (E:1<=n)(hd:∃f,H d=some (.ns f))(h:∀H' A,Off [d] H H'->Fe H' d A->A.wd=[none]->A.ins=[]->A.outs=[]->H A.pn=none/\H A.pi=none/\H A.po=none/\H A.pt=none->Q .none H'):Fd X n 16 [.obj 1 d] H Q:=by
 erw[Xh n (Of E) λn=>(eE hd λf hd=>(Ad rfl rfl ?_)),[Ae,p16,iS],⟨Vd rfl,λa y=>?_⟩,haveI z:=Gd hd y;?_,Pi (ge hd y) ?_,[Ae,gS],⟨Vd rfl,λb o=>?_⟩];have u:b≠d:=λe=>by rw[e,MH.sd]at o;exact(nomatch o)
 rw[MH.ud u]at o;haveI p:b≠a:=λe=>by rw[e,MH.sd]at o;exact(nomatch o)
 rw[MH.ud p]at o;erw[Pi ((MH.ud u.symm).trans MH.sd) ?_,[Ae,fS],⟨Vd rfl,λc m=>?_⟩];have s:c≠d:=λe=>by have m:=MH.sd▸e▸m;exact ns m
 rw[MH.ud s]at m;have C:c≠b:=λe=>by rw[e,MH.sd]at m;exact(nomatch m)
 rw[MH.ud C,MH.ud s]at m;have B:c≠a:=λe=>by rw[e,MH.sd]at m;exact(nomatch m)
 rw[MH.ud B]at m;have m:=m;erw[Pi ((MH.ud s.symm).trans MH.sd) ?_,[Ae,eS],⟨λk F=>qd F Ea,λt j=>?_⟩];have q:t≠d:=λe=>by have j:=MH.sd▸e▸j;exact ns j
 rw[MH.ud q]at j;have D:t≠c:=λe=>by rw[e,MH.sd]at j;exact(nomatch j)
 rw[MH.ud D,MH.ud q]at j;have j:=j;haveI w:t≠b:=λe=>by rw[e,MH.sd]at j;exact(nomatch j)
 rw[MH.ud w,MH.ud q]at j;have v:t≠a:=λe=>by rw[e,MH.sd]at j;exact(nomatch j)
 rw[MH.ud v]at j;erw[Pi ((MH.ud q.symm).trans MH.sd) ?_,[Ae],h _ ⟨a,b,c,t,[none],[],[]⟩ ((((((((aku.put y).set (.head _)).put o).set (.head _)).put m).set (.head _)).put j).set (.head _)) ⟨⟨_,MH.sd,rfl,rfl,rfl,rfl⟩,?_,?_,?_,⟨[],?_,Ta _,λl r x e=>by cases e⟩,p.symm,B.symm,C.symm,λi l r e=>?_,rfl⟩ rfl rfl rfl ⟨y,o,m,j⟩]
 ·show MH.set _ _ _ a=_;erw[Er (MH.ud z.symm) (Er (MH.ud v.symm) (Er (MH.ud z.symm) (Er (MH.ud B.symm) (Er (MH.ud z.symm) (Er (MH.ud p.symm) (Er (MH.ud z.symm) (Er MH.sd rfl)))))))]
 ·show MH.set _ _ _ b=_;erw[Er (MH.ud u) (Er (MH.ud w.symm) (Er (MH.ud u) (Er (MH.ud C.symm) (Er (MH.ud u) (Er MH.sd rfl)))))]
 ·show MH.set _ _ _ c=_;erw[Er (MH.ud s) (Er (MH.ud D.symm) (Er (MH.ud s) (Er MH.sd rfl)))]
 ·show MH.set _ _ _ t=_;erw[Er (MH.ud q) (Er MH.sd rfl)]
 ·cases i with
  |zero=>exact nn (oa e)|succ i=>exact nn e
theorem SP (s:1<=n)(a:Fe H d A)(c:A.wd.length<1000)(hi:A.ins.length<1000)(h:∀H',Off [A.pn,A.pi] H H'->Fe H' d {A with wd:=A.wd++[none],ins:=A.ins++[A.wd.length]}->Q (iv (2*A.wd.length)) H'):Fd X n 17 [.obj 1 d] H Q:=by
 erw[eE (Of s) λn u=>?_];subst u;have b:∀{j:Type}{l:List j}{f:j->MV},l.length<1000->(l.map f).length<big:=λh=>by exact Er (aa ..) (ya h akq)
 erw[Ad rfl rfl ?_,[Ae,p17,mS],a.aN (De a.2 (b c) ?_),Er (aa ..) ?_,[Ae,lS],a.aN ⟨fh a.2,?_⟩,[Ae],eh a.2 (b c) (Zb (a.1) λf x=>(eE a.5 λq y=>?_)),haveI p:(H.set A.pn (.list (A.wd.map Sx++[.none]))) d=some (.ns f):=Er (MH.ud (og x.1 a.2 λ_=>MO.noConfusion)) x.1;?_,haveI o:(H.set A.pn (.list (A.wd.map Sx++[.none]))) A.pi=some (.list (A.ins.map iv)):=Er (MH.ud a.6.symm) a.3;?_,[Ae,jS],Vh p x.3 MV.noConfusion ⟨fh o,?_⟩,[Ae],eh o (b hi) (Av (a:=2) akq (ya c akq) (h _ ((aku.set (.head _)).set (.tail _ (.head _))) ⟨⟨f,(Er (MH.ud (og x.1 a.3 λ_=>MO.noConfusion)) p),x.2,x.3,x.4,x.5⟩,(Er (MH.ud a.6) (Er MH.sd (Er Aa rfl))),(Er MH.sd (Er Aa rfl)),?_,⟨q,?_,(Er ua (Ba y.2 (jb _ _))),λl r v e=>(Sd (y.3 l r v e) λi t m=>⟨i,t,by refine Er (jc (yd m)) ?_;exact m⟩)⟩,a.6,a.7,a.8,λi l r e=>?_,?_⟩))]
 ·show MH.set _ _ _ A.po=_;erw[Er (MH.ud a.8.symm) (Er (MH.ud a.7.symm) a.4)]
 ·show MH.set _ _ _ A.pt=_;erw[Er (MH.ud (Le y.1 a.3)) (Er (MH.ud (Le y.1 a.2)) y.1)]
 ·haveI e:(A.wd++[none])[i]?=some (some (l,r)):=e;rw[tc]at e;by_cases hi:i<A.wd.length
  ·rw[Ec hi]at e;exact a.9 i l r e
  ·rw[Dc hi,Lc]at e;have e:=e;by_cases k:i-A.wd.length=0
   ·rw[Ec k]at e;exact(nomatch e)
   ·rw[Dc k]at e;exact(nomatch e)
 ·show(A.wd++[none])[0]?=_;refine Er (jc (yd a.10)) ?_;exact a.10
theorem zL (e:1<=n)(a:Fe H d A)(hi:A.outs.length<1000)(h:∀H',Off [A.po] H H'->Fe H' d {A with outs:=A.outs++[x]}->Q .none H'):Fd X n 18 [.obj 1 d,iv x] H Q:=by
 erw[eE (Of e) λn i=>?_];subst i;have c:(A.outs.map iv).length<big:=Er (aa ..) (ya hi akq);erw[Ad rfl rfl ?_,[Ae,p18,nS],a.aO ⟨fh a.4,?_⟩,[Ae],Zb (a.1) λf x=>(eE a.5 λb y=>(eh a.4 c (h _ (aku.set (.head _)) ⟨⟨f,(Er (MH.ud (og x.1 a.4 λ_=>MO.noConfusion)) x.1),x.2,x.3,x.4,x.5⟩,?_,?_,?_,⟨b,?_,y.2,y.3⟩,a.6,a.7,a.8,a.9,a.10⟩)))]
 ·show MH.set _ _ _ A.pn=_;erw[Er (MH.ud a.7) a.2]
 ·show MH.set _ _ _ A.pi=_;erw[Er (MH.ud a.8) a.3]
 ·show MH.set _ _ _ A.po=_;erw[Er MH.sd (Er Aa rfl)]
 ·show MH.set _ _ _ A.pt=_;erw[Er (MH.ud (Le y.1 a.4)) y.1]
theorem AL:MV.beq (Sx x) .none=x.isNone:=by cases x<;>rfl
theorem TP:Sx x≠.td:=by cases x<;>exact MV.noConfusion
theorem BL (e:1<=n)(a:Fe H d A)(c:A.wd.length<1000)(b:A.wd[i]?=some x)(h:Q (.bool x.isSome) H):Fd X n 19 [.obj 1 d,iv i] H Q:=by erw[Xh n (Of e) λn=>(Ad rfl rfl ?_),[Ae,qs,oS],a.aN (Ve a.2 (by refine Er (za ..) ?_;exact Er b rfl) (Er (aa ..) (ya c akq)) (Dv TP ?_)),Er AL ?_];cases x<;>exact h
inductive wh (d:Nat)(A:Ag)(H:MH)(k:Nat)(g:Va->Bool)(x:Nat)(A':Ag)(H':MH):Prop
 |mk (at':Fe H' d A') (ext:Ext A A' k) (off:Off [A.pn,A.pt] H H') (lt:x/2<A'.wd.length) (val:∀v,Ri A'.wd v->lv v x=g v)
theorem wh.here {x:Nat}{k:Nat}{g:Va->Bool}(a:Fe H d A)(b:x/2<A.wd.length)(h:∀v,Ri A.wd v->lv v x=g v):wh d A H k g x A H:=⟨a,Ext.refl,aku,b,h⟩
theorem Xj (L:1<=n)(a:Fe H d A)(z:A.wd.length<1000)(t:l/2<A.wd.length)(s:r/2<A.wd.length)(h:∀x w H',wh d A H 1 (λv=>lv v l&&lv v r) x w H'->Q (iv x) H'):Fd X n 20 [.obj 1 d,iv l,iv r] H Q:=by
 erw[Xh n (Of L) λn=>?_];haveI G:(A.wd.map Sx).length<big:=Er (aa ..) (ya z akq);have core:∀l r,l/2<A.wd.length->r/2<A.wd.length->(∀x w H',wh d A H 1 (λv=>lv v l&&lv v r) x w H'->Q (iv x) H')->
  Kd (Ce X n) Sz [.obj 1 d,iv l,iv r,.td] H λu _ H'=>Q (Af u) H':=by
  clear h t s l r;intro l r t s h;erw[[Sz]];have t0:(l=0\/l=r^^^1)->Kd (Ce X n) rS [.obj 1 d,iv l,iv r,.td] H λu _ H'=>Q (Af u) H':=λF=>by
   erw[h 0 A H (wh.here a (yd a.10) λv c=>?_),Er (lv0 c.1) ?_];rcases F with rfl|rfl
   ·erw[Er (lv0 c.1) rfl]
   ·erw[Er Wj (Er (Bool.not_and_self ..) rfl)]
  have t1:(l=1\/l=r)->Kd (Ce X n) sS [.obj 1 d,iv l,iv r,.td] H λu _ H'=>Q (Af u) H':=λF=>by
   erw[h r A H (wh.here a s λv c=>?_)];rcases F with rfl|rfl
   ·erw[Er (lv1 c.1) rfl]
   ·erw[Er (Bool.and_self ..) rfl]
  erw[qe λR p=>YM ?_,[],⟨λe=>⟨λ_=>t0 (.inl (zk (b:=0) e)),λh=>nomatch h⟩,λ_=>Zi (b:=1) ?_⟩,⟨λe=>t0 (.inr (zk e)),λ_=>p _ _ ?_⟩,qe λR p=>YM ?_,[],⟨λe=>⟨λ_=>t1 (.inl (zk (b:=1) e)),λh=>nomatch h⟩,λ_=>?_⟩,⟨λe=>t1 (.inr (zk e)),λ_=>p _ _ ?_⟩];clear t0 t1;obtain⟨B,y⟩:=a.5;erw[[wS],a.aT ⟨dL y.1,Vd rfl,cL y.1 rfl ?_⟩];haveI E:∃i:Int,(ce B (.tup [iv l,iv r])).getD (.int (-1))=.int i/\((i=-1)\/∃j:Nat,i=j/\A.wd[j]?=some (some (l,r))):=by
   cases e:ce B (.tup [iv l,iv r])with
   |none=>exact⟨-1,rfl,.inl rfl⟩|some x=>
    erw[Qf x (y.3 l r x e) λi q=>⟨i,rfl,.inr ⟨i,rfl,q⟩⟩]
  obtain⟨i,e,q⟩:=E;erw[Er e (qe λR p=>⟨λU=>?_,λT=>p _ _ ?_⟩)]
  ·erw[[vS],a.aN (De a.2 G ?_),Er (aa ..) ?_,[uS],a.aN ⟨fh a.2,Vd rfl,eh a.2 G ?_⟩,Zb (a.1) λf x=>?_,have J:(H.set A.pn (.list (A.wd.map Sx++[.tup [iv l,iv r]]))) d=some (.ns f):=Er (MH.ud (og x.1 a.2 λ_=>MO.noConfusion)) x.1;?_,have S:(H.set A.pn (.list (A.wd.map Sx++[.tup [iv l,iv r]]))) A.pt=some (.dict B):=Er (MH.ud (Le y.1 a.2)) y.1;?_,[tS],Vh J x.5 MV.noConfusion ⟨Vd rfl,putD S rfl (ja y.2 (ya z akq)) (p _ _ ?_)⟩];have P:∀i o k,(A.wd++[some (l,r)])[i]?=some (some (o,k))->A.wd[i]?=some (some (o,k))\/(i=A.wd.length/\o=l/\k=r):=λi o k e=>by
    rw[tc]at e;by_cases q:i<A.wd.length
    ·rw[Ec q]at e;exact .inl e
    ·rw[Dc q,Lc]at e;have e:=e;by_cases C:i-A.wd.length=0
     ·rw[Ec C]at e;cases e;exact .inr ⟨by exact Ka (se 0x123f011210b12 rfl (ta (uc q)) C) (uc q),rfl,rfl⟩
     ·rw[Dc C]at e;exact nn e
   erw[Av (a:=2) akq (ya z akq) (h _ {A with wd:=A.wd++[some (l,r)]} _ ⟨⟨⟨f,(Er (MH.ud (og x.1 y.1 λ_=>MO.noConfusion)) J),x.2,x.3,x.4,x.5⟩,(Er (MH.ud (Le y.1 a.2).symm) (Er (MH.sd ..) (Er (Aa ..) rfl))),?_,?_,⟨_,MH.sd,(Er (ua ..) (Ba xf (Wa y.2))),λo k v e=>?_⟩,a.6,a.7,a.8,λi o k e=>?_,?_⟩,⟨[some (l,r)],rfl,Qa _,λm M=>(Er (ia M) (λe=>nomatch e))⟩,(aku.set (.head _)).set (.tail _ (.head _)),?_,λv c=>(Er Jv (c.2 _ l r List.getElem?_concat_length))⟩)]
   ·show MH.set _ _ _ A.pi=_;erw[Er (MH.ud (Le y.1 a.3).symm) (Er (MH.ud a.6.symm) a.3)]
   ·show MH.set _ _ _ A.po=_;erw[Er (MH.ud (Le y.1 a.4).symm) (Er (MH.ud a.7.symm) a.4)]
   ·rw[ie]at e;split at e
    ·rename_i N;cases MV.beq_eq _ _ N;obtain rfl:=oa e;exact⟨_,rfl,List.getElem?_concat_length⟩
    ·erw[Sd (y.3 o k v e) λi O I=>⟨i,O,by refine Er (jc (yd I)) ?_;exact I⟩]
   ·rcases P i o k e with h|⟨rfl,rfl,rfl⟩
    ·erw[a.9 i o k h]
    ·exact⟨t,s⟩
   ·show(A.wd++[some (l,r)])[0]?=_;refine Er (jc (yd a.10)) ?_;exact a.10
   ·show _<(A.wd++[some (l,r)]).length;erw[Er (Nat.mul_div_cancel_left _ akq) (Er (ua ..) (Oc _))]
  ·obtain⟨j,rfl,D⟩:∃j:Nat,i=j/\A.wd[j]?=some (some (l,r)):=q.resolve_left λe=>by subst e;exact tf T
   erw[Av (a:=2) akq (ya (ya (yd D) z) akq) (h _ A H (wh.here a (Er (Nat.mul_div_cancel_left _ akq) (yd D)) λv c=>(Er Jv (c.2 j l r D))))]
 erw[Ad rfl rfl (qe λR p=>⟨λ_=>?_,λ_=>p _ _ (core l r t s h)⟩),[qS],p _ _ (core r l s t λx w H' e=>h x w H' ⟨e.1,e.2,e.3,e.4,λv c=>?_⟩),Er (e.5 v c) (Er (Bool.and_comm ..) rfl)]
theorem fresh (h:(H.set a o) b=none):b≠a/\H b=none:=by
 haveI c:b≠a:=λe=>by rw[e,MH.sd]at h;exact(nomatch h)
 exact⟨c,by rwa[MH.ud c]at h⟩
theorem Re {a:Type}{l:List a}{f:a->MV}(h:l.length<1000):(l.map f).length<big:=Er (aa ..) (ya h akq)
theorem UP (h:s<2):lv v (x^^^s)=xor (lv v x) (decide (s=1)):=by
 match s,h with
 |0,_=>exact Er (Nat.xor_zero ..) ((Bool.xor_false _).symm)|1,_=>exact Er Wj ((Bool.xor_true _).symm)
theorem AA (l:Nat):l&&&1=l%2:=Nat.and_one_is_mod l
theorem Jt (l:Nat):(l^^^(l&&&1))/2=l/2/\lv v (l^^^(l&&&1))=v (l/2):=by
 haveI h:=Nat.mod_two_eq_zero_or_one l;rw[AA];rcases h with h|h
 ·erw[Er h (Er (Nat.xor_zero ..) ?_),⟨rfl,by unfold lv;exact Er h (Bool.xor_false _)⟩]
 ·erw[Er h ⟨(zA l).1,by refine Er Wj ?_;unfold lv;refine Er h ?_;simp⟩]
theorem Nn (h:s<2):(l^^^s)/2=l/2:=by
 match s,h with
 |0,_=>exact Er (Nat.xor_zero ..) rfl|1,_=>exact(zA l).1
theorem VP (l r:Nat):(l^^^r)&&&1<2/\decide ((l^^^r)&&&1=1)=xor (decide (l%2=1)) (decide (r%2=1)):=by refine⟨Nat.lt_succ_of_le (Oh _),?_⟩;rw[AA,<-Nat.testBit_zero,Nat.testBit_xor,Nat.testBit_zero,Nat.testBit_zero]
theorem wh.not {k x:Nat}{g:Va->Bool}{a:Ag}(e:wh d A H k g x a H'):wh d A H k (λv=>!g v) (x^^^1) a H':=
 ⟨e.1,e.2,e.3,by refine Er ((zA x).1) ?_;exact e.4,λv b=>by exact Er Wj (Er (e.5 v b) rfl)⟩
theorem wh.eq {k x:Nat}{g g':Va->Bool}{a:Ag}(e:wh d A H k g x a H')(h:∀v,Ri a.wd v->g v=g' v):wh d A H k g' x a H':=⟨e.1,e.2,e.3,e.4,λv b=>by exact Er (e.5 v b) (Er (h v b) rfl)⟩
theorem wh.abS {k x:Nat}{g:Va->Bool}{a:Ag}{b H2:MH}(e:wh d A H k g x a b)(o:Off [a.pn,a.pt] b H2):Off [A.pn,A.pt] H H2:=by haveI ad:=e.2.ad;rw[ad.1,ad.2.2.2.1]at o;erw[e.3.trans o]
theorem wh.step {k j x y:Nat}{g a:Va->Bool}{c A2:Ag}{b H2:MH}(e:wh d A H k g x c b)(f:wh d c b j a y A2 H2):wh d A H (k+j) a y A2 H2:=
 ⟨f.1,e.2.trans f.2,e.abS f.3,f.4,f.5⟩
theorem BA (f:2<=n)(a:Fe H d A)(i:A.wd.length<1000)(k:l/2<A.wd.length)(j:r/2<A.wd.length)(h:∀x c H',wh d A H 1 (λv=>lv v l||lv v r) x c H'->Q (iv x) H'):Fd X n 21 [.obj 1 d,iv l,iv r] H Q:=by erw[eE (Of f) λn m=>?_];subst m;erw[Ad rfl rfl ?_,[Ae,p21,xS],⟨a.Ei rfl,Zi (b:=1) (Zi (b:=1) (Fe.Kg rfl (Xj (dn f) a i (Er ((zA l).1) k) (Er ((zA r).1) j) λx c H' e=>?_)))⟩,[Ae],Zi (b:=1) (h _ c H' (e.not.eq λv zz=>?_))];show(!(lv v (l^^^1)&&lv v (r^^^1)))=(lv v l||lv v r);erw[Er Wj (Er Wj (Er (Bool.not_and ..) (Er (Bool.not_not ..) (Er (Bool.not_not ..) rfl))))]
theorem WP (k:3<=n)(a:Fe H d A)(p:A.wd.length<997)(D:l/2<A.wd.length)(C:r/2<A.wd.length)(h:∀x G H',wh d A H 3 (λv=>xor (lv v l) (lv v r)) x G H'->Q (iv x) H'):Fd X n 22 [.obj 1 d,iv l,iv r] H Q:=by obtain⟨n,rfl⟩:=Of k;have o:=λv=>Jt (v:=v) l;have u:=λv=>Jt (v:=v) r;have m:=(o λzz=>false).1;have t:=(u λzz=>false).1;erw[Ad rfl rfl ?_,[Ae,p22,BS,AS,zS,yS],Zi (Tj (b:=1) ?_),[Ae],Tj (b:=1) (Zi ?_),[Ae],Tj (b:=1) (Zi ?_),[Ae]];generalize l^^^(l&&&1)=le at o m;generalize r^^^(r&&&1)=re at u t;have i:=VP l r;erw[⟨a.Ei rfl,a.Ei rfl,Zi (b:=1) (Fe.Kg rfl (Xj (dn k) a (ee 0x3e83ce0b33e53ce0b10 rfl p) (by refine Er m ?_;exact D) (Er (Nn akq) (Er t C)) λx L J f=>?_))⟩,have j:=f.2.len;?_,[Ae],⟨f.1.Ei rfl,Zi (b:=1) (Fe.Kg rfl (Xj (dn k) f.1 (je 0x3e83ce0b33e53ce1b10e1b010 rfl j.2 p) (Er (Nn akq) (Er m (se 0x2e0b321101e0b10 rfl D j.1))) (Er t (se 0x2e0b321101e0b10 rfl C j.1)) λy A2 I c=>?_))⟩,have w:=c.2.len;?_,have E:=f.4;?_,[Ae],Fe.Kg rfl (BA (dn k) c.1 (se 0x3e83ce0b33e53ce2b10e2b110e1b010 rfl w.2 j.2 p) (se 0x2e0b321101e0b10 rfl E w.1) c.4 λz A3 F q=>?_),[Ae],Zi (h _ A3 F ?_)];generalize (l^^^r)&&&1=s at i;haveI e:=(f.step c).step q;erw[⟨e.1,e.2,e.3,by refine Er (Nn i.1) ?_;exact e.4,λv B=>?_⟩,haveI v2:=q.2.pre B;?_,haveI v1:=c.2.pre v2;?_,Er (UP i.1) (Er (q.5 v B) (Er i.2 ?_))];show xor (lv v x||lv v y) _=_;erw[Er (f.5 v v1) (Er (c.5 v v2) ?_)];show xor (lv v le&&lv v (re^^^1)||lv v (le^^^1)&&lv v re) _=xor (lv v l) (lv v r);erw[Er Wj (Er Wj (Er ((o v).2) (Er ((u v).2) ?_)))];unfold lv;cases v (l/2)<;>cases v (r/2)<;>cases decide (l%2=1)<;>cases decide (r%2=1)<;>rfl
theorem ZP (j:3<=n)(a:Fe H d A)(k:A.wd.length<997)(p:s/2<A.wd.length)(o:l/2<A.wd.length)(w:r/2<A.wd.length)(h:∀x E H',wh d A H 3 (λv=>if lv v s=true then lv v r else lv v l) x E H'->Q (iv x) H'):Fd X n 23 [.obj 1 d,iv s,iv l,iv r] H Q:=by
 erw[eE (Of j) λn C=>?_];subst C;erw[Ad rfl rfl ?_,[p23,FS],qe λR B=>?_,[],⟨λe=>?_,λzz=>B _ _ ?_⟩]
 ·erw[[DS],h l A H (wh.here a o λv zz=>?_)];refine Es (zk e) ?_;rw[ite_self]
 ·erw[[ES],⟨a.Ei rfl,a.Ei rfl,Fe.Kg rfl (Xj (dn j) a (ee 0x3e83ce0b33e53ce0b10 rfl k) p w λx I G f=>?_)⟩,have i:=f.2.len;?_,[Ae],⟨f.1.Ei rfl,Zi (b:=1) (Fe.Kg rfl (Xj (dn j) f.1 (je 0x3e83ce0b33e53ce1b10e1b010 rfl i.2 k) (Er (Nn akq) (se 0x2e0b321101e0b10 rfl p i.1)) (se 0x2e0b321101e0b10 rfl o i.1) λy A2 F c=>?_))⟩,have m:=c.2.len;?_,have t:=f.4;?_,[Ae],Fe.Kg rfl (BA (dn j) c.1 (se 0x3e83ce0b33e53ce2b10e2b110e1b010 rfl m.2 i.2 k) (se 0x2e0b321101e0b10 rfl t m.1) c.4 λz A3 D q=>h z A3 D (((f.step c).step q).eq λv u=>?_))];haveI v2:=q.2.pre u;show(lv v x||lv v y)=_;erw[Er (f.5 v (c.2.pre v2)) (Er (c.5 v v2) ?_)];show(lv v s&&lv v r||lv v (s^^^1)&&lv v l)=_;erw[Er Wj ?_];cases lv v s<;>simp
inductive ZM (H0:MH)(p N b:Nat)(H:MH):Prop
 |mk (le:H0.le H) (cs:∃cs:List Nat,A3 (H p=some (.list (cs.map iv))) (cs.length=N) (∀c∈cs,c<=b))
theorem ZM.up (c:ZM H0 p N b H)(h:b<=b'):ZM H0 p N b' H:=by obtain⟨a,x⟩:=c.2;exact⟨c.1,a,x.1,x.2,λz m=>Ba (x.3 z m) h⟩
theorem Tx (f:H0 p=none)(c:ZM H0 p N b H)(j:N<1000)(i:l/2<N)(h:∀H',ZM H0 p N (b+1) H'->K .next [y,.ref p,z,iv l] H'):Kd P [.tw (.loc 1) (.bin .RShift (.loc 3) (.cst (.int 1))) .Add (.cst (.int 1))] [y,.ref p,z,iv l] H K:=by
 erw[eE c.2 λa x=>?_,haveI d:(a.map iv).length<big:=Re (by refine Er x.2 ?_;exact j);?_,have e:l/2<a.length:=Er x.2 i;?_,[Ae],yk (b:=1) (Ve x.1 (yf (wa e)) d ?_),[Ae],zg (b:=1) (putL x.1 (by refine Er (aa ..) ?_;exact e) d (h _ ⟨c.1.set f,a.set (l/2) (a[l/2]+1),by refine Er (MH.sd ..) ?_;refine Er sA ?_;rfl,by refine Er (length_set ..) ?_;exact x.2,λz m=>?_⟩))];rcases List.mem_or_eq_of_mem_set m with m|rfl
 ·erw[Qc (x.3 z m)]
 ·erw[Wa (x.3 _ (List.getElem_mem _))]
theorem aQ (N:1<=n)(a:Fe H d A)(f:A.wd.length<1000)(L:∀l∈A.outs,l/2<A.wd.length)(h:∀p H',H p=none->ZM H p A.wd.length (2*A.wd.length+A.outs.length) H'->Q (.ref p) H'):Fd X n 26 [.obj 1 d] H Q:=by
 erw[Xh n (Of N) λn=>(Ad rfl rfl ?_),[p26,JS],⟨Vd rfl,λq M=>?_⟩,[],haveI y:H.le (H.set q (.list [.int 0])):=(akr H).new M;?_,(a.mono y).aN (De (y _ _ a.2) (Re f) ?_),Er (aa ..) ?_,[],YK MH.sd (ya f akq) λp E=>(eA (fresh E) λzz D=>?_),haveI w:=y.new (o:=.list (replicate A.wd.length (.int 0))) E;?_,haveI P:ZM H p A.wd.length 0 ((H.set q (.list [.int 0])).set p (.list (replicate A.wd.length (.int 0)))):=⟨w,replicate _ 0,by exact Er MH.sd (Er List.map_replicate rfl),Bb,λc m=>by rw[(mem_replicate.mp m).2];exact Qa _⟩;?_,[IS],Qd λB R t i=>?_,[],(a.mono w).aN (ve (w _ _ a.2) ?_),be (λs:MV×MV=>[.obj 1 d,.ref p,s.1,s.2]) (λk zz H'=>ZM H p A.wd.length (2*k) H') (_,_) P (λzz zz zz c=>c.1 _ _ a.2) ?_ ?_]
 ·intro k x s U K b c e _ _;erw[t _ _ _ ?_,[HS],qe λY G=>?_];rw[za,Ha]at b;erw[Ef x b λnd b=>?_];cases nd with
  |none=>
   erw[[Sx],Dv MV.noConfusion ⟨λh=>(nomatch h),λzz=>G _ _ (e (.none,s.2) _ (c.up (ee 0xe0b21d021d3 rfl)))⟩]
  |some pr=>
   obtain⟨l,r⟩:=pr;haveI wf:=a.9 k l r b;haveI F:=yd b;erw[[Sx],Dv MV.noConfusion ⟨λzz=>?_,λh=>(nomatch h)⟩,[GS],Qd λB3 W V J=>?_,[],be (λs:MV=>[.obj 1 d,.ref p,.tup [iv l,iv r],s]) (λj zz H'=>ZM H p A.wd.length (2*k+j) H') _ c (λzz zz zz zz=>trivial) ?_ ?_]
   ·intro j x s u Z b c I _ _;erw[V _ _ _ ?_];haveI b:∃z,x=iv z/\z/2<A.wd.length:=by
     match j,b with
     |0,b=>exact⟨l,(oa b).symm,by exact se 0x2e0b32e1b101e0b10 rfl wf.1 F⟩
     |1,b=>exact⟨r,(oa b).symm,by exact se 0x2e0b32e1b101e0b10 rfl wf.2 F⟩
     |j+2,b=>exact nn b
    erw[Qf x b λz S=>(Tx D c f S λT C=>I _ _ C)]
   ·intro s u c;erw[J _ _ (G _ _ (e (_,_) _ (c.up (Ob rfl))))]
 ·intro s U c;haveI c:=(aa ..)▸c;erw[i _ _ ?_];clear t i;erw[Qd λB R t i=>?_,[],(a.mono c.1).aO (ve (c.1 _ _ a.4) ?_),be (λv:MV=>[.obj 1 d,.ref p,s.1,v]) (λk zz H'=>ZM H p A.wd.length (2*A.wd.length+k) H') _ c (λzz zz zz c=>c.1 _ _ a.4) ?_ ?_]
  ·intro k x v u K b c e _ _;erw[t _ _ _ (Ef x (Ia ((za ..).symm.trans b)) λl O=>?_),Tx D c f (L l (Dd O)) λT C=>e _ _ C]
  ·intro v u c;rw[aa]at c;erw[i _ _ (h p u D c)]
structure Pt where
 nm:Nat
 ns:List Nat
 r:Nat
def nC (p:Pt):MV:=.tup [.str p.nm,.ref p.r]
structure Cl where
 k:Nat
 out:Nat
 ins:List Nat
 par:MV
def Yg (c:Cl):MV:=.tup [.str c.k,iv c.out,.tup (c.ins.map iv),c.par]
def te (k:Nat):Bool:=k==14||k==15
structure Nt where
 name:Nat
 pi:Nat
 po:Nat
 pc:Nat
 cnt:Nat
 ins:List Pt
 outs:List Pt
 cells:List Cl
inductive Md (H:MH)(d:Nat)(N:Nt):Prop
 |mk (ns:∃f,A6 (H d=some (.ns f)) (f 34=.str N.name) (f 35=iv N.cnt) (f 36=.ref N.pi) (f 37=.ref N.po) (f 38=.ref N.pc)) (ai:H N.pi=some (.list (N.ins.map nC))) (ao:H N.po=some (.list (N.outs.map nC))) (ac:H N.pc=some (.list (N.cells.map Yg))) (pt:∀x,x∈N.ins\/x∈N.outs->A4 (H x.r=some (.list (x.ns.map iv))) (x.r≠N.pi) (x.r≠N.po) (x.r≠N.pc)) (ne1:N.pi≠N.po) (ne2:N.pi≠N.pc) (ne3:N.po≠N.pc)
theorem Md.mono (a:Md H d N)(o:H.le H'):Md H' d N:=
 ⟨by obtain⟨f,x⟩:=a.1;exact⟨f,o _ _ x.1,x.2,x.3,x.4,x.5,x.6⟩,o _ _ a.2,o _ _ a.3,o _ _ a.4,λx h=>⟨o _ _ (a.5 x h).1,(a.5 x h).2,(a.5 x h).3,(a.5 x h).4⟩,a.6,a.7,a.8⟩
theorem Md.aNm (a:Md H d N)(h:Q (.str N.name) H):Te (.obj k d) 34 H Q:=by obtain⟨_,x⟩:=a.1;exact Vh x.1 x.2 MV.noConfusion h
theorem Md.aCt (a:Md H d N)(h:Q (iv N.cnt) H):Te (.obj k d) 35 H Q:=by obtain⟨_,x⟩:=a.1;exact Vh x.1 x.3 MV.noConfusion h
theorem Md.aI (a:Md H d N)(h:Q (.ref N.pi) H):Te (.obj k d) 36 H Q:=by obtain⟨_,x⟩:=a.1;exact Vh x.1 x.4 MV.noConfusion h
theorem Md.aO (a:Md H d N)(h:Q (.ref N.po) H):Te (.obj k d) 37 H Q:=by obtain⟨_,x⟩:=a.1;exact Vh x.1 x.5 MV.noConfusion h
theorem Md.aC (a:Md H d N)(h:Q (.ref N.pc) H):Te (.obj k d) 38 H Q:=by obtain⟨_,x⟩:=a.1;exact Vh x.1 x.6 MV.noConfusion h
theorem Md.Ei (a:Md H d N)(h:X.Zf k m=some f):Ng (Ce X n) m (.obj k d) H:=by obtain⟨_,x⟩:=a.1;exact rObj h x.1
theorem Md.On (a:Md H d N)(h:H p=some (.list l)):p≠d:=by obtain⟨_,x⟩:=a.1;exact(og x.1 h λ_=>MO.noConfusion).symm
theorem Md.isO (a:Md H d N):∃f,H d=some (.ns f):=by obtain⟨f,x⟩:=a.1;exact⟨f,x.1⟩
theorem Md.abT (a:Md H d N)(b:H d=some (.ns f)):Md (H.set d (.ns λx=>if x=35 then iv c else f x)) d {N with cnt:=c}:=by
 erw[eE a.1 λg x=>?_];obtain rfl:f=g:=by haveI:=b.symm.trans x.1;exact MO.ns.inj (oa this)
 exact⟨⟨_,MH.sd,x.2,rfl,x.4,x.5,x.6⟩,(MH.ud (a.On a.2)).trans a.2,(MH.ud (a.On a.3)).trans a.3,(MH.ud (a.On a.4)).trans a.4,
  λy h=>⟨(MH.ud (a.On (a.5 y h).1)).trans (a.5 y h).1,(a.5 y h).2,(a.5 y h).3,(a.5 y h).4⟩,a.6,a.7,a.8⟩
theorem Md.setC (a:Md H d N):Md (H.set N.pc (.list (c.map Yg))) d {N with cells:=c}:=by
 erw[eE a.1 λf x=>?_]
 exact⟨⟨f,(MH.ud (a.On a.4).symm).trans x.1,x.2,x.3,x.4,x.5,x.6⟩,(MH.ud a.7).trans a.2,(MH.ud a.8).trans a.3,MH.sd,
  λy h=>⟨(MH.ud (a.5 y h).4).trans (a.5 y h).1,(a.5 y h).2,(a.5 y h).3,(a.5 y h).4⟩,a.6,a.7,a.8⟩
inductive CL (H:MH)(N:Nt)(p:Pt):Prop
 |mk (at':H p.r=some (.list (p.ns.map iv))) (ni:p.r≠N.pi) (no:p.r≠N.po) (nc:p.r≠N.pc)
theorem Md.abU (a:Md H d N)(b:CL H N p):Md (H.set N.pi (.list (N.ins.map nC++[nC p]))) d {N with ins:=N.ins++[p]}:=by
 erw[eE a.1 λf x=>⟨⟨f,(MH.ud (a.On a.2).symm).trans x.1,x.2,x.3,x.4,x.5,x.6⟩,MH.sd.trans (Er Aa rfl),(MH.ud a.6.symm).trans a.3,(MH.ud a.7.symm).trans a.4,λy h=>?_,a.6,a.7,a.8⟩];have h:(y∈N.ins\/y∈N.outs)\/y=p:=h.elim (λh=>(Oa h).elim (λh=>.inl (.inl h)) λh=>.inr (ia h)) λh=>.inl (.inr h);rcases h with h|rfl
 ·exact⟨(MH.ud (a.5 y h).2).trans (a.5 y h).1,(a.5 y h).2,(a.5 y h).3,(a.5 y h).4⟩
 ·exact⟨(MH.ud b.2).trans b.1,b.2,b.3,b.4⟩
theorem Md.Pi (a:Md H d N)(b:CL H N p):Md (H.set N.po (.list (N.outs.map nC++[nC p]))) d {N with outs:=N.outs++[p]}:=by
 erw[eE a.1 λf x=>⟨⟨f,(MH.ud (a.On a.3).symm).trans x.1,x.2,x.3,x.4,x.5,x.6⟩,(MH.ud a.6).trans a.2,MH.sd.trans (Er Aa rfl),(MH.ud a.8.symm).trans a.4,λy h=>?_,a.6,a.7,a.8⟩];have h:(y∈N.ins\/y∈N.outs)\/y=p:=h.elim (λh=>.inl (.inl h)) λh=>(Oa h).elim (λh=>.inl (.inr h)) λh=>.inr (ia h);rcases h with h|rfl
 ·exact⟨(MH.ud (a.5 y h).3).trans (a.5 y h).1,(a.5 y h).2,(a.5 y h).3,(a.5 y h).4⟩
 ·exact⟨(MH.ud b.3).trans b.1,b.2,b.3,b.4⟩
theorem Md.fresh (a:Md H d N)(h:H p.r=none)(e:o=.list (p.ns.map iv)):CL (H.set p.r o) N p:=
 ⟨by exact Er MH.sd (Er e rfl),(Gd a.2 h).symm,(Gd a.3 h).symm,(Gd a.4 h).symm⟩
theorem Pn (a:1<=n)(h:Q (.bool (te k)) H):Fd X n 2 [.str k] H Q:=by
 erw[Xh n (Of a) λn=>(Ad rfl rfl ?_),[Ae,p2,M5]];unfold te at h;cases e:k==14 with
 |true=>rw[e]at h;exact⟨λ_=>h,λh=>(nomatch h)⟩
 |false=>rw[e]at h;exact⟨λh=>(nomatch h),λ_=>h⟩
theorem Kt (t:1<=n)(hd:∃f,H d=some (.ns f))(h:∀H' N,Off [d] H H'->Md H' d N->N.name=k->N.cnt=2->N.ins=[]->N.outs=[]->N.cells=[]->H N.pi=none->H N.po=none->H N.pc=none->Q .none H'):Fd X n 3 [.obj 0 d,.str k] H Q:=by
 erw[eE (Of t) λn u=>?_];subst u;erw[eE hd λf hd=>(Ad rfl rfl ?_),[Ae,p3,S5],Mine.Pi hd ?_,[Ae,Q5],Mine.Pi MH.sd ?_,[Ae,P5]];haveI o0:Off [d] H ((H.set d (.ns λx=>if x=34 then .str k else f x)).set d (.ns λx=>if x=35 then .int 2 else if x=34 then .str k else f x)):=(aku.set (.head _)).set (.head _);haveI m:=MH.sd (H:=H.set d (.ns λx=>if x=34 then .str k else f x)) (a:=d) (o:=.ns λx=>if x=35 then .int 2 else if x=34 then .str k else f x);have f0:∀a,((H.set d (.ns λx=>if x=34 then .str k else f x)).set d (.ns λx=>if x=35 then .int 2 else if x=34 then .str k else f x)) a=none->a≠d/\H a=none:=λa h=>⟨(Mine.fresh h).1,(Mine.fresh (Mine.fresh h).2).2⟩
 generalize (H.set d (.ns λx=>if x=34 then .str k else f x)).set d (.ns λx=>if x=35 then .int 2 else if x=34 then .str k else f x)=H0 at o0 m f0⊢;refine⟨Vd rfl,λa j=>?_⟩;obtain⟨ad,j⟩:=f0 a j;erw[[Ae],Mine.Pi ((MH.ud ad.symm).trans m) ?_,[Ae,O5],⟨Vd rfl,λb i=>?_⟩];obtain⟨l,i⟩:=Mine.fresh i;erw[eA (Mine.fresh i) λs i=>?_];replace i:=(f0 b i).2;erw[[Ae],Mine.Pi ((MH.ud l.symm).trans MH.sd) ?_,[Ae,N5],⟨Vd rfl,λc e=>?_⟩];obtain⟨p,e⟩:=Mine.fresh e;erw[eA (Mine.fresh e) λq e=>(eA (Mine.fresh e) λ_ e=>?_)];obtain⟨r,e⟩:=Mine.fresh e;replace e:=(f0 c e).2;erw[[Ae],Mine.Pi ((MH.ud p.symm).trans MH.sd) ?_,[Ae],h _ ⟨k,a,b,c,2,[],[],[]⟩ ((((((o0.put j).set (.head _)).put i).set (.head _)).put e).set (.head _)) ⟨⟨_,MH.sd,rfl,rfl,rfl,rfl,rfl⟩,?_,?_,?_,λx h=>(h.elim Ea Ea).elim,s.symm,r.symm,q.symm⟩ rfl rfl rfl rfl rfl j i e]
 ·show MH.set _ _ _ a=_;erw[Er (MH.ud ad) (Er (MH.ud r.symm) (Er (MH.ud ad) (Er (MH.ud s.symm) (Er (MH.ud ad) (Er MH.sd rfl)))))]
 ·show MH.set _ _ _ b=_;erw[Er (MH.ud l) (Er (MH.ud q.symm) (Er (MH.ud l) (Er MH.sd rfl)))]
 ·show MH.set _ _ _ c=_;erw[Er (MH.ud p) (Er MH.sd rfl)]
theorem Ot (j:1<=n)(a:Md H d N)(h:∀H',Off [d] H H'->(∀x,H x≠none->H' x≠none)->Md H' d {N with cnt:=N.cnt+1}->Q (iv N.cnt) H'):Fd X n 4 [.obj 0 d] H Q:=by
 obtain⟨n,rfl⟩:=Of j;erw[Ad rfl rfl ?_,[Ae,p4,V5],a.aCt ?_,[Ae,U5],a.aCt (eE a.isO λf c=>?_),[Ae],zg (b:=1) (Mine.Pi c (h _ (aku.set (.head _)) (λx i=>?_) (a.abT c)))];unfold MH.set;split
 ·erw[λe=>(nomatch e)]
 ·erw[i]
theorem Em (i:2<=n)(c:w<1000)(a:Md H d N)(h:∀p H',Off [d] H H'->H p=none->H' p=some (.list ((range' N.cnt w).map iv))->Md H' d {N with cnt:=N.cnt+w}->Q (.ref p) H'):Fd X n 5 [.obj 0 d,iv w] H Q:=by
 erw[eE (Of i) λn t=>?_];subst t;erw[Ad rfl rfl ?_,[Ae,p5,W5,Sh],Rf (ya c akq) (Ze (ya c akq) ?_),Gg (λk=>(range' N.cnt k).map iv) (λk j H'=>A5 (j=k) (k<=w) (Off [d] H H') (∀x,H x≠none->H' x≠none) (Md H' d {N with cnt:=N.cnt+k})) 0 rfl ⟨rfl,Ta _,aku,λ_ h=>h,a⟩ (λk j H' x=>⟨trivial,?_⟩) ?_ ?_]
 ·erw[Er (aa ..) (Er (La ..) (Er x.1 ?_)),ja x.2 (ya c akq)]
 ·intro k x j v K b y r;obtain⟨q,-⟩:=Ud b;erw[[Ae,Yi],⟨λ_=>⟨y.5.Ei rfl,?_⟩,λh=>(nomatch h)⟩,Ih rfl (Ot (dn i) y.5 λu m o s=>r _ (j+1) u ?_ ⟨by exact Er y.1 rfl,q,y.3.trans m,λx b=>o x (y.4 x b),s⟩),Er y.1 (Er (List.range'_concat ..) (Er (Aa ..) (Er (Qb ..) rfl)))]
 ·intro j v y;haveI e:=y.1;rw[aa,Ca]at e y;erw[Er e ?_];intro p f;have l:H p=none:=Classical.byContradiction λh=>y.4 p h f;erw[h p _ (y.3.put l) l MH.sd (y.5.mono ((akr _).new f))]
inductive Acc (H0:MH)(p:Nat)(T rest:List Nat)(H:MH):Prop
 |mk (le:H0.le H) (ac:∃acc:List Nat,A2 (H p=some (.list (acc.map iv))) (acc++rest=T))
theorem lh {a:Type}{l:List a}{i:Nat}{x:a}(h:l[i]?=some x):l.drop i=x::l.drop (i+1):=by erw[Zb (Fa h) λc b=>?_,Er (List.drop_eq_getElem_cons c) (Er b rfl)]
theorem Kv {b a T:List Nat}(h:b++a=T)(c:T.length<1000):b.length<1000/\a.length<1000:=by subst h;rw[ua]at c;exact⟨ja (jb _ _) c,ja (Nat.le_add_left _ _) c⟩
theorem Acc.zero (a:H0 p=none):Acc H0 p T T (H0.set p (.list [])):=⟨(akr _).new a,[],MH.sd,rfl⟩
theorem Acc.fin (a:Acc H0 p T [] H):H p=some (.list (T.map iv)):=by erw[eE a.2 λb x=>(Er x.1 (Es x.2 (Er (ib ..) rfl)))]
theorem Acc.Ei (a:Acc H0 p T rest H):Ng P 0 (.ref p) H:=by obtain⟨_,x⟩:=a.2;exact fh x.1
theorem Acc.vZ (a:Acc H0 p T rest H):Ng P 1 (.ref p) H:=by obtain⟨_,x⟩:=a.2;exact eZ x.1
theorem Acc.step {xs:List Nat}(a:Acc H0 p T (xs++rest) H)(d:H0 p=none)(e:T.length<1000):∃vs:List MV,A4 (H p=some (.list vs)) (vs.length<big) ((xs.map iv).length<big) (Acc H0 p T rest (H.set p (.list (vs++xs.map iv)))):=by erw[Zb (a.2) λb x=>?_,haveI l:=Kv x.2 e;?_,haveI c:=Kv (rfl:xs++rest=_) l.2;?_,⟨_,x.1,Re l.1,Re c.1,a.1.set d,b++xs,(Er MH.sd (Er Aa rfl)),(Er (Db ..) x.2)⟩]
theorem Acc.app (a:Acc H0 p T (x::rest) H)(b:H0 p=none)(c:T.length<1000)(h:∀H',Acc H0 p T rest H'->Q .none H'):Lg P 0 (.ref p) [iv x] H Q:=by erw[eE (Acc.step (xs:=[x]) a b c) λd y=>(eh y.1 y.2 (h _ y.4))]
theorem Acc.w9 (a:Acc H0 p T (xs++rest) H)(c:H0 p=none)(d:T.length<1000)(b:H q=some (.list (xs.map iv)))(h:∀H',Acc H0 p T rest H'->Q .none H'):Lg P 1 (.ref p) [.ref q] H Q:=by erw[eE (a.step c d) λe y=>(dZ y.1 b y.2 y.3 (h _ y.4))]
theorem Acc.abV (a:Acc H0 p T (xs++rest) H)(b:H0 p=none)(c:T.length<1000)(h:∀H',Acc H0 p T rest H'->Q .none H'):Lg P 1 (.ref p) [.tup (xs.map iv)] H Q:=by erw[eE (a.step b c) λd y=>(j9 y.1 y.2 y.3 (h _ y.4))]
theorem Ux (s:3<=n)(k:w<1000)(hi:N.ins.length<1000)(a:Md H d N)(h:∀r b H',Off [d,N.pi] H H'->H r=none->(∀p l,H p=some (.list l)->b≠p)->H' r=some (.list ((range' N.cnt w).map iv))->Md H' d {N with cnt:=N.cnt+w,ins:=N.ins++[⟨nm,range' N.cnt w,b⟩]}->Q (.ref r) H'):Fd X n 6 [.obj 0 d,.str nm,iv w] H Q:=by erw[eE (Of s) λn y=>?_];subst y;erw[Ad rfl rfl ?_,[Ae,p6,Y5],⟨a.Ei rfl,Ih rfl (Em (dn s) k a λr z j q c i=>?_)⟩,[Ae,X5],i.aI ⟨fh i.2,gC (Uj c) (Re (Er La k)) λb f=>?_⟩,haveI a2:=i.mono ((akr _).new (o:=.list ((range' N.cnt w).map iv)) f);?_,haveI t:=i.fresh (p:=⟨nm,range' N.cnt w,b⟩) f rfl;?_,haveI u:=(j.more (S':=[d,N.pi]) λx v=>by exact Er (ia v) (.head _)).new (o:=.list ((range' N.cnt w).map iv)) f;?_,⟨Vd rfl,eh a2.2 (Re hi) ?_⟩,h r b _ (u.set (.tail _ (.head _))) q (λp l e=>(Gd (j _ _ (λm=>a.On e (ia m)) e) f).symm) ?_ (a2.abU t),haveI:r≠N.pi:=(Gd a.2 q).symm;?_,Er (MH.ud this) (ge c f)]
theorem Qo {nm q:Nat}{ns:List Nat}(k:1<=n)(i:ns.length<1000)(hi:N.outs.length<1000)(a:Md H d N)(j:H q=some (.list (ns.map iv)))(h:∀b H',Off [N.po] H H'->(∀p l,H p=some (.list l)->b≠p)->Md H' d {N with outs:=N.outs++[⟨nm,ns,b⟩]}->Q .none H'):Fd X n 7 [.obj 0 d,.str nm,.ref q] H Q:=by erw[Xh n (Of k) λn=>(Ad rfl rfl ?_),[Ae,p7,Z5],a.aO ⟨fh a.3,gC (Uj j) (Re i) λb c=>?_⟩,haveI a2:=a.mono ((akr _).new (o:=.list (ns.map iv)) c);?_,haveI f:=a.fresh (p:=⟨nm,ns,b⟩) c rfl;?_,[Ae],⟨Vd rfl,eh a2.3 (Re hi) ?_⟩,h b _ ((aku.new c).set (.head _)) (λp l e=>(Gd e c).symm) (a2.Pi f)]
theorem Br {o k:Nat}{v b:MV}{ns:List Nat}(m:1<=n)(j:ns.length<1000)(hi:N.cells.length<1000)(a:Md H d N)(f:Seq H v ns)(l:b≠.td)(h:∀H',Off [N.pc] H H'->Md H' d {N with cells:=N.cells++[⟨k,o,ns,b⟩]}->Q .none H'):Fd X n 9 [.obj 0 d,iv o,.str k,v,b] H Q:=by
 erw[Xh n (Of m) λn=>?_];haveI i:items? v H=some (ns.map iv):=by
  rcases f with rfl|⟨p,rfl,e⟩
  ·rfl
  ·erw[Uj e]
 haveI hd:v≠.td:=f.fL;erw[Ad rfl rfl ?_,[Ae,p9,d6],a.aC ⟨fh a.4,oe hd (Bm i (Re j) (oe l ?_))⟩,⟨Vd rfl,eh a.4 (Re hi) ?_⟩];haveI e:=a.setC (c:=N.cells++[⟨k,o,ns,b⟩]);rw[Aa]at e;erw[h _ (aku.set (.head _)) e]
theorem Cr {k:Nat}{v b:MV}{ns:List Nat}(i:2<=n)(s:ns.length<1000)(hi:N.cells.length<1000)(a:Md H d N)(l:Seq H v ns)(c:b≠.td)(h:∀H',Off [d,N.pc] H H'->Md H' d {N with cnt:=N.cnt+1,cells:=N.cells++[⟨k,N.cnt,ns,b⟩]}->Q (iv N.cnt) H'):Fd X n 8 [.obj 0 d,.str k,v,b] H Q:=by
 obtain⟨n,rfl⟩:=Of i;erw[Ad rfl rfl ?_,[Ae,p8,b6],⟨a.Ei rfl,Ih rfl (Ot (dn i) a λy j zz o=>?_)⟩];haveI hd:v≠.td:=l.fL;haveI u:Seq y v ns:=l.imp id λr=>by obtain⟨p,e,c⟩:=r;exact⟨p,e,j _ _ (λm=>a.On c (ia m)) c⟩
 erw[[Ae,a6],⟨o.Ei rfl,oe hd (oe c (Ih rfl (Br (N:={N with cnt:=N.cnt+1}) (dn i) s hi o u c λw q t=>?_)))⟩,h w ((j.more λx f=>by rw[ia f];exact .head _).trans (q.more λx f=>by rw[ia f];exact .tail _ (.head _))) t]
def Ke (N:Nt):List Nat:=N.ins.flatMap (·.ns)++(N.cells.filter λc=>te c.k).map (·.out)
def Qg (N:Nt):List Nat:=N.outs.flatMap (·.ns)++(N.cells.filter λc=>te c.k).flatMap (·.ins)
theorem Hs {cs:List Cl}{i:Nat}{x:MV}(h:(cs.map Yg)[i]?=some x):∃c,cs[i]?=some c/\x=Yg c:=by rw[za,Ha]at h;obtain⟨c,b,a⟩:=h;exact⟨c,b,a.symm⟩
theorem Lv {cs:List Pt}{i:Nat}{x:MV}(h:(cs.map nC)[i]?=some x):∃c,cs[i]?=some c/\x=nC c:=by rw[za,Ha]at h;obtain⟨c,b,a⟩:=h;exact⟨c,b,a.symm⟩
theorem CA (u:2<=n)(a:Md H d N)(t:(Ke N).length<1000)(h:∀p H',H.le H'->H p=none->H' p=some (.list ((Ke N).map iv))->Q (.ref p) H'):Fd X n 10 [.obj 0 d] H Q:=by
 obtain⟨n,rfl⟩:=Of u;erw[Ad rfl rfl ?_,[Ae,p10,GR],⟨Vd rfl,λp j=>?_⟩,Qd λB R l b=>?_,have r:=Acc.zero (T:=Ke N) j;?_,[],(a.mono r.1).aI (ve (r.1 _ _ a.2) ?_),be (λs:MV×MV=>[.obj 0 d,.ref p,s.1,s.2,.td]) (λk zz H'=>Acc H p (Ke N) ((N.ins.drop k).flatMap (·.ns)++(N.cells.filter λc=>te c.k).map (·.out)) H') (_,_) r (λzz zz zz c=>c.1 _ _ a.2) ?_ ?_]
 ·intro k x s A K q c f _ _;obtain⟨v,i,rfl⟩:=Lv q;rw[lh i,nb,Db]at c;erw[⟨rfl,l _ _ _ ?_⟩,[DR,nC],⟨c.vZ,c.w9 j t (c.1 _ _ (a.5 v (.inl (Dd i))).1) λm y=>f (_,_) _ y⟩]
 ·intro s A c;rw[aa,List.drop_length,Jc,List.nil_append]at c;erw[b _ _ ?_];clear l b;erw[Qd λB R l b=>?_,[],(a.mono c.1).aC (ve (c.1 _ _ a.4) ?_),be (λo:MV=>[.obj 0 d,.ref p,s.1,s.2,o]) (λk zz H'=>Acc H p (Ke N) (((N.cells.drop k).filter λc=>te c.k).map (·.out)) H') _ c (λzz zz zz c=>c.1 _ _ a.4) ?_ ?_]
  ·intro k x o m K q c f _ _;obtain⟨cl,i,rfl⟩:=Hs q;rw[lh i,Wb]at c;erw[l _ _ _ ?_,[FR],qe λR b=>?_,[Yg],Xe (k:=0) rfl (Vd rfl) (Pn (dn u) ?_),⟨λe=>?_,λe=>b _ _ (f (Yg cl) m ?_)⟩]
   ·rw[Ec e,yb]at c;erw[[ER],⟨c.Ei,Xe (k:=1) rfl (Vd rfl) (c.app j t λz w=>b _ _ (f (Yg cl) z w))⟩]
   ·rw[Dc (by rw[e];exact Na)]at c;exact c
  ·intro o m c;rw[aa,List.drop_length]at c;erw[b _ _ (h p m c.1 j c.fin)]
theorem DL (u:2<=n)(a:Md H d N)(t:(Qg N).length<1000)(h:∀p H',H.le H'->H p=none->H' p=some (.list ((Qg N).map iv))->Q (.ref p) H'):Fd X n 11 [.obj 0 d] H Q:=by
 obtain⟨n,rfl⟩:=Of u;erw[Ad rfl rfl ?_,[Ae,mj,KR],⟨Vd rfl,λp j=>?_⟩,Qd λB R l b=>?_,have r:=Acc.zero (T:=Qg N) j;?_,[],(a.mono r.1).aO (ve (r.1 _ _ a.3) ?_),be (λs:MV×MV=>[.obj 0 d,.ref p,s.1,s.2,.td]) (λk zz H'=>Acc H p (Qg N) ((N.outs.drop k).flatMap (·.ns)++(N.cells.filter λc=>te c.k).flatMap (·.ins)) H') (_,_) r (λzz zz zz c=>c.1 _ _ a.3) ?_ ?_]
 ·intro k x s A K q c f _ _;obtain⟨v,i,rfl⟩:=Lv q;rw[lh i,nb,Db]at c;erw[⟨rfl,l _ _ _ ?_⟩,[HR,nC],⟨c.vZ,c.w9 j t (c.1 _ _ (a.5 v (.inr (Dd i))).1) λm y=>f (_,_) _ y⟩]
 ·intro s A c;rw[aa,List.drop_length,Jc,List.nil_append]at c;erw[b _ _ ?_];clear l b;erw[Qd λB R l b=>?_,[],(a.mono c.1).aC (ve (c.1 _ _ a.4) ?_),be (λo:MV=>[.obj 0 d,.ref p,s.1,s.2,o]) (λk zz H'=>Acc H p (Qg N) (((N.cells.drop k).filter λc=>te c.k).flatMap (·.ins)) H') _ c (λzz zz zz c=>c.1 _ _ a.4) ?_ ?_]
  ·intro k x o m K q c f _ _;obtain⟨cl,i,rfl⟩:=Hs q;rw[lh i,Wb]at c;erw[l _ _ _ ?_,[JR],qe λR b=>?_,[Yg],Xe (k:=0) rfl (Vd rfl) (Pn (dn u) ?_),⟨λe=>?_,λe=>b _ _ (f (Yg cl) m ?_)⟩]
   ·rw[Ec e,nb]at c;erw[[IR],⟨c.vZ,Xe (k:=2) rfl (Vd rfl) (c.abV j t λz w=>b _ _ (f (Yg cl) z w))⟩]
   ·rw[Dc (by rw[e];exact Na)]at c;exact c
  ·intro o m c;rw[aa,List.drop_length]at c;erw[b _ _ (h p m c.1 j c.fin)]
def bQ (N:Nt)(i:Nat):Bool:=(N.cells[i]?).any λc=>te c.k
theorem pC (h:N.cells[i]?=some c):bQ N i=te c.k:=by unfold bQ;exact Er h rfl
def Je (N:Nt):List Nat:=(range N.cells.length).filter (bQ N)
theorem El:(Je N).length<=N.cells.length:=filter_le
theorem Qt (q:2<=n)(a:Md H d N)(b:N.cells.length<1000)(h:∀p H',H.le H'->H p=none->H' p=some (.list ((Je N).map iv))->Q (.ref p) H'):Fd X n 12 [.obj 0 d] H Q:=by
 obtain⟨n,rfl⟩:=Of q;erw[Ad rfl rfl ?_,[Ae,nj,NR],⟨Vd rfl,λp i=>?_⟩,Qd λB R v f=>?_,have j:=Acc.zero (T:=Je N) i;?_,haveI t:(Je N).length<1000:=ja El b;?_,[],(a.mono j.1).aC (De (j.1 _ _ a.4) (Re b) ?_),Er (aa ..) (Rf (ya b akq) (Ze (ya b akq) ?_)),be (λs:MV=>[.obj 0 d,.ref p,s]) (λk zz H'=>Acc H p (Je N) (((range N.cells.length).drop k).filter (bQ N)) H') _ j (λzz zz zz c=>trivial) ?_ ?_]
 ·intro k x s l K u c m _ _;erw[Ak x (Ud u) λr=>?_];obtain⟨cl,o⟩:∃cl,N.cells[k]?=some cl:=⟨_,wa r⟩;rw[lh (by refine Er (List.getElem?_range r) ?_;rfl),Wb,pC o]at c;have c:=c;erw[v _ _ _ ?_,[MR],qe λR f=>?_,[],(a.mono c.1).aC (Ve (c.1 _ _ a.4) (by refine Er za ?_;exact Er o rfl) (Re b) ?_),Xe (k:=0) rfl (Vd rfl) (Pn (dn q) ?_),⟨λe=>?_,λe=>f _ _ (m _ l ?_)⟩]
  ·rw[Ec e]at c;erw[[LR],⟨c.Ei,c.app i t λy w=>f _ _ (m _ y w)⟩]
  ·rw[Dc (by exact Er e Na)]at c;exact c
 ·intro s l c;rw[aa,Ca,List.drop_eq_nil_of_le (Er Ca (Qa _))]at c;erw[f _ _ (h p l c.1 i c.fin)]
def Rg (k m:Nat):Bool:=(m==1&&(k==3||k==7))||(m==2&&(k==8||k==9||k==10||k==12))||(m==3&&k==2)
inductive Ai (N:Nt):Prop
 |mk (nd:(0::1::(N.ins.flatMap (·.ns)++N.cells.map (·.out))).Nodup) (ord:∀(i j:Nat)(ci cj:Cl),N.cells[i]?=some ci->N.cells[j]?=some cj->te ci.k=false->te cj.k=false->ci.out∈cj.ins->i<j) (drv:∀x,(∃c∈N.cells,x∈c.ins)\/(∃p∈N.outs,x∈p.ns)->x∈0::1::(N.ins.flatMap (·.ns)++N.cells.map (·.out))) (len:N.cells.length<90) (nst:∀c∈N.cells,te c.k=false->Rg c.k c.ins.length=true) (pins:∀c∈N.cells,c.ins.length<10) (par:∀c∈N.cells,c.par≠.td) (few:(0::1::(N.ins.flatMap (·.ns)++N.cells.map (·.out))).length<200)
def EL (N:Nt):List Nat:=0::1::(N.ins.flatMap (·.ns)++N.cells.map (·.out))
inductive Tk (H0:MH)(p:Nat)(T rest:List Nat)(H:MH):Prop
 |mk (le:H0.le H) (tk:∃(xd:List (MV×MV))(done:List Nat),A4 (H p=some (.dict xd)) (done++rest=T) (xd.length<=done.length) (∀x,x∉done->ce xd (iv x)=none))
theorem Ye:MV.beq (iv a) (iv b)=(a==b):=Dl a b
theorem Tk.step (a:Tk H0 p T (x::rest) H)(f:H0 p=none)(h:T.length<1000)(nd:T.Nodup):∃b,A4 (H p=some (.dict b)) (ce b (iv x)=none) (b.length<big) (Tk H0 p T rest (H.set p (.dict (dput b (iv x) (.bool true))))):=by
 erw[kl a.2 λb done y=>?_];haveI l:=Kv y.2 h;haveI d:x∉done:=λm=>by
  rw[<-y.2]at nd;exact(List.nodup_append.mp nd).2.2 x m x (.head _) rfl
 refine⟨b,y.1,y.4 x d,ja y.3 (ya l.1 akq),a.1.set f,_,done++[x],MH.sd,by refine Er (Db ..) ?_;exact y.2,?_,λz c=>?_⟩
 ·erw[Er ua (Ba xf (Wa y.3))]
 ·refine Er ie (Er Ye ?_);rw[Dc,y.4 z λm=>c (Za (.inl m))];intro e;erw[c (Za (.inr (Er (ub e) (.head _))))]
inductive nW (xd:List (MV×MV))(cs:List Cl)(k:Nat):Prop
 |mk (len:xd.length<=k) (at':∀i c,i<k->cs[i]?=some c->ce xd (iv c.out)=some (iv i)) (un:∀x v,ce xd (iv x)=some v->∃i c,A4 (v=iv i) (cs[i]?=some c) (c.out=x) (i<k))
theorem nW.step (d:nW xd cs k)(a:cs[k]?=some c)(nd:(cs.map (·.out)).Nodup):nW (dput xd (iv c.out) (iv k)) cs (k+1):=by
 refine⟨Ba xf (Wa d.1),λi b m f=>?_,λx v e=>?_⟩
 ·erw[Er ie (Er Ye ?_)];by_cases e:c.out=b.out
  ·haveI j:k=i:=by
    refine(Vc (l:=cs.map (·.out)) (Er (aa ..) (yd a)) nd).mp ?_;refine Er za ?_;refine Er za ?_;refine Er a (Er f ?_);erw[Fc some e]
   rw[Ec (Er e (Pa _)),j]
  ·erw[Er (Dc (λh=>e (ub h))) ?_];haveI:i≠k:=λh=>by subst h;rw[a]at f;exact e (Fc _ (oa f))
   erw[d.2 i b (vc (Cb m) this) f]
 ·rw[ie,Ye]at e;by_cases h:(c.out==x)=true
  ·rw[Ec h]at e;exact⟨k,c,(oa e).symm,a,ub h,Oc k⟩
  ·rw[Dc h]at e;erw[kl (d.3 x v e) λi b y=>⟨i,b,y.1,y.2,y.3,Nat.lt_succ_of_lt y.4⟩]
theorem DA (hn:1<=n)(a:Md H d N)(ok:Ai N)(h:∀q H' f,H.le H'->H' q=some (.dict f)->nW f N.cells N.cells.length->Q (.ref q) H'):Fd X n 13 [.obj 0 d] H Q:=by
 erw[Xh n (Of hn) λn=>?_,have o:N.cells.length<1000:=ya ok.4 akq;?_,Ad rfl rfl ?_,[Ae,p13,NI],⟨λk l=>?_,λp M=>?_⟩]
 ·rcases xa l with rfl|l
  ·rfl
  ·rcases xa l with rfl|l
   ·rfl
   ·cases l
 haveI t0:Tk H p (EL N) (N.ins.flatMap (·.ns)++N.cells.map (·.out)) (H.set p (.dict (Ue [.int 0,.int 1] [.bool true,.bool true] []))):=by
  refine⟨(akr _).new M,_,[0,1],MH.sd,rfl,Qa _,λx b=>?_⟩;show ce [(iv 0,_),(iv 1,_)] (iv x)=none;refine Er Jf (Er Ye ?_);rw[Dc,Jf,Ye,Dc]
  ·rfl
  ·erw[λe=>b (by rw[<-ub e];exact .tail _ (.head _))]
  ·erw[λe=>b (by rw[<-ub e];exact .head _)]
 generalize H.set p (.dict (Ue [.int 0,.int 1] [.bool true,.bool true] []))=H1 at t0⊢;erw[[Ae,LI],Qd λB R D C=>?_,[],(a.mono t0.1).aI (ve (t0.1 _ _ a.2) ?_),be (λs:MV×MV×MV=>[.obj 0 d,.ref p,s.1,s.2.1,s.2.2,.td,.td]) (λk zz H'=>Tk H p (EL N) ((N.ins.drop k).flatMap (·.ns)++N.cells.map (·.out)) H') (_,_,_) t0 (λzz zz zz c=>c.1 _ _ a.2) ?_ ?_]
 ·intro k x s W K b c F _ _;erw[yp x (Lv b) λw U=>?_];rw[lh U,nb,Db]at c;have c:=c;have Y:=(a.5 w (.inl (Dd U))).1;erw[⟨rfl,D _ _ _ ?_⟩,[QR,nC],Qd λB2 R2 O cg=>?_,[],ve (c.1 _ _ Y) (be (λm:MV=>[.obj 0 d,.ref p,.str w.nm,.ref w.r,m,.td,.td]) (λj zz H'=>Tk H p (EL N) (w.ns.drop j++((N.ins.drop (k+1)).flatMap (·.ns)++N.cells.map (·.out))) H') _ c (λzz zz zz c=>c.1 _ _ Y) ?_ ?_)]
  ·intro j x m u K3 b c qg _ _;rw[za,Ha]at b;erw[Ef x b λx b=>?_];rw[lh b,List.cons_append]at c;obtain⟨f,y⟩:=c.step M (ya ok.8 akq) ok.1;erw[O _ _ _ ?_,[PR],qe λR3 G=>?_,[],HP y.1 rfl ⟨λe=>?_,λzz=>G _ _ ?_⟩]
   ·have e:=y.2▸e;exact(nomatch e)
   ·erw[[OR],putD y.1 rfl y.3 (qg _ _ y.4)]
  ·intro m u c;rw[aa,List.drop_length,List.nil_append]at c;have c:=c;erw[cg _ _ (F (_,_,_) _ c)]
 ·intro s W c;rw[aa,List.drop_length,Jc,List.nil_append]at c;have c:=c;erw[C _ _ ?_];clear D C;erw[[KI],⟨λk l=>qd l Ea,λq A=>?_⟩,kl c.2 λkv0 zz Z=>?_];have T:p≠q:=Gd Z.1 A;have ur:=c.1.fresh A;have P:Tk H p (EL N) (N.cells.map (·.out)) (W.set q (.dict (Ue [] [] []))):=by
   erw[kl c.2 λf done y=>⟨c.1.new A,f,done,ge y.1 A,y.2,y.3,y.4⟩]
  have d0:nW [] N.cells 0:=⟨Qa _,λi c h=>(nomatch h),λx v e=>(nomatch e)⟩;have I:(N.cells.map (·.out)).Nodup:=(List.nodup_append.mp (jd (jd ok.1).2).2).2.1;erw[[JI],Qd λB R D C=>?_,[],(a.mono P.1).aC (De (P.1 _ _ a.4) (Re o) ?_),Er (aa ..) (Rf (ya o akq) (Ze (ya o akq) ?_)),be (λm:MV×MV=>[.obj 0 d,.ref p,s.1,s.2.1,m.1,.ref q,m.2]) (λk zz H'=>A2 (Tk H p (EL N) ((N.cells.drop k).map (·.out)) H') (∃f,A2 (H' q=some (.dict f)) (nW f N.cells k))) (_,_) ⟨P,[],MH.sd,d0⟩ (λzz zz zz c=>trivial) ?_ ?_]
  ·intro k x m u K b Zd F _ _;obtain⟨c,S,E,t⟩:=Zd;erw[Ak x (Ud b) λl=>?_];obtain⟨cl,L⟩:∃cl,N.cells[k]?=some cl:=⟨_,wa l⟩;rw[lh L,yb]at c;erw[D _ _ _ ?_,[UR],(a.mono c.1).aC (Ve (c.1 _ _ a.4) (by refine Er za ?_;exact Er L rfl) (Re o) ?_),[Yg],Xe (k:=1) rfl (Vd rfl) (eE (c.step M (ya ok.8 akq) ok.1) λf y=>?_),[TR],qe λR3 G=>?_,[],HP y.1 rfl ⟨λe=>?_,λzz=>G _ _ ?_⟩]
   ·have e:=y.2▸e;exact(nomatch e)
   ·erw[[SR],putD y.1 rfl y.3 ?_,haveI dw:(u.set p (.dict (dput f (iv cl.out) (.bool true)))) q=some (.dict S):=Er (MH.ud T.symm) E;?_,[RR],putD dw rfl (ja t.1 (ya l (ya o akq))) (F (_,_) _ ⟨?_,_,MH.sd,t.step L I⟩),kl y.4.2 λJ done z=>⟨y.4.1.set ur,J,done,by rw[MH.ud T];exact z.1,z.2,z.3,z.4⟩]
  ·intro m u bf;erw[hide λZz V=>?_];obtain⟨c,S,E,t⟩:=bf;erw[V ?_];clear V;rw[aa,Ca]at t;erw[C _ _ ?_,[WR],h q u S c.1 E t]
abbrev Eg:=List (Nat×Nat)
def Vx (E:Eg)(b:Nat):List Nat:=(E.filter λe=>e.1==b).map (·.2)
def ew (E:Eg)(D:List Nat)(i:Nat):Nat:=E.countP λe=>e.2==i&&!D.contains e.1
def Wg (N:Nt)(i:Nat):Prop:=∃c,N.cells[i]?=some c/\te c.k=false
theorem qC:Vx (E++[(b,i)]) b'=Vx E b'++if b==b' then[i]else[]:=by
 unfold Vx;erw[Er (Vb ..) (Er (Aa ..) (Er (Wb ..) (Er (List.filter_nil ..) ?_)))];by_cases h:(b==b')=true
 ·rw[Ec h,Ec h];rfl
 ·rw[Dc h,Dc h];rfl
theorem rC:ew (E++[(b,i)]) [] i'=ew E [] i'+if i==i' then 1 else 0:=by
 unfold ew;erw[Er (List.countP_append ..) (Er (List.countP_cons ..) (Er (List.countP_nil ..) (Er (bc ..) ?_)))];by_cases h:(i==i')=true
 ·rw[Ec h,Ec (Er h rfl)]
 ·rw[Dc h,Dc (by exact Er (eq_false_of_ne_true h) Na)]
theorem Wx (d:b∉D):∀E:Eg,ew E D i=(Vx E b).count i+ew E (D++[b]) i
 |[]=>rfl|e::E=>by
  haveI c:=Wx d (i:=i) E;unfold ew Vx at c⊢;haveI f:(D++[b]).contains e.1=(D.contains e.1||e.1==b):=by
   erw[Er (List.contains_eq_any_beq ..) (Er (List.any_append ..) (Er (List.contains_eq_any_beq ..) (Er (any_cons ..) (Er (List.any_nil ..) (Er (Bool.or_false ..) rfl)))))]
  erw[Er List.countP_cons (Er List.countP_cons (Er c (Er Wb (Er f ?_))))];by_cases a:(e.1==b)=true
  ·haveI j:D.contains e.1=false:=by
    erw[Er (ub a) (eq_false_of_ne_true λh=>d (List.contains_iff_mem.mp h))]
   erw[Er (Ec a) (Er yb (Er List.count_cons (Er a (Er j ?_))))];cases e.2==i with
   |true=>exact Nat.add_right_comm _ _ _|false=>rfl
  ·erw[Er (Dc a) (Er (eq_false_of_ne_true a) (Er (Bool.or_false ..) (Er (Yb ..) rfl)))]
theorem cq:ew E D i=0↔∀b,(b,i)∈E->b∈D:=by
 unfold ew;erw[Er (propext List.countP_eq_zero) ?_];constructor
 ·intro h b f;haveI:=h _ f;rw[Pa,Bool.true_and]at this;erw[List.contains_iff_mem.mp (by revert this;cases D.contains b<;>exact λh=>(by first|rfl|exact qd rfl h))]
 ·intro h c d a;rw[Da]at a;haveI e:c.2=i:=ub a.1;subst e;haveI:=List.contains_iff_mem.mpr (h c.1 d);rw[this]at a;exact Na a.2
inductive Ed (N:Nt)(E:Eg)(k j m:Nat):Prop
 |mk (sub:∀b i,(b,i)∈E->A4 (Wg N b) (Wg N i) (b<i) (i<m)) (sup:∀(i b:Nat)(c cb:Cl),N.cells[i]?=some c->N.cells[b]?=some cb->te c.k=false->te cb.k=false->(i<k/\cb.out∈c.ins\/i=k/\cb.out∈c.ins.take j)->(b,i)∈E)
theorem Ed.zero:Ed N [] 0 0 0:=⟨λzz zz h=>qd h Ea,λi b c a zz zz zz zz h=>h.elim (λh=>qd h.1 (kc _)) λh=>qd h.2 (Er Fb Ea)⟩
theorem Ed.skip (e:Ed N E k 0 k)(h:∀c,N.cells[k]?=some c->te c.k=true):Ed N E (k+1) 0 (k+1):=
 ⟨λb i m=>let y:=e.1 b i m;⟨y.1,y.2,y.3,Nat.lt_succ_of_lt y.4⟩,(λi b c o j n f l a=>by
  rcases a with⟨a,d⟩|⟨-,d⟩
  ·rcases qb a with a|rfl
   ·erw[e.2 i b c o j n f l (.inl ⟨a,d⟩)]
   ·haveI:=h c j;rw[f]at this;exact ft this
  ·rw[Fb]at d;exact qd d Ea)⟩
theorem Ed.GL (e:Ed N E k 0 k):Ed N E k 0 (k+1):=⟨λb i m=>let y:=e.1 b i m;⟨y.1,y.2,y.3,Nat.lt_succ_of_lt y.4⟩,e.2⟩
theorem Ed.close (e:Ed N E k c.ins.length (k+1))(o:N.cells[k]?=some c):Ed N E (k+1) 0 (k+1):=
 ⟨e.1,(λi b n m f l j h d=>by
  rcases d with⟨d,a⟩|⟨-,a⟩
  ·rcases qb d with d|rfl
   ·erw[e.2 i b n m f l j h (.inl ⟨d,a⟩)]
   ·obtain rfl:c=n:=oa (o.symm.trans f);erw[e.2 i b c m f l j h (.inr ⟨rfl,by rw[Sa];exact a⟩)]
  ·rw[Fb]at a;exact qd a Ea)⟩
theorem Ed.pass (e:Ed N E k j (k+1))(q:N.cells[k]?=some c)(p:c.ins[j]?=some x)(h:∀(b:Nat)(a:Cl),N.cells[b]?=some a->a.out=x->te a.k=true):Ed N E k (j+1) (k+1):=
 ⟨e.1,(λi b o a m l n f d=>by
  rcases d with d|⟨rfl,h6⟩
  ·erw[e.2 i b o a m l n f (.inl d)]
  ·obtain rfl:c=o:=oa (q.symm.trans m);rw[Xd p]at h6;rcases Oa h6 with h6|h6
   ·erw[e.2 i b c a m l n f (.inr ⟨rfl,h6⟩)]
   ·have:=h b a l (ia h6)
    rw[f]at this;exact ft this)⟩
theorem Ed.add (e:Ed N E k j (k+1))(ok:Ai N)(f:N.cells[k]?=some c)(q:c.ins[j]?=some x)(r:te c.k=false)(h:N.cells[b]?=some cb)(w:cb.out=x)(v:te cb.k=false):Ed N (E++[(b,k)]) k (j+1) (k+1):=by
 refine⟨λa i m=>?_,λi a u p o d t s n=>?_⟩
 ·rcases Oa m with m|m
  ·erw[e.1 a i m]
  ·haveI m:=ia m;obtain rfl:a=b:=Fc Prod.fst m;obtain rfl:i=k:=Fc Prod.snd m;exact⟨⟨cb,h,v⟩,⟨c,f,r⟩,ok.2 _ _ cb c h f v r (Er w (Dd q)),Oc _⟩
 ·rcases n with n|⟨rfl,h6⟩
  ·erw[Za (.inl (e.2 i a u p o d t s (.inl n)))]
  ·obtain rfl:c=u:=oa (f.symm.trans o);rw[Xd q]at h6;rcases Oa h6 with h6|h6
   ·erw[Za (.inl (e.2 i a c p o d t s (.inr ⟨rfl,h6⟩)))]
   ·have y:p.out=cb.out:=(ia h6).trans w.symm;haveI nd:(N.cells.map (·.out)).Nodup:=(List.nodup_append.mp (jd (jd ok.1).2).2).2.1;haveI:a=b:=(Vc (l:=N.cells.map (·.out)) (Er (aa ..) (yd d)) nd).mp (by refine Er (za ..) ?_;refine Er (za ..) ?_;exact Er d (Er h (Fc some y)));erw[Es this (Za (.inr (.head _)))]
inductive FF (N:Nt)(E:Eg)(R:List Nat)(t:Nat)(X:List Nat)(wt:Nat->Nat):Prop
 |mk (nd:R.Nodup) (cm:∀i∈R,Wg N i) (wv:∀i,Wg N i->wt i=X.count i+ew E (R.take t) i) (zr:∀i,Wg N i->(i∈R↔wt i=0)) (pre:∀(j i:Nat),R[j]?=some i->∀b,(b,i)∈E->b∈R.take j) (le:t<=R.length)
theorem FF.turn (k:FF N E R t [] wt)(c:R[t]?=some b):FF N E R (t+1) (Vx E b) wt:=by erw[⟨k.1,k.2,λi f=>?_,k.4,k.5,yd c⟩,Er (k.3 i f) (Er (Xd c) ?_),(bc _).trans (Wx (λm=>?_) E)];obtain⟨j,a⟩:=Lb m;haveI d:=yd a;rw[zb]at d;haveI e:j<t:=Ma d (qc _ _);rw[List.getElem?_take_of_lt e]at a;erw[qd ((Vc (yd a) k.1).mp (a.trans c.symm)) (Kc e)]
theorem FF.step {N:Nt}{E:Eg}{R X:List Nat}{t x:Nat}{d:Nat->Nat}(k:FF N E R t (x::X) d)(o:Wg N x):0<d x/\FF N E (if d x-1=0 then R++[x]else R) t X λi=>if i=x then d x-1 else d i:=by
 haveI r:=k.3 x o;rw[List.count_cons_self]at r;have s:0<d x:=by refine Er r ?_;refine Er (Nat.add_right_comm ..) ?_;exact Nat.succ_pos _
 have n:x∉R:=λm=>by rw[(k.4 x o).mp m]at s;exact qd s (Ic _)
 have hw:∀i,Wg N i->(if i=x then d x-1 else d i)=X.count i+ew E (R.take t) i:=λi f=>by
  by_cases e:i=x
  ·erw[Er e ?_];refine Er (Ec rfl) ?_;refine Er r ?_;refine Er (Nat.add_right_comm ..) ?_;rfl
  ·refine Er (Dc e) ?_;refine Er (k.3 i f) ?_;refine Er (List.count_cons_of_ne (Ne.symm e)) ?_;rfl
 refine⟨s,?_⟩;by_cases l:d x-1=0
 ·erw[Er (Ec l) ?_,haveI v:(R++[x]).take t=R.take t:=List.take_append_of_le_length k.6;?_,⟨?_,λi m=>?_,λi f=>by refine Er v ?_;exact hw i f,λi f=>?_,λj i c b q=>?_,Ba k.6 (by refine Er ua ?_;exact jb _ _)⟩]
  ·erw[List.nodup_append.mpr ⟨k.1,List.nodup_cons.mpr ⟨Ea,List.nodup_nil⟩,λa y b q e=>n (by refine Es (ia q) ?_;refine Es e ?_;exact y)⟩]
  ·rcases Oa m with m|m
   ·erw[k.2 i m]
   ·refine Er (ia m) ?_;exact o
  ·rw[mem_append,mem_singleton];by_cases e:i=x
   ·rw[Ec e];exact⟨λzz=>l,λzz=>.inr e⟩
   ·rw[Dc e];exact⟨λh=>(k.4 i f).mp (h.resolve_right e),λh=>.inl ((k.4 i f).mpr h)⟩
  ·rw[tc]at c;by_cases p:j<R.length
   ·rw[Ec p]at c;erw[Er (List.take_append_of_le_length (Ib p)) (k.5 j i c b q)]
   ·rw[Dc p,Lc]at c;have c:=c;by_cases h0:j-R.length=0
    ·rw[Ec h0]at c;obtain rfl:=oa c;haveI w:=hw x o;rw[Ec rfl,l]at w;haveI u:ew E (R.take t) x=0:=Nat.eq_zero_of_le_zero (by refine Er w ?_;exact Nat.le_add_left _ _);have:=List.mem_of_mem_take (cq.mp u b q);obtain rfl:j=R.length:=Ka (Nat.le_of_sub_eq_zero h0) (Nat.not_lt.mp p);refine Er (List.take_append_of_le_length (Qa _)) ?_;refine Er Sa ?_;exact this
    ·rw[Dc h0]at c;exact(nomatch c)
 ·rw[Dc l];refine⟨k.1,k.2,hw,λi f=>?_,k.5,k.6⟩;by_cases e:i=x
  ·rw[Ec e,e];exact⟨λh=>qd h n,λh=>qd h l⟩
  ·rw[Dc e];exact k.4 i f
inductive Ord (N:Nt)(R:List Nat):Prop
 |mk (nd:R.Nodup) (mem:∀i,i∈R↔Wg N i) (pre:∀(j i b:Nat)(c cb:Cl),R[j]?=some i->N.cells[i]?=some c->N.cells[b]?=some cb->te cb.k=false->cb.out∈c.ins->b∈R.take j)
theorem Wh (h:Wg N i):i<N.cells.length:=by obtain⟨_,h,_⟩:=h;exact yd h
theorem Jh {R:List Nat}{m:Nat}(nd:R.Nodup)(h:∀i∈R,i<m):R.length<=m:=by haveI:=nd.length_le_of_subset (l₂:=range m) λi a=>Xa (h i a);rwa[Ca]at this
theorem FF.len {N:Nt}{E:Eg}{R X:List Nat}{t:Nat}{a:Nat->Nat}(k:FF N E R t X a):R.length<=N.cells.length:=Jh k.1 λi h=>Wh (k.2 i h)
theorem FF.fin (k:FF N E R t [] wt)(p:R.length<=t)(e:Ed N E N.cells.length 0 N.cells.length):Ord N R:=by
 haveI f:∀m i,i<m->Wg N i->i∈R:=by
  intro m
  induction m with
  |zero=>exact λi h=>qd h (kc _)|succ m o=>
   intro i n a;rw[k.4 i a,k.3 i a,List.take_of_length_le p];erw[(bc _).trans (cq.mpr λb d=>?_),haveI y:=e.1 b i d;?_,o b (Ma y.3 (Cb n)) y.1]
 erw[⟨k.1,λi=>⟨k.2 i,λh=>f _ i (Wh h) h⟩,λj i b c u l a d w q=>k.5 j i l b ?_⟩,Sd (k.2 i (Dd l)) λv s r=>?_];obtain rfl:c=v:=oa (a.symm.trans s);erw[e.2 i b c u a d r w (.inl ⟨yd a,q⟩)]
theorem DE (h:ce xd k=some v):(dput xd k x).length=xd.length:=by
 unfold dput;by_cases a:xd.any (λp=>MV.beq p.1 k)=true
 ·erw[Er (Ec a) (Er (aa ..) rfl)]
 ·unfold ce at h;cases e:xd.find? (λp=>MV.beq p.1 k)with
  |none=>haveI h:=e▸h;exact(nomatch h)
  |some y=>exact qd (List.any_eq_true.mpr ⟨y,List.mem_of_find?_eq_some e,List.find?_some e⟩) a
inductive Os (H0:MH)(w p q:Nat)(wk:List (MV×MV))(R:List Nat)(E:Eg)(m:Nat)(H:MH):Prop
 |mk (le:H0.le H) (nw:H0 w=none) (np:H0 p=none) (nq:H0 q=none) (wp:w≠p) (hw:H w=some (.dict wk)) (hq:H q=some (.list (R.map iv))) (us:∃xd,A4 (H p=some (.dict xd)) (xd.length<=m) (∀b,ce xd (iv b)=none->Vx E b=[]) (∀b v,ce xd (iv b)=some v->∃r,A5 (v=.ref r) (H r=some (.list ((Vx E b).map iv))) (r≠q) (∀b',ce xd (iv b')=some (.ref r)->b'=b) (H0 r=none)))
theorem Os.off (o:Os H0 w p q wk R E m H)(i:H0.le H')(c:H' w=some (.dict B9))(d:H' q=some (.list (R'.map iv)))(f:Off [w,q] H H'):Os H0 w p q B9 R' E m H':=by
 erw[eE o.8 λa y=>⟨i,o.2,o.3,o.4,o.5,c,d,a,f _ _ (λh=>?_) y.1,y.2,y.3,λb v e=>?_⟩]
 ·rcases xa h with h|h
  ·erw[o.5 h.symm]
  ·erw[Le y.1 o.7 (ia h)]
 ·erw[eE (y.4 b v e) λr z=>⟨r,z.1,f _ _ (λh=>?_) z.2,z.3,z.4,z.5⟩];rcases xa h with h|h
  ·erw[Le o.6 z.2 h.symm]
  ·erw[z.3 (ia h)]
theorem Os.C9 (o:Os H0 w p q wk R E m H):Os H0 w p q B9 R E m (H.set w (.dict B9)):=o.off (o.1.set o.2) MH.sd ((MH.ud (Le o.6 o.7).symm).trans o.7) (aku.set (.head _))
theorem Os.D9 (o:Os H0 w p q wk R E m H):Os H0 w p q wk (R++[x]) E m (H.set q (.list (R.map iv++[iv x]))):=o.off (o.1.set o.4) ((MH.ud (Le o.6 o.7)).trans o.6) (MH.sd.trans (Er Aa rfl)) (aku.set (.tail _ (.head _)))
theorem Os.new (o:Os H0 w p q wk R E m H)(h:H a=none):Os H0 w p q wk R E m (H.set a x):=o.off (o.1.new h) (ge o.6 h) (ge o.7 h) (aku.new h)
theorem Os.up (o:Os H0 w p q wk R E m H)(h:m<=m'):Os H0 w p q wk R E m' H:=by obtain⟨k,y⟩:=o.8;exact⟨o.1,o.2,o.3,o.4,o.5,o.6,o.7,k,y.1,Ba y.2 h,y.3,y.4⟩
theorem Os.ins (o:Os H0 w p q wk R E m H)(n:H p=some (.dict xd))(s:ce xd (iv b)=none)(f:H a=none):Os H0 w p q wk R E (m+1) ((H.set a (.list [])).set p (.dict (dput xd (iv b) (.ref a)))):=by
 have k:=o.new (x:=.list []) f;erw[eE o.8 λl y=>?_];obtain rfl:xd=l:=MO.dict.inj (oa (n.symm.trans y.1));refine⟨k.1.set o.3,o.2,o.3,o.4,o.5,(MH.ud o.5).trans k.6,(MH.ud (Le y.1 o.7).symm).trans k.7,_,MH.sd,Ba xf (Wa y.2),λd e=>?_,λd v e=>?_⟩
 ·rw[ie]at e;have e:=e;by_cases h:MV.beq (iv b) (iv d)=true
  ·have e:=(Ec h)▸e;exact ns e
  ·rw[Dc h]at e;exact y.3 d e
 ·rw[ie,Ye]at e;by_cases h:(b==d)=true
  ·rw[Ec h]at e;have e:=e;obtain rfl:=ub h;refine⟨a,(oa e).symm,(Er (MH.ud (Gd y.1 f).symm) (Er MH.sd (Er (y.3 b s) rfl))),(Gd o.7 f).symm,λd c=>?_,o.1.fresh f⟩
   ·rw[ie,Ye]at c;by_cases i:(b==d)=true
    ·exact(ub i).symm
    ·rw[Dc i]at c;erw[eE (y.4 d _ c) λr z=>?_,haveI:a=r:=MV.ref.inj z.1;?_,qd this (Gd z.2 f).symm]
  ·rw[Dc h]at e;obtain⟨r,z⟩:=y.4 d v e;refine⟨r,z.1,(Er (MH.ud (Le y.1 z.2).symm) (Er (MH.ud (Gd z.2 f)) z.2)),z.3,λj c=>?_,z.5⟩
   ·rw[ie,Ye]at c;by_cases i:(b==j)=true
    ·rw[Ec i]at c;erw[qd (MV.ref.inj (oa c)).symm (Gd z.2 f)]
    ·rw[Dc i]at c;exact z.4 j c
theorem Os.app (o:Os H0 w p q wk R E m H)(f:H p=some (.dict xd))(d:ce xd (iv b)=some (.ref r))(j:H r=some (.list ((Vx E b).map iv))):Os H0 w p q wk R (E++[(b,i)]) m (H.set r (.list ((Vx E b).map iv++[iv i]))):=by
 erw[eE o.8 λn y=>?_];obtain rfl:xd=n:=MO.dict.inj (oa (f.symm.trans y.1));obtain⟨k,z⟩:=y.4 b _ d;obtain rfl:r=k:=MV.ref.inj z.1;refine⟨o.1.set z.5,o.2,o.3,o.4,o.5,(MH.ud (Le o.6 j)).trans o.6,(MH.ud z.3.symm).trans o.7,xd,(MH.ud (Le f j)).trans f,y.2,λc e=>?_,λc v e=>?_⟩
 ·have:¬(b==c)=true:=λh=>by have e:=d▸(((ub h) ..)).symm▸e;exact ns e
  erw[Er qC (Er (Dc this) (Er (y.3 c e) rfl))]
 ·erw[Er qC ?_];by_cases h:(b==c)=true
  ·obtain rfl:=ub h;obtain rfl:_=v:=oa (d.symm.trans e);exact⟨r,rfl,by exact Er MH.sd (Er (Ec h) (Er Aa rfl)),z.3,z.4,z.5⟩
  ·obtain⟨l,a⟩:=y.4 c v e;refine⟨l,a.1,?_,a.3,a.4,a.5⟩;rw[Dc h,ib,MH.ud]
   ·erw[a.2]
   ·intro s;subst s;rw[a.4 b d]at h;erw[h (Pa _)]
theorem Os.step (o:Os H0 w p q wk R E m H)(u:m<1000)(x:∀b,(Vx E b).length<1000)(h:∀H',Os H0 w p q wk R (E++[(b,i)]) (m+1) H'->K .next [x0,x1,x2,.ref w,.ref p,.ref q,iv i,c7,n8,iv b,t10] H'):Kd P PI [x0,x1,x2,.ref w,.ref p,.ref q,iv i,c7,n8,iv b,t10] H K:=by
 haveI l:m<big:=ya u akq;have tail:∀H c r,Os H0 w p q wk R E (m+1) H->H p=some (.dict c)->ce c (iv b)=some (.ref r)->Kd P OI [x0,x1,x2,.ref w,.ref p,.ref q,iv i,c7,n8,iv b,t10] H K:=λH c r o f d=>by
  erw[eE o.8 λs y=>?_];obtain rfl:c=s:=MO.dict.inj (oa (f.symm.trans y.1));obtain⟨n,z⟩:=y.4 b _ d;obtain rfl:r=n:=MV.ref.inj z.1;erw[[OI],Ll f rfl d ⟨fh z.2,eh z.2 (Re (x b)) (h _ (o.app f d z.2))⟩]
 obtain⟨c,y⟩:=o.8;erw[[PI],qe λA k=>?_,[],Ix y.1 rfl ⟨λe=>?_,λe=>k _ _ ?_⟩]
 ·haveI d:ce c (iv b)=none:=by
   cases hd:ce c (iv b)with
   |none=>rfl|some v=>have e:=hd▸e;exact ft e
  erw[[XR],⟨Vd rfl,λa j=>?_⟩,haveI t:(H.set a (.list [])) p=some (.dict c):=ge y.1 j;?_,[],putD t rfl (ja y.2 l) (k _ _ (tail _ _ a (o.ins y.1 d j) MH.sd ?_)),Er ie (Er Ye (Er (Ec (Pa b)) rfl))]
 ·cases hd:ce c (iv b)with
  |none=>have e:=hd▸e;exact tf e
  |some v=>
   obtain⟨r,z⟩:=y.4 b v hd;erw[tail H c r (o.up (Nat.le_succ m)) y.1 (hd.trans (Fc some z.1))]
theorem cQ:(Vx E b).length<=E.length:=by unfold Vx;erw[Er (aa ..) (List.length_filter_le _ _)]
inductive Wt (C:Nat->Prop)(wk:List (MV×MV))(k:Nat)(wt:Nat->Nat):Prop
 |mk (at':∀i,C i->ce wk (iv i)=some (iv (wt i))) (len:wk.length<=k)
theorem Wt.put (w:Wt C wk k wt)(a:C x):Wt C (dput wk (iv x) (iv y)) k λi=>if i=x then y else wt i:=by
 erw[⟨λi b=>?_,by exact Er (DE (w.1 x a)) w.2⟩,Er ie (Er Ye ?_)];by_cases e:i=x
 ·rw[Ec (Er e (Pa _)),Ec e]
 ·rw[Dc (λh=>e (ub h).symm),Dc e];exact w.1 i b
inductive Ph (N:Nt)(H0:MH)(w p q:Nat)(k j m:Nat)(c:Nat)(wk:List (MV×MV))(R:List Nat)(E:Eg)(H:MH):Prop
 |mk (os:Os H0 w p q wk R E (10*k+j) H) (ed:Ed N E k j m) (len:E.length<=10*k+j) (wt:Wt (λi=>Wg N i/\i<k) wk k (ew E [])) (nd:R.Nodup) (mem:∀i,i∈R↔(Wg N i/\i<k)/\ew E [] i=0) (cnt:c=ew E [] k)
theorem Ph.zero (o:Os H0 w p q [] [] [] 0 H):Ph N H0 w p q 0 0 0 0 [] [] [] H:=
 ⟨o,Ed.zero,Qa _,⟨λi h=>qd h.2 (kc _),Qa _⟩,List.nodup_nil,λi=>⟨λh=>qd h Ea,λh=>qd h.1.2 (kc _)⟩,rfl⟩
theorem Ph.skip (x:Ph N H0 w p q k 0 k c wk R E H)(h:∀c,N.cells[k]?=some c->te c.k=true):∃c,Ph N H0 w p q (k+1) 0 (k+1) c wk R E H:=by
 haveI d:∀i,Wg N i/\i<k+1->Wg N i/\i<k:=λi a=>⟨a.1,vc (Cb a.2) λe=>by
  subst e;erw[Sd a.1 λc f b=>?_]
  have b:=(h c f)▸b;cases b⟩
 exact⟨_,x.1.up (Nat.mul_le_mul_left _ (Nat.le_succ k)),x.2.skip h,Ba x.3 (Nat.mul_le_mul_left _ (Nat.le_succ k)),⟨λi a=>x.4.1 i (d i a),Qc x.4.2⟩,x.5,
  λi=>(x.6 i).trans ⟨λh=>⟨⟨h.1.1,Nat.lt_succ_of_lt h.1.2⟩,h.2⟩,λh=>⟨d i h.1,h.2⟩⟩,rfl⟩
theorem Ph.GL (x:Ph N H0 w p q k 0 k c wk R E H):Ph N H0 w p q k 0 (k+1) 0 wk R E H:=
 ⟨x.1,x.2.GL,x.3,x.4,x.5,x.6,(cq.mpr λb a=>qd (x.2.1 b k a).4 (Ic k)).symm⟩
theorem Ph.pass (x:Ph N H0 w p q k j (k+1) c wk R E H)(e:N.cells[k]?=some cl)(d:cl.ins[j]?=some y)(h:∀(b:Nat)(a:Cl),N.cells[b]?=some a->a.out=y->te a.k=true):Ph N H0 w p q k (j+1) (k+1) c wk R E H:=
 ⟨x.1.up (Nat.le_succ _),x.2.pass e d h,Qc x.3,x.4,x.5,x.6,x.7⟩
theorem Ph.add (x:Ph N H0 w p q k j (k+1) c wk R E H)(ok:Ai N)(m:N.cells[k]?=some cl)(f:cl.ins[j]?=some y)(l:te cl.k=false)(n:N.cells[b]?=some cb)(d:cb.out=y)(r:te cb.k=false)(o:Os H0 w p q wk R (E++[(b,k)]) (10*k+j+1) H'):Ph N H0 w p q k (j+1) (k+1) (c+1) wk R (E++[(b,k)]) H':=by
 haveI e:∀i,i<k->ew (E++[(b,k)]) [] i=ew E [] i:=λi a=>by
  erw[Er rC (Er (Dc (λe=>Kc a (ub e).symm)) (Er (Nat.add_zero ..) rfl))]
 refine⟨o,x.2.add ok m f l n d r,by refine Er (ua ..) ?_;exact Wa x.3,⟨λi a=>by refine Er (e i a.2) ?_;exact x.4.1 i a,x.4.2⟩,x.5,λi=>(x.6 i).trans ⟨λh=>⟨h.1,by refine Er (e i h.1.2) ?_;exact h.2⟩,λh=>⟨h.1,by refine Es (e i h.1.2) ?_;exact h.2⟩⟩,?_⟩;refine Er rC ?_;refine Er (Ec (Pa k)) ?_;refine Er x.7 ?_;rfl
theorem Ph.close (x:Ph N H0 w p q k cl.ins.length (k+1) c wk R E H)(j:N.cells[k]?=some cl)(r:te cl.k=false)(n:cl.ins.length<10)(o:Os H0 w p q (dput wk (iv k) (iv c)) (if c=0 then R++[k]else R) E (10*k+cl.ins.length) H'):∃v,Ph N H0 w p q (k+1) 0 (k+1) v (dput wk (iv k) (iv c)) (if c=0 then R++[k]else R) E H':=by
 have hle:10*k+cl.ins.length<=10*(k+1)+0:=by simp only[Nat.mul_succ];exact Gc (Ib n) _
 have d:k∉R:=λm=>qd ((x.6 k).mp m).1.2 (Ic k);have y:Wg N k:=⟨cl,j,r⟩;have f:∀i,Wg N i/\i<k+1↔(Wg N i/\i<k)\/i=k:=λi=>⟨λh=>(qb h.2).imp (λe=>⟨h.1,e⟩) id,λh=>h.elim (λh=>⟨h.1,Nat.lt_succ_of_lt h.2⟩) λe=>by exact Er e ⟨y,Oc k⟩⟩
 refine⟨_,o.up hle,x.2.close j,Ba x.3 hle,⟨λi s=>?_,Ba xf (Wa x.4.2)⟩,?_,λi=>?_,rfl⟩
 ·erw[Er ie (Er Ye ?_)];by_cases e:(k==i)=true
  ·erw[Er (Ec e) (Es (ub e) (Er x.7 rfl))]
  ·rw[Dc e];erw[x.4.1 i (((f i).mp s).resolve_right λh=>e (Er h (Pa k)))]
 ·by_cases h0:c=0
  ·rw[Ec h0];erw[List.nodup_append.mpr ⟨x.5,List.nodup_cons.mpr ⟨Ea,List.nodup_nil⟩,λa u b t e=>d (Es (ia t) (Es e u))⟩]
  ·rw[Dc h0];exact x.5
 ·rw[f];have e:i∈(if c=0 then R++[k]else R)↔i∈R\/(i=k/\c=0):=by
   by_cases h0:c=0
   ·rw[Ec h0,mem_append,mem_singleton];exact⟨λh=>h.imp id λe=>⟨e,h0⟩,λh=>h.imp id And.left⟩
   ·rw[Dc h0];exact⟨.inl,λh=>h.resolve_right λh=>h0 h.2⟩
  rewrite[e,x.6];refine Er x.7 ?_
  constructor
  ·rintro(h|⟨rfl,h⟩)
   ·exact⟨.inl h.1,h.2⟩
   ·exact⟨.inr rfl,h⟩
  ·rintro⟨h|rfl,l⟩
   ·erw[.inl ⟨h,l⟩]
   ·erw[.inr ⟨rfl,l⟩]
theorem Ph.kah (x:Ph N H0 w p q N.cells.length 0 N.cells.length c wk R E H):FF N E R 0 [] (ew E []):=
 ⟨x.5,λi h=>((x.6 i).mp h).1.1,λi _=>(bc _).symm,λi a=>(x.6 i).trans ⟨And.right,λh=>⟨⟨a,Wh a⟩,h⟩⟩,λj i d b e=>qd (cq.mp ((x.6 i).mp (Dd d)).2 b e) Ea,Ta _⟩
theorem wZ (hn:1<=n)(a:Md H0 d N)(ok:Ai N)(hd:H0 dr=some (.dict EF))(dv:nW EF N.cells N.cells.length)(o:Os H0 w p q [] [] [] 0 H)(h:∀(s:MV×MV×MV×MV) r R E c H',Ph N H0 w p q N.cells.length 0 N.cells.length c r R E H'->Kd (Ce X n) Rz [.obj 0 d,.ref dr,.ref N.pc,.ref w,.ref p,.ref q,s.1,s.2.1,s.2.2.1,s.2.2.2,.td] H' K):Kd (Ce X n) VI [.obj 0 d,.ref dr,.ref N.pc,.ref w,.ref p,.ref q,.td,.td,.td,.td,.td] H K:=by
 have z:N.cells.length<1000:=ya ok.4 akq;erw[Qd λB R hB hR=>?_,[],De (o.1 _ _ a.4) (Re z) (Er (aa ..) (Rf (ya z akq) (Ze (ya z akq) ?_))),be (λs:MV×MV×MV×MV=>[.obj 0 d,.ref dr,.ref N.pc,.ref w,.ref p,.ref q,s.1,s.2.1,s.2.2.1,s.2.2.2,.td]) (λk _ H'=>∃r R E c,Ph N H0 w p q k 0 k c r R E H') (_,_,_,_) ⟨_,_,_,_,Ph.zero o⟩ (λ_ _ _ _=>trivial) ?_ ?_]
 ·intro k x s H2 K2 t Se zd Ul _;erw[hide λZz Od=>(we Se λr O E fg=>(eE fg λc C=>(Od ?_)))];clear Od;erw[Ak x (Ud t) λV=>?_];obtain⟨cl,u⟩:∃cl,N.cells[k]?=some cl:=⟨_,wa V⟩;have I:(N.cells.map Yg)[k]?=some (Yg cl):=by refine Er za ?_;exact Er u rfl
  have P:=λH' (o:H0.le H')=>o _ _ a.4;haveI U:=ok.6 cl (Dd u);erw[hB _ _ _ ?_,[SI],qe λR2 cg=>?_,[],Ve (P _ C.1.1) I (Re z) (Xe (k:=0) rfl (Vd rfl) (Pn hn ?_)),⟨λe=>?_,λe=>cg _ _ ?_⟩]
  ·erw[eE (C.skip λZ Mq=>by exact Er (oa (Mq.symm.trans u)) e) λZ T=>(Ul (_,_,_,_) H2 ⟨_,_,_,_,T⟩)]
  erw[[RI,QI],Qd λB3 R3 Dy oj=>?_,[],Ve (P _ C.1.1) I (Re z) (Xe (k:=2) rfl (Vd rfl) (be (λf:Nat×MV×MV=>[.obj 0 d,.ref dr,.ref N.pc,.ref w,.ref p,.ref q,iv k,iv f.1,f.2.1,f.2.2,.td]) (λj f H'=>∃E,Ph N H0 w p q k j (k+1) f.1 r O E H') (_,_,_) ⟨_,C.GL⟩ (λ_ _ _ _=>trivial) ?_ ?_))]
  ·intro j x f L K3 t Se S _ _;erw[eE Se λE3 p3=>?_];rw[za,Ha]at t;erw[Ef x t λx t=>?_];haveI hj:=yd t;haveI hm:10*k+j<1000:=by haveI:=ok.4;exact oi 0x3e83ce20a1dbb3a1ce3b105a2ce1ba03e2b101e0ba0 rfl V hj this U
   erw[Dy _ _ _ ?_,[ZR],⟨dL (p3.1.1 _ _ hd),cL (p3.1.1 _ _ hd) rfl ?_⟩];haveI W:((∀(b:Nat)(m:Cl),N.cells[b]?=some m->m.out=x->False)/\(ce EF (iv x)).getD (.int (-1))=.int (-1))\/∃b m,N.cells[b]?=some m/\m.out=x/\(ce EF (iv x)).getD (.int (-1))=iv b:=by
    cases D:ce EF (iv x)with
    |none=>exact .inl ⟨λb m A J=>(by rw[<-J,dv.2 b m (yd A) A]at D;exact(nomatch D)),rfl⟩
    |some v=>
     erw[kl (dv.3 x v D) λb m y=>(.inr ⟨b,m,y.2,y.3,y.1⟩)]
   rcases W with⟨bo,D⟩|⟨b,m,M,HL,D⟩
   ·erw[Er D (qe λR4 F=>bZ ⟨λe=>(nomatch e),λ_=>⟨λe=>(nomatch e),λ_=>F _ _ (S (f.1,iv x,.int (-1)) L ⟨_,p3.pass u t λb m A J=>(bo b m A J).elim⟩)⟩⟩)]
   ·erw[Er D (qe λR4 F=>bZ ?_),[],⟨λ_=>?_,λe=>qd (Pb (Ua b)) (Er e Na)⟩,Ve (P _ p3.1.1) (by refine Er za ?_;exact Er M rfl) (Re z) ?_,Xe (k:=0) rfl (Vd rfl) (Pn hn ?_),⟨λe=>?_,λe=>F _ _ (S (f.1,iv x,iv b) L ⟨_,p3.pass u t λb' A9 A J=>?_⟩)⟩]
    ·haveI e:te m.k=false:=by revert e;cases te m.k<;>exact λe=>(by first|rfl|exact ft e)
     erw[[YR],zg (b:=1) (Os.step p3.1 hm (λb=>ja (Ba cQ p3.3) hm) λH4 G=>F _ _ (S (f.1+1,iv x,iv b) H4 ⟨_,p3.add ok u t (by assumption) M HL e G⟩))]
    ·haveI nd:(N.cells.map (·.out)).Nodup:=(List.nodup_append.mp (jd (jd ok.1).2).2).2.1;haveI:b'=b:=(Vc (l:=N.cells.map (·.out)) (Er (aa ..) (yd A)) nd).mp (by simp only[za,A,M];exact Fc some (J.trans HL.symm));subst this;obtain rfl:=oa (A.symm.trans M);revert e;cases te A9.k<;>exact λe=>(by first|rfl|exact tf e)
  ·intro f L Zd;obtain⟨E3,p3⟩:=Zd;rw[aa]at p3;have p3:=p3;erw[oj _ _ ?_];clear Dy oj;erw[[bS],putD p3.1.6 rfl (ja p3.4.2 (ya V (ya z akq))) ?_,haveI G:=p3.1.C9 (B9:=dput r (iv k) (iv f.1));?_,qe λR4 F=>⟨λY=>?_,λY=>F _ _ ?_⟩]
   ·have h0:f.1=0:=zk (b:=0) Y;obtain⟨Z,p5⟩:=p3.close u e U (H':=(L.set w (.dict (dput r (iv k) (iv f.1)))).set q (.list (O.map iv++[iv k]))) (Er (Ec h0) G.D9);erw[[aS],⟨fh G.7,eh G.7 (Re (ja (Jh p3.5 λi hi=>Wh ((p3.6 i).mp hi).1.1) z)) (F _ _ (zd (_,_,_,_) _ ⟨_,_,_,_,p5⟩))⟩]
   ·have h0:f.1≠0:=Am (b:=0) Y;obtain⟨Z,p5⟩:=p3.close u e U (H':=L.set w (.dict (dput r (iv k) (iv f.1)))) (Er (Dc h0) G);erw[zd (_,_,_,_) _ ⟨_,_,_,_,p5⟩]
 ·intro s H2 bf;erw[we bf λr O E Vm=>(eE Vm λc C=>?_)];rw[aa,Ca]at C;erw[hR _ _ (h s r O E c H2 C)]
inductive Tw (N:Nt)(H0:MH)(w p q m:Nat)(E:Eg)(t:Nat)(X:List Nat)(R:List Nat)(H:MH):Prop
 |mk (ex:∃wk wt,A3 (Os H0 w p q wk R E m H) (Wt (Wg N) wk N.cells.length wt) (FF N E R t X wt))
theorem Tw.os {m t:Nat}{E:Eg}{X R:List Nat}(x:Tw N H0 w p q m E t X R H):∃a,Os H0 w p q a R E m H:=by obtain⟨a,_,y⟩:=x.1;exact⟨a,y.1⟩
theorem Tw.len {m t:Nat}{E:Eg}{X R:List Nat}(x:Tw N H0 w p q m E t X R H):R.length<=N.cells.length:=by obtain⟨_,_,y⟩:=x.1;exact y.3.len
theorem Tw.step {m t i:Nat}{E:Eg}{X R:List Nat}{o n l k j f v:MV}(x:Tw N H0 w p q m E t (i::X) R H)(hi:Wg N i)(ok:Ai N){P:Pg} (h:∀A H',Tw N H0 w p q m E t X A H'->Off [w,q] H H'->K .next [o,n,l,.ref w,.ref p,.ref q,iv i,k,j,f,v] H'):Kd P Qz [o,n,l,.ref w,.ref p,.ref q,iv i,k,j,f,v] H K:=by
 erw[kl x.1 λz r y=>?_];haveI s:N.cells.length<1000:=ya ok.4 akq;obtain⟨B,c⟩:=y.3.step hi;haveI d:=y.2.put (y:=r i-1) hi;haveI a:=y.1.C9 (B9:=dput z (iv i) (iv (r i-1)));erw[[Qz],Ll y.1.6 rfl (y.2.1 i hi) (zv (b:=1) B (putD y.1.6 rfl (ja y.2.2 (ya s akq)) ?_)),qe λC u=>?_,[],Ll MH.sd rfl ((d.1 i hi).trans (Er (Ec rfl) rfl)) ?_,⟨λe=>?_,λe=>u _ _ (h R _ ⟨_,_,a,d,?_⟩ (aku.set (.head _)))⟩]
 ·rw[Ec (zk (b:=0) e)]at c;erw[[TI],⟨fh a.7,eh a.7 (Re (ja y.3.len s)) (u _ _ (h _ _ ⟨_,_,a.D9,d,c⟩ ((aku.set (.head _)).set (.tail _ (.head _)))))⟩]
 ·rw[Dc (Am (b:=0) e)]at c;erw[c]
theorem zZ {s:MV×MV×MV×MV}(ok:Ai N)(O:Ed N E N.cells.length 0 N.cells.length)(hE:E.length<1000)(hm:m<1000)(x:Tw N H0 w p q m E 0 [] R H)(h:∀L' V H',H0.le H'->H' q=some (.list (V.map iv))->Ord N V->K (.ret (.ref q)) L' H'):Kd (Ce X n) Rz [.obj 0 d,.ref dr,.ref N.pc,.ref w,.ref p,.ref q,s.1,s.2.1,s.2.2.1,s.2.2.2,.td] H K:=by
 haveI J:N.cells.length<1000:=ya ok.4 akq;erw[wL (λs:Nat×MV×MV×MV×MV=>[.obj 0 d,.ref dr,.ref N.pc,.ref w,.ref p,.ref q,s.2.1,s.2.2.1,s.2.2.2.1,s.2.2.2.2,iv s.1]) (λg s H'=>A2 (∃R,Tw N H0 w p q m E s.1 [] R H') (g=N.cells.length-s.1)) N.cells.length (0,_,_,_,_) ⟨⟨R,x⟩,rfl⟩ ?_,λg s F K2 P W _ _=>?_,eE P.1 λR x=>?_];obtain rfl:=P.2;obtain⟨B,o⟩:=x.os;have D:=x.len;erw[[],De o.7 (Re (ja D J)) (Er (aa ..) ?_),[],⟨λe=>?_,λe=>?_⟩]
 ·haveI A:=tE e;obtain⟨b,M⟩:∃b,R[s.1]?=some b:=⟨_,wa A⟩;obtain⟨G,u⟩:=o.8;erw[Qd λB3 U Dy oj=>?_,[],⟨dL u.1,Ve o.7 (yf M) (Re (ja D J)) ⟨Vd rfl,λa l=>?_⟩⟩];haveI C:∃r,A4 ((ce G (iv b)).getD (.ref a)=.ref r) ((F.set a (.list [])) r=some (.list ((Vx E b).map iv))) (r≠q) (r≠w):=by
   cases hg:ce G (iv b)with
   |none=>exact⟨a,rfl,by exact Er (MH.sd ..) (Er (u.3 b hg) rfl),(Gd o.7 l).symm,(Gd o.6 l).symm⟩
   |some v=>
    obtain⟨r,z⟩:=u.4 b v hg;exact⟨r,z.1,ge z.2 l,z.3,(Le o.6 z.2).symm⟩
  obtain⟨r,z⟩:=C;have Z:Tw N H0 w p q m E (s.1+1) (Vx E b) R (F.set a (.list [])):=by
   erw[kl x.1 λB I y=>⟨B,I,y.1.new l,y.2,y.3.turn M⟩]
  erw[cL (ge u.1 l) rfl (Er z.1 ?_),[],ve z.2 (be (λt:MV=>[.obj 0 d,.ref dr,.ref N.pc,.ref w,.ref p,.ref q,t,s.2.2.1,s.2.2.2.1,s.2.2.2.2,iv s.1]) (λj zz H'=>A2 (∃R,Tw N H0 w p q m E (s.1+1) ((Vx E b).drop j) R H') (H' r=some (.list ((Vx E b).map iv)))) _ ⟨⟨R,Z⟩,z.2⟩ (λzz zz zz c=>c.2) ?_ ?_)]
  ·intro j v t H3 K3 k T qg _ _;haveI L:=T.2;erw[eE T.1 λU f=>?_];rw[za,Ha]at k;erw[Ef v k λi k=>?_];haveI f:=(lh k)▸f;haveI hi:Wg N i:=by
    erw[Ef i (Gb (Dd k)) λe he=>((O.1 e.1 e.2 (mem_filter.mp he).1).2)]
   erw[Dy _ _ _ (f.step hi ok λR4 H4 Y o4=>qg _ H4 ⟨⟨R4,Y⟩,o4 _ _ (λh=>(xa h).elim z.4 λh=>z.3 (ia h)) L⟩)]
  ·intro t H3 S;haveI L:=S.2;erw[eE S.1 λU f=>?_];rw[aa,List.drop_length]at f;erw[oj _ _ ?_,[UI],zg (b:=1) (W _ (s.1+1,t,s.2.2.1,s.2.2.2.1,s.2.2.2.2) _ (Nat.sub_succ_lt_self _ _ (Ma A D)) ⟨⟨_,f⟩,rfl⟩)]
 ·haveI A:=fC e;erw[kl x.1 λB I y=>(h _ R F y.1.1 y.1.7 (y.3.fin A O))]
theorem EA {y:List (MV×MV)}(u:2<=n)(a:Md H d N)(ok:Ai N)(hd:H dr=some (.dict y))(F:nW y N.cells N.cells.length)(h:∀q H' R,H.le H'->H q=none->H' q=some (.list (R.map iv))->Ord N R->Q (.ref q) H'):Fd X n 14 [.obj 0 d,.ref dr] H Q:=by
 erw[eE (Of u) λn J=>?_];subst J;erw[Ad rfl rfl ?_,[Ae,p14,ZI],a.aC ?_,[Ae,YI],⟨λk r=>qd r Ea,λw t=>?_⟩,[Ae,XI],⟨λk r=>qd r Ea,λp l=>?_⟩];obtain⟨pw,l⟩:=Mine.fresh l;erw[[Ae,WI],⟨Vd rfl,λq f=>?_⟩];obtain⟨C,f⟩:=Mine.fresh f;obtain⟨B,f⟩:=Mine.fresh f;haveI o:Os H w p q [] [] [] 0 (((H.set w (.dict [])).set p (.dict [])).set q (.list [])):=by
  refine⟨(((akr H).new t).set l).set f,t,l,f,pw.symm,(Er (MH.ud B.symm) (Er (MH.ud pw.symm) (Er MH.sd rfl))),MH.sd,[],?_,Qa _,λb zz=>rfl,λb v e=>(nomatch e)⟩
  ·rw[MH.ud C.symm,MH.sd]
 erw[wZ (dn u) a ok hd F o λs z R E c M j=>?_];have hm:10*N.cells.length+0<1000:=by haveI:=ok.4;exact ee 0x3e83cef0a1dbb35a2ce0ba0 rfl this
 erw[zZ ok j.2 (ja j.3 hm) hm ⟨z,ew E [],j.1,⟨λi x=>j.4.1 i ⟨x,Wh x⟩,j.4.2⟩,j.kah⟩ λL G I m A D=>h q I G m f A D]
theorem FE (c:Ord N R):N.cells.length<=R.length+(Je N).length:=by
 haveI h:range N.cells.length⊆R++Je N:=λi a=>by
  have a:=Mb a;haveI b:N.cells[i]?=some N.cells[i]:=wa a;cases e:te N.cells[i].k with
  |false=>exact Za (.inl ((c.2 i).mpr ⟨_,b,e⟩))|true=>exact Za (.inr (mem_filter.mpr ⟨Xa a,by exact Er (pC b) e⟩))
 haveI:=List.nodup_range.length_le_of_subset h;rwa[Ca,ua]at this
theorem IL (f:3<=n)(a:Md H d N)(ok:Ai N)(h:∀q H' R,H.le H'->H q=none->H' q=some (.list (R.map iv))->Ord N R->Q (.ref q) H'):Fd X n 15 [.obj 0 d] H Q:=by erw[eE (Of f) λn A=>?_];subst A;haveI c:N.cells.length<1000:=ya ok.4 akq;erw[Ad rfl rfl ?_,[Ae,aJ,dS],DA (dn f) a ok λB E F j w x=>?_,[Ae],EA (dn f) (a.mono j) ok w x λq D R r u m b=>?_,have p:=j.trans r;?_,qe λC y=>?_,[],De m (Re (ja (Jh b.1 λi v=>Wh ((b.2 i).mp v)) c)) (Qt (dn f) (a.mono p) c λs z o t k=>?_),Er (aa ..) ?_,[],De k (Re (ja El c)) (zg (a:=R.length) ?_),Er (aa ..) ?_,[],haveI l:=p.trans o;?_,(a.mono l).aC (De (l _ _ a.4) (Re c) ?_),Er (aa ..) ?_,[],⟨λe=>qd (tE e) (rc (FE b)),λzz=>y _ _ ?_⟩,h q z R l (j.fresh u) (o _ _ m) b]
def ze:List Bool->Nat
 |[]=>0|b::r=>b.toNat+2*ze r
def dQ:Nat->Nat
 |3=>2|7=>1|8=>8|10=>14|12=>6|9=>7|2=>228|_=>0
theorem Dk (b:(k==j)=false)(h:Kd P r [x0,.str k,x2,x3] H K):Kd P (.ifs (.cmp .Eq (.loc 1) (.cst (.str j))) a []::r) [x0,.str k,x2,x3] H K:=by erw[[Ae],Er b ⟨λh=>(nomatch h),λzz=>h⟩]
theorem FA (h:Yd P e [x0,.str k,x2,x3] H λv H'=>K (.ret v) [x0,.str k,x2,x3] H'):Kd P (.ifs (.cmp .Eq (.loc 1) (.cst (.str k))) (.ret e::[]) []::r) [x0,.str k,x2,x3] H K:=by erw[[Ae],⟨λzz=>h,λh=>by rw[Pa]at h;cases h⟩]
theorem eQ (h:Nat.blt k 1000=true):k<1000:=gc h
theorem GA {P:Pg}{c b a:MV}{q i l:Nat}{ls:List Nat}(d:H q=some (.list (ls.map iv)))(hi:ls[i]?=some l)(e:Nat.blt ls.length 1000=true)(h:Q (iv l) H):Yd P (.sub (.loc 3) (.cst (.int i))) [c,b,a,.ref q] H Q:=Ve d (yf hi) (Re (eQ e)) h
theorem sC {P:Pg}{d c b:MV}{q l r:Nat}{Q:List MV->MH->Prop}(a:H q=some (.list ([l,r].map iv)))(h:Q [iv l,iv r] H):zh P (.cons (.sub (.loc 3) (.cst (.int 0))) (.cons (.sub (.loc 3) (.cst (.int 1))) .nil)) [d,c,b,.ref q] H Q:=GA (i:=0) a rfl rfl (GA (i:=1) a rfl rfl h)
theorem F9 {P:Pg}{d c b:MV}{q s l r:Nat}{Q:List MV->MH->Prop}(a:H q=some (.list ([s,l,r].map iv)))(h:Q [iv s,iv l,iv r] H):zh P (.cons (.sub (.loc 3) (.cst (.int 0))) (.cons (.sub (.loc 3) (.cst (.int 1))) (.cons (.sub (.loc 3) (.cst (.int 2))) .nil))) [d,c,b,.ref q] H Q:=GA (i:=0) a rfl rfl (GA (i:=1) a rfl rfl (GA (i:=2) a rfl rfl h))
theorem JL {k q:Nat}{ls:List Nat}{y:MV}(t:5<=n)(a:Fe H d A)(z:A.wd.length<997)(f:Rg k ls.length=true)(p:H q=some (.list (ls.map iv)))(u:∀l∈ls,l/2<A.wd.length)(h:∀x c H',wh d A H 3 (λv=>(dQ k).testBit (ze (ls.map (lv v)))) x c H'->Q (iv x) H'):Fd X n 29 [.obj 1 d,.str k,y,.ref q] H Q:=by
 erw[eE (Of t) λn C=>?_];subst C;erw[Ad rfl rfl ?_];have o:A.wd.length<1000:=ya z akq;have up:∀{x c H' j g},wh d A H j g x c H'->j<=3->wh d A H 3 g x c H':=λe B=>⟨e.1,e.2.up B,e.3,e.4,e.5⟩
 unfold Rg at f;rcases W2 ls with rfl|⟨l,rfl⟩|⟨l,r,rfl⟩|⟨s,l,r,rfl⟩|⟨_,_,_,_,_,rfl⟩
 ·erw[ft f]
 ·
  have m:=u l (.head _);haveI f:k=3\/k=7:=by simpa using f
  rcases f with rfl|rfl
  ·erw[Dk rfl (Dk rfl (Dk rfl (FA (GA (i:=0) p rfl rfl (h l A H (wh.here a m λv zz=>?_))))))];show _=Nat.testBit 2 (ze [lv v l]);cases lv v l<;>rfl
  ·erw[Dk rfl (Dk rfl (Dk rfl (Dk rfl (FA (GA (i:=0) p rfl rfl (Zi (b:=1) (h _ A H ?_))))))),(wh.here (k:=3) (g:=λv=>lv v l) a m λv zz=>rfl).not.eq λv zz=>?_];show _=Nat.testBit 1 (ze [lv v l]);cases lv v l<;>rfl
 ·
  haveI m:=u l (.head _);haveI w:=u r (.tail _ (.head _));haveI f:k=8\/k=9\/k=10\/k=12:=by simpa[or_assoc]using f
  rcases f with rfl|rfl|rfl|rfl
  ·erw[Dk rfl (Dk rfl (Dk rfl (Dk rfl (Dk rfl (FA ⟨a.Ei rfl,sC p ?_⟩))))),Fe.Kg rfl (Xj (dn t) a o m w λx c H' e=>h x c H' ((up e akq).eq λv zz=>?_))];show _=Nat.testBit 8 (ze [lv v l,lv v r]);cases lv v l<;>cases lv v r<;>rfl
  ·erw[Dk rfl (Dk rfl (Dk rfl (Dk rfl (Dk rfl (Dk rfl (FA ⟨a.Ei rfl,sC p ?_⟩)))))),Fe.Kg rfl (Xj (dn t) a o m w λx c H' e=>Zi (b:=1) (h _ c H' ((up e akq).not.eq λv zz=>?_)))];show _=Nat.testBit 7 (ze [lv v l,lv v r]);cases lv v l<;>cases lv v r<;>rfl
  ·erw[Dk rfl (Dk rfl (Dk rfl (Dk rfl (Dk rfl (Dk rfl (Dk rfl (FA ⟨a.Ei rfl,sC p ?_⟩))))))),Fe.Kg rfl (BA (dn t) a o m w λx c H' e=>h x c H' ((up e akq).eq λv zz=>?_))];show _=Nat.testBit 14 (ze [lv v l,lv v r]);cases lv v l<;>cases lv v r<;>rfl
  ·erw[Dk rfl (Dk rfl (Dk rfl (Dk rfl (Dk rfl (Dk rfl (Dk rfl (Dk rfl (Dk rfl (FA ⟨a.Ei rfl,sC p ?_⟩))))))))),Fe.Kg rfl (WP (dn t) a z m w λx c H' e=>h x c H' ((e).eq λv zz=>?_))];show _=Nat.testBit 6 (ze [lv v l,lv v r]);cases lv v l<;>cases lv v r<;>rfl
 ·
  have f:k=2:=by simpa using f
  subst f;erw[Dk rfl (Dk rfl (FA ⟨a.Ei rfl,F9 p ?_⟩)),Fe.Kg rfl (ZP (dn t) a z (u s (.head _)) (u l (.tail _ (.head _))) (u r (.tail _ (.tail _ (.head _)))) λx c H' e=>h x c H' (e.eq λv zz=>?_))];show _=Nat.testBit 228 (ze [lv v s,lv v l,lv v r]);cases lv v s<;>cases lv v l<;>cases lv v r<;>rfl
 ·simp at f
theorem KL (c:1<=n)(b:H p=some (.dict xd))(a:ce xd (iv x)=some v)(h:Q v H):Fd X n 30 [.ref p,iv x] H Q:=by erw[Xh n (Of c) λn=>(Ad rfl rfl ?_),[W0,LS],qe λf d=>?_,[],Ix b rfl ⟨λe=>(by rw[a]at e;exact ft e),λzz=>d _ _ ?_⟩,[KS],Ll b rfl a h]
end
section
def abZ:MV->Nat
 |.tup [_,.int t]=>t.toNat|_=>0
def tabOf (c:Cl):Nat:=if c.k=1 then abZ c.par else dQ c.k
inductive ki (cs:List Cl)(u:Va):Prop
 |mk (z0:u 0=false) (z1:u 1=true) (cell:∀c∈cs,te c.k=false->u c.out=(tabOf c).testBit (ze (c.ins.map u)))
inductive Rel (N:Nt)(A:Ag)(u v:Va):Prop
 |mk (nc:ki N.cells u) (ac:Ri A.wd v) (ins:∀(i x s:Nat),A.ins[i]?=some x->(Ke N)[i]?=some s->v x=u s)
theorem Rel.pre {N:Nt}{A B:Ag}{k:Nat}{u v:Va}(x:Ext A B k)(h:Rel N B u v):Rel N A u v:=⟨h.1,x.pre h.2,by haveI:=x.ad.2.2.2.2.1;exact Es this h.3⟩
def parts (A:Ag):List Nat:=[A.pn,A.pi,A.po,A.pt]
inductive Fs (H0:MH)(d p r:Nat)(rl:List MV)(N:Nt)(dom:Nat->Prop)(m:Nat)(A:Ag)(H:MH):Prop
 |mk (le:H0.le H) (ag:Fe H d A) (nw:∀x∈parts A,H0 x=none) (np:H0 p=none) (pt:p≠A.pt) (kr:H r=some (.list rl)) (nr:r∉parts A) (ld:∃xd,A3 (H p=some (.dict xd)) (xd.length<=m) (∀x,dom x->∃l,A3 (ce xd (iv x)=some (iv l)) (l/2<A.wd.length) (∀u v,Rel N A u v->lv v l=u x)))
inductive G9 (H0:MH)(d p r:Nat)(A:Ag)(q:Nat):Prop
 |mk (n0:H0 q=none) (nd:d≠q) (np:p≠q) (nr:r≠q) (na:q∉parts A)
theorem no4 {a b c d x:Nat}(g:x≠a)(f:x≠b)(e:x≠c)(h4:x≠d):x∉[a,b,c,d]:=λh=>by
 rcases xa h with h|h
 ·erw[g h]
 rcases xa h with h|h
 ·erw[f h]
 rcases xa h with h|h
 ·erw[e h]
 ·erw[h4 (ia h)]
theorem Fs.I9 (f:Fs H0 d p r rl N dom m A H):p∉parts A:=by erw[eE f.8 λa y=>(no4 (Le y.1 f.2.2) (Le y.1 f.2.3) (Le y.1 f.2.4) f.5)]
theorem Fs.free {q:Nat}(f:Fs H0 d p r rl N dom m A H)(h:H q=none):G9 H0 d p r A q:=by erw[hide λe a=>?_];obtain⟨b,y⟩:=f.8;erw[a ?_];clear a;erw[eE f.2.1 λg x=>(eE f.2.5 λc z=>⟨f.1.fresh h,Gd x.1 h,Gd y.1 h,Gd f.6 h,no4 (Gd f.2.2 h).symm (Gd f.2.3 h).symm (Gd f.2.4 h).symm (Gd z.1 h).symm⟩)]
theorem Fs.J9 {q:Nat}{o:MO}(f:Fs H0 d p r rl N dom m A H)(h:G9 H0 d p r A q):Fs H0 d p r rl N dom m A (H.set q o):=by
 erw[eE f.8 λb y=>?_];have a:∀x∈parts A,x∉[q]:=λx c e=>h.5 (Es (ia e) c)
 exact⟨f.1.set h.1,f.2.off (aku.set (.head _)) ⟨λe=>h.2 (ia e),a _ (.head _),a _ (.tail _ (.head _)),a _ (.tail _ (.tail _ (.head _))),a _ (.tail _ (.tail _ (.tail _ (.head _))))⟩,f.3,f.4,f.5,(MH.ud h.4).trans f.6,f.7,b,(MH.ud h.3).trans y.1,y.2,y.3⟩
theorem Fs.turn {b:Nat}{a:List MV}{H':MH}(f:Fs H0 d p r rl N dom m A H)(c:H.le H')(h:H b=none)(h':H' b=some (.list a)):Fs H0 d p b a N dom m A H':=by erw[eE f.8 λe y=>⟨f.1.trans c,f.2.mono c,f.3,f.4,f.5,h',(f.free h).5,e,c _ _ y.1,y.2,y.3⟩]
theorem Fs.step {a:Ag}{H':MH}(f:Fs H0 d p r rl N dom m A H)(o:Off (parts A) H H')(k:Fe H' d a)(e:parts a=parts A)(i:A.wd.length<=a.wd.length)(g:∀u v,Rel N a u v->Rel N A u v):Fs H0 d p r rl N dom m a H':=by
 erw[eE f.8 λb y=>?_];haveI j:a.pt=A.pt:=by unfold parts at e;injection e with _ e;injection e with _ e;injection e with _ e;injection e
 exact⟨o.le f.1 f.3,k,by refine Er e ?_;exact f.3,f.4,by refine Er j ?_;exact f.5,o _ _ f.7 f.6,by refine Er e ?_;exact f.7,b,o _ _ f.I9 y.1,y.2,λx c=>by obtain⟨l,z⟩:=y.3 x c;exact⟨l,z.1,Ma z.2 i,λu v h=>z.3 u v (g u v h)⟩⟩
theorem Fs.put {x l:Nat}(f:Fs H0 d p r rl N dom m A H)(k:l/2<A.wd.length)(j:∀u v,Rel N A u v->lv v l=u x):∃a,A3 (H p=some (.dict a)) (a.length<=m) (Fs H0 d p r rl N (λy=>y=x\/dom y) (m+1) A (H.set p (.dict (dput a (iv x) (iv l))))):=by
 erw[eE f.8 λa y=>(eE f.2.1 λg w=>?_)];haveI b:∀x∈parts A,x∉[p]:=λx i e=>f.I9 (Es (ia e) i)
 refine⟨a,y.1,y.2,f.1.set f.4,f.2.off (aku.set (.head _)) ⟨λe=>?_,b _ (.head _),b _ (.tail _ (.head _)),b _ (.tail _ (.tail _ (.head _))),b _ (.tail _ (.tail _ (.tail _ (.head _))))⟩,f.3,f.4,f.5,(MH.ud (Le y.1 f.6).symm).trans f.6,f.7,_,MH.sd,Ba xf (Wa y.2),λz c=>?_⟩
 ·erw[og w.1 y.1 (λzz=>MO.noConfusion) (ia e)]
 ·erw[Er ie (Er Ye ?_)];by_cases e:(x==z)=true
  ·erw[Er (Ec e) (Es (ub e) ⟨l,rfl,k,j⟩)]
  ·erw[Er (Dc e) (y.3 z (c.resolve_left λh=>e (Er h (Pa x))))]
theorem Fs.weak {a:Nat->Prop}{m':Nat}(f:Fs H0 d p r rl N dom m A H)(e:m<=m')(h:∀x,a x->dom x):Fs H0 d p r rl N a m' A H:=by erw[eE f.8 λb y=>⟨f.1,f.2,f.3,f.4,f.5,f.6,f.7,b,y.1,Ba y.2 e,λx c=>y.3 x (h x c)⟩]
inductive Gs (N:Nt)(A:Ag)(b:Nat):Prop
 |mk (ins:A.ins=range' 1 (Ke N).length) (nd:∃ms:List Nd,A3 (A.wd=replicate (1+(Ke N).length) none++ms) (ms.length<=b) (∀x∈ms,x≠none))
theorem Gs.ext {a:Ag}{b k:Nat}(g:Gs N A b)(x:Ext A a k):Gs N a (b+k):=by erw[eE g.2 λc y=>(Qf a x.1 λns h=>(eA h λf e=>⟨g.1,c++ns,by show A.wd++ns=_;refine Er y.1 ?_;refine Er (Db ..) ?_;rfl,by refine Er (ua ..) ?_;exact Nat.add_le_add y.2 f,λz d=>(Oa d).elim (y.3 z) (e z)⟩))]
theorem Gs.len {b:Nat}(g:Gs N A b):A.wd.length<=1+(Ke N).length+b:=by obtain⟨a,y⟩:=g.2;erw[Er y.1 (Er ua (Er Bb (Gc y.2 _)))]
end
section
variable {H H' H0 : MH} {Q : MV → MH → Prop} {K : MF → List MV → MH → Prop} {g : Nat → Nat → Bool}
def HA (N:Nt)(k x:Nat):Prop:=x=0\/x=1\/x∈(Ke N).take k
def IA (N:Nt)(R:List Nat)(j x:Nat):Prop:=HA N (Ke N).length x\/∃(i:Nat)(b:Nat)(c:Cl),i<j/\R[i]?=some b/\N.cells[b]?=some c/\c.out=x
inductive Fz (N:Nt)(A:Ag)(ms:List Nat)(xs:List Nat):Prop
 |mk (lt:∀l∈ms,l/2<A.wd.length) (ev:∀u v,Rel N A u v->ms.map (lv v)=xs.map u) (ln:ms.length=xs.length)
inductive GE (N:Nt)(A:Ag):Prop
 |mk (gs:Gs N A (3*N.cells.length)) (fz:Fz N A A.outs (Qg N))
theorem Fz.nil:Fz N A [] []:=⟨λ_ h=>qd h Ea,λ_ _ _=>rfl,rfl⟩
theorem Fz.snoc (f:Fz N A ms xs)(c:l/2<A.wd.length)(b:∀u v,Rel N A u v->lv v l=u x):Fz N A (ms++[l]) (xs++[x]):=
 ⟨λz a=>(Oa a).elim (f.1 z) λh=>by refine Er (ia h) ?_;exact c,λu v h=>by exact Er Aa (Er Aa (Er (f.2 u v h) (Er xb (Er xb (Er (b u v h) rfl))))),by exact Er ua (Er ua (Er f.3 rfl))⟩
theorem Si (ok:Ai N):(Ke N).length<200:=by erw[ja ?_ ok.8];unfold Ke;erw[Er (length_cons ..) (Er (length_cons ..) (Er (ua ..) (Er (ua ..) (Er (aa ..) (Er (aa ..) ?_))))),haveI:=List.length_filter_le (λc:Cl=>te c.k) N.cells;?_,se 0xee12bbb02b31010 rfl this]
theorem ML (b:1<=n)(f:Fs H0 d p r rl N dom m A H)(a:dom x)(h:∀l,l/2<A.wd.length->(∀u v,Rel N A u v->lv v l=u x)->Q (iv l) H):Fd X n 30 [.ref p,iv x] H Q:=by erw[eE f.8 λc y=>?_];obtain⟨l,z⟩:=y.3 x a;erw[KL b y.1 z.1 (h l z.2 z.3)]
theorem NL {k s:Nat}{m:Nat}{o i w t z pl:MV}{dn:Nat}(D:1<=n)(f:Fs H0 dn p r rl N (HA N k) m A H)(E:m<1000)(b:(Ke N)[k]?=some s)(j:A.wd.length<1000)(q:A.wd=replicate (1+k) none)(hi:A.ins=range' 1 k)(C:A.outs=[])(h:∀c H',Fs H0 dn p r rl N (HA N (k+1)) (m+1) c H'->c.wd=replicate (1+(k+1)) none->c.ins=range' 1 (k+1)->c.outs=[]->K .next [.obj 0 d,.obj 1 dn,.ref p,iv s,pl,o,i,w,t,z] H'):Kd (Ce X n) bJ [.obj 0 d,.obj 1 dn,.ref p,iv s,pl,o,i,w,t,z] H K:=by
 have G:A.ins.length<1000:=by
  haveI:=yd b;rw[q,Bb]at j;erw[Er hi (Er La (ee 0x3e83ce0b33e83ce0ebb10 rfl j))]
 have e:A.wd.length=1+k:=Er q (Er Bb rfl);erw[[Ae,bJ],⟨f.2.Ei rfl,Fe.Kg rfl (SP D f.2 j G λI B F=>?_)⟩];haveI f1:Fs H0 dn p r rl N (HA N k) m {A with wd:=A.wd++[none],ins:=A.ins++[A.wd.length]} I:=by
  erw[f.step (B.more λx a=>?_) F rfl (by show _<=(A.wd++[none]).length;exact Er ua (jb _ _)) λu v h=>⟨h.1,h.2.pre,λi x s a b=>h.3 i x s (by refine Er (jc (yd a)) ?_;exact a) b⟩];rcases xa a with rfl|a
  ·erw[.head _]
  ·erw[Er (ia a) (.tail _ (.head _))]
 haveI hlen:(A.wd++[none]).length=A.wd.length+1:=ua;obtain⟨J,y⟩:=f1.put (x:=s) (l:=2*A.wd.length) (by show _<(A.wd++[none]).length;exact Er (Nat.mul_div_cancel_left _ akq) (Er hlen (Oc _))) λu v h=>by
  erw[Er Jv (h.3 k A.wd.length s ?_ b)];show(A.ins++[A.wd.length])[k]?=_;haveI:k=A.ins.length:=Er hi (Er La rfl);erw[Er this List.getElem?_concat_length]
 erw[[Ae],putD y.1 rfl (ja y.2 (ya E akq)) (h _ _ (y.3.weak (Qa _) λx a=>?_) ?_ ?_ C)]
 ·rcases a with a|a|a
  ·erw[.inr (.inl a)]
  ·erw[.inr (.inr (.inl a))]
  ·rw[Xd b]at a;erw[Or.elim (Oa a) (λa=>(.inr (.inr (.inr a)))) (λa=>(.inl (ia a)))]
 ·show A.wd++[none]=_;erw[Er q List.replicate_succ'.symm]
 ·show A.ins++[A.wd.length]=_;erw[Er hi (Er e (Er (List.range'_concat ..) (Er (Qb ..) rfl)))]
theorem OL (a:x∈0::1::(N.ins.flatMap (·.ns)++N.cells.map (·.out)))(h:∀(b:Nat)(c:Cl),N.cells[b]?=some c->te c.k=false->c.out=x->b∈R.take j):IA N R j x:=by
 rcases xa a with a|a
 ·erw[.inl (.inl a)]
 rcases xa a with a|a
 ·erw[.inl (.inr (.inl a))]
 rcases Oa a with a|a
 ·erw[.inl (.inr (.inr (Er Sa (Za (.inl a)))))]
 ·erw[Sd (Gb a) λc l o=>?_];subst o;obtain⟨b,m⟩:=Lb l;cases e:te c.k with
  |true=>exact .inl (.inr (.inr (Er Sa (Za (.inr (mem_map.mpr ⟨c,mem_filter.mpr ⟨l,e⟩,rfl⟩))))))|false=>
   erw[eE (Lb (h b c m e rfl)) λi d=>?_];haveI f:=yd d;rw[zb]at f;haveI n:=Ma f (qc _ _);rw[List.getElem?_take_of_lt n]at d;erw[.inr ⟨i,b,c,n,d,m,rfl⟩]
theorem Gs.small (g:Gs N A (3*j))(ok:Ai N)(a:j<=N.cells.length):A.wd.length<900:=by haveI d:=g.len;haveI c:=Si ok;haveI b:=ok.4;erw[oi 0x3843ce0b35a2ce3b303230c82ce1b10231d1ebb010 rfl d c a b]
theorem Rel.outs (h:Rel N {A with outs:=o} u v):Rel N A u v:=⟨h.1,h.2,h.3⟩
section
variable {dn:Nat}
theorem fQ (B:5<=n)(ok:Ai N)(j:c∈N.cells)(o:te c.k=false)(f:Fs H0 dn p r rl N dom m A H)(C:m<1000)(g:Gs N A (3*k))(i:k<N.cells.length)(w:H q=some (.list (ls.map iv)))(l:Fz N A ls c.ins)(z:A.outs=[])(h:∀b H',Fs H0 dn p r rl N (λy=>y=c.out\/dom y) (m+1) b H'->Gs N b (3*(k+1))->b.outs=[]->K .next [x0,.obj 1 dn,.ref p,x3,x4,.str c.k,iv c.out,.tup (c.ins.map iv),c.par,.ref q] H'):Kd (Ce X n) cJ [x0,.obj 1 dn,.ref p,x3,x4,.str c.k,iv c.out,.tup (c.ins.map iv),c.par,.ref q] H K:=by
 haveI a:=ok.5 c j o;haveI t:=g.small ok (Ib i);erw[[Ae,cJ],oe (ok.7 c j) (JL B f.2 (ya t akq) (Er l.3 a) w l.1 λx b H' e=>?_)];haveI ad:=e.2.ad;haveI f1:Fs H0 dn p r rl N dom m b H':=by
  erw[f.step (e.3.more λx d=>?_) e.1 (by unfold parts;exact Er ad.1 (Er ad.2.1 (Er ad.2.2.1 (Er ad.2.2.2.1 rfl)))) e.2.len.1 λu v h=>h.pre e.2];rcases xa d with rfl|d
  ·erw[.head _]
  ·erw[Er (ia d) (.tail _ (.tail _ (.tail _ (.head _))))]
 haveI s:c.k≠1:=λe=>by
  rw[e]at a;unfold Rg at a;simp only[show(1==3||1==7)=false from rfl,show(1==8||1==9||1==10||1==12)=false from rfl,show(1==2)=false from rfl,Bool.and_false]at a;exact(nomatch a)
 obtain⟨D,y⟩:=f1.put (x:=c.out) e.4 λu v h=>by
  simp only[e.5 v h.2,l.2 u v (h.pre e.2),h.1.3 c j o];unfold tabOf;erw[Er (Dc s) rfl]
 erw[putD y.1 rfl (ja y.2 (ya C akq)) (h _ _ y.3 (g.ext e.2) (ad.2.2.2.2.2.trans z))]
theorem PL {s:MV×MV×MV×MV×MV×MV}{x4:Nat}(J:5<=n)(ok:Ai N)(a:Md H0 d N)(C:Ord N R)(D:R[k]?=some b)(f:Fs H0 dn p r rl N (IA N R k) (2+(Ke N).length+k) A H)(g:Gs N A (3*k))(Y:A.outs=[])(h:∀(s:MV×MV×MV×MV×MV×MV) w H',Fs H0 dn p r rl N (IA N R (k+1)) (2+(Ke N).length+(k+1)) w H'->Gs N w (3*(k+1))->w.outs=[]->K .next [.obj 0 d,.obj 1 dn,.ref p,s.1,iv b,s.2.1,s.2.2.1,s.2.2.2.1,s.2.2.2.2.1,s.2.2.2.2.2] H'):Kd (Ce X n) dJ [.obj 0 d,.obj 1 dn,.ref p,s.1,iv b,s.2.1,s.2.2.1,s.2.2.2.1,s.2.2.2.2.1,s.2.2.2.2.2] H K:=by
 erw[Sd ((C.2 b).mp (Dd D)) λc m hk=>?_,have V:N.cells.length<1000:=ya ok.4 akq;?_,have M:k<N.cells.length:=Ma (yd D) (Jh C.1 λi t=>Wh ((C.2 i).mp t));?_,[Ae,dJ],(a.mono f.1).aC (Ve (v:=Yg c) (f.1 _ _ a.4) (by refine Er za ?_;exact Er m rfl) (Re V) ⟨rfl,?_⟩),[OS],⟨Vd rfl,λq W=>?_⟩,haveI fr:=f.free W;?_,Qd λB R2 hB hR=>(be (λz:MV=>[.obj 0 d,.obj 1 dn,.ref p,z,iv b,.str c.k,iv c.out,.tup (c.ins.map iv),c.par,.ref q]) (λi _ H'=>A2 (Fs H0 dn p r rl N (IA N R k) (2+(Ke N).length+k) A H') (∃j:List Nat,A2 (H' q=some (.list (j.map iv))) (Fz N A j (c.ins.take i)))) s.1 ⟨f.J9 fr,[],MH.sd,Fz.nil⟩ (λ_ _ _ _=>trivial) ?_ ?_)]
 ·intro i x z H3 K3 e Se O _ _;erw[hide λZz L=>?_];obtain⟨f3,j,y,u⟩:=Se;erw[L ?_];clear L;rw[za,Ha]at e;erw[Ef x e λx e=>(hB _ _ _ ?_),[NS],⟨fh y,ML (dm J) f3 (OL (ok.3 x (.inl ⟨c,Dd m,Dd e⟩)) λI G F o E=>C.3 k b I c G D m F o (Er E (Dd e))) λl Z U=>?_⟩,[]];have T:j.length<1000:=by
   erw[Er u.3 (Er zb ?_),ja (Nc _ _) (ya (ok.6 c (Dd m)) akq)]
  erw[eh y (Re T) (O _ _ ⟨f3.J9 fr,j++[l],(Er MH.sd (Er Aa rfl)),(Er (Xd e) (u.snoc Z U))⟩)]
 ·intro z H3 P;obtain⟨f3,j,y,u⟩:=P;rw[aa,Sa]at u;erw[hR _ _ (fQ J ok (Dd m) hk f3 (by haveI o:=Si ok;haveI h4:=ok.4;exact se 0x3e83ce1021cbbb35a2ce2b102e1b10c82ce0b10 rfl o M h4) g M y u Y λw H' f' g' S=>h (z,.str c.k,iv c.out,.tup (c.ins.map iv),c.par,.ref q) w H' (f'.weak (Qa _) λx e=>?_) g' S)];rcases e with e|⟨i,I,G,t,F,o,E⟩
  ·erw[.inr (.inl e)]
  ·rcases qb t with t|rfl
   ·erw[.inr (.inr ⟨i,I,G,t,F,o,E⟩)]
   ·obtain rfl:b=I:=oa (D.symm.trans F);obtain rfl:c=G:=oa (m.symm.trans o);erw[.inl E.symm]
theorem QL {R:List Nat}{s:MV×MV×MV×MV×MV×MV×MV}(o:3<=n)(ok:Ai N)(D:(Qg N).length<1000)(a:Md H0 d N)(J:Ord N R){m:Nat}(f:Fs H0 dn p r rl N (IA N R R.length) m A H)(g:Gs N A (3*N.cells.length))(P:A.outs=[])(h:∀F H',H0.le H'->Fe H' dn F->GE N F->Q (.obj 1 dn) H'):Kd (Ce X n) eJ [.obj 0 d,.obj 1 dn,.ref p,s.1,s.2.1,s.2.2.1,s.2.2.2.1,s.2.2.2.2.1,s.2.2.2.2.2.1,s.2.2.2.2.2.2] H λfl _ H'=>Q (Af fl) H':=by
 erw[[eJ],Qd λB R2 U T=>?_,[],⟨(a.mono f.1).Ei rfl,Ih rfl (DL (dm o) (a.mono f.1) D λz H1 M G C=>?_)⟩,have f1:=f.turn M G C;?_,[],ve C (be (λk:MV=>[.obj 0 d,.obj 1 dn,.ref p,k,s.2.1,s.2.2.1,s.2.2.2.1,s.2.2.2.2.1,s.2.2.2.2.2.1,s.2.2.2.2.2.2]) (λi _ H'=>∃A,A3 (Fs H0 dn p z ((Qg N).map iv) N (IA N R R.length) m A H') (Gs N A (3*N.cells.length)) (Fz N A A.outs ((Qg N).take i))) s.1 ⟨A,f1,g,by exact Er P Fz.nil⟩ (λ_ _ _ BG=>by obtain⟨_,x⟩:=BG;exact x.1.6) ?_ ?_)]
 ·intro i x k E K3 b Se I _ _;erw[eE Se λA3 y=>?_];haveI f3:=y.1;haveI g3:=y.2;haveI e:=y.3;rw[za,Ha]at b;erw[Ef x b λx b=>(U _ _ _ ?_)];haveI AZ:(∃c∈N.cells,x∈c.ins)\/(∃p∈N.outs,x∈p.ns):=by
   rcases Oa (Dd b)with h|h
   ·erw[.inr (List.mem_flatMap.mp h)]
   ·erw[Sd (List.mem_flatMap.mp h) λc t q=>(.inl ⟨c,(mem_filter.mp t).1,q⟩)]
  erw[[PS],⟨f3.2.Ei rfl,ML (dm o) f3 (OL (ok.3 x AZ) λW V t q _=>by exact Er Sa ((J.2 W).mpr ⟨V,t,q⟩)) λl S O=>?_⟩];haveI HE:A3.outs.length<1000:=by
   erw[Er e.3 (Er zb ?_),ja (Nc _ _) D]
  erw[Fe.Kg rfl (zL (dm o) f3.2 HE λH4 L Y=>?_),I _ H4 ⟨_,f3.step (L.more λx b=>(Er (ia b) (.tail _ (.tail _ (.head _))))) Y rfl (Qa _) λu v h=>h.outs,⟨g3.1,g3.2⟩,?_⟩]
  ·erw[Er (Xd b) ?_,haveI w:Fz N {A3 with outs:=A3.outs++[l]} A3.outs ((Qg N).take i):=⟨e.1,λu v h=>e.2 u v h.outs,e.3⟩;?_,w.snoc S λu v h=>O u v h.outs]
 ·intro k E Z;erw[eE Z λA3 j=>?_];haveI f3:=j.1;haveI g3:=j.2;haveI e:=j.3;rw[aa,Sa]at e;erw[T _ _ (h A3 E f3.1 f3.2 ⟨g3,e⟩)]
theorem SL {s:MV×MV×MV×MV×MV×MV×MV}(o:5<=n)(ok:Ai N)(I:(Qg N).length<1000)(a:Md H0 d N)(f:Fs H0 dn p r rl N (HA N (Ke N).length) (2+(Ke N).length) A H)(g:Gs N A 0)(G:A.outs=[])(h:∀l H',H0.le H'->Fe H' dn l->GE N l->Q (.obj 1 dn) H'):Kd (Ce X n) fJ [.obj 0 d,.obj 1 dn,.ref p,s.1,s.2.1,s.2.2.1,s.2.2.2.1,s.2.2.2.2.1,s.2.2.2.2.2.1,s.2.2.2.2.2.2] H λfl _ H'=>Q (Af fl) H':=by
 erw[[fJ],Qd λB Y O M=>(IL (dm o) (a.mono f.1) ok λz H1 R F v u j=>?_)];haveI f1:=f.turn F v u;have hle:R.length<=N.cells.length:=Jh j.1 λi J=>Wh ((j.2 i).mp J);erw[[],ve u (be (λc:MV×MV×MV×MV×MV×MV×MV=>[.obj 0 d,.obj 1 dn,.ref p,c.1,c.2.1,c.2.2.1,c.2.2.2.1,c.2.2.2.2.1,c.2.2.2.2.2.1,c.2.2.2.2.2.2]) (λi _ H'=>∃A,A3 (Fs H0 dn p z (R.map iv) N (IA N R i) (2+(Ke N).length+i) A H') (Gs N A (3*i)) (A.outs=[])) s ⟨A,f1.weak (Qa _) (λx k=>k.resolve_right λV=>by obtain⟨i,_,_,h,_⟩:=V;exact kc i h),g,G⟩ (λ_ _ _ E=>by obtain⟨_,x⟩:=E;exact x.1.6) ?_ ?_)]
 ·intro i x c W Z k U w _ _;erw[eE U λA3 q=>?_];haveI f3:=q.1;haveI g3:=q.2;haveI m:=q.3;rw[za,Ha]at k;erw[Ef x k λb L=>(O _ _ _ (PL (s:=(c.1,c.2.2.1,c.2.2.2.1,c.2.2.2.2.1,c.2.2.2.2.2.1,c.2.2.2.2.2.2)) (x4:=0) o ok a j L f3 g3 m λe l H' S P C=>w (e.1,iv b,e.2.1,e.2.2.1,e.2.2.2.1,e.2.2.2.2.1,e.2.2.2.2.2) H' ⟨l,S,P,C⟩))]
 ·intro c W T;erw[eE T λA3 t=>?_];haveI f3:=t.1;haveI g3:=t.2;haveI m:=t.3;rw[aa]at f3 g3;erw[M _ _ (QL (dm o) ok I a j f3 ⟨g3.1,?_⟩ m h),eE g3.2 λD y=>⟨D,y.1,Ba y.2 (Nat.mul_le_mul_left _ hle),y.3⟩]
theorem JA (c:6<=n)(ok:Ai N)(e:(Qg N).length<1000)(a:Md H0 d N)(h:∀dn f H',H0.le H'->Fe H' dn f->GE N f->Q (.obj 1 dn) H'):Fd X n 31 [.obj 0 d] H0 Q:=by
 erw[eE (Of c) λn S=>?_];subst S;erw[Ad rfl rfl ?_,[Ae,p31,iJ],λdn J=>?_,CE (by first|exact dn c|exact dm c|exact ee 0xe3e0b61c10 rfl c) ⟨_,MH.sd⟩ λH1 A T L I e2 e3 w=>⟨rfl,?_⟩];haveI M9:∀x∈parts A,H0 x=none:=λx b=>by
  rcases xa b with rfl|b
  ·exact(fresh w.1).2
  rcases xa b with rfl|b
  ·exact(fresh w.2.1).2
  rcases xa b with rfl|b
  ·exact(fresh w.2.2.1).2
  ·erw[Er (ia b) ((fresh w.2.2.2).2)]
 have F:H0.le H1:=T.le ((akr _).new J) λx b=>by exact Er (ia b) J
 erw[[Ae,gJ],⟨λk e=>?_,λp t=>?_⟩]
 ·rcases xa e with rfl|e
  ·rfl
  ·rcases xa e with rfl|e
   ·rfl
   ·cases e
 haveI D:=F.new (o:=.dict (Ue [.int 0,.int 1] [.int 0,.int 1] [])) t;have a2:=L.mono ((akr _).new (o:=.dict (Ue [.int 0,.int 1] [.int 0,.int 1] [])) t);obtain⟨kt,O⟩:=L.5;have FL:p≠A.pt:=(Gd O.1 t).symm;erw[Qd λB R2 W V=>?_,[],⟨(a.mono D).Ei rfl,Ih rfl (CA (by first|exact dn c|exact dm c|exact ee 0x21c3e0b61c10 rfl c) (a.mono D) (ya (Si ok) akq) λz H3 C m G=>?_)⟩];have f3:Fs H0 dn p z ((Ke N).map iv) N (HA N 0) (2+0) A H3:=by
  erw[eE a2.5 λk2 R=>⟨D.trans C,a2.mono C,M9,F.fresh t,FL,G,no4 (Gd a2.2 m).symm (Gd a2.3 m).symm (Gd a2.4 m).symm (Gd R.1 m).symm,_,C _ _ MH.sd,Qa _,λx b=>?_⟩];have j:∀l,l<2->l/2<A.wd.length:=λl U=>by exact Er I (Nat.div_lt_of_lt_mul (k:=1) U)
  rcases b with rfl|rfl|b
  ·exact⟨0,rfl,j 0 akq,λu v h=>(lv0 h.2.1).trans h.1.1.symm⟩
  ·exact⟨1,rfl,j 1 akq,λu v h=>(lv1 h.2.1).trans h.1.2.symm⟩
  ·simp only[Fb]at b;exact qd b Ea
 erw[[],ve G (be (λq:MV=>[.obj 0 d,.obj 1 dn,.ref p,q,.td,.td,.td,.td,.td,.td]) (λi _ H'=>∃A,A4 (Fs H0 dn p z ((Ke N).map iv) N (HA N i) (2+i) A H') (A.wd=replicate (1+i) none) (A.ins=range' 1 i) (A.outs=[])) .td ⟨A,f3,I,e2,e3⟩ (λ_ _ _ E=>by obtain⟨_,x⟩:=E;exact x.1.6) ?_ ?_)]
 ·intro i x q H4 K3 b Se P _ _;erw[eE Se λA4 r=>?_];haveI f4:=r.1;haveI g1:=r.2;haveI g2:=r.3;haveI g3:=r.4;rw[za,Ha]at b;erw[Ef x b λx b=>?_,have:=yd b;?_,haveI M:=Si ok;?_,W _ _ _ (NL (by first|exact dn c|exact dm c|exact ee 0xe3e0b61c10 rfl c) f4 (je 0x3e83ce021cbb3c82ce1b101e0b10 rfl this M) b (Er g1 (Er Bb (je 0x3e83ce0ebb3c82ce1b101e0b10 rfl this M))) g1 g2 g3 λf H' f' h1 Z Y=>P _ H' ⟨f,f',h1,Z,Y⟩)]
 ·intro q H4 fg;erw[eE fg λA4 y=>?_];haveI f4:=y.1;haveI g1:=y.2;haveI g2:=y.3;haveI g3:=y.4;rw[aa]at f4 g1 g2;erw[V _ _ (SL (s:=(q,_,_,_,_,_,_)) (by first|exact dn c|exact dm c|exact ee 0x51c3e0b61c10 rfl c) ok e a f4 ⟨g2,[],by exact Er g1 (Er (ib ..) rfl),Qa _,λ_ h=>qd h Ea⟩ g3 λf H'=>h dn f H')]
end
inductive Cv (ns:List Nd)(c:List Nat):Nat->Prop where
 |leaf {x:Nat} (h:x∈c):Cv ns c x
 |zero:Cv ns c 0
 |node {x l r:Nat} (h:ns[x]?=some (some (l,r))) (hl:Cv ns c (l/2)) (hr:Cv ns c (r/2)):Cv ns c x
theorem Cv.mono {ns:List Nd}{c e:List Nat}{x:Nat}(h:∀y∈c,y∈e)(v:Cv ns c x):Cv ns e x:=by
 induction v with
 |leaf d=>exact .leaf (h _ d)|zero=>exact .zero|node d _ _ b a=>exact .node d b a
inductive Yx (ns:List Nd)(k i:Nat)(c:List Nat):Prop
 |mk (cv:Cv ns c i) (len:c.length<=k) (lt:c=[i]\/∀x∈c,x<i)
theorem Yx.le {ns:List Nd}{k i x:Nat}{c:List Nat}(h:Yx ns k i c)(a:x∈c):x<=i:=by
 erw[Or.elim h.3 (λe=>?_) (λe=>(Ib (e x a)))]
 ·rw[e]at a;exact Ob (ia a)
inductive Rw (ns:List Nd)(k i:Nat)(cs:List (List Nat)):Prop
 |mk (len:cs.length<=4) (ok:∀c∈cs,Yx ns k i c) (tr:∃(j:Nat)(c:List Nat),cs[j]?=some c/\c.length<=1) (fst:(∃l r,ns[i]?=some (some (l,r)))->∃(c0:List Nat)(rs:List (List Nat)),A3 (cs=c0::rs) (c0.length<=2) (∀x∈c0,x<i))
section
variable {ns:List Nd}
inductive Mg (ns:List Nd)(H0:MH)(p k i b:Nat)(g:Prop)(H:MH):Prop
 |mk (le:H0.le H) (ms:∃ms:List (List Nat),A4 (H p=some (.list (ms.map tv))) (ms.length<=b) (∀c∈ms,A3 (Cv ns c i) (c.length<=k) (∀x∈c,x<i)) (g->∃c∈ms,c.length<=2))
theorem CZ (b:H p=some (.list vs))(c:vs.length<big)(h:∀a,H a=none->Q (.ref a) (H.set a (.list (vs.take m)))):Hj (.ref p) .none (.int m) H Q:=ue b ⟨c,Ua _,h⟩
theorem IE (Y:3<=n)(J:2<=k/\k<=3)(hm:1<=most/\most<=3)(hx:ns[node]?=some (some (l,r)))(hl:l/2<node)(hr:r/2<node)(L:Rw ns k (l/2) ls) (R:Rw ns k (r/2) rs) (h1:H pl=some (.list (ls.map tv))) (h2:H pr=some (.list (rs.map tv)))(h:∀q H' cs,H.le H'->H q=none->H' q=some (.list (cs.map tv))->Rw ns k node cs->Q (.ref q) H'):Fd X n 47 [iv node,.ref pl,.ref pr,iv k,iv most] H Q:=by
 erw[eE (Of Y) λn Zd=>?_];subst Zd;erw[vf L.3 λt a0 w M=>(vf R.3 λP b0 v R0=>(Ad rfl rfl ⟨Vd rfl,λp W=>?_⟩)),Qd λB R2 hB cg=>?_,[],ve (ge h1 W) (be (λs:MV×MV×MV=>[iv node,.ref pl,.ref pr,iv k,iv most,.ref p,s.1,s.2.1,s.2.2,.td]) (λi zz H'=>Mg ns H p k node (4*i) (t<i) H') (_,_,_) ⟨(akr H).new W,[],MH.sd,Qa _,λc b=>qd b Ea,λe=>qd e (kc _)⟩ (λzz zz zz y=>y.1 _ _ h1) ?_ ?_)]
 ·rintro i x s H3 K3 I f zd- -;rw[za,Ha]at I;obtain⟨c1,O,rfl⟩:=I;erw[hB _ _ _ (Qd λB3 R3 Dy oj=>?_),[],ve (f.1 _ _ h2) (be (λD:MV×MV=>[iv node,.ref pl,.ref pr,iv k,iv most,.ref p,tv c1,D.1,D.2,.td]) (λj zz H'=>Mg ns H p k node (4*i+j) (t<i\/(t=i/\P<j)) H') (_,_) (?_:Mg ns H p k node (4*i+0) (t<i\/(t=i/\P<0)) H3) (λzz zz zz y=>y.1 _ _ h2) ?_ ?_)]
  ·obtain⟨d,y⟩:=f.2;exact⟨f.1,d,y.1,y.2,y.3,λe=>y.4 (e.resolve_right λe=>kc _ e.2)⟩
  ·rintro j x D H4 K4 Rx g UL- -;rw[za,Ha]at Rx;obtain⟨N,u,rfl⟩:=Rx;have U:=L.2 c1 (Dd O);have T:=R.2 N (Dd u);haveI hi:=yd O;haveI hj:=yd u;haveI pW:=L.1;haveI JE:=R.1;erw[Dy _ _ _ ?_,[eT],tL (dn Y) (Ba U.2 J.2) (Ba T.2 J.2) λm H5 F Ar E=>(eE g.2 λd y=>?_)];haveI Z:d.length<1000:=by haveI:=y.2;exact jo 0x3e83ce0b341c4104e2b1041c3403e1b402141db010 rfl this hi pW hj JE
   erw[qe λR4 Qh=>?_,[]];by_cases S:k<m.length
   ·erw[Er (Ec S) (Dv MV.noConfusion ⟨λe=>(nomatch e),λzz=>Qh _ _ (UL (tv N,.none) H5 ⟨g.1.trans F,d,F _ _ y.1,Qc y.2,y.3,λe=>y.4 (e.imp id λe=>⟨e.1,?_⟩)⟩)⟩)];rcases qb e.2 with A|A
    ·erw[A]
    ·exfalso;erw[eA e λKk zz=>?_];subst Kk;subst A;obtain rfl:=oa (w.symm.trans O);obtain rfl:=oa (v.symm.trans u);erw[Nat.not_succ_le_zero _ (oi 0xfe3e310e21032b1101e0b10021c10 rfl J.1 S E M R0)]
   ·erw[Er (Dc S) (Dv MV.noConfusion ⟨λzz=>?_,λe=>(nomatch e)⟩),[dT],⟨fh (F _ _ y.1),eh (F _ _ y.1) (Re Z) (Qh _ _ (UL (tv N,tv m) _ ⟨(g.1.trans F).set W,d++[m],by refine Er MH.sd ?_;refine Er Aa ?_;rfl,by refine Er ua ?_;exact Wa y.2,λc b=>?_,λe=>?_⟩))⟩]
    ·rcases Oa b with b|b
     ·erw[y.3 c b]
     ·erw[Er (ia b) ⟨.node hx (U.1.mono λz o=>(Ar z).mpr (.inl o)) (T.1.mono λz o=>(Ar z).mpr (.inr o)),Nat.not_lt.mp S,λz o=>?_⟩,Or.elim ((Ar z).mp o) (λo=>(ja (U.le o) hl)) (λo=>(ja (T.le o) hr))]
    ·by_cases A:t<i\/(t=i/\P<j)
     ·erw[Sd (y.4 A) λc h3 h4=>⟨c,Za (.inl h3),h4⟩]
     ·have e3:t=i/\P=j:=have q:=e.resolve_left λq=>A (.inl q);⟨q.1,Ka (Cb q.2) (Nat.not_lt.mp λr=>A (.inr ⟨q.1,r⟩))⟩;erw[eA e3 λjZ Ki=>?_];subst jZ;subst Ki;obtain rfl:=oa (w.symm.trans O);obtain rfl:=oa (v.symm.trans u);exact⟨m,Za (.inr (.head _)),by exact se 0x21c03e210e11021b010 rfl E M R0⟩
  ·rintro D H4 g;rw[aa]at g;have g:=g;obtain⟨d,y⟩:=g.2;erw[oj _ _ (zd (tv c1,D.1,D.2) H4 ⟨g.1,d,y.1,Ba y.2 (Gc R.1 _),y.3,λe=>y.4 ?_⟩)];rcases qb e with e|e
   ·erw[.inl e]
   ·erw[.inr ⟨e,yd v⟩]
 ·rintro s H3 f;rw[aa]at f;have f:=f;erw[eE f.2 λd y=>(Sd (y.4 (yd w)) λN u ab5=>?_),have E:d.length<=16:=Ba y.2 (Nat.mul_le_mul_left 4 L.1);?_,cg _ _ ?_];clear hB cg;erw[[gT],RP (dn Y) y.1 (ee 0x3c2ce0b3102c010 rfl E) (λc b=>ja (Ba (y.3 c b).2 J.2) akq) λq ks H4 l4 V As hq dw=>(vf (V.2 (λe=>by rw[e]at u;exact qd u Ea)) λC a Kj ab6=>?_)];subst Kj;erw[[],have mZ:(List.map tv (C::a)).length<big:=Re (je 0x3e83ce0b3102c1101010 rfl As E);?_,CZ dw mZ λq2 rg=>?_,[fT],⟨fh MH.sd,Vd rfl,eh MH.sd (ja (by refine Er zb ?_;exact Nc _ _) mZ) ?_⟩,haveI G:=f.1.trans l4;?_,haveI N9:=G.fresh rg;?_,h q2 _ ((C::a).take most++[[node]]) ((G.new rg).set N9) N9 ?_ ⟨?_,λc b=>?_,⟨((C::a).take most).length,[node],List.getElem?_concat_length,Qa _⟩,λzz=>⟨C,a.take (most-1)++[[node]],?_,Ba (ab6 N u) ab5,(y.3 C (V.1 C (.head _))).3⟩⟩]
  ·refine Er MH.sd ?_;refine Er Aa ?_;refine Er List.map_take ?_;rfl
  ·refine Er ua ?_;refine Er zb ?_;haveI:min most (C::a).length<=most:=qc _ _;erw[Wa (Ba this hm.2)]
  ·rcases Oa b with b|b
   ·haveI z:=y.3 c (V.1 c (List.mem_of_mem_take b));exact⟨z.1,z.2,.inr z.3⟩
   ·erw[Er (ia b) ⟨.leaf (.head _),(show 1<=k from Ba akq J.1),.inl rfl⟩]
  ·erw[eE (⟨most-1,by exact Ka (je 0xe0b131e0b12 rfl (ta hm.1)) (Ob (ta hm.1))⟩:∃m',most=m'+1) λm' gk=>(Er gk ?_)];rfl
end
inductive Cs (A:Ag)(k:Nat)(H0:MH)(p m:Nat)(H:MH):Prop
 |mk (le:H0.le H) (rw:∃rs:List Nat,A3 (H p=some (.list (rs.map .ref))) (rs.length=m) (∀(i r:Nat),rs[i]?=some r->∃cs:List (List Nat),A3 (H r=some (.list (cs.map tv))) (Rw A.wd k i cs) (r≠p)))
theorem Cs.add (c:Cs A k H0 p m H)(l:H0 p=none)(n:m<1000)(j:H r=some (.list (cs.map tv)))(e:r≠p)(R:Rw A.wd k m cs):∃vs,A3 (H p=some (.list vs)) (vs.length<big) (Cs A k H0 p (m+1) (H.set p (.list (vs++[.ref r])))):=by
 erw[eE c.2 λb y=>⟨_,y.1,Re (Er y.2 n),c.1.set l,b++[r],by exact Er MH.sd (Er Aa rfl),by exact Er ua (Er y.2 rfl),λi f h=>?_⟩];rw[tc]at h;by_cases a:i<b.length
 ·rw[Ec a]at h;erw[eE (y.3 i f h) λd z=>⟨d,(MH.ud z.3).trans z.1,z.2,z.3⟩]
 ·rw[Dc a,Lc]at h;have h:=h;by_cases h0:i-b.length=0
  ·rw[Ec h0]at h;erw[Es (oa h) ?_];obtain rfl:i=m:=by haveI:=y.2;exact Ka (oi 0x323f0113111210b12 rfl (ta (uc a)) this h0) (se 0x21320101012 rfl this (uc a))
   exact⟨cs,(MH.ud e).trans j,R,e⟩
  ·rw[Dc h0]at h;exact(nomatch h)
theorem Cs.row (c:Cs A k H0 p m H)(hi:i<m):∃(r:Nat)(vs:List MV)(cs:List (List Nat)),A6 (H p=some (.list vs)) (vs[i]?=some (.ref r)) (vs.length=m) (H r=some (.list (cs.map tv))) (Rw A.wd k i cs) (r≠p):=by erw[eE c.2 λa y=>?_];haveI e:a[i]?=some (a[i]'(Er y.2 hi)):=wa _;obtain⟨cs,z⟩:=y.3 i _ e;exact⟨_,_,cs,y.1,by refine Er (za ..) ?_;exact Er e rfl,by exact Er (aa ..) (Er y.2 rfl),z.1,z.2,z.3⟩
theorem Cs.ne (c:Cs A k H0 p m H)(h:H a=none):a≠p:=by obtain⟨_,y⟩:=c.2;exact(Gd y.1 h).symm
theorem Cs.up (c:Cs A k H0 p m H)(h:H.le H'):Cs A k H0 p m H':=by erw[eE c.2 λa y=>⟨c.1.trans h,a,h _ _ y.1,y.2,λi r e=>by obtain⟨b,z⟩:=y.3 i r e;exact⟨b,h _ _ z.1,z.2,z.3⟩⟩]
theorem ab7 {m:Nat}{K:List MV->(MH->Prop)->Prop}(a:m<100000)(h:K ((range (m-1)).map λ(i:Nat)=>iv (i+1)) λ_=>True):Ff (.Il 1 m 1) H K:=by
 erw[.inl ⟨rfl,akq,akq,Ua _,by exact Int.lt_of_le_of_lt (b:=100000) (Lm 0x186a05c03186a05ce0b10 rfl (Nb a)) akq,?_⟩];haveI d:((m:Int)-1).toNat=m-1:=Int.toNat_sub m 1;haveI c:(λ(i:Nat)=>MV.int (1+(i:Int)))=λ(i:Nat)=>iv (i+1):=funext λi=>by exact Er (Int.add_comm ..) rfl
 erw[Er d (Er c h)]
theorem O9 {a b:Nat}(d:a<2^62)(c:b<2^62)(h:Q (.Il a b 1) H):Ii 8 [.int a,.int b] H Q:=⟨Hh d,Hh c,h⟩
theorem iQ {k f:Nat}(R:4<=n)(S:2<=k/\k<=3)(hm:1<=f/\f<=3)(a:Fe H d A)(m:A.wd.length<1000)(h:∀p H',H p=none->Cs A k H p A.wd.length H'->Q (.ref p) H'):Fd X n 48 [.obj 1 d,iv k,iv f] H Q:=by
 erw[eE (Of R) λn Zd=>?_];subst Zd;have Ej:=yd a.10;erw[Ad rfl rfl ?_,[Ae,p48,oT],⟨Vd rfl,Vd rfl,λr Y=>⟨Vd rfl,λp P=>?_⟩⟩];obtain⟨j,J⟩:=fresh P;haveI W:=(akr H).new (o:=.list [.tup []]) Y;have I:Cs A k H p 1 ((H.set r (.list [.tup []])).set p (.list [.ref r])):=by
  refine⟨W.new P,[r],MH.sd,rfl,λi r' h=>?_⟩
  match i,h with
  |0,h=>
   erw[Es (oa h) ⟨[[]],(MH.ud j.symm).trans MH.sd,⟨by show 1<=4;decide,λc G=>?_,⟨0,[],rfl,Ta _⟩,λBk=>by obtain⟨l,r,e⟩:=Bk;exact by have e:=a.10▸e;cases e⟩,j.symm⟩,Er (ia G) ⟨.zero,Ta _,.inr λx F=>qd F Ea⟩]
  |i+1,h=>exact nn h
 erw[[nT],Qd λB R2 hB cg=>?_,[],(a.mono I.1).aN (De (I.1 _ _ a.2) (Re m) ?_),Er (aa ..) (O9 (a:=1) akq (ya m akq) (ab7 (ya m akq) ?_)),be (λs:MV×MV=>[.obj 1 d,iv k,iv f,.ref p,s.1,s.2]) (λi _ H'=>Cs A k H p (i+1) H') (_,_) I (λ_ _ _ _=>trivial) ?_ ?_]
 ·rintro i x s U K3 F c L- -;erw[Ak x (Ud F) λD=>?_];obtain⟨nd,E⟩:∃nd,A.wd[i+1]?=some nd:=⟨_,wa (Nat.add_lt_of_lt_sub D)⟩;erw[hB _ _ _ ?_,[mT],(a.mono c.1).aN (Ve (v:=Sx nd) (k:=i+1) (c.1 _ _ a.2) (by refine Er za ?_;exact Er E rfl) (Re m) ?_),[lT],qe λR3 O=>?_];cases nd with
  |none=>
   erw[[Sx],ZK MV.noConfusion ⟨λ_=>?_,λe=>(nomatch e)⟩,eE c.2 λrs y=>?_,[iT],⟨fh y.1,Vd rfl,Vd rfl,λr3 w=>?_⟩]
   obtain⟨C,z⟩:=(c.up ((akr _).new (o:=.list [.tup [iv (i+1)]]) w)).add (cs:=[[i+1]]) J (se 0x3e83cee0bb33e83ce2b1021101e0b10 rfl D (Nat.sub_le _ _) m) MH.sd (c.ne w) ⟨by show 1<=4;decide,λc G=>by
    erw[Er (ia G) ?_]
    exact⟨.leaf (.head _),Ba (by show 1<=2;decide) S.1,.inl rfl⟩,⟨0,_,rfl,Qa _⟩,λXg=>by obtain⟨l,r,e⟩:=Xg;exact by have e:=E▸e;cases e⟩
   erw[[],eh z.1 z.2 (O _ _ (L (iv (i+1),.none) _ z.3))]
  |some j=>
   erw[eA (a.9 _ j.1 j.2 E) λN M=>(we (c.row N) λpl vl cl t=>(we (c.row M) λpq vr cr u=>?_))];haveI T:∀{C:List MV},C.length=i+1->C.length<big:=λh=>by exact Er h (ya (by exact se 0x3e83cee0bb33e83ce2b1021101e0b10 rfl D (Nat.sub_le _ _) m:i+1<1000) akq)
   erw[[Sx],ZK MV.noConfusion ⟨λe=>(nomatch e),λ_=>?_⟩,[jT],⟨fh t.1,Xe (k:=0) rfl (Vd rfl) ?_⟩,[],yk (b:=1) ?_];simp only[Nat.pow_one];erw[Ve t.1 t.2 (T t.3) (Xe (k:=1) rfl (Vd rfl) ?_),[],yk (b:=1) ?_];simp only[Nat.pow_one];erw[Ve u.1 u.2 (T u.3) ?_,[],IE (dn R) S hm E N M t.5 u.5 t.4 u.4 λq H4 cs V Z dw R4=>?_];obtain⟨C,z⟩:=(c.up V).add J (se 0x3e83cee0bb33e83ce2b1021101e0b10 rfl D (Nat.sub_le _ _) m) dw (c.ne Z) R4;erw[[],eh z.1 z.2 (O _ _ (L (iv (i+1),.tup [iv j.1,iv j.2]) _ z.3))]
 ·rintro s U c;rw[aa,Ca,ta Ej]at c;erw[cg _ _ (h p U J c)]
def dl (ks:List Nat):List (MV×MV):=ks.map λx=>(iv x,MV.bool true)
theorem Rt:∀{ks:List Nat},(ce (dl ks) (iv y)).isSome=ks.any (·==y):=by
 intro l
 induction l with
 |nil=>
  erw[rfl]
 |cons x ks a=>
  show(ce ((iv x,MV.bool true)::dl ks) (iv y)).isSome=_;erw[Er Jf (Er Ye (Er any_cons ?_))];cases x==y with
  |true=>rfl|false=>exact a
theorem VL (h:ce xd k=none):dput xd k v=xd++[(k,v)]:=by
 unfold dput;rw[Dc];intro a;erw[Sd (List.any_eq_true.mp a) λx c b=>?_];unfold ce at h;cases e:xd.find? (λp=>MV.beq p.1 k)with
 |none=>exact qd b (List.find?_eq_none.mp e x c)|some y=>have h:=e▸h;exact ns h
theorem Mv {x:Nat}{c:List Nat}:c.any (·==x)=true↔x∈c:=by erw[Er (propext List.any_eq_true) ⟨λd=>by obtain⟨y,b,a⟩:=d;exact by exact(ub a)▸b,λh=>⟨x,h,Pa x⟩⟩]
theorem WL {x:Nat}{c:List Nat}(h:c.any (·==x)=false):x∉c:=λm=>by rw[Mv.mpr m]at h;exact(nomatch h)
def Nr (c ks:List Nat)(y:Nat):Prop:=y∈c\/y∈ks\/y=0
inductive P9 (ns:List Nd)(c:List Nat)(node:Nat)(ks:List Nat):Prop
 |mk (nd:∀x∈ks,∃l r,A3 (ns[x]?=some (some (l,r))) (Nr c ks (l/2)) (Nr c ks (r/2))) (top:Nr c ks node) (P0:ks.Pairwise (·<=·)) (len:ks.length<=ns.length)
inductive Cw (ns:List Nd)(c:List Nat)(node:Nat)(ks ws:List Nat):Prop
 |mk (nd:∀x∈ks,∃l r,A3 (ns[x]?=some (some (l,r))) (Nr c ks (l/2)\/l/2∈ws) (Nr c ks (r/2)\/r/2∈ws)) (top:Nr c ks node\/node∈ws) (cv:∀x∈ws,Cv ns c x) (nn:ks.Nodup)
theorem Nr.up (h:Nr c ks y):Nr c (ks++[x]) y:=h.imp id λh=>h.imp (λh=>Za (.inl h)) id
theorem Cw.skip {ns:List Nd}{c ks ws:List Nat}{b x:Nat}(w:Cw ns c b ks (ws++[x]))(h:Nr c ks x):Cw ns c b ks ws:=by have f:∀y,Nr c ks y\/y∈ws++[x]->Nr c ks y\/y∈ws:=λy a=>a.elim .inl λa=>(Oa a).elim .inr λa=>.inl (Er (ia a) h);exact⟨λy a=>by obtain⟨l,r,z⟩:=w.1 y a;exact⟨l,r,z.1,f _ z.2,f _ z.3⟩,f _ w.2,λy a=>w.3 y (Za (.inl a)),w.4⟩
theorem Cw.take {ns:List Nd}{c ks ws:List Nat}{node x l r:Nat}(w:Cw ns c node ks (ws++[x]))(h:¬Nr c ks x)(k:ns[x]?=some (some (l,r))):Cw ns c node (ks++[x]) (ws++[l/2]++[r/2]):=by
 haveI q:x∈ks++[x]:=Za (.inr (.head _));have f:∀y,Nr c ks y\/y∈ws++[x]->Nr c (ks++[x]) y\/y∈ws++[l/2]++[r/2]:=λy d=>d.elim (λh=>.inl h.up) λd=>(Oa d).elim (λh=>.inr (Za (.inl (Za (.inl h))))) λd=>.inl (.inr (.inl (Er (ia d) q)));haveI j:l/2∈ws++[l/2]++[r/2]:=Za (.inl (Za (.inr (.head _))));haveI i:r/2∈ws++[l/2]++[r/2]:=Za (.inr (.head _));refine⟨λy d=>?_,f _ w.2,λy d=>?_,List.nodup_append.mpr ⟨w.4,List.nodup_cons.mpr ⟨Ea,List.nodup_nil⟩,λa t b s e=>h (.inr (.inl (Es (ia s) (Es e t))))⟩⟩
 ·rcases Oa d with d|d
  ·erw[kl (w.1 y d) λp o z=>⟨p,o,z.1,f _ z.2,f _ z.3⟩]
  ·erw[Er (ia d) ⟨l,r,k,.inr j,.inr i⟩]
 ·have A:=w.3 x (Za (.inr (.head _)));have n:Cv ns c (l/2)/\Cv ns c (r/2):=by
   cases A with
   |leaf hm=>exact qd (.inl hm) h|zero=>exact qd (.inr (.inr rfl)) h|node m v u=>
    rw[k]at m;haveI e:=Prod.mk.inj (oa (oa m));erw[Er e.1 (Er e.2 ⟨v,u⟩)]
  rcases Oa d with d|d
  ·rcases Oa d with d|d
   ·erw[w.3 y (Za (.inl d))]
   ·erw[Er (ia d) n.1]
  ·erw[Er (ia d) n.2]
theorem Cw.DZ {ns:List Nd}{c ks ws:List Nat}{node x:Nat}(w:Cw ns c node ks (ws++[x]))(h:¬Nr c ks x):∃l r,ns[x]?=some (some (l,r)):=by
 cases w.3 x (Za (.inr (.head _)))with
 |leaf hm=>exact qd (.inl hm) h|zero=>exact qd (.inr (.inr rfl)) h|node a d b=>exact⟨_,_,a⟩
theorem Cw.len {ns:List Nd}{c ks ws:List Nat}{a:Nat}(w:Cw ns c a ks ws):ks.length<=ns.length:=Jh w.4 λx b=>by obtain⟨_,_,z⟩:=w.1 x b;exact yd z.1
theorem Cw.fin {ns:List Nd}{c ks b:List Nat}{a:Nat}(w:Cw ns c a ks [])(h:∀x,x∈b↔x∈ks)(i:b.Pairwise (·<=·))(j:b.length=ks.length):P9 ns c a b:=by have f:∀y,Nr c ks y\/y∈([]:List Nat)->Nr c b y:=λy d=>(d.resolve_right Ea).imp id λk=>k.imp (h y).mpr id;exact⟨λx e=>by obtain⟨l,r,z⟩:=w.1 x ((h x).mp e);exact⟨l,r,z.1,f _ z.2,f _ z.3⟩,f _ w.2,i,by exact Er j w.len⟩
theorem Tt {ks:List Nat}{c:List Int}(f:c.Perm (ks.map λ(i:Nat)=>(i:Int)))(m:c.Pairwise (·<=·)):∃j:List Nat,A4 (c.map MV.int=j.map iv) (∀x,x∈j↔x∈ks) (j.Pairwise (·<=·)) (j.length=ks.length):=by
 haveI e:c=(c.map Int.toNat).map λ(i:Nat)=>(i:Int):=by
  erw[Er map_map ((List.map_id' c).symm.trans (List.map_congr_left λx d=>?_)),Ef x (Gb (f.mem_iff.mp d)) λy zz=>?_];rfl
 refine⟨c.map Int.toNat,((Fc (List.map MV.int) e).trans map_map),λx=>?_,(List.Pairwise.map _ (λa b h=>Int.toNat_le_toNat h) m),by exact Er (aa ..) (Er (f.length_eq ..) (Er (aa ..) rfl))⟩
 ·constructor
  ·intro d;erw[Ef x (Gb d) λy l=>(Ef y (Gb (f.mem_iff.mp l)) λz k=>k)]
  ·intro d;erw[mem_map.mpr ⟨x,f.mem_iff.mpr (mem_map.mpr ⟨x,d,rfl⟩),rfl⟩]
theorem Q9 {p:Nat}{b:List (MV×MV)}{ns:List Int}(e:H p=some (.dict b))(i:gf (b.map (·.1))=some ns)(f:ns.length<60)(h:∀c:List Int,c.Perm ns->c.Pairwise (·<=·)->∀a,H a=none->Q (.ref a) (H.set a (.list (c.map .int)))):Ii 4 [.ref p] H Q:=
 sf (show((H p).bind λo=>match o with|.list d=>gf d|.dict b=>gf (b.map (·.1))|.ns _=>none)=some ns by exact Er e i) ⟨f,h⟩
theorem KE:gf ((dl ks).map (·.1))=some (ks.map λ(i:Nat)=>(i:Int)):=by unfold dl;erw[Er map_map aq]
inductive Cq (A:Ag)(H0:MH)(c:List Nat)(node p q:Nat)(ks ws:List Nat)(H:MH):Prop
 |mk (le:H0.le H) (hp:H p=some (.dict (dl ks))) (hq:H q=some (.list (ws.map iv))) (cw:Cw A.wd c node ks ws) (lw:ws.length<=ks.length+1)
theorem jQ {f:Nat}{c:List Nat}(hn:1<=n)(a:Fe H d A)(w:A.wd.length<60)(hc:c.length<1000)(hv:Cv A.wd c f)(h:∀q H' ks,H.le H'->H' q=some (.list (ks.map iv))->P9 A.wd c f ks->Q (.ref q) H'):Fd X n 49 [.obj 1 d,iv f,tv c] H Q:=by
 erw[Xh n (Of hn) λn=>(Ad rfl rfl ?_),[Ae,p49,rJ],⟨λk hk=>qd hk Ea,λp O=>?_⟩,[Ae,qJ],⟨Vd rfl,λq m=>?_⟩];obtain⟨t,m⟩:=fresh m;haveI c0:Cq A H c f p q [] [f] ((H.set p (.dict (Ue [] [] []))).set q (.list [.int f])):=
  ⟨((akr H).new O).set m,(MH.ud t.symm).trans MH.sd,MH.sd,⟨λx I=>qd I Ea,.inr (.head _),λx I=>by refine Er (ia I) ?_;exact hv,List.nodup_nil⟩,Qa _⟩
 erw[wL (λs:MV×MV=>[.obj 1 d,iv f,tv c,.ref p,.ref q,s.1,s.2]) (λg zz H'=>∃ks j,A2 (Cq A H c f p q ks j H') (g=3*(A.wd.length-ks.length)+j.length)) (3*A.wd.length+1) (_,_) ⟨[],[f],c0,rfl⟩ ?_,λg s o K2 E N U _=>?_,hide λZz W=>?_];obtain⟨ks,j,y,rfl⟩:=E;erw[W ?_];clear W;have C:=y.4.len;have XL:(j.map iv).length<big:=Re (by haveI:=y.5;exact se 0x3e83ce0b33c2ce2b102110e1b010 rfl this C w);erw[[],De y.3 XL (Er (aa ..) ⟨λe=>?_,λe=>?_⟩)]
 ·haveI Z:=tE (a:=0) e;erw[kl (⟨j.dropLast,j.getLast (λe=>by rw[e]at Z;exact Ic 0 Z),(List.dropLast_concat_getLast _).symm⟩:∃i x,j=i++[x]) λi x Kj=>?_];subst Kj;rw[ua]at N U;haveI lw:=y.5;rw[ua]at lw;have lw:=lw;have u:i.length+1<1000:=ja lw (je 0x3e83cee0bb33c2ce1b101010 rfl C w);haveI G:=y.3;rw[Aa]at G;erw[[tT],⟨aby G,abx G (Er (aa ..) (ya (u) akq)) ?_⟩];have D:(o.set q (.list (i.map iv))) p=some (.dict (dl ks)):=(MH.ud t.symm).trans y.2;haveI R:Nr c ks x->Cq A H c f p q ks i (o.set q (.list (i.map iv))):=λJ=>⟨y.1.set m,D,MH.sd,y.4.skip J,Ba (Nat.le_of_succ_le lw) (Qa _)⟩
  have t0:Nr c ks x->K2 .cont [.obj 1 d,iv f,tv c,.ref p,.ref q,iv x,s.2] (o.set q (.list (i.map iv))):=λJ=>U _ (iv x,s.2) _ (Oc _) ⟨ks,i,R J,rfl⟩;erw[qe λR3 oj=>YM ?_,[],abw mA ⟨λM=>⟨λzz=>t0 (.inl (Mv.mp M)),λe=>(nomatch e)⟩,λM=>HP D rfl ?_⟩,Er Rt ?_,[],⟨λB=>⟨λzz=>t0 (.inr (.inl (Mv.mp B))),λe=>(by rw[B]at e;exact(nomatch e))⟩,λB=>?_⟩,⟨λL=>t0 (.inr (.inr (zk (b:=0) L))),λL=>oj _ _ ?_⟩];have S:¬Nr c ks x:=λh=>h.elim (WL M) λh=>h.elim (WL B) (Am (b:=0) L);erw[kl (y.4.DZ S) λl r T=>?_];haveI P:=y.4.take S T;haveI V:=P.len;rw[ua]at V;clear t0 R;have F:H.le (o.set q (.list (i.map iv))):=y.1.set m;haveI zs:(o.set q (.list (i.map iv))) q=some (.list (i.map iv)):=MH.sd;generalize o.set q (.list (i.map iv))=H3 at D F zs⊢;erw[[sT],(a.mono F).aN (Ve (v:=Sx (some (l,r))) (F _ _ a.2) (by refine Er (za ..) ?_;exact Er T rfl) (Re (ya w akq)) ?_),qe λR4 Qh=>?_,[Sx],ZK MV.noConfusion ⟨λe=>(nomatch e),λzz=>Qh _ _ ?_⟩,[rT]];haveI bN:ce (dl ks) (iv x)=none:=by
   haveI:=Rt (y:=x) (ks:=ks);rw[B]at this;cases hd:ce (dl ks) (iv x)with
   |none=>rfl|some v=>rw[hd]at this;exact(nomatch this)
  erw[putD D rfl (by unfold dl;exact Er (aa ..) (ya (by exact je 0x3e83ce0b33c2ce1b101010 rfl C w:ks.length<1000) akq)) (Er (VL bN) ?_)];haveI E:(H3.set p (.dict (dl ks++[(iv x,.bool true)]))) q=some (.list (i.map iv)):=(MH.ud t).trans zs;haveI Y:∀{z:List MV},z.length<=i.length+1->z.length<big:=λh=>ja h (ya u akq);erw[[qT],⟨fh E,Xe (k:=0) rfl (Vd rfl) (yk (b:=1) ?_)⟩,Er (Nat.pow_one ..) (eh E (Y (Er (aa ..) (Nat.le_succ _))) ?_),[pT],⟨fh MH.sd,Xe (k:=1) rfl (Vd rfl) (yk (b:=1) ?_)⟩,Er (Nat.pow_one ..) (eh MH.sd (Y (Er (ua ..) (Er (aa ..) (Qa _)))) ?_),N (3*(A.wd.length-(ks++[x]).length)+(i++[l/2]++[r/2]).length) (iv x,.tup [iv l,iv r]) _ ?_ ⟨ks++[x],i++[l/2]++[r/2],⟨((F.set O).set m).set m,?_,(Er (MH.sd ..) (Er (Aa ..) (Er (Aa ..) rfl))),P,?_⟩,rfl⟩]
  ·erw[Er (ua ..) (Er (ua ..) (Er (ua ..) ?_))];show _+(i.length+1+1)<_+(i.length+1);haveI:(ks++[x]).length=ks.length+1:=ua;haveI:[x].length=1:=rfl;erw[pN 0xe5b431dbeee5bb031dbb3e222314b32321b0b31 rfl (ta V) (ta C) this]
  ·erw[Er (MH.ud t.symm) (Er (MH.ud t.symm) (Er (MH.sd ..) ?_))];unfold dl;erw[Er (Aa ..) rfl]
  ·erw[Er (ua ..) (Er (ua ..) (Er (ua ..) ?_)),Wa lw]
 ·have h0:j.length=0:=Nat.eq_zero_of_le_zero (fC (a:=0) e);obtain rfl:=List.eq_nil_of_length_eq_zero h0;erw[[uT],Q9 y.2 KE (Er (aa ..) (je 0x3c2ce0b33c2ce1b101010 rfl C w)) λms mW O1 r hr=>?_];obtain⟨GF,z⟩:=Tt mW O1;erw[Er z.1 (h r _ GF (y.1.new hr) MH.sd (y.4.fin z.2 z.3 z.4))]
def EZ (v:Va)(c:List Nat):Nat:=ze (c.map v)
theorem Qn:∀bs:List Bool,ze bs<2^bs.length:=by
 intro l
 induction l with
 |nil=>
  erw[Nat.one_pos]
 |cons b r a=>
  have:=a;show b.toNat+2*ze r<2^(r.length+1);haveI c:b.toNat<=1:=by cases b<;>decide
  rw[Nat.pow_succ,Nat.mul_comm (2^r.length)];exact se 0x221de121d0bb32e1b20e010 rfl c this
theorem YL (b:Bool)(x:Nat):(b.toNat+2*x)/2=x:=by
 cases b with
 |false=>exact(Fc (·/2) (bc _)).trans (Nat.mul_div_cancel_left _ akq)|true=>exact(Nat.add_mul_div_left 1 x akq).trans (bc _)
theorem Dr:∀(bs:List Bool)(i:Nat)(b:Bool),bs[i]?=some b->(ze bs).testBit i=b:=by
 intro l
 induction l with
 |nil=>
  intros;first|contradiction|(exfalso;simp_all;done)
 |cons b r d=>
  intro c a h;cases c with
  |zero=>
   obtain rfl:=oa h;show(b.toNat+2*ze r).testBit 0=b;erw[Er (Nat.testBit_zero ..) ?_];cases b
   ·show decide ((0+2*ze r)%2=1)=false;erw[decide_eq_false (by rw[bc,Nat.mul_mod_right];decide)]
   ·show decide ((1+2*ze r)%2=1)=true;erw[Pb (Nat.add_mul_mod_self_left 1 2 _)]
  |succ i=>
   show(b.toNat+2*ze r).testBit (i+1)=a;erw[Er (Nat.testBit_succ ..) (Er (YL ..) ?_),d i a h]
theorem KA:EZ v c<2^c.length:=by haveI:=Qn (c.map v);rwa[aa]at this
theorem Nv (h:c[i]?=some x):(EZ v c).testBit i=v x:=Dr _ i _ (by refine Er za ?_;exact Er h rfl)
inductive VT (ns:List Nd)(c:List Nat)(x T:Nat):Prop
 |mk (lt:T<2^2^c.length) (at':∀v,Ri ns v->T.testBit (EZ v c)=v x)
theorem ZL:∀k:Nat,k<4->∀i:Nat,i<k->lr i k<2^2^k/\∀r:Nat,r<2^k->(lr i k).testBit r=r.testBit i:=by decide+kernel
theorem VT.var {ns:List Nd}{c:List Nat}{i x:Nat}(b:c.length<=3)(a:c[i]?=some x):VT ns c x (lr i c.length):=by haveI f:=ZL c.length (Nat.lt_succ_of_le b) i (yd a);exact⟨f.1,λv zz=>by exact Er (f.2 _ KA) (Er (Nv a) rfl)⟩
theorem VT.zero {ns:List Nd}{c:List Nat}:VT ns c 0 0:=⟨Ub _,λv h=>by exact Er (Nat.zero_testBit ..) (Er h.1 rfl)⟩
inductive LT (ns:List Nd)(c:List Nat)(l T:Nat):Prop
 |mk (lt:T<2^2^c.length) (at':∀v,Ri ns v->T.testBit (EZ v c)=lv v l)
theorem VT.pos {ns:List Nd}{c:List Nat}{l T:Nat}(h:VT ns c (l/2) T)(e:l&&&1≠1):LT ns c l T:=⟨h.1,λv a=>by
 rw[AA]at e;unfold lv
 exact Er (h.2 v a) (Er (decide_eq_false e) (Er (Bool.xor_false ..) rfl))⟩
theorem VT.neg {ns:List Nd}{c:List Nat}{l T:Nat}(h:VT ns c (l/2) T)(e:l&&&1=1):LT ns c l (T^^^Uh c.length):=by refine⟨Nat.xor_lt_two_pow h.1 (Nat.sub_one_lt (Nat.pos_iff_ne_zero.mp (Ub _))),λv a=>?_⟩;rw[AA]at e;delta Uh lv;erw[Er (Nat.testBit_xor ..) (Er (h.2 v a) (Er (Nat.testBit_two_pow_sub_one ..) (Er (Pb KA) (Er (Pb e) rfl))))]
theorem LT.and {ns:List Nd}{c:List Nat}{x l r S T:Nat}(e:LT ns c l S)(b:LT ns c r T)(d:ns[x]?=some (some (l,r))):VT ns c x (S&&&T):=
 ⟨Nat.and_lt_two_pow _ b.1,λv a=>by exact Er (Nat.testBit_and ..) (Er (e.2 v a) (Er (b.2 v a) ((a.2 x l r d).symm)))⟩
inductive DV (ns:List Nd)(c:List Nat)(H0:MH)(p m:Nat)(dom:Nat->Prop)(H:MH):Prop
 |mk (le:H0.le H) (dv:∃xd,A3 (H p=some (.dict xd)) (xd.length<=m) (∀x,dom x->∃T,A2 (ce xd (iv x)=some (iv T)) (VT ns c x T)))
theorem DV.put {ns:List Nd}{c:List Nat}{p m x T:Nat}{dom:Nat->Prop}(f:DV ns c H0 p m dom H)(d:H0 p=none)(i:VT ns c x T):∃a,A3 (H p=some (.dict a)) (a.length<=m) (DV ns c H0 p (m+1) (λy=>y=x\/dom y) (H.set p (.dict (dput a (iv x) (iv T))))):=by
 erw[Zb (f.2) λa y=>⟨a,y.1,y.2,f.1.set d,_,MH.sd,Ba xf (Wa y.2),λz b=>?_⟩,Er ie (Er Ye ?_)];by_cases e:(x==z)=true
 ·erw[Er (Ec e) (Es (ub e) ⟨T,rfl,i⟩)]
 ·erw[Er (Dc e) (y.3 z (b.resolve_left λh=>e (Er h (Pa x))))]
theorem DV.weak {ns:List Nd}{c:List Nat}{p m m':Nat}{dom a:Nat->Prop}(f:DV ns c H0 p m dom H)(d:m<=m')(h:∀x,a x->dom x):DV ns c H0 p m' a H:=
 by obtain⟨k,y⟩:=f.2;exact⟨f.1,k,y.1,Ba y.2 d,λx b=>y.3 x (h x b)⟩
theorem Zx {ns:List Nd}{c:List Nat}{p m l:Nat}{dom:Nat->Prop}(d:1<=n)(f:DV ns c H0 p m dom H)(i:dom (l/2))(h:∀T,LT ns c l T->Q (iv T) H):Fd X n 50 [.ref p,iv l,iv (Uh c.length)] H Q:=by
 erw[eE (Of d) λn j=>(Er j ?_)];obtain⟨k,y⟩:=f.2;erw[eE (y.3 _ i) λT z=>(Ad rfl rfl ?_),[Ae,p50,xT],yk (b:=1) (Er (Nat.pow_one ..) (Ll y.1 rfl z.1 (qe λo a=>?_))),[],Tj (b:=1) ⟨λe=>?_,λe=>a _ _ ?_⟩]
 ·erw[[vT],Zi (h _ (z.2.neg (zk (b:=1) e)))]
 ·erw[[wT],h T (z.2.pos (Am (b:=1) e))]
theorem LE {c:List Nat}(D:3<=n)(a:Fe H d A)(P:A.wd.length<60)(t:c.length<=3)(hv:Cv A.wd c node)(h:∀T H',H.le H'->VT A.wd c node T->Q (iv T) H'):Fd X n 51 [.obj 1 d,iv node,tv c] H Q:=by
 erw[eE (Of D) λn ji=>?_];subst ji;haveI EE:(c.map iv).length<big:=Re (ja t akq);erw[Ad rfl rfl ?_,[Ae,p51,FT],⟨EE,?_⟩,Er (aa ..) ?_,[Ae,ET],Fv (dn D) t ?_,[Ae,DT],⟨λk hk=>by exact Er (ia hk) rfl,λp V=>?_⟩]
 haveI d0:DV A.wd c H p 1 (λy=>y=0\/y∈c.take 0) (H.set p (.dict (Ue [.int 0] [.int 0] []))):=⟨(akr H).new V,_,MH.sd,Qa _,λx b=>by
  obtain rfl:=b.resolve_right (by simp only[Fb];exact Ea)
  exact⟨0,rfl,VT.zero⟩⟩
 erw[Qd λB R2 G J=>?_,[],Rf (ja t akq) (Ze (ja t akq) ?_),be (λs:MV=>[.obj 1 d,iv node,tv c,iv c.length,iv (Uh c.length),.ref p,s,.td,.td]) (λi zz H'=>DV A.wd c H p (1+i) (λy=>y=0\/y∈c.take i) H') _ d0 (λzz zz zz zz=>trivial) ?_ ?_]
 ·rintro i x s H3 K3 b f M- -;erw[Ak x (Ud b) λW=>?_];obtain⟨x,b⟩:∃x,c[i]?=some x:=⟨_,wa W⟩;erw[G _ _ _ ?_,[yT],lA (dn D) (Ma W t) t (Zb (f.put V (VT.var t b)) λE y=>?_),[],Xe (yf b) EE (putD y.1 rfl (ja y.2 (ya (by exact je 0x402ce0ebb331c1101e0b10 rfl W t:1+i<64) akq)) (M _ _ (y.3.weak (Qa _) λz u=>?_)))];rw[Xd b,mem_append,mem_singleton]at u;rcases u with u|u|u
  ·erw[.inr (.inl u)]
  ·erw[.inr (.inr u)]
  ·erw[.inl u]
 ·rintro s H3 f;haveI f:=(Sa ..)▸(Ca ..)▸(aa ..)▸f;have f:=f;erw[J _ _ ?_];clear G J;erw[Qd λB R2 G J=>(jQ (dn D) (a.mono f.1) P (ja t akq) hv λq H4 C Z R I=>?_)];have f4:DV A.wd c H p (1+c.length+0) (λy=>y=0\/y∈c\/y∈C.take 0) H4:=by
   erw[eE f.2 λE y=>⟨f.1.trans Z,E,Z _ _ y.1,y.2,λx b=>y.3 x (b.imp id λh=>h.resolve_right (by simp only[Fb];exact Ea))⟩]
  have U:p≠q:=by
   erw[eE f4.2 λE y=>(Le y.1 R)]
  erw[[],ve R (be (λF:MV×MV=>[.obj 1 d,iv node,tv c,iv c.length,iv (Uh c.length),.ref p,s,F.1,F.2]) (λj zz H'=>A2 (DV A.wd c H p (1+c.length+j) (λy=>y=0\/y∈c\/y∈C.take j) H') (H' q=some (.list (C.map iv)))) (_,_) ⟨f4,R⟩ (λzz zz zz y=>y.2) ?_ ?_)]
  ·intro j x F H5 K5 Rx Se M _ _;haveI m:=Se.1;haveI M':=Se.2;rw[za,Ha]at Rx;erw[Ef x Rx λx b=>(kl (I.1 x (Dd b)) λl r z=>?_)];haveI Y:=z.1;haveI wf:=a.9 x l r Y;have ch:∀y,y<x->Nr c C y->y=0\/y∈c\/y∈C.take j:=λy O h=>by
    rcases h with h|h|h
    ·erw[.inr (.inl h)]
    ·erw[.inr (.inr ?_),eE (Lb h) λN L=>?_];by_cases jg:N<j
     ·erw[Eb (i:=N) (by refine Er (List.getElem?_take_of_lt jg) ?_;exact L)]
     ·exfalso;have h1:=yd L;haveI h2:=yd b;erw[Or.elim (Nat.eq_or_lt_of_le (Nat.not_lt.mp jg)) (λe=>?_) (λe=>?_)]
      ·rw[e]at b;rw[oa (L.symm.trans b)]at O;erw[Ic _ O]
      ·haveI:=List.pairwise_iff_getElem.mp I.3 j N h2 h1 e;rw[(Fa b).2,(Fa L).2]at this;erw[qd O (rc this)]
    ·erw[.inl h]
   haveI As:C.length<60:=ja I.4 P;erw[G _ _ _ ?_,[AT],(a.mono m.1).aN (Ve (v:=Sx (some (l,r))) (m.1 _ _ a.2) (by refine Er za ?_;exact Er Y rfl) (Re (ya P akq)) ?_),[zT,Sx],Xe (k:=0) rfl (Vd rfl) ?_,[],Zx (dn D) m (ch _ wf.1 z.2) λS hS=>?_,[],Xe (k:=1) rfl (Vd rfl) ?_,[],Zx (dn D) m (ch _ wf.2 z.3) λT hT=>(eE (m.put V (hS.and hT Y)) λE y=>?_),haveI hj:=yd b;?_,[],Tj (putD y.1 rfl (ja y.2 (ya (by exact se 0x3e83ce10ebbb33c2ce2b102e1b1031c010 rfl t hj As:1+c.length+j<1000) akq)) (M (iv x,.tup [iv l,iv r]) _ ⟨y.3.weak (Qa _) λw o=>?_,(MH.ud U.symm).trans M'⟩))];rw[Xd b,mem_append,mem_singleton]at o;rcases o with o|o|o|o
   ·erw[.inr (.inl o)]
   ·erw[.inr (.inr (.inl o))]
   ·erw[.inr (.inr (.inr o))]
   ·erw[.inl o]
  ·intro F H5 Zd;haveI m:=Zd.1;haveI m:=(Sa ..)▸(aa ..)▸m;have m:=m;obtain⟨E,y⟩:=m.2;obtain⟨T,z⟩:=y.3 node (I.2.elim (λh=>.inr (.inl h)) λh=>h.elim (λh=>.inr (.inr h)) .inl);erw[J _ _ ?_,[CT],Ll y.1 rfl z.1 (h T H5 m.1 z.2)]
theorem aM (i:1<=n)(hd:∃f,H d=some (.ns f))(h:∀g H',Off [d] H H'->H' d=some (.ns g)->g 34=.str a->g 40=iv b->g 36=iv c->g 41=iv e->Q .none H'):Fd X n 52 [.obj 2 d,.str a,iv b,iv c,iv e,iv f] H Q:=by erw[Xh n (Of i) λn=>?_];obtain⟨g,hd⟩:=hd;erw[Ad rfl rfl ?_,[Ae,p52,KT],Pi hd ?_,[Ae,JT],Pi MH.sd ?_,[Ae,IT],Pi MH.sd ?_,[Ae,HT],Pi MH.sd ?_,[Ae,GT],Pi MH.sd ?_,[Ae],h _ _ (((((aku.set (.head _)).set (.head _)).set (.head _)).set (.head _)).set (.head _)) MH.sd rfl rfl rfl rfl]
def FZ (r:Nat×Nat×Nat×Nat×Nat):MV:=.tup [.str r.1,iv r.2.1,iv r.2.2.1,iv r.2.2.2.1,iv r.2.2.2.2]
theorem GZ (z:2<=n)(h:∀p vs H',H.le H'->rf H' p vs->Q (.ref p) H'):Fd X n 53 [] H Q:=by
 obtain⟨n,rfl⟩:=Of z;haveI key:∀Q,(Kd (Ce X n) sJ [.tup (nZ.map FZ),.td,.td,.td,.td,.td,.td] H Q)->Kd (Ce X n) QT [.td,.td,.td,.td,.td,.td,.td] H Q:=λQ h=>by
  exact⟨Vd rfl,Vd rfl,Vd rfl,Vd rfl,Vd rfl,Vd rfl,Vd rfl,Vd rfl,Vd rfl,Vd rfl,Vd rfl,Vd rfl,Vd rfl,Vd rfl,h⟩
 erw[Ad rfl rfl (key _ ?_),[sJ],⟨Vd rfl,λp y=>?_⟩,[OT],Qd λB R2 J U=>?_,[],be (λs:MV×MV×MV×MV×MV=>[.tup (nZ.map FZ),.ref p,s.1,s.2.1,s.2.2.1,s.2.2.2.1,s.2.2.2.2]) (λi zz H'=>A2 (H.le H') (∃vs:List MV,A3 (H' p=some (.list vs)) (vs.length=i) (∀(j:Nat)(v:MV),vs[j]?=some v->Sf H' v j))) (_,_,_,_,_) ⟨(akr H).new y,[],MH.sd,rfl,λj v e=>(nomatch e)⟩ (λzz zz zz zz=>trivial) ?_ ?_]
 ·intro i x s t K3 f W D _ _;obtain⟨b,vs,l,c,u⟩:=W;have I:i<13:=by haveI:=yd f;rwa[aa]at this
  rw[za,Ha]at f;erw[Ef x f λr G=>?_];haveI m:cT i=r:=by unfold cT;refine Er Ga ?_;exact Er G rfl
  haveI Y:vs.length<big:=Er c (ya I (Vd rfl));erw[⟨rfl,J _ _ _ ?_⟩,[MT,FZ],⟨fh l,λd A=>aM (dn z) ⟨_,MH.sd⟩ λg q E Z R P O N=>⟨rfl,?_⟩⟩];have o:t.le q:=E.le ((akr _).new A) λx f=>by exact Er (ia f) A
  have w:=o _ _ l;erw[[],eh w Y (D (.str r.1,iv r.2.1,iv r.2.2.1,iv r.2.2.2.1,iv r.2.2.2.2) _ ⟨(b.trans o).set y,vs++[.obj 2 d],MH.sd,by exact Er ua (Er c rfl),λj v a=>?_⟩)];haveI keep:∀v j,Sf q v j->Sf (q.set p (.list (vs++[.obj 2 d]))) v j:=λv j F=>by obtain⟨T,S,M,C,L⟩:=F;exact⟨T,S,M,(MH.ud (og C w λzz=>MO.noConfusion)).trans C,L⟩
  erw[keep v j ?_];rw[tc]at a;by_cases k:j<vs.length
  ·rw[Ec k]at a;exact(u j v a).mono o
  ·rw[Dc k,Lc]at a;have a:=a;by_cases h0:j-vs.length=0
   ·rw[Ec h0]at a;erw[Es (oa a) ?_];obtain rfl:j=i:=Ka (oi 0x323f0113111210b12 rfl (ta (uc k)) c h0) (se 0x21320101012 rfl c (uc k));refine⟨d,g,rfl,Z,(Er m R),?_,?_,?_⟩
    ·unfold Kf;exact Er m P
    ·unfold Yp;exact Er m O
    ·unfold bk;exact Er m N
   ·rw[Dc h0]at a;exact(nomatch a)
 ·intro s t V;obtain⟨b,vs,l,c,u⟩:=V;erw[U _ _ ?_,[NT],h p vs t b ⟨l,c,u⟩]
end
section
set_option tactic.hygienic true
def NE (k T:Nat):Bool:=Nat.blt (Qe T k) (2^2^(Dj T k).length)&&(!((Dj T k).length==1)||(Qe T k==1||Qe T k==2))&&(!((Dj T k).length==2)||(Ie (Qe T k) 2).isSome)&&
 (range (2^k)).all λr=>T.testBit r==(Qe T k).testBit (ze ((Dj T k).map λi=>r.testBit i))
theorem sh0:(range 2).all (NE 0)=true:=by decide+kernel
theorem sh1:(range 4).all (NE 1)=true:=by decide+kernel
theorem sh2:(range 16).all (NE 2)=true:=by decide+kernel
theorem sh3:(range 256).all (NE 3)=true:=by decide+kernel
end
section
variable {H H' H0 : MH} {Q : MV → MH → Prop} {K : MF → List MV → MH → Prop} {g : Nat → Nat → Bool}
theorem HZ (b:1<=k/\k<=3)(a:t<2^2^k):m9 (Ie t k) t k=true:=by
 rcases three b with rfl|rfl|rfl
 ·erw[Ja f1 t (Xa a)]
 ·erw[Ja f2 t (Xa a)]
 ·erw[Ja f3 t (Xa a)]
inductive MOk (t k:Nat)(m:Mt):Prop
 |mk (ci:Yp m.1=k) (i13:m.1<13) (ol:m.2.1.length=k) (m8:m.2.2.1<8) (x2:m.2.2.2<2) (oin:∀j∈m.2.1,j<k) (aiB:∀j,j<k->j∈m.2.1) (bit:∀r,r<2^k->t.testBit r=Zp (Kf m.1) k m.2.1 m.2.2.1 m.2.2.2 r)
theorem LA (f:1<=k/\k<=3)(c:t<2^2^k)(e:Ie t k=some m):MOk t k m:=by
 haveI h:=HZ f c;rw[e]at h;unfold m9 at h;dsimp only at h
 iterate 7 rw[Da]at h
 erw[hide λv b=>?_];obtain⟨⟨⟨⟨⟨⟨⟨u,s⟩,q⟩,p⟩,o⟩,n⟩,l⟩,i⟩:=h;erw[b ?_];clear b;exact⟨ub u,Sb s,ub q,Sb p,Sb o,λj a=>Sb (Ja n j a),λj a=>List.contains_iff_mem.mp (Ja l j (Xa a)),λr d=>ub (Ja i r (Xa d))⟩
theorem kQ (f:m.1<13)(e:m.2.2.1<8)(d:m.2.2.2<2):bl m<100:=by
 haveI a:∀i:Nat,i<13->bk i<=8:=by decide
 haveI b:∀i:Nat,i<8->al i<=3:=by decide
 haveI c:=a _ f;unfold bl;split
 ·erw[ja c akq]
 ·erw[ja (Nat.add_le_add c (Nat.mul_le_mul_right 2 (Nat.add_le_add (b _ e) (Cb d)))) akq]
inductive Mc (H0:MH)(d pl:Nat)(vs:List MV)(pf pk:Nat)(ks:List Nat)(m:Nat)(H:MH):Prop
 |mk (le:H0.le H) (tW:rf H0 pl vs) (nf:H0 pf=none) (nk:H0 pk=none) (ne:pf≠pk) (ob:∃f,A4 (H d=some (.ns f)) (f 43=.ref pl) (f 44=.ref pf) (f 45=.ref pk)) (fs:∃xd,A3 (H pf=some (.dict xd)) (xd.length<=m) (∀k v,ce xd (iv k)=some v->∃q,A3 (v=.ref q) (H q=some (.list ((Zk k).map (Iv vs k)))) (q∉ks))) (kn:∃xd,A3 (H pk=some (.dict xd)) (xd.length<=m) (∀k t v,ce xd (.tup [iv k,iv t])=some v->∃c:Nat,A2 (v=.tup [Lf vs (Ie t k),iv c]) (c<100)))
theorem cy:MV.beq (.tup [iv a,iv b]) (.tup [iv c,iv e])=true↔a=c/\b=e:=by
 rw[MV.beq_iff];constructor
 ·intro h
  injection h with h
  injection h with h1 d
  injection d with d
  exact⟨vA h1,vA d⟩
 ·rintro⟨rfl,rfl⟩;rfl
theorem Mc.off (c:Mc H0 d pl vs pf pk ks m H)(o:Off S H H')(j:H0.le H')(a:∀x∈S,x∈ks/\x≠d/\x≠pf/\x≠pk):Mc H0 d pl vs pf pk ks m H':=by erw[Zb (c.6) λf x=>?_];obtain⟨i,y⟩:=c.7;obtain⟨b,z⟩:=c.8;exact⟨j,c.2,c.3,c.4,c.5,⟨f,o _ _ (λh=>(a _ h).2.1 rfl) x.1,x.2,x.3,x.4⟩,⟨i,o _ _ (λh=>(a _ h).2.2.1 rfl) y.1,y.2,λk v e=>by obtain⟨q,w⟩:=y.3 k v e;exact⟨q,w.1,o _ _ (λh=>w.3 (a _ h).1) w.2,w.3⟩⟩,b,o _ _ (λh=>(a _ h).2.2.2 rfl) z.1,z.2,z.3⟩
theorem Mc.up (c:Mc H0 d pl vs pf pk ks m H)(h:m<=m'):Mc H0 d pl vs pf pk ks m' H:=by erw[Zb (c.7) λb y=>?_];obtain⟨a,z⟩:=c.8;exact⟨c.1,c.2,c.3,c.4,c.5,c.6,⟨b,y.1,Ba y.2 h,y.3⟩,a,z.1,Ba z.2 h,z.3⟩
theorem Mc.mono (c:Mc H0 d pl vs pf pk ks m H)(h:H.le H'):Mc H0 d pl vs pf pk ks m H':=c.off (S:=[]) h.off (c.1.trans h) λ_ h=>qd h Ea
theorem Mc.T9 (c:Mc H0 d pl vs pf pk ks m H)(h:Q (.ref pl) H):Te (.obj 3 d) 43 H Q:=by obtain⟨_,x⟩:=c.6;exact Vh x.1 x.2 MV.noConfusion h
theorem Mc.a44 (c:Mc H0 d pl vs pf pk ks m H)(h:Q (.ref pf) H):Te (.obj 3 d) 44 H Q:=by obtain⟨_,x⟩:=c.6;exact Vh x.1 x.3 MV.noConfusion h
theorem Mc.a45 (c:Mc H0 d pl vs pf pk ks m H)(h:Q (.ref pk) H):Te (.obj 3 d) 45 H Q:=by obtain⟨_,x⟩:=c.6;exact Vh x.1 x.4 MV.noConfusion h
theorem Mc.put (w:Mc H0 d pl vs pf pk ks m H)(o:c<100):∃a,A3 (H pk=some (.dict a)) (a.length<=m) (Mc H0 d pl vs pf pk ks (m+1) (H.set pk (.dict (dput a (.tup [iv k,iv t]) (.tup [Lf vs (Ie t k),iv c]))))):=by
 erw[Zb (w.6) λf x=>?_];obtain⟨n,y⟩:=w.7;obtain⟨l,z⟩:=w.8;refine⟨l,z.1,z.2,w.1.set w.4,w.2,w.3,w.4,w.5,⟨f,(MH.ud (og x.1 z.1 λ_=>MO.noConfusion)).trans x.1,x.2,x.3,x.4⟩,⟨n,(MH.ud w.5).trans y.1,Qc y.2,λk v e=>by obtain⟨q,u⟩:=y.3 k v e;exact⟨q,u.1,(MH.ud (Le z.1 u.2).symm).trans u.2,u.3⟩⟩,_,MH.sd,Ba xf (Wa z.2),λi b v e=>?_⟩;rw[ie]at e;by_cases h:MV.beq (.tup [iv k,iv t]) (.tup [iv i,iv b])=true
 ·rw[Ec h]at e;have e:=e;erw[eA (cy.mp h) λj p=>(Es j (Es p ⟨c,(oa e).symm,o⟩))]
 ·rw[Dc h]at e;exact z.3 i b v e
theorem Mc.aca (w:Mc H0 d pl vs pf pk ks m H)(r:H q=some (.list ((Zk k).map (Iv vs k))))(c:q∉ks):∃b,A3 (H pf=some (.dict b)) (b.length<=m) (Mc H0 d pl vs pf pk ks (m+1) (H.set pf (.dict (dput b (iv k) (.ref q))))):=by
 erw[Zb (w.6) λf x=>?_];obtain⟨i,y⟩:=w.7;obtain⟨p,z⟩:=w.8;refine⟨i,y.1,y.2,w.1.set w.3,w.2,w.3,w.4,w.5,⟨f,(MH.ud (og x.1 y.1 λ_=>MO.noConfusion)).trans x.1,x.2,x.3,x.4⟩,⟨_,MH.sd,Ba xf (Wa y.2),λj v e=>?_⟩,p,(MH.ud w.5.symm).trans z.1,Qc z.2,z.3⟩;haveI n:∀a l,H a=some (.list l)->(H.set pf (.dict (dput i (iv k) (.ref q)))) a=some (.list l):=λa l e=>(MH.ud (Le y.1 e).symm).trans e;rw[ie,Ye]at e;by_cases h:(k==j)=true
 ·rw[Ec h]at e;have e:=e;obtain rfl:=ub h;exact⟨q,(oa e).symm,n _ _ r,c⟩
 ·rw[Dc h]at e;obtain⟨o,u⟩:=y.3 j v e;exact⟨o,u.1,n _ _ u.2,u.3⟩
theorem bM (q:1<=n)(hd:H0 d=none)(l:rf H0 pl vs)(h:∀b pk H',Off [d] (H0.set d (.ns λ_=>.td)) H'->H0 b=none->H0 pk=none->(∀ks,(∀x∈ks,x≠d/\x≠b/\x≠pk)->Mc H0 d pl vs b pk ks 0 H')->Q .none H'):Fd X n 61 [.obj 3 d,.ref pl] (H0.set d (.ns λ_=>.td)) Q:=by erw[Xh n (Of q) λn=>(Ad rfl rfl ?_),[Ae,p61,UT],Pi MH.sd ?_,[Ae,TT],⟨λk i=>qd i Ea,λb c=>?_⟩,eA (fresh c) λj c=>?_];obtain⟨-,m⟩:=fresh c;erw[[Ae],Pi ((MH.ud j.symm).trans MH.sd) ?_,[Ae,RT],⟨λk i=>qd i Ea,λpk a=>?_⟩];obtain⟨f,a⟩:=fresh a;erw[eA (fresh a) λo a=>(eA (fresh a) λ_ a=>?_)];obtain⟨-,a⟩:=fresh a;erw[[Ae],Pi ((MH.ud f.symm).trans MH.sd) ?_,haveI p:=l.1;?_,haveI ld:pl≠d:=Gd p hd;?_,[Ae],h b pk _ (((((aku.set (.head _)).put c).set (.head _)).put ((MH.ud f).trans a)).set (.head _)) m a λks r=>⟨(((((((akr H0).set hd).set hd).set m).set hd).set a).set hd),l,m,a,o.symm,⟨_,MH.sd,rfl,rfl,rfl⟩,⟨[],(Er (MH.ud j) (Er (MH.ud o.symm) (Er (MH.ud j) (Er MH.sd rfl)))),Qa _,λk v e=>(nomatch e)⟩,⟨[],(Er (MH.ud f) (Er MH.sd rfl)),Qa _,λk t v e=>(nomatch e)⟩⟩]
theorem lQ (r:6<=n)(G:1<=k/\k<=3)(ht:t<2^2^k)(w:Mc H0 d pl vs pf pk ks m H)(s:m<1000)(sZ:∀x∈ks,H x≠none)(h:∀c H',Mc H0 d pl vs pf pk ks (m+2) H'->Off [pf,pk] H H'->c<100->Q (.tup [Lf vs (Ie t k),iv c]) H'):Fd X n 62 [.obj 3 d,iv t,iv k] H Q:=by
 erw[eE (Of r) λn kZ=>?_];subst kZ;haveI V9:Lf vs (Ie t k)≠.td:=by cases Ie t k<;>exact MV.noConfusion
 have tail:∀c H',Mc H0 d pl vs pf pk ks (m+2) H'->Off [pf,pk] H H'->(∃a v,A3 (H' pk=some (.dict a)) (ce a (.tup [iv k,iv t])=some v) (v=.tup [Lf vs (Ie t k),iv c]))->c<100->∀N M,Kd (Ce X n) uJ [.obj 3 d,iv t,iv k,.tup [iv k,iv t],N,M] H' λI _ H'=>Q (Af I) H':=by
  intro c H' O o dw A N M;erw[hide λZz W=>(kl dw λa v J=>?_)];haveI i:=J.1;haveI hv:=J.2;obtain rfl:=J.3;erw[W ?_];clear W;erw[[uJ],O.a45 (Ll i rfl hv (h c H' O o A))]
 erw[Ad rfl rfl ?_,[Q7,bU],⟨Vd rfl,?_⟩,qe λR T=>(Zb (w.8) λE z=>?_),[],w.a45 (Ix z.1 rfl ⟨λe=>?_,λe=>?_⟩)]
 ·clear e z E;erw[qe λV U=>?_];obtain⟨S,y⟩:=w.7;have rest:∀j,Mc H0 d pl vs pf pk ks (m+1) j->Off [pf,pk] H j->(∃a q,A3 (j pf=some (.dict a)) (ce a (iv k)=some (.ref q)) (j q=some (.list ((Zk k).map (Iv vs k)))))->V [.obj 3 d,iv t,iv k,.tup [iv k,iv t],.td,.td] j:=by
   intro j b o1 Zd;erw[kl Zd λa q L=>?_,haveI i:=L.1;?_,haveI p:=L.2;?_,haveI rg:=L.3;?_,U _ _ ?_];clear U V;haveI l:=b.2.mono b.1;erw[[aU],b.a44 (Ll i rfl p (b.T9 (Px (dn r) G.2 l rg λH2 D=>?_)))];haveI C:=b.mono D;haveI o2:=o1.trans D.off;haveI fin:∀c,c<100->Kd (Ce X n) tJ [.obj 3 d,iv t,iv k,.tup [iv k,iv t],Lf vs (Ie t k),iv c] H2 λf Y H'=>match f with|.next=>R Y H'|f=>(λI _ H'=>Q (Af I) H') f Y H':=by
    intro c A;erw[Zb (C.put (k:=k) (t:=t) A) λa u=>?_,[tJ],oe V9 ⟨Vd rfl,C.a45 (putD u.1 rfl (ja u.2 (ya (by exact ee 0x7d03cee0bb33e83ce0b10 rfl s:m+1<2000) akq)) (T _ _ (tail c _ u.3 (o2.set (.tail _ (.head _))) ⟨_,_,MH.sd,?_,rfl⟩ A _ _)))⟩,Er ie (Er (Ec (cy.mpr ⟨rfl,rfl⟩)) rfl)]
   erw[[ZT,YT],qe λR3 P=>?_];cases HF:Ie t k with
   |none=>
    rw[HF]at fin;erw[[Lf],Dv MV.noConfusion ⟨λe=>(nomatch e),λ_=>P _ _ (fin 0 akq)⟩]
   |some mt=>
    rw[HF]at fin;have fin:=fin;haveI mo:=LA G ht HF;erw[[Lf],oe MV.noConfusion (Dv MV.noConfusion ⟨λ_=>?_,λe=>(nomatch e)⟩),[XT],C.T9 (oe MV.noConfusion (kC (dn r) (l.mono D) mo.2 mo.4 mo.5 (P _ _ (fin _ (kQ mo.2 mo.4 mo.5)))))]
  erw[[],w.a44 (Ix y.1 rfl ⟨λB=>?_,λB=>?_⟩)]
  ·erw[[WT],w.T9 (Ox (dn r) G.2 (w.2.mono w.1) λq j l Z p=>?_)];have b:=w.mono l;have F:q∉ks:=λs=>sZ q s Z;erw[Zb (b.aca p F) λa u=>(b.a44 (putD u.1 rfl (ja u.2 (ya s akq)) (rest _ u.3 (l.off.set (.head _)) ⟨_,q,MH.sd,?_,(MH.ud (Le u.1 p).symm).trans p⟩))),Er ie (Er Ye (Er (Ec (Pa k)) rfl))]
  ·cases hd:ce S (iv k)with
   |none=>haveI B:=hd▸B;exact(nomatch B)
   |some v=>
    obtain⟨q,u⟩:=y.3 k v hd;erw[rest H (w.up (Nat.le_succ m)) aku ⟨S,q,y.1,hd.trans (Fc some u.1),u.2⟩]
 ·cases hd:ce E (.tup [iv k,iv t])with
  |none=>have e:=hd▸e;exact tf e
  |some v=>
   obtain⟨c,u⟩:=z.3 k t v hd;erw[T _ _ (tail c H (w.up (ee 0x21c0b03 rfl)) aku ⟨E,v,z.1,hd,u.1⟩ u.2 _ _)]
theorem W9 (b:k<=3)(a:T<2^2^k):NE k T=true:=by
 rcases four b with rfl|rfl|rfl|rfl
 ·erw[Ja sh0 T (Xa a)]
 ·erw[Ja sh1 T (Xa a)]
 ·erw[Ja sh2 T (Xa a)]
 ·erw[Ja sh3 T (Xa a)]
inductive ace (k T:Nat):Prop
 |mk (lt:Qe T k<2^2^(Dj T k).length) (one:(Dj T k).length=1->Qe T k=1\/Qe T k=2) (two:(Dj T k).length=2->∃m,Ie (Qe T k) 2=some m) (bit:∀r,r<2^k->T.testBit r=(Qe T k).testBit (ze ((Dj T k).map λi=>r.testBit i)))
theorem Ov (f:k<=3)(i:T<2^2^k):ace k T:=by
 haveI h:=W9 f i;unfold NE at h;rw[Da,Da,Da]at h;erw[eA h λm j=>(eA m λc a=>(eA c λl b=>⟨gc l,λe=>?_,λe=>?_,λr d=>ub (Ja j r (Xa d))⟩))]
 ·rw[e]at b;rw[Rb,Rb]at b;exact(b.resolve_left λh=>Na h).imp ub ub
 ·rw[e]at a;rw[Rb]at a;erw[Option.isSome_iff_exists.mp (a.resolve_left λh=>Na h)]
def ye (T:Nat)(c:List Nat):List Nat:=(Dj T c.length).map λi=>c.getD i 0
theorem Pv (h:i∈Dj T k):i<k:=Mb (mem_filter.mp h).1
abbrev mQ:=Option (List Nat×Nat×Option Mt)
def Fy (vs:List MV):mQ->MV
 |none=>.none|some c=>.tup [tv c.1,iv c.2.1,Lf vs c.2.2]
inductive Ch (ns:List Nd)(x:Nat)(c:List Nat×Nat×Option Mt):Prop
 |mk (val:∀v,Ri ns v->c.2.1.testBit (EZ v c.1)=v x) (lt:∀y∈c.1,y<x) (len:c.1.length<=3) (tl:c.2.1<2^2^c.1.length) (mm:(c.1.length<=1/\c.2.2=none/\(c.1.length=1->c.2.1=1\/c.2.1=2))\/(2<=c.1.length/\c.2.2≠none/\Ie c.2.1 c.1.length=c.2.2))
theorem Ti:(ye T c).length=(Dj T c.length).length:=aa ..
theorem Gl:(ye T c).length<=c.length:=Er Ti filter_le
theorem MA (h:y∈ye T c):y∈c:=by erw[Ef y (Gb h) λi b=>?_];haveI a:=Pv b;refine Er Ga ?_;refine Er (wa a) ?_;erw[List.getElem_mem a]
theorem NA {ns:List Nd}{c:List Nat}{x T:Nat}(h:VT ns c x T)(d:c.length<=3)(v:Va)(b:Ri ns v):(Qe T c.length).testBit (EZ v (ye T c))=v x:=by
 erw[Es (h.2 v b) (Er ((Ov d h.1).4 _ KA) ?_)];unfold EZ ye;erw[Er map_map ?_]
 congr 2
 erw[List.map_congr_left λi f=>?_];haveI a:=Pv f;show v (c.getD i 0)=_;haveI e:c[i]?=some (c.getD i 0):=by refine Er Ga ?_;refine Er (wa a) ?_;rfl
 exact(Nv e).symm
theorem Ch.of {ns:List Nd}{c:List Nat}{x T k:Nat}{m:Option Mt}(o:Yx ns k x c)(d:c≠[x])(i:k<=3)(h:VT ns c x T)(f:((ye T c).length<=1/\m=none)\/(2<=(ye T c).length/\m≠none/\Ie (Qe T c.length) (ye T c).length=m)):Ch ns x (ye T c,Qe T c.length,m):=by haveI a:=Ba o.2 i;haveI s:=Ov a h.1;erw[⟨NA h a,λy b=>?_,Ba Gl a,by refine Er Ti ?_;exact s.1,f.imp (λh=>⟨h.1,h.2,λe=>s.2 (Ti.symm.trans e)⟩) id⟩,(o.3.resolve_left d) y (MA b)]
theorem OE (w:L.getD 11 .td=tv c)(f:L.getD 13 .td=.ref p)(d:c.length<=3)(i:H p=some (.list ((Dj T c.length).map iv)))(h:∀H',H.le H'->Q (tv (ye T c)) H'):Yd P (.blt 2 (.cons (.comp [none,none,some 11] (.one 1) (.loc 13) .nil (.sub (.loc 2) (.loc 1))) .nil)) L H Q:=by
 haveI v:(c.map iv).length<big:=Re (ja d akq);haveI n:((ye T c).map iv).length<big:=Re (ja (Ba Gl d) akq);haveI r:Yi [none,none,some 11] L=[.td,.td,tv c]:=Es w rfl;erw[Er abp (Er XY (Er Sh (Er uv (Er f ?_)))),[],ve i (Gg (λk=>((ye T c).take k).map iv) (λk j H'=>A2 (j=k) (H'=H)) 0 (by refine Er Fb ?_;rfl) ⟨rfl,rfl⟩ (λk j H' x=>⟨by refine Er x.2 ?_;exact i,?_⟩) ?_ ?_)]
 ·refine Er (aa ..) ?_;refine Er (zb ..) ?_;erw[ja (Ba (Nc _ _) (Ba Gl d)) (Vd rfl)]
 ·intro k x j m K b l q;obtain rfl:=l.1;obtain rfl:=l.2;rw[za,Ha]at b;erw[Ef x b λx b=>?_];haveI u:=Pv (Dd b);haveI e:c[x]?=some (c.getD x 0):=by refine Er Ga ?_;refine Er (wa u) ?_;rfl
  erw[Er r ?_,[],⟨λ_=>?_,λh=>(nomatch h)⟩,Xe (yf e) v (q _ (j+1) m ?_ ⟨rfl,rfl⟩)];haveI:(ye T c)[j]?=some (c.getD x 0):=by unfold ye;refine Er za ?_;exact Er b rfl
  refine Er (Xd this) ?_;refine Er Aa ?_;rfl
 ·intro j m t;obtain⟨e,rfl⟩:=t;rw[aa]at e;subst e;intro a o;haveI s:(ye T c).take (Dj T c.length).length=ye T c:=List.take_of_length_le (Er Ti (Qa _));erw[Er s ?_,[],Bm (Uj MH.sd) n (h _ ((akr _).new o))]
structure CC where
 d:Nat
 pl:Nat
 k:Nat
 most:Nat
 nQ:Nat
 p5:Nat
 d3:Nat
 pc:Nat
 pw:Nat
 vs:List MV
 pf:Nat
 pk:Nat
abbrev S8:=MV×MV×MV×MV×MV×MV×MV×MV
def tC (z:CC)(i b:MV)(s:S8):List MV:=[.obj 1 z.d,.ref z.pl,iv z.k,iv z.most,.ref z.nQ,.ref z.p5,.obj 3 z.d3,.ref z.pc,.ref z.pw,i,b,s.1,s.2.1,s.2.2.1,s.2.2.2.1,s.2.2.2.2.1,s.2.2.2.2.2.1,s.2.2.2.2.2.2.1,s.2.2.2.2.2.2.2]
inductive oQ (A:Ag)(z:CC)(Hb:MH):Prop
 |mk (ag:Fe Hb z.d A) (uC:A.wd.length<60) (k:2<=z.k/\z.k<=3) (cn:∃cs:List Nat,A3 (Hb z.nQ=some (.list (cs.map iv))) (cs.length=A.wd.length) (∀c∈cs,c<2^20)) (cut:∃H0,Cs A z.k H0 z.p5 A.wd.length Hb) (c0:Hb z.pc=none) (w0:Hb z.pw=none) (cw:z.pc≠z.pw) (cf:z.pc≠z.d3/\z.pc≠z.pf/\z.pc≠z.pk) (wf:z.pw≠z.d3/\z.pw≠z.pf/\z.pw≠z.pk)
inductive Jm (A:Ag)(z:CC)(Hb:MH)(i m:Nat)(H:MH):Prop
 |mk (mc:Mc Hb z.d3 z.pl z.vs z.pf z.pk [z.pc,z.pw] m H) (hc:∃zf:List mQ,A4 (H z.pc=some (.list (zf.map (Fy z.vs)))) (zf.length=A.wd.length) (∀(j:Nat),A.wd[j]?=some none->zf[j]?=some none) (∀(j l r:Nat),j<i->A.wd[j]?=some (some (l,r))->∃c:List Nat×Nat×Option Mt,zf[j]?=some (some c)/\Ch A.wd j c)) (hw:∃fs:List Nat,A2 (H z.pw=some (.list (fs.map iv))) (fs.length=A.wd.length))
theorem Jm.off (s:Jm A z Hb i m H)(x:oQ A z Hb)(d:Mc Hb z.d3 z.pl z.vs z.pf z.pk [z.pc,z.pw] m' H')(o:Off [z.pf,z.pk] H H'):Jm A z Hb i m' H':=by erw[eE s.2 λa y=>(eE s.3 λe w=>?_)];have c:z.pc∉[z.pf,z.pk]:=λh=>(xa h).elim x.9.2.1 λh=>x.9.2.2 (ia h);have b:z.pw∉[z.pf,z.pk]:=λh=>(xa h).elim x.10.2.1 λh=>x.10.2.2 (ia h);exact⟨d,⟨a,o _ _ c y.1,y.2,y.3,y.4⟩,e,o _ _ b w.1,w.2⟩
theorem Jm.mono (s:Jm A z Hb i m H)(x:oQ A z Hb)(h:H.le H'):Jm A z Hb i m H':=s.off x (s.1.mono h) h.off
theorem Jm.up (s:Jm A z Hb i m H)(h:m<=m'):Jm A z Hb i m' H:=⟨s.1.up h,s.2,s.3⟩
theorem Jm.kn (s:Jm A z Hb i m H):∀x∈[z.pc,z.pw],H x≠none:=λx a=>by
 erw[eE s.2 λb y=>(eE s.3 λc w=>?_)];rcases xa a with rfl|a
 ·erw[Er y.1 (λe=>nomatch e)]
 ·erw[Er (ia a) (Er w.1 (λe=>nomatch e))]
theorem Jm.acf (s:Jm A z Hb i m H)(x:oQ A z Hb):∃a:List Nat,A3 (H z.pw=some (.list (a.map iv))) (a.length=A.wd.length) (Jm A z Hb i m (H.set z.pw (.list ((a.map iv).set j (iv v))))):=by erw[eE s.2 λb y=>?_];obtain⟨a,w⟩:=s.3;erw[⟨a,w.1,w.2,s.1.off (S:=[z.pw]) (aku.set (.head _)) (s.1.1.set x.7) (λq c=>?_),⟨b,(MH.ud x.8).trans y.1,y.2,y.3,y.4⟩,a.set j v,MH.sd.trans (Er sA rfl),by exact Er length_set w.2⟩,Er (ia c) ⟨.tail _ (.head _),x.10⟩]
theorem Jm.acg (s:Jm A z Hb i m H)(x:oQ A z Hb)(hi:∃l r,A.wd[i]?=some (some (l,r)))(n:Ch A.wd i c):∃b:List mQ,A3 (H z.pc=some (.list (b.map (Fy z.vs)))) (b.length=A.wd.length) (Jm A z Hb (i+1) m (H.set z.pc (.list ((b.map (Fy z.vs)).set i (Fy z.vs (some c)))))):=by
 erw[eE s.2 λb y=>?_];obtain⟨o,w⟩:=s.3;erw[kl hi λl r hi=>⟨b,y.1,y.2,s.1.off (S:=[z.pc]) (aku.set (.head _)) (s.1.1.set x.6) (λq h=>?_),⟨b.set i (some c),MH.sd.trans (by refine Er List.map_set ?_;rfl),by refine Er length_set ?_;exact y.2,λj a=>?_,λj f d a k=>?_⟩,o,(MH.ud x.8.symm).trans w.1,w.2⟩]
 ·erw[Er (ia h) ⟨.head _,x.9⟩]
 ·rw[List.getElem?_set_ne (λe=>by rw[e,a]at hi;exact(nomatch hi))];exact y.3 j a
 ·rcases qb a with a|rfl
  ·refine Er (List.getElem?_set_ne (Nat.ne_of_gt a)) ?_;exact y.4 j f d a k
  ·exact⟨c,List.getElem?_set_self (Er y.2 (yd hi)),n⟩
theorem Jm.down (s:Jm A z Hb (i+1) m H):Jm A z Hb i m H:=by obtain⟨a,y⟩:=s.2;exact⟨s.1,⟨a,y.1,y.2,y.3,λj l r b=>y.4 j l r (Nat.lt_succ_of_lt b)⟩,s.3⟩
theorem Jm.ach (s:Jm A z Hb i m H)(h:A.wd[i]?=some none):Jm A z Hb (i+1) m H:=by
 erw[eE s.2 λc y=>⟨s.1,⟨c,y.1,y.2,y.3,λj l r b a=>?_⟩,s.3⟩];rcases qb b with b|rfl
 ·erw[y.4 j l r b a]
 ·rw[h]at a;exact(nomatch a)
inductive PE (A:Ag)(z:CC)(Hb:MH)(i m:Nat)(b:Int)(H:MH):Prop
 |mk (st:Jm A z Hb i m H) (sn:0<=b->Jm A z Hb (i+1) m H)
theorem PE.mono (s:PE A z Hb i m b H)(x:oQ A z Hb)(h:H.le H'):PE A z Hb i m b H':=⟨s.1.mono x h,λe=>(s.2 e).mono x h⟩
theorem better (x:oQ A z Hb)(h:PE A z Hb i m b H)(hi:∃l r,A.wd[i]?=some (some (l,r)))(E:Ch A.wd i c)(W:cost<100)(F:s.2.1=iv c.2.1) (e4:s.2.2.2.1=tv c.1) (e5:s.2.2.2.2.1=Lf z.vs c.2.2) (O:s.2.2.2.2.2.1=iv cost)(L:∀(G:Int) s' H',0<=G->PE A z Hb i m G H'->K .next (tC z (iv i) (.int G) s') H'):Kd (Ce X n) Tz (tC z (iv i) (.int b) s) H K:=by
 obtain⟨C,s2,u,s4,s5,s6,s7,S⟩:=s;dsimp only at F e4 e5 O;subst F e4 e5 O;have hlen:=E.3;haveI Y:Lf z.vs c.2.2≠.td:=by cases c.2.2<;>exact MV.noConfusion
 erw[[tC,Tz],Av (a:=60) akq (ya W akq) ?_,[hU],Qd λB R M o=>?_,[],eE h.1.3 λN w=>?_,have D:(N.map iv).length<big:=Re (Er w.2 (ya x.2 akq));?_,be (λt:Nat×MV=>[.obj 1 z.d,.ref z.pl,iv z.k,iv z.most,.ref z.nQ,.ref z.p5,.obj 3 z.d3,.ref z.pc,.ref z.pw,iv i,.int b,C,iv c.2.1,u,tv c.1,Lf z.vs c.2.2,iv cost,iv t.1,t.2]) (λj t H'=>H'=H) (60*cost,S) rfl (λzz zz zz zz=>trivial) ?_ ?_]
 ·rintro j v t H' K3 J rfl P- -;rw[za,Ha]at J;erw[Ef v J λy T=>(kl hi λl r hi=>?_),haveI V:y<N.length:=Er w.2 (ya (E.2 y (Dd T)) (yd hi));?_,M _ _ _ ?_,[eU],Ve w.1 (yf (wa V)) D (zg (P (_,iv y) _ rfl))]
 ·intro p H' U;subst U;erw[o _ _ ?_];clear M o;have I:∀R:List MV->MH->Prop,(∀q H',Kd (Ce X n) [] q H' K->R q H')->Kd (Ce X n) vJ [.obj 1 z.d,.ref z.pl,iv z.k,iv z.most,.ref z.nQ,.ref z.p5,.obj 3 z.d3,.ref z.pc,.ref z.pw,iv i,.int b,C,iv c.2.1,u,tv c.1,Lf z.vs c.2.2,iv cost,iv p.1,p.2] H' λf q H'=>match f with|.next=>R q H'|f=>K f q H':=by
   intro R o;erw[eE (h.1.acg x hi E) λZ y=>?_];obtain⟨l,r,hi⟩:=hi;erw[[vJ,fU],oe Y ⟨Vd rfl,putL y.1 (Er (aa ..) (Er y.2 (yd hi))) (Re (Er y.2 (ya x.2 akq))) (o _ _ ?_)⟩,L (p.1:Int) (C,iv c.2.1,u,tv c.1,Lf z.vs c.2.2,iv cost,iv p.1,p.2) _ (Ua p.1) ⟨y.3.down,λzz=>y.3⟩]
  erw[[gU],qe λR o=>YM ?_,[],⟨λzz=>⟨λzz=>I R o,λe=>(nomatch e)⟩,λe=>⟨λzz=>I R o,λF=>o _ _ (L b (C,iv c.2.1,u,tv c.1,Lf z.vs c.2.2,iv cost,iv p.1,p.2) _ ?_ h)⟩⟩,Int.not_lt.mp (of_decide_eq_false e)]
theorem vC:xh (tv c)=true:=by show(c.map iv).all _=true;erw[Er List.all_map (all_eq_true.mpr λzz zz=>rfl)]
theorem Z9:eqv (tv a) (tv b)=some (MV.beq (tv a) (tv b)):=by unfold eqv;erw[Er vC (Er vC rfl)]
theorem aci (h:Q (iv (max x y)) H):Ii 6 [iv x,iv y] H Q:=by haveI e:max (x:Int) (y:Int)=((max x y:Nat):Int):=(Lean.Omega.Int.ofNat_max x y).symm;show Q (.int (max (x:Int) (y:Int))) H;erw[Er e h]
theorem Mc.Ei (c:Mc H0 d pl vs pf pk ks m H):Ng (Ce X n) 18 (.obj 3 d) H:=by obtain⟨_,x⟩:=c.6;exact rObj rfl x.1
inductive Nxt (A:Ag)(z:CC)(Hb:MH)(i m:Nat)(g:Prop)(b b':Int)(H':MH):Prop
 |mk (pos:g->0<=b') (up:0<=b->0<=b') (bs:PE A z Hb i m b' H')
theorem dM (G:7<=n)(x:oQ A z Hb)(h:PE A z Hb i m b H)(hi:A.wd[i]?=some (some (l,r)))(o:Yx A.wd z.k i c)(hm:m<900)(V:s.1=tv c)(Y:∀(d:Int) s' H',Nxt A z Hb i (m+2) (c.length<=2/\c≠[i]) b d H'->K .next (tC z (iv i) (.int d) s') H') (Z:∀(d:Int) s' H',Nxt A z Hb i (m+2) (c.length<=2/\c≠[i]) b d H'->K .cont (tC z (iv i) (.int d) s') H'):Kd (Ce X n) Uz (tC z (iv i) (.int b) s) H K:=by
 obtain⟨s1,s2,s3,s4,s5,s6,C,B⟩:=s;dsimp only at V;erw[Er V ?_];have f:=Ba o.2 x.3.2;have EE:(c.map iv).length<big:=Re (ja f akq);have q:∀{b:Int}{H:MH},PE A z Hb i m b H->PE A z Hb i (m+2) b H:=λh=>⟨h.1.up (jb _ _),λe=>(h.2 e).up (jb _ _)⟩
 erw[[tC,Uz],qe λR hR=>?_,[],⟨Vd rfl,cEq (r:=MV.beq (tv c) (tv [i])) (Z9 (a:=c) (b:=[i])) ⟨λe=>?_,λe=>hR _ _ ?_⟩⟩]
 ·erw[[cU],Z b (tv c,s2,s3,s4,s5,s6,C,B) H ⟨λg=>qd (xA (MV.beq_eq _ _ e)) g.2,id,q h⟩]
 have u:c≠[i]:=λe'=>by rw[e',MV.beq_refl]at e;exact(nomatch e)
 erw[[AJ],LE (dm G) (x.1.mono h.1.1.1) x.2 f o.1 λT H1 U y=>?_,[],⟨EE,?_⟩];simp only[aa];erw[wE (dm G) (Ma y.1 (Ab akq (Ba (Wf f) akq))) f λp H2 S W=>⟨rfl,?_⟩];have N:=Ov f y.1;have D:=Gl (T:=T) (c:=c);have L:=Ti (T:=T) (c:=c);unfold zJ;simp only[FP];erw[OE rfl rfl f W λH3 P=>?_];have E9:=(U.trans S).trans P;have j:=h.mono x E9;have M:((ye T c).map iv).length<big:=Re (ja (Ba D f) akq);clear U S P W e;erw[[yJ,xJ,wJ],qe λR4 Qh=>?_,[],⟨M,?_⟩,Er (aa ..) ⟨λe=>?_,λe=>?_⟩]
 ·haveI w:2<=(ye T c).length:=tE (a:=1) e;haveI F:Qe T c.length<2^2^(ye T c).length:=Er L N.1;erw[[dU],⟨j.1.1.Ei,M,?_⟩,Er (aa ..) (Ih rfl (lQ (dm G) ⟨by exact ee 0xe3021c10 rfl w,Ba D f⟩ F j.1.1 (ee 0x3e83ce0b33843ce0b10 rfl hm) j.1.kn λcc H4 t O I=>⟨rfl,?_⟩)),haveI b4:PE A z Hb i (m+2) b H4:=⟨j.1.off x t O,λe=>(j.2 e).off x t O⟩;?_,qe λR5 eM=>?_];cases HF:Ie (Qe T c.length) (ye T c).length with
  |none=>
   erw[[Lf],ZK MV.noConfusion ⟨λzz=>?_,λe=>(nomatch e)⟩,Z b (tv c,iv (Qe T c.length),.ref p,tv (ye T c),.none,iv cc,C,B) H4 ⟨λg=>?_,id,b4⟩];exfalso;have e2:(ye T c).length=2:=Ka (Ba D g.1) w;rw[e2]at HF;erw[eE (N.3 (L.symm.trans e2)) λE a_=>?_];rw[HF]at a_;exact(nomatch a_)
  |some E=>
   erw[[Lf],oe MV.noConfusion (ZK MV.noConfusion ⟨λe=>(nomatch e),λzz=>eM _ _ (Qh _ _ ?_)⟩),better (c:=(ye T c,Qe T c.length,some E)) (s:=(tv c,iv (Qe T c.length),.ref p,tv (ye T c),pL z.vs E,iv cc,C,B)) x b4 ⟨l,r,hi⟩ (Ch.of o u x.3.2 y (.inr ⟨w,λe=>(nomatch e),HF⟩)) I rfl rfl rfl rfl λd s' H' v J=>Y d s' H' ⟨λzz=>v,λzz=>v,J⟩]
 ·haveI w:(ye T c).length<=1:=fC (a:=1) e;erw[Qh _ _ (better (c:=(ye T c,Qe T c.length,none)) (cost:=0) (s:=(tv c,iv (Qe T c.length),.ref p,tv (ye T c),.none,iv 0,C,B)) x (q j) ⟨l,r,hi⟩ (Ch.of o u x.3.2 y (.inl ⟨w,rfl⟩)) akq rfl rfl rfl rfl λd s' H' v J=>Y d s' H' ⟨λzz=>v,λzz=>v,J⟩)]
theorem QE (J:7<=n)(x:oQ A z Hb)(h:Jm A z Hb i (8*i) H)(hi:i<A.wd.length)(hK:∀b s' H',Jm A z Hb (i+1) (8*(i+1)) H'->K .next (tC z (iv i) b s') H') (hC:∀b s' H',Jm A z Hb (i+1) (8*(i+1)) H'->K .cont (tC z (iv i) b s') H'):Kd (Ce X n) Vz (tC z (iv i) b s) H K:=by
 have k:=x.2;haveI P:=x.1.mono h.1.1;erw[eE (⟨_,wa hi⟩:∃nd,A.wd[i]?=some nd) λnd r=>?_,[tC,Vz],qe λR hR=>?_,[],⟨P.Ei rfl,Fe.Kg rfl (BL (dm J) P (ya k akq) r ?_)⟩];cases nd with
 |none=>
  erw[⟨λzz=>?_,λe=>(nomatch e)⟩,hC b s H ((h.ach r).up (ee 0xe0b81d081d3 rfl))]
 |some pr=>
  erw[⟨λe=>(nomatch e),λzz=>hR _ _ ?_⟩,[EJ,DJ],Qd λB R2 L M=>?_];obtain⟨H0,E⟩:=x.5;erw[we (E.row hi) λrr W cs y=>?_];obtain⟨c0,rs,w⟩:=y.5.4 ⟨pr.1,pr.2,r⟩;have R0:PE A z Hb i (8*i+2*0) (-1) H:=⟨h,λe=>qd e akq⟩;haveI T:=y.5.1;erw[[],Ve (h.1.1 _ _ y.1) y.2 (Er y.3 (ya k (Vd rfl))) (ve (h.1.1 _ _ y.4) (be (λt:Int×S8=>tC z (iv i) (.int t.1) t.2) (λj t H'=>A2 (PE A z Hb i (8*i+2*j) t.1 H') (1<=j->0<=t.1)) (-1,s) ⟨R0,λe=>qd e akq⟩ (λj t H' V=>V.1.1.1.1 _ _ y.4) ?_ ?_))]
  ·intro j v G H3 K3 I S U Ul _;haveI o:=S.1;haveI C:=S.2;rw[za,Ha]at I;obtain⟨c,m,rfl⟩:=I;have Z:=yd m;haveI g0:j=0->c.length<=2/\c≠[i]:=λe=>by
    subst e;rw[w.1]at m;erw[Es (oa m) ⟨w.2,λe=>qd (w.3 i (Er e (.head _))) (Ic i)⟩]
   haveI fin:∀{d:Int}{H':MH},Nxt A z Hb i (8*i+2*j+2) (c.length<=2/\c≠[i]) G.1 d H'->A2 (PE A z Hb i (8*i+2*(j+1)) d H') (1<=j+1->0<=d):=λq=>⟨q.3,λzz=>by
    erw[Or.elim (Nat.eq_zero_or_pos j) (λe=>?_) (λe=>?_)]
    ·erw[q.1 (g0 e)]
    ·exact q.2 (C e)⟩
   erw[L _ _ _ (dM (s:=(tv c,G.2.2)) J x o r (y.5.2 c (Dd m)) (oi 0x3843ce221d081dbb341c3203c2ce1b803e2b201e0b80 rfl hi Z k T) rfl (λd F H' q=>U (d,F) H' (fin q)) λd F H' q=>Ul (d,F) H' (fin q))]
  ·intro Zd H3 O;obtain⟨t,s'⟩:=Zd;haveI o:=O.1;haveI C:=O.2;rw[aa]at o C;have D:=C (by rw[w.1];exact Wa (Ta _));obtain⟨N,rfl⟩:=Int.eq_ofNat_of_zero_le D;have s3:=(o.2 D).up (m':=8*(i+1)) (je 0xe1b81d021d181db341c020 rfl T);erw[M _ _ ?_];clear L M;erw[[tC,CJ],qe λR4 Qh=>⟨λe=>qd (Sb e) (Int.not_lt.mpr D),λzz=>Qh _ _ ?_⟩,Zb (x.4) λp u=>?_];have Y:i<p.length:=by rw[u.2];exact hi
   have a:p[i]?=some p[i]:=wa Y;have l:=u.3 _ (Dd a);generalize p[i]=cc at a l;erw[[BJ],Ve (s3.1.1 _ _ u.1) (yf a) (Re (by rw[u.2];exact ya k akq)) (aci (x:=1) ?_),Zb (s3.acf (v:=N/max 1 cc) (j:=i) x) λfs f=>(Cp (Ma Nat.one_pos (Nat.le_max_left 1 cc)) (ja (Nat.max_le.mpr ⟨akq,Ib l⟩:max 1 cc<=2^20) akq) (putL f.1 (by rw[aa,f.2];exact hi) (Re (by rw[f.2];exact ya k akq)) (hK (.int N) s' _ f.3)))]
inductive dy (A:Ag)(zf:List mQ):Prop
 |mk (len:zf.length=A.wd.length) (no:∀(j:Nat),A.wd[j]?=some none->zf[j]?=some none) (yes:∀(j l r:Nat),A.wd[j]?=some (some (l,r))->∃c:List Nat×Nat×Option Mt,zf[j]?=some (some c)/\Ch A.wd j c)
theorem SE (J:8<=n)(hk:2<=k/\k<=3)(hm:1<=most/\most<=3)(a:Fe H d A)(l:rf H pl vs)(W:A.wd.length<60)(HE:A.outs.length<1000)(jg:∀x∈A.outs,x/2<A.wd.length)(h:∀pc H' O,H.le H'->H' pc=some (.list (O.map (Fy vs)))->dy A O->Q (.ref pc) H'):Fd X n 63 [.obj 1 d,.ref pl,iv k,iv most] H Q:=by
 erw[eE (Of J) λn fg=>?_];subst fg;have p:A.wd.length<1000:=ya W akq;erw[Ad rfl rfl ?_,[Ae,p63,LJ],⟨a.Ei rfl,Fe.Kg rfl (aQ (dn J) a p jg λP H1 aiF c1=>?_)⟩,[Ae,KJ],iQ (dn J) hk hm (a.mono c1.1) p λp5 N b_ E=>?_,have S:H.le N:=c1.1.trans E.1;?_,[Ae,JJ],λL cN=>?_,bM (dn J) cN (l.mono S) λG F M o3 U9 Ey w=>⟨rfl,?_⟩];have C:N.le M:=o3.le ((akr _).new cN) λx D=>by exact Er (ia D) cN
 haveI l3:=S.trans C;erw[[Ae,IJ],⟨Vd rfl,λt1 yL=>?_⟩,haveI l4:=l3.new (o:=.list [.none]) yL;?_,(a.mono l4).aN (De (l4 _ _ a.2) (Re p) ?_),Er (aa ..) ?_,[Ae],YK MH.sd (ya p akq) λpc Qv=>?_];have V:=((akr M).new (o:=.list [.none]) yL).new (o:=.list (replicate A.wd.length .none)) Qv;haveI U:((M.set t1 (.list [.none])).set pc (.list (replicate A.wd.length .none))) pc=some (.list (replicate A.wd.length .none)):=MH.sd;have KZ:=(fresh Qv).2;generalize (M.set t1 (.list [.none])).set pc (.list (replicate A.wd.length .none))=H5 at V U⊢;haveI l5:=l3.trans V;erw[[Ae,HJ],⟨Vd rfl,λt2 YX=>?_⟩,haveI l6:=l5.new (o:=.list [.int 0]) YX;?_,(a.mono l6).aN (De (l6 _ _ a.2) (Re p) ?_),Er (aa ..) ?_,[Ae],YK MH.sd (ya p akq) λpw LZ=>?_];haveI z:=((akr H5).new (o:=.list [.int 0]) YX).new (o:=.list (replicate A.wd.length (.int 0))) LZ;haveI e7:((H5.set t2 (.list [.int 0])).set pw (.list (replicate A.wd.length (.int 0)))) pw=some (.list (replicate A.wd.length (.int 0))):=MH.sd;haveI c_:=(fresh LZ).2;generalize (H5.set t2 (.list [.int 0])).set pw (.list (replicate A.wd.length (.int 0)))=H7 at z e7⊢;haveI I:=V.trans z;haveI MZ:=V.fresh c_;have T:=w [] λzz h=>qd h Ea;have Vl:∀x,M x=none->x≠L/\x≠G/\x≠F:=λx D=>by
  erw[eE T.6 λf y=>(eE T.7 λzz y2=>(eE T.8 λzz y3=>⟨(Gd y.1 D).symm,(Gd y2.1 D).symm,(Gd y3.1 D).symm⟩))]
 erw[eE c1.2 λW1 u=>?_];have x:oQ A ⟨d,pl,k,most,P,p5,L,pc,pw,vs,G,F⟩ N:=
  ⟨a.mono S,W,hk,⟨W1,E.1 _ _ u.1,u.2,λc hc=>ja (u.3 c hc) (ja (m:=100000) (je 0x186a05c1021db33e83ce1b103c2ce0b20 rfl W HE) akq)⟩,⟨_,E⟩,C.fresh KZ,C.fresh MZ,Gd U c_,Vl pc KZ,Vl pw MZ⟩
 haveI s0:Jm A ⟨d,pl,k,most,P,p5,L,pc,pw,vs,G,F⟩ N 0 (8*0) H7:=by
  refine⟨(w [pc,pw] λq hq=>?_).mono I,⟨replicate A.wd.length none,(Er List.map_replicate (z _ _ U)),Bb,λj hj=>?_,λj l r hj=>qd hj (kc _)⟩,replicate A.wd.length 0,(Er List.map_replicate e7),Bb⟩
  ·rcases xa hq with rfl|hq
   ·erw[Vl _ KZ]
   ·erw[Er (ia hq) (Vl _ MZ)]
  ·refine Er List.getElem?_replicate ?_;exact Er (Ec (yd hj)) rfl
 clear w T Vl U e7 u;erw[[GJ],Qd λB R hB hR=>?_,haveI l7:=l3.trans I;?_,[],(a.mono l7).aN (De (l7 _ _ a.2) (Re p) ?_),Er (aa ..) (Rf (ya p akq) (Ze (ya p akq) ?_)),be (λt:MV×MV×S8=>tC ⟨d,pl,k,most,P,p5,L,pc,pw,vs,G,F⟩ t.1 t.2.1 t.2.2) (λi t H'=>Jm A ⟨d,pl,k,most,P,p5,L,pc,pw,vs,G,F⟩ N i (8*i) H') (.td,.td,.td,.td,.td,.td,.td,.td,.td,.td) s0 (λzz zz zz zz=>trivial) ?_ ?_]
 ·intro i v Zd H8 K D s zd Ul _;erw[Ak v (Ud D) λhi=>(hB _ _ _ (QE (b:=Zd.2.1) (s:=Zd.2.2) (dn J) x s hi (λb Z H' Y=>zd (iv i,b,Z) H' Y) λb Z H' Y=>Ul (iv i,b,Z) H' Y))]
 ·intro bf H8 s;rw[aa,Ca]at s;have s:=s;obtain⟨O,y⟩:=s.2;erw[hR _ _ ?_,[FJ],h pc H8 O (S.trans s.1.1) y.1 ⟨y.2,y.3,λj l r e=>y.4 j l r (yd e) e⟩]
inductive acp (A:Ag)(zf:List mQ)(ws:List Nat):Prop
 |mk (inc:ws.Pairwise (·<·)) (ch:∀x∈ws,∃c,zf[x]?=some (some c)) (outs:∀l∈A.outs,∀c,zf[l/2]?=some (some c)->l/2∈ws) (leaf:∀x∈ws,∀c,zf[x]?=some (some c)->∀y∈c.1,∀c',zf[y]?=some (some c')->y∈ws)
inductive Wn (A:Ag)(zf:List mQ)(H0:MH)(p:Nat)(g:List Bool->Prop)(H:MH):Prop
 |mk (le:H0.le H) (wb:∃bs:List Bool,A3 (H p=some (.list (bs.map MV.bool))) (bs.length=A.wd.length) (g bs))
def Ut (zf:List mQ)(bs:List Bool)(x:Nat):Bool:=(bs.getD x false)&&(zf.getD x none).isSome
theorem Wn.set {p y:Nat}{g g':List Bool->Prop}(w:Wn A zf H0 p g H)(b:H0 p=none)(a:y<A.wd.length)(c:A.wd.length<60)(h:∀bs:List Bool,bs.length=A.wd.length->g bs->g' (bs.set y true)):∃vs:List MV,A4 (H p=some (.list vs)) (y<vs.length) (vs.length<big) (Wn A zf H0 p g' (H.set p (.list (vs.set y (.bool true))))):=by erw[Zb (w.2) λbs x=>⟨_,x.1,by refine Er (aa ..) ?_;refine Er x.2 ?_;exact a,Re (by refine Er x.2 ?_;exact ya c akq),w.1.set b,bs.set y true,by refine Er (MH.sd ..) ?_;refine Er (List.map_set ..) ?_;rfl,by refine Er (length_set ..) ?_;exact x.2,h bs x.2 x.3⟩]
theorem Rn {bs:List Bool}{x y:Nat}(h:bs[x]?=some true):(bs.set y true)[x]?=some true:=by
 by_cases e:y=x
 ·erw[Er e (List.getElem?_set_self (yd h))]
 ·rw[List.getElem?_set_ne e];exact h
theorem wC:Fy vs c≠.td:=by cases c<;>exact MV.noConfusion
theorem ey:MV.beq (Fy vs c) .none=c.isNone:=by cases c<;>rfl
theorem acq {m:Nat}{K:List MV->(MH->Prop)->Prop}(a:0<m)(c:m<100000)(h:K ((range m).map λ(i:Nat)=>iv (m-1-i)) λ_=>True):Ff (.Il ((m-1:Nat):Int) (-1) (-1)) H K:=by
 erw[.inr ⟨rfl,rfl,by exact Lm 0xed30f10 rfl (Ua _),by exact Int.lt_of_le_of_lt (b:=100000) (Jy 0x186a05c03186a05ce1b10e1a011 rfl (Int.ofNat_sub (Int.ofNat_le.mp (Lm 0xe30efb10 rfl (Nb a)))) (Nb c)) akq,?_⟩,haveI f:(((m-1:Nat):Int)+1).toNat=m:=ta a;?_,Er f ?_];haveI e:((range m).map λ(i:Nat)=>MV.int (((m-1:Nat):Int)-(i:Int)))=(range m).map λ(i:Nat)=>iv (m-1-i):=List.map_congr_left λi d=>by
  haveI:=Mb d
  congr 1;exact Pc (O0 0x21a321a012 rfl (Int.ofNat_sub (Int.ofNat_le.mp (O0 0x231e2b10e1a012 rfl (Int.ofNat_sub (Int.ofNat_le.mp (Lm 0xe30efb10 rfl (Nb a)))) (Nb this))))) (O0 0x21a0321a011 rfl (Int.ofNat_sub (Int.ofNat_le.mp (O0 0x231e2b10e1a012 rfl (Int.ofNat_sub (Int.ofNat_le.mp (Lm 0xe30efb10 rfl (Nb a)))) (Nb this)))))
 erw[Er e h]
theorem TE (O:H0 p=none)(J:A.wd.length<60)(V:H0 pc=some (.list (zf.map (Fy vs))))(D:zf.length=A.wd.length)(I:zf[x]?=some (some c))(U:Ch A.wd x c)(o:x=A.wd.length-(k+1)) (f:k<A.wd.length) (w:Wn A zf H0 p (λbs=>(∀l∈A.outs,bs[l/2]?=some true)/\∀(x:Nat)(c:List Nat×Nat×Option Mt),A.wd.length-k<=x->bs[x]?=some true->zf[x]?=some (some c)->∀y∈c.1,bs[y]?=some true) H)(S:∀C H',Wn A zf H0 p (λbs=>(∀l∈A.outs,bs[l/2]?=some true)/\∀(x:Nat)(c:List Nat×Nat×Option Mt),A.wd.length-(k+1)<=x->bs[x]?=some true->zf[x]?=some (some c)->∀y∈c.1,bs[y]?=some true) H'->K .next [.obj 1 d,.ref pc,.ref p,s3,iv x,C] H'):Kd (Ce X n) kU [.obj 1 d,.ref pc,.ref p,s3,iv x,C] H K:=by
 have W:(zf.map (Fy vs)).length<big:=Re (Er D (ya J akq));erw[Qd λB R T P=>?_,[],Ve (v:=Fy vs (some c)) (w.1 _ _ V) (by refine Er za ?_;exact Er I rfl) W ?_,Xe (k:=0) rfl (Vd rfl) (be (λt:MV=>[.obj 1 d,.ref pc,.ref p,s3,iv x,t]) (λj _ H'=>Wn A zf H0 p (λbs=>((∀l∈A.outs,bs[l/2]?=some true)/\∀(x:Nat)(c:List Nat×Nat×Option Mt),A.wd.length-k<=x->bs[x]?=some true->zf[x]?=some (some c)->∀y∈c.1,bs[y]?=some true)/\∀y∈c.1.take j,bs[y]?=some true) H') C (eE w.2 λbs y=>⟨w.1,bs,y.1,y.2,y.3,λy m=>by simp only[Fb]at m;exact qd m Ea⟩) (λ_ _ _ _=>trivial) ?_ ?_)]
 ·rintro j v t M Z L a N- -;rw[za,Ha]at L;erw[Ef v L λy m=>?_];have b:=U.2 y (Dd m);obtain⟨Y,u⟩:=a.set (y:=y) (g':=λbs=>((∀l∈A.outs,bs[l/2]?=some true)/\∀(x:Nat)(c:List Nat×Nat×Option Mt),A.wd.length-k<=x->bs[x]?=some true->zf[x]?=some (some c)->∀y∈c.1,bs[y]?=some true)/\∀y∈c.1.take (j+1),bs[y]?=some true) O (jo 0x4e0b34e3b2b1121111e0b10 rfl b o (ta f)) J λbs F E=>by
   refine⟨⟨λl D=>Rn (E.1.1 l D),λi G s r q z h=>?_⟩,λz h=>?_⟩
   ·rw[List.getElem?_set_ne (by exact Kc (ar7 0x6e0b36510435b124e3b2b1121111e0b10 rfl b o (ta f) (ta (je 0x1031e0b10 rfl f)) s))]at r;erw[Rn (E.1.2 i G s r q z h)]
   ·rw[Xd m,mem_append,mem_singleton]at h;rcases h with h|rfl
    ·erw[Rn (E.2 z h)]
    ·erw[List.getElem?_set_self (pN 0x5e0b345124e3b2b1121111e0b10 rfl b o (ta f) F)]
  erw[T _ _ _ ?_,[jU],putL u.1 u.2 u.3 (N _ _ u.4)]
 ·rintro t M a;haveI a:=(Sa ..)▸(aa ..)▸a;have a:=a;obtain⟨bs,y⟩:=a.2;erw[P _ _ (S t M ⟨a.1,bs,y.1,y.2,y.3.1.1,λi G s r q=>?_⟩)];by_cases e:A.wd.length-k<=i
  ·erw[y.3.1.2 i G e r q]
  ·obtain rfl:i=x:=by exact Ka (pN 0x50345123e2b4b12321b111e0b10 rfl (Nat.lt_of_not_le e) (ta (je 0x1031e0b10 rfl f)) (ta f) o) (se 0x20321101011 rfl o s)
   erw[Er (oa (oa (q.symm.trans I))) y.3.2]
theorem pQ {pc:Nat}(hn:1<=n)(a:Fe H d A)(uC:A.wd.length<60)(HE:∀x∈A.outs,x/2<A.wd.length)(Qv:H pc=some (.list (zf.map (Fy vs))))(G:dy A zf)(h:∀p H' ws,H.le H'->H p=none->H' p=some (.list (ws.map iv))->acp A zf ws->Q (.ref p) H'):Fd X n 64 [.obj 1 d,.ref pc] H Q:=by
 erw[eE (Of hn) λn Kk=>(Er Kk ?_),haveI s:A.wd.length<1000:=ya uC akq;?_,haveI Ej:=yd a.10;?_,have EE:(zf.map (Fy vs)).length<big:=Re (Er G.1 s);?_,Ad rfl rfl ?_,[Ae,p64,nU],⟨Vd rfl,λt ht=>?_⟩,haveI l1:=(akr H).new (o:=.list [.bool false]) ht;?_,(a.mono l1).aN (De (l1 _ _ a.2) (Re s) ?_),Er (aa ..) ?_,[Ae],YK MH.sd (ya s akq) λp hp=>?_,haveI Ds:=(fresh hp).2;?_,haveI w0:Wn A zf H p (λf=>∀l∈A.outs.take 0,f[l/2]?=some true) ((H.set t (.list [.bool false])).set p (.list (replicate A.wd.length (.bool false)))):=⟨l1.new hp,replicate A.wd.length false,by exact Er (MH.sd ..) (Er (List.map_replicate ..) rfl),Bb,λl L=>by simp only[Fb]at L;exact qd L Ea⟩;?_,Qd λB R T S=>?_,[],(a.mono w0.1).aO (ve (w0.1 _ _ a.4) ?_),be (λt:MV=>[.obj 1 d,.ref pc,.ref p,t,.td,.td]) (λk _ H'=>Wn A zf H p (λf=>∀l∈A.outs.take k,f[l/2]?=some true) H') _ w0 (λ_ _ _ w=>w.1 _ _ a.4) ?_ ?_]
 ·rintro k v t H3 K3 C w P- -;rw[za,Ha]at C;erw[Ef v C λl L=>?_];have pW:=HE l (Dd L);obtain⟨ws,u⟩:=w.set (g':=λf=>∀l∈A.outs.take (k+1),f[l/2]?=some true) Ds pW uC λf hbl hg l' Yv=>by
   rw[Xd L,mem_append,mem_singleton]at Yv;rcases Yv with Yv|rfl
   ·erw[Rn (hg l' Yv)]
   ·erw[List.getElem?_set_self (Er hbl pW)]
  erw[T _ _ _ ?_,[iU],yk (b:=1) (Er (Nat.pow_one ..) (putL u.1 u.2 u.3 (P _ _ u.4)))]
 ·rintro s3 H3 w;haveI w:=(Sa ..)▸(aa ..)▸w;have w:=w;erw[S _ _ ?_];clear T S;erw[Qd λB R T S=>?_,[],(a.mono w.1).aN (De (w.1 _ _ a.2) (Re s) ?_),Er (aa ..) (zv (b:=1) Ej ⟨Hh (ja (Nat.sub_le _ _) (ya s akq)),⟨akq,akq⟩,rfl,acq Ej (ya s akq) ?_⟩),be (λt:MV×MV=>[.obj 1 d,.ref pc,.ref p,s3,t.1,t.2]) (λk _ H'=>Wn A zf H p (λf=>(∀l∈A.outs,f[l/2]?=some true)/\∀(x:Nat)(c:List Nat×Nat×Option Mt),A.wd.length-k<=x->f[x]?=some true->zf[x]?=some (some c)->∀y∈c.1,f[y]?=some true) H') (_,_) ?_ (λ_ _ _ _=>trivial) ?_ ?_]
  ·obtain⟨f,y⟩:=w.2;exact⟨w.1,f,y.1,y.2,y.3,λx c E i Y=>qd (yd Y) (Er G.1 (rc E))⟩
  ·intro k v rg V K4 C r P _ _;erw[Ak v (Ud C) λm=>?_];obtain⟨f,y⟩:=r.2;have Wr:A.wd.length-1-k<A.wd.length:=oi 0x3e0b33e2b11210b11 rfl (ta (se 0x2031e2b121e0b10 rfl m (ta (je 0x1e31e0b10 rfl m)))) (ta (je 0x1e31e0b10 rfl m));obtain⟨N,U⟩:∃N,f[A.wd.length-1-k]?=some N:=⟨_,wa (Er y.2 Wr)⟩;erw[eE (⟨_,wa (Er G.1 Wr)⟩:∃F,zf[A.wd.length-1-k]?=some F) λF D=>?_];have J:A.wd.length-1-k=A.wd.length-(k+1):=Ka (jo 0x4033e1b4b123e2b11210b11 rfl (ta (se 0x2031e2b121e0b10 rfl m (ta (je 0x1e31e0b10 rfl m)))) (ta (je 0x1e31e0b10 rfl m)) (ta m)) (jo 0x403314b122e3b122e1b0b11 rfl (ta m) (ta (je 0x1e31e0b10 rfl m)) (ta (se 0x2031e2b121e0b10 rfl m (ta (je 0x1e31e0b10 rfl m)))));generalize A.wd.length-1-k=x at*
   haveI skip:(f[x]?=some true->∀c,zf[x]?=some (some c)->False)->Wn A zf H p (λf=>(∀l∈A.outs,f[l/2]?=some true)/\∀(x:Nat)(c:List Nat×Nat×Option Mt),A.wd.length-(k+1)<=x->f[x]?=some true->zf[x]?=some (some c)->∀y∈c.1,f[y]?=some true) V:=λbo=>⟨r.1,f,y.1,y.2,y.3.1,λx' I E i Y=>by
    by_cases e:A.wd.length-k<=x'
    ·erw[y.3.2 x' I e i Y]
    ·obtain rfl:x'=x:=by exact Ka (pN 0x50345123e2b4b12321b111e0b10 rfl (Nat.lt_of_not_le e) (ta (je 0x1031e0b10 rfl m)) (ta m) J) (se 0x20321101011 rfl J E)
     exact(bo i I Y).elim⟩
   erw[T _ _ _ ?_,[lU],qe λR4 Qh=>bZ ?_,[],Ve y.1 (by refine Er (za ..) ?_;exact Er U rfl) (Re (Er y.2 s)) ?_,⟨λe=>?_,λe=>⟨λe=>(nomatch e),λ_=>Qh _ _ (P (iv x,rg.2) V (skip λE=>by rw[U,e]at E;exact(nomatch E)))⟩⟩,Ve (r.1 _ _ Qv) (by refine Er (za ..) ?_;exact Er D rfl) EE (Dv wC ?_),Er ey ⟨λZ=>?_,λZ=>Qh _ _ (P (iv x,rg.2) V (skip λ_ c i=>?_))⟩]
   ·cases F with
    |none=>exact(nomatch Z)|some c=>
     obtain⟨I,Mq,ch⟩:∃I,zf[x]?=some (some I)/\Ch A.wd x I:=by
      erw[eE (⟨_,wa Wr⟩:∃nd,A.wd[x]?=some nd) λnd Im=>?_];cases nd with
      |none=>rw[G.2 x Im]at D;exact(nomatch D)
      |some pr=>exact G.3 x pr.1 pr.2 Im
     obtain rfl:=oa (oa (D.symm.trans Mq));erw[TE Ds uC Qv G.1 D ch J m r λs5 O w5=>Qh _ _ (P (iv x,s5) O w5)]
   ·rw[D]at i;rw[oa i]at Z;exact(nomatch Z)
  ·intro ur V r;obtain⟨t1,t2⟩:=ur;have r:=(Ca ..)▸(aa ..)▸r;obtain⟨f,y⟩:=r.2;erw[S _ _ ?_];clear T S;haveI e3:Yi [none,none,some 1,some 2] [.obj 1 d,.ref pc,.ref p,s3,t1,t2]=[.td,.td,.ref pc,.ref p]:=rfl;unfold mU;erw[Er YY (Er Sh ?_),[],(a.mono r.1).aN (De (r.1 _ _ a.2) (Re s) ?_),Er (aa ..) (Rf (ya s akq) (Ze (ya s akq) ?_)),Gg (λk=>((range k).filter (Ut zf f)).map iv) (λk j H'=>A3 (j=k) (H'=V) (k<=A.wd.length)) 0 rfl ⟨rfl,rfl,Ta _⟩ (λk j H' x=>⟨trivial,Re (ja filter_le (Er x.1 (ja x.3 s)))⟩) ?_ ?_]
   ·intro k v j O K C Zd hK;obtain rfl:=Zd.1;obtain rfl:=Zd.2;erw[Ak v (Ud C) λW=>?_];obtain⟨N,U⟩:∃N,f[j]?=some N:=⟨_,wa (Er y.2 W)⟩;erw[eE (⟨_,wa (Er G.1 W)⟩:∃F,zf[j]?=some F) λF D=>?_];haveI hw:Ut zf f j=(N&&F.isSome):=by
     unfold Ut;refine Er (Ga ..) ?_;refine Er U ?_;refine Er (Ga ..) ?_;exact Er D rfl
    have no:Ut zf f j=false->K [] O:=λe=>hK [] (j+1) O (Er (Xb ..) (Er (Vb ..) (Er (Wb ..) (Er e (Er (Dc Na) (Er (Aa ..) rfl)))))) ⟨rfl,rfl,W⟩;erw[Er e3 ?_,[],Ve y.1 (by refine Er (za ..) ?_;exact Er U rfl) (Re (Er y.2 s)) ?_,⟨λe=>?_,λe=>?_⟩]
    ·subst e;erw[Ve (r.1 _ _ Qv) (by refine Er (za ..) ?_;exact Er D rfl) EE (Dv wC ?_),Er ey ?_];cases F with
     |none=>exact⟨λe=>(nomatch e),λ_=>⟨λe=>(nomatch e),λ_=>no hw⟩⟩|some c=>
      erw[⟨λ_=>⟨λ_=>?_,λe=>(nomatch e)⟩,λe=>(nomatch e)⟩,[],hK _ (j+1) O ?_ ⟨rfl,rfl,W⟩,Er (Xb ..) (Er (Vb ..) (Er (Aa ..) (Er (Wb ..) (Er hw rfl))))]
    ·subst e;exact⟨λe=>(nomatch e),λ_=>⟨λe=>(nomatch e),λ_=>no hw⟩⟩
   ·intro j O bf;obtain⟨e,rfl,-⟩:=bf;rw[aa,Ca]at e;subst e;intro q hq;have Ar:∀x,x∈(range A.wd.length).filter (Ut zf f)↔f[x]?=some true/\∃c,zf[x]?=some (some c):=λx=>by
     rw[mem_filter,mem_range];unfold Ut;refine Er (Ga ..) ?_;refine Er (Ga ..) ?_;constructor
     ·intro fg;erw[eA fg λE i=>?_];simp only[Da]at i;cases hb:f[x]? with
      |none=>rw[hb]at i;exact(nomatch i.1)
      |some b=>
       rw[hb]at i;have i:=i;cases M:zf[x]? with
       |none=>rw[M]at i;exact(nomatch i.2)
       |some c=>
        rw[M]at i;exact⟨Fc some i.1,(Option.isSome_iff_exists.mp i.2).imp λc h=>Fc some h⟩
     ·intro ji;erw[HW ji λE c i=>(Er E (Er i ?_)),⟨by haveI:=yd i;rwa[G.1]at this,rfl⟩]
    erw[h q _ _ (r.1.new hq) (r.1.fresh hq) MH.sd ⟨List.Pairwise.filter _ List.pairwise_lt_range,λx C=>((Ar x).mp C).2,λl L c M=>(Ar _).mpr ⟨y.3.1 l L,c,M⟩,λx C c M z hz I Mq=>(Ar z).mpr ⟨y.3.2 x c (se 0x203110b11 rfl (ta (ee 0x3 rfl))) ((Ar x).mp C).1 M z hz,I,Mq⟩⟩]
end
section
structure BB where
 d:Nat
 dr:Nat
 pl:Nat
 pv:Nat
 n:Nat
 vs:List MV
 H0:MH
def nh (i:Nat):MV:=.tup [.str (cT i).1,iv (Kf i)]
def Kn (n:Nat)(R:Nt)(x:Nat):Prop:=x<2+n\/∃c∈R.cells,c.out=x
inductive Rk (n:Nat)(R:Nt):Prop
 |mk (tW:∀c∈R.cells,∃i,A4 (i<13) (c.k=1) (c.par=nh i) (c.ins.length=Yp i)) (top:∀(j:Nat)(c:Cl),R.cells[j]?=some c->∀x∈c.ins,x<2+n+j) (out:R.cells.map (·.out)=range' (2+n) R.cells.length) (cnt:R.cnt=2+n+R.cells.length)
inductive RE (R R':Nt):Prop
 |mk (ex:∃more c,R'={R with cnt:=c,cells:=R.cells++more})
inductive Bd (b:BB)(R:Nt)(m:Nat)(H:MH):Prop
 |mk (le:b.H0.le H) (tW:rf b.H0 b.pl b.vs) (nt:Md H b.dr R) (n1:b.H0 b.dr=none) (n2:b.H0 R.pc=none) (n3:b.H0 b.pv=none) (dd:b.d≠b.dr) (rk:Rk b.n R) (cl:R.cells.length<=m) (ob:∃f,A4 (H b.d=some (.ns f)) (f 46=.obj 0 b.dr) (f 43=.ref b.pl) (f 47=.ref b.pv)) (iv':∃xd,A3 (H b.pv=some (.dict xd)) (xd.length<=2+m) (∀a v,ce xd (iv a)=some v->∃y,A3 (v=iv y) (Kn b.n R y) (∀w,ki R.cells w->w y=!w a)))
theorem RE.refl {R:Nt}:RE R R:=⟨[],R.cnt,by exact Er (ib ..) rfl⟩
theorem RE.trans {R S T:Nt}(x:RE R S)(y:RE S T):RE R T:=by obtain⟨b,d,rfl⟩:=x;obtain⟨a,c,rfl⟩:=y;exact⟨b++a,c,by exact Es (Db ..) rfl⟩
theorem RE.pc {R S:Nt}(x:RE R S):S.pc=R.pc:=by obtain⟨a,b,rfl⟩:=x;rfl
theorem ki.pre {a b:List Cl}{w:Va}(h:ki (a++b) w):ki a w:=⟨h.1,h.2,λc d=>h.3 c (Za (.inl d))⟩
theorem RE.nc {R S:Nt}{w:Va}(x:RE R S)(h:ki S.cells w):ki R.cells w:=by obtain⟨a,b,rfl⟩:=x;exact h.pre
theorem RE.kn {R S:Nt}{n y:Nat}(x:RE R S)(h:Kn n R y):Kn n S y:=by obtain⟨d,f,rfl⟩:=x;exact h.imp id λb=>by obtain⟨c,a,e⟩:=b;exact⟨c,Za (.inl a),e⟩
theorem Rk.fM {n y:Nat}{R:Nt}(r:Rk n R)(h:Kn n R y):y<2+n+R.cells.length:=by
 rcases h with h|⟨c,hc,rfl⟩
 ·erw[se 0x2121cbbe0b3121cbe0b10 rfl h]
 ·haveI:c.out∈R.cells.map (·.out):=mem_map.mpr ⟨c,hc,rfl⟩;rw[r.3,List.mem_range'_1]at this;erw[this.2]
inductive Mk (b:BB)(R:Nt)(m:Nat)(H:MH)(g:Va->Bool)(y:Nat)(R':Nt)(H':MH):Prop
 |mk (bd:Bd b R' m H') (off:Off [b.dr,R.pc,b.pv] H H') (ex:RE R R') (kn:Kn b.n R' y) (val:∀w,ki R'.cells w->w y=g w)
theorem Bd.a46 (c:Bd b R m H)(h:Q (.obj 0 b.dr) H):Te (.obj 4 b.d) 46 H Q:=by obtain⟨_,x⟩:=c.10;exact Vh x.1 x.2 MV.noConfusion h
theorem Bd.T9 (c:Bd b R m H)(h:Q (.ref b.pl) H):Te (.obj 4 b.d) 43 H Q:=by obtain⟨_,x⟩:=c.10;exact Vh x.1 x.3 MV.noConfusion h
theorem Bd.U' (c:Bd b R m H)(h:Q (.ref b.pv) H):Te (.obj 4 b.d) 47 H Q:=by obtain⟨_,x⟩:=c.10;exact Vh x.1 x.4 MV.noConfusion h
theorem Bd.Ei {k f:Nat}(c:Bd b R m H)(h:X.Zf 4 k=some f):Ng (Ce X n) k (.obj 4 b.d) H:=by obtain⟨_,x⟩:=c.10;exact rObj h x.1
theorem Md.rQ {S:List Nat}{H':MH}{d:Nat}{N:Nt}(a:Md H d N)(o:Off S H H')(h:∀x∈S,x≠d/\∀l,H x≠some (.list l)):Md H' d N:=by erw[eE a.1 λf x=>?_];haveI k:∀p l,H p=some (.list l)->H' p=some (.list l):=λp l e=>o _ _ (λm=>(h p m).2 l e) e;exact⟨⟨f,o _ _ (λm=>(h _ m).1 rfl) x.1,x.2,x.3,x.4,x.5,x.6⟩,k _ _ a.2,k _ _ a.3,k _ _ a.4,λy b=>⟨k _ _ (a.5 y b).1,(a.5 y b).2,(a.5 y b).3,(a.5 y b).4⟩,a.6,a.7,a.8⟩
theorem Bd.mono {H':MH}(c:Bd b R m H)(h:H.le H'):Bd b R m H':=
 ⟨c.1.trans h,c.2,c.3.mono h,c.4,c.5,c.6,c.7,c.8,c.9,by obtain⟨f,x⟩:=c.10;exact⟨f,h _ _ x.1,x.2,x.3,x.4⟩,by obtain⟨k,x⟩:=c.11;exact⟨k,h _ _ x.1,x.2,x.3⟩⟩
theorem Bd.up {m':Nat}(c:Bd b R m H)(h:m<=m'):Bd b R m' H:=
 ⟨c.1,c.2,c.3,c.4,c.5,c.6,c.7,c.8,Ba c.9 h,c.10,by obtain⟨k,x⟩:=c.11;exact⟨k,x.1,Ba x.2 (Gc h 2),x.3⟩⟩
theorem Bd.rQ {S:List Nat}{H':MH}(c:Bd b R m H)(o:Off S H H')(g:b.H0.le H')(h:∀x∈S,x≠b.dr/\x≠b.d/\x≠b.pv/\x≠R.pi/\x≠R.po/\x≠R.pc/\∀y,y∈R.ins\/y∈R.outs->y.r≠x):Bd b R m H':=by
 have e:Md H' b.dr R:=by
  erw[eE c.3.1 λf x=>?_]
  exact⟨⟨f,o _ _ (λm=>(h _ m).1 rfl) x.1,x.2,x.3,x.4,x.5,x.6⟩,o _ _ (λm=>(h _ m).2.2.2.1 rfl) c.3.2,o _ _ (λm=>(h _ m).2.2.2.2.1 rfl) c.3.3,o _ _ (λm=>(h _ m).2.2.2.2.2.1 rfl) c.3.4,
   λy a=>⟨o _ _ (λm=>(h _ m).2.2.2.2.2.2 y a rfl) (c.3.5 y a).1,(c.3.5 y a).2,(c.3.5 y a).3,(c.3.5 y a).4⟩,c.3.6,c.3.7,c.3.8⟩
 exact⟨g,c.2,e,c.4,c.5,c.6,c.7,c.8,c.9,by obtain⟨f,x⟩:=c.10;exact⟨f,o _ _ (λm=>(h _ m).2.1 rfl) x.1,x.2,x.3,x.4⟩,by obtain⟨k,x⟩:=c.11;exact⟨k,o _ _ (λm=>(h _ m).2.2.1 rfl) x.1,x.2,x.3⟩⟩
theorem Rk.add {n i:Nat}{ins:List Nat}(r:Rk n R)(hi:i<13)(f:ins.length=Yp i)(g:∀x∈ins,Kn n R x):Rk n {R with cnt:=R.cnt+1,cells:=R.cells++[⟨1,R.cnt,ins,nh i⟩]}:=by
 refine⟨λc b=>?_,λj c a x e=>?_,?_,?_⟩
 ·rcases Oa b with b|b
  ·erw[r.1 c b]
  ·erw[Er (ia b) ⟨i,hi,rfl,rfl,f⟩]
 ·haveI a:(R.cells++[⟨1,R.cnt,ins,nh i⟩])[j]?=some c:=a;rw[tc]at a;by_cases d:j<R.cells.length
  ·rw[Ec d]at a;exact r.2 j c a x e
  ·rw[Dc d,Lc]at a;have a:=a;by_cases h0:j-R.cells.length=0
   ·rw[Ec h0]at a;obtain rfl:=oa a;haveI:=r.fM (g x e);erw[oi 0x3121cbbe0b332102121cbbe0b10 rfl this (uc d)]
   ·have a:=(Dc h0)▸a;exact nn a
 ·show(R.cells++_).map (·.out)=range' (2+n) (R.cells++_).length;erw[Er Aa (Er r.3 (Er ua (Er xb (Er r.4 ?_))))];show _=range' (2+n) (R.cells.length+1);erw[Er (List.range'_concat ..) (Er (Qb ..) rfl)]
 ·show R.cnt+1=2+n+(R.cells++_).length;erw[Er ua (Er r.4 rfl)]
theorem xC {i:Nat}{v:MV}{ins:List Nat}(A:2<=n)(c:Bd b R m H)(B:m<900)(hi:i<13)(q:ins.length=Yp i)(C:∀x∈ins,Kn b.n R x)(s:Seq H v ins)(h:∀D H',Mk b R (m+1) H (λw=>(Kf i).testBit (ze (ins.map w))) R.cnt D H'->Q (iv R.cnt) H'):Fd X n 8 [.obj 0 b.dr,.str 1,v,nh i] H Q:=by
 haveI p:∀i:Nat,i<13->Yp i<10:=by decide
 erw[Cr A (Er q (ya (p i hi) akq)) (ja c.9 (ya B akq)) c.3 s MV.noConfusion λH' o a=>h {R with cnt:=R.cnt+1,cells:=R.cells++[⟨1,R.cnt,ins,nh i⟩]} H' ?_];have ex:RE R {R with cnt:=R.cnt+1,cells:=R.cells++[⟨1,R.cnt,ins,nh i⟩]}:=⟨_,_,rfl⟩;haveI hle:b.H0.le H':=o.le c.1 λx j=>by
  rcases xa j with rfl|j
  ·erw[c.4]
  ·erw[Er (ia j) c.5]
 erw[eE c.10 λf x=>(eE c.11 λr y=>(eE c.3.1 λg z=>?_))];haveI k:b.pv∉[b.dr,R.pc]:=λj=>by
  rcases xa j with j|j
  ·exact(og z.1 y.1 λzz=>MO.noConfusion) j.symm
  ·erw[Le y.1 c.3.4 (ia j)]
 haveI nd:b.d∉[b.dr,R.pc]:=λj=>by
  rcases xa j with j|j
  ·erw[c.7 j]
  ·exact(og x.1 c.3.4 λzz=>MO.noConfusion) (ia j)
 refine⟨⟨hle,c.2,a,c.4,c.5,c.6,c.7,c.8.add hi q C,?_,⟨f,o _ _ nd x.1,x.2,x.3,x.4⟩,r,o _ _ k y.1,Ba y.2 (ee 0xe0b21cb021cb3 rfl),λa v e=>(eE (y.3 a v e) λu t=>⟨u,t.1,ex.kn t.2,λw l=>t.3 w (ex.nc l)⟩)⟩,o.more λx j=>?_,ex,.inr ⟨_,Za (.inr (.head _)),rfl⟩,λw l=>(l.3 ⟨1,R.cnt,ins,nh i⟩ (Za (.inr (.head _))) rfl)⟩
 ·show(R.cells++_).length<=m+1;erw[Er ua (Wa c.9)]
 ·rcases xa j with rfl|j
  ·erw[.head _]
  ·rw[ia j];exact .tail _ (.head _)
theorem Bd.put {x y:Nat}(c:Bd b R m H)(i:Kn b.n R y)(j:∀w,ki R.cells w->w y=!w x):∃d,A3 (H b.pv=some (.dict d)) (d.length<=2+m) (Bd b R (m+1) (H.set b.pv (.dict (dput d (iv x) (iv y))))):=by
 erw[eE c.10 λf u=>(eE c.11 λd z=>?_)];obtain⟨g,t⟩:=c.3.1;haveI nd:b.dr≠b.pv:=og t.1 z.1 λzz=>MO.noConfusion;refine⟨d,z.1,z.2,c.1.set c.6,c.2,c.3.rQ (S:=[b.pv]) (aku.set (.head _)) λq k=>(Er (ia k) ⟨nd.symm,λl e=>by have e:=z.1▸e;cases e⟩),c.4,c.5,c.6,c.7,c.8,Qc c.9,⟨f,(MH.ud (og u.1 z.1 λzz=>MO.noConfusion)).trans u.1,u.2,u.3,u.4⟩,_,MH.sd,Ba xf (Wa z.2),λa v e=>?_⟩
 ·rw[ie,Ye]at e;by_cases h:(x==a)=true
  ·rw[Ec h]at e;have e:=e;erw[Es (ub h) ⟨y,(oa e).symm,i,j⟩]
  ·rw[Dc h]at e;exact z.3 a v e
theorem dq {x:Nat}(l:3<=n)(c:Bd b R m H)(p:m<900)(j:Kn b.n R x)(h:∀y g H',Mk b R (m+3) H (λw=>!w x) y g H'->Q (iv y) H'):Fd X n 66 [.obj 4 b.d,iv x] H Q:=by
 erw[eE (Of l) λn K=>?_];subst K;have tail:∀g H' s r,Bd b g (m+3) H'->Off [b.dr,R.pc,b.pv] H H'->RE R g->(∃a v,H' b.pv=some (.dict a)/\ce a (iv x)=some v)->Kd (Ce X n) MJ [.obj 4 b.d,iv x,s,r] H' λI zz H'=>Q (Af I) H':=by
  intro g H' s r q o ex L;erw[vf L λa v B A=>(eE q.11 λt z=>?_)];obtain rfl:a=t:=MO.dict.inj (oa (B.symm.trans z.1));obtain⟨y,u⟩:=z.3 x v A;obtain rfl:=u.1;erw[[MJ],q.U' (Ll B rfl A (h y g H' ⟨q,o,ex,u.2,u.3⟩))]
 erw[Ad rfl rfl ?_,[p66,vU],qe λO C=>(eE c.11 λa z=>?_),[],c.U' (Ix z.1 rfl ⟨λe=>?_,λe=>C _ _ (tail R H _ _ (c.up (jb m 3)) aku RE.refl ?_)⟩)]
 ·clear z e a;erw[Xf ((c.2.mono c.1).get (i:=0) akq) λN zz J D=>?_,[uU],c.T9 (rL (dn l) (c.2.mono c.1) ?_),Er J ?_,[tU],c.a46 ⟨c.3.Ei rfl,Vd rfl,D.name (D.tab ⟨Vd rfl,?_⟩)⟩,Ih rfl (xC (i:=0) (v:=.tup [iv x]) (ins:=[x]) (dn l) c p akq rfl (λz G=>by exact Er (ia G) j) (.inl rfl) λE P f=>?_)];have v1:∀w,ki E.cells w->w R.cnt=!w x:=λw k=>by
   erw[Er (f.5 w k) ?_];show Nat.testBit 1 (ze [w x])=_;cases w x<;>rfl
  erw[eE (f.1.put (x:=x) f.4 v1) λF p1=>?_,[sU],f.1.U' (putD p1.1 rfl (ja p1.2 (ya (by exact ee 0x7d03cee0b21cbb33843ce0b10 rfl p:2+(m+1)<2000) akq)) ?_)];obtain⟨t,p2⟩:=p1.3.put (x:=R.cnt) (y:=x) (f.3.kn j) λw k=>by exact Er (v1 w k) (Er (Bool.not_not ..) rfl)
  obtain rfl:=MO.dict.inj (oa (MH.sd.symm.trans p2.1));erw[[rU],p1.3.U' (putD p2.1 rfl (ja p2.2 (ya (by exact ee 0x7d03ceee0bb21cbb33843ce0b10 rfl p:2+(m+1+1)<2000) akq)) (C _ _ (tail E _ _ _ p2.3 ((f.2.set (.tail _ (.tail _ (.head _)))).set (.tail _ (.tail _ (.head _)))) f.3 ⟨_,iv R.cnt,MH.sd,?_⟩)))];haveI M:R.cnt≠x:=λe=>by
   haveI:=c.8.fM j;rw[<-c.8.4,e]at this;erw[Ic _ this]
  erw[Er ie (Er Ye (Er (Dc (λe=>M (ub e))) (Er ie (Er Ye (Er (Ec (Pa x)) rfl)))))]
 ·cases hd:ce a (iv x)with
  |none=>have e:=hd▸e;exact tf e
  |some v=>exact⟨a,v,z.1,hd⟩
end
section
variable {H H' H0 : MH} {Q : MV → MH → Prop} {K : MF → List MV → MH → Prop} {g : Nat → Nat → Bool}
theorem getD_at {l:List Nat}{i:Nat}(h:i<l.length):l[i]?=some (l.getD i 0):=by refine Er Ga ?_;refine Er (wa h) ?_;rfl
theorem Vt:∀{l:List Bool},ze (l++[b])=ze l+b.toNat*2^l.length:=by
 intro l
 induction l with
 |nil=>
  exact((bc _).trans (Nat.mul_one _)).symm
 |cons a l c=>
  show a.toNat+2*ze (l++[b])=a.toNat+2*ze l+b.toNat*2^(l.length+1);refine Er c (Er (Nat.pow_succ ..) ?_);rw[Nat.mul_add,Nat.mul_left_comm,Nat.mul_comm 2,Nat.mul_comm 2 (2^l.length),<-Yb]
theorem Gr {g:Nat->Bool}{k:Nat}:ze ((range k).map g)=(range k).foldl (λa j=>a+(g j).toNat*2^j) 0:=by
 induction k with
 |zero=>rfl|succ k b=>exact Er foldl_succ (Er (Xb ..) (Er (Aa ..) (Er (xb ..) (Er Vt (Er b (Er (aa ..) (Er (Ca ..) rfl)))))))
theorem fy:((m/2^i&&&1:Nat):Int)!=0↔m.testBit i=true:=by
 refine Er Nat.testBit_eq_decide_div_mod_eq ?_;rw[AA,decide_eq_true_iff];haveI h:=Nat.mod_two_eq_zero_or_one (m/2^i);constructor
 ·intro e;erw[Or.elim h (λh=>?_) (λh=>h)]
  ·rw[h]at e;exact(nomatch e)
 ·intro e;exact Er e rfl
theorem gM {T k:Nat}{m:Mt}{ls is:List Nat}{w:Va}(mo:MOk T k m)(b:ls.length=k)(h:is.map w=(range k).map λj=>xor (w (ls.getD (m.2.1.getD j 0) 0)) (m.2.2.1.testBit j)):T.testBit (ze (ls.map w))=xor ((Kf m.1).testBit (ze (is.map w))) (m.2.2.2==1):=by
 haveI c:ze (ls.map w)<2^k:=by haveI:=Qn (ls.map w);rwa[aa,b]at this
 erw[Er (mo.8 _ c) (Er h ?_)];unfold Zp;erw[Es (Gr (g:=λj=>xor ((ze (ls.map w)).testBit (m.2.1.getD j 0)) (m.2.2.1.testBit j))) ?_]
 congr 3
 erw[List.map_congr_left λj a=>?_];haveI a:=Mb a;haveI d:m.2.1.getD j 0<ls.length:=by
  rw[b,Ga,wa (Er mo.3 a)];erw[mo.6 _ (List.getElem_mem _)]
 haveI e:=getD_at d;haveI f:(ze (ls.map w)).testBit (m.2.1.getD j 0)=w (ls.getD (m.2.1.getD j 0) 0):=Nv e;erw[Er f rfl]
inductive yC (b:BB)(R:Nt)(q:Nat):Prop
 |mk (n0:b.H0 q=none) (sep:q≠b.dr/\q≠b.d/\q≠b.pv/\q≠R.pi/\q≠R.po/\q≠R.pc/\∀y,y∈R.ins\/y∈R.outs->y.r≠q)
theorem Bd.Vl (c:Bd b R m H)(h:H q=none):yC b R q:=by erw[eE c.10 λf x=>(eE c.11 λk y=>?_)];obtain⟨g,z⟩:=c.3.1;exact⟨c.1.fresh h,(Gd z.1 h).symm,(Gd x.1 h).symm,(Gd y.1 h).symm,(Gd c.3.2 h).symm,(Gd c.3.3 h).symm,(Gd c.3.4 h).symm,λy a=>Gd (c.3.5 y a).1 h⟩
theorem RE.Vl (x:RE R R')(f:yC b R q):yC b R' q:=by obtain⟨a,c,rfl⟩:=x;exact⟨f.1,f.2⟩
theorem yC.set (f:yC b R q)(c:Bd b R m H):Bd b R m (H.set q o):=c.rQ (S:=[q]) (aku.set (.head _)) (c.1.set f.1) λx a=>by exact(show _=_ from ia a).symm▸f.2
theorem yC.no (f:yC b R q):q∉[b.dr,R.pc,b.pv]:=λh=>by
 rcases xa h with h|h
 ·erw[f.2.1 h]
 rcases xa h with h|h
 ·erw[f.2.2.2.2.2.2.1 h]
 ·erw[f.2.2.2.1 (ia h)]
theorem UE {q T:Nat}{ls:List Nat}(o:4<=n)(c:Bd b R m H)(v:m<800)(f:H q=some (.list (ls.map iv)))(z:∀x∈ls,Kn b.n R x)(p:ls.length<=1)(i:T<2^2^ls.length)(A:ls.length=1->T=1\/T=2)(h:∀y j H',Mk b R (m+3) H (λw=>T.testBit (ze (ls.map w))) y j H'->Q (iv y) H'):Fd X n 68 [.obj 4 b.d,.ref q,iv T] H Q:=by
 erw[hide λC r=>?_];obtain⟨n,rfl⟩:=Of o;erw[r ?_];clear r;have here:∀y,Kn b.n R y->(∀w,ki R.cells w->w y=T.testBit (ze (ls.map w)))->Mk b R (m+3) H (λw=>T.testBit (ze (ls.map w))) y R H:=λy t u=>⟨c.up (jb _ _),aku,RE.refl,t,u⟩
 erw[Ad rfl rfl ?_,[p68,DU],qe λE B=>?_,[],De f (Re (ja p akq)) (Er (aa ..) ?_),[],⟨λe=>?_,λe=>B _ _ ?_⟩]
 ·have e:=zk (b:=0) e;obtain rfl:=List.eq_nil_of_length_eq_zero e;erw[Tj (b:=1) ?_,have i:T<2:=i;?_,h _ R H (here _ (.inl (by haveI:=Oh T;exact je 0x121cbe0b3e010 rfl this)) λw a=>?_)];show w (T&&&1)=T.testBit 0
  match T,i with
  |0,_=>exact a.1|1,_=>exact a.2
 ·haveI e:=Am (b:=0) e;obtain⟨x,rfl⟩:∃x,ls=[x]:=by
   match ls,p,e with
   |[x],_,_=>exact⟨x,rfl⟩|[],_,e=>exact qd rfl e
  haveI l:=z x (.head _);erw[qe λD s=>⟨λe=>?_,λe=>s _ _ ?_⟩]
  ·have e:=zk (b:=1) e;subst e;erw[[BU],⟨c.Ei rfl,Ve (k:=0) f rfl (Vd rfl) ?_⟩,Ih rfl (dq (dn o) c (ee 0x3843ce0b33203ce0b10 rfl v) l λy j H' k=>h y j H' ⟨k.1,k.2,k.3,k.4,λw a=>?_⟩),Er (k.5 w a) ?_];show _=Nat.testBit 1 (ze [w x]);cases w x<;>rfl
  ·have e:=(A rfl).resolve_left (Am (b:=1) e);subst e;erw[[CU],Ve (k:=0) f rfl (Vd rfl) (h x R H (here x l λw zz=>?_))];show _=Nat.testBit 2 (ze [w x]);cases w x<;>rfl
theorem sQ {q T:Nat}{ls:List Nat}{a:Option Mt}(C:5<=n)(c:Bd b R m H)(M:m<700)(W:H q=some (.list (ls.map iv)))(V:yC b R q)(hk:∀x∈ls,Kn b.n R x)(r:ls.length<=3)(hT:T<2^2^ls.length)(O:(ls.length<=1/\a=none/\(ls.length=1->T=1\/T=2))\/(2<=ls.length/\a≠none/\Ie T ls.length=a))(h:∀y t H',Mk b R (m+20) H (λw=>T.testBit (ze (ls.map w))) y t H'->Q (iv y) H'):Fd X n 67 [.obj 4 b.d,.ref q,iv T,Lf b.vs a] H Q:=by
 erw[eE (Of C) λn ji=>?_];subst ji;erw[Ad rfl rfl ?_,[p67,QJ],qe λJ cg=>?_];cases a with
 |none=>
  erw[pj (O.resolve_right λe=>e.2.1 rfl) λh1 zz h3=>?_];clear O;erw[[Lf],ZK MV.noConfusion ⟨λzz=>?_,λe=>(nomatch e)⟩,[wU],⟨c.Ei rfl,Ih rfl (UE (dn C) c (ee 0x3203ce0b32bc3ce0b10 rfl M) W hk h1 hT h3 λy t H' k=>h y t H' ⟨k.1.up (ee 0x142c0b31c0b3 rfl),k.2,k.3,k.4,k.5⟩)⟩]
 |some a=>
  erw[pj (O.resolve_left λe=>by exact(nomatch e.2.1)) λh2 zz h4=>?_];have mo:=LA ⟨by exact ee 0xe3021c10 rfl h2,r⟩ hT h4;clear O h4;haveI tW:=c.2.mono c.1;erw[hide λZz Od=>(Xf (tW.get mo.2) λG e1 e2 cc=>(Od ?_))];clear Od;erw[[Lf,pL],Er e2 (ZK MV.noConfusion ⟨λe=>(nomatch e),λzz=>cg _ _ ?_⟩)];clear cg J;erw[[PJ],⟨rfl,?_⟩,[OJ],⟨Vd rfl,λp A=>?_⟩,haveI Z:=c.Vl A;?_,haveI pq:q≠p:=Gd W A;?_,Qd λB R3 hB oj=>((cc.mono ((akr H).new A)).ins (Rf ?_ (Ze ?_ ?_)))]
  ·erw[Er mo.1 (ja r akq)]
  ·erw[Er mo.1 (ja r akq)]
  erw[Er mo.1 ?_];refine be (λs:MV×MV=>[.obj 4 b.d,.ref q,iv T,.tup [.obj 2 G,tv a.2.1,iv a.2.2.1,iv a.2.2.2],.obj 2 G,tv a.2.1,iv a.2.2.1,iv a.2.2.2,.ref p,s.1,s.2,.td]) (λi zz H'=>∃t is,A8 (Bd b t (m+3*i) H') (RE R t) (H' p=some (.list (is.map iv))) (is.length=i) (∀x∈is,Kn b.n t x) (∀w,ki t.cells w->is.map w=(range i).map λj=>xor (w (ls.getD (a.2.1.getD j 0) 0)) (a.2.2.1.testBit j)) (Off [b.dr,R.pc,b.pv] H H') (i<=ls.length)) (.td,.td) ⟨R,[],Z.set c,RE.refl,MH.sd,rfl,λx l=>qd l Ea,λw zz=>rfl,aku.put A,Ta _⟩ (λzz zz zz zz=>trivial) ?_ ?_
  ·intro i x s P K3 l Se zd _ _;erw[kl Se λR1 is y=>(Ak x (Ud l) λN=>?_),have ho:a.2.1[i]?=some (a.2.1.getD i 0):=getD_at (Er mo.3 N);?_,have Y:=mo.6 _ (Dd ho);?_,have D:ls[a.2.1.getD i 0]?=some (ls.getD (a.2.1.getD i 0) 0):=getD_at Y;?_,haveI E:=y.2.kn (hk _ (Dd D));?_,hB _ _ _ ?_,[yU],Xe (yf ho) (Re (Er mo.3 (ja r akq))) (Ve (y.7 _ _ V.no W) (yf D) (Re (ja r akq)) ?_)];have app:∀z J L,Mk b R1 (m+3*i+3) P (λw=>xor (w (ls.getD (a.2.1.getD i 0) 0)) (a.2.2.1.testBit i)) z J L->Kd (Ce X n) NJ [.obj 4 b.d,.ref q,iv T,.tup [.obj 2 G,tv a.2.1,iv a.2.2.1,iv a.2.2.2],.obj 2 G,tv a.2.1,iv a.2.2.1,iv a.2.2.2,.ref p,iv i,iv z,.td] L K3:=by
    intro z J L k;haveI U:=k.2;rw[y.2.pc]at U;haveI rW:=U _ _ Z.no y.3;haveI f4:=(y.2.trans k.3).Vl Z;erw[[NJ],⟨fh rW,eh rW (Re (Er y.4 (je 0x3e83ce0b331c1101e0b10 rfl N r))) (zd (iv i,iv z) _ ⟨J,is++[z],f4.set k.1,y.2.trans k.3,(Er MH.sd (Er Aa rfl)),(Er ua (Er y.4 rfl)),λx l=>?_,λw o=>?_,(y.7.trans U).put A,N⟩)⟩]
    ·rcases Oa l with l|l
     ·erw[k.3.kn (y.5 x l)]
     ·erw[Er (ia l) k.4]
    ·simp only[Aa,y.6 w (k.3.nc o),Xb,xb,k.5 w o]
   erw[qe λR4 Qh=>?_,[],yk (Tj (b:=1) ⟨λe=>?_,λe=>Qh _ _ (app _ R1 P ⟨y.1.up (jb _ _),aku,RE.refl,E,λw zz=>?_⟩)⟩)]
   ·haveI e:=fy.mp e;erw[[xU],⟨y.1.Ei rfl,Ih rfl (dq (dn C) y.1 (se 0x3843ce131d0bb331c2302e1b302bc3ce0b10 rfl M N r) E λz t H' k=>Qh _ _ (app z t H' ⟨k.1,k.2,k.3,k.4,λw o=>?_⟩))⟩];simp only[k.5 w o,e];exact(Bool.xor_true _).symm
   ·haveI e:a.2.2.1.testBit i=false:=by
     cases hb:a.2.2.1.testBit i with
     |false=>rfl|true=>rw[fy.mpr hb]at e;exact(nomatch e)
    erw[Er e ((Bool.xor_false _).symm)]
  ·intro s P Zd;erw[kl Zd λR1 is y=>?_];haveI y:=(Ca ..)▸(aa ..)▸y;have y:=y;have mb:=λw o=>gM mo rfl (y.6 w o);erw[oj _ _ ?_];clear hB oj;haveI l3:b.H0.le P:=y.1.1;erw[Xf ((y.1.2.mono l3).get mo.2) λdc' zz F I=>?_];obtain rfl:G=dc':=by rw[e2]at F;injection F
   erw[[AU],y.1.a46 ⟨y.1.3.Ei rfl,Bm (Uj y.3) (Re (Er y.4 (ee 0x3e83ce0b331c010 rfl r))) (I.name (I.tab ⟨Vd rfl,?_⟩))⟩,Ih rfl (xC (i:=a.1) (v:=.tup (is.map iv)) (ins:=is) (dn C) y.1 (je 0x3843ce131d0bb331c1302bc3ce0b10 rfl M r) mo.2 (Er y.4 (Er mo.1 rfl)) y.5 (.inl rfl) λR4 L f=>?_)];haveI S:=f.2;rw[y.2.pc]at S;erw[qe λR5 eM=>⟨λe=>?_,λe=>eM _ _ ?_⟩]
   ·haveI u:(a.2.2.2==1)=true:=by
     have:=mo.5
     match l:a.2.2.2,this with
     |1,_=>rfl|0,_=>rw[l]at e;exact(nomatch e)
    erw[[zU],⟨f.1.Ei rfl,Ih rfl (dq (dn C) f.1 (je 0x3843cee131d0bbb331c1302bc3ce0b10 rfl M r) f.4 λz t H' k=>h z t H' ⟨k.1.up (je 0x142c1b31ce031d1bbb331c030 rfl r),?_,(y.2.trans f.3).trans k.3,k.4,λw o=>?_⟩)⟩]
    ·haveI o5:=k.2;rw[(y.2.trans f.3).pc]at o5;exact(y.7.trans S).trans o5
    ·haveI w4:=k.3.nc o;simp only[k.5 w o,f.5 w w4,mb w (f.3.nc w4),u,Bool.xor_true]
   ·have u:(a.2.2.2==1)=false:=by
     have:=mo.5
     match l:a.2.2.2,this with
     |0,_=>rfl|1,_=>have e:=l▸e;exact tf e
    erw[h _ R4 L ⟨f.1.up (je 0x142c1be031d1bb331c030 rfl r),y.7.trans S,y.2.trans f.3,f.4,λw o=>by simp only[f.5 w o,mb w (f.3.nc o),u,Bool.xor_false]⟩]
structure MM where
 d:Nat
 pl:Nat
 k:Nat
 most:Nat
 da:Nat
 X1:Nat
 dr:Nat
 p7:Nat
 p8:Nat
def Sn (c:MM)(x9 Ml Gy gy Nl gq Ol iq Dp Ep jw Fp Hp Hy Yt Zt au bu:MV):List MV:=
 [.obj 0 c.d,.ref c.pl,iv c.k,iv c.most,.obj 1 c.da,.ref c.X1,.obj 0 c.dr,.ref c.p7,.ref c.p8,x9,Ml,Gy,gy,Nl,gq,Ol,iq,Dp,Ep,jw,Fp,Hp,Hy,Yt,Zt,au,bu]
def stC (N:Nt):List Cl:=N.cells.filter λc=>te c.k
theorem iM (l:List Cl):((range l.length).filter λi=>(l[i]?).any λc=>te c.k).map (λi=>l[i]?)=(l.filter λc=>te c.k).map some:=by
 haveI key:∀k,k<=l.length->((range k).filter λi=>(l[i]?).any λc=>te c.k).map (λi=>l[i]?)=((l.take k).filter λc=>te c.k).map some:=by
  intro k
  induction k with
  |zero=>exact λ_=>rfl|succ k b=>
   intro a;haveI e:l[k]?=some l[k]:=wa a;simp only[Xb,Vb,Aa,b (Nat.le_of_succ_le a),Xd e,Wb,e];cases h:te l[k].k with
   |true=>exact Er (Ec h) (Er (Ec rfl) (Fc _ (Fc (·::[]) e)))|false=>rw[Dc (by show¬te l[k].k=true;exact Er h Na),Dc Na];rfl
 haveI:=key l.length (Qa _);rwa[Sa]at this
theorem e_ {N:Nt}{i x:Nat}(h:(Je N)[i]?=some x):∃c,N.cells[x]?=some c/\(stC N)[i]?=some c:=by
 haveI e:=Fc (λl=>l[i]?) (iM N.cells);haveI a:((range N.cells.length).filter λi=>(N.cells[i]?).any λc=>te c.k)[i]?=some x:=h;simp only[za,a]at e;have e:=e;cases hc:(N.cells.filter λc=>te c.k)[i]? with
 |none=>rw[hc]at e;exact(nomatch e)
 |some c=>
  rw[hc]at e;exact⟨c,oa e,hc⟩
theorem PA:(Je N).length=(stC N).length:=by haveI:=Fc List.length (iM N.cells);rwa[aa,aa]at this
theorem cu {c:Type}{l:List c}{a b:Nat}:l.take a++(l.drop a).take b=l.take (a+b):=List.take_add.symm
theorem jM {p a b:Nat}{c:List Nat}(j:H p=some (.list (c.map iv)))(f:c.length<1000)(d:a+b<=c.length)(h:∀q,H q=none->Q (.ref q) (H.set q (.list (((c.drop a).take b).map iv)))):Hj (.ref p) (.int a) (.int (a+b:Nat)) H Q:=by
 erw[ue j ⟨Re f,Ua _,by exact Jy 0x1b130f10 rfl (Ua _),by refine Er (aa ..) ?_;exact Int.ofNat_le.mpr d,λq i=>?_⟩];haveI e:(((c.map iv).drop (a:Int).toNat).take (((a+b:Nat):Int).toNat-(a:Int).toNat))=((c.drop a).take b).map iv:=by
  haveI k:((a+b:Nat):Int).toNat-(a:Int).toNat=b:=Nat.add_sub_cancel_left a b;erw[Er k (Er (Int.toNat_natCast ..) (Er (List.map_take ..) (Er (List.map_drop ..) rfl)))]
 erw[Er e (h q i)]
inductive Sq (N:Nt)(ss:List Nat)(a0:List Nat)(s0 i at':Nat)(xe:List Cl):Prop
 |mk (key:xe.map (λc=>(c.k,c.par,c.ins.length))=((stC N).take i).map λc=>(c.k,c.par,c.ins.length)) (out:xe.map (·.out)=range' s0 i) (ins:a0++xe.flatMap (·.ins)=ss.take at') (rem:at'+(((stC N).drop i).flatMap (·.ins)).length=ss.length)
theorem Sq.step {cl:Cl}(s:Sq N ss a0 s0 i at' xe)(h:(stC N)[i]?=some cl):at'+cl.ins.length<=ss.length/\Sq N ss a0 s0 (i+1) (at'+cl.ins.length) (xe++[⟨cl.k,s0+i,(ss.drop at').take cl.ins.length,cl.par⟩]):=by
 haveI rem:=s.4;simp only[lh h,nb,ua,<-Yb]at rem;haveI hle:at'+cl.ins.length<=ss.length:=Es rem (jb _ _);haveI:min cl.ins.length (ss.length-at')=cl.ins.length:=Nat.min_eq_left (Nat.le_sub_of_add_le' hle);refine⟨hle,?_,(Er (Aa ..) (Er s.2 (Er (List.range'_concat ..) (Er (Qb ..) rfl)))),(Er (Jb ..) (Es (Db ..) (Er s.3 (Er (nb ..) (Er (Jc ..) (Er (ib ..) cu)))))),rem⟩
 ·simp only[Aa,s.1,Xd h,xb,zb,List.length_drop,this]
theorem acv {R:Nt}{mj nj qs r p:Nat}{b a0:List Nat}{L Ml Nl T Ol O Dp Ep Fp Hp Yt Z Y V:MV}(hn:2<=n)(ok:Ai N)(a:Md Hb c.d N)(S:Hb.le H)(Qv:Hb R.pc=none)(nt:Md H c.dr R)(hg:R.cells.length<800)(AF:H mj=some (.list ((Je N).map iv))) (Y1:H nj=some (.list ((range' p (Je N).length).map iv))) (V':H qs=some (.list (b.map iv))) (W':mj≠R.pc) (X':nj≠R.pc) (f_:qs≠R.pc) (P:b.length<1000) (sq:Sq N b a0 p 0 r [])(h:∀H' f,Hb.le H'->Md H' c.dr {R with cells:=R.cells++f}->Sq N b a0 p (stC N).length b.length f->Q (.obj 0 c.dr) H'):Kd (Ce X n) Wz (Sn c L Ml (.ref mj) (.ref nj) Nl T Ol O Dp Ep (.ref qs) Fp Hp (iv r) Yt Z Y V) H λfl _ H'=>Q (Af fl) H':=by
 haveI jk:N.cells.length<1000:=ya ok.4 akq;have w:(Je N).length<90:=ja El ok.4;erw[[Sn,Wz],Qd λB R2 hB hR=>?_,[],De AF (Re (ya w akq)) (Er (aa ..) (Rf (ya w akq) (Ze (ya w akq) ?_))),be (λt:MV×Nat×MV×MV×MV×MV=>Sn c L Ml (.ref mj) (.ref nj) t.1 T Ol O Dp Ep (.ref qs) Fp Hp (iv t.2.1) t.2.2.1 t.2.2.2.1 t.2.2.2.2.1 t.2.2.2.2.2) (λi t H'=>A3 (Off [R.pc] H H') (∃f,A2 (Md H' c.dr {R with cells:=R.cells++f}) (Sq N b a0 p i t.2.1 f)) (i<=(Je N).length)) (Nl,r,Yt,Z,Y,V) ⟨aku,⟨[],by refine Er (ib ..) ?_;exact nt,sq⟩,Ta _⟩ (λ_ _ _ _=>trivial) ?_ ?_]
 ·intro i x E y K3 hx Se zd _ _;obtain⟨t1,j,t3,t4,t5,t6⟩:=E;haveI o:=Se.1;erw[eE Se.2 λf U=>?_,haveI D:=U.1;?_,haveI s:=U.2;?_,Ak x (Ud hx) λC=>?_,haveI z:(Je N)[i]?=some ((Je N).getD i 0):=getD_at C;?_,hide λZz Od=>(Sd (e_ z) λcl J I=>(Od ?_))];clear Od;obtain⟨l,s'⟩:=s.step I;replace l:j+cl.ins.length<=b.length:=l;haveI lI:(range' p (Je N).length)[i]?=some (p+i):=by refine Er (Sc C) ?_;exact Er (Qb ..) rfl
  haveI no:∀q,q≠R.pc->q∉[R.pc]:=λq h m=>h (ia m);haveI G:=o _ _ (no _ W') AF;haveI F:=o _ _ (no _ X') Y1;haveI OZ:=o _ _ (no _ f_) V';haveI VE:Hb.le y:=o.le S λq u=>by exact Er (ia u) Qv
  haveI Ro:=ok.7 cl (Dd J);have A:=ok.6 cl (Dd J);erw[hB _ _ _ ?_,[Sn,VJ],(a.mono VE).aC (Ve G (yf z) (Re (ya w akq)) (Ve (v:=Yg cl) (VE _ _ a.4) (by refine Er (za ..) ?_;exact Er J rfl) (Re jk) ⟨rfl,?_⟩)),haveI lt2:j<1000:=se 0x3e83ce0b33e83ce2b10210b10 rfl l P;?_,[UJ],⟨D.Ei rfl,Ve F (yf lI) (Re (Er (La ..) (ya w akq))) ?_⟩,⟨Re (ya A akq),?_⟩];simp only[aa];erw[zg (jM OZ P l λq u=>?_),haveI E:Off [R.pc] y (y.set q (.list (((b.drop j).take cl.ins.length).map iv))):=aku.new u;?_,Bm (Uj MH.sd) (Re (by rw[zb];exact ja (qc _ _) (ya A akq))) (oe Ro ?_),haveI dN:=D.mono ((akr y).new (o:=.list (((b.drop j).take cl.ins.length).map iv)) u);?_,Ih rfl (Br (ns:=(b.drop j).take cl.ins.length) (N:={R with cells:=R.cells++f}) (dm hn) (by rw[zb];exact ja (qc _ _) (ya A akq)) ?_ dN (.inl rfl) Ro λH4 o4 vW=>?_)]
  ·show(R.cells++f).length<1000;haveI:=Fc List.length s.2;rw[aa,La]at this;erw[Er (ua ..) (Er this (se 0x3e83ce10bb35a2ce2b102e1b103203ce0b10 rfl hg C w))]
  erw[[TJ],⟨Re (ya A akq),?_⟩,Er (aa ..) (zg (zd (iv i,j+cl.ins.length,.str cl.k,iv cl.out,.tup (cl.ins.map iv),cl.par) H4 ⟨(o.trans E).trans o4,⟨f++[⟨cl.k,p+i,(b.drop j).take cl.ins.length,cl.par⟩],?_,s'⟩,C⟩)),Es (Db ..) vW]
 ·intro Zd y W;obtain⟨t1,j,t3,t4,t5,t6⟩:=Zd;haveI o:=W.1;erw[eE W.2 λf M=>?_];haveI D:=M.1;haveI s:=M.2;rw[aa,Ca,PA]at s;haveI e:j=b.length:=by
   haveI:=s.4;rw[List.drop_length]at this;exact this
  subst e;erw[hR _ _ (h y f (o.le S λq u=>by exact Er (ia u) Qv) D s)]
inductive Oq (N:Nt)(ss:List Nat)(k at':Nat)(os:List Pt):Prop
 |mk (key:os.map (λp=>(p.nm,p.ns.length))=(N.outs.take k).map λp=>(p.nm,p.ns.length)) (ins:os.flatMap (·.ns)=ss.take at') (rem:at'+((N.outs.drop k).flatMap (·.ns)).length+((stC N).flatMap (·.ins)).length=ss.length)
theorem Oq.step {N:Nt}{a:List Nat}{k at' r:Nat}{os:List Pt}{p:Pt}(s:Oq N a k at' os)(h:N.outs[k]?=some p):at'+p.ns.length<=a.length/\Oq N a (k+1) (at'+p.ns.length) (os++[⟨p.nm,(a.drop at').take p.ns.length,r⟩]):=by
 haveI rem:=s.3;haveI rem:=((Yb ..)).symm▸(ua ..)▸(nb ..)▸(lh h)▸rem;haveI hle:at'+p.ns.length<=a.length:=jo 0x410b343210bbb11 rfl rem;haveI:min p.ns.length (a.length-at')=p.ns.length:=Nat.min_eq_left (Nat.le_sub_of_add_le' hle);refine⟨hle,?_,?_,rem⟩
 ·simp only[Aa,s.1,Xd h,xb,zb,List.length_drop,this]
 ·simp only[Jb,s.2,nb,Jc,ib];exact cu
theorem acA {R:Nt}{mj nj qs I:Nat}{b:List Nat}{G Ml Nl M Z J Dp Ep Fp Hp Hy U S P O:MV}(L:2<=n)(ok:Ai N)(a:Md Hb c.d N)(j:Hb.le H)(Qv:Hb R.pc=none)(v:Hb R.po=none)(nt:Md H c.dr R)(hg:R.cells.length<800)(ho:R.outs=[])(bo:N.outs.length<1000)(AF:H mj=some (.list ((Je N).map iv))) (Y1:H nj=some (.list ((range' I (Je N).length).map iv))) (Y:H qs=some (.list (b.map iv))) (W:mj≠R.pc/\mj≠R.po) (V:nj≠R.pc/\nj≠R.po) (D:qs≠R.pc/\qs≠R.po) (C:b.length<1000) (wW:b.length=(Qg N).length)(h:∀H' os u at',Hb.le H'->Md H' c.dr {R with outs:=os,cells:=R.cells++u}->Oq N b N.outs.length at' os->Sq N b (os.flatMap (·.ns)) I (stC N).length b.length u->Q (.obj 0 c.dr) H'):Kd (Ce X n) Xz (Sn c G Ml (.ref mj) (.ref nj) Nl M Z J Dp Ep (.ref qs) Fp Hp Hy U S P O) H λfl _ H'=>Q (Af fl) H':=by
 have o0:Oq N b 0 0 []:=by
  erw[⟨rfl,rfl,?_⟩,Er (List.drop_zero ..) (Er (bc ..) (Er wW ?_)),ua.symm]
 have no:∀q,q≠R.po->q∉[R.po]:=λq h m=>h (ia m);erw[[Sn,Xz,WJ],Qd λB R2 hB hR=>?_,[],(a.mono j).aO (ve (j _ _ a.3) ?_),be (λt:MV×MV×Nat=>Sn c t.1 t.2.1 (.ref mj) (.ref nj) Nl M Z J Dp Ep (.ref qs) Fp Hp (iv t.2.2) U S P O) (λi t H'=>A2 (Off [R.po] H H') (∃os,A2 (Md H' c.dr {R with outs:=os}) (Oq N b i t.2.2 os))) (G,Ml,0) ⟨aku,[],by refine Es ho ?_;exact nt,o0⟩ (λi t H' y=>(y.1.le j λq e=>by refine Er (ia e) ?_;exact v) _ _ a.3) ?_ ?_]
 ·intro i x z k K3 hx Se zd _ _;obtain⟨t1,t2,l⟩:=z;obtain⟨o,os,w,s⟩:=Se;erw[yp x (Lv hx) λf A=>?_];have FL:=(a.5 f (.inr (Dd A))).1;have OZ:=o _ _ (no _ D.2) Y;have E:Hb.le k:=o.le j λq e=>by exact Er (ia e) v
  replace s:Oq N b i l os:=s;have hle:=(s.step (r:=0) A).1;have F:f.ns.length<1000:=se 0x3e83ce1b33e83ce2b10210b10 rfl hle C;erw[⟨rfl,hB _ _ _ ?_⟩,[Sn,KU,nC],⟨w.Ei rfl,?_⟩,De (E _ _ FL) (Re F) ?_];simp only[aa];erw[zg (jM OZ C hle λq e=>?_),have z:Off [R.po] k (k.set q (.list (((b.drop l).take f.ns.length).map iv))):=aku.new e;?_,have dN:=w.mono ((akr k).new (o:=.list (((b.drop l).take f.ns.length).map iv)) e);?_,Ih rfl (Qo (ns:=(b.drop l).take f.ns.length) (N:={R with outs:=os}) (dm L) (Er zb (ja (qc _ _) F)) ?_ dN MH.sd λr2 H4 o4 _ vW=>?_)]
  ·show os.length<1000;haveI:=Fc List.length s.1;simp only[aa,zb]at this;erw[se 0x3e83ce0b33e83ce2b1021101011 rfl this (Nc _ _) bo]
  have p:=(o.trans z).trans o4;erw[[JU],De ((p.le j λq e=>by exact Er (ia e) v) _ _ FL) (Re F) ?_];simp only[aa];erw[zg (zd (.str f.nm,.ref f.r,l+f.ns.length) H4 ⟨p,_,vW,(s.step A).2⟩)]
 ·intro T k bf;obtain⟨o,os,w,s⟩:=bf;rw[aa]at s;replace s:Oq N b N.outs.length T.2.2 os:=s;haveI E:Hb.le k:=o.le j λq e=>by exact Er (ia e) v
  erw[hR _ _ (acv (R:={R with outs:=os}) L ok a E Qv w hg (o _ _ (no _ W.2) AF) (o _ _ (no _ V.2) Y1) (o _ _ (no _ D.2) Y) W.1 V.1 D.1 C (a0:=os.flatMap (·.ns)) ⟨rfl,rfl,(Er (Jc ..) (Er (ib ..) s.2)),?_⟩ λH' u Yv tQ sq=>h H' os u T.2.2 Yv tQ s sq)]
  ·haveI:=s.3;haveI this:=List.drop_length▸this;erw[Er List.drop_zero this]
inductive RV (n:Nat)(A:Ag)(R:Nt)(w v:Va):Prop
 |mk (nc:ki R.cells w) (ac:Ri A.wd v) (ins:∀i,i<n->w (2+i)=v (1+i))
inductive ND (b:BB)(c:MM)(A:Ag)(R:Nt)(dom:Nat->Prop)(mm:Nat)(H:MH):Prop
 |mk (nd:∃xd,A3 (H c.p7=some (.dict xd)) (xd.length<=mm) (∀x,dom x->∃y,A3 (ce xd (iv x)=some (iv y)) (Kn b.n R y) (∀w v,RV b.n A R w v->w y=v x)))
theorem RE.rv (x:RE R S)(h:RV n A S w v):RV n A R w v:=⟨x.nc h.1,h.2,h.3⟩
theorem ND.ex (d:ND b c A R dom mm H)(x:RE R R')(o:Off S H H')(h:c.p7∉S):ND b c A R' dom mm H':=by erw[Zb (d.1) λa y=>⟨a,o _ _ h y.1,y.2,λz e=>by obtain⟨u,t⟩:=y.3 z e;exact⟨u,t.1,x.kn t.2,λw v h=>t.3 w v (x.rv h)⟩⟩]
inductive eN (b:BB)(R:Nt)(ks:List (Nat×List MV))(H:MH):Prop
 |mk (at':∀z∈ks,H z.1=some (.list z.2)) (Vl:∀z∈ks,yC b R z.1)
theorem eN.ex (k:eN b R ks H)(x:RE R R')(o:Off [b.dr,R.pc,b.pv] H H'):eN b R' ks H':=⟨λz a=>o _ _ (k.2 z a).no (k.1 z a),λz a=>x.Vl (k.2 z a)⟩
inductive Sv (n:Nat)(A:Ag)(R:Nt)(ss ls:List Nat):Prop
 |mk (val:∀w v,RV n A R w v->ss.map w=ls.map (lv v)) (kn:∀x∈ss,Kn n R x) (cl:R.cells.length<800)
theorem acB {b:BB}{R:Nt}{A:Ag}{dom:Nat->Prop}{mm m mj nj J:Nat}{T Ml Nl Ol V Dp Ep jw Fp Hp Hy Yt Zt au bu:MV}(hn:4<=n)(ok:Ai N)(a:Md Hb c.d N)(hb:b.H0=Hb)(PZ:b.dr=c.dr)(ag:Fe Hb c.da A)(M:m<700)(G:A.outs.length<30)(P:Bd b R m H)(nd:ND b c A R dom mm H)(h7:yC b R c.p7)(du:Hb R.po=none)(kp:eN b R [(mj,(Je N).map iv),(nj,(range' J (Je N).length).map iv)] H) (hd:∀l∈A.outs,dom (l/2)) (ho:R.outs=[]) (bo:N.outs.length<1000) (wW:A.outs.length=(Qg N).length)(h:∀H' f os I at' i,Hb.le H'->RE R f->Rk b.n f->Sv b.n A f i A.outs->Md H' c.dr {f with outs:=os,cells:=f.cells++I}->Oq N i N.outs.length at' os->Sq N i (os.flatMap (·.ns)) J (stC N).length i.length I->Q (.obj 0 c.dr) H'):Kd (Ce X n) Yz (Sn c T Ml (.ref mj) (.ref nj) Nl (.obj 4 b.d) Ol V Dp Ep jw Fp Hp Hy Yt Zt au bu) H λfl _ H'=>Q (Af fl) H':=by
 subst hb;erw[[Sn,Yz],⟨Vd rfl,λqs L=>?_⟩];have s:=P.Vl L;have E:∀z∈[(mj,(Je N).map iv),(nj,(range' J (Je N).length).map iv)],z.1≠qs:=λz p=>Gd (kp.1 z p) L;have g_:c.p7≠qs:=by
  erw[eE nd.1 λxd y=>(Gd y.1 L)]
 erw[Qd λB R2 hB hR=>?_,have l0:=P.1.new (o:=.list []) L;?_,[],(ag.mono l0).aO (ve (l0 _ _ ag.4) ?_)];refine be (λt:MV×MV=>Sn c T Ml (.ref mj) (.ref nj) Nl (.obj 4 b.d) Ol V Dp Ep (.ref qs) t.1 t.2 Hy Yt Zt au bu) (λj _ H'=>∃f i,A8 (Bd b f (m+3*j) H') (RE R f) (ND b c A f dom mm H') (eN b f [(mj,(Je N).map iv),(nj,(range' J (Je N).length).map iv)] H') (H' qs=some (.list (i.map iv))) (i.length=j) (Sv b.n A f i (A.outs.take j)) (j<=A.outs.length)) (Fp,Hp) ⟨R,[],s.set P,RE.refl,nd.ex RE.refl (S:=[qs]) (aku.set (.head _)) (λh=>g_ (ia h)),⟨λz p=>(MH.ud (E z p)).trans (kp.1 z p),kp.2⟩,MH.sd,rfl,⟨λw v _=>rfl,λx D=>qd D Ea,ja P.9 (ee 0x3203ce0b32bc3ce0b10 rfl M)⟩,Ta _⟩ (λ_ _ _ Bk=>by obtain⟨_,_,y⟩:=Bk;exact y.1.1 _ _ ag.4) ?_ ?_
 ·intro j x rg H3 K3 D Se zd _ _;erw[kl Se λC i y=>?_];rw[za,Ha]at D;erw[Ef x D λl Z=>?_,have O:=yd Z;?_,Zb (y.3.1) λxd e=>?_];obtain⟨z,u⟩:=e.3 _ (hd l (Dd Z));have app:∀r f H',Mk b C (m+3*j+3) H3 (λw=>xor (w z) (decide (l%2=1))) r f H'->Kd (Ce X n) SJ (Sn c T Ml (.ref mj) (.ref nj) Nl (.obj 4 b.d) Ol V Dp Ep (.ref qs) (iv l) (iv r) Hy Yt Zt au bu) H' K3:=by
   intro r f H' k;have h_:=(y.2.Vl s);have rW:=k.2 _ _ h_.no y.5;have U:=y.3.ex k.3 k.2 (y.2.Vl h7).no;have y5:=y.4.ex k.3 k.2;erw[[Sn,SJ],⟨fh rW,eh rW (Re (by refine Er y.6 ?_;exact je 0x3e83ce0b31e2ce1b101e0b10 rfl O G)) (zd (iv l,iv r) _ ⟨f,i++[r],(k.3.Vl h_).set k.1,y.2.trans k.3,U.ex RE.refl (S:=[qs]) (aku.set (.head _)) (λh=>g_ (ia h)),⟨λz p=>(MH.ud (E z p)).trans (y5.1 z p),y5.2⟩,?_,?_,⟨λw v W=>?_,λx D=>(Oa D).elim (λh=>k.3.kn (y.7.2 x h)) λh=>by refine Er (ia h) ?_;exact k.4,ja k.1.9 (se 0x3203ce31c131d0bbb31e2ce2b302e1b302bc3ce0b10 rfl M O G)⟩,O⟩)⟩]
   ·erw[Er (MH.sd ..) (Er Aa rfl)]
   ·erw[Er ua (Er y.6 rfl)]
   ·simp only[Aa,y.7.1 w v (k.3.rv W),Xd Z,xb,k.5 w W.1,u.3 w v (k.3.rv W)];rfl
  erw[hB _ _ _ ?_,[Sn,IU],yk (b:=1) (Er (Nat.pow_one ..) (Ll e.1 rfl u.1 (qe λR4 Qh=>(Tj (b:=1) ⟨λq=>?_,λq=>Qh _ _ (app z C H3 ⟨y.1.up (jb _ _),aku,RE.refl,u.2,λw _=>?_⟩)⟩))))]
  ·haveI q:l%2=1:=by
    erw[Or.elim (Nat.mod_two_eq_zero_or_one l) (λh=>?_) (λh=>h)]
    ·rw[AA,h]at q;exact(nomatch q)
   erw[[HU],⟨y.1.Ei rfl,Ih rfl (dq (dm hn) y.1 (se 0x3843ce131d0bb31e2ce2b302e1b302bc3ce0b10 rfl M O G) u.2 λr f H' k=>Qh _ _ (app r f H' ⟨k.1,k.2,k.3,k.4,λw hw=>?_⟩))⟩,Er (k.5 w hw) (Er (Pb q) ((Bool.xor_true _).symm))]
  ·haveI q:¬l%2=1:=λh=>by rw[AA,h]at q;exact(nomatch q)
   erw[Er (decide_eq_false q) ((Bool.xor_false _).symm)]
 ·intro fg H3 ji;erw[kl ji λC i y=>?_];haveI y:=(aa ..)▸y;have y:=y;haveI val:=y.7;rw[Sa]at val;erw[kl y.2.1 λmore cc e=>?_];have e1:C.outs=[]:=Er e ho;have e2:b.H0 C.po=none:=Er e du;have fz:=λz p=>(y.4.2 z p).2;have f1:=fz _ (.head _);haveI f2:=fz _ (.tail _ (.head _));haveI f3:=(y.2.Vl s).2;haveI F:=y.1.3;rw[PZ]at F;erw[hR _ _ (acA (R:=C) (dm hn) ok a y.1.1 y.1.5 e2 F (ja y.1.9 (je 0x3203ce131d0bb31e2ce1b302bc3ce0b10 rfl M G)) e1 bo (y.4.1 _ (.head _)) (y.4.1 _ (.tail _ (.head _))) y.5 ⟨f1.2.2.2.2.2.1,f1.2.2.2.2.1⟩ ⟨f2.2.2.2.2.2.1,f2.2.2.2.2.1⟩ ⟨f3.2.2.2.2.2.1,f3.2.2.2.2.1⟩ (Er y.6 (ee 0x3e83ce0b31e2ce0b10 rfl G)) (Er y.6 wW) λH' os I at' Y acD oq sq=>h H' C os I at' i Y y.2 y.1.8 val acD oq sq)]
theorem Gs.cov (g:Gs N A k)(e:dy A zf)(b:y<A.wd.length):y<=(Ke N).length\/∃c,zf[y]?=some (some c):=by
 erw[Zb (g.2) λf z=>(eE (⟨_,wa b⟩:∃nd,A.wd[y]?=some nd) λnd a=>?_)];cases nd with
 |some pr=>
  erw[Sd (e.3 y pr.1 pr.2 a) λc d _=>(.inr ⟨c,d⟩)]
 |none=>
  erw[.inl ?_];by_cases h:y<=(Ke N).length
  ·erw[h]
  ·exfalso;rw[z.1,tc,Dc (by exact Er Bb (Nat.not_lt_of_le (je 0x10eb31e0b10 rfl (Nat.lt_of_not_le h))))]at a;erw[z.3 _ (Dd a) rfl]
section
variable {zf:List mQ}
theorem uQ (F:L.getD 7 .td=.ref c.p7)(m:L.getD 16 .td=tv ls)(D:ls.length<=3)(nd:ND b c A R dom mm H)(hd:∀y∈ls,dom y)(h:∀(q:Nat)(H':MH)(a:List Nat),H'=H.set q (.list (a.map iv))->H q=none->a.length=ls.length->(∀y∈a,Kn b.n R y)->(∀w v,RV b.n A R w v->a.map w=ls.map v)->Q (.ref q) H'):Yd P (.comp [none,none,some 7] (.one 1) (.loc 16) .nil (.sub (.loc 2) (.loc 1))) L H Q:=by
 erw[eE nd.1 λI z=>?_];haveI G:Yi [none,none,some 7] L=[.td,.td,.ref c.p7]:=Es F rfl;simp only[Sh,uv,m];erw[Gg (λa:List Nat=>a.map iv) (λk a H'=>A5 (H'=H) (a.length=k) (∀y∈a,Kn b.n R y) (∀w v,RV b.n A R w v->a.map w=(ls.take k).map v) (k<=ls.length)) [] rfl ⟨rfl,rfl,λy e=>qd e Ea,λw v _=>rfl,Ta _⟩ (λk a H' x=>⟨trivial,Re (Er x.2 (ja (Ba x.5 D) akq))⟩) ?_ ?_]
 ·intro k x a s K p l E;haveI i:=l.2;haveI o:=l.3;haveI d:=l.4;obtain rfl:=l.1;rw[za,Ha]at p;erw[Ef x p λy e=>(eE (z.3 y (hd y (Dd e))) λu t=>(Er G ⟨λ_=>?_,λh=>(nomatch h)⟩)),Ll z.1 rfl t.1 (E _ (a++[u]) s (Er Aa rfl) ⟨rfl,by exact Er ua (Er i rfl),λB f=>?_,λw v r=>?_,yd e⟩)]
  ·rcases Oa f with f|f
   ·erw[o B f]
   ·erw[Er (ia f) t.2]
  ·simp only[Aa,d w v r,Xd e,xb,t.3 w v r]
 ·intro a s j;haveI i:=j.2;haveI o:=j.3;haveI d:=j.4;erw[Er j.1 ?_];rw[aa]at i d;rw[Sa]at d;have d:=d;erw[λq C=>h q _ a rfl C i o d]
theorem WE (V:5<=n)(W:m<680)(j:Bd b R m H)(nd:ND b c A R dom mm H)(G:mm<1000)(N:yC b R c.p7)(kp:eN b R ks H)(Qv:b.H0 c.X1=some (.list (zf.map (Fy b.vs)))) (P':zf.length<1000) (U:zf[x]?=some (some ct)) (i:Ch A.wd x ct) (hd:∀y∈ct.1,dom y)(h:∀f H' Z1 r p,Bd b f (m+20) H'->RE R f->ND b c A f (λy=>y=x\/dom y) (mm+1) H'->eN b f ks H'->K .next (Sn c x9 Ml Gy gy Nl (.obj 4 b.d) (iv x) Z1 r p jw Fp Hp Hy Yt Zt au bu) H'):Kd (Ce X n) RJ (Sn c x9 Ml Gy gy Nl (.obj 4 b.d) (iv x) iq Dp Ep jw Fp Hp Hy Yt Zt au bu) H K:=by
 haveI V9:Lf b.vs ct.2.2≠.td:=by cases ct.2.2<;>exact MV.noConfusion
 erw[[Sn,RJ],Ve (v:=Fy b.vs (some ct)) (j.1 _ _ Qv) (by refine Er za ?_;exact Er U rfl) (Re P') ⟨rfl,?_⟩];unfold GU;simp only[Z8,VK,uv];erw[[],⟨j.Ei rfl,?_⟩,uQ (ls:=ct.1) rfl rfl i.3 nd hd λq H1 l Z F J D C=>(Er Z ?_)];have f1:=j.Vl F;haveI I:=f1.set (o:=.list (l.map iv)) j;haveI P:c.p7≠q:=by
  erw[eE nd.1 λO y=>(Gd y.1 F)]
 haveI t:=nd.ex RE.refl (S:=[q]) (H':=H.set q (.list (l.map iv))) (aku.set (.head _)) λh=>P (ia h);haveI u:eN b R ks (H.set q (.list (l.map iv))):=⟨λz T=>ge (kp.1 z T) F,kp.2⟩;erw[oe V9 (Ih rfl (sQ V I (ee 0x2bc3ce0b32a83ce0b10 rfl W) MH.sd f1 D (Er J i.3) (Er J i.4) ((show _=_ from J).symm▸i.5) λy f H2 k=>?_)),haveI s:=t.ex k.3 k.2 N.no;?_,have a:=u.ex k.3 k.2;?_,eE s.1 λO z=>?_,haveI Y:=k.3.Vl N;?_,putD z.1 rfl (ja z.2 (ya G akq)) (h f _ _ _ _ (Y.set k.1) k.3 ⟨_,MH.sd,Ba xf (Wa z.2),λL B=>?_⟩ ⟨λw M=>(MH.ud (Le z.1 (a.1 w M)).symm).trans (a.1 w M),a.2⟩),Er ie (Er Ye ?_)];by_cases e:(x==L)=true
 ·erw[Er (Ec e) ⟨y,rfl,k.4,λw v E=>?_⟩];simp only[k.5 w E.1,C w v (k.3.rv E),<-ub e];erw[i.1 v E.2]
 ·erw[Er (Dc e) (z.3 L (B.resolve_left λh=>e (Er h (Pa x))))]
theorem acI {R:Nt}{mm mj nj C kk:Nat}{x9 Ml Nl Ol iq Dp Ep jw Fp Hp Hy Yt Zt au bu:MV}(W:6<=n)(ok:Ai N)(a:Md Hb c.d N)(hb:b.H0=Hb)(PZ:b.dr=c.dr)(G:b.n=(Ke N).length)(ag:Fe Hb c.da A)(w:A.wd.length<30)(hA:A.outs.length<30)(L:Bd b R 0 H)(nd:ND b c A R (λx=>x<=b.n) mm H)(Y:mm<900)(h7:yC b R c.p7)(du:Hb R.po=none)(kp:eN b R [(mj,(Je N).map iv),(nj,(range' C (Je N).length).map iv)] H) (Qv:Hb c.X1=some (.list (zf.map (Fy b.vs)))) (o:dy A zf) (gs:Gs N A kk) (HE:∀l∈A.outs,l/2<A.wd.length) (ho:R.outs=[]) (bo:N.outs.length<1000) (wW:A.outs.length=(Qg N).length)(h:∀H' k os I at' s,Hb.le H'->RE R k->Rk b.n k->Sv b.n A k s A.outs->Md H' c.dr {k with outs:=os,cells:=k.cells++I}->Oq N s N.outs.length at' os->Sq N s (os.flatMap (·.ns)) C (stC N).length s.length I->Q (.obj 0 c.dr) H'):Kd (Ce X n) XJ (Sn c x9 Ml (.ref mj) (.ref nj) Nl (.obj 4 b.d) Ol iq Dp Ep jw Fp Hp Hy Yt Zt au bu) H λfl _ H'=>Q (Af fl) H':=by
 subst hb;have hs:A.wd.length<1000:=ya w akq;erw[Qd λB R2 hB hR=>(pQ (dm W) (ag.mono L.1) (ya w akq) HE (L.1 _ _ Qv) o λq H1 r U ur hq v=>?_)];haveI fq:=L.Vl ur;haveI nodup:r.Nodup:=v.1.imp λh=>Kc h;have XL:r.length<=A.wd.length:=Jh nodup λx m=>by
  erw[eE (v.2 x m) λc h=>?_];haveI:=yd h;rwa[o.1]at this
 erw[[],ve hq ?_];have key:∀z:Nat×List MV,z∈[(mj,(Je N).map iv),(nj,(range' C (Je N).length).map iv)]->z∈[(q,r.map iv),(mj,(Je N).map iv),(nj,(range' C (Je N).length).map iv)]:=λz f=>.tail _ f;refine be (λt:MV×MV×MV×MV=>Sn c x9 Ml (.ref mj) (.ref nj) Nl (.obj 4 b.d) t.1 t.2.1 t.2.2.1 t.2.2.2 jw Fp Hp Hy Yt Zt au bu) (λj _ H'=>∃k,A4 (Bd b k (20*j) H') (RE R k) (ND b c A k (λx=>x<=b.n\/x∈r.take j) (mm+j) H') (eN b k [(q,r.map iv),(mj,(Je N).map iv),(nj,(range' C (Je N).length).map iv)] H')) (Ol,iq,Dp,Ep) ⟨R,L.mono U,RE.refl,?_,⟨λz f=>?_,λz f=>?_⟩⟩ (λ_ _ _ ji=>by obtain⟨_,y⟩:=ji;exact y.4.1 _ (.head _)) ?_ ?_
 ·erw[eE nd.1 λS y=>⟨S,U _ _ y.1,y.2,λx m=>y.3 x (m.resolve_right (by simp only[Fb];exact Ea))⟩]
 ·rcases xa f with rfl|f
  ·erw[hq]
  ·erw[U _ _ (kp.1 z f)]
 ·rcases xa f with rfl|f
  ·erw[fq]
  ·erw[kp.2 z f]
 ·intro j x rg H3 K3 m Se zd _ _;erw[eE Se λR1 y=>?_];rw[za,Ha]at m;erw[Ef x m λx m=>?_,haveI hj:=yd m;?_,Zb (v.2 x (Dd m)) λct' p=>?_];have E:x<A.wd.length:=by haveI:=yd p;rwa[o.1]at this
  obtain⟨J,i_,ch⟩:∃J,zf[x]?=some (some J)/\Ch A.wd x J:=by
   erw[eE (⟨_,wa E⟩:∃D,A.wd[x]?=some D) λD Im=>?_];cases D with
   |none=>rw[o.2 x Im]at p;exact(nomatch p)
   |some pr=>exact o.3 x pr.1 pr.2 Im
  erw[hB _ _ _ (WE (mm:=mm+j) (dm W) (ja (Nat.mul_le_mul_left 20 (Ib (ya (Ma hj XL) w))) akq) y.1 y.3 (oi 0x3e83ce10bb31e2ce3b1032102e1b103843ce0b10 rfl Y hj XL w) (y.2.Vl h7) y.4 Qv (Er o.1 hs) i_ ch (λz f=>?_) λk H' Z1 P O bd' ex' D V=>zd (iv x,Z1,P,O) H' ⟨k,bd',y.2.trans ex',?_,V⟩)]
  ·haveI M:=ch.2 z f;rcases gs.cov o (ya M E)with h|⟨c',h⟩
   ·erw[.inl (Er G h)]
   ·haveI hm:=v.4 x (Dd m) J i_ z f c' h;erw[eE (Lb hm) λi F=>?_,.inr ?_];by_cases jg:i<j
    ·erw[Eb (i:=i) (by refine Er (List.getElem?_take_of_lt jg) ?_;exact F)]
    ·exfalso;rcases Nat.eq_or_lt_of_le (Nat.not_lt.mp jg)with e|e
     ·rw[<-e,m]at F;rw[oa F]at M;erw[Ic _ M]
     ·haveI:=List.pairwise_iff_getElem.mp v.1 j i hj (yd F) e;simp only[(Fa m).2,(Fa F).2]at this;erw[qd M (rc (Ib this))]
  ·erw[eE D.1 λS u=>⟨S,u.1,u.2,λz f=>u.3 z ?_⟩];rw[Xd m,mem_append,mem_singleton]at f;rcases f with f|f|f
   ·erw[.inr (.inl f)]
   ·erw[.inr (.inr f)]
   ·erw[.inl f]
 ·intro ur H3 rg;erw[eE rg λR1 y=>?_,haveI y:=(Sa ..)▸(aa ..)▸y;?_,have y:=y;?_,have y:=y;?_,kl y.2.1 λmore cc e=>(hR _ _ (acB (dom:=λx=>x<=b.n\/x∈r) (dm W) ok a rfl PZ ag (ja (Nat.mul_le_mul_left 20 (Ib (ja XL w))) akq) hA y.1 y.3 (y.2.Vl h7) (Er e du) ⟨λz f=>y.4.1 z (key z f),λz f=>y.4.2 z (key z f)⟩ (λl hl=>?_) (Er e ho) bo wW λH' k os I at' s Z ex rk T nt oq sq=>h H' k os I at' s Z (y.2.trans ex) rk T nt oq sq))];rcases gs.cov o (HE l hl)with h|⟨c',h⟩
  ·erw[.inl (Er G h)]
  ·erw[.inr (v.3 l hl c' h)]
end
end
section
theorem kM {d g pl nn:Nat}{vs:List MV}{R:Nt}(D:1<=n)(u:Hb.le H)(A:rf Hb pl vs)(t:Md H g R)(hd:H d=none)(C:Hb g=none)(B:Hb R.pc=none)(p:R.cells=[])(E:R.cnt=2+nn)(h:∀i H',Bd ⟨d,g,pl,i,nn,vs,Hb⟩ R 0 H'->H.le H'->H i=none->Q .none H'):Fd X n 65 [.obj 4 d,.obj 0 g,.ref pl] (H.set d (.ns λ_=>.td)) Q:=by
 erw[eE (Of D) λn F=>(Er F ?_)];obtain⟨f,x⟩:=t.1;haveI q:d≠g:=(Gd x.1 hd).symm;erw[Ad rfl rfl ?_,[Ae,p65,qU],Pi MH.sd ?_,[Ae,pU],Pi MH.sd ?_,[Ae,oU],⟨λk m=>?_,λi b=>?_⟩]
 ·rcases xa m with rfl|m
  ·rfl
  ·rcases xa m with rfl|m
   ·rfl
   ·cases m
 obtain⟨s,b⟩:=fresh b;erw[eA (fresh b) λ_ b=>?_];obtain⟨-,b⟩:=fresh b;erw[Pi ((MH.ud s.symm).trans MH.sd) ?_,haveI hle:=((((((akr H).set hd (o:=.ns λ_=>.td)).set hd (o:=.ns λx=>if x=46 then .obj 0 g else .td)).set hd (o:=.ns λx=>if x=43 then .ref pl else if x=46 then .obj 0 g else .td)).set b (o:=.dict (Ue [.int 0,.int 1] [.int 1,.int 0] []))).set hd (o:=.ns λx=>if x=47 then .ref i else if x=43 then .ref pl else if x=46 then .obj 0 g else .td));?_,h i _ ⟨u.trans hle,A,t.mono hle,C,B,u.fresh b,q,⟨λc z=>?_,λj c y=>?_,(Er p rfl),(Er p (Er E rfl))⟩,(Er p (Ta _)),⟨_,MH.sd,rfl,rfl,rfl⟩,_,(MH.ud s).trans MH.sd,Qa _,λa v e=>?_⟩ hle b]
 ·rw[p]at z;exact(nomatch z)
 ·rw[p]at y;exact(nomatch y)
 ·haveI e:ce [(iv 0,iv 1),(iv 1,iv 0)] (iv a)=some v:=e;rw[Jf,Ye,Jf,Ye,eL]at e;by_cases h0:(0==a)=true
  ·rw[Ec h0]at e;obtain rfl:=ub h0;exact⟨1,(oa e).symm,.inl (Ma (by decide:1<2) (jb _ _)),λw l=>by exact Er l.1 (Er l.2 rfl)⟩
  ·rw[Dc h0]at e;by_cases r:(1==a)=true
   ·rw[Ec r]at e;erw[Es (ub r) ⟨0,(oa e).symm,.inl (Ma (by decide:0<2) (jb _ _)),λw l=>by exact Er l.1 (Er l.2 rfl)⟩]
   ·rw[Dc r]at e;exact(nomatch e)
inductive Bq (Hb:MH)(c:MM)(N:Nt)(A:Ag)(zf:List mQ)(vs:List MV):Prop
 |mk (a:Md Hb c.d N) (tW:rf Hb c.pl vs) (ag:Fe Hb c.da A) (vQ:A.wd.length<30) (hA:A.outs.length<30) (Qv:Hb c.X1=some (.list (zf.map (Fy vs)))) (ca:dy A zf) (gs:Gs N A (3*N.cells.length)) (HE:∀l∈A.outs,l/2<A.wd.length) (bo:N.outs.length<1000) (wW:A.outs.length=(Qg N).length) (dr0:Hb c.dr=none) (p70:Hb c.p7=none)
def Done (Hb:MH)(c:MM)(N:Nt)(A:Ag)(R:Nt)(s0:Nat)(Q:MV->MH->Prop):Prop:=
 ∀H' R' os xe at' ss,Hb.le H'->RE R R'->Rk (Ke N).length R'->Sv (Ke N).length A R' ss A.outs->Md H' c.dr {R' with outs:=os,cells:=R'.cells++xe}->Oq N ss N.outs.length at' os->Sq N ss (os.flatMap (·.ns)) s0 (stC N).length ss.length xe->Q (.obj 0 c.dr) H'
theorem acK {R:Nt}{vs:List MV}{mj nj Y:Nat}{W Ml Nl gq Ol iq Dp Ep jw Fp Hp Hy Yt Zt au bu:MV}(hn:6<=n)(ok:Ai N)(q:Bq Hb c N A zf vs)(hl:Hb.le H)(Z:Md H c.dr R)(lM:Hb R.pc=none)(du:Hb R.po=none)(hc:R.cells=[])(bi:R.cnt=2+(Ke N).length)(ho:R.outs=[])(E:H c.p7=some (.dict [(iv 0,iv 0)])) (O:H c.p8=some (.list ((range' 2 (Ke N).length).map iv)))(AF:H mj=some (.list ((Je N).map iv))) (Y1:H nj=some (.list ((range' Y (Je N).length).map iv)))(U:Hb mj=none) (X0:mj≠R.pi/\mj≠R.po/\mj≠R.pc/\∀y,y∈R.ins\/y∈R.outs->y.r≠mj) (T:Hb nj=none) (Y0:nj≠R.pi/\nj≠R.po/\nj≠R.pc/\∀y,y∈R.ins\/y∈R.outs->y.r≠nj) (h:Done Hb c N A R Y Q):Kd (Ce X n) aA (Sn c W Ml (.ref mj) (.ref nj) Nl gq Ol iq Dp Ep jw Fp Hp Hy Yt Zt au bu) H λfl _ H'=>Q (Af fl) H':=by
 haveI C:=Si ok;haveI QA:=q.8.1;erw[[Sn,aA],Qd λB R2 hB hR=>?_,[],De O (Re (Er (La ..) (ya C akq))) (Er (aa ..) (Er (La ..) ?_)),Rf (ya C akq) (Ze (ya C akq) ?_),be (λt:MV=>Sn c W Ml (.ref mj) (.ref nj) t gq Ol iq Dp Ep jw Fp Hp Hy Yt Zt au bu) (λi _ H'=>A3 (Off [c.p7] H H') (∃j,A4 (H' c.p7=some (.dict j)) (j.length<=1+i) (ce j (iv 0)=some (iv 0)) (∀x,1<=x->x<=i->ce j (iv x)=some (iv (x+1)))) (i<=(Ke N).length)) Nl ⟨aku,⟨_,E,Qa _,rfl,λx S P=>qd (Ba S P) akq⟩,Ta _⟩ (λ_ _ _ _=>trivial) ?_ ?_]
 ·intro i x t F K3 k Se zd _ _;haveI o:=Se.1;erw[eE Se.2 λj y=>(Ak x (Ud k) λJ=>?_)];haveI L:Hb.le F:=o.le hl λz a=>by exact Er (ia a) q.13
  haveI e8:=o _ _ (λm=>Le E O (ia m).symm) O;erw[hB _ _ _ ?_,[Sn,FU],Ve e8 (yf (x:=2+i) (by refine Er (Sc J) ?_;exact Er (Qb ..) rfl)) (Re (Er (La ..) (ya C akq))) ?_,(q.3.mono L).aI (Ve (L _ _ q.3.3) (yf (x:=1+i) (by refine Er QA ?_;refine Er (Sc J) ?_;exact Er (Qb ..) rfl)) (Re (Er QA (Er (La ..) (ya C akq)))) ?_),putD y.1 rfl (ja y.2 (ya (by exact je 0x3e83ce0ebb3c82ce1b101e0b10 rfl J C:1+i<1000) akq)) (zd _ _ ⟨o.set (.head _),⟨_,MH.sd,Ba xf (Wa y.2),(Er ie (Er Ye (Er (Dc (λe=>by haveI:=ub e;exact Nat.not_succ_le_zero _ (ee 0xfe3f0eb11 rfl this))) y.3))),λz S P=>?_⟩,J⟩)]
  ·erw[Er ie (Er Ye ?_)];by_cases e:(1+i==z)=true
   ·rw[Ec e,<-ub e];show some (iv (2+i))=some (iv (1+i+1));erw[Er (show 2+i=1+i+1 by exact Ka (ee 0xe0ebb021cb3 rfl) (ee 0x21cbe0ebb3 rfl)) rfl]
   ·rw[Dc e];erw[y.4 z S ?_];rcases qb (Nat.lt_succ_of_le P)with h|h
    ·erw[Cb h]
    ·erw[qd (Er h (Er (Nat.add_comm ..) (Pa _))) e]
 ·intro t F Zd;haveI o:=Zd.1;erw[eE Zd.2 λj y=>?_];haveI y:=(Ca ..)▸(aa ..)▸y;have y:=y;haveI L:Hb.le F:=o.le hl λz a=>by exact Er (ia a) q.13
  have n7:∀p l,H p=some (.list l)->p∉[c.p7]:=λp l e m=>Le E e (ia m).symm;haveI Rv:Md F c.dr R:=Z.rQ o λz a=>by
   erw[Er (ia a) (Zb (Z.1) λf x=>⟨(og x.1 E λ_=>MO.noConfusion).symm,λl e=>by have e:=E▸e;cases e⟩)]
  haveI MY:=o _ _ (n7 _ _ AF) AF;haveI NY:=o _ _ (n7 _ _ Y1) Y1;erw[hR _ _ ?_];clear hB hR;intro V s;erw[kM (nn:=(Ke N).length) (dm hn) L q.2 Rv s q.12 lM hc bi λM H4 d G ay=>⟨rfl,?_⟩,Zb (d.3.1) λf u=>?_];obtain⟨g,u2⟩:=d.10;obtain⟨k2,u3⟩:=d.11;haveI D:=G _ _ y.1;have Vl:∀p l,Hb p=none->F p=some (.list l)->(p≠R.pi/\p≠R.po/\p≠R.pc/\∀y,y∈R.ins\/y∈R.outs->y.r≠p)->yC ⟨V,c.dr,c.pl,M,(Ke N).length,vs,Hb⟩ R p:=λp l h0 e K=>⟨h0,(og u.1 (G _ _ e) λ_=>MO.noConfusion).symm,Gd e s,Gd e ay,K.1,K.2.1,K.2.2.1,K.2.2.2⟩
  haveI f7:yC ⟨V,c.dr,c.pl,M,(Ke N).length,vs,Hb⟩ R c.p7:=⟨q.13,(og u.1 D λ_=>MO.noConfusion).symm,Gd y.1 s,Gd y.1 ay,Le D d.3.2,Le D d.3.3,Le D d.3.4,λz a=>(Le D (d.3.5 z a).1).symm⟩;erw[acI (b:=⟨V,c.dr,c.pl,M,(Ke N).length,vs,Hb⟩) (kk:=3*N.cells.length) hn ok q.1 rfl rfl rfl q.3 q.4 q.5 d ⟨j,D,y.2,λx k=>?_⟩ (ee 0x3843ce0ebb3c82ce0b10 rfl C) f7 du ⟨λz a=>?_,λz a=>?_⟩ q.6 q.7 q.8 q.9 ho q.10 q.11 h]
  ·rcases Nat.eq_zero_or_pos x with rfl|hp
   ·exact⟨0,y.3,.inl (Ma (by decide:0<2) (jb _ _)),λw v I=>by exact Er I.1.1 (Er I.2.1 rfl)⟩
   ·have k:x<=(Ke N).length:=k;refine⟨x+1,y.4 x hp k,.inl (by show x+1<2+(Ke N).length;exact je 0x121cbee0bb31010 rfl k),λw v I=>?_⟩;haveI:=I.3 (x-1) (by show x-1<(Ke N).length;exact se 0x2e0b321101e0b11 rfl (ta (ee 0xe30efb10 rfl hp)) k);rw[show 2+(x-1)=x+1 by exact Ka (je 0xe1b021cb31e0b11 rfl (ta (ee 0xe30efb10 rfl hp))) (je 0x21cbe1b31e0b12 rfl (ta (ee 0xe30efb10 rfl hp))),show 1+(x-1)=x by exact Ka (je 0x10eb31e0b11 rfl (ta (ee 0xe30efb10 rfl hp))) (je 0xeb131e0b12 rfl (ta (ee 0xe30efb10 rfl hp)))]at this;erw[this]
  ·rcases xa a with rfl|a
   ·erw[G _ _ MY]
   ·rw[ia a];exact G _ _ NY
  ·rcases xa a with rfl|a
   ·erw[Vl _ _ U MY X0]
   ·rw[ia a];exact Vl _ _ T NY Y0
end
section
variable {H H' H0 : MH} {Q : MV → MH → Prop} {K : MF → List MV → MH → Prop} {g : Nat → Nat → Bool}
def Cg (p:Pt):Nat×Nat:=(p.nm,p.ns.length)
def iy (c:Cl):Nat×MV×Nat:=(c.k,c.par,c.ins.length)
def Tv (N:Nt):Nat:=(N.ins.flatMap (·.ns)).length
theorem Tn:(Ke N).length=Tv N+(stC N).length:=by unfold Ke Tv stC;erw[Er (ua ..) (Er (aa ..) rfl)]
inductive eu (N R:Nt)(g xe:List Cl):Prop
 |mk (cells:R.cells=g++xe) (inn:R.ins.map Cg=N.ins.map Cg) (ina:R.ins.flatMap (·.ns)=range' 2 (Tv N)) (aiX:R.outs.map Cg=N.outs.map Cg) (stk:xe.map iy=(stC N).map iy) (sto:xe.map (·.out)=range' (2+Tv N) (stC N).length) (tW:∀c∈g,∃i,A4 (i<13) (c.k=1) (c.par=nh i) (c.ins.length=Yp i)) (top:∀(j:Nat)(c:Cl),g[j]?=some c->∀x∈c.ins,x<2+(Ke N).length+j) (out:g.map (·.out)=range' (2+(Ke N).length) g.length) (gl:g.length<800) (kn:∀x∈R.outs.flatMap (·.ns)++xe.flatMap (·.ins),x<2+(Ke N).length+g.length) (val:∀u w,ki N.cells u->ki g w->(∀(i s:Nat),(Ke N)[i]?=some s->w (2+i)=u s)->(R.outs.flatMap (·.ns)++xe.flatMap (·.ins)).map w=(Qg N).map u)
theorem acM {ns:List Nd}{m:Nat}(z:ns[0]?=some none)(u:∀i l r,ns[i]?=some (some (l,r))->l/2<i/\r/2<i)(t:∀i,i<m->ns[1+i]?=some none)(f:Nat->Bool):∃v,Ri ns v/\∀i,i<m->v (1+i)=f i:=by
 haveI key:∀k,k<=ns.length->∃v:Va,v 0=false/\(∀i l r,i<k->ns[i]?=some (some (l,r))->v i=(lv v l&&lv v r))/\∀i,i<m->v (1+i)=f i:=by
  intro k
  induction k with
  |zero=>exact λ_=>⟨λx=>if x=0 then false else f (x-1),rfl,λi l r h=>qd h (kc _),λi _=>(by show(if 1+i=0 then _ else f (1+i-1))=_;exact Er (Dc (by exact Nat.ne_of_gt (ee 0xebefb3 rfl))) (Er (Nat.add_sub_cancel_left ..) rfl))⟩
  |succ k w=>
   intro s;erw[Xf (w (Nat.le_of_succ_le s)) λv n j d=>(eE (⟨_,wa s⟩:∃nd,ns[k]?=some nd) λnd b=>?_)];cases nd with
   |none=>
    refine⟨v,n,λi l r a e=>?_,d⟩;rcases qb a with a|rfl
    ·erw[j i l r a e]
    ·rw[b]at e;exact(nomatch e)
   |some pr=>
    have o:∀x,x/2<k->lv (λy=>if y=k then(lv v pr.1&&lv v pr.2)else v y) x=lv v x:=λx A=>by
     show xor (if x/2=k then(lv v pr.1&&lv v pr.2)else v (x/2)) (decide (x%2=1))=xor (v (x/2)) _;erw[Er (Dc (Kc A)) rfl]
    refine⟨λy=>if y=k then(lv v pr.1&&lv v pr.2)else v y,?_,λi l r a e=>?_,λi a=>?_⟩
    ·show(if 0=k then _ else _)=_;rw[Dc (λe=>by rw[<-e,z]at b;exact(nomatch b))];exact n
    ·erw[eA (u i l r e) λq p=>?_];rcases qb a with a|rfl
     ·erw[Er (o l (ya q a)) (Er (o r (ya p a)) ?_)];show(if i=k then _ else _)=_;erw[Er (Dc (Kc a)) (j i l r a e)]
     ·rw[b]at e;haveI e:=Prod.mk.inj (oa (oa e));erw[Er (o l q) (Er (o r p) (Es e.1 (Es e.2 ?_))),Ec rfl]
    ·show(if 1+i=k then _ else _)=_;rw[Dc (λe=>by rw[<-e,t i a]at b;exact(nomatch b))];exact d i a
 erw[Xf (key ns.length (Qa _)) λv n j d=>⟨v,⟨n,λi l r e=>j i l r (yd e) e⟩,d⟩]
theorem Oq.all {N:Nt}{a:List Nat}{at':Nat}{os:List Pt}(s:Oq N a N.outs.length at' os):os.map Cg=N.outs.map Cg:=by haveI:=s.1;rwa[Sa]at this
section
variable {c:MM}
theorem mM {os:List Pt}{e:List Cl}{at':Nat}{h:List Nat}(r:Fe Hb c.da A)(q:GE N A)(I:R.cells=[])(C:R.ins.map Cg=N.ins.map Cg)(F:R.ins.flatMap (·.ns)=range' 2 (Tv N))(ex:RE R R')(k:Rk (Ke N).length R')(b:Sv (Ke N).length A R' h A.outs) (B:Oq N h N.outs.length at' os) (j:Sq N h (os.flatMap (·.ns)) (2+Tv N) (stC N).length h.length e):eu N {R' with outs:=os,cells:=R'.cells++e} R'.cells e:=by
 haveI t:R'.ins=R.ins:=by obtain⟨m,J,rfl⟩:=ex.1;rfl
 refine⟨rfl,by show R'.ins.map Cg=_;refine Er t ?_;exact C,by show R'.ins.flatMap _=_;refine Er t ?_;exact F,B.all,?_,j.2,k.1,k.2,k.3,b.3,λx d=>k.fM (b.2 x ?_),λu w E D l=>?_⟩
 ·haveI:=j.1;rwa[Sa]at this
 ·haveI d:x∈os.flatMap (·.ns)++e.flatMap (·.ins):=d;rwa[j.3,Sa]at d
 ·haveI p:=q.1;haveI y:∀i,i<(Ke N).length->A.wd[1+i]?=some none:=λi a=>by
   erw[eE p.2 λG z=>?_];rw[z.1,jc (by exact Er Bb (je 0x1ebe0ebb31e0b10 rfl a)),List.getElem?_replicate,Ec (by exact je 0x1ebe0ebb31e0b10 rfl a)]
  erw[Sd (acM r.10 r.9 y λi=>u ((Ke N).getD i 0)) λv n f=>?_]
  haveI rel:Rel N A u v:=⟨E,n,λi x s d o=>by
   haveI a:=yd o;rw[p.1,Sc a,Qb]at d;erw[Es (oa d) ?_]
   refine Er (f i a) ?_;refine Er Ga ?_;exact Er o rfl⟩
  haveI rv:RV (Ke N).length A R' w v:=⟨D,n,λi a=>by exact Er (f i a) (l i _ (getD_at a))⟩;show(os.flatMap (·.ns)++e.flatMap (·.ins)).map w=_;erw[Er j.3 (Er Sa (Er (b.1 w v rv) (Er (q.2.2 u v rel) rfl)))]
theorem acO (J:6<=n)(ok:Ai N)(q:Bq Hb c N A zf vs)(gr:GE N A)(C:Hb.le H)(u:Md H c.dr R)(lM:Hb R.pc=none)(du:Hb R.po=none)(hpi:Hb R.pi=none)(M:Hb c.p8=none)(B:c.p8≠R.pi/\c.p8≠R.po/\c.p8≠R.pc/\∀y,y∈R.ins\/y∈R.outs->y.r≠c.p8)(T:R.cells=[])(O:R.cnt=2+Tv N)(ho:R.outs=[])(V:H c.p7=some (.dict [(iv 0,iv 0)])) (U:H c.p8=some (.list ((range' 2 (Tv N)).map iv))) (k_:R.ins.map Cg=N.ins.map Cg) (C5:R.ins.flatMap (·.ns)=range' 2 (Tv N))(h:∀H' D g E,Hb.le H'->Md H' c.dr D->eu N D g E->Q (.obj 0 c.dr) H'):Kd (Ce X n) bA (Sn c x9 Ml Gy gy Nl gq Ol iq Dp Ep jw Fp Hp Hy Yt Zt au bu) H λfl _ H'=>Q (Af fl) H':=by
 haveI jk:N.cells.length<1000:=ya ok.4 akq;haveI S:(Je N).length<90:=ja El ok.4;haveI xW:Tv N<200:=by haveI:=Si ok;rw[Tn]at this;exact je 0xc82ce0b3c82ce10bb10 rfl this
 erw[[Sn,bA],Qt (dm J) (q.1.mono C) jk λmj H1 j s MY=>?_,have i:=u.mono j;?_,haveI v:=j _ _ U;?_,haveI Y:mj≠c.p8/\mj≠R.pi/\mj≠R.po/\mj≠R.pc/\∀y,y∈R.ins\/y∈R.outs->y.r≠mj:=⟨(Gd U s).symm,(Gd u.2 s).symm,(Gd u.3 s).symm,(Gd u.4 s).symm,λy b=>Gd (u.5 y b).1 s⟩;?_,[ZJ],⟨i.Ei rfl,De MY (Re (ya S akq)) ?_⟩,Er (aa ..) ?_,Ih rfl (Em (dm J) (ya S akq) i λnj t I o Z a=>?_)];haveI W:nj≠c.p8/\nj≠R.pi/\nj≠R.po/\nj≠R.pc/\∀y,y∈R.ins\/y∈R.outs->y.r≠nj:=⟨(Gd v o).symm,(Gd i.2 o).symm,(Gd i.3 o).symm,(Gd i.4 o).symm,λy b=>Gd (i.5 y b).1 o⟩;have no:∀p l,H1 p=some (.list l)->t p=some (.list l):=λp l e=>I _ _ (λm=>i.On e (ia m)) e;haveI d:=no _ _ v;haveI P:=no _ _ MY;haveI l2:Hb.le t:=I.le (C.trans j) λz hz=>by exact Er (ia hz) q.12
 haveI w:t c.p7=some (.dict [(iv 0,iv 0)]):=I _ _ (λm=>by
  erw[eE i.1 λf x=>?_]
  exact(og x.1 (j _ _ V) λ_=>MO.noConfusion) (ia m).symm) (j _ _ V)
 erw[[YJ],⟨eZ d,dZ d Z (Re (by exact Er La (ya xW akq))) (Re (by exact Er La (ya S akq))) ?_⟩];haveI e8:(t.set c.p8 (.list ((range' 2 (Tv N)).map iv++(range' R.cnt (Je N).length).map iv))) c.p8=some (.list ((range' 2 (Ke N).length).map iv)):=by
  erw[Er MH.sd (Es Aa (Er O (Er Rc (Er Tn (Er PA rfl)))))]
 erw[acK (R:={R with cnt:=R.cnt+(Je N).length}) J ok q (l2.set M) ?_ lM du T (by show R.cnt+_=_;exact Er O (Er Tn (Er PA (Er (Yb ..) rfl)))) ho ((MH.ud (Le w d)).trans w) e8 ((MH.ud Y.1).trans P) ((MH.ud W.1).trans Z) (C.fresh s) Y.2 ((C.trans j).fresh o) W.2 λH' D os E at' ss L ex rk F tQ oq G=>h H' _ D.cells E L tQ (mM (R:={R with cnt:=R.cnt+(Je N).length}) q.3 gr T k_ C5 ex rk F oq (by haveI G:=O▸G;exact G)),eE a.1 λf x=>?_];haveI off:Off [c.p8] t (t.set c.p8 (.list ((range' 2 (Tv N)).map iv++(range' R.cnt (Je N).length).map iv))):=aku.set (.head _);have k:∀z,z≠c.p8->z∉[c.p8]:=λz h m=>h (ia m);exact⟨⟨f,off _ _ (k _ (og x.1 d λ_=>MO.noConfusion)) x.1,x.2,x.3,x.4,x.5,x.6⟩,off _ _ (k _ B.1.symm) a.2,off _ _ (k _ B.2.1.symm) a.3,off _ _ (k _ B.2.2.1.symm) a.4,λy b=>⟨off _ _ (k _ (B.2.2.2 y b)) (a.5 y b).1,(a.5 y b).2,(a.5 y b).3,(a.5 y b).4⟩,a.6,a.7,a.8⟩
end
theorem Md.acR (a:Md H d N)(e:H p=some (.list l))(c:p≠N.pi/\p≠N.po/\p≠N.pc/\∀y,y∈N.ins\/y∈N.outs->y.r≠p):Md (H.set p (.list l')) d N:=by erw[eE a.1 λf x=>?_];have off:Off [p] H (H.set p (.list l')):=aku.set (.head _);have k:∀z,z≠p->z∉[p]:=λz h m=>h (ia m);exact⟨⟨f,off _ _ (k _ (og x.1 e λ_=>MO.noConfusion)) x.1,x.2,x.3,x.4,x.5,x.6⟩,off _ _ (k _ c.1.symm) a.2,off _ _ (k _ c.2.1.symm) a.3,off _ _ (k _ c.2.2.1.symm) a.4,λy b=>⟨off _ _ (k _ (c.2.2.2 y b)) (a.5 y b).1,(a.5 y b).2,(a.5 y b).3,(a.5 y b).4⟩,a.6,a.7,a.8⟩
inductive Iq (H:MH)(c:MM)(N R:Nt)(k:Nat)(is:List Pt)(H':MH):Prop
 |mk (nt:Md H' c.dr {R with cnt:=2+((N.ins.take k).flatMap (·.ns)).length,ins:=is}) (key:is.map Cg=(N.ins.take k).map Cg) (ns:is.flatMap (·.ns)=range' 2 ((N.ins.take k).flatMap (·.ns)).length) (h8:H' c.p8=some (.list ((range' 2 ((N.ins.take k).flatMap (·.ns)).length).map iv))) (off:Off [c.dr,R.pi,c.p8] H H') (Vl:∀y∈is,y.r≠c.p8)
theorem acS (M:6<=n)(ok:Ai N)(q:Bq Hb c N A zf vs)(gr:GE N A)(s:Hb.le H)(D:Md H c.dr R)(Y:Hb R.pc=none)(du:Hb R.po=none)(p:Hb R.pi=none)(u:Hb c.p8=none)(i:c.p8≠R.pi/\c.p8≠R.po/\c.p8≠R.pc)(hc:R.cells=[])(bi:R.cnt=2)(hi:R.ins=[])(E:R.outs=[])(C:H c.p7=some (.dict [(iv 0,iv 0)])) (O:H c.p8=some (.list [])) (D2:N.ins.length<900)(h:∀H' S g U,Hb.le H'->Md H' c.dr S->eu N S g U->Q (.obj 0 c.dr) H'):Kd (Ce X n) cA (Sn c .td .td .td .td .td .td .td .td .td .td .td .td .td .td .td .td .td .td) H λfl _ H'=>Q (Af fl) H':=by
 have I:Tv N<200:=by haveI:=Si ok;rw[Tn]at this;exact je 0xc82ce0b3c82ce10bb10 rfl this
 have a:∀x∈[c.dr,R.pi,c.p8],Hb x=none:=λx b=>by
  rcases xa b with rfl|b
  ·erw[q.12]
  rcases xa b with rfl|b
  ·erw[p]
  ·erw[Er (ia b) u]
 haveI Z:Iq H c N R 0 [] H:=⟨by refine Es hi ?_;haveI:=D;rw[show R={R with cnt:=2+((N.ins.take 0).flatMap (·.ns)).length} by simp only[Fb];show _={R with cnt:=2};exact Es bi rfl]at this;exact this,rfl,rfl,O,aku,λy j=>qd j Ea⟩;erw[[Sn,cA],Qd λB R2 hB hR=>?_,[],(q.1.mono s).aI (ve (s _ _ q.1.2) ?_),be (λt:MV×MV=>Sn c t.1 t.2 .td .td .td .td .td .td .td .td .td .td .td .td .td .td .td .td) (λk _ H'=>∃is,A2 (Iq H c N R k is H') (k<=N.ins.length)) (.td,.td) ⟨[],Z,Ta _⟩ (λ_ _ _ gk=>by obtain⟨_,y⟩:=gk;exact y.1.5.le s a _ _ q.1.2) ?_ ?_]
 ·intro k x rg H3 K3 b Se T _ _;erw[eE Se λis fg=>?_,haveI y:=fg.1;?_,yp x (Lv b) λd j=>?_];haveI VE:=y.5.le s a;haveI FL:=VE _ _ (q.1.5 d (.inl (Dd j))).1
  have hw:d.ns.length<200:=ja (by
   erw[kl (List.append_of_mem (Dd j)) λl1 l2 e=>?_];unfold Tv
   simp only[e,Jb,nb,ua];exact se 0x20b1b03 rfl) I
  haveI l:(N.ins.take (k+1)).flatMap (·.ns)=(N.ins.take k).flatMap (·.ns)++d.ns:=by simp only[Xd j,Jb,nb,Jc,ib]
  haveI V:((N.ins.take k).flatMap (·.ns)).length<=Tv N:=by
   haveI:N.ins.take k++N.ins.drop k=N.ins:=List.take_append_drop ..;unfold Tv;erw[Es this (Er Jb (Er ua (Er this (jb _ _))))]
  haveI L9:is.length<1000:=by
   haveI:=Fc List.length y.2;simp only[aa,zb]at this;erw[se 0x3e83ce0b33843ce2b1021101011 rfl this (Nc _ _) D2]
  erw[⟨rfl,hB _ _ _ ?_⟩,[Sn,EU,nC],⟨eZ y.4,y.1.Ei rfl,De FL (Re (ya hw akq)) ?_⟩];simp only[aa];erw[Ih rfl (Ux (nm:=d.nm) (w:=d.ns.length) (dm M) (ya hw akq) L9 y.1 λr J H4 L hr bw er dN=>?_)];haveI G:c.p8∉[c.dr,R.pi]:=λm=>by
   rcases xa m with m|m
   ·erw[y.1.On y.4 m]
   ·erw[i.1 (ia m)]
  haveI v:=L _ _ G y.4;haveI o:J≠c.p8:=bw _ _ y.4;erw[dZ v er (Re (Er La (je 0x3e83ce0b3c82ce1b101010 rfl V I))) (Re (Er La (ee 0x3e83ce0b3c82ce0b10 rfl hw))) (T (.str d.nm,.ref d.r) _ ⟨is++[⟨d.nm,range' (2+((N.ins.take k).flatMap (·.ns)).length) d.ns.length,J⟩],⟨?_,?_,?_,(Er MH.sd (Er l (Er ua (Es Rc (Er Aa rfl))))),?_,λz a=>?_⟩,yd j⟩)]
  ·erw[Er l (Er (ua ..) (Es (Yb ..) ?_)),dN.acR v ⟨i.1,i.2.1,i.2.2,λz a=>?_⟩,Or.elim a (λa=>?_) (λa=>?_)]
   ·rcases Oa a with a|a
    ·erw[y.6 z a]
    ·erw[Er (ia a) o]
   ·have a:z∈R.outs:=a;rw[E]at a;exact qd a Ea
  ·simp only[Aa,y.2,Xd j,xb];unfold Cg;erw[Er La rfl]
  ·simp only[Jb,y.3,nb,Jc,ib,l,ua,Rc]
  ·exact(y.5.trans (L.more λx b=>by
    rcases xa b with rfl|b
    ·erw[.head _]
    ·exact Er (ia b) (.tail _ (.head _)))).set (.tail _ (.tail _ (.head _)))
  ·rcases Oa a with a|a
   ·erw[y.6 z a]
   ·erw[Er (ia a) o]
 ·intro Zd H3 bf;erw[eE bf λis W=>?_];haveI y:=W.1;rw[aa]at y;have y:=y;haveI P:=y.1;haveI key:=y.2;haveI ns:=y.3;haveI v:=y.4;haveI off:=y.5;haveI Vl:=y.6;rw[Sa]at P key ns v;have F:c.p7∉[c.dr,R.pi,c.p8]:=λm=>by
   rcases xa m with m|m
   ·erw[eE D.1 λf x=>((og x.1 C λ_=>MO.noConfusion) m.symm)]
   rcases xa m with m|m
   ·erw[Le C D.2 m]
   ·erw[Le C O (ia m)]
  erw[hR _ _ (acO (R:={R with cnt:=2+Tv N,ins:=is}) M ok q gr (off.le s a) P Y du p u ⟨i.1,i.2.1,i.2.2,λz a=>?_⟩ hc rfl E (off _ _ F C) v key ns h),Or.elim a (λa=>(Vl z a)) (λa=>?_)]
  ·have a:z∈R.outs:=a;rw[E]at a;exact qd a Ea
theorem QZ (j:9<=n)(ok:Ai N)(a:Md H d N)(l:rf H pl vs)(w:2<=k/\k<=3)(V:1<=most/\most<=3)(P:(Ke N).length+3*N.cells.length<29)(b:(Qg N).length<30)(bo:N.outs.length<1000)(D2:N.ins.length<900)(h:∀m H' R g q,H.le H'->Md H' m R->eu N R g q->Q (.obj 0 m) H'):Fd X n 69 [.obj 0 d,.ref pl,iv k,iv most] H Q:=by
 erw[eE (Of j) λn Kj=>?_];subst Kj;erw[Ad rfl rfl ?_,[Ae,p69,eK],JA (dn j) ok (ya b akq) a λZ A H1 G I f=>?_,haveI E2:=f.1.len;?_,haveI D:A.wd.length<30:=se 0x1e2ce0b31d2ce231d1bb10231d1ebb010 rfl E2 P;?_,haveI C:A.outs.length=(Qg N).length:=f.2.3;?_,[Ae,dK],SE (dn j) w V I (l.mono G) (ya D akq) (je 0x3e83ce0b31e2ce1b101011 rfl C b) f.2.1 λX1 J zf F y ca=>?_,have z:=G.trans F;?_,have a2:=a.mono z;?_,[Ae,cK],a2.aNm ?_,λm B=>?_,Kt (dn j) ⟨_,MH.sd⟩ λp R O o _ bi W U Y u t M=>⟨rfl,?_⟩];haveI s:J.le p:=O.le ((akr _).new B) λx T=>by exact Er (ia T) B
 erw[[Ae,bK],⟨λk w=>by exact Er (ia w) rfl,λp7 i=>?_⟩,[Ae,aK],⟨Vd rfl,λp8 e=>?_⟩];obtain⟨r,e⟩:=fresh e;haveI E:p.le ((p.set p7 (.dict (Ue [.int 0] [.int 0] []))).set p8 (.list [])):=((akr p).new i).set e;erw[acS (c:=⟨d,pl,k,most,Z,X1,m,p7,p8⟩) (R:=R) (Hb:=J) (dn j) ok ⟨a2,l.mono z,I.mono F,D,by exact je 0x1e2ce0b31e2ce1b101011 rfl C b,y,ca,f.1,f.2.1,bo,C,B,s.fresh i⟩ f (s.trans E) (o.mono E) (fresh M).2 (fresh t).2 (fresh u).2 (s.fresh e) ⟨(Gd o.2 e).symm,(Gd o.3 e).symm,(Gd o.4 e).symm⟩ Y bi W U ((MH.ud r.symm).trans MH.sd) MH.sd D2 λH' R' g q v L S=>h m H' R' g q (z.trans v) L S]
inductive Hd (H:MH)(h p:Nat)(ns:List Int):Prop
 |mk (hc:H p=some (.list (ns.map .int))) (hh:∃a b c:Nat,A3 (H h=some (.list [.ref p,iv a,iv b,iv c,iv 0])) (a<=ns.length) (c<2^31)) (ln:ns.length<=63)
section
variable {ns:List Int}
theorem Hd.ne (d:Hd H h p ns):p≠h:=λe=>by
 erw[we d.2 λa b c x=>?_];haveI:=d.1;rw[e,x.1]at this;haveI:=MO.list.inj (oa this);cases ns with
 |nil=>exact Xi List.ctorIdx this rfl|cons z r=>injection this with h1 _;exact MV.noConfusion h1
theorem Hd.off (d:Hd H h p ns)(o:Off S H H')(f:h∉S)(e:p∉S):Hd H' h p ns:=by obtain⟨a,b,c,x⟩:=d.2;exact⟨o _ _ e d.1,⟨a,b,c,o _ _ f x.1,x.2,x.3⟩,d.3⟩
theorem Hd.mono (d:Hd H h p ns)(o:H.le H'):Hd H' h p ns:=d.off (S:=[]) o.off Ea Ea
theorem Hd.put (d:Hd H h p ns)(f:a<=ns.length)(e:c<2^31):Hd (H.set h (.list [.ref p,iv a,iv b,iv c,iv 0])) h p ns:=⟨(MH.ud d.ne).trans d.1,⟨a,b,c,MH.sd,f,e⟩,d.3⟩
theorem oh (B:1<=n)(d:Hd H h p ns)(j:0<lim)(w:lim<2^30)(k:∀g H',Off [h] H H'->Hd H' h p ns->g<lim->Q (iv g) H'):Fd X n 72 [.ref h,iv lim] H Q:=by
 erw[Xh n (Of B) λn=>?_];have i:ns.length<big:=ja d.3 (Vd rfl);haveI r:=d.ne;have last:∀(a b c:Nat)(s:MV) H',Off [h] H H'->H' p=some (.list (ns.map .int))->H' h=some (.list [.ref p,iv a,iv b,iv c,iv 0])->a<=ns.length->c<2^31->Kd (Ce X n) gK [.ref h,iv lim,s,.td] H' λC zz H'=>Q (Af C) H':=by
  intro a b c s H' o A m l f;erw[[gK],Ve (k:=2) m rfl (Vd rfl) (Bv j ?_),[YU],Ve (k:=2) m rfl (Vd rfl) (Cp j w (putL (k:=2) m (gc rfl) (Vd rfl) ?_)),[XU],k _ _ (o.set (.head _)) ⟨(MH.ud r).trans A,⟨a,b/lim,c,MH.sd,l,f⟩,d.3⟩ (Nat.mod_lt _ j)]
 erw[we d.2 λa b c x=>?_,haveI f:=d.1;?_,Ad rfl rfl ?_,[p72,ZU],qe λR t=>?_,[],Ve (k:=2) x.1 rfl (Vd rfl) ?_,[],⟨λe=>?_,λzz=>t _ _ (last a b c _ H aku f x.1 x.2 x.3)⟩,[WU],qe λE D=>?_,[],Ve (k:=1) x.1 rfl (Vd rfl) (Ve (k:=0) x.1 rfl (Vd rfl) (De f (by exact Er (aa ..) i) ?_)),Er (aa ..) ?_,[],⟨λu=>?_,λu=>D _ _ ?_⟩]
 ·erw[[SU],Ve (k:=3) x.1 rfl (Vd rfl) (Av (ya x.3 akq) (b:=48271) akq (Bv (b:=2147483647) akq (putL (k:=3) x.1 (gc rfl) (Vd rfl) ?_))),[RU],Ve (k:=3) MH.sd rfl (Vd rfl) (Cp (b:=7) akq akq (Bv j ?_)),k _ _ (aku.set (.head _)) (d.put x.2 (ya (Nat.mod_lt _ akq) akq)) (Nat.mod_lt _ j)]
 ·haveI l:a<ns.length:=vc x.2 (Am u);erw[eE (⟨_,wa l⟩:∃z,ns[a]?=some z) λz y=>?_,[VU],Ve (k:=0) x.1 rfl (Vd rfl) (Ve (k:=1) x.1 rfl (Vd rfl) (Ve (v:=.int z) f (by refine Er (za ..) ?_;exact Er y rfl) (by exact Er (aa ..) i) ?_)),[UU],Ve (k:=1) x.1 rfl (Vd rfl) (zg (b:=1) (putL (k:=1) x.1 (gc rfl) (Vd rfl) ?_))];haveI fin:∀v:Int,v=(z.natAbs:Int)->Om (.ref h) (.int 2) (.int v) (H.set h (.list ([.ref p,iv a,iv b,iv c,iv 0].set 1 (iv (a+1))))) λH'=>R [.ref h,iv lim,.int z,.td] H':=by
   rintro _ rfl;erw[putL (k:=2) MH.sd (gc rfl) (Vd rfl) (t _ _ ?_),last (a+1) z.natAbs c _ _ ((aku.set (.head _)).set (.head _)) (by exact Er (MH.ud r) (Er (MH.ud r) f)) MH.sd l x.3]
  erw[[TU],⟨λq=>?_,λq=>?_⟩]
  ·haveI:z=(z.natAbs:Int):=(Int.natAbs_of_nonneg (Sb q)).symm;erw[fin _ this]
  ·haveI:-z=(z.natAbs:Int):=(Int.ofNat_natAbs_of_nonpos (Int.le_of_lt (Int.not_le.mp (of_decide_eq_false q)))).symm;erw[fin _ this]
theorem acZ (k:Q (iv (min x y)) H):Ii 5 [iv x,iv y] H Q:=by haveI e:min (x:Int) (y:Int)=((min x y:Nat):Int):=(Lean.Omega.Int.ofNat_min x y).symm;show Q (.int (min (x:Int) (y:Int))) H;erw[Er e k]
theorem wQ {g n:Nat}(b:g<n):(-1-(g:Int)+n).toNat=n-1-g:=by
 have a:((n-1-g:Nat):Int)+(1+g)=n:=by rw[Nat.sub_sub];exact Fc Int.ofNat (ta (by rw[Nat.add_comm];exact b))
 rw[show -1-(g:Int)+n=((n-1-g:Nat):Int)from Pc (O0 0x21edab321eb0b12 rfl a) (O0 0x21edab0321eb0b11 rfl a)];rfl
theorem SZ {q g:Nat}{vs:List MV}{v:MV}(c:H q=some (.list vs))(a:g<vs.length)(b:vs[vs.length-1-g]?=some v)(d:vs.length<big)(k:Q v H):ak (.ref q) (.int (-1-(g:Int))) H Q:=by
 erw[rj c ⟨d,sf ?_ k⟩];haveI:tj (-1-(g:Int)) vs.length=some (vs.length-1-g):=by
  unfold tj;erw[Er (Dc (by exact Int.not_le_of_gt (Lm 0xfe0edab30f10 rfl (Ua _)))) (Er (Ec (by exact Jy 0xeda1d31e0b10 rfl (Nb a))) ?_),Fc some (wQ a)]
 erw[Er this b]
theorem xQ {q:Nat}{a:List Nat}(i:2<=n)(d:Hd H h p ns)(A:H q=some (.list (a.map iv)))(s:q≠h)(l:0<a.length)(f:a.length<1000)(k:∀x H',Off [h] H H'->Hd H' h p ns->x∈a->Q (iv x) H'):Fd X n 74 [.ref h,.ref q] H Q:=by
 erw[eE (Of i) λn C=>?_];subst C;have no:∀{H'},Off [h] H H'->H' q=some (.list (a.map iv)):=λo=>o _ _ (λm=>s (ia m)) A;erw[Ad rfl rfl ?_,[p74,gV],qe λR B=>?_,[],oh (lim:=3) (dn i) d akq akq λg D b w zz=>?_,[],⟨λzz=>?_,λzz=>B _ _ ?_⟩]
 ·erw[[eV],De (no b) (Re f) (Er (aa ..) (oh (dn i) w l (ya f akq) λr u c t j=>?_)),[],Ve (no (b.trans c)) (yf (wa j)) (Re f) (k _ u (b.trans c) t (List.getElem_mem j))]
 ·erw[[fV],De (no b) (Re f) (Er (aa ..) (acZ (y:=6) (oh (dn i) w (Nat.lt_min.mpr ⟨l,akq⟩) (by exact ja (m:=1000) (ee 0x3e83c0361c010 rfl (Nc _ _)) akq) λr u c t j=>?_))),[]];haveI z:r<a.length:=by exact se 0x2e0b321101e0b10 rfl j (qc _ _)
  have e:a.length-1-r<a.length:=by exact oi 0x3e0b33e2b11210b11 rfl (ta (se 0x2031e2b121e0b10 rfl z (ta (ee 0xe30efb10 rfl l)))) (ta (ee 0xe30efb10 rfl l))
  erw[SZ (v:=iv (a[a.length-1-r])) (no (b.trans c)) (by exact Er (aa ..) z) (by exact Er (aa ..) (yf (wa e))) (Re f) (k _ u (b.trans c) t (List.getElem_mem e))]
end
theorem yQ:Yi [none,none] L=[.td,.td]:=rfl
theorem ac0:Yi [none,none,none] L=[.td,.td,.td]:=rfl
theorem ac1:Yi [none,none,none,none] L=[.td,.td,.td,.td]:=rfl
theorem nM:Yi [none,none,some i] L=[.td,.td,L.getD i .td]:=rfl
theorem oM:Yi [none,none,some i,some j] L=[.td,.td,L.getD i .td,L.getD j .td]:=rfl
theorem yW:Yi [none,none,none,some i] L=[.td,.td,.td,L.getD i .td]:=rfl
def RA (c:Cl):Prop:=(c.k=1/\∃s t,c.par=.tup [.str s,iv t])\/Rg c.k c.ins.length=true
theorem Hr (h:Rg k m=true):k=3\/k=7\/k=8\/k=9\/k=10\/k=12\/k=2:=by
 unfold Rg at h;simp only[Rb,Da]at h;rcases h with(⟨-,h|h⟩|⟨-,((h|h)|h)|h⟩)|⟨-,h⟩
 ·erw[.inl (ub h)]
 ·erw[.inr (.inl (ub h))]
 ·erw[.inr (.inr (.inl (ub h)))]
 ·erw[.inr (.inr (.inr (.inl (ub h))))]
 ·erw[.inr (.inr (.inr (.inr (.inl (ub h)))))]
 ·erw[.inr (.inr (.inr (.inr (.inr (.inl (ub h))))))]
 ·erw[.inr (.inr (.inr (.inr (.inr (.inr (ub h))))))]
theorem TZ (r:1<=n)(l:RA c)(y:c.par≠.td)(h:∀H',H.le H'->Q (iv (tabOf c)) H'):Fd X n 73 [.str c.k,c.par] H Q:=by
 erw[Xh n (Of r) λn=>?_];obtain⟨k,o,ins,b⟩:=c;erw[Ad rfl rfl ?_,[p73,cV],qe λR m=>?_,[]];rcases l with⟨rfl,s,t,rfl⟩|l
 ·erw[⟨λe=>(nomatch e),λzz=>m _ _ ?_⟩,qe λw p=>?_,[],⟨λzz=>?_,λe=>(nomatch e)⟩,[aV],Xe (k:=1) rfl (Vd rfl) (h H (akr H))]
 ·haveI f:=Hr l;have j:(k==0)=false:=by rcases f with rfl|rfl|rfl|rfl|rfl|rfl|rfl<;>rfl
  have d:(k==1)=false:=by rcases f with rfl|rfl|rfl|rfl|rfl|rfl|rfl<;>rfl
  erw[Er j ⟨λe=>(nomatch e),λzz=>m _ _ ?_⟩,qe λw p=>?_,[],Er d ⟨λe=>(nomatch e),λzz=>p _ _ ?_⟩];have q:tabOf ⟨k,o,ins,b⟩=dQ k:=Dc (λe=>by rw[show k=1 from e]at d;exact(nomatch d));rw[q]at h;erw[[bV],⟨λx i=>?_,λa u=>Ll MH.sd rfl (v:=iv (dQ k)) ?_ (h _ ((akr H).new u))⟩]
  ·repeat(rcases xa i with rfl|i;exact rfl)
   cases i
  ·rcases f with rfl|rfl|rfl|rfl|rfl|rfl|rfl<;>rfl
theorem zW:inv (.str k) [.str 14,.str 15]=some (te k):=by
 haveI e:∀a:Nat,MV.beq (.str a) (.str k)=(k==a):=λa=>by
  show(a==k)=(k==a);rw[Bool.eq_iff_iff,Zc,Zc];exact eq_comm
 show some ((MV.beq (.str 14) (.str k))||((MV.beq (.str 15) (.str k))||false))=_;rw[e,e,Bool.or_false];rfl
theorem SA (t:1<=n)(a:Md H d N)(s:N.cells.length<1000)(h:∀p H',H.le H'->H p=none->H' p=some (.list ((stC N).map Yg))->Q (.ref p) H'):Fd X n 76 [.obj 0 d] H Q:=by
 erw[Xh n (Of t) λn=>(Ad rfl rfl ?_)];show Kd _ uK _ _ _;unfold uK;simp only[YY,Sh];erw[[],a.aC (ve a.4 ?_),Gg (λk=>((N.cells.take k).filter λc=>te c.k).map Yg) (λk j H'=>A2 (j=k) (H.le H')) 0 (by simp only[Fb];rfl) ⟨rfl,akr H⟩ (λk j H' y=>⟨y.2 _ _ a.4,Re (ja (List.length_filter_le _ _) (ja (Er (zb ..) (Nc _ _)) s))⟩) ?_ ?_]
 ·intro k x j v K r o l;haveI hle:=o.2;obtain rfl:=o.1;erw[yp x (Hs r) λc u=>?_,[yQ,Yg],Xe (k:=0) rfl (Vd rfl) ?_,[],⟨Vd rfl,λq f=>cZ MH.sd zW ?_⟩];haveI e:∀b,te c.k=b->((N.cells.take (j+1)).filter λc=>te c.k).map Yg=((N.cells.take j).filter λc=>te c.k).map Yg++if b=true then[Yg c]else[]:=λb i=>by
   erw[Er (Xd u) (Er (Vb ..) (Er (Aa ..) (Er (Wb ..) (Er i ?_))))];cases b<;>rfl
  cases i:te c.k with
  |true=>exact⟨λzz=>⟨λzz=>l _ (j+1) _ (e true i) ⟨rfl,hle.new f⟩,λe=>(nomatch e)⟩,λe=>(nomatch e)⟩|false=>exact⟨λe=>(nomatch e),λzz=>⟨λe=>(nomatch e),λzz=>l _ (j+1) _ (e false i) ⟨rfl,hle.new f⟩⟩⟩
 ·intro j v m;haveI e:=m.1;haveI hle:=m.2;rw[aa]at e;erw[Er e (Er Sa (λq f=>h q _ (hle.new f) (hle.fresh f) MH.sd))]
def jl (k row:Nat):List Bool:=(range k).map row.testBit
theorem fu (h:row<2^k):ze (jl k row)=row:=by
 erw[Nat.eq_of_testBit_eq λi=>?_];by_cases a:i<k
 ·erw[Dr _ i _ (by unfold jl;refine Er za ?_;refine Er (List.getElem?_range a) ?_;rfl)]
 ·haveI b:2^k<=2^i:=Ab akq (Nat.not_lt.mp a);haveI c:ze (jl k row)<2^k:=by haveI:=Qn (jl k row);rwa[jl,aa,Ca]at this
  simp only[Nat.testBit_lt_two_pow (Ma c b),Nat.testBit_lt_two_pow (Ma h b)]
theorem aF:jl bs.length (ze bs)=bs:=by
 erw[List.ext_getElem? λi=>?_];unfold jl;erw[Er za ?_];by_cases a:i<bs.length
 ·rw[List.getElem?_range a,wa a];erw[Fc some (Dr _ i _ (wa a))]
 ·rw[Tc (Er Ca (Nat.not_lt.mp a)),Tc (Nat.not_lt.mp a)];rfl
theorem zQ (h:row<2^bs.length):(bs==jl bs.length row)=(ze bs==row):=by
 rw[Bool.eq_iff_iff,Zc,Zc];constructor
 ·intro e;exact Er e (fu h)
 ·intro e;exact Es e aF.symm
theorem dj:((T/2^r%2:Nat):Int)==1↔T.testBit r=true:=by refine Er Nat.testBit_eq_decide_div_mod_eq ?_;rw[decide_eq_true_iff];exact⟨λe=>zk (b:=1) e,λe=>by exact Er e rfl⟩
theorem pM (a:w<2^R)(b:r<R):(2^R-1-w).testBit r=!w.testBit r:=by
 haveI:=Nat.testBit_two_pow_sub_succ a r;rw[Pb b,Bool.true_and]at this;simp only[<-this]
 congr 1;exact Ka (jo 0x4033e1b4b123e2b11210b11 rfl (ta (se 0x2031e2b121e0b10 rfl a (ta (je 0x1e31e0b10 rfl a)))) (ta (je 0x1e31e0b10 rfl a)) (ta a)) (jo 0x403314b122e3b122e1b0b11 rfl (ta a) (ta (je 0x1e31e0b10 rfl a)) (ta (se 0x2031e2b121e0b10 rfl a (ta (je 0x1e31e0b10 rfl a)))))
inductive Wd (R:Nat)(W:Nat)(g:Nat->Bool):Prop
 |mk (lt:W<2^R) (bit:∀r,r<R->W.testBit r=g r)
theorem AQ {T R q:Nat}{ws:List Nat}(hn:1<=n)(E:H q=some (.list (ws.map iv)))(f:ws.length<=3)(hR:R<=32)(hw:∀w∈ws,w<2^R)(h:∀W,Wd R W (λr=>T.testBit (ze (ws.map (·.testBit r))))->Q (iv W) H):Fd X n 78 [iv T,.ref q,iv (2^R-1)] H Q:=by
 erw[Xh n (Of hn) λn=>?_,have Y:2^R-1<2^R:=Nat.sub_one_lt (Nat.pos_iff_ne_zero.mp (Ub _));?_,have y:(ws.map iv).length<big:=Re (ja f akq);?_,haveI L:=Wf f;?_,Ad rfl rfl ?_,[p78,zV,yV],Qd λB R2 hB cg=>?_,[],De E y (Er (aa ..) (Sj (Ba f akq) (Rf (ja L akq) (Ze (ja L akq) ?_)))),be (λs:Nat×MV×MV×MV=>[iv T,.ref q,iv (2^R-1),iv s.1,s.2.1,s.2.2.1,s.2.2.2]) (λm s i=>A2 (i=H) (Wd R s.1 λr=>decide (ze (ws.map (·.testBit r))<m)&&T.testBit (ze (ws.map (·.testBit r))))) (0,.td,.td,.td) ⟨rfl,Ub _,λr zz=>by exact Er (Nat.zero_testBit ..) rfl⟩ (λzz zz zz zz=>trivial) ?_ ?_]
 ·intro m x G i K I Se Z _ _;obtain⟨t,C,A,l⟩:=G;obtain⟨rfl,w⟩:=Se;erw[Ak x (Ud I) λP=>?_];have skip:∀z C A l,Wd R z (λr=>(decide (ze (ws.map (·.testBit r))<m)&&T.testBit (ze (ws.map (·.testBit r))))||(T.testBit m&&(ze (ws.map (·.testBit r))==m)))->K .next [iv T,.ref q,iv (2^R-1),iv z,C,A,l] i:=by
   intro z C A l N;erw[Z (z,C,A,l) i ⟨rfl,N.1,λr a=>(N.2 r a).trans ?_⟩];by_cases e:ze (ws.map (·.testBit r))=m
   ·simp only[e,decide_eq_false (Ic m),Pb (Oc m),Pa,Bool.and_true,Bool.false_and,Bool.false_or,Bool.true_and]
   ·simp only[show(ze (ws.map (·.testBit r))==m)=false from Yc e,Bool.and_false,Bool.or_false]
    congr 1
    rw[Bool.eq_iff_iff,decide_eq_true_iff,decide_eq_true_iff];exact⟨Nat.lt_succ_of_lt,λh=>vc (Cb h) e⟩
  erw[hB _ _ _ ?_,[xV],qe λR4 U=>?_,[],haveI o:m<8:=Ma P L;?_,haveI M:2^m<2^30:=Nat.pow_lt_pow_right akq (ya o akq);?_,Sj (Ib (ya o akq)) (Cp (Ub _) M (Bv (b:=2) akq ⟨λe=>?_,λe=>U _ _ (skip t _ _ _ ⟨w.1,λr a=>?_⟩)⟩))]
  ·haveI e:=dj.mp e;erw[[wV,vV],Qd λB5 R5 J eM=>?_,[],De E y (Er (aa ..) (Rf (ja f akq) (Ze (ja f akq) ?_))),be (λs:Nat×MV=>[iv T,.ref q,iv (2^R-1),iv t,iv m,iv s.1,s.2]) (λj s u=>A2 (u=i) (Wd R s.1 λr=>(ws.take j).map (·.testBit r)==jl j m)) (2^R-1,l) ⟨rfl,Y,λr a=>by simp only[Nat.testBit_two_pow_sub_one,Pb a,Fb];rfl⟩ (λzz zz zz zz=>trivial) ?_ ?_]
   ·intro j x S u K3 I O qg _ _;haveI wp:=O.2;obtain rfl:=O.1;erw[Ak x (Ud I) λF=>?_];obtain⟨v,D⟩:∃v,ws[j]?=some v:=⟨_,wa F⟩;haveI d:=hw v (Dd D);haveI fin:∀k,k<2^R->(∀r,r<R->k.testBit r=(v.testBit r==m.testBit j))->K3 .next [iv T,.ref q,iv (2^R-1),iv t,iv m,iv (S.1&&&k),iv j] u:=by
     intro k u5 U1;erw[qg (S.1&&&k,iv j) u ⟨rfl,Nat.and_lt_two_pow _ u5,λr a=>?_⟩];simp only[Nat.testBit_and,wp.2 r a,U1 r a,Xd D,Aa,xb];unfold jl;refine Er (Xb ..) ?_;rw[Aa,xb,Bool.eq_iff_iff,Da,Zc,Zc,Zc];haveI el:((ws.take j).map (·.testBit r)).length=((range j).map m.testBit).length:=by
      simp only[aa,zb,Ca];exact Nat.min_eq_left (Ib F)
     constructor
     ·rintro⟨e1,c⟩;exact Er e1 (Er c rfl)
     ·intro e;haveI:=List.append_inj e el;exact⟨this.1,List.head_eq_of_cons_eq this.2⟩
    erw[J _ _ _ ?_,[tV],Sj (Ib (ya F (ja f akq))) (Cp (Ub _) (Nat.pow_lt_pow_right akq (ya F (ja f akq))) (Bv (b:=2) akq ⟨λc=>?_,λc=>?_⟩))]
    ·have c:=dj.mp c;erw[Ve E (yf D) y (Tj (fin v d λr a=>?_))];refine Er c ?_;cases v.testBit r<;>rfl
    ·have c:m.testBit j=false:=by
      cases hb:m.testBit j with
      |false=>rfl|true=>exact qd (dj.mpr hb) λh=>Na (c.symm.trans h)
     erw[Ve E (yf D) y (zv (Nat.le_sub_one_of_lt d) (Tj (fin _ (ja (Nat.sub_le _ _) Y) λr a=>?_)))];refine Er (pM d a) (Er c ?_);cases v.testBit r<;>rfl
   ·intro ur u G;erw[hide λZz p=>(hide λZz p=>?_)];obtain⟨rfl,wp⟩:=G;erw[p ?_];clear p;erw[p ?_];clear p;haveI wp:=(Sa ..)▸(Ca ..)▸(aa ..)▸wp;have wp:=wp;erw[eM _ _ ?_,[uV],iW (U _ _ (skip _ _ _ _ ⟨Nat.or_lt_two_pow w.1 wp.1,λr a=>?_⟩))];simp only[Nat.testBit_or,w.2 r a,wp.2 r a,e,Bool.true_and];haveI:=zQ (bs:=ws.map (·.testBit r)) (row:=m) (Er (aa ..) P);rw[aa]at this;simp only[this]
  ·haveI e:T.testBit m=false:=by
    cases hb:T.testBit m with
    |false=>rfl|true=>exact qd (dj.mpr hb) λh=>Na (e.symm.trans h)
   simp only[w.2 r a,e,Bool.false_and,Bool.or_false]
 ·intro Xg i V;haveI w:=V.2;erw[Er V.1 ?_];rw[aa,Ca]at w;have w:=w;erw[cg _ _ (h Xg.1 ⟨w.1,λr a=>(w.2 r a).trans ?_⟩),Er (Pb (by haveI:=Qn (ws.map (·.testBit r));rwa[aa]at this)) (Er (Bool.true_and ..) rfl)]
section
variable {vs:List MV}
def F2 (vs:List MV)(k:Nat):List MV:=(range k).flatMap λi=>[.str (cT i).1,vs.getD i .td]
theorem TA {f g:Nat->MV}:∀(l:List Nat)(d:List (MV×MV)),yg (l.flatMap λi=>[f i,g i]) d=l.foldl (λd i=>dput d (f i) (g i)) d:=by
 intro l
 induction l with
 |nil=>
  intro _;erw[rfl]
 |cons i l a=>
  intro d;erw[Er nb (a _)]
theorem gu:∀i,i<13->(cT i).1=21+i:=by decide
theorem BQ:MV.beq (.str a) (.str b)=(a==b):=rfl
theorem m_ (hi:i<13):∀k,k<=13->ce ((range k).foldl (λd i=>dput d (.str (cT i).1) (vs.getD i .td)) []) (.str (cT i).1)=if i<k then some (vs.getD i .td)else none:=by
 intro k
 induction k with
 |zero=>exact λzz=>rfl|succ k a=>
  intro b;erw[Er foldl_succ (Er ie (Er BQ (Er (gu k b) (Er (gu i hi) ?_))))];rw[gu i hi]at a;by_cases e:k=i
  ·rw[Ec (by exact Er e (Pa _)),Ec (by exact je 0xe0be1b31012 rfl e),e]
  ·rw[Dc (λh=>e (by haveI:=ub h;exact Ka (je 0x1031152cb0152cb11 rfl this) (je 0x131152cb0152cb12 rfl this))),a (Nat.le_of_succ_le b)];by_cases h:i<k
   ·rw[Ec h,Ec (by exact je 0xe1be0b31e0b10 rfl h)]
   ·rw[Dc h,Dc (λq=>h (vc (Cb q) λz=>e z.symm))]
theorem UZ (i:Nat)(hi:i<13):ce (yg (F2 vs 13) []) (.str (cT i).1)=some (vs.getD i .td):=by unfold F2;rw[TA,m_ hi 13 (Qa _),Ec hi]
theorem CQ:(F2 vs k).length=2*k:=by
 induction k with
 |zero=>rfl|succ k a=>
  unfold F2 at a⊢;erw[Er Xb (Er Jb (Er ua (Er a rfl)))]
theorem DQ (m:1<=n)(l:rf H pl vs)(h:∀p H' a,H.le H'->H' p=some (.dict a)->(∀i,i<13->ce a (.str (cT i).1)=some (vs.getD i .td))->Q (.ref p) H'):Fd X n 70 [.ref pl] H Q:=by
 erw[Xh n (Of m) λn=>(Ad rfl rfl ?_)];show Kd _ fK _ _ _;unfold fK;erw[Er YY (Er WY ?_),[],ve l.1 (Gg (λk=>F2 vs k) (λk j H'=>A3 (j=k) (H'=H) (k<=13)) 0 rfl ⟨rfl,rfl,Ta _⟩ (λk j H' y=>⟨by refine Er y.2 ?_;exact l.1,by haveI:=y.3;exact Er CQ (Er y.1 (ya (by exact ee 0x402ce021db3d1c020 rfl this:2*k<64) akq))⟩) ?_ ?_)]
 ·intro k x j w K b d o;obtain rfl:=d.1;erw[Er d.2 ?_,have c:j<13:=Es l.2 (yd b);?_,Xf (l.get c) λt s r u=>?_];obtain rfl:x=.obj 2 t:=oa (b.symm.trans s);erw[[yQ],u.name (⟨rfl,o _ (j+1) _ ?_ ⟨rfl,rfl,c⟩⟩)];unfold F2;erw[Er (Xb ..) (Er (Jb ..) (Er (nb ..) (Er (Jc ..) (Er (ib ..) (Er r rfl)))))]
 ·intro j w v;obtain⟨e,rfl,-⟩:=v;rw[l.2]at e;subst e;erw[λq f=>h q _ _ ((akr _).new f) MH.sd UZ]
def G2 (c:Cl):Nat:=if c.k=1 then(match c.par with|.tup [.str s,_]=>bk (s-21)|_=>0)else 0
def qM (cs:List Cl):Nat:=(cs.map G2).sum
theorem AC (hi:i<13)(b:c.k=1)(a:c.par=nh i):G2 c=bk i:=by unfold G2;erw[Er (Ec b) (Er a ?_)];show bk ((cT i).1-21)=bk i;erw[Er (gu i hi) (Er (Nat.add_sub_cancel_left ..) rfl)]
def rM (c:Cl):Prop:=(∃i,A4 (i<13) (c.k=1) (c.par=nh i) (c.ins.length=Yp i))\/te c.k=true
theorem jq (h:te k=true):(k==1)=false:=by unfold te at h;rw[Rb]at h;rcases h with h|h<;>refine Er (ub h) ?_<;>rfl
theorem jy {cs:List Cl}{k:Nat}{c:Cl}(h:cs[k]?=some c):qM (cs.take (k+1))=qM (cs.take k)+G2 c:=by unfold qM;erw[Er (Xd h) (Er Aa (Er List.sum_append (Fc _ (Nat.add_zero _))))]
theorem EQ (r:2<=n)(l:rf H pl vs)(f:Md H d R)(F:∀c∈R.cells,rM c/\c.par≠.td)(h:∀H',H.le H'->Q (iv (qM R.cells)) H'):Fd X n 71 [.obj 0 d,.ref pl] H Q:=by
 erw[eE (Of r) λn A=>?_];subst A;erw[Ad rfl rfl ?_,[Ae,p71,QU],DQ (dn r) l λp U V a D C=>?_,[Ae,PU,OU],Qd λB R2 I G=>?_,[],(f.mono a).aC (ve (a _ _ f.4) ?_),be (λs:Nat×MV×MV×MV=>[.obj 0 d,.ref pl,.ref p,iv s.1,s.2.1,s.2.2.1,s.2.2.2]) (λk s H'=>A2 (H'=U) (s.1=qM (R.cells.take k))) (0,.td,.td,.td) ⟨rfl,by exact Er Fb rfl⟩ (λzz zz zz y=>by exact Er y.1 (a _ _ f.4)) ?_ ?_]
 ·intro k x j H' K E q o _ _;haveI e:=q.2;erw[Er q.1 (yp x (Hs E) λc t=>?_)];obtain⟨b,Ro⟩:=F c (Dd t);haveI u:=jy t;replace e:j.1=qM (R.cells.take k):=e;erw[⟨rfl,I _ _ _ ?_⟩,[MU,Yg],qe λR4 v=>?_,[]];rcases b with⟨i,m⟩|b
  ·obtain⟨O,Z,P,N⟩:=c;haveI M:O=1:=m.2;haveI L:N=nh i:=m.3;subst M L;erw[hide λZz w=>(Xf ((l.mono a).get m.1) λY W J S=>(w ?_))];clear w;erw[⟨λzz=>?_,λe=>(nomatch e)⟩,[LU,nh],Xe (k:=0) rfl (Vd rfl) (Ll D rfl ((C i m.1).trans (Fc some J)) (S.oL (zg (v _ _ (o (j.1+bk i,.str 1,.tup (P.map iv),nh i) _ ⟨rfl,?_⟩))))),Er u (Er (AC m.1 rfl rfl) (Er e rfl))]
  ·erw[Er (show(c.k==1)=false from jq b) ⟨λe=>(nomatch e),λzz=>v _ _ (o (j.1,.str c.k,.tup (c.ins.map iv),c.par) _ ⟨rfl,?_⟩)⟩];simp only[u,e];unfold G2;rw[Dc (λh=>by haveI:=jq b;have this:=h▸this;exact tf this)];rfl
 ·intro T H' z;haveI e:=z.2;erw[Er z.1 ?_];rw[aa,Sa]at e;have e:=e;replace e:T.1=qM R.cells:=e;erw[G _ _ ?_,[NU],Er e (h _ a)]
end
end
section
theorem Off.join {S T:List Nat}{c H H':MH}(a:Off S c H)(b:Off T H H')(h:∀x∈T,x∈S\/c x=none):Off S c H':=λx o d e=>b x o (λm=>(h x m).elim d λf=>by have e:=f▸e;exact nn e) (a x o d e)
structure LC where
 h:Nat
 p:Nat
 kq:Nat
 ns:List Int
 d:Nat
 p5:Nat
 p6:Nat
 H0:MH
inductive Ln (c:LC)(N:Nt)(ef outs:List Nat)(H:MH):Prop
 |mk (off:Off [c.h] c.H0 H) (hd:Hd H c.h c.p c.ns) (nt:Md H c.d N) (h5:H c.p5=some (.list (ef.map iv))) (h6:H c.p6=some (.list (outs.map iv))) (nw:∀x∈[c.d,N.pi,N.po,N.pc,c.p5],c.H0 x=none) (s5:c.p5∉[N.pi,N.po,N.pc,c.h,c.p]) (s6:c.p6∉[N.pi,N.po,N.pc,c.h,c.p5]) (sh:c.h∉[N.pi,N.po,N.pc]/\c.p∉[N.pi,N.po,N.pc]) (pt:∀y,y∈N.ins\/y∈N.outs->y.r≠c.h/\y.r≠c.p5)
theorem FQ {a b c x:Nat}{l:List Nat}(h:x∉a::b::c::l):x≠a/\x≠b/\x≠c/\x∉l:=⟨λe=>h (by rw[e];exact .head _),λe=>h (by rw[e];exact .tail _ (.head _)),λe=>h (by rw[e];exact .tail _ (.tail _ (.head _))),λe=>h (.tail _ (.tail _ (.tail _ e)))⟩
theorem Ln.to {N':Nt}{j:List Nat}{H':MH}(l:Ln c N ef outs H)(o:Off [c.h,c.d,N.pi,N.po,N.pc,c.p5] H H')(hd:Hd H' c.h c.p c.ns)(n:Md H' c.d N')(e:N'.pi=N.pi/\N'.po=N.po/\N'.pc=N.pc)(q:H' c.p5=some (.list (j.map iv)))(k:∀y,y∈N'.ins\/y∈N'.outs->y.r≠c.h/\y.r≠c.p5):Ln c N' j outs H':=by
 erw[pj e λf b a=>⟨l.1.join o λx g=>?_,hd,n,q,o _ _ (λm=>?_) l.5,by refine Er f ?_;refine Er b ?_;refine Er a ?_;exact l.6,by refine Er f ?_;refine Er b ?_;refine Er a ?_;exact l.7,by refine Er f ?_;refine Er b ?_;refine Er a ?_;exact l.8,by refine Er f ?_;refine Er b ?_;refine Er a ?_;exact l.9,k⟩]
 ·rcases xa g with rfl|g
  ·erw[.inl (.head _)]
  ·erw[.inr (l.6 x g)]
 ·erw[fj (FQ l.8) λf1 f2 f3 i=>?_];rcases xa m with m|m
  ·erw[i (Er m (.head _))]
  rcases xa m with m|m
  ·erw[l.3.On l.5 m]
  rcases xa m with m|m
  ·erw[f1 m]
  rcases xa m with m|m
  ·erw[f2 m]
  rcases xa m with m|m
  ·erw[f3 m]
  ·erw[i (Er (ia m) (.tail _ (.head _)))]
theorem Ln.keep {a:Nat}{vs:List MV}{S:List Nat}{H':MH}(l:Ln c N ef outs H)(o:Off S H H')(h:∀x∈S,x∈[N.pi,N.po,N.pc,c.d])(e:H a=some (.list vs))(b:a∉[N.pi,N.po,N.pc]):H' a=some (.list vs):=o _ _ (λm=>by
 rcases xa (h a m)with m|m
 ·erw[b (Er m (.head _))]
 rcases xa m with m|m
 ·erw[b (Er m (.tail _ (.head _)))]
 rcases xa m with m|m
 ·erw[b (Er m (.tail _ (.tail _ (.head _))))]
 ·exact l.3.On e (ia m)) e
theorem Ln.Kg {N':Nt}{S:List Nat}{H':MH}(l:Ln c N ef outs H)(o:Off S H H')(h:∀x∈S,x∈[N.pi,N.po,N.pc,c.d])(g:Md H' c.d N')(e:N'.pi=N.pi/\N'.po=N.po/\N'.pc=N.pc)(f:∀y,y∈N'.ins\/y∈N'.outs->y.r≠c.h/\y.r≠c.p5):Ln c N' ef outs H':=by
 haveI i:=l.keep o h l.4 λm=>l.7 (by
  rcases xa m with m|m
  ·erw[Er m (.head _)]
  rcases xa m with m|m
  ·erw[Er m (.tail _ (.head _))]
  ·rw[ia m];exact .tail _ (.tail _ (.head _)))
 erw[we l.2.2 λa b k x=>(l.to (o.more λx j=>?_) ⟨l.keep o h l.2.1 l.9.2,⟨a,b,k,l.keep o h x.1 l.9.1,x.2,x.3⟩,l.2.3⟩ g e i f)];rcases xa (h x j)with m|m
 ·erw[Er m (.tail _ (.tail _ (.head _)))]
 rcases xa m with m|m
 ·erw[Er m (.tail _ (.tail _ (.tail _ (.head _))))]
 rcases xa m with m|m
 ·rw[m];exact .tail _ (.tail _ (.tail _ (.tail _ (.head _))))
 ·rw[ia m];exact .tail _ (.head _)
theorem Md.ky {d q:Nat}{l:List MV}{H':MH}(a:Md H d N)(e:H q=some (.list l))(o:Off [q] H H')(c:q∉[N.pi,N.po,N.pc])(g:∀y,y∈N.ins\/y∈N.outs->y.r≠q):Md H' d N:=by
 erw[eE a.1 λf x=>?_];have k:∀z,z≠q->z∉[q]:=λz h m=>h (ia m)
 exact⟨⟨f,o _ _ (k _ (og x.1 e λzz=>MO.noConfusion)) x.1,x.2,x.3,x.4,x.5,x.6⟩,o _ _ (k _ λe=>c (by rw[<-e];exact .head _)) a.2,o _ _ (k _ λe=>c (by rw[<-e];exact .tail _ (.head _))) a.3,o _ _ (k _ λe=>c (by rw[<-e];exact .tail _ (.tail _ (.head _)))) a.4,
  λy b=>⟨o _ _ (k _ (g y b)) (a.5 y b).1,(a.5 y b).2,(a.5 y b).3,(a.5 y b).4⟩,a.6,a.7,a.8⟩
theorem Ln.pick {H':MH}(l:Ln c N ef outs H)(o:Off [c.h] H H')(hd:Hd H' c.h c.p c.ns):Ln c N ef outs H':=by erw[fj (FQ l.7) λf1 f2 f3 f=>(we l.2.2 λa b g x=>(l.to (o.more λx e=>by exact Er (ia e) (.head _)) hd (l.3.ky x.1 o l.9.1 λy d=>(l.10 y d).1) ⟨rfl,rfl,rfl⟩ (o _ _ (λm=>f (Er (ia m) (.head _))) l.4) l.10))]
theorem Ln.mono {H':MH}(l:Ln c N ef outs H)(o:H.le H'):Ln c N ef outs H':=l.to (o.off) (l.2.mono o) (l.3.mono o) ⟨rfl,rfl,rfl⟩ (o _ _ l.4) l.10
theorem Ln.push {x:Nat}(l:Ln c N ef outs H):Ln c N (ef++[x]) outs (H.set c.p5 (.list (ef.map iv++[iv x]))):=by
 erw[fj (FQ l.7) λf1 f2 f3 a=>?_,haveI o:Off [c.p5] H (H.set c.p5 (.list (ef.map iv++[iv x]))):=aku.set (.head _);?_,l.to (o.more λx d=>by exact Er (ia d) (.tail _ (.tail _ (.tail _ (.tail _ (.tail _ (.head _))))))) (l.2.off o (λm=>a (by rw[<-ia m];exact .head _)) λm=>a (by rw[<-ia m];exact .tail _ (.head _))) (l.3.ky l.4 o (λm=>?_) λy b=>(l.10 y b).2) ⟨rfl,rfl,rfl⟩ (Er MH.sd (Er Aa rfl)) l.10];rcases xa m with m|m
 ·erw[f1 m]
 rcases xa m with m|m
 ·erw[f2 m]
 ·erw[f3 (ia m)]
theorem Ln.pickK {lim:Nat}(a:1<=n)(l:Ln c N ef outs H)(f:0<lim)(e:lim<2^30)(k:∀g H',Ln c N ef outs H'->Off [c.h] H H'->g<lim->Q (iv g) H'):Fd X n 72 [.ref c.h,iv lim] H Q:=oh a l.2 f e λg H' o d b=>k g H' (l.pick o d) o b
theorem Ln.near (b:2<=n)(l:Ln c N ef outs H)(g:0<ef.length)(f:ef.length<1000)(k:∀x H',Ln c N ef outs H'->Off [c.h] H H'->x∈ef->Q (iv x) H'):Fd X n 74 [.ref c.h,.ref c.p5] H Q:=by erw[fj (FQ l.7) λf1 f2 f3 i=>(xQ b l.2 l.4 (λe=>i (Er e (.head _))) g f λx H' o d a=>k x H' (l.pick o d) o a)]
theorem Ir {P:Pg}{L:List MV}{u d:ME}{M:Nat->Prop}(v:∀m,M m->m<1000)(I:L.getD 0 .td=.ref c.h)(e5:L.getD 5 .td=.ref c.p5)(s:∀K:MV->MH->Prop,(∀m b,M m->Ln c N ef outs b->Off [c.h] H b->K (.Il 0 m 1) b)->Yd P u L H K)(t:∀(i:Nat)(b:MH)(K:MV->MH->Prop),Ln c N ef outs b->(∀x H2,Ln c N ef outs H2->Off [c.h] b H2->x∈ef->K (iv x) H2)->Yd P d [.td,iv i,.ref c.h,.ref c.p5] b K)(k:∀(m:Nat)(xs:List Nat)(H':MH),M m->Ln c N ef outs H'->Off [c.h] H H'->xs.length=m->(∀x∈xs,x∈ef)->∀a,H' a=none->Q (.ref a) (H'.set a (.list (xs.map iv)))):Yd P (.comp [none,none,some 0,some 5] (.one 1) u .nil d) L H Q:=by
 erw[Er Sh (Er oM (Er I (Er e5 ?_))),s _ λm b r C A=>Ze (ya (v m r) akq) (Gg (λxs:List Nat=>xs.map iv) (λj xs H'=>A5 (Ln c N ef outs H') (Off [c.h] H H') (xs.length=j) (∀x∈xs,x∈ef) (j<=m)) [] rfl ⟨C,A,rfl,λx q=>qd q Ea,Ta _⟩ (λj xs H' y=>⟨trivial,Re (Er y.3 (ja y.5 (v m r)))⟩) ?_ ?_)]
 ·intro j x xs H2 K q g G;haveI o:=g.1;haveI n:=g.2;haveI e:=g.3;haveI l:=g.4;erw[Ak x (Ud q) λE=>?_,[],⟨λzz=>?_,λh=>(nomatch h)⟩,t j H2 _ o λx J B w p=>G _ (xs++[x]) J (by refine Er Aa ?_;rfl) ⟨B,n.trans w,by refine Er ua ?_;refine Er e ?_;rfl,λz D=>(Oa D).elim (l z) λh=>by refine Er (ia h) ?_;exact p,E⟩]
 ·intro xs H2 f;haveI o:=f.1;haveI n:=f.2;haveI e:=f.3;haveI l:=f.4;rw[aa,Ca]at e;erw[λa F=>k m xs H2 r o n e l a F]
theorem my {i:Nat}{K:MV->MH->Prop}(a:2<=n)(d:0<ef.length)(b:ef.length<1000)(l:Ln c N ef outs H)(k:∀x H2,Ln c N ef outs H2->Off [c.h] H H2->x∈ef->K (iv x) H2):Yd (Ce X n) (.fn 74 (.cons (.loc 2) (.cons (.loc 3) .nil))) [.td,iv i,.ref c.h,.ref c.p5] H K:=l.near a d b k
theorem bF {i:Nat}{K:MV->MH->Prop}(d:2<=n)(e:0∈ef)(o:ef.length<1000)(l:Ln c N ef outs H)(k:∀x H2,Ln c N ef outs H2->Off [c.h] H H2->x∈ef->K (iv x) H2):Yd (Ce X n) (.ite (.cmp .Eq (.fn 72 (.cons (.loc 2) (.cons (.cst (.int 3)) .nil))) (.cst (.int 2))) (.fn 74 (.cons (.loc 2) (.cons (.loc 3) .nil))) (.cst (.int 0))) [.td,iv i,.ref c.h,.ref c.p5] H K:=by erw[[],l.pickK (lim:=3) (dm d) akq akq λg p b a zz=>?_,[],⟨λzz=>b.near d (List.length_pos_of_mem e) o λx H2 j f m=>k x H2 j (a.trans f) m,λzz=>k 0 p b a e⟩]
end
section
variable {H H' H0 : MH} {Q : MV → MH → Prop} {K : MF → List MV → MH → Prop} {g : Nat → Nat → Bool}
def Kh:List Nat:=[8,12,2,7,10,9,3]
def iu (k:Nat):Nat:=if k=7\/k=3 then 1 else if k=2 then 3 else 2
theorem cF:∀k∈Kh,A3 ((ce [(.str 7,iv 1),(.str 3,iv 1),(.str 2,iv 3)] (.str k)).getD (iv 2)=iv (iu k)) (Rg k (iu k)=true) (iu k<=3):=by
 intro k a;rcases xa a with rfl|a
 ·exact⟨rfl,rfl,akq⟩
 rcases xa a with rfl|a
 ·exact⟨rfl,rfl,akq⟩
 rcases xa a with rfl|a
 ·exact⟨rfl,rfl,akq⟩
 rcases xa a with rfl|a
 ·exact⟨rfl,rfl,akq⟩
 rcases xa a with rfl|a
 ·exact⟨rfl,rfl,akq⟩
 rcases xa a with rfl|a
 ·exact⟨rfl,rfl,akq⟩
 erw[Er (ia a) ⟨rfl,rfl,akq⟩]
theorem GQ (b:k∈Kh):inv (.str k) [.str 0,.str 1]=some false:=by
 haveI:∀k∈Kh,(k==0)=false/\(k==1)=false:=by decide
 haveI e:∀a:Nat,MV.beq (.str a) (.str k)=(k==a):=λa=>by
  show(a==k)=(k==a);rw[Bool.eq_iff_iff,Zc,Zc];exact eq_comm
 show some ((MV.beq (.str 0) (.str k))||((MV.beq (.str 1) (.str k))||false))=_;rw[e,e,(this k b).1,(this k b).2];rfl
inductive Gp (N:Nt)(a b w:Nat)(gs:List Cl):Prop
 |mk (key:N.ins.map Cg=[(17,a),(18,b)]) (ins:N.ins.flatMap (·.ns)=range' 2 (a+b)) (cells:N.cells=gs) (cnt:N.cnt=2+a+b+w+gs.length) (gate:∀(j:Nat)(c:Cl),gs[j]?=some c->A4 (c.out=2+a+b+w+j) (∀x∈c.ins,x<2+a+b+w+j) (Rg c.k c.ins.length=true) (c.par=.none)) (outs:N.outs=[])
theorem Gp.add (g:Gp N a b w gs)(l:Rg k xs.length=true)(i:∀x∈xs,x<N.cnt):Gp {N with cnt:=N.cnt+1,cells:=N.cells++[⟨k,N.cnt,xs,.none⟩]} a b w (gs++[⟨k,N.cnt,xs,.none⟩]):=by
 refine⟨g.1,g.2,by exact Er g.3 rfl,?_,λj c d=>?_,g.6⟩
 ·show N.cnt+1=_;erw[Er g.4 (Er ua rfl)]
 ·rw[tc]at d;by_cases h:j<gs.length
  ·rw[Ec h]at d;exact g.5 j c d
  ·rw[Dc h,Lc]at d;have d:=d;by_cases h0:j-gs.length=0
   ·rw[Ec h0]at d;erw[Es (oa d) ?_];haveI e:j=gs.length:=Ka (se 0x123f011210b12 rfl (ta (uc h)) h0) (uc h);haveI f:=g.4;rw[<-e]at f;have f:=f;exact⟨f,λx m=>by refine Es f ?_;exact i x m,l,rfl⟩
   ·rw[Dc h0]at d;exact(nomatch d)
theorem UA:range m++[m]=range (m+1):=Xb.symm
theorem dF (B:3<=n)(hk:c.H0 c.kq=some (.list (Kh.map .str)))(CW:c.kq≠c.h)(l:Ln c N (range N.cnt) outs H)(g:Gp N a b w gs)(Hm:2<=N.cnt)(hc:N.cnt<900)(E2:gs.length<900)(h:∀N' H' I G t,Ln c N' (range N'.cnt) outs H'->Gp N' a b w t->N'.cnt=N.cnt+1->t.length=gs.length+1->K .next [.ref c.h,iv 4,iv 1,.ref c.kq,.obj 0 c.d,.ref c.p5,.ref c.p6,x7,I,G,.none,Gy,gy,Nl,gq,Ol] H'):Kd (Ce X n) jK [.ref c.h,iv 4,iv 1,.ref c.kq,.obj 0 c.d,.ref c.p5,.ref c.p6,x7,I,G,Ml,Gy,gy,Nl,gq,Ol] H K:=by
 have R:∀{H'},Off [c.h] c.H0 H'->H' c.kq=some (.list (Kh.map .str)):=λo=>o _ _ (λm=>CW (ia m)) hk;have S:(range N.cnt).length<1000:=Er Ca (ee 0x3e83ce0b33843ce0b10 rfl hc);erw[[jK],De (R l.1) (Vd rfl) (l.pickK (lim:=7) (dm B) akq akq λgi E P o1 C=>?_)];obtain⟨k,f⟩:∃k,Kh[gi]?=some k:=⟨_,wa C⟩;have j:=cF k (Dd f);erw[Ve (v:=.str k) (R P.1) (by refine Er za ?_;exact Er f rfl) (Vd rfl) ?_,[jV],⟨λz r=>?_,λp hp=>⟨dL MH.sd,cL MH.sd rfl ?_⟩⟩]
 ·rcases xa r with rfl|r
  ·rfl
  rcases xa r with rfl|r
  ·rfl
  ·erw[Er (ia r) rfl]
 haveI O:=P.mono ((akr E).new (o:=.dict (Ue [.str 7,.str 3,.str 2] [.int 1,.int 1,.int 3] [])) hp);erw[Er (show(ce (Ue [.str 7,.str 3,.str 2] [.int 1,.int 1,.int 3] []) (.str k)).getD (.int 2)=iv (iu k)from j.1) ?_];generalize E.set p (.dict (Ue [.str 7,.str 3,.str 2] [.int 1,.int 1,.int 3] []))=H2 at O⊢;erw[[iV,hV],qe λR4 Qh=>?_,[],⟨Vd rfl,λq Z=>cZ MH.sd (GQ (Dd f)) ⟨λe=>(nomatch e),λzz=>Qh _ _ ?_⟩⟩];haveI u:=O.mono ((akr H2).new (o:=.list [.str 0,.str 1]) Z);generalize H2.set q (.list [.str 0,.str 1])=H3 at u⊢;show Kd _ iK _ _ _;unfold iK;erw[Er a9 (Er VK (Er uv ?_)),[],⟨fh u.4,u.3.Ei rfl,?_⟩,Ir (M:=λm=>m=iu k) (λm y=>by exact Er y (ja j.3 akq)) rfl rfl (λK D=>Rf (ja j.3 akq) (D _ H3 rfl u aku)) (λi E K Y D=>my (dm B) (Er Ca (ee 0xefb3021c10 rfl Hm)) S Y D) λm F H4 y W o4 T U ar VZ=>?_,have A:=W.mono ((akr H4).new (o:=.list (F.map iv)) VZ);?_,Ih rfl (Cr (ns:=F) (dm B) (Er T (Er y (ja j.3 akq))) (Er g.3 (ee 0x3e83ce0b33843ce0b10 rfl E2)) A.3 (.inr ⟨ar,rfl,MH.sd⟩) MV.noConfusion λH6 V WZ=>?_)]
 haveI L:=A.Kg V (λx s=>by
  rcases xa s with rfl|s
  ·erw[.tail _ (.tail _ (.tail _ (.head _)))]
  ·exact Er (ia s) (.tail _ (.tail _ (.head _)))) WZ ⟨rfl,rfl,rfl⟩ A.10
 erw[eh L.4 (Re S) ?_];haveI J:=L.push (x:=N.cnt);rw[UA]at J;erw[h _ _ (.str k) (iv (iu k)) _ J (g.add (Er T (Er y j.2)) λx s=>Mb (U x s)) rfl (Er ua rfl)]
def xp (v:MV):Prop:=∃e i:Nat,v=.tup [.str 6,iv i]\/v=.tup [iv e,.str 6,iv i]
inductive n_ (c:Cl)(o m:Nat):Prop
 |mk (st:te c.k=true) (out:c.out=o) (len:c.ins.length=4) (lt:∀x∈c.ins,x<m) (par:xp c.par)
inductive Sp (N:Nt)(a b w:Nat)(gs xe:List Cl):Prop
 |mk (key:N.ins.map Cg=[(17,a),(18,b)]) (ins:N.ins.flatMap (·.ns)=range' 2 (a+b)) (cells:N.cells=gs++xe) (cnt:N.cnt=2+a+b+w+gs.length) (gate:∀(j:Nat)(c:Cl),gs[j]?=some c->A4 (c.out=2+a+b+w+j) (∀x∈c.ins,x<2+a+b+w+j) (Rg c.k c.ins.length=true) (c.par=.none)) (st:∀c∈xe,n_ c (2+a+b) N.cnt)
inductive ny (N:Nt)(a b w:Nat)(gs xe:List Cl):Prop
 |mk (a2:1<=a/\a<=2) (b2:1<=b/\b<=2) (w1:w<=1) (g4:gs.length<=4) (sl:xe.length=w) (sp:Sp N a b w gs xe) (ol:N.outs.length=2) (oo:∀p∈N.outs,p.ns.length<=3/\∀x∈p.ns,x<N.cnt)
theorem Sp.add (g:Sp N a b w gs xe)(d:n_ s (2+a+b) N.cnt):Sp {N with cells:=N.cells++[s]} a b w gs (xe++[s]):=
 ⟨g.1,g.2,by show N.cells++[s]=_;exact Er g.3 (Er (Db ..) rfl),g.4,g.5,λx c=>(Oa c).elim (g.6 x) λh=>by exact Er (ia h) d⟩
theorem sM {k:Nat}{aJ:Nat}{xs:List Nat}{v f:MV}{a b w o:Nat}{r p:List Cl}{P:MH->Prop}(A:1<=n)(l:Ln c N (range N.cnt) outs H)(g:Sp N a b w r p)(C:te k=true)(z:o=2+a+b)(j:∀x∈xs,x<N.cnt)(t:xs.length=4)(B:N.cells.length<900)(m:H aJ=some (.list (xs.map iv)))(q:xp f)(h:∀N' H' s,Ln c N' (range N'.cnt) outs H'->N'.cnt=N.cnt->N'.outs=N.outs->N'.cells=N.cells++[s]->Sp N' a b w r (p++[s])->P H'):Fd X n 9 [.obj 0 c.d,iv o,.str k,.ref aJ,f] H λzz H'=>P H':=by erw[Br (ns:=xs) A (by refine Er t ?_;decide) (ya B akq) l.3 (.inr ⟨aJ,rfl,m⟩) (by obtain⟨e,i,rfl|rfl⟩:=q<;>exact MV.noConfusion) λH' u y=>?_,h {N with cells:=N.cells++[⟨k,o,xs,f⟩]} H' ⟨k,o,xs,f⟩ (l.Kg u (λx j=>by exact Er (ia j) (.tail _ (.tail _ (.head _)))) y ⟨rfl,rfl,rfl⟩ l.10) rfl rfl rfl (g.add ⟨C,z,t,j,q⟩)]
theorem HQ (j:3<=n)(l:Ln c N (range N.cnt) [2+a+b] H)(g:Sp N a b w gs xe)(Hm:3<=N.cnt)(hc:N.cnt<900)(hl:N.cells.length<900){P O L:MV}(h:∀N' H' s M2 O2 P2 J,Ln c N' (range N'.cnt) [2+a+b] H'->N'.cnt=N.cnt->N'.outs=N.outs->N'.cells=N.cells++[s]->Sp N' a b w gs (xe++[s])->K .next [.ref c.h,P,O,L,.obj 0 c.d,.ref c.p5,.ref c.p6,x7,x8,x9,Ml,iv 0,M2,O2,P2,J] H'):Kd (Ce X n) dA [.ref c.h,P,O,L,.obj 0 c.d,.ref c.p5,.ref c.p6,x7,x8,x9,Ml,iv 0,gy,Nl,gq,Ol] H K:=by
 have Yr:(range N.cnt).length<1000:=Er Ca (ee 0x3e83ce0b33843ce0b10 rfl hc);have o_:0<(range N.cnt).length:=Er Ca (ee 0xefb3031c10 rfl Hm);haveI m0:0∈range N.cnt:=Xa (ee 0xefb3031c10 rfl Hm);erw[[dA],l.pickK (lim:=2) (by first|exact dn j|exact dm j|omega) akq akq λe H1 l1 o1 zz=>?_,[mK],l1.pickK (lim:=2) (by first|exact dn j|exact dm j|omega) akq akq λi H2 l2 o2 zz=>?_];have rest:∀f C,f<N.cnt->Ln c N (range N.cnt) [2+a+b] C->Kd (Ce X n) nv [.ref c.h,P,O,L,.obj 0 c.d,.ref c.p5,.ref c.p6,x7,x8,x9,Ml,iv 0,iv e,iv i,iv f,Ol] C K:=by
  intro f C T E;show Kd _ nv _ _ _;unfold nv;erw[Er FP (Er VY (Er abo ?_)),[],E.near (by first|exact dn j|exact dm j|omega) o_ Yr λx B D o4 hx=>⟨Vd rfl,λt ht=>?_⟩];haveI l5:=D.mono ((akr B).new (o:=.list [iv f,iv x]) ht);haveI e5:(B.set t (.list [iv f,iv x])) t=some (.list ([f,x].map iv)):=MH.sd;haveI S:t≠c.h:=by
   erw[we D.2.2 λzz zz zz y=>((Gd y.1 ht).symm)]
  generalize B.set t (.list [iv f,iv x])=H5 at l5 e5⊢;erw[Ir (M:=λm=>m=2) (λm F=>by refine Er F ?_;decide) rfl rfl (λK U=>Rf (n:=2) akq (U _ H5 rfl l5 aku)) (λi H1 K u U=>bF (by first|exact dn j|exact dm j|omega) m0 Yr u U) λm p I F l6 o6 Wr xX G VZ=>?_];haveI R:=l6.mono ((akr I).new (o:=.list (p.map iv)) VZ);have e7:(I.set G (.list (p.map iv))) t=some (.list ([f,x].map iv)):=ge (o6 _ _ (λm=>S (ia m)) e5) VZ;haveI ea:(I.set G (.list (p.map iv))) G=some (.list (p.map iv)):=MH.sd;generalize I.set G (.list (p.map iv))=H7 at R e7 ea⊢;erw[XK e7 ea (Er (aa ..) (Er (aa ..) (Er Wr (Er F (Vd rfl))))) λaJ A=>(Es (Aa ..) ?_)];haveI l8:=R.mono ((akr H7).new (o:=.list (([f,x]++p).map iv)) A);have e8:(H7.set aJ (.list (([f,x]++p).map iv))) aJ=some (.list (([f,x]++p).map iv)):=MH.sd;have ac8:aJ≠c.h:=by
   erw[we R.2.2 λzz zz zz y=>((Gd y.1 A).symm)]
  generalize H7.set aJ (.list (([f,x]++p).map iv))=H8 at l8 e8⊢;have S_:∀z∈[f,x]++p,z<N.cnt:=λz q=>by
   rcases Oa q with q|q
   ·rcases xa q with rfl|q
    ·erw[T]
    ·erw[Er (ia q) (Mb hx)]
   ·erw[Mb (xX z q)]
  haveI p_:([f,x]++p).length=4:=Er ua (Er Wr (Er F rfl));erw[[kK],qe λR4 Qh=>?_,[],l8.pickK (lim:=4) (by first|exact dn j|exact dm j|omega) akq akq λg4 H9 r o9 zz=>?_,haveI e9:=o9 _ _ (λm=>ac8 (ia m)) e8;?_,[]];haveI ct:∀{Q:MV->MH->Prop},Q (.str 6) H9->eg .Add (.str 5) (.str 4) H9 Q:=λh=>⟨rfl,h⟩
  refine⟨λzz=>?_,λzz=>?_⟩
  ·erw[[lV],⟨r.3.Ei rfl,Ve (k:=0) r.5 rfl (Vd rfl) ⟨rfl,ct ⟨Vd rfl,?_⟩⟩⟩,Ih rfl (sM (v:=.none) (xs:=[f,x]++p) (by first|exact dn j|exact dm j|omega) r g rfl rfl S_ p_ hl e9 ⟨0,i,.inl rfl⟩ λN' H' s u Z Y W V=>Qh _ _ (h N' H' s _ _ _ _ u Z Y W V))]
  ·erw[[mV],⟨r.3.Ei rfl,Ve (k:=0) r.5 rfl (Vd rfl) ⟨rfl,ct ⟨Vd rfl,?_⟩⟩⟩,Ih rfl (sM (v:=.none) (xs:=[f,x]++p) (by first|exact dn j|exact dm j|omega) r g rfl rfl S_ p_ hl e9 ⟨e,i,.inr rfl⟩ λN' H' s u Z Y W V=>Qh _ _ (h N' H' s _ _ _ _ u Z Y W V))]
 erw[[lK],l2.pickK (lim:=3) (by first|exact dn j|exact dm j|omega) akq akq λg3 C E o3 zz=>?_,[],⟨λzz=>E.near (by first|exact dn j|exact dm j|omega) o_ Yr λf B D o4 T=>rest f B (Mb T) D,λzz=>rest 2 C (ee 0xe21cb3031c10 rfl Hm) E⟩]
inductive Lp (h p:Nat)(ns:List Int)(d:Nat)(H0:MH)(N:Nt)(H:MH):Prop
 |mk (off:Off [h] H0 H) (hd:Hd H h p ns) (nt:Md H d N) (nw:∀x∈[d,N.pi,N.po,N.pc],H0 x=none) (sh:h∉[N.pi,N.po,N.pc]/\p∉[N.pi,N.po,N.pc]) (pt:∀y,y∈N.ins\/y∈N.outs->y.r≠h)
section
variable {ns:List Int}
theorem Lp.mono (l:Lp h p ns d H0 N H)(o:H.le H'):Lp h p ns d H0 N H':=⟨l.1.trans o.off,l.2.mono o,l.3.mono o,l.4,l.5,l.6⟩
theorem Lp.pick (l:Lp h p ns d H0 N H)(o:Off [h] H H')(hd:Hd H' h p ns):Lp h p ns d H0 N H':=by erw[we l.2.2 λa b c x=>⟨l.1.trans o,hd,l.3.ky x.1 o l.5.1 l.6,l.4,l.5,l.6⟩]
theorem Lp.no (l:Lp h p ns d H0 N H)(o:Off S H H')(b:∀x∈S,x∈[d,N.pi,N.po,N.pc])(e:H t=some (.list vs))(a:t∉[N.pi,N.po,N.pc]):H' t=some (.list vs):=o _ _ (λm=>by
 rcases xa (b t m)with m|m
 ·erw[l.3.On e m]
 ·exact a m) e
theorem Lp.Kg (l:Lp h p ns d H0 N H)(o:Off S H H')(f:∀x∈S,x∈[d,N.pi,N.po,N.pc])(n:Md H' d N')(e:N'.pi=N.pi/\N'.po=N.po/\N'.pc=N.pc)(m:∀y,y∈N'.ins\/y∈N'.outs->y.r≠h):Lp h p ns d H0 N' H':=by erw[pj e λk j i=>(we l.2.2 λa b c x=>⟨l.1.join o λx q=>.inr (l.4 x (f x q)),⟨l.no o f l.2.1 l.5.2,⟨a,b,c,l.no o f x.1 l.5.1,x.2,x.3⟩,l.2.3⟩,n,by refine Er k ?_;refine Er j ?_;refine Er i ?_;exact l.4,by refine Er k ?_;refine Er j ?_;refine Er i ?_;exact l.5,m⟩)]
theorem Lp.port (j:3<=n)(l:Lp h p ns d H0 N H)(hi:N.ins.length<1000)(D:H t=some (.list vs))(C:t∉[N.pi,N.po,N.pc])(q:t≠h)(k:∀a r o H',1<=a/\a<=2->Lp h p ns d H0 {N with cnt:=N.cnt+a,ins:=N.ins++[⟨nm,range' N.cnt a,o⟩]} H'->H' r=some (.list ((range' N.cnt a).map iv))->H' t=some (.list vs)->Q (.ref r) H'):Ng (Ce X n) 6 (.obj 0 d) H/\Fd X n 72 [.ref h,iv 2] H λy H2=>eg .Add (.int 1) y H2 λv B=>Lg (Ce X n) 6 (.obj 0 d) [.str nm,v] B Q:=by
 erw[⟨l.3.Ei rfl,?_⟩,oh (lim:=2) (by first|exact dn j|exact dm j|omega) l.2 akq akq λg B z I A=>zg (a:=1) ?_,have i:=l.pick z I;?_,have s:=z _ _ (λm=>q (ia m)) D;?_,Ih rfl (Ux (nm:=nm) (w:=1+g) (by first|exact dn j|exact dm j|omega) (ee 0x3e83ce0ebb321ce0b10 rfl A) hi i.3 λr o H2 u J F E G=>k (1+g) r o H2 ⟨by exact ee 0xebe3 rfl,by exact ee 0x21c0eb321ce0b10 rfl A⟩ ?_ E ?_)]
 ·erw[i.Kg u (λx f=>?_) G ⟨rfl,rfl,rfl⟩ λy e=>?_]
  ·rcases xa f with rfl|f
   ·erw[.head _]
   ·rw[ia f];exact .tail _ (.head _)
  ·erw[we i.2.2 λa b c x=>?_];rcases e with e|e
   ·rcases Oa e with e|e
    ·erw[i.6 y (.inl e)]
    ·erw[Er (ia e) (F _ _ x.1)]
   ·erw[i.6 y (.inr e)]
 ·erw[i.no u (λx f=>?_) s C];rcases xa f with rfl|f
  ·erw[.head _]
  ·rw[ia f];exact .tail _ (.head _)
theorem tM (s:3<=n)(a2:1<=a/\a<=2)(b2:1<=b/\b<=2)(V:w<=1)(g4:gs.length<=4)(sl:xe.length=w)(u:Sp N a b w gs xe)(D:N.outs=[])(l:Ln c N (range N.cnt) outs H)(k:∀N' H',Off [c.h] c.H0 H'->Hd H' c.h c.p c.ns->Md H' c.d N'->ny N' a b w gs xe->c.h∉[N'.pi,N'.po,N'.pc]->(∀y,y∈N'.ins\/y∈N'.outs->y.r≠c.h)->Q (.obj 0 c.d) H'):Kd (Ce X n) ov [.ref c.h,x1,x2,x3,.obj 0 c.d,.ref c.p5,.ref c.p6,x7,x8,x9,Ml,Gy,gy,Nl,gq,Ol] H λfl _ H'=>Q (Af fl) H':=by
 haveI bi:=u.4;have hc:N.cnt<900:=jo 0x3843ce0b341c410e31021c21021c110432121cbbbb011 rfl bi a2.2 b2.2 V g4;have Yr:(range N.cnt).length<1000:=Er Ca (ee 0x3e83ce0b33843ce0b10 rfl hc);have W:0<(range N.cnt).length:=Er Ca (jo 0xefb3432121cbbbb012 rfl bi);show Kd _ ov _ _ _;unfold ov;erw[Er a9 (Er VK (Er uv ?_)),[],⟨l.3.Ei rfl,?_⟩,Ir (N:=N) (outs:=outs) (M:=λm=>m<=3) (λm E=>ja E akq) rfl rfl (λK P=>?_) (λi H1 K l' P=>my (by first|exact dn s|exact dm s|omega) W Yr l' P) λm f U E l4 o4 Wr xX T VZ=>?_]
 ·erw[[],l.pickK (lim:=3) (by first|exact dn s|exact dm s|omega) akq akq λg H1 l1 o1 hg=>zg (a:=1) (Rf (n:=1+g) (ja (m:=1000) (ee 0x3e83c0eb331ce0b10 rfl hg) akq) (P (1+g) H1 (ee 0x31c0eb331ce0b10 rfl hg) l1 o1))]
 have t:=l4.mono ((akr U).new (o:=.list (f.map iv)) VZ);haveI S:(U.set T (.list (f.map iv))) T=some (.list (f.map iv)):=MH.sd;generalize U.set T (.list (f.map iv))=H5 at t S⊢;haveI L:∀{x y:Nat},x∈[y]->x=y:=λh=>ia h;erw[Ih rfl (Qo (nm:=19) (ns:=f) (by first|exact dn s|exact dm s|omega) (Er Wr (ee 0x3e83ce0b331c010 rfl E)) (by refine Er D ?_;decide) t.3 S λB H6 Y R WZ=>?_)];haveI J:∀y,y∈N.ins\/y∈N.outs++[⟨19,f,B⟩]->y.r≠c.h/\y.r≠c.p5:=λy e=>by
  erw[we t.2.2 λ_ _ _ x=>?_];rcases e with e|e
  ·erw[t.10 y (.inl e)]
  ·rcases Oa e with e|e
   ·erw[t.10 y (.inr e)]
   ·erw[Er (ia e) ⟨R _ _ x.1,R _ _ t.4⟩]
 haveI Z:=t.Kg (N':={N with outs:=N.outs++[⟨19,f,B⟩]}) Y (λx A=>by exact Er (L A) (.tail _ (.head _))) WZ ⟨rfl,rfl,rfl⟩ J;clear WZ Y R S t VZ l4 o4;erw[[oK],⟨Z.3.Ei rfl,Z.near (by first|exact dn s|exact dm s|omega) W Yr λz F l7 o7 hz=>⟨Vd rfl,λq j=>?_⟩⟩];haveI v:=l7.mono ((akr F).new (o:=.list ([z].map iv)) j);haveI e8:(F.set q (.list ([z].map iv))) q=some (.list ([z].map iv)):=MH.sd;show Lg _ _ _ _ (F.set q (.list ([z].map iv))) _;generalize F.set q (.list ([z].map iv))=H8 at v e8⊢;erw[Ih rfl (Qo (nm:=20) (ns:=[z]) (N:={N with outs:=N.outs++[⟨19,f,B⟩]}) (by first|exact dn s|exact dm s|omega) (eQ rfl) (Er D (eQ rfl)) v.3 e8 λG H9 o9 f9 O=>?_)];have I:∀y,y∈N.ins\/y∈(N.outs++[⟨19,f,B⟩])++[⟨20,[z],G⟩]->y.r≠c.h/\y.r≠c.p5:=λy e=>by
  erw[we v.2.2 λ_ _ _ x=>?_];rcases e with e|e
  ·erw[v.10 y (.inl e)]
  ·rcases Oa e with e|e
   ·erw[v.10 y (.inr e)]
   ·erw[Er (ia e) ⟨f9 _ _ x.1,f9 _ _ v.4⟩]
 have C:=v.Kg (N':={N with outs:=(N.outs++[⟨19,f,B⟩])++[⟨20,[z],G⟩]}) o9 (λx A=>by exact Er (L A) (.tail _ (.head _))) O ⟨rfl,rfl,rfl⟩ I;erw[[nK],k _ H9 C.1 C.2 C.3 ⟨a2,b2,V,g4,sl,⟨u.1,u.2,u.3,u.4,u.5,u.6⟩,?_,λq j=>?_⟩ C.9.1 λy e=>(C.10 y e).1]
 ·show((N.outs++[_])++[_]).length=2;erw[Er D rfl]
 ·haveI j:q∈(N.outs++[⟨19,f,B⟩])++[⟨20,[z],G⟩]:=j;rw[D,List.nil_append]at j;rcases Oa j with j|j
  ·rw[ia j];exact⟨by refine Er Wr ?_;exact E,λx A=>Mb (xX x A)⟩
  ·rw[ia j];exact⟨by show 1<=3;decide,λx A=>by rw[L A];exact Mb hz⟩
end
end
section
section
variable {Q:MV->MH->Prop}{ns:List Int}
theorem Ip {k:Nat}(h:k<1000):k<big:=ya h akq
theorem no3 {a b c x:Nat}(f:x≠a)(e:x≠b)(d:x≠c):x∉[a,b,c]:=λh=>by
 rcases xa h with h|h
 ·erw[f h]
 rcases xa h with h|h
 ·erw[e h]
 ·erw[d (ia h)]
theorem Lp.Vl {d t:Nat}{N:Nt}(l:Lp h p ns d H0 N H)(e:H t=none):t∉[N.pi,N.po,N.pc]/\t≠h/\t≠p:=by erw[we l.2.2 λa b c x=>⟨no3 (Gd l.3.2 e).symm (Gd l.3.3 e).symm (Gd l.3.4 e).symm,(Gd x.1 e).symm,(Gd l.2.1 e).symm⟩]
theorem eF {c:LC}{N:Nt}{a b w:Nat}{x7 x8 x9 Ml Gy gy Nl gq Ol:MV}(F:4<=n)(a2:1<=a/\a<=2)(b2:1<=b/\b<=2)(o:w<=1)(hk:c.H0 c.kq=some (.list (Kh.map .str)))(CW:c.kq≠c.h)(l:Ln c N (range N.cnt) (range' (2+a+b) w) H)(g:Gp N a b w [])(k:∀N' e f H',Off [c.h] c.H0 H'->Hd H' c.h c.p c.ns->Md H' c.d N'->ny N' a b w e f->c.h∉[N'.pi,N'.po,N'.pc]->(∀y,y∈N'.ins\/y∈N'.outs->y.r≠c.h)->Q (.obj 0 c.d) H'):Kd (Ce X n) qK [.ref c.h,iv 4,iv 1,.ref c.kq,.obj 0 c.d,.ref c.p5,.ref c.p6,x7,x8,x9,Ml,Gy,gy,Nl,gq,Ol] H λfl _ H'=>Q (Af fl) H':=by
 haveI hc0:N.cnt=2+a+b+w+0:=g.4;erw[Qd λB R I G=>?_,[],zg (a:=4) (b:=1) (l.pickK (lim:=5) (dm F) akq akq λm H1 l1 o1 q=>?_),[],Rf (n:=m) (ja (m:=1000) (ee 0x3e83c0351ce0b10 rfl q) akq) (Ze (ee 0x186a05ce0b351ce0b10 rfl q) ?_),be (λt:MV×MV×MV×MV=>[.ref c.h,iv 4,iv 1,.ref c.kq,.obj 0 c.d,.ref c.p5,.ref c.p6,t.1,t.2.1,t.2.2.1,t.2.2.2,Gy,gy,Nl,gq,Ol]) (λi _ H'=>∃N' e,A4 (Ln c N' (range N'.cnt) (range' (2+a+b) w) H') (Gp N' a b w e) (e.length=i) (i<=m)) (x7,x8,x9,Ml) ⟨N,[],l1,g,rfl,Ta _⟩ (λ_ _ _ _=>trivial) ?_ ?_]
 ·intro i x C H2 K hx Se M _ _;erw[kl Se λN2 e Zd=>?_,haveI E:=Zd.1;?_,haveI g2:=Zd.2;?_,haveI j:=Zd.3;?_,Ak x (Ud hx) λz=>?_,haveI D:=g2.4;?_,I _ _ _ (dF (dm F) hk CW E g2 (jo 0x21c3432121cbbbb012 rfl D) (pN 0x3843ce0b351ce5b105e4b10e31021c21021c110432121cbbbb011 rfl D a2.2 b2.2 o (j▸z) q) (se 0x3843ce0b351ce2b102e1b101011 rfl j z q) λN' H' y8 y9 gs' Z g' _ h4=>M (iv i,y8,y9,.none) H' ⟨N',gs',Z,g',by exact Er h4 (Er j rfl),z⟩)]
 ·intro A H2 C;erw[kl C λN2 e Kk=>?_];haveI E:=Kk.1;haveI g2:=Kk.2;haveI j:=Kk.3;simp only[aa,Ca]at j;haveI D:=g2.4;erw[G _ _ ?_];clear I G;erw[[pK],Qd λB R I G=>?_,[],De E.5 (Re (Er (La ..) (ee 0x3e83ce0b3e010 rfl o))) (Er (aa ..) (Er (La ..) ?_)),Rf (n:=w) (ja (m:=1000) (ee 0x3e83c03e010 rfl o) akq) (Ze (ee 0x186a05ce0b3e010 rfl o) ?_),be (λt:MV×MV×MV×MV×MV=>[.ref c.h,iv 4,iv 1,.ref c.kq,.obj 0 c.d,.ref c.p5,.ref c.p6,A.1,A.2.1,A.2.2.1,A.2.2.2,t.1,t.2.1,t.2.2.1,t.2.2.2.1,t.2.2.2.2]) (λi _ H'=>∃N' f,A6 (Ln c N' (range N'.cnt) (range' (2+a+b) w) H') (Sp N' a b w e f) (f.length=i) (N'.cnt=N2.cnt) (N'.outs=[]) (N'.cells.length=e.length+i)) (Gy,gy,Nl,gq,Ol) ⟨N2,[],E,⟨g2.1,g2.2,by exact Er g2.3 (Er (ib ..) rfl),g2.4,g2.5,λs hs=>qd hs Ea⟩,rfl,rfl,g2.6,by exact Er g2.3 rfl⟩ (λ_ _ _ _=>trivial) ?_ ?_]
  ·intro i x C H3 K hx Se M _ _;erw[hide λZz Od=>?_];obtain⟨N3,f,Y,T,J,L,V,u⟩:=Se;erw[Od ?_];clear Od;erw[Ak x (Ud hx) λz=>?_];obtain rfl:i=0:=Ka (je 0xf03e1101e0b10 rfl z o) (ee 0xf3 rfl);obtain rfl:w=1:=Ka o (ee 0xe30efb10 rfl z);erw[I _ _ _ (HQ (dm F) Y T (jo 0x431c304123e2121cbbbb012 rfl D L) (pN 0x3843ce0b351ce5b10541121c31021c2104e3221cbbbb1111011 rfl L D a2.2 b2.2 j q) (se 0x3843ce0b351ce2b102111f1b011 rfl u j q) λN' H' s M2 O2 P2 O Z h1 h2 h3 P=>M (iv 0,M2,O2,P2,O) H' ⟨N',f++[s],Z,P,by exact Er ua (Er J rfl),by exact Er h1 (Er L rfl),by exact Er h2 (Er V rfl),by exact Er h3 (Er ua (Er u rfl))⟩)]
  ·intro A H3 C;erw[kl C λN3 f v=>?_];haveI Y:=v.1;haveI T:=v.2;haveI J:=v.3;haveI L:=v.4;haveI V:=v.5;haveI u:=v.6;simp only[aa,Ca]at J;erw[G _ _ (tM (dm F) a2 b2 o (je 0x41c0351ce1b101011 rfl j q) J T V Y λN' H' o' xO tQ W S U=>k N' e f H' o' xO tQ W S U)]
theorem IQ {R:Nat}(z:5<=n)(hd:Hd H h p ns)(hk:H R=some (.list (Kh.map .str)))(CW:R≠h)(k:∀d N a b w gs V H',Off [h] H H'->Hd H' h p ns->H d=none->Md H' d N->ny N a b w gs V->h∉[N.pi,N.po,N.pc]->(∀y,y∈N.ins\/y∈N.outs->y.r≠h)->Q (.obj 0 d) H'):Fd X n 75 [.ref h,iv 4,iv 1,.ref R] H Q:=by
 erw[eE (Of z) λn Ki=>?_];subst Ki;erw[we hd.2 λha hb hcc f=>(Ad rfl rfl ?_),[Ae,p75,tK],λd K=>?_,Kt (dn z) ⟨_,MH.sd⟩ λL N o1 fN _ J F ho hc hp1 hp2 qW=>⟨rfl,?_⟩];haveI l1:H.le L:=o1.le ((akr _).new K) λx f=>by exact Er (ia f) K
 have P:=(fresh hp1).2;have O:=(fresh hp2).2;have M:=(fresh qW).2
 have lp:Lp h p ns d H N L:=⟨l1.off,hd.mono l1,fN,λx f=>by
  rcases xa f with rfl|f
  ·erw[K]
  rcases xa f with rfl|f
  ·erw[P]
  rcases xa f with rfl|f
  ·erw[O]
  ·refine Er (ia f) ?_;exact M,⟨no3 (Gd f.1 P) (Gd f.1 O) (Gd f.1 M),no3 (Gd hd.1 P) (Gd hd.1 O) (Gd hd.1 M)⟩,λy v=>by rw[F,ho]at v;exact(v.elim Ea Ea).elim⟩
 show Kd _ fA _ _ _;unfold fA;erw[Er FP (Er VY (Er VY ?_)),⟨Vd rfl,λY E'=>?_⟩];haveI f0:=lp.Vl E';haveI u:=lp.mono ((akr L).new (o:=.list [.int 0,.int 1]) E');haveI e2:(L.set Y (.list [.int 0,.int 1])) Y=some (.list ([0,1].map iv)):=MH.sd;generalize L.set Y (.list [.int 0,.int 1])=H2 at u e2⊢;erw[u.port (nm:=17) (dn z) (by refine Er F ?_;decide) e2 f0.1 f0.2.1 λa r r2 H3 U t er e3=>?_,XK e3 er (by simp only[aa,La];exact Ip (by show 2+a<1000;exact ee 0x3e83ce021cbb321c010 rfl U.2)) λW yL=>?_];haveI f1:=t.Vl yL;haveI q:=t.mono ((akr H3).new (o:=.list ([0,1].map iv++(range' N.cnt a).map iv)) yL);haveI e4:(H3.set W (.list ([0,1].map iv++(range' N.cnt a).map iv))) W=some (.list ([0,1].map iv++(range' N.cnt a).map iv)):=MH.sd;generalize H3.set W (.list ([0,1].map iv++(range' N.cnt a).map iv))=H4 at q e4⊢;erw[q.port (nm:=18) (dn z) (by show(N.ins++_).length<1000;exact Er F (eQ rfl)) e4 f1.1 f1.2.1 λb rb B H5 b2 C G e5=>(XK e5 G (by simp only[ua,aa,La];exact Ip (by show 2+a+b<1000;exact je 0x3e83ce1021cbbb321c11021c010 rfl U.2 b2.2)) λp5 T=>?_)];have g:=C.Vl T;haveI l:=C.mono ((akr H5).new (o:=.list (([0,1].map iv++(range' N.cnt a).map iv)++(range' (N.cnt+a) b).map iv)) T);haveI r_:∀y,y∈(N.ins++[⟨17,range' N.cnt a,r2⟩])++[⟨18,range' (N.cnt+a) b,B⟩]\/y∈N.outs->y.r≠p5:=λy v=>Gd (C.3.5 y v).1 T;have s_:H p5=none:=by
  cases e:H p5 with
  |none=>rfl|some o=>
   have:=C.1 p5 o (λm=>g.2.1 (ia m)) e;have this:=T▸this;exact nn this
 haveI e6:(H5.set p5 (.list (([0,1].map iv++(range' N.cnt a).map iv)++(range' (N.cnt+a) b).map iv))) p5=some (.list ((range (2+a+b)).map iv)):=by
  erw[Er MH.sd (Er J (Es Aa (Es Aa ?_)))];haveI:[0,1]++range' 2 a++range' (2+a) b=range (2+a+b):=by
   show range' 0 2++range' 2 a++range' (2+a) b=_;erw[Er (List.range_eq_range' ..) (Es (Rc (s:=0) (m:=2+a) (n:=b)) (Es (Rc (s:=0) (m:=2) (n:=a)) (Er (bc ..) (Er (bc ..) rfl))))]
  erw[Er this rfl]
 generalize H5.set p5 (.list (([0,1].map iv++(range' N.cnt a).map iv)++(range' (N.cnt+a) b).map iv))=H6 at l e6⊢;clear e5 G C e4 q er e3 t e2 u;erw[[sK],⟨l.3.Ei rfl,zg (a:=1) (b:=1) (oh (lim:=2) (dn z) l.2 akq akq λw H7 o7 Q2 hw=>?_)⟩,have A:=l.pick o7 Q2;?_,have e7:=o7 _ _ (λm=>g.2.1 (ia m)) e6;?_,Ih rfl (Em (w:=w) (dn z) (ee 0x3e83ce0b321ce0b10 rfl hw) A.3 λp6 H8 o8 E I nt8=>?_)];haveI S:=A.Vl E;haveI D:p6≠p5:=(Gd e7 E).symm;have hS:∀x∈[d],x∈[d,N.pi,N.po,N.pc]:=λx f=>by simp only[ia f];exact .head _
 have i:=A.Kg o8 hS nt8 ⟨rfl,rfl,rfl⟩ A.6;haveI e8:=A.no o8 hS e7 g.1;erw[[rK],i9 e8 I (Re (Er Ca (je 0x3e83ce1021cbbb321c11021c010 rfl U.2 b2.2))) (Re (Er La (ee 0x3e83ce0b321ce0b10 rfl hw))) ?_];have adh:∀x,x∈[N.pi,N.po,N.pc,h,p]->p5≠x:=λx f e=>by
  rcases xa f with rfl|f
  ·erw[g.1 (Er e (.head _))]
  rcases xa f with rfl|f
  ·erw[g.1 (by simp only[e];exact .tail _ (.head _))]
  rcases xa f with rfl|f
  ·erw[g.1 (by simp only[e];exact .tail _ (.tail _ (.head _)))]
  rcases xa f with rfl|f
  ·erw[g.2.1 e]
  ·erw[g.2.2 ((ia f)▸e)]
 have adi:p6∉[N.pi,N.po,N.pc,h,p5]:=λf=>by
  rcases xa f with e|f
  ·erw[S.1 (Er e (.head _))]
  rcases xa f with e|f
  ·erw[S.1 (Er e (.tail _ (.head _)))]
  rcases xa f with e|f
  ·erw[S.1 (Er e (.tail _ (.tail _ (.head _))))]
  rcases xa f with e|f
  ·erw[S.2.1 e]
  ·erw[D (ia f)]
 have o9:Off [p5] H8 (H8.set p5 (.list ((range (2+a+b)).map iv++(range' (N.cnt+a+b) w).map iv))):=aku.set (.head _);erw[eF (c:=⟨h,p,R,ns,d,p5,p6,H⟩) (N:={N with cnt:=N.cnt+a+b+w,ins:=(N.ins++[⟨17,range' N.cnt a,r2⟩])++[⟨18,range' (N.cnt+a) b,B⟩]}) (a:=a) (b:=b) (w:=w) (dn z) U b2 (ee 0xe0321ce0b10 rfl hw) hk CW ⟨i.1.join o9 λx f=>.inr (Er (ia f) s_),i.2.off o9 (λm=>g.2.1 (ia m).symm) (λm=>g.2.2 (ia m).symm),i.3.ky e8 o9 g.1 r_,?_,?_,λx f=>?_,λf=>adh _ f rfl,adi,lp.5,λy v=>⟨i.6 y v,r_ y v⟩⟩ ⟨?_,?_,hc,by show N.cnt+a+b+w=_;exact Er J rfl,λj c hj=>(nomatch hj),ho⟩ λN' gs V H' o' xO tQ ln' Z pt'=>k d N' a b w gs V H' o' xO K tQ ln' Z pt']
 ·show MH.set _ _ _ p5=some (.list ((range (N.cnt+a+b+w)).map iv));erw[Er (MH.sd ..) (Es (Aa ..) (Er J (Er (List.range_eq_range' ..) (Er (List.range_eq_range' ..) (Es (Rc (s:=0) (m:=2+a+b) (n:=w)) (Er (bc ..) rfl))))))]
 ·show MH.set _ _ _ p6=_;erw[Er (MH.ud D) (Er I (Er J rfl))]
 ·rcases xa f with rfl|f
  ·erw[K]
  rcases xa f with rfl|f
  ·erw[P]
  rcases xa f with rfl|f
  ·erw[O]
  rcases xa f with rfl|f
  ·erw[M]
  ·erw[Er (ia f) s_]
 ·show((N.ins++_)++_).map Cg=_;erw[Er F ?_];unfold Cg;show[(17,(range' N.cnt a).length),(18,(range' (N.cnt+a) b).length)]=_;erw[Er La (Er La rfl)]
 ·show((N.ins++_)++_).flatMap (·.ns)=_;erw[Er F (Er J ?_)];show range' 2 a++(range' (2+a) b++[])=_;erw[Er (ib ..) (Er (Rc ..) rfl)]
end
end
section
variable {H H' H0 : MH} {Q : MV → MH → Prop} {K : MF → List MV → MH → Prop} {g : Nat → Nat → Bool}
inductive Wk (N:Nt)(a b w:Nat)(gs xe:List Cl):Prop
 |mk (a2:1<=a/\a<=2) (b2:1<=b/\b<=2) (w1:w<=1) (cells:N.cells=gs++xe) (g0:∀c∈gs,te c.k=false) (s1:∀c∈xe,te c.k=true) (key:N.ins.map Cg=[(17,a),(18,b)]) (ins:N.ins.flatMap (·.ns)=range' 2 (a+b)) (sto:xe.map (·.out)=range' (2+a+b) w) (xN:∀c∈xe,xp c.par) (top:∀(j:Nat)(c:Cl),gs[j]?=some c->∀x∈c.ins,x<2+(a+b+w)+j) (out:gs.map (·.out)=range' (2+(a+b+w)) gs.length) (tab:∀c∈gs,RA c/\c.ins.length<=3/\c.par≠.td) (gl:gs.length<800) (kn:∀x∈N.outs.flatMap (·.ns)++xe.flatMap (·.ins),x<2+(a+b+w)+gs.length) (ol:N.outs.length=2) (pl:∀p∈N.outs,p.ns.length<=3) (sp4:∀c∈xe,c.ins.length=4)
theorem uM (h:Rg k m=true):m<=3:=by unfold Rg at h;rw[Rb,Rb,Da,Da,Da]at h;rcases h with(⟨h,-⟩|⟨h,-⟩)|⟨h,-⟩<;>refine Er (ub h) ?_<;>decide
theorem fF (h:Rg k m=true):te k=false:=by rcases Hr h with rfl|rfl|rfl|rfl|rfl|rfl|rfl<;>rfl
theorem oy {gs xe:List Cl}(d:∀c∈gs,te c.k=false)(b:∀c∈xe,te c.k=true):((gs++xe).filter λc=>te c.k)=xe/\((gs++xe).filter λc=>!te c.k)=gs:=by
 haveI i:(gs.filter λc=>te c.k)=[]:=List.filter_eq_nil_iff.mpr λc a=>by exact Er (d c a) Na
 haveI h:(xe.filter λc=>te c.k)=xe:=List.filter_eq_self.mpr λc a=>b c a;haveI f:(gs.filter λc=>!te c.k)=gs:=List.filter_eq_self.mpr λc a=>by exact Er (d c a) rfl
 haveI e:(xe.filter λc=>!te c.k)=[]:=List.filter_eq_nil_iff.mpr λc a=>by exact Er (b c a) Na
 simp only[Vb,i,h,f,e];exact⟨rfl,ib _⟩
section
variable {gs xe g:List Cl}
theorem Wk.stC (k:Wk N a b w gs xe):Mine.stC N=xe:=by unfold Mine.stC;exact Er k.4 ((oy k.5 k.6).1)
theorem Wk.Ke (k:Wk N a b w gs xe):Mine.Ke N=range' 2 (a+b+w):=by unfold Mine.Ke;haveI:=k.stC;unfold Mine.stC at this;simp only[this,k.8,k.9];haveI:=Rc (s:=2) (m:=a+b) (n:=w);rwa[<-Yb]at this
theorem Wk.Qg (k:Wk N a b w gs xe):Mine.Qg N=N.outs.flatMap (·.ns)++xe.flatMap (·.ins):=by unfold Mine.Qg;haveI:=k.stC;unfold Mine.stC at this;erw[Er this rfl]
theorem vM (l:ny N a b w gs xe):gs.map (·.out)=range' (2+(a+b+w)) gs.length:=by
 erw[List.ext_getElem? λj=>(Er za ?_)];by_cases h:j<gs.length
 ·haveI e:gs[j]?=some gs[j]:=wa h;refine Er e ?_;refine Er (Sc h) ?_;refine Er (Qb ..) (Es (Yb ..) (Es (Yb ..) ?_));erw[Fc some (l.6.5 j _ e).1]
 ·rw[Tc (Nat.not_lt.mp h),Tc (Er La (Nat.not_lt.mp h))];rfl
theorem wM (l:ny N a b w gs xe):xe.map (·.out)=range' (2+a+b) w:=by
 have c:=l.5;have d:=l.3;have st:=l.6.6
 match xe,c,st with
 |[],c,_=>exact Es c rfl|[s],c,st=>
  erw[Es c ?_];show[s.out]=[2+a+b];erw[Er ((st s (.head _)).2) rfl]
 |_::_::_,c,_=>exact qd c (by simp only[length_cons];exact Nat.ne_of_gt (je 0xee1bbe0b3e010 rfl d))
theorem Uv (l:ny N a b w gs xe):Wk N a b w gs xe:=by
 haveI i:∀c∈gs,Rg c.k c.ins.length=true/\c.par=.none:=λc d=>by
  erw[eE (Lb d) λj f=>?_,⟨(l.6.5 j c f).3,(l.6.5 j c f).4⟩]
 haveI bi:=l.6.4;refine⟨l.1,l.2,l.3,l.6.3,λc d=>fF (i c d).1,λc d=>(l.6.6 c d).1,l.6.1,l.6.2,wM l,λc d=>(l.6.6 c d).5,λj c f x e=>?_,vM l,λc d=>⟨.inr (i c d).1,uM (i c d).1,by exact Er ((i c d).2) MV.noConfusion⟩,ja l.4 akq,λx e=>?_,l.7,λp m=>(l.8 p m).1,λc d=>(l.6.6 c d).3⟩
 ·haveI:=(l.6.5 j c f).2 x e;erw[jo 0x4321bb21cbbe0b3432121cbbbbe0b10 rfl this]
 ·haveI:x<N.cnt:=by
   rcases Oa e with h|h
   ·erw[Sd (List.mem_flatMap.mp h) λp m e=>((l.8 p m).2 x e)]
   ·erw[Sd (List.mem_flatMap.mp h) λs n e=>((l.6.6 s n).4 x e)]
  erw[pN 0x5432bb21cbbe0b3543221cbbbb1111e0b10 rfl this bi]
theorem JQ (l:ny N a b w gs xe):Ai N:=by
 have k:=Uv l;have bi:=l.6.4;have a2:=l.1;have P:=l.2;have D:=l.3;have E:=l.4;have o:0::1::(N.ins.flatMap (·.ns)++N.cells.map (·.out))=range' 0 (2+(a+b))++(range' (2+(a+b+w)) gs.length++range' (2+a+b) w):=by
  simp only[k.8,k.4,Aa,k.12,k.9,<-Rc (s:=0) (m:=2) (n:=a+b)];rfl
 haveI v:∀(i:Nat)(c:Cl),N.cells[i]?=some c->te c.k=false->gs[i]?=some c:=λi c h B=>by
  rw[k.4,tc]at h;by_cases z:i<gs.length
  ·rwa[Ec z]at h
  ·rw[Dc z]at h;have:=k.6 c (Dd h);rw[B]at this;exact ft this
 haveI L:∀x,x<N.cnt->x∈0::1::(N.ins.flatMap (·.ns)++N.cells.map (·.out)):=λx d=>by
  refine Er o ?_;rw[mem_append,mem_append,List.mem_range'_1,List.mem_range'_1,List.mem_range'_1];refine(Nat.lt_or_ge x (0+(2+(a+b)))).elim (λq=>.inl ⟨Ta _,q⟩) λq=>.inr ((Nat.lt_or_ge x (2+(a+b+w))).elim (λr=>.inr ⟨?_,?_⟩) λr=>.inl ⟨r,?_⟩)
  ·erw[se 0x21021cbb3210b21cbfb10 rfl q]
  ·erw[oi 0x32121cbbbe0b3321bb21cbe0b10 rfl r]
  ·erw[pN 0x5432bb21cbbe0b3543221cbbbb1111e0b10 rfl d bi]
 have cl:∀c∈N.cells,c∈gs\/c∈xe:=λc f=>by rw[k.4]at f;exact Oa f
 haveI R:∀c∈N.cells,∀x∈c.ins,x<N.cnt:=λc f x d=>by
  rcases cl c f with h|h
  ·erw[eE (Lb h) λj t=>?_,haveI C:=(l.6.5 j c t).2 x d;?_,haveI A:=yd t;?_,ar7 0x5e0b36e4b10632121cbbbb512432121cbbbbe0b10 rfl C bi A]
  ·exact(l.6.6 c h).4 x d
 refine⟨?_,λi j G F z t J I O=>?_,λx d=>L x ?_,(Er k.4 (Er ua (Er l.5 (je 0x5a2ce10bb3e11041c010 rfl E D)))),λc f B=>?_,λc f=>?_,λc f=>?_,?_⟩
 ·erw[Er o (List.nodup_append.mpr ⟨List.nodup_range',List.nodup_append.mpr ⟨List.nodup_range',List.nodup_range',λx d y u e=>?_⟩,λx d y u e=>?_⟩)]
  ·rw[List.mem_range'_1]at d u;erw[Nat.not_succ_le_zero _ (jo 0xfe321021cbbbe4b1043113210bb21cb10 rfl d.1 e u.2)]
  ·rw[mem_append,List.mem_range'_1,List.mem_range'_1]at u;rw[List.mem_range'_1]at d;erw[qd d.2 (rc (Er e (u.elim (λq=>?_) λq=>?_)))]
   ·erw[oi 0x310b21cbfb33210bb21cb10 rfl q.1]
   ·erw[se 0x210b21cbfb321021cbb10 rfl q.1]
 ·haveI C:=l.6.5 i G (v i G z J);haveI A:=(l.6.5 j F (v j F t I)).2 _ O;rw[C.1]at A;erw[jo 0x4e3b3421021cbbbbe321021cbbbbb10 rfl A]
 ·rcases d with⟨c,f,d⟩|⟨p,M,d⟩
  ·erw[R c f x d]
  ·exact(l.8 p M).2 x d
 ·rcases cl c f with h|h
  ·erw[eE (Lb h) λj t=>?_,(l.6.5 j c t).3]
  ·have:=k.6 c h;rw[B]at this;exact ft this
 ·rcases cl c f with h|h
  ·erw[ja (k.13 c h).2.1 akq]
  ·refine Er (k.18 c h) ?_;decide
 ·rcases cl c f with h|h
  ·exact(k.13 c h).2.2
  ·obtain⟨e,i,h|h⟩:=k.10 c h<;>refine Er h ?_<;>exact MV.noConfusion
 ·simp only[o,ua,La];exact oi 0xc82ce32b10b21cbbb3e31041c21021c11021c010 rfl a2.2 P.2 E D
theorem KQ {xs a:List Pt}{i:Nat}{p:Pt}(e:xs.map Cg=a.map Cg)(h:xs[i]?=some p):∃q,a[i]?=some q/\q.nm=p.nm/\q.ns.length=p.ns.length:=by
 haveI:=Fc (λl=>l[i]?) e;simp only[za,h]at this;have this:=this;cases hq:a[i]? with
 |none=>rw[hq]at this;exact(nomatch this)
 |some q=>
  rw[hq]at this;haveI:=Prod.mk.inj (oa this);exact⟨q,rfl,this.1.symm,this.2.symm⟩
theorem LQ {xs a:List Cl}{i:Nat}{p:Cl}(e:xs.map iy=a.map iy)(h:xs[i]?=some p):∃q,a[i]?=some q/\q.k=p.k/\q.par=p.par/\q.ins.length=p.ins.length:=by
 haveI:=Fc (λl=>l[i]?) e;simp only[za,h]at this;have this:=this;cases hq:a[i]? with
 |none=>rw[hq]at this;exact(nomatch this)
 |some q=>
  rw[hq]at this;haveI:=Prod.mk.inj (oa this);haveI b:=Prod.mk.inj this.2;exact⟨q,rfl,this.1.symm,b.1.symm,b.2.symm⟩
theorem MQ {s:List Cl}(k:Wk N a b w gs xe)(m:eu N R g s):Wk R a b w g s:=by
 have e:=k.Ke;have t:(Mine.Ke N).length=a+b+w:=by refine Er e ?_;refine Er La ?_;rfl
 have j:=k.stC;haveI l:Tv N=a+b:=by unfold Tv;refine Er k.8 ?_;refine Er La ?_;rfl
 haveI u:(Mine.stC N).length=w:=by refine Er j ?_;haveI:=Fc List.length k.9;rwa[aa,La]at this
 haveI cin:∀i,i<13->Yp i<=3:=by decide
 haveI r:∀c∈s,∃q∈xe,q.k=c.k/\q.par=c.par/\q.ins.length=c.ins.length:=λc d=>by
  erw[eE (Lb d) λi n=>?_,Sd (LQ m.5 n) λq f h=>?_];rw[j]at f;exact⟨q,Dd f,h⟩
 refine⟨k.1,k.2,k.3,m.1,λc d=>?_,λc d=>?_,m.2.trans k.7,by refine Er m.3 ?_;refine Er l ?_;rfl,by refine Er m.6 ?_;refine Er l ?_;refine Er u ?_;refine Es (Yb ..) ?_;rfl,λc d=>?_,by refine Es t ?_;exact m.8,by refine Es t ?_;exact m.9,λc d=>?_,m.10,by exact(t)▸m.11,?_,λp v=>?_,λc d=>?_⟩
 ·obtain⟨i,h⟩:=m.7 c d;refine Er h.2 ?_;rfl
 ·erw[Yj (r c d) λq f y zz zz=>((y)▸k.6 q f)]
 ·erw[Yj (r c d) λq f zz o zz=>((o)▸k.10 q f)]
 ·obtain⟨i,h⟩:=m.7 c d;exact⟨.inl ⟨h.2,_,_,h.3⟩,by refine Er h.4 ?_;exact cin i h.1,by refine Er h.3 ?_;exact MV.noConfusion⟩
 ·haveI:=Fc List.length m.4;rw[aa,aa]at this;refine Er this ?_;refine Er k.16 ?_;rfl
 ·obtain⟨i,n⟩:=Lb v;erw[Xf (KQ m.4 n) λq f zz o=>((o)▸k.17 q (Dd f))]
 ·erw[Yj (r c d) λq f zz zz x=>((x)▸k.18 q f)]
end
def So (a b w:Nat):List MV:=((range a).map λi=>MV.tup [.str 17,iv i])++(((range b).map λi=>MV.tup [.str 18,iv i])++replicate w (.str 6))
def YZ (K t:Nat):Nat:=(((range (2^K)).filter λr=>r.testBit t).map (2^·)).sum
theorem xM:(range 6).all (λK=>(range K).all λt=>Nat.blt (YZ K t) (2^2^K)&&(range (2^K)).all λr=>(YZ K t).testBit r==r.testBit t)=true:=by decide+kernel
theorem ZZ {K t:Nat}(c:K<6)(a:t<K):Wd (2^K) (YZ K t) λr=>r.testBit t:=by have h:=Ja (Ja xM K (Xa c)) t (Xa a);rw[Da]at h;exact⟨gc h.1,λr b=>ub (Ja h.2 r (Xa b))⟩
def keysOk:List MV->Bool
 |[]=>true|x::r=>r.all (λy=>!MV.beq x y&&!MV.beq y x)&&x.key&&keysOk r
theorem gF:(range 2).all (λa=>(range 2).all λb=>(range 2).all λw=>keysOk (So (a+1) (b+1) w))=true:=by decide+kernel
theorem BC (d:1<=a/\a<=2)(c:1<=b/\b<=2)(e:w<=1):keysOk (So a b w)=true:=by haveI h:=Ja (Ja (Ja gF (a-1) (Xa (je 0x21ce0b321c1101e0b11 rfl (ta d.1) d.2))) (b-1) (Xa (je 0x21ce0b321c1101e0b11 rfl (ta c.1) c.2))) w (Xa (ee 0x21ce0b3e010 rfl e));rwa[ta d.1,ta c.1]at h
theorem DC:∀{l:List MV}{i j:Nat}{x y:MV},keysOk l=true->l[i]?=some x->l[j]?=some y->i≠j->MV.beq x y=false
 |z::r,0,j+1,x,y,h,hi,a,_=>by
  obtain rfl:=oa hi;unfold keysOk at h;rw[Da,Da]at h;haveI:=Ja h.1.1 y (Eb a);simp only[Da,Ra]at this;erw[this.1]
 |z::r,i+1,0,x,y,h,hi,a,_=>by
  obtain rfl:=oa a;unfold keysOk at h;rw[Da,Da]at h;haveI:=Ja h.1.1 x (Eb hi);simp only[Da,Ra]at this;erw[this.2]
 |z::r,i+1,j+1,x,y,h,hi,a,b=>by
  unfold keysOk at h;rw[Da]at h;erw[DC h.2 hi a λe=>b (Fc _ e)]
 |z::r,0,0,_,_,_,_,_,b=>qd rfl b
theorem yM:∀{l:List MV}{i:Nat}{x:MV},keysOk l=true->l[i]?=some x->x.key=true:=by
 intro l
 induction l with
 |nil=>
  intros;first|contradiction|(exfalso;simp_all;done)
 |cons z r c=>
  intro b x h a;cases b with
  |zero=>
   obtain rfl:=oa a;unfold keysOk at h;rw[Da,Da]at h;erw[h.1.2]
  |succ i=>
   unfold keysOk at h;rw[Da]at h;erw[c h.2 a]
inductive PT (xd:List (MV×MV))(a b w:Nat):Prop
 |mk (at':∀(i:Nat)(x:MV),(So a b w)[i]?=some x->∃W,A2 (ce xd x=some (iv W)) (Wd (2^(a+b+w)) W λr=>r.testBit i))
theorem Ui:(So a b w).length=a+b+w:=by unfold So;simp only[ua,aa,Bb,Ca,Yb]
def yh (p:Pt):List MV:=(range p.ns.length).map λi=>.tup [.str p.nm,iv i]
theorem ju (k:Wk N a b w gs xe):N.ins.flatMap yh=((range a).map λi=>MV.tup [.str 17,iv i])++((range b).map λi=>MV.tup [.str 18,iv i]):=by haveI e:N.ins.flatMap yh=(N.ins.map Cg).flatMap λq=>(range q.2).map λi=>.tup [.str q.1,iv i]:=Er (List.flatMap_map ..) rfl;erw[Er e (Er k.7 ?_)];show _++(_++[])=_;erw[Er (ib ..) rfl]
theorem q0 (h:xp v)(a:Q (.str 6) H):v.Zg λv=>ak v (.int (-2)) H Q:=by
 obtain⟨e,i,rfl|rfl⟩:=h
 ·exact⟨Vd rfl,a⟩
 ·exact⟨Vd rfl,a⟩
theorem NQ (l:List Nat):(l.map λ(i:Nat)=>(i:Int)).sum=((l.sum:Nat):Int):=by
 induction l with
 |nil=>rfl|cons x r a=>simp only[yb,List.sum_cons,a,Int.natCast_add]
theorem adk {p:Nat}{xs:List Nat}(a:H p=some (.list (xs.map iv)))(h:Q (iv xs.sum) H):Ii 3 [.ref p] H Q:=by erw[ue a (sf aq ?_)];rw[NQ];exact h
theorem u0 (hn:2<=n)(L:Md H d N)(k:Wk N a b w gs xe)(h:∀p H' l,H.le H'->H' p=some (.dict l)->PT l a b w->Q (.tup [.ref p,iv (2^2^(a+b+w)-1)]) H'):Fd X n 77 [.obj 0 d] H Q:=by
 erw[eE (Of hn) λn qz=>?_];subst qz;have a2:=k.1;have P:=k.2;haveI I:=k.3;haveI Ey:=ju k;have Az:(N.ins.flatMap yh).length=a+b:=by simp only[Ey,ua,aa,Ca]
 haveI jk:N.cells.length<1000:=by
  haveI:=k.9;haveI:=Fc List.length this;simp only[aa,La]at this;simp only[k.4,ua,this];haveI:=k.14;erw[je 0x3e83ce10bb3e1103203ce0b10 rfl this I]
 erw[Ad rfl rfl ?_,[p77,sV],Er WK ?_,[],L.aI (ve L.2 ?_),Gg (λj=>(N.ins.take j).flatMap yh) (λj i H'=>A2 (i=j) (H'=H)) 0 (by simp only[Fb];rfl) ⟨rfl,rfl⟩ (λj i H' y=>⟨by refine Er y.2 ?_;exact L.2,?_⟩) ?_ ?_]
 ·haveI:((N.ins.take i).flatMap yh).length<=(N.ins.flatMap yh).length:=by
   haveI e:N.ins.take i++N.ins.drop i=N.ins:=List.take_append_drop ..;refine Es e ?_;refine Er (Jb ..) ?_;refine Er (ua ..) ?_;refine Er e ?_;exact jb _ _
  erw[Ip (oi 0x3e83ce0b321c31021c21032b1111010 rfl this Az a2.2 P.2)]
 ·intro j x i C K f Zd hK;obtain rfl:=Zd.1;obtain rfl:=Zd.2;erw[yp x (Lv f) λS hy=>?_];have FL:=L.5 S (.inl (Dd hy));have z:S.ns.length<1000:=by
   erw[kl (List.append_of_mem (Dd hy)) λT l2 e=>?_];haveI:=Fc List.length k.8;simp only[e,Jb,nb,ua,La]at this;erw[jo 0x3e83ce1b321c41021c31043b21b0b11 rfl this a2.2 P.2]
  simp only[ac1];erw[⟨rfl,?_⟩,[],De FL.1 (Re z) (Er (aa ..) (Rf (ya z akq) (Ze (ya z akq) ?_))),Gg (λs=>(range s).map λi=>MV.tup [.str S.nm,iv i]) (λU s H'=>A3 (s=U) (H'=C) (U<=S.ns.length)) 0 rfl ⟨rfl,rfl,Ta _⟩ (λU s H' y=>⟨trivial,by refine Er (aa ..) ?_;refine Er (Ca ..) ?_;refine Er y.1 ?_;exact Ip (ja y.3 z)⟩) ?_ ?_]
  ·intro U x s Z K2 AZ bf Y;obtain rfl:=bf.1;obtain rfl:=bf.2;erw[Ak x (Ud AZ) λO=>⟨Vd rfl,Y _ (s+1) Z (by simp only[Xb,Aa];rfl) ⟨rfl,rfl,O⟩⟩]
  ·intro s Z fg;obtain⟨e,rfl,-⟩:=fg;rw[aa,Ca]at e;erw[Er e (hK _ (i+1) Z ?_ ⟨rfl,rfl⟩)];simp only[Xd hy,Jb,nb,Jc,ib];rfl
 ·intro i C ji;obtain⟨e,rfl⟩:=ji;rw[aa]at e;subst e;erw[Er (Sa ..) ?_];intro q hq;haveI T:=(akr C).new (o:=.list (N.ins.flatMap yh)) hq;haveI e1:(C.set q (.list (N.ins.flatMap yh))) q=some (.list (N.ins.flatMap yh)):=MH.sd;generalize C.set q (.list (N.ins.flatMap yh))=Z at T e1⊢;erw[[rV],Er Sh (SA (dn hn) (L.mono T) jk λps H4 l4 OQ zM=>?_)];rw[k.stC]at zM;erw[ve zM (Gg (λj=>replicate j (.str 6)) (λj i H'=>A3 (i=j) (H'=H4) (j<=xe.length)) 0 rfl ⟨rfl,rfl,Ta _⟩ (λj i H' y=>⟨by refine Er y.2 ?_;exact zM,?_⟩) ?_ ?_)]
  ·have:=Fc List.length k.9;rw[aa,La]at this;have:=y.3;refine Er (Bb ..) ?_;refine Er y.1 ?_;exact Ip (ja (Ba y.3 (Ba (Ob (by have:=Fc List.length k.9;rwa[aa,La]at this)) I)) akq)
  ·intro j x i F K f Xg hK;obtain rfl:=Xg.1;obtain rfl:=Xg.2;erw[yp x (Hs f) λcl hc=>?_,have Ro:=k.10 cl (Dd hc);?_,Er yQ ?_,[Yg],⟨λzz=>Xe (k:=3) rfl (Vd rfl) ?_,λh=>(nomatch h)⟩];have:=q0 (Q:=λr H4=>K [r] H4) (H:=F) Ro (hK _ (i+1) F List.replicate_succ' ⟨rfl,rfl,yd hc⟩);obtain⟨e,v,h|h⟩:=Ro
   ·rw[h]at this⊢;exact this
   ·rw[h]at this⊢;exact this
  ·intro i F Bk;haveI e:=Bk.1;obtain rfl:=Bk.2;rw[aa]at e;haveI IF:xe.length=w:=by have:=Fc List.length k.9;rwa[aa,La]at this
   rw[IF]at e;subst e;intro q2 rg;have l5:=l4.trans ((akr F).new (o:=.list (replicate i (.str 6))) rg);haveI e5:(F.set q2 (.list (replicate i (.str 6)))) q2=some (.list (replicate i (.str 6))):=MH.sd;generalize F.set q2 (.list (replicate i (.str 6)))=H6 at l5 e5⊢;haveI hqK:=T.trans l5;erw[i9 (l5 _ _ e1) e5 (Ip (by refine Er Az ?_;exact je 0x3e83ce10bb321c11021c010 rfl a2.2 P.2)) (Ip (by refine Er (Bb ..) ?_;exact ee 0x3e83ce0b3e010 rfl I)) ?_];have ek:(H6.set q (.list (N.ins.flatMap yh++replicate i (.str 6)))) q=some (.list (So a b i)):=by
    refine Er (MH.sd ..) ?_;refine Er Ey ?_;refine Er (Db ..) ?_;rfl
   haveI lk:C.le (H6.set q (.list (N.ins.flatMap yh++replicate i (.str 6)))):=hqK.set hq;generalize H6.set q (.list (N.ins.flatMap yh++replicate i (.str 6)))=H7 at ek lk⊢;have c:a+b+i<6:=se 0x61ce210bbb3e21021c11021c010 rfl a2.2 P.2 I;haveI M:=BC a2 P I;have J:2^(a+b+i)<=32:=Ab (n:=2) akq (se 0x51c210bb361ce210bbb10 rfl c:a+b+i<=5);erw[[qV],De ek (by refine Er Ui ?_;exact Ip (se 0x3e83ce210bbb361ce210bbb10 rfl c)) ?_,Er Ui (Sj (se 0x186a05c210bb361ce210bbb10 rfl c) ?_),[pV],⟨λx f=>qd f Ea,λA BM=>?_⟩];haveI npd:q≠A:=Gd ek BM;haveI l8:=lk.new (o:=.dict (Ue [] [] [])) BM;haveI e8:=ge (o:=.dict (Ue [] [] [])) ek BM;haveI ed:(H7.set A (.dict (Ue [] [] []))) A=some (.dict []):=MH.sd;haveI adl:=lk.fresh BM;generalize H7.set A (.dict (Ue [] [] []))=H8 at l8 e8 ed⊢;erw[Qd λB R hB hR=>?_,[],De e8 (by refine Er Ui ?_;exact Ip (se 0x3e83ce210bbb361ce210bbb10 rfl c)) ?_,Er Ui (Rf (n:=a+b+i) (ja (m:=1000) (se 0x3e83c210bb361ce210bbb10 rfl c) akq) (Ze (se 0x186a05ce210bbb361ce210bbb10 rfl c) ?_)),be (λt:MV=>[.obj 0 d,.ref q,iv (2^(a+b+i)),.ref A,t]) (λt zz H'=>A4 (C.le H') (H' q=some (.list (So a b i))) (∃l,A3 (H' A=some (.dict l)) (l.length<=t) (∀(j:Nat)(x:MV),j<t->(So a b i)[j]?=some x->∃W,A2 (ce l x=some (iv W)) (Wd (2^(a+b+i)) W λr=>r.testBit j))) (t<=a+b+i)) _ ⟨l8,e8,⟨[],ed,Qa _,λj x E=>qd E (kc _)⟩,Ta _⟩ (λzz zz zz zz=>trivial) ?_ ?_]
   ·intro t x u H9 K f Se zd _ _;obtain⟨l9,e9,⟨l,y⟩,-⟩:=Se;erw[Ak x (Ud f) λD=>?_];obtain⟨key,CM⟩:∃key,(So a b i)[t]?=some key:=⟨_,wa (by refine Er Ui ?_;exact D)⟩;haveI adm:2^t<2^30:=Nat.pow_lt_pow_right akq (oi 0x1e2ce0b361ce321bbb10321bbe0b10 rfl D c);erw[hB _ _ _ ?_,[nV]];simp only[Sh,nM];erw[[],Rf (ja J akq) (Ze (ja J akq) ?_),Gg (λs=>(((range s).filter λr=>r.testBit t).map (2^·)).map iv) (λj s H'=>A3 (s=j) (H'=H9) (j<=2^(a+b+i))) 0 rfl ⟨rfl,rfl,Ta _⟩ (λj s H' y=>⟨trivial,by refine Er (aa ..) ?_;refine Er (aa ..) ?_;exact Ip (ja filter_le (by refine Er y.1 ?_;exact ja (Ba y.3 J) akq))⟩) ?_ ?_]
    ·intro j x s v0 K2 AZ Kk Y;obtain rfl:=Kk.1;obtain rfl:=Kk.2;erw[Ak x (Ud AZ) λO=>?_];haveI e2:∀V:Bool,s.testBit t=V->(((range (s+1)).filter λr=>r.testBit t).map (2^·)).map iv=(((range s).filter λr=>r.testBit t).map (2^·)).map iv++if V=true then[iv (2^s)]else[]:=λV hb=>by
      simp only[Xb,Vb,Aa,Wb,hb];cases V<;>rfl
     erw[[],Sj (oi 0x186a05c0361ce321bbb10321bbe0b10 rfl D c) (Cp (Ub _) adm (Bv (b:=2) akq ⟨λe=>⟨λzz=>(Sj (Ib (Ma O (Ba J akq))) (Y _ (s+1) v0 (e2 true (dj.mp e)) ⟨rfl,rfl,O⟩)),λe=>(nomatch e)⟩,λe=>⟨λe=>(nomatch e),λzz=>?_⟩⟩))]
     ·erw[Y _ (s+1) v0 (e2 false ?_) ⟨rfl,rfl,O⟩];cases hb:s.testBit t with
      |false=>rfl|true=>exact qd (dj.mpr hb) λh=>Na (e.symm.trans h)
    ·intro s v0 Ay;obtain⟨e,rfl,-⟩:=Ay;rw[aa,Ca]at e;erw[Er e ?_,λq3 G=>?_,have n3:A≠q3:=Gd y.1 G;?_,[],adk MH.sd (Ve (ge e9 G) CM (by refine Er Ui ?_;exact Ip (se 0x3e83ce210bbb361ce210bbb10 rfl c)) ?_),haveI hkk:=yM M CM;?_,haveI n9:=ge (o:=.list ((((range (2^(a+b+i))).filter λr=>r.testBit t).map (2^·)).map iv)) y.1 G;?_,putD n9 hkk (Ip (ja y.2 (oi 0x3e83ce0b361ce321bbb10321bbe0b10 rfl D c))) (zd _ _ ⟨(l9.new G).set adl,(MH.ud npd).trans (ge e9 G),⟨_,MH.sd,Ba xf (Wa y.2),λj x E Rx=>?_⟩,D⟩),Er ie ?_];rcases qb E with E|rfl
     ·rw[Dc (by refine Er (DC M CM Rx (Nat.ne_of_gt E)) ?_;exact Na)];erw[y.3 j x E Rx]
     ·erw[Es (oa (CM.symm.trans Rx)) (Er (Ec (MV.beq_refl key)) ⟨_,rfl,ZZ c D⟩)]
   ·intro u H9 tm;haveI l9:=tm.1;haveI e9:=tm.2;erw[eE tm.3 λl y=>?_,haveI y:=(Ca ..)▸(aa ..)▸y;?_,have y:=y;?_,hR _ _ ?_,[oV],Sj (Ba J akq) (zv (a:=2^2^(a+b+i)) (b:=1) (Ub _) ⟨Vd rfl,?_⟩),h A H9 l l9 y.1 ⟨λj x f=>y.3 j x (by haveI:=yd f;rwa[Ui]at this) f⟩]
theorem Vv {b d:Type}{f:b->List d}:∀{l:List b}{i j:Nat}{x:b}{y:d},l[i]?=some x->(f x)[j]?=some y->(l.flatMap f)[((l.take i).flatMap f).length+j]?=some y
 |z::r,0,j,x,y,c,a=>by
  erw[Er (oa c) ?_];simp only[Fb,Jc,nb,List.length_nil,bc,jc (yd a)];exact a
 |z::r,i+1,j,x,y,c,a=>by
  simp only[List.take_succ_cons,nb,ua,Yb,List.getElem?_append_right (jb _ _),Nat.add_sub_cancel_left];erw[Vv (l:=r) c a]
inductive DW (R:Nat)(xd:List (MV×MV))(k:Nat)(g:Nat->Nat->Bool):Prop
 |mk (len:xd.length<=k) (at':∀x,x<k->∃W,A2 (ce xd (iv x)=some (iv W)) (Wd R W (g x)))
theorem DW.put (w:DW R xd k g)(h:Wd R W (g k)):DW R (dput xd (iv k) (iv W)) (k+1) g:=by
 erw[⟨Ba xf (Wa w.1),λx a=>?_⟩,Er ie (Er Ye ?_)];rcases qb a with a|rfl
 ·erw[Er (Dc (λe=>Nat.ne_of_gt a (ub e))) (w.2 x a)]
 ·erw[Er (Ec (Pa x)) ⟨W,rfl,h⟩]
theorem DW.congr (w:DW R xd k g)(h:∀x,x<k->g x=g' x):DW R xd k g':=⟨w.1,λx a=>by exact(h x a)▸w.2 x a⟩
def iF (x r:Nat):Bool:=if x=0 then false else if x=1 then true else r.testBit (x-2)
inductive Gv (gs:List Cl)(m j R:Nat)(g:Nat->Nat->Bool):Prop
 |mk (src:∀x,x<2+m->g x=iF x) (gate:∀(i:Nat)(c:Cl),i<j->gs[i]?=some c->∀r,r<R->g c.out r=(tabOf c).testBit (ze (c.ins.map λx=>g x r)))
theorem DM:inv (.bool false) (replicate m (.bool true))=some false:=by
 haveI c:(replicate m (MV.bool true)).all isBool=true:=all_eq_true.mpr λx a=>by exact Er ((mem_replicate.mp a).2) rfl
 haveI b:((replicate m (MV.bool true)).any λy=>MV.beq y (.bool false))=false:=List.any_eq_false.mpr λx a=>by exact Er ((mem_replicate.mp a).2) Na
 unfold inv;erw[Er c (Er b (Er (show isBool (.bool false)=true from rfl) (Er (Bool.true_and ..) (Er (Bool.or_true ..) (Er (Ec rfl) rfl)))))]
inductive Ws (H0:MH)(pw R k:Nat)(g:Nat->Nat->Bool)(H:MH):Prop
 |mk (le:H0.le H) (kv:∃xd,A2 (H pw=some (.dict xd)) (DW R xd k g))
theorem Ws.put (s:Ws H0 pw R k g H)(d:H0 pw=none)(b:k<1000)(c:Wd R W (g k)):∃a,A3 (H pw=some (.dict a)) (a.length<big) (Ws H0 pw R (k+1) g (H.set pw (.dict (dput a (iv k) (iv W))))):=by erw[Zb (s.2) λa y=>⟨a,y.1,Ip (ja y.2.1 b),s.1.set d,_,MH.sd,y.2.put c⟩]
theorem Ws.mono (s:Ws H0 pw R k g H)(h:H.le H'):Ws H0 pw R k g H':=by obtain⟨k,y⟩:=s.2;exact⟨s.1.trans h,k,h _ _ y.1,y.2⟩
theorem EM (e3:L.getD 3 .td=.ref pw)(t:L.getD 7 .td=Yg c)(q:c.ins.length<=3)(s:Ws H0 pw R kk g H)(o:∀x∈c.ins,x<kk)(h:∀p,H p=none->Q (.ref p) (H.set p (.list (replicate c.ins.length (.bool true))))):Yd P (.comp [none,none,some 3] (.one 1) (.sub (.loc 7) (.cst (.int 2))) .nil (.cmp .In (.loc 1) (.loc 2))) L H Q:=by
 erw[eE s.2 λm y=>(Er Sh (Er nM (Er e3 (Er Y8 (Er uv (Er t ?_)))))),[Yg],Xe (k:=2) rfl (Vd rfl) (Gg (λj=>replicate j (.bool true)) (λj i l=>A3 (i=j) (l=H) (j<=c.ins.length)) 0 rfl ⟨rfl,rfl,Ta _⟩ (λj i l z=>⟨trivial,by exact Er Bb (Er z.1 (Ip (ja (Ba z.3 q) akq)))⟩) ?_ ?_)]
 ·intro j x i f K a b r;obtain rfl:=b.1;obtain rfl:=b.2;rw[za,Ha]at a;erw[Ef x a λx a=>?_];obtain⟨W,z⟩:=y.2.2 x (o x (Dd a));erw[[],⟨λzz=>HP y.1 rfl ?_,λe=>(nomatch e)⟩,Er (show ce m (.int x)=some (iv W)from z.1) (r _ (i+1) f List.replicate_succ' ⟨rfl,rfl,yd a⟩)]
 ·intro i f n;erw[hide λu d=>?_];obtain⟨e,rfl,-⟩:=n;erw[d ?_];clear d;rw[aa]at e;erw[Er e h]
theorem jF (e3:L.getD 3 .td=.ref pw)(B:L.getD 7 .td=Yg c)(u:c.ins.length<=3)(s:Ws H0 pw R kk g H)(q:∀x∈c.ins,x<kk)(h:∀(p:Nat)(ws:List Nat),H p=none->ws.length=c.ins.length->(∀v∈ws,v<2^R)->(∀r,r<R->ws.map (·.testBit r)=c.ins.map λx=>g x r)->Q (.ref p) (H.set p (.list (ws.map iv)))):Yd P (.comp [none,none,some 3] (.one 1) (.sub (.loc 7) (.cst (.int 2))) .nil (.sub (.loc 2) (.loc 1))) L H Q:=by
 erw[eE s.2 λC y=>(Er Sh (Er nM (Er e3 (Er Y8 (Er uv (Er B ?_)))))),[Yg],Xe (k:=2) rfl (Vd rfl) (Gg (λws:List Nat=>ws.map iv) (λj ws o=>A5 (o=H) (ws.length=j) (∀v∈ws,v<2^R) (∀r,r<R->ws.map (·.testBit r)=(c.ins.take j).map λx=>g x r) (j<=c.ins.length)) [] rfl ⟨rfl,rfl,λv a=>qd a Ea,λr zz=>rfl,Ta _⟩ (λj ws o z=>⟨trivial,by exact Er (aa ..) (Er z.2 (Ip (ja (Ba z.5 u) akq)))⟩) ?_ ?_)]
 ·intro j x ws n K d i w;haveI f:=i.2;haveI l:=i.3;haveI b:=i.4;obtain rfl:=i.1;rw[za,Ha]at d;erw[Ef x d λx d=>?_];obtain⟨W,z⟩:=y.2.2 x (q x (Dd d));refine⟨λzz=>Ll y.1 rfl z.1 (w _ (ws++[W]) n (by exact Er Aa rfl) ⟨rfl,by exact Er ua (Er f rfl),λv a=>?_,λr m=>?_,yd d⟩),λe=>(nomatch e)⟩
  ·rcases Oa a with a|a
   ·erw[l v a]
   ·erw[Er (ia a) z.2.1]
  ·simp only[Aa,b r m,Xd d,xb,z.2.2 r m]
 ·intro ws n A;obtain⟨rfl,f,l,b,-⟩:=A;rw[aa]at f b;rw[Sa]at b;have b:=b;erw[λp t=>h p ws t f l b]
theorem kF (L:2<=n)(s:Ws H0 pw R (2+m+j) g H)(V:H0 pw=none)(S:2+m+j<1000)(T:R<=32)(O:Gv gs m j R g)(M:gs[j]?=some c)(J:c.out=2+m+j)(D:∀(i:Nat)(c:Cl),gs[i]?=some c->c.out=2+m+i)(F:∀(i:Nat)(c:Cl),gs[i]?=some c->∀x∈c.ins,x<2+m+i)(t:RA c/\c.ins.length<=3/\c.par≠.td)(h:∀H' g',Ws H0 pw R (2+m+(j+1)) g' H'->Gv gs m (j+1) R g'->(∀q l,H q=some (.list l)->H' q=some (.list l))->K .next [x0,x1,iv (2^R-1),.ref pw,x4,x5,x6,Yg c,x8,x9,.ref pa] H'):Kd (Ce X n) FV [x0,x1,iv (2^R-1),.ref pw,x4,x5,x6,Yg c,x8,x9,.ref pa] H K:=by
 haveI a:=F j c M;erw[qe λR4 Z=>?_,[],EM (c:=c) rfl rfl t.2.1 s a λp I=>(cZ MH.sd DM ⟨λe=>(nomatch e),λzz=>?_⟩)];haveI s1:=s.mono ((akr H).new (o:=.list (replicate c.ins.length (.bool true))) I);haveI B:∀q l,H q=some (.list l)->(H.set p (.list (replicate c.ins.length (.bool true)))) q=some (.list l):=λq l e=>ge e I;generalize H.set p (.list (replicate c.ins.length (.bool true)))=H1 at s1 B⊢;erw[[EV,Yg],Xe (k:=0) rfl (Vd rfl) ?_,[],Xe (k:=3) rfl (Vd rfl) (TZ (c:=c) (dm L) t.1 t.2.2 λH2 G=>(jF (c:=c) rfl rfl t.2.1 (s1.mono G) a λq E P Y K' C=>(AQ (dm L) MH.sd (by exact Er Y t.2.1) T K' λW N=>?_)))];haveI z:=G.new (o:=.list (E.map iv)) P;have s3:=s1.mono z;generalize H2.set q (.list (E.map iv))=H3 at s3 z⊢;have v:∀x,x<2+m+j->g x=λr=>if x=2+m+j then(tabOf c).testBit (ze (c.ins.map λy=>g y r))else g x r:=λx a=>by
  funext r
  erw[Er (Dc (Kc a)) rfl]
 have s4:Ws H0 pw R (2+m+j) (λx r=>if x=2+m+j then(tabOf c).testBit (ze (c.ins.map λy=>g y r))else g x r) H3:=by
  erw[eE s3.2 λw y=>⟨s3.1,w,y.1,y.2.congr v⟩]
 obtain⟨w,u⟩:=s4.put (W:=W) V S ⟨N.1,λr A=>by exact Er (N.2 r A) (Er (C r A) (Er (Ec rfl) rfl))⟩;erw[Xe (k:=1) rfl (Vd rfl) (putD u.1 rfl u.2 (Z _ _ ?_))];have U:H3.set pw (.dict (dput w (.int c.out) (.int W)))=H3.set pw (.dict (dput w (iv (2+m+j)) (iv W))):=by exact Er J rfl
 erw[Er U ?_];have QA:∀(i:Nat)(b:Cl),i<=j->gs[i]?=some b->∀r,(b.ins.map λx=>if x=2+m+j then(tabOf c).testBit (ze (c.ins.map λy=>g y r))else g x r)=b.ins.map λx=>g x r:=λi b d f r=>by
  erw[List.map_congr_left λx a=>?_,haveI:=F i b f x a;?_,Er (Dc (by exact Kc (oi 0x3121cbbe0b332102121cbbe0b10 rfl this d))) rfl]
 erw[h _ _ u.3 ⟨λx a=>((v x (by exact se 0x2121cbbe0b3121cbe0b10 rfl a))▸O.1 x a),λi b d f r A=>?_⟩ λq l e=>(MH.ud (Le u.1 (z _ _ (B q l e))).symm).trans (z _ _ (B q l e))]
 ·erw[Er (QA i b (Cb d) f r) ?_];rcases qb d with d|rfl
  ·rw[Dc (by exact Er (D i b f) (Kc (se 0x1221cbbe0221cbbb31e0b10 rfl d)))];erw[O.2 i b d f r A]
  ·erw[Es (oa (M.symm.trans f)) (Er (Ec J) rfl)]
theorem EC (h:xp v)(a:Q (.str 6) H):ak v (.int (-2)) H Q:=by
 obtain⟨e,i,rfl|rfl⟩:=h
 ·exact⟨Vd rfl,a⟩
 ·exact⟨Vd rfl,a⟩
theorem FM (a:H p=some (.list [.str 14,.str 15]))(h:Q (.bool (!te k)) H):xg .NotIn (.str k) (.ref p) H Q:=kW a zW h
theorem Wk.ns (k:Wk N a b w gs xe)(e:N.ins[i]?=some pt)(d:pt.ns[j]?=some x):x=2+(((N.ins.take i).flatMap (·.ns)).length+j)/\((N.ins.take i).flatMap (·.ns)).length+j<a+b/\(So a b w)[((N.ins.take i).flatMap (·.ns)).length+j]?=some (.tup [.str pt.nm,iv j]):=by
 haveI f1:=Vv (f:=λp:Pt=>p.ns) e d;rw[k.8]at f1;haveI c:=yd f1;rw[La]at c;rw[Sc c,Qb]at f1;haveI m:=yd d;haveI o:(yh pt)[j]?=some (.tup [.str pt.nm,iv j]):=by
  unfold yh;refine Er za ?_;refine Er (List.getElem?_range m) ?_;rfl
 haveI f2:=Vv (f:=yh) e o;haveI n:∀l:List Pt,(l.flatMap yh).length=(l.flatMap (·.ns)).length:=λl=>by
  induction l with
  |nil=>rfl|cons p r h=>
   simp only[nb,ua,h];unfold yh;erw[Er (aa ..) (Er (Ca ..) rfl)]
 rw[n,ju k]at f2;refine⟨(oa f1).symm,c,?_⟩;unfold So;erw[Es (Db ..) (Er (jc (by simp only[ua,aa,Ca];exact c)) ?_),f2]
inductive Wq (N:Nt)(gs:List Cl)(m R:Nat)(xd:List (MV×MV))(g:Nat->Nat->Bool):Prop
 |mk (wds:DW R xd (2+m+gs.length) g) (nc:∀r,r<R->ki N.cells λx=>g x r) (src:∀i,i<m->∀r,g (2+i) r=r.testBit i)
theorem GM (hn:3<=n)(I:Md H d N)(k:Wk N a b w gs xe)(EW:H pp=some (.dict A0))(pt:PT A0 a b w)(h:∀p H' T g,H.le H'->H' p=some (.dict T)->Wq N gs (a+b+w) (2^(a+b+w)) T g->Q (.ref p) H'):Fd X n 79 [.obj 0 d,.ref pp,iv (2^2^(a+b+w)-1)] H Q:=by
 erw[eE (Of hn) λn Kk=>?_];subst Kk;have a2:=k.1;have V:=k.2;have Z:=k.3;have gl:=k.14;have IF:xe.length=w:=by haveI:=Fc List.length k.9;rwa[aa,La]at this
 have jk:N.cells.length<1000:=by simp only[k.4,ua,IF];exact je 0x3e83ce10bb3e1103203ce0b10 rfl gl Z
 haveI hR:2^(a+b+w)<=32:=Ab (n:=2) akq (by exact se 0x51c210bb3e21021c11021c010 rfl a2.2 V.2 Z:a+b+w<=5);haveI CM:=BC a2 V Z;haveI hR0:0<2^(a+b+w):=Ub _;have B0:∀i,iF (2+i)=λr=>r.testBit i:=λi=>by
  funext r
  unfold iF;erw[Er (Dc (by exact Nat.ne_of_gt (ee 0x21cbefb3 rfl))) (Er (Dc (by exact Nat.ne_of_gt (ee 0x21cbeeb3 rfl))) (Er (Nat.add_sub_cancel_left ..) rfl))]
 erw[Ad rfl rfl ?_,[p79,wK],⟨λx C=>?_,λpw LZ=>?_⟩]
 ·rcases xa C with rfl|C
  ·rfl
  ·erw[Er (ia C) rfl]
 haveI s0:Ws H pw (2^(a+b+w)) 2 iF (H.set pw (.dict (Ue [.int 0,.int 1] [.int 0,iv (2^2^(a+b+w)-1)] []))):=by
  refine⟨(akr H).new LZ,_,MH.sd,Qa _,λx C=>?_⟩
  match x,C with
  |0,_=>exact⟨0,rfl,Ub _,λr zz=>by exact Er (Nat.zero_testBit ..) rfl⟩
  |1,_=>exact⟨_,rfl,Nat.sub_one_lt (Nat.pos_iff_ne_zero.mp (Ub _)),λr hr=>by exact Er (Nat.testBit_two_pow_sub_one ..) (Er (Pb hr) rfl)⟩
 generalize H.set pw (.dict (Ue [.int 0,.int 1] [.int 0,iv (2^2^(a+b+w)-1)] []))=H1 at s0⊢;erw[Qd λB R2 O R=>?_,[],(I.mono s0.1).aI (ve (s0.1 _ _ I.2) ?_),be (λt:MV×MV×MV=>[.obj 0 d,.ref pp,iv (2^2^(a+b+w)-1),.ref pw,t.1,t.2.1,t.2.2,.td,.td,.td,.td]) (λi zz H'=>Ws H pw (2^(a+b+w)) (2+((N.ins.take i).flatMap (·.ns)).length) iF H') (.td,.td,.td) s0 (λzz zz zz s=>s.1 _ _ I.2) ?_ ?_]
 ·rintro i x t H2 K C s S- -;erw[Sd (Lv C) λL hy tm=>(Er tm ?_)];haveI du:=(I.5 L (.inl (Dd hy))).1;have Az:L.ns.length<1000:=by
   erw[kl (List.append_of_mem (Dd hy)) λl1 l2 e=>?_];haveI:=Fc List.length k.8;simp only[e,Jb,nb,ua,La]at this;erw[jo 0x3e83ce1b321c41021c31043b21b0b11 rfl this a2.2 V.2]
  erw[⟨rfl,O _ _ _ ?_⟩,[BV,nC],Qd λB3 R3 Dy oj=>?_,[],De (s.1 _ _ du) (Re Az) (Er (aa ..) (Rf (ya Az akq) (Ze (ya Az akq) ?_))),be (λt:MV=>[.obj 0 d,.ref pp,iv (2^2^(a+b+w)-1),.ref pw,.str L.nm,.ref L.r,t,.td,.td,.td,.td]) (λj zz H'=>Ws H pw (2^(a+b+w)) (2+(((N.ins.take i).flatMap (·.ns)).length+j)) iF H') t.2.2 s (λzz zz zz zz=>trivial) ?_ ?_]
  ·rintro j x t3 H3 K3 C U qg- -;erw[Ak x (Ud C) λhj=>(eE (⟨_,wa hj⟩:∃x,L.ns[j]?=some x) λx Rx=>?_),pj (k.ns hy Rx) λKj jg hk=>?_];subst Kj;erw[eE (pt.1 _ _ hk) λW u=>(Dy _ _ _ ?_),[AV],⟨Vd rfl,Ll (U.1 _ _ EW) rfl u.1 (Ve (U.1 _ _ du) (yf Rx) (Re Az) ?_)⟩,eE (U.put (W:=W) LZ (by exact oi 0x3e83ce10b21cbb321c31021c21032be10bb10 rfl jg a2.2 V.2) (by rw[B0];exact u.2)) λT z=>(putD z.1 rfl z.2 (qg _ _ z.3))]
  ·rintro t3 H3 U;rw[aa,Ca]at U;erw[oj _ _ (S (.str L.nm,.ref L.r,t3) H3 ?_)];simp only[Xd hy,Jb,nb,Jc,ib,ua];exact U
 ·rintro t H2 s;simp only[aa,Sa,k.8,La]at s;have s:=s;erw[R _ _ ?_];clear O R;erw[Qd λB R2 O R=>(SA (dn hn) (I.mono s.1) jk λps H3 l3 OQ zM=>?_)];rw[k.stC]at zM;haveI nps:ps≠pw:=by
   erw[eE s.2 λzz y=>((Gd y.1 OQ).symm)]
  erw[[],ve zM (be (λt':MV=>[.obj 0 d,.ref pp,iv (2^2^(a+b+w)-1),.ref pw,t.1,t.2.1,t.2.2,t',.td,.td,.td]) (λi zz H'=>A2 (Ws H pw (2^(a+b+w)) (2+(a+b)+i) iF H') (H' ps=some (.list (xe.map Yg)))) _ ⟨s.mono l3,zM⟩ (λzz zz zz y=>y.2) ?_ ?_)]
  ·intro i x t' H4 K C J S _ _;haveI s4:=J.1;haveI e4:=J.2;erw[Sd (Hs C) λcl A gk=>?_];subst gk;haveI D:=yd A;rw[IF]at D;have lI:cl.out=2+(a+b)+i:=by
    haveI:=Fc (λl=>l[i]?) k.9;rw[za,A,Sc D,Qb]at this;haveI e:cl.out=2+a+b+i:=oa this;refine Er e ?_;rw[Yb 2]
   haveI hk6:(So a b w)[a+b+i]?=some (.str 6):=by
    unfold So;refine Es (Db ..) ?_;refine Er (List.getElem?_append_right (by simp only[ua,aa,Ca];exact se 0x210bb10b3 rfl)) ?_;refine Er (ua ..) (Er (aa ..) (Er (aa ..) (Er (Ca ..) (Er (Ca ..) (Er (Nat.add_sub_cancel_left ..) ?_)))));refine Er (List.getElem?_replicate ..) ?_;exact Er (Ec D) rfl
   erw[eE (pt.1 _ _ hk6) λW u=>(eE (s4.put (W:=W) LZ (by exact oi 0x3e83ce210b21cbbb3e3103e2b1021c11021c010 rfl a2.2 V.2 D Z) (by refine Er (show 2+(a+b)+i=2+(a+b+i)from Yb ..) ?_;rw[B0];exact u.2)) λT z=>?_),O _ _ _ ?_,[CV,Yg],Xe (k:=3) rfl (Vd rfl) ?_];haveI fin:Om (.ref pw) (.int cl.out) (iv W) H4 λH8=>Kd (Ce X n) [] [.obj 0 d,.ref pp,iv (2^2^(a+b+w)-1),.ref pw,t.1,t.2.1,t.2.2,Yg cl,.td,.td,.td] H8 K:=by
    erw[Er lI (putD z.1 rfl z.2 (S (Yg cl) _ ⟨z.3,(MH.ud nps).trans e4⟩))]
   erw[EC (k.10 cl (Dd A)) (Ll (s4.1 _ _ EW) rfl u.1 (Xe (k:=1) rfl (Vd rfl) fin))]
  ·intro t' H4 Zd;haveI s4:=Zd.1;rw[aa,IF,show 2+(a+b)+w=2+(a+b+w)from Yb ..]at s4;erw[R _ _ ?_];clear O R;haveI hg0:Gv gs (a+b+w) 0 (2^(a+b+w)) iF:=⟨λx zz=>rfl,λi c D=>qd D (kc _)⟩;erw[[vK],Er Sh (Er yQ ?_),[],(I.mono s4.1).aC (ve (s4.1 _ _ I.4) ?_),Gg (λj=>((N.cells.take j).filter λc=>!te c.k).map Yg) (λj i H'=>A2 (i=j) (Ws H pw (2^(a+b+w)) (2+(a+b+w)) iF H')) 0 (by simp only[Fb];rfl) ⟨rfl,s4⟩ (λj i H' y=>⟨y.2.1 _ _ I.4,Re (ja (List.length_filter_le _ _) (ja (by exact Er (zb ..) (Nc _ _)) jk))⟩) ?_ ?_]
   ·intro j x i H5 K C bf hK;haveI s5:=bf.2;obtain rfl:=bf.1;erw[yp x (Hs C) λcl A=>?_];have e:∀bb,te cl.k=bb->((N.cells.take (i+1)).filter λc=>!te c.k).map Yg=((N.cells.take i).filter λc=>!te c.k).map Yg++if bb=true then[]else[Yg cl]:=λbb hb=>by
     erw[Er (Xd A) (Er (Vb ..) (Er (Aa ..) (Er (Wb ..) (Er hb ?_))))];cases bb<;>rfl
    erw[[Yg],Xe (k:=0) rfl (Vd rfl) ?_,[],⟨Vd rfl,λq hq=>FM MH.sd ?_⟩];haveI s6:=s5.mono ((akr H5).new (o:=.list [.str 14,.str 15]) hq);cases hb:te cl.k with
    |true=>exact⟨λe=>(nomatch e),λzz=>⟨λe=>(nomatch e),λzz=>hK _ (i+1) _ (e true hb) ⟨rfl,s6⟩⟩⟩|false=>exact⟨λzz=>⟨λzz=>hK _ (i+1) _ (e false hb) ⟨rfl,s6⟩,λe=>(nomatch e)⟩,λe=>(nomatch e)⟩
   ·intro i H5 fg;haveI e:=fg.1;haveI s5:=fg.2;rw[aa]at e;erw[Er e (Er (Sa ..) (Er k.4 (Er ((oy k.5 k.6).2) ?_)))];intro G hlq;haveI s6:=s5.mono ((akr H5).new (o:=.list (gs.map Yg)) hlq);haveI e6:(H5.set G (.list (gs.map Yg))) G=some (.list (gs.map Yg)):=MH.sd;generalize H5.set G (.list (gs.map Yg))=H6 at s6 e6⊢;have hgo:∀(i:Nat)(c:Cl),gs[i]?=some c->c.out=2+(a+b+w)+i:=λi c A=>by
     haveI:=Fc (λl=>l[i]?) k.12;rw[za,A,Sc (yd A),Qb]at this;erw[oa this]
    erw[Qd λB R2 O R=>?_,[],De e6 (Re (by exact ee 0x3e83ce0b33203ce0b10 rfl gl)) (Er (aa ..) (Rf (n:=gs.length) (by exact ja (m:=1000) (ee 0x3e83c033203ce0b10 rfl gl) akq) (Ze (by exact ee 0x186a05ce0b33203ce0b10 rfl gl) ?_))),be (λu:MV×MV×MV×MV=>[.obj 0 d,.ref pp,iv (2^2^(a+b+w)-1),.ref pw,t.1,t.2.1,t.2.2,u.1,u.2.1,u.2.2.1,u.2.2.2]) (λi u H'=>∃G,A2 (u.2.1=.ref G) ((i=0/\H' G=some (.list (gs.map Yg))/\Ws H pw (2^(a+b+w)) (2+(a+b+w)+0) iF H')\/(1<=i/\H' G=some (.list [])/\∃g,Ws H pw (2^(a+b+w)) (2+(a+b+w)+gs.length) g H'/\Gv gs (a+b+w) gs.length (2^(a+b+w)) g))) (t',.ref G,.td,.td) ⟨G,rfl,.inl ⟨rfl,e6,s6⟩⟩ (λzz zz zz zz=>trivial) ?_ ?_]
    ·intro i x rg F K C J S _ _;obtain⟨u1,u2,u3,u4⟩:=rg;obtain⟨Y,rfl,Ku⟩:=J;erw[Ak x (Ud C) λD=>(O _ _ _ ?_),[GV],⟨Vd rfl,λf hqa=>?_⟩];haveI l8:=(akr F).new (o:=.list []) hqa;haveI ea:(F.set f (.list [])) f=some (.list []):=MH.sd;haveI x_:(i=0/\(F.set f (.list [])) Y=some (.list (gs.map Yg))/\Ws H pw (2^(a+b+w)) (2+(a+b+w)+0) iF (F.set f (.list [])))\/(1<=i/\(F.set f (.list [])) Y=some (.list [])/\∃g,Ws H pw (2^(a+b+w)) (2+(a+b+w)+gs.length) g (F.set f (.list []))/\Gv gs (a+b+w) gs.length (2^(a+b+w)) g):=
      Ku.imp (λh=>⟨h.1,l8 _ _ h.2.1,h.2.2.mono l8⟩) λh=>⟨h.1,l8 _ _ h.2.1,h.2.2.imp λg h=>⟨h.1.mono l8,h.2⟩⟩
     generalize F.set f (.list [])=H8 at ea x_⊢;erw[Qd λB3 R3 Dy oj=>?_,[]];rcases x_ with⟨rfl,e8,s8⟩|⟨k_,e8,g,s8,E⟩
     ·erw[ve e8 (be (λv:MV=>[.obj 0 d,.ref pp,iv (2^2^(a+b+w)-1),.ref pw,t.1,t.2.1,t.2.2,v,.ref Y,.int (0:Nat),.ref f]) (λj zz H'=>A3 (∃g,Ws H pw (2^(a+b+w)) (2+(a+b+w)+j) g H'/\Gv gs (a+b+w) j (2^(a+b+w)) g) (H' Y=some (.list (gs.map Yg))) (H' f=some (.list []))) u1 ⟨⟨iF,s8,hg0⟩,e8,ea⟩ (λzz zz zz y=>y.2) ?_ ?_)]
      ·intro j x v H9 K9 M J C0 _ _;erw[hide λZz Od=>?_,haveI e9:=J.2;?_,haveI P:=J.3;?_,Sd J.1 λg s9 E=>(Od ?_)];clear Od;erw[Sd (Hs M) λcl A Hq=>(Er Hq ?_),have hj:=yd A;?_,Dy _ _ _ (kF (dn hn) s9 LZ (by exact jo 0x3e83ce3210bb21cbbb33203ce4b104e3b10e21021c11021c010 rfl a2.2 V.2 Z hj gl) hR E A (hgo j cl A) hgo (λi c h=>k.11 i c h) (k.13 cl (Dd A)) λH' g' s' gv' kp=>C0 (Yg cl) H' ⟨⟨g',s',gv'⟩,kp _ _ e9,kp _ _ P⟩)]
      ·intro v H9 ji;haveI P:=ji.3;erw[Sd ji.1 λg s9 E=>?_];rw[aa]at s9 E;erw[oj _ _ (S (v,.ref f,.int (0:Nat),.ref f) H9 ⟨f,rfl,.inr ⟨Qa _,P,g,s9,E⟩⟩)]
     ·erw[ve e8 (be (λv:MV=>[.obj 0 d,.ref pp,iv (2^2^(a+b+w)-1),.ref pw,t.1,t.2.1,t.2.2,v,.ref Y,.int (i:Nat),.ref f]) (λj zz H'=>H'=H8) u1 rfl (λzz zz zz y=>by exact Er y e8) (λk x v H9 K9 M=>(nomatch M)) ?_)];rintro v H9 rfl;erw[oj _ _ (S (v,.ref f,.int (i:Nat),.ref f) H9 ⟨f,rfl,.inr ⟨Ba k_ (Nat.le_succ i),ea,g,s8,E⟩⟩)]
    ·intro Xg F Bk;obtain⟨u1,u2,u3,u4⟩:=Xg;erw[eE Bk λY om=>?_,haveI Ku:=om.2;?_,Es om.1 ?_];rw[aa,Ca]at Ku;have adq:∃g,Ws H pw (2^(a+b+w)) (2+(a+b+w)+gs.length) g F/\Gv gs (a+b+w) gs.length (2^(a+b+w)) g:=by
      rcases Ku with⟨h0,-,s7⟩|⟨-,-,hg⟩
      ·erw[Er h0 ⟨iF,s7,hg0⟩]
      ·erw[hg]
     erw[Sd adq λg s7 E=>?_];obtain⟨T,y⟩:=s7.2;erw[R _ _ (h pw F T g s7.1 y.1 ⟨y.2,λr hr=>⟨?_,?_,λc A hcs=>?_⟩,λi D r=>?_⟩)]
     ·show g 0 r=false;erw[Er (E.1 0 (by exact se 0x210bb21cbefb3 rfl)) rfl]
     ·show g 1 r=true;erw[Er (E.1 1 (by exact se 0x210bb21cbeeb3 rfl)) rfl]
     ·haveI hcg:c∈gs:=by
       rw[k.4]at A;rcases Oa A with h|h
       ·erw[h]
       ·haveI:=k.6 c h;rw[hcs]at this;exact(nomatch this)
      erw[eE (Lb hcg) λi D=>?_,E.2 i c (yd D) D r hr]
     ·rw[E.1 (2+i) (by exact oi 0x321bb21cbe021cbb3321bbe0b10 rfl D),B0]
mutual
theorem Dt.Un (o:H.le H'):∀(d:Dt)(v:MV),Dt.on H d v->Dt.on H' d v
 |.flat _,_,h=>h|.tup ds,_,⟨vs,e,h⟩=>⟨vs,e,Dt.Hg o ds vs h⟩|.list ds,_,⟨p,vs,e,a,h⟩=>⟨p,vs,e,o _ _ a,Dt.Hg o ds vs h⟩
theorem Dt.Hg (o:H.le H'):∀(a:List Dt)(vs:List MV),Dt.Zn H a vs->Dt.Zn H' a vs
 |[],[],_=>trivial|d::r,v::t,⟨c,b⟩=>⟨Dt.Un o d v c,Dt.Hg o r t b⟩|[],_::_,h=>h.elim|_::_,[],h=>h.elim
end
theorem Dt.py:∀{a:List Dt}{vs:List MV}{d:Dt}{v:MV},Dt.Zn H a vs->Dt.on H d v->Dt.Zn H (a++[d]) (vs++[v])
 |[],[],_,_,_,h=>⟨h,trivial⟩|_::_,_::_,_,_,⟨h1,h2⟩,h=>⟨h1,Dt.py h2 h⟩|[],_::_,_,_,h,_=>h.elim|_::_,[],_,_,h,_=>h.elim
def FC (ws:List Nat):Dt:=.list (ws.map λx=>.flat (iv x))
def HM (p:Nat×List Nat):Dt:=.tup [.flat (.str p.1),FC p.2]
def VA (c:Nat×MV×List Nat):Dt:=.tup [.flat (.str c.1),.flat c.2.1,FC c.2.2]
def Wv (ps:List (Nat×List Nat))(ss:List (Nat×MV×List Nat)):List Dq:=[.one (.list (ps.map HM)),.dict (ss.map λ_=>.str 6) (ss.map VA)]
theorem Vn {a:Type}{f:a->Dt}{m:Nat}(h:∀x,(f x).dep<=m):∀l:List a,Dt.Au (l.map f)<=m:=by
 intro l
 induction l with
 |nil=>
  erw[Ta _]
 |cons x r b=>
  erw[Nat.max_le.mpr ⟨h x,b⟩]
theorem To (ws:List Nat):(FC ws).dep<=4:=Wa (Vn (λ_=>Qa 3) ws)
theorem lF (p:Nat×List Nat):(HM p).dep<=5:=Wa (Nat.max_le.mpr ⟨by show 3<=4;decide,Nat.max_le.mpr ⟨To _,Ta _⟩⟩)
theorem WA (p:Nat×MV×List Nat):(VA p).dep<=5:=Wa (Nat.max_le.mpr ⟨by show 3<=4;decide,Nat.max_le.mpr ⟨by show 3<=4;decide,Nat.max_le.mpr ⟨To _,Ta _⟩⟩⟩)
theorem XA {b:List (Nat×MV×List Nat)}:∀d∈Wv ps b,Dq.dep d<50:=λd a=>by
 rcases xa a with rfl|a
 ·erw[ja (Wa (Vn lF ps)) akq]
 ·erw[Er (ia a) (ja (Wa (Vn WA b)) akq)]
theorem Xn (a:H p=some (.list (ws.map iv))):Dt.on H (FC ws) (.ref p):=by
 refine⟨p,_,rfl,a,?_⟩;clear a
 induction ws with
 |nil=>exact trivial|cons x r b=>exact⟨⟨rfl,rfl⟩,b⟩
def io (xd:List (MV×MV))(x:Nat):Nat:=match ce xd (iv x)with
 |some (.int i)=>i.toNat|_=>0
theorem Wq.io (q:Wq N gs m R xd g)(a:x<2+m+gs.length):ce xd (iv x)=some (iv (io xd x))/\Wd R (io xd x) (g x):=by
 erw[eE (q.1.2 x a) λW y=>?_];haveI e:Mine.io xd x=W:=by unfold Mine.io;exact Er y.1 (Int.toNat_natCast W)
 erw[Er e ⟨y.1,y.2⟩]
theorem ku {P:Pg}{pw:Nat}{a:List (MV×MV)}{xs:List Nat}{bg:MH->Prop}(d:H pw=some (.dict a))(n:xs.length<1000)(o:bg H)(m:∀x∈xs,ce a (iv x)=some (iv (io a x)))(h:∀p,H p=none->Q (.ref p) (H.set p (.list ((xs.map (io a)).map iv)))):af bg (λx H2 K=>ri (.one 1) x [.td,.td,.ref pw] λL'=>Du P .nil L' H2 λb k=>(b=true->Yd P (.Kg (.loc 2) 3 (.cons (.loc 1) (.cons (.neg (.cst (.int 1))) .nil))) L' k λr t=>K [r] t)/\(b=false->K [] k)) (xs.map iv) [] H λl H'=>alloc H' (.list l) Q:=by
 erw[Gg (λj=>((xs.take j).map (io a)).map iv) (λj i H'=>A3 (i=j) (H'=H) (j<=xs.length)) 0 (by simp only[Fb];rfl) ⟨rfl,rfl,Ta _⟩ (λj i H' z=>⟨by refine Er z.2 ?_;exact o,by exact Er (aa ..) (Er (aa ..) (Er (zb ..) (Ip (ja (Nc _ _) n))))⟩) ?_ ?_]
 ·intro j x i H2 K c f q;obtain rfl:=f.1;obtain rfl:=f.2;rw[za,Ha]at c;erw[Ef x c λx c=>?_,[],⟨λ_=>⟨dL d,cL d rfl ?_⟩,λe=>(nomatch e)⟩,Er (show ce a (.int x)=some (iv (io a x))from m x (Dd c)) (q _ (i+1) H2 (Er (Xd c) (Er Aa (Er Aa rfl))) ⟨rfl,rfl,yd c⟩)]
 ·intro i H2 s;obtain⟨e,rfl,-⟩:=s;rw[aa]at e;erw[Er e (Er Sa h)]
theorem PQ (h:xp v):xh v=true:=by obtain⟨e,i,rfl|rfl⟩:=h<;>rfl
theorem lu {A0:List (MV×MV)}(Y:4<=n)(C:Md H d N)(k:Wk N a b w gs xe)(EW:H pp=some (.dict A0))(pt:PT A0 a b w)(h:∀vs H' f g,H.le H'->Wq N gs (a+b+w) (2^(a+b+w)) f g->Dq.Zn H' (Wv (N.outs.map λp=>(p.nm,p.ns.map (io f))) (xe.map λc=>(c.k,c.par,c.ins.map (io f)))) vs->Q (.tup vs) H'):Fd X n 80 [.obj 0 d,.ref pp,iv (2^2^(a+b+w)-1)] H Q:=by
 erw[eE (Of Y) λn Kk=>?_];subst Kk;have IF:xe.length=w:=by haveI:=Fc List.length k.9;rwa[aa,La]at this
 haveI w1:=k.3;haveI gl:=k.14;haveI jk:N.cells.length<1000:=Er k.4 (Er ua (Er IF (je 0x3e83ce10bb3e1103203ce0b10 rfl gl w1)));erw[Ad rfl rfl ?_,[p80,LV],GM (dn Y) C k EW pt λpw H1 f g u hw wq=>?_];have kn:∀U:List Nat,(∀x∈U,x∈N.outs.flatMap (·.ns)++xe.flatMap (·.ins))->∀x∈U,ce f (iv x)=some (iv (io f x)):=λU h x m=>(wq.io (k.15 x (h x m))).1;erw[[KV],Er Sh (Er yW ?_),[],(C.mono u).aO (ve (u _ _ C.3) ?_),Gg (λl:List MV=>l) (λj l H'=>A4 (H1.le H') (l.length=j) (Dt.Zn H' ((N.outs.take j).map λp=>HM (p.nm,p.ns.map (io f))) l) (j<=N.outs.length)) [] rfl ⟨akr _,rfl,by simp only[Fb];exact trivial,Ta _⟩ (λj l H' y=>⟨y.1 _ _ (u _ _ C.3),by exact Er y.2 (Ip (ja y.4 (by refine Er k.16 ?_;decide)))⟩) ?_ ?_]
 ·intro j x l R K m v hK;haveI E:=v.1;haveI e2:=v.2;haveI S:=v.3;erw[yp x (Lv m) λA O=>?_,haveI du:=(C.5 A (.inr (Dd O))).1;?_,haveI Az:=k.17 A (Dd O);?_,⟨rfl,?_⟩,[],⟨λ_=>?_,λe=>(nomatch e)⟩];simp only[Sh,nM];erw[[],ve (E _ _ (u _ _ du)) (ku (E _ _ hw) (ja Az akq) (E _ _ (u _ _ du)) (kn A.ns λx m=>Za (.inl (List.mem_flatMap.mpr ⟨A,Dd O,m⟩))) λq W=>⟨Vd rfl,?_⟩),haveI s:=(akr R).new (o:=.list ((A.ns.map (io f)).map iv)) W;?_,hK _ (l++[.tup [.str A.nm,.ref q]]) _ rfl ⟨E.trans s,by exact Er ua (Er e2 rfl),?_,yd O⟩,Er (Xd O) (Er Aa ?_),Dt.py (Dt.Hg s _ _ S) ⟨_,rfl,⟨rfl,rfl⟩,Xn MH.sd,trivial⟩]
 ·intro l R Z;haveI E:=Z.1;haveI e2:=Z.2;haveI S:=Z.3;rw[aa,Sa]at S;intro J P;have s:=E.new (o:=.list l) P;haveI d3:=Dt.Hg ((akr R).new (o:=.list l) P) _ _ S;haveI e3:(R.set J (.list l)) J=some (.list l):=MH.sd;generalize R.set J (.list l)=H3 at s d3 e3⊢;erw[[JV],⟨λx m=>qd m Ea,λr I=>?_⟩];haveI l4:=s.new (o:=.dict (Ue [] [] [])) I;haveI M:=(akr H3).new (o:=.dict (Ue [] [] [])) I;haveI ed:(H3.set r (.dict (Ue [] [] []))) r=some (.dict []):=MH.sd;generalize H3.set r (.dict (Ue [] [] []))=H4 at l4 M ed⊢;erw[Qd λB R2 hB cg=>(SA (dn Y) (C.mono (u.trans l4)) jk λps H5 l5 OQ T=>?_)];rw[k.stC]at T;haveI V:ps≠r:=(Gd ed OQ).symm;haveI cN:H3 r=none:=I;erw[[],ve T (be (λt:MV=>[.obj 0 d,.ref pp,iv (2^2^(a+b+w)-1),.ref pw,.ref J,.ref r,t]) (λi _ H'=>A4 (H3.le H') (H' ps=some (.list (xe.map Yg))) (∃vs,A3 (H' r=some (.dict (((xe.take i).map λ_=>.str 6).zip vs))) (vs.length=i) (Dt.Zn H' ((xe.take i).map λc=>VA (c.k,c.par,c.ins.map (io f))) vs)) (i<=1)) _ ⟨M.trans l5,T,⟨[],by simp only[Fb];exact l5 _ _ ed,rfl,by simp only[Fb];exact trivial⟩,Ta _⟩ (λ_ _ _ y=>y.2) ?_ ?_)]
  ·intro i x t G K m v zd _ _;haveI D:=v.1;haveI e6:=v.2;erw[eE v.3 λvs y=>(yp x (Hs m) λcl F=>?_)];haveI hi:=yd F;obtain rfl:i=0:=Ka (se 0xf03e21021111e0b10 rfl hi IF w1) (ee 0xf3 rfl);obtain rfl:vs=[]:=List.eq_nil_of_length_eq_zero y.2;haveI Ro:=k.10 cl (Dd F);haveI I:G r=some (.dict []):=Er y.1 rfl;haveI y_:=s.trans D;erw[hB _ _ _ ?_,[HV,Yg],Xe (k:=0) rfl (Vd rfl) ?_,[],Xe (k:=3) rfl (Vd rfl) ?_,[]];simp only[Sh,nM];erw[[],Xe (k:=2) rfl (Vd rfl) (ku (y_ _ _ hw) (by refine Er (k.18 cl (Dd F)) ?_;decide) trivial (kn cl.ins λx m=>Za (.inr (List.mem_flatMap.mpr ⟨cl,Dd F,m⟩))) λq W=>⟨Vd rfl,?_⟩)];have L:=(akr G).new (o:=.list ((cl.ins.map (io f)).map iv)) W;have e7:(G.set q (.list ((cl.ins.map (io f)).map iv))) q=some (.list ((cl.ins.map (io f)).map iv)):=MH.sd;generalize G.set q (.list ((cl.ins.map (io f)).map iv))=H7 at L e7⊢;erw[Xe (k:=3) rfl (Vd rfl) (EC Ro (putD (L _ _ I) rfl (Vd rfl) (zd _ _ ⟨(D.trans L).set cN,(MH.ud V).trans (L _ _ e6),⟨[.tup [.str cl.k,cl.par,.ref q]],(Er MH.sd (Er (Xd F) (Er Fb rfl))),rfl,?_⟩,Qa _⟩)))]
   ·erw[Er (Xd F) (Er Fb ?_),⟨⟨_,rfl,⟨rfl,rfl⟩,⟨PQ Ro,rfl⟩,Xn ((MH.ud (Le (L _ _ I) e7).symm).trans e7),trivial⟩,trivial⟩]
  ·intro t G ji;haveI D:=ji.1;erw[eE ji.3 λvs y=>?_,haveI y:=(Sa ..)▸(aa ..)▸y;?_,cg _ _ ?_,[IV],⟨Vd rfl,h _ G f g ((u.trans s).trans D) wq ⟨⟨J,l,rfl,D _ _ e3,(Er map_map (Dt.Hg D _ _ d3))⟩,⟨r,vs,rfl,(Er map_map y.1),(Er (aa ..) (Er (aa ..) (Er y.2 rfl))),λx m=>?_,(Er map_map y.3)⟩,trivial⟩⟩]
   ·obtain⟨z,-,rfl⟩:=Gb m;rfl
def Ls (o:List Nat)(m r j:Nat):Bool:=xor (r.testBit (o.getD j 0)) (m.testBit j)
def Wl (tab k:Nat)(o:List Nat)(m x dk:Nat):Nat:=ze ((range (2^dk)).map λr=>xor (tab.testBit (ze ((range k).map (Ls o m r)))) (x==1))
theorem GC:T/2^r%2=(T.testBit r).toNat:=by erw[Er Nat.testBit_eq_decide_div_mod_eq ?_];rcases Nat.mod_two_eq_zero_or_one (T/2^r)with h|h<;>refine Er h ?_<;>rfl
theorem qy:1-b.toNat=(!b).toNat:=by cases b<;>rfl
theorem mu {g:Nat->Bool}{k:Nat}:ze ((range (k+1)).map g)=ze ((range k).map g)+(g k).toNat*2^k:=by erw[Er (Xb ..) (Er (Aa ..) (Er (xb ..) (Er Vt (Er (aa ..) (Er (Ca ..) rfl)))))]
theorem HC {g:Nat->Bool}{k:Nat}:ze ((range k).map g)<2^k:=by haveI:=Qn ((range k).map g);rwa[aa,Ca]at this
theorem QQ (mo:MOk T k m)(b:T<2^2^k):Wl (Kf m.1) k m.2.1 m.2.2.1 m.2.2.2 k=T:=by erw[Eq.trans ?_ (fu b)];unfold Wl jl;erw[Fc ze (List.map_congr_left λr a=>?_),Er (mo.8 r (Mb a)) ?_];unfold Zp Ls;erw[Er Gr rfl]
theorem Lr (h:x<8):x<=100000:=Ba (Ib h) akq
theorem IC {o:List Nat}(hn:1<=n)(O:Seq H v o)(P:o.length=k)(D:k<=3)(ho:∀z∈o,z<8)(hd:dk<=3)(h:Q (iv (Wl tab k o m x dk)) H):Fd X n 81 [iv tab,iv k,v,iv m,iv x,iv dk] H Q:=by
 erw[Xh n (Of hn) λn=>?_];haveI J:=O.fL;haveI L:=Wf hd;haveI W0:∀{i:Nat},i<8->2^i<2^30:=λh=>Nat.pow_lt_pow_right akq (ya h akq);haveI Q7:∀{i:Nat},i<8->2^i<2^62:=λh=>Nat.pow_lt_pow_right akq (ya h akq);haveI M:∀b:Bool,b.toNat<2^62:=λb=>by cases b<;>decide
 erw[Ad rfl rfl ?_,[p81,yK,WV],Qd λB R2 hB cg=>?_,[],Sj (Ba hd akq) (Rf (ja L akq) (Ze (ja L akq) ?_)),be (λs:Nat×MV×MV×MV×MV=>[iv tab,iv k,v,iv m,iv x,iv dk,iv s.1,s.2.1,s.2.2.1,s.2.2.2.1,s.2.2.2.2]) (λr s G=>A2 (G=H) (s.1=ze ((range r).map λr=>xor (tab.testBit (ze ((range k).map (Ls o m r)))) (x==1)))) (0,.td,.td,.td,.td) ⟨rfl,rfl⟩ (λzz zz zz zz=>trivial) ?_ ?_]
 ·intro r z l G K I bf V _ _;obtain⟨rfl,f⟩:=bf;erw[Ak z (Ud I) λZ=>?_];haveI q:=Ma Z L;replace f:l.1=ze ((range r).map λr=>xor (tab.testBit (ze ((range k).map (Ls o m r)))) (x==1)):=f;erw[hB _ _ _ ?_,[UV,TV],Qd λB3 R3 Dy Y=>?_,[],Rf (n:=k) (ja D akq) (Ze (ja D akq) ?_),be (λs:Nat×MV×MV=>[iv tab,iv k,v,iv m,iv x,iv dk,iv l.1,iv r,iv s.1,s.2.1,s.2.2]) (λj s u=>A2 (u=G) (s.1=ze ((range j).map (Ls o m r)))) (0,l.2.2.2.1,l.2.2.2.2) ⟨rfl,rfl⟩ (λzz zz zz zz=>trivial) ?_ ?_]
  ·intro j z F u K3 I N W _ _;haveI c:=N.2;obtain rfl:=N.1;erw[Ak z (Ud I) λR=>?_];replace c:F.1=ze ((range j).map (Ls o m r)):=c;haveI A:o[j]?=some (o.getD j 0):=getD_at (Er P R);have C:=ho _ (Dd A);have d:j<8:=Ma R (Ba D akq);haveI fin:∀b:Bool,b=Ls o m r j->Kd (Ce X n) xK [iv tab,iv k,v,iv m,iv x,iv dk,iv l.1,iv r,iv F.1,iv j,iv b.toNat] u K3:=by
    intro b E;erw[[xK],Sj (Lr d) (Av (M b) (Q7 d) (zg (W (F.1+b.toNat*2^j,iv j,iv b.toNat) u ⟨rfl,?_⟩)))];show F.1+b.toNat*2^j=_;erw[Er mu (Er c (Er E rfl))]
   erw[Dy _ _ _ ?_,[PV],oe J (O.sub A (Er P (Ip (ja D akq))) (Sj (Lr C) (Cp (Ub _) (W0 C) (Bv (b:=2) akq ?_)))),Er GC ?_,[OV],qe λR4 S=>?_,[],Sj (Lr d) (Cp (Ub _) (W0 d) (Bv (b:=2) akq ⟨λe=>?_,λe=>S _ _ (fin (r.testBit (o.getD j 0)) ?_)⟩))]
   ·erw[[NV],zv (a:=1) (by cases r.testBit (o.getD j 0)<;>decide) (S _ _ ?_),Er qy (fin _ ?_)];unfold Ls;erw[Er (dj.mp e) (Er (Bool.xor_true ..) rfl)]
   ·unfold Ls;haveI:m.testBit j=false:=by
     cases E:m.testBit j with
     |false=>rfl|true=>exact qd (dj.mpr E) λh=>Na (e.symm.trans h)
    erw[Er this (Er (Bool.xor_false ..) rfl)]
  ·intro p u U;haveI c:=U.2;obtain rfl:=U.1;rw[aa,Ca]at c;replace c:p.1=ze ((range k).map (Ls o m r)):=c;have w:p.1<8:=Er c (Ma HC (Wf D));erw[Y _ _ ?_];haveI fin:∀b:Bool,b=(xor (tab.testBit p.1) (x==1))->∀t,eg .Mult (.int b.toNat) (.int (2^r:Nat)) u λy H3=>eg .Add (.int l.1) y H3 λz H4=>Kd (Ce X n) [] [iv tab,iv k,v,iv m,iv x,iv dk,z,iv r,iv p.1,p.2.1,t] H4 K:=by
    intro b E t;erw[Av (M b) (Q7 q) (zg (V (l.1+b.toNat*2^r,iv r,iv p.1,p.2.1,t) u ⟨rfl,?_⟩))];show l.1+b.toNat*2^r=_;erw[Er mu (Er f (Er E (Er c rfl)))]
   erw[[SV],Sj (Lr w) (Cp (Ub _) (W0 w) (Bv (b:=2) akq ?_)),Er GC ?_,[QV],⟨λe=>?_,λe=>?_⟩]
   ·have e:x=1:=zk (b:=1) e;erw[zv (a:=1) (by cases tab.testBit p.1<;>decide) (Sj (Lr q) ?_),Er qy (fin _ (Er e ((Bool.xor_true _).symm)) _)]
   ·have e:x≠1:=Am (b:=1) e;erw[Sj (Lr q) (fin _ (Er (show(x==1)=false from Yc e) (Er (Bool.xor_false ..) rfl)) _)]
 ·intro Kk G Ay;erw[hide λZz T=>?_];obtain⟨rfl,f⟩:=Ay;erw[T ?_];clear T;rw[aa,Ca]at f;replace f:Kk.1=Wl tab k o m x dk:=f;erw[cg _ _ ?_,[VV],Er f h]
def YA (s:Nat)(row:List Nat)(j:Nat):List (List Nat):=(range j).map λi=>row.take i++[s]++row.drop i
def Fm:Nat->List (List Nat)
 |0=>[[]]|s+1=>(Fm s).flatMap λrow=>YA s row (row.length+1)
inductive RL (H0:MH)(H:MH)(rs:List Nat)(rows:List (List Nat)):Prop
 |mk (len:rs.length=rows.length) (at':∀(i r:Nat)(row:List Nat),rs[i]?=some r->rows[i]?=some row->A2 (H r=some (.list (row.map iv))) (H0 r=none))
theorem RL.nil:RL H0 H [] []:=⟨rfl,λi r row h=>(nomatch h)⟩
theorem RL.mono (l:RL H0 H rs rows)(h:H.le H'):RL H0 H' rs rows:=⟨l.1,λi r row b a=>⟨h _ _ (l.2 i r row b a).1,(l.2 i r row b a).2⟩⟩
theorem RL.snoc (l:RL H0 H rs rows)(h:H r=some (.list (row.map iv)))(j:H0 r=none):RL H0 H (rs++[r]) (rows++[row]):=by
 refine⟨by simp only[ua,l.1];rfl,λi f c b a=>?_⟩;rw[tc]at b a;have a:=(l.1).symm▸a;by_cases e:i<rs.length
 ·rw[Ec e]at b a;exact l.2 i f c b a
 ·rw[Dc e,Lc]at b a;by_cases d:i-rs.length=0
  ·rw[Ec d]at b a;erw[Es (oa b) (Es (oa a) ⟨h,j⟩)]
  ·rw[Dc d]at b;exact(nomatch b)
theorem RQ:∀s,s<=2->(Fm s).length<=6/\∀r∈Fm s,r.length<=2:=by decide
theorem mF:YA s row (j+1)=YA s row j++[row.take j++[s]++row.drop j]:=by unfold YA;simp only[Xb,Aa];rfl
theorem D0 {p i:Nat}{a:List Nat}(d:H p=some (.list (a.map iv)))(b:a.length<1000)(h:∀q,H q=none->Q (.ref q) (H.set q (.list ((a.take i).map iv)))):Hj (.ref p) .none (.int i) H Q:=by erw[ue d ⟨Re b,Ua _,λq c=>?_⟩,Er (Int.toNat_natCast ..) (Es (List.map_take ..) (h q c))]
theorem E0 {p i:Nat}{a:List Nat}(d:H p=some (.list (a.map iv)))(b:a.length<1000)(hi:i<=a.length)(h:∀q,H q=none->Q (.ref q) (H.set q (.list ((a.drop i).map iv)))):Hj (.ref p) (.int i) .none H Q:=by erw[ue d ⟨Re b,Ua _,by refine Er (aa ..) ?_;exact Int.ofNat_le.mpr hi,λq c=>?_⟩,Er (Int.toNat_natCast ..) (Es (List.map_drop ..) (h q c))]
theorem SQ {w:Nat}(hn:1<=n)(hw:w<=2)(h:∀p c H',H.le H'->H p=none->H' p=some (.list (c.map .ref))->RL H H' c (Fm w)->Q (.ref p) H'):Fd X n 82 [iv w] H Q:=by
 erw[eE (Of hn) λn Kj=>?_];subst Kj;erw[Ad rfl rfl ?_,[p82,YV],⟨Vd rfl,λf X_=>⟨Vd rfl,λp0 C=>?_⟩⟩];have l0:=((akr H).new (o:=.list []) X_).new (o:=.list [.ref f]) C;haveI e0:((H.set f (.list [])).set p0 (.list [.ref f])) p0=some (.list ([f].map .ref)):=MH.sd;haveI D:RL H ((H.set f (.list [])).set p0 (.list [.ref f])) [f] (Fm 0):=RL.nil.snoc (row:=[]) (ge MH.sd C) X_;haveI adu:=(fresh C).2;generalize (H.set f (.list [])).set p0 (.list [.ref f])=H1 at l0 e0 D⊢;erw[Qd λB R2 hB cg=>?_,[],Rf (n:=w) (ja (m:=1000) (ee 0x3e83c0321c010 rfl hw) akq) (Ze (ee 0x186a05ce0b321c010 rfl hw) ?_),be (λt:Nat×MV=>[iv w,.ref t.1,t.2]) (λs t H'=>∃c:List Nat,A5 (H.le H') (H t.1=none) (H' t.1=some (.list (c.map .ref))) (RL H H' c (Fm s)) (s<=w)) (p0,.td) ⟨[f],l0,adu,e0,D,Ta _⟩ (λzz zz zz zz=>trivial) ?_ ?_]
 ·intro s x L T K O d zd _ _;obtain⟨p,e⟩:=L;erw[eE d λc P=>?_,haveI G:=P.1;?_,haveI C:=P.2;?_,haveI A:=P.3;?_,haveI z:=P.4;?_,Ak x (Ud O) λhs=>?_];obtain⟨ol,Z⟩:=RQ s (je 0x21c0321c1101e0b10 rfl hs hw);replace A:T p=some (.list (c.map .ref)):=A;erw[hB _ _ _ ?_,[XV]];simp only[WK,yW];erw[[],ve A (Gg (λt:List Nat=>t.map .ref) (λj t H'=>A5 (T.le H') (RL H H' t (((Fm s).take j).flatMap λrow=>YA s row (row.length+1))) (t.length<=3*j) (RL H H' c (Fm s)) (j<=c.length)) [] rfl ⟨akr _,RL.nil,Qa _,z,Ta _⟩ (λj t H' y=>⟨y.1 _ _ A,Re (ja (Ba y.3 (Nat.mul_le_mul_left 3 (Ba y.5 (Ba (Ob z.1) ol)))) akq)⟩) ?_ ?_)]
  ·intro j x t H3 K2 O d hK;haveI F:=d.1;haveI k:=d.2;haveI tl:=d.3;haveI v:=d.4;rw[za,Ha]at O;erw[Ef x O λr hr=>?_,have hj:=yd hr;?_,eE (⟨_,wa ((z.1)▸hj)⟩:∃row,(Fm s)[j]?=some row) λrow lE=>?_,have u:=Z row (Dd lE);?_,have er:=(v.2 j r row hr lE).1;?_,[],De er (Re (ee 0x3e83ce0b321c010 rfl u)) ?_];simp only[aa];erw[zg (b:=1) (Rf (n:=row.length+1) (ja (m:=1000) (ee 0x3e83ce0b321c010 rfl u) akq) (Ze (ee 0x186a05cee0bb321c010 rfl u) ?_)),Gg (λe:List Nat=>e.map .ref) (λa e H'=>A5 (H3.le H') (RL H H' (t++e) (((Fm s).take j).flatMap (λrow=>YA s row (row.length+1))++YA s row a)) (e.length=a) (RL H H' c (Fm s)) (a<=row.length+1)) [] rfl ⟨akr _,by refine Er (ib ..) ?_;exact(ib _).symm▸k,rfl,v,Ta _⟩ (λa e H' y=>⟨trivial,Re (ja (Ba (Ob y.3) (Ba y.5 (Wa u))) akq)⟩) ?_ ?_]
   ·intro a x e J K3 AZ d S2;haveI E:=d.1;haveI l:=d.2;haveI i:=d.3;haveI F0:=d.4;erw[Ak x (Ud AZ) λU=>?_,haveI I:=E _ _ er;?_,[],D0 I (ee 0x3e83ce0b321c010 rfl u) λY cM=>?_];haveI k1:=(akr J).new (o:=.list ((row.take a).map iv)) cM;haveI f1:(J.set Y (.list ((row.take a).map iv))) Y=some (.list ((row.take a).map iv)):=MH.sd;generalize J.set Y (.list ((row.take a).map iv))=H5 at k1 f1⊢;refine⟨Vd rfl,λM L=>?_⟩;haveI k2:=k1.new (o:=.list ([s].map iv)) L;haveI f2:=ge (o:=.list ([s].map iv)) f1 L;haveI g2:(H5.set M (.list ([s].map iv))) M=some (.list ([s].map iv)):=MH.sd;show eg _ _ _ (H5.set M (.list ([s].map iv))) _;generalize H5.set M (.list ([s].map iv))=H6 at k2 f2 g2⊢;erw[XK f2 g2 (by simp only[aa,zb];exact Ip (by show min a row.length+1<1000;exact je 0x3e83cee0bb321c1101010 rfl (Nc _ _) u)) λW zs=>(Es Aa ?_)];haveI k3:=k2.new (o:=.list ((row.take a++[s]).map iv)) zs;haveI f3:(H6.set W (.list ((row.take a++[s]).map iv))) W=some (.list ((row.take a++[s]).map iv)):=MH.sd;generalize H6.set W (.list ((row.take a++[s]).map iv))=H7 at k3 f3⊢;erw[[],E0 (k3 _ _ I) (ee 0x3e83ce0b321c010 rfl u) (je 0x103e1be0b10 rfl U) λV dw=>?_];haveI k4:=k3.new (o:=.list ((row.drop a).map iv)) dw;haveI f4:=ge (o:=.list ((row.drop a).map iv)) f3 dw;haveI g4:(H7.set V (.list ((row.drop a).map iv))) V=some (.list ((row.drop a).map iv)):=MH.sd;generalize H7.set V (.list ((row.drop a).map iv))=H8 at k4 f4 g4⊢;erw[XK f4 g4 (by simp only[aa,ua,zb,List.length_drop];exact Ip (by show min a row.length+1+(row.length-a)<1000;exact oi 0x3e83ce2e0bbb321c310312b111010 rfl (qc _ _) (ta (je 0x103e1be0b10 rfl U)) u)) λq5 M'=>(Es Aa ?_),haveI k5:=k4.new (o:=.list ((row.take a++[s]++row.drop a).map iv)) M';?_,haveI h05:H q5=none:=(((G.trans F).trans E).trans k4).fresh M';?_,S2 _ (e++[q5]) _ (Er Aa rfl) ⟨E.trans k5,?_,by exact Er ua (Er i rfl),F0.mono k5,U⟩,Er mF (Es (Db ..) (Es (Db ..) ?_)),(l.mono k5).snoc MH.sd h05]
   ·intro e J S;haveI E:=S.1;haveI l:=S.2;haveI i:=S.3;haveI F0:=S.4;simp only[aa,Ca]at l i;erw[hK _ (t++e) J (by refine Er Aa ?_;rfl) ⟨F.trans E,?_,by refine Er ua ?_;refine Er i ?_;exact se 0xe1b31de2b0b321c210131d010 rfl tl u,F0,hj⟩];simp only[Xd lE,Jb,nb,Jc,ib];exact l
  ·intro t H3 R;haveI F:=R.1;haveI k:=R.2;haveI tl:=R.3;haveI v:=R.4;rw[aa,z.1,Sa]at k;intro q hq;erw[zd (q,iv s) _ ⟨t,(G.trans F).new hq,(G.trans F).fresh hq,MH.sd,k.mono ((akr H3).new hq),hs⟩]
 ·intro fg T ji;erw[eE ji λc N=>?_];haveI G:=N.1;haveI C:=N.2;haveI A:=N.3;haveI z:=N.4;rw[aa,Ca]at z;erw[cg _ _ (h fg.1 c T G C A z)]
def JC (tab T k:Nat):Prop:=∀o∈Fm k,∀t,t<2^k->Wl tab k o t 0 k≠T/\2^2^k-1-Wl tab k o t 0 k≠T
theorem TQ:∀k,k<=2->∀o∈Fm k,o.length=k/\∀z∈o,z<8:=by decide
theorem I0 (m:2<=n)(c:Sf H (.obj 2 d) i)(a:1<=k/\k<=2)(Y:JC (Kf i) T k)(h:∀H',H.le H'->Q (.bool false) H'):Fd X n 83 [.obj 2 d,iv T,iv k] H Q:=by
 erw[eE (Of m) λn Jq=>?_];subst Jq;haveI u:k<=3:=ee 0x31c0321c010 rfl a.2;haveI p8:=Wf u;erw[Ad rfl rfl ?_,[p83,bW],Qd λB R2 U W=>(SQ (dn m) a.2 λp rs H1 D Ds F w=>?_),[],ve F (be (λt:MV×MV×MV=>[.obj 2 d,iv T,iv k,t.1,t.2.1,t.2.2]) (λj zz H'=>H'=H1) (.td,.td,.td) rfl (λzz zz zz y=>by exact Er y F) ?_ ?_)]
 ·intro j x G I K f Bk J _ _;subst Bk;rw[za,Ha]at f;erw[Ef x f λr E=>?_];obtain⟨o,l⟩:∃o,(Fm k)[j]?=some o:=⟨_,wa ((w.1)▸yd E)⟩;haveI V:=(w.2 j r o E l).1;obtain⟨N,P⟩:=TQ k a.2 o (Dd l);erw[U _ _ _ ?_,[aW],Qd λB3 R3 Dy O=>?_,[],Sj (ee 0x186a05c0321c010 rfl a.2) (Rf (n:=2^k) (ja p8 akq) (Ze (ja p8 akq) ?_)),be (λt:MV×MV=>[.obj 2 d,iv T,iv k,.ref r,t.1,t.2]) (λs zz H'=>H'=I) (G.2.1,G.2.2) rfl (λzz zz zz zz=>trivial) ?_ ?_]
  ·intro s x Kk q K3 f Ay M _ _;subst Ay;erw[Ak x (Ud f) λS=>?_];obtain⟨A,z⟩:=Y o (Dd l) s S;haveI C:Wl (Kf i) k o s 0 k<2^2^k:=HC;erw[Dy _ _ _ ?_,[ZV],(c.mono D).tab (IC (o:=o) (dn m) (.inr ⟨r,rfl,V⟩) N u P u ?_)];generalize Wl (Kf i) k o s 0 k=md at A z C⊢;erw[qe λR4 Z=>YM ?_,[],⟨λe=>qd (zk e) A,λzz=>Sj (ee 0x186a05c0321c010 rfl a.2) (Sj (ee 0x186a05c0381c010 rfl p8) (zv (b:=1) (Ub _) (zv (Nat.le_sub_one_of_lt C) (uE ⟨λe=>qd (ub e) z,λzz=>Z _ _ (M (iv s,iv md) q rfl)⟩))))⟩]
  ·intro v q L;subst L;erw[O _ _ (J (.ref r,v.1,v.2) q rfl)]
 ·intro Vm I R;erw[Er R (W _ _ (h _ D))]
def Xv (tab T k:Nat):Bool:=(Fm k).all λo=>(range (2^k)).all λt=>!(Wl tab k o t 0 k==T)&&!(2^2^k-1-Wl tab k o t 0 k==T)
theorem IM (h:Xv tab T k=true):JC tab T k:=λo b t a=>by
 haveI:=Ja (Ja h o b) t (Xa a);simp only[Da,Ra]at this;exact⟨ne_of_beq_false this.1,ne_of_beq_false this.2⟩
theorem no1:(range 4).all (λT=>(Ie T 1).isSome||(Zk 1).all λi=>Xv (Kf i) T 1)=true:=by decide+kernel
theorem no2:(range 16).all (λT=>(Ie T 2).isSome||(Zk 2).all λi=>Xv (Kf i) T 2)=true:=by decide+kernel
theorem JM (h:(range m).all (λT=>(Ie T k).isSome||(Zk k).all λi=>Xv (Kf i) T k)=true)(b:T<m)(a:Ie T k=none)(hi:i∈Zk k):JC (Kf i) T k:=by haveI:=Ja h T (Xa b);rw[a,Rb]at this;erw[IM (Ja (this.resolve_left λh=>Na h) i hi)]
theorem z_ (a:1<=k/\k<=2)(c:T<2^2^k)(b:Ie T k=none)(hi:i∈Zk k):JC (Kf i) T k:=by
 haveI:k=1\/k=2:=(three ⟨a.1,Ba a.2 akq⟩).imp id λq=>q.resolve_right λe=>qd a.2 (by rw[e];decide);rcases this with rfl|rfl
 ·erw[JM no1 c b hi]
 ·erw[JM no2 c b hi]
section
variable {ns:List Int}
theorem rf.ky (b:rf H pl vs)(o:Off [h] H H')(e:H h=some (.list l))(k:pl≠h):rf H' pl vs:=
 ⟨o _ _ (λm=>k (ia m)) b.1,b.2,λi v n=>by obtain⟨d,f,j,a,c⟩:=b.3 i v n;exact⟨d,f,j,o _ _ (λm=>(og a e λ_=>MO.noConfusion) (ia m)) a,c⟩⟩
theorem nF:inv (.bool true) (replicate m (.bool false))=some false:=by
 haveI c:(replicate m (MV.bool false)).all isBool=true:=all_eq_true.mpr λx a=>by exact Er ((mem_replicate.mp a).2) rfl
 haveI b:((replicate m (MV.bool false)).any λy=>MV.beq y (.bool true))=false:=List.any_eq_false.mpr λx a=>by exact Er ((mem_replicate.mp a).2) Na
 unfold inv;erw[Er c (Er b (Er (show isBool (.bool true)=true from rfl) (Er (Bool.true_and ..) (Er (Bool.or_true ..) (Er (Ec rfl) rfl)))))]
theorem ZA {w:Nat}{ks o:List Nat}(m:1<=w/\w<=3)(f:∀x,x∈ks↔x∈o)(k:ks.Pairwise (·<=·))(l:ks.length=w)(i:∀j,j<w->j∈o):ks=range w:=by
 have h0:=(f 0).mpr (i 0 (ee 0xefb30e10 rfl m.1));rcases three m with rfl|rfl|rfl
 ·obtain⟨a,rfl⟩:=len_one l;erw[Es (ia h0) rfl]
 ·obtain⟨a,b,rfl⟩:=iN l;have d:=(f 1).mpr (i 1 akq);have s1:=(List.pairwise_cons.mp k).1 b (.head _);simp only[List.mem_cons,Ea,or_false]at h0 d;rcases h0 with rfl|rfl<;>rcases d with h|h<;>first|(exact Xi Nat.ctorIdx h rfl;done)|(subst h;first|rfl|exact qd s1 akq)
 ·obtain⟨a,b,c,rfl⟩:=NC l;have d:=(f 1).mpr (i 1 akq);have n:=(f 2).mpr (i 2 akq);have s1:=(List.pairwise_cons.mp k).1;have s2:=(List.pairwise_cons.mp (List.pairwise_cons.mp k).2).1 c (.head _);simp only[List.mem_cons,Ea,or_false]at h0 d n;obtain rfl:a=0:=Nat.le_zero.mp (h0.elim (λe=>Ob e.symm) λe=>e.elim (λe=>e▸s1 b (.head _)) λe=>e▸s1 c (.tail _ (.head _)));rcases n with h|h|h
  ·erw[Xi Nat.ctorIdx h rfl]
  ·subst h;rcases d with h|h|h<;>first|(first|exact Xi Nat.ctorIdx h rfl|exact Xi Nat.ctorIdx (Nat.succ.inj h) rfl;done)|(subst h;exact qd s2 akq)
  ·subst h;rcases d with h|h|h<;>first|(first|exact Xi Nat.ctorIdx h rfl|exact Xi Nat.ctorIdx (Nat.succ.inj h) rfl;done)|(exact Es h rfl)
theorem aB (f:Dt.on H d (.ref a))(e:Dt.on H d (.ref b))(c:d.dep<50)(h:Q (.bool false) H):xg .NotEq (.ref a) (.ref b) H Q:=.inl ⟨⟨d,f,e,c⟩,h⟩
theorem oF {x0 x1 x3 x4 x5 x6 x8 x9 Ml Gy gy Nl gq Ol iq Dp Ep jw Fp Hp:MV}(c:7<=n)(hd:Hd H h p ns)(l:rf H pl vs)(hp:pl≠h)(O:∀H',Q (.bool true) H'):Kd (Ce X n) sv [x0,x1,.ref h,x3,x4,x5,x6,.ref pl,x8,x9,Ml,Gy,gy,Nl,gq,Ol,iq,Dp,Ep,jw,Fp,Hp] H λfl _ H'=>Q (Af fl) H':=by
 have go:∀{H H'},Hd H h p ns->rf H pl vs->Off [h] H H'->rf H' pl vs:=λhd l o=>by
  erw[we hd.2 λ_ _ _ y=>(l.ky o y.1 hp)]
 erw[[sv],oh (lim:=2) (by first|exact dn c|exact dm c|omega) hd akq akq λF H1 o1 SX h1=>zg (a:=1) ?_,have l1:=go hd l o1;?_,[],oh (lim:=4) (by first|exact dn c|exact dm c|omega) SX akq akq λP H2 o2 v h2=>Cp (b:=3) akq akq (zg ?_)];haveI l2:=go SX l1 o2;have hw:1<=1+F+P/3/\1+F+P/3<=3:=⟨Ba (jb 1 F) (jb _ _),Nat.add_le_add (Gc (Cb h1) 1) (Cb (Nat.div_lt_of_lt_mul (n:=3) (k:=2) (Ma h2 akq)))⟩;generalize 1+F+P/3=w at hw⊢;haveI U:=Wf hw.2;haveI S:2^2^w<2^30:=ja (Ab akq U) akq;erw[[DK],Sj (ee 0x186a05c0331c010 rfl hw.2) (Sj (ee 0x186a05c0381c010 rfl U) (oh (by first|exact dn c|exact dm c|omega) v (Ub _) S λT H3 o3 cN N=>?_)),have W:=go v l2 o3;?_,AE (by first|exact dn c|exact dm c|omega) hw.2 W λI k4=>?_,haveI s:=W.mono k4;?_,qe λR E=>?_];cases hm:Ie T w with
 |none=>
  erw[[Lf],ZK MV.noConfusion ⟨λ_=>?_,λe=>(nomatch e)⟩,[AK],⟨λe=>?_,λe=>?_⟩]
  ·refine Er e ?_;exact O _
  haveI e:=Am (b:=3) e;simp only[Sh,oM];erw[[],ve s.1 (Gg (λm=>replicate m (.bool false)) (λj m H'=>A3 (m<=j) (I.le H') (j<=13)) 0 rfl ⟨Qa _,akr _,Ta _⟩ (λj m H' y=>⟨y.2 _ _ s.1,by exact Er Bb (Ip (ja (Ba y.1 y.3) akq))⟩) ?_ ?_)]
  ·intro j x m r K Y Se Z;haveI u:=Se.1;haveI f:=Se.2;have D:j<13:=(s.2)▸yd Y;erw[hide λZz B=>(Xf ((s.mono f).get D) λdc e1 _ A=>(B ?_))];clear B;obtain rfl:x=.obj 2 dc:=oa (Y.symm.trans e1);erw[[],A.ins (uE ⟨λG=>⟨λ_=>?_,λe=>(nomatch e)⟩,λG=>⟨λe=>(nomatch e),λ_=>Z [] m r (ib _).symm ⟨Qc u,f,D⟩⟩⟩),I0 (by first|exact dn c|exact dm c|omega) A ⟨hw.1,Cb (vc hw.2 e)⟩ (z_ ⟨hw.1,Cb (vc hw.2 e)⟩ N hm (mem_filter.mpr ⟨Xa D,G⟩)) λH6 C=>Z _ (m+1) H6 List.replicate_succ' ⟨Wa u,f.trans C,D⟩]
  ·intro m r Zd;haveI f:=Zd.2;intro q hq;erw[kW MH.sd nF (O _)]
 |some mt=>
  haveI mo:=LA hw N hm;obtain⟨i,o,mk,x⟩:=mt;erw[hide λZz B=>(Xf (s.get mo.2) λdc e1 G A=>(B ?_))];clear B;haveI M:Yp i=w:=mo.1;haveI d:o.length=w:=mo.3;erw[[Lf,pL],Er G (ZK MV.noConfusion ⟨λe=>(nomatch e),λ_=>E _ _ ?_⟩)];clear E R;erw[[CK],⟨rfl,?_⟩,qe λR E=>YM ?_,[],A.ins (GP ?_)];refine Er M ?_;rw[Pa];erw[⟨λe=>(nomatch e),λ_=>?_⟩,sf (a:=o.map λ(i:Nat)=>(i:Int)) aq ⟨by refine Er (aa ..) ?_;refine Er d ?_;exact ja hw.2 akq,λms mW O1 L cM=>?_⟩];obtain⟨ks,z⟩:=Tt mW O1;haveI ek:=ZA hw z.2 z.3 (z.4.trans d) mo.7;erw[Er z.1 (Er ek ?_)];have e5:(I.set L (.list ((range w).map iv))) L=some (.list ((range w).map iv)):=MH.sd;haveI f:=(akr I).new (o:=.list ((range w).map iv)) cM;generalize I.set L (.list ((range w).map iv))=r at e5 f⊢;erw[[],Rf (n:=w) (ja (m:=1000) (ee 0x3e83c0331c010 rfl hw.2) akq) ?_,have hit:items? (.Il 0 (w:Int) 1) r=some ((range w).map λ(i:Nat)=>.int i):=aL (Ip (ee 0x3e83ce0b331c010 rfl hw.2));?_,gC hit (Er (aa ..) (Er (Ca ..) (Ip (by exact ee 0x3e83ce0b331c010 rfl hw.2)))) λJ V=>?_];have e6:=ge (o:=.list ((range w).map iv)) e5 V;haveI e7:(r.set J (.list ((range w).map iv))) J=some (.list ((range w).map iv)):=MH.sd;haveI C:=f.new (o:=.list ((range w).map iv)) V;generalize r.set J (.list ((range w).map iv))=H6 at e6 e7 C⊢;erw[aB (Xn e6) (Xn e7) (ja (To _) akq) ⟨λe=>(nomatch e),λ_=>E _ _ ?_⟩,[BK],(A.mono C).tab (IC (o:=o) (m:=mk) (x:=x) (k:=w) (by first|exact dn c|exact dm c|omega) (.inl rfl) d hw.2 (λz hz=>Ma (mo.6 z hz) (Ba hw.2 akq)) hw.2 ?_)];haveI t:=QQ mo N;dsimp only at t;erw[Er t (uE ?_)];rw[Pa];erw[O _]
end
def FW (ks:List (Nat×Nat)):Dt:=.list (ks.map λk=>.flat (.tup [.str k.1,iv k.2]))
theorem pF (ks:List (Nat×Nat)):(FW ks).dep<=4:=Wa (Vn (λ_=>Qa 3) ks)
theorem ry (a:H q=some (.list (ks.map λk=>.tup [.str k.1,iv k.2]))):Dt.on H (FW ks) (.ref q):=by
 refine⟨q,_,rfl,a,?_⟩;clear a
 induction ks with
 |nil=>exact trivial|cons x r b=>exact⟨⟨rfl,rfl⟩,b⟩
theorem nu (e:L.getD j .td=.obj 0 d)(a:Md H d N)(hi:N.ins.length<1000)(o:∀p∈N.ins,p.ns.length<1000)(h:∀q,H q=none->Q (.ref q) (H.set q (.list ((N.ins.map Cg).map λk=>.tup [.str k.1,iv k.2])))):Yd P (.comp [none,none,none] (.many [1,2]) (.attr (.loc j) 36) .nil (.tup (.cons (.loc 1) (.cons (.blt 0 (.cons (.loc 2) .nil)) .nil)))) L H Q:=by
 erw[Er Sh (Er ac0 (Er X8 (Er uv (Er e ?_)))),[],a.aI (ve a.2 ?_),Gg (λk=>((N.ins.take k).map Cg).map λk=>MV.tup [.str k.1,iv k.2]) (λk i m=>A3 (i=k) (m=H) (k<=N.ins.length)) 0 (Er (Fb ..) rfl) ⟨rfl,rfl,Ta _⟩ (λk i m y=>⟨by refine Er y.2 ?_;exact a.2,by exact Er (aa ..) (Er (aa ..) (Er (zb ..) (Ip (ja (Nc _ _) hi))))⟩) ?_ ?_]
 ·intro k x i l K n f r;obtain rfl:=f.1;obtain rfl:=f.2;erw[yp x (Lv n) λc b=>⟨rfl,?_⟩,[],⟨λ_=>De (a.5 c (.inl (Dd b))).1 (Re (o c (Dd b))) ⟨Vd rfl,?_⟩,λe=>(nomatch e)⟩,Er (aa ..) (r _ (i+1) l (Er (Xd b) (Er (Aa ..) (Er (Aa ..) rfl))) ⟨rfl,rfl,yd b⟩)]
 ·intro i l s;obtain⟨e,rfl,-⟩:=s;rw[aa]at e;subst e;erw[Er Sa h]
theorem KM (hi:i<13)(a:j<13):MV.beq (.tup [.str (cT j).1,iv (Kf j)]) (nh i)=(j==i):=by
 by_cases e:j=i
 ·erw[Es e ?_];rw[Pa];exact MV.beq_refl _
 ·erw[Er (show(j==i)=false from Yc e) ?_];cases h:MV.beq (.tup [.str (cT j).1,iv (Kf j)]) (nh i)with
  |false=>rfl|true=>
   haveI h:=MV.tup.inj (MV.beq_eq _ _ h)
   injection h with h _
   haveI h:=MV.str.inj h;rw[gu j a,gu i hi]at h;erw[qd (Nat.add_left_cancel h) e]
theorem UQ:eqv (.tup [.str a,iv b]) (.tup [.str c,iv e])=some (MV.beq (.tup [.str a,iv b]) (.tup [.str c,iv e])):=rfl
theorem LM {P:Pg}{L:List MV}{i:Nat}{ins:List Nat}(u:L.getD 7 .td=.ref pl)(c:L.getD 13 .td=.tup (ins.map iv))(b:L.getD 14 .td=nh i)(hi:i<13)(n:ins.length=Yp i)(l:rf H pl vs)(h:∀q,H q=none->Q (.ref q) (H.set q (.list [vs.getD i .td]))):Yd P (.comp [none,none,some 13,some 14] (.one 1) (.loc 7) (.cons (.and (.cmp .Eq (.tup (.cons (.attr (.loc 1) 34) (.cons (.attr (.loc 1) 40) .nil))) (.loc 3)) (.cmp .Eq (.attr (.loc 1) 36) (.blt 0 (.cons (.loc 2) .nil)))) .nil) (.loc 1)) L H Q:=by
 haveI B:ins.length<1000:=by
  haveI:∀i,i<13->Yp i<1000:=by decide
  erw[Er n (this i hi)]
 erw[Er Sh (Er oM (Er uv (Er u (Er c (Er b ?_))))),[],ve l.1 (Gg (λk=>if i<k then[vs.getD i .td]else[]) (λk j s=>A3 (j=k) (s=H) (k<=13)) 0 rfl ⟨rfl,rfl,Ta _⟩ (λk j s y=>⟨by refine Er y.2 ?_;exact l.1,by split<;>exact Vd rfl⟩) ?_ ?_)]
 ·intro k x j f K m p o;obtain rfl:=p.1;obtain rfl:=p.2;have a:j<13:=Es l.2 (yd m);erw[Xf (l.get a) λA w v d=>?_];obtain rfl:x=.obj 2 A:=oa (m.symm.trans w);erw[[nh],d.name (d.tab ⟨Vd rfl,cEq (r:=(j==i)) (UQ.trans (Fc some (KM hi a))) ?_⟩)];by_cases e:j=i
  ·subst e;rw[Pa];erw[⟨λ_=>d.ins ?_,λe=>(nomatch e)⟩,⟨Re B,?_⟩,Er (aa ..) (uE ?_)];refine Er n ?_;rw[Pa];exact⟨λ_=>⟨λ_=>o _ (j+1) f (Er (Ec (Oc j)) (Er (Dc (Ic j)) (Er v rfl))) ⟨rfl,rfl,a⟩,λe=>(nomatch e)⟩,λe=>(nomatch e)⟩
  ·erw[Er (show(j==i)=false from Yc e) ⟨λe=>(nomatch e),λ_=>⟨λe=>(nomatch e),λ_=>⟨λe=>(nomatch e),λ_=>o [] (j+1) f ?_ ⟨rfl,rfl,a⟩⟩⟩⟩];by_cases h:i<j
   ·erw[Er (Ec h) (Er (Ec (Nat.lt_succ_of_lt h)) rfl)]
   ·erw[Er (Dc h) (Er (Dc λq=>h (vc (Cb q) λz=>e z.symm)) rfl)]
 ·intro j f t;obtain⟨e,rfl,-⟩:=t;rw[l.2]at e;subst e;erw[Er (Ec hi) h]
theorem bB {F E D C x4 A z w Gy V Nl W J S O N G M L:MV}(hn:3<=n)(l:rf H pl vs)(r:Md H d R)(T:∀c∈R.cells,rM c/\c.par≠.td)(k:∀H' v M2 O2 P2 Z1,H.le H'->Kd (Ce X n) sv [F,E,D,C,x4,A,z,.ref pl,w,.obj 0 d,iv (qM R.cells),v,M2,O2,P2,J,Z1,O,N,G,M,L] H' λfl _ H'=>Q (Af fl) H'):Kd (Ce X n) gA [F,E,D,C,x4,A,z,.ref pl,w,.obj 0 d,.td,Gy,V,Nl,W,J,S,O,N,G,M,L] H λfl _ H'=>Q (Af fl) H':=by
 erw[[gA,GK],Qd λB R2 hB hR=>?_,[],r.aC (ve r.4 ?_),be (λt:Nat×MV×MV×MV×MV×MV=>[F,E,D,C,x4,A,z,.ref pl,w,.obj 0 d,iv t.1,t.2.1,t.2.2.1,t.2.2.2.1,t.2.2.2.2.1,J,t.2.2.2.2.2,O,N,G,M,L]) (λk t H'=>A2 (H.le H') (t.1=qM (R.cells.take k))) (0,Gy,V,Nl,W,S) ⟨akr _,by exact Er Fb rfl⟩ (λ_ _ _ y=>y.1 _ _ r.4) ?_ ?_]
 ·intro j x u H2 K hx Bk P _ _;haveI a:=Bk.1;haveI e:=Bk.2;erw[yp x (Hs hx) λc U=>?_];obtain⟨f,Ro⟩:=T c (Dd U);have Y:=jy U;replace e:u.1=qM (R.cells.take j):=e;erw[⟨rfl,hB _ _ _ ?_⟩,[eW,Yg],qe λR4 Qh=>?_,[]];rcases f with⟨i,m⟩|f
  ·obtain⟨ck,co,Z,cp⟩:=c;haveI e1:ck=1:=m.2;haveI e2:cp=nh i:=m.3;subst e1 e2;erw[hide λZz Od=>(Xf ((l.mono a).get m.1) λdc e3 e4 cc=>(Od ?_))];clear Od;refine⟨λ_=>?_,λe=>(nomatch e)⟩;show Kd _ zK _ _ _;unfold zK;erw[Er FP (LM (i:=i) (ins:=Z) rfl rfl rfl m.1 m.4 (l.mono a) λq I=>(Er e4 ?_)),haveI s:=(akr H2).new (o:=.list [.obj 2 dc]) I;?_,[dW],qe λR5 p=>?_,[],De MH.sd (Vd rfl) (GP (b:=1) ⟨λe=>(nomatch e),λ_=>p _ _ ?_⟩),[cW],Ve (k:=0) MH.sd rfl (Vd rfl) ((cc.mono s).oL (zg (Qh _ _ (P (u.1+bk i,.str 1,iv co,.tup (Z.map iv),nh i,.ref q) _ ⟨a.trans s,?_⟩)))),Er Y (Er (AC m.1 rfl rfl) (Er e rfl))]
  ·erw[Er (show(c.k==1)=false from jq f) ⟨λe=>(nomatch e),λ_=>?_⟩,qe λR5 p=>⟨Vd rfl,λq I=>FM MH.sd ?_⟩,Er f ⟨λe=>(nomatch e),λ_=>p _ _ (Qh _ _ (P (u.1,.str c.k,iv c.out,.tup (c.ins.map iv),c.par,u.2.2.2.2.2) _ ⟨a.new I,?_⟩))⟩];simp only[Y,e];unfold G2;rw[Dc (λh=>by haveI:=jq f;have this:=h▸this;exact tf this)];rfl
 ·intro Kk H2 Ay;obtain⟨t,t1,t2,t3,t4,t5⟩:=Kk;haveI a:=Ay.1;haveI e:=Ay.2;rw[aa,Sa]at e;replace e:t=qM R.cells:=e;erw[Er e (hR _ _ ?_),[EK],qe λR5 p=>?_,[],EQ (dm hn) (l.mono a) (r.mono a) T λH3 s=>(GP ?_)];rw[Pa];exact⟨λe=>(nomatch e),λ_=>p _ _ (k H3 _ _ _ _ _ (a.trans s))⟩
end
section
theorem Dq.Un {H H':MH}(o:H.le H'):∀(d:Dq)(v:MV),Dq.on H d v->Dq.on H' d v
 |.one d,v,h=>Dt.Un o d v h|.dict _ ds,_,⟨p,vs,e,a,b,c,h⟩=>⟨p,vs,e,o _ _ a,b,c,Dt.Hg o ds vs h⟩
theorem Dq.Hg {H H':MH}(o:H.le H'):∀(a:List Dq)(vs:List MV),Dq.Zn H a vs->Dq.Zn H' a vs
 |[],[],_=>trivial|d::r,v::t,⟨c,b⟩=>⟨Dq.Un o d v c,Dq.Hg o r t b⟩|[],_::_,h=>h.elim|_::_,[],h=>h.elim
theorem cB {f g:Nat->Nat}:∀{xs a:List Pt}{d c:List Nat},xs.map Cg=a.map Cg->(xs.flatMap (·.ns)).map f++d=(a.flatMap (·.ns)).map g++c->(xs.map λp=>(p.nm,p.ns.map f))=(a.map λp=>(p.nm,p.ns.map g))/\d=c:=by
 intro l
 induction l with
 |nil=>
  intro i q r j h;cases i with
  |nil=>
   exact⟨rfl,h⟩
  |cons _ _=>
   erw[Xi List.ctorIdx j rfl]
 |cons x xs m=>
  intro i d c k h;cases i with
  |nil=>
   erw[Xi List.ctorIdx k rfl]
  |cons y a=>
   rw[yb,yb]at k
   injection k with b h2
   haveI b:=Prod.mk.inj b;rw[nb,nb,Aa,Aa,Db,Db]at h;have e:=List.append_inj h (Er (aa ..) (Er (aa ..) b.2));erw[eA (m h2 e.2) λo n=>(Er (yb ..) (Er (yb ..) (Er o (Er e.1 (Er b.1 ?_))))),⟨rfl,n⟩]
theorem qF {f g:Nat->Nat}:∀{xs b:List Cl},xs.map iy=b.map iy->(xs.flatMap (·.ins)).map f=(b.flatMap (·.ins)).map g->(xs.map λc=>(c.k,c.par,c.ins.map f))=(b.map λc=>(c.k,c.par,c.ins.map g)):=by
 intro l
 induction l with
 |nil=>
  intro i a n;cases i with
  |nil=>
   erw[rfl]
  |cons _ _=>
   erw[Xi List.ctorIdx a rfl]
 |cons x xs m=>
  intro i a h;cases i with
  |nil=>
   erw[Xi List.ctorIdx a rfl]
  |cons y b=>
   rw[yb,yb]at a
   injection a with d h2
   haveI d:=Prod.mk.inj d;haveI j:=Prod.mk.inj d.2;rw[nb,nb,Aa,Aa]at h;haveI e:=List.append_inj h (Er (aa ..) (Er (aa ..) j.2));erw[Er (yb ..) (Er (yb ..) (Er (m h2 e.2) (Er e.1 (Er d.1 (Er j.1 rfl)))))]
theorem A_ {R V W:Nat}{g g':Nat->Bool}(a:Wd R V g)(b:Wd R W g')(h:∀r,r<R->g r=g' r):V=W:=Nat.eq_of_testBit_eq λi=>by
 by_cases c:i<R
 ·erw[Er (a.2 i c) (Er (b.2 i c) (Er (h i c) rfl))]
 ·haveI:=Ab (n:=2) akq (Nat.not_lt.mp c);erw[Er (Nat.testBit_lt_two_pow (Ma a.1 this)) (Er (Nat.testBit_lt_two_pow (Ma b.1 this)) rfl)]
theorem dB {f e:List (MV×MV)}{A z:Nat->Nat->Bool}(k:Wk N a b w gs xe)(m:eu N R g Jp)(v:Wk R a b w g Jp)(q:Wq N gs (a+b+w) (2^(a+b+w)) f A)(o:Wq R g (a+b+w) (2^(a+b+w)) e z):Wv (R.outs.map λp=>(p.nm,p.ns.map (io e))) (Jp.map λc=>(c.k,c.par,c.ins.map (io e)))=Wv (N.outs.map λp=>(p.nm,p.ns.map (io f))) (xe.map λc=>(c.k,c.par,c.ins.map (io f))):=by
 have val:∀r,r<2^(a+b+w)->(R.outs.flatMap (·.ns)++Jp.flatMap (·.ins)).map (λx=>z x r)=(Qg N).map λx=>A x r:=λr j=>by
  haveI n:=o.2 r j;rw[v.4]at n;have n:=n;erw[m.12 _ _ (q.2 r j) n.pre λi s h=>?_];rw[k.Ke]at h;haveI d:=yd h;rw[La]at d;rw[Sc d,Qb]at h;erw[Es (oa h) (Er (o.3 i d r) (Er (q.3 i d r) rfl))]
 haveI hlen:(R.outs.flatMap (·.ns)++Jp.flatMap (·.ins)).length=(Qg N).length:=by
  haveI:=Fc List.length (val 0 (Ub _));rwa[aa,aa]at this
 haveI words:(R.outs.flatMap (·.ns)++Jp.flatMap (·.ins)).map (io e)=(Qg N).map (io f):=by
  erw[List.ext_getElem? λi=>?_];refine Er za ?_;refine Er za ?_;by_cases d:i<(Qg N).length
  ·erw[eE (⟨_,wa (Er hlen d)⟩:∃x,(R.outs.flatMap (·.ns)++Jp.flatMap (·.ins))[i]?=some x) λx u=>?_];obtain⟨y,t⟩:∃y,(Qg N)[i]?=some y:=⟨_,wa d⟩;erw[Er u (Er t ?_)];haveI B:=Dd t;rw[k.Qg]at B;erw[Fc some (A_ (o.io (v.15 x (Dd u))).2 (q.io (k.15 y B)).2 λr j=>?_)];haveI:=Fc (λl=>l[i]?) (val r j);rw[za,za,u,t]at this;erw[oa this]
  ·rw[Tc (Er hlen (Nat.not_lt.mp d)),Tc (Nat.not_lt.mp d)];rfl
 rw[k.Qg,Aa,Aa]at words;erw[eA (cB m.4 words) λE D=>?_,haveI C:Jp.map iy=xe.map iy:=Er m.5 (Er k.stC rfl);?_,Er E (Er (qF C D) rfl)]
end
section
variable {H H' H0 : MH} {Q : MV → MH → Prop} {K : MF → List MV → MH → Prop} {g : Nat → Nat → Bool}
theorem NM (h:xp v\/v=.none):Zj aj v=true:=by rcases h with⟨e,i,rfl|rfl⟩|rfl<;>rfl
theorem KC (h:xp c.par\/c.par=.none):xh (Yg c)=true:=by
 show(Zj aj (.str c.k)&&(Zj aj (iv c.out)&&(Zj aj (.tup (c.ins.map iv))&&(Zj aj c.par&&true))))=true;erw[Er (NM h) ?_];haveI:Zj aj (.tup (c.ins.map iv))=true:=by
  show(c.ins.map iv).all aj=true;erw[Er List.all_map (all_eq_true.mpr λzz zz=>rfl)]
 erw[Er this rfl]
def OM (cs:List Cl):Dt:=.list (cs.map λc=>.flat (Yg c))
theorem ou (a:H p=some (.list (cs.map Yg)))(h:∀c∈cs,xh (Yg c)=true):Dt.on H (OM cs) (.ref p):=by
 refine⟨p,_,rfl,a,?_⟩;clear a
 induction cs with
 |nil=>exact trivial|cons x r b=>exact⟨⟨h x (.head _),rfl⟩,b λc d=>h c (.tail _ d)⟩
theorem eB (cs:List Cl):(OM cs).dep<50:=ja (Wa (Vn (λzz=>Qa 3) cs)) akq
theorem sy (k:Wk N a b w gs xe):N.ins.length<900/\(∀p∈N.ins,p.ns.length<1000):=by haveI d:=Fc List.length k.7;rw[aa]at d;erw[⟨by refine Er d ?_;show 2<900;decide,λp f=>?_⟩,haveI c:=Fc List.length k.8;?_,kl (List.append_of_mem f) λi h e=>?_];simp only[e,Jb,nb,ua,La]at c;erw[jo 0x3e83ce1b321c41021c31043b21b0b11 rfl c k.1.2 k.2.2]
theorem VQ (l:ny N a b w gs xe):(Qg N).length<30:=by
 have k:=Uv l;erw[Er (k.Qg ..) (Er ua ?_)];have j:(N.outs.flatMap (·.ns)).length<=6:=by
  haveI ol:=l.7;haveI d:=l.8
  match ho:N.outs,ol with
  |[x,y],_=>
   haveI h:=(d x (Er ho (.head _))).1;haveI f:=(d y (Er ho (.tail _ (.head _)))).1;show(x.ns++(y.ns++[])).length<=6;erw[Er (ib ..) (Er (ua ..) (je 0x61c10b331c11031c010 rfl h f))]
 haveI i:(xe.flatMap (·.ins)).length<=4:=by
  have c:=l.5;have e:=l.3;have st:=k.18
  match hs:xe,c with
  |[],_=>exact Ta _|[x],_=>
   haveI:=st x (.head _);show(x.ins++[]).length<=4;erw[Er (ib ..) (Ob this)]
  |_::_::_,c=>exact qd c (by simp only[length_cons];exact Nat.ne_of_gt (je 0xee1bbe0b3e010 rfl e))
 erw[je 0x1e2ce10bb341c11061c010 rfl j i]
theorem J0 {ns:List Int}(s:11<=n)(hl:ns.length<=63)(hQ:∀H',Q (.bool true) H'):Fd X n 84 [.Qy ns] H Q:=by
 erw[eE (Of s) λn Zd=>?_];subst Zd;erw[Ad rfl rfl ?_,[p84,OK],⟨Ip (ee 0x3e83ce0b33f2c010 rfl hl),akq,λp hp=>?_⟩];have e1:(H.set p (.list ((ns.take 63).map .int))) p=some (.list ((ns.take 63).map .int)):=MH.sd;show Kd _ _ _ (H.set p (.list ((ns.take 63).map .int))) _;generalize H.set p (.list ((ns.take 63).map .int))=H1 at e1⊢;erw[[NK]];haveI ady:∃c:Nat,c<100003/\((ns.take 63).sum%100003:Int)=c:=⟨((ns.take 63).sum%100003).toNat,(Int.toNat_lt (Int.emod_nonneg _ akq)).mpr (Int.emod_lt_of_pos _ akq),(Int.toNat_of_nonneg (Int.emod_nonneg _ akq)).symm⟩;obtain⟨cs,hcs,ecs⟩:=ady;have hints:∀l:List Int,gf (l.map .int)=some l:=λl=>by
  induction l with
  |nil=>rfl|cons x r ih=>
   show(some x).bind (λi=>(gf (r.map .int)).map (i::·))=_;erw[Er ih rfl]
 erw[ue e1 (sf (hints _) ⟨akq,?_⟩),Er ecs (Av (b:=7) (ya hcs akq) akq ⟨Vd rfl,λh hh=>?_⟩)];have J:Hd (H1.set h (.list [.ref p,iv 0,iv 0,iv (cs*7),iv 0])) h p (ns.take 63):=⟨ge e1 hh,⟨0,0,cs*7,MH.sd,Ta _,ya (Nat.mul_lt_mul_of_pos_right hcs akq) akq⟩,by exact Er zb (qc _ _)⟩;generalize H1.set h (.list [.ref p,iv 0,iv 0,iv (cs*7),iv 0])=H2 at J⊢;erw[we J.2 λzz zz zz Z=>?_,[MK],⟨Vd rfl,λY B=>?_⟩];haveI CW:Y≠h:=(Gd Z.1 B).symm;haveI cN:=J.mono ((akr H2).new (o:=.list (Kh.map .str)) B);haveI e3:(H2.set Y (.list (Kh.map .str))) Y=some (.list (Kh.map .str)):=MH.sd;show Fd X n 75 _ (H2.set Y (.list (Kh.map .str))) _;generalize H2.set Y (.list (Kh.map .str))=H3 at cN e3⊢;erw[IQ (dn s) cN e3 CW λd N a b w gs xe H4 o4 S9 zz dN t sh pt=>?_];clear e3 cN Z J e1 B hh hp o4 CW;have k:=Uv t;have ok:=JQ t;have a2:=t.1;have b2:=t.2;have w1:=t.3;have g4:=t.4;have hNc:N.cells.length<=5:=Er k.4 (Er ua (Er t.5 (je 0x51c10b3e11041c010 rfl g4 w1)));have esr:(Ke N).length=a+b+w:=Er k.Ke (Er La rfl);have Ro:∀c∈N.cells,xh (Yg c)=true:=λc f=>by
  rw[k.4]at f;erw[Or.elim (Oa f) (λf=>?_) (λf=>(KC (.inl (k.10 c f))))]
  ·obtain⟨j,hj⟩:=Lb f;erw[KC (.inr (t.6.5 j c hj).4)]
 erw[[LK],dN.aC (gC (Uj dN.4) (Re (ee 0x3e83ce0b351c010 rfl hNc)) λG A=>?_)];have l5:=(akr H4).new (o:=.list (N.cells.map Yg)) A;have e5:(H4.set G (.list (N.cells.map Yg))) G=some (.list (N.cells.map Yg)):=MH.sd;haveI nph:G≠h:=by
  erw[we S9.2 λzz zz zz x=>((Gd x.1 A).symm)]
 haveI vW:=dN.mono l5;haveI E:=S9.mono l5;generalize H4.set G (.list (N.cells.map Yg))=H5 at e5 vW E⊢;erw[[KK],u0 (dn s) vW k λpp H6 A0 l6 EW PTp=>⟨rfl,?_⟩];haveI WZ:=vW.mono l6;have D:=E.mono l6;haveI e6:=l6 _ _ e5;haveI npp:pp≠h:=by
  erw[we D.2 λzz zz zz x=>(Le EW x.1)]
 erw[[JK],GZ (dn s) λpl vs H7 U PM=>?_];haveI S:=WZ.mono U;haveI Q2:=D.mono U;haveI e7:=U _ _ e6;haveI q7:=U _ _ EW;have U_:pl≠h:=λe=>by
  erw[we Q2.2 λzz zz zz x=>?_];rw[e]at PM;haveI:=PM.1;rw[x.1]at this;haveI:=Fc List.length (MO.list.inj (oa this));rw[PM.2]at this;exact(nomatch this)
 haveI go:∀{H H':MH},Hd H h p (ns.take 63)->Md H d N->rf H pl vs->H G=some (.list (N.cells.map Yg))->H pp=some (.dict A0)->Off [h] H H'->A4 (Md H' d N) (rf H' pl vs) (H' G=some (.list (N.cells.map Yg))) (H' pp=some (.dict A0)):=λJ nt l e q o=>by
  erw[hide λZz Od=>(we J.2 λzz zz zz x=>(Od ?_))];clear Od;exact⟨nt.ky x.1 o sh pt,l.ky o x.1 U_,o _ _ (λm=>nph (ia m)) e,o _ _ (λm=>npp (ia m)) q⟩
 clear e6 WZ D e5 vW E dN S9 EW l6 U l5 A;erw[[IK],oh (lim:=2) (dn s) Q2 akq akq λg1 H8 o8 C h8=>zg (a:=2) ?_,haveI O:=go Q2 S PM e7 q7 o8;?_,[HK],oh (lim:=3) (dn s) C akq akq λg2 H9 o9 hd9 h9=>Cp (b:=2) akq akq (zg (a:=2) ?_),have v:=go C O.1 O.2 O.3 O.4 o9;?_,have ol:=k.16;?_,And.elim (λD2 hnl=>?_) (sy k),QZ (dn s) ok v.1 v.2 ⟨jb 2 _,Gc (Cb (Nat.div_lt_of_lt_mul (n:=2) (k:=2) (Ma h9 akq))) 2⟩ ⟨ee 0x21cbe3 rfl,ee 0x31c021cb321ce0b10 rfl h8⟩ (Er esr (oi 0x1d2ce331d210bbbb351c330e21021c11021c010 rfl a2.2 b2.2 w1 hNc)) (VQ t) (by refine Er ol ?_;decide) D2 λdr v0 R g Jp B_ y T=>?_];have I:=MQ k T;obtain⟨hri,JE⟩:=sy I;have C_:=v.1.mono B_;have GW:=v.2.mono B_;have e10:=B_ _ _ v.3;have gW:=B_ _ _ v.4;have adF:=hd9.mono B_;haveI D_:∀c∈R.cells,rM c/\c.par≠.td:=λc f=>by
  rw[T.1]at f;rcases Oa f with f|f
  ·exact⟨.inl (T.7 c f),(I.13 c f).2.2⟩
  ·refine⟨.inr (I.6 c f),?_⟩;obtain⟨e,i,x|x⟩:=I.10 c f<;>refine Er x ?_<;>exact MV.noConfusion
 clear v O go o9 o8 hd9 C PM e7 q7 S Q2;erw[qe λR4 Qh=>YM ?_,[],nu (N:=R) rfl y (ee 0x3e83ce0b33843ce0b10 rfl hri) JE λq1 cM=>?_];have z:=(akr v0).new (o:=.list ((R.ins.map Cg).map λk=>.tup [.str k.1,iv k.2])) cM;have F:=ry (H:=v0.set q1 (.list ((R.ins.map Cg).map λk=>.tup [.str k.1,iv k.2]))) MH.sd;generalize v0.set q1 (.list ((R.ins.map Cg).map λk=>.tup [.str k.1,iv k.2]))=H11 at z F⊢;erw[nu (N:=N) rfl (C_.mono z) (ee 0x3e83ce0b33843ce0b10 rfl D2) hnl λq2 rg=>?_];have M:=z.new (o:=.list ((N.ins.map Cg).map λk=>.tup [.str k.1,iv k.2])) rg;have L:=ry (H:=H11.set q2 (.list ((N.ins.map Cg).map λk=>.tup [.str k.1,iv k.2]))) MH.sd;haveI u:=Dt.Un ((akr H11).new (o:=.list ((N.ins.map Cg).map λk=>.tup [.str k.1,iv k.2])) rg) _ _ F;generalize H11.set q2 (.list ((N.ins.map Cg).map λk=>.tup [.str k.1,iv k.2]))=H12 at M L u⊢;rw[T.2]at u;erw[aB u L (ja (pF _) akq) ⟨λe=>(nomatch e),λzz=>?_⟩,haveI K0:=C_.mono M;?_,K0.aC (aB (ou K0.4 Ro) (ou (M _ _ e10) Ro) (eB _) ⟨λe=>(nomatch e),λzz=>Qh _ _ ?_⟩)];clear Qh R4 F u L;haveI P:=M _ _ gW;erw[qe λR4 Qh=>(lu (N:=R) (dn s) (y.mono M) I P PTp λv1 H13 kR1 gR y_ wR F=>?_),have adI:=M.trans y_;?_,lu (N:=N) (dn s) (K0.mono y_) k (y_ _ _ P) PTp λv2 H14 kN1 gN W wN L=>?_];haveI MC:=adI.trans W;rw[dB k T I wN wR]at F;erw[.inr ⟨⟨_,v1,v2,rfl,rfl,Dq.Hg W _ _ F,L,XA⟩,λe=>(nomatch e),λzz=>Qh _ _ ?_⟩];clear Qh R4 F L;erw[bB (dn s) (GW.mono MC) (y.mono MC) D_ λH15 y11 M2 O2 P2 Z1 V=>oF (p:=p) (ns:=ns.take 63) (dn s) (adF.mono (MC.trans V)) (GW.mono (MC.trans V)) U_ hQ]
end
section
open W PyProof.Rows
set_option tactic.hygienic true in
theorem QM {w:World}{e:Shared}{cl:Str->Option Addr}{b:List WData}{c:List Value}{j:List Addr}(v:PySem.Challenge.rw_nn0333_01.row.toRowW.claim.pre b=true)(u:WData.layableAll b=true)(g:ReadsAllW PySem.Challenge.rw_nn0333_01.row.toRowW.records cl e.heap c b j) (t:WellAll w.params e.heap c b) (h:∀a∈j,(a==sysModules)=false):∃l items n ns,c=[.ref l]/\e.heap.get? l=some (Ge items n)/\IntsAre items.toList ns/\ns.length<=63:=by
 wrow_args v u g t h
 rename_i ns _ _ _ _ _ _ _ a k _ m _ f _ p _ q _;erw[Xf m λo i zz s=>(eE s λn r=>?_)];haveI f:Well w.params e.heap (.ref a) (.list (ofPys (ns.map PyData.int))):=f;cases f with
 |list d _=>
  haveI x:=d;rw[d]at i;obtain rfl:=(oa i)
  injection r with e5 e6
  rw[e5]at d;exact⟨a,k.toArray,0,ns,rfl,d,p,Int.ofNat_le.mp (Int.not_lt.mp q)⟩
theorem WQ (k:Ck h0)(l:Lk h0)(h:∀b o,h0.get? b=some o->s.heap.get? b=some o)(A:s.gens=#[]){c:Addr}{items:Array Value}{n:Nat}{ns:List Int}(g:s.heap.get? c=some (Ge items n))(hi:IntsAre items.toList ns)(i:ns.length<=63):wpAny (model PySem.Challenge.pw_nn0333_01 w) callerA (PySem.call (.ref (Jr h0 84)) [.ref c]) (λv s'=>v=.bool true/\OldK s.heap s'.heap/\s'.os=s.os/\s'.gens=#[]) akn s:=by
 have tab:=h _ _ l.3;haveI H:c≠pH h0:=λe=>by rw[e,tab]at g;cases g
 haveI st:St (Mo w s.os h0) (λzz=>none) (λa=>if a=pH h0 then none else s.heap.get? a) (λzz=>none) s:=.mk (Qm:=λzz zz e=>nomatch e) (Sm:=λa o e=>by
   split at e
   ·erw[nn e]
   ·exact e)
  (Tm:=λzz zz e=>nomatch e)
  (iO:=λzz zz e=>nomatch e)
  (jO:=λzz zz e=>nomatch e)
  (Eu:=λzz zz e=>nomatch e)
  (base:=λa o e=>by
   obtain⟨C,B⟩:=QK e
   exact(Dc B).trans (h _ _ C))
  (gens:=A)
  (os:=rfl)
  (tab:=⟨#[],tab,.inl rfl⟩)
  (kO:=⟨rfl,Ec rfl,rfl⟩)
 haveI z:Ee (Mo w s.os h0) (λa=>if a=pH h0 then none else s.heap.get? a) [.Qy ns] [.ref c]:=⟨⟨c,items,n,rfl,(Dc H).trans g,hi⟩,trivial⟩;haveI u:xF 12 callerA:=⟨akq,akq,rfl⟩;haveI run:=II (EP (w:=w) (os:=s.os) k l) 11 84 [.Qy ns] [.ref c] callerA _ _ _ s (λv zz=>v=.bool true) u st z (J0 (Qa _) i λzz=>rfl);erw[wpAny_call (codeAny_mono run λr s' p=>?_)];obtain⟨v,rfl,I,L,K,le,f,q,rfl⟩:=p;obtain rfl:=q;erw[Sd f.10 λx j zz=>⟨rfl,⟨λb o e=>?_,λb o e=>?_⟩,f.9,f.8⟩]
 ·by_cases d:b=pH h0
  ·subst d;rw[tab]at e;obtain rfl:=(oa e);erw[hide λJ m=>?_];obtain⟨y,t,_,_,_,_,_,_,_,G,F,E,D,_⟩:=(UK (w:=w) (os:=s.os) k l).1 s.heap λa o e=>h _ _ (QK e).1;erw[m ?_];clear m;erw[.inr (.inl ⟨⟨_,y,t,G,F,E,D⟩,rfl,#[],x,rfl,by rw[Array.empty_append];exact j⟩)]
  ·erw[.inl (f.2 _ _ (le _ _ ((Dc d).trans e)))]
 ·by_cases d:b=pH h0
  ·subst d;exact⟨_,j⟩
  ·exact⟨_,f.2 _ _ (le _ _ ((Dc d).trans e))⟩
theorem RM:LeftO akm qv uu (λ_=>true) (λs=>Yf s.heap) (λ_=>K_) 6000:=by erw[PF (H₀:=boot_heap) (gs₀:=#[]) (d₀:=boot_drawn) (k₀:=boot_toks) (m₀:=11) (ann:=some (.ref 6)) (boot_open rfl rfl λ_=>rfl) (λw=>by kernel_rfl) λw os=>?_,haveI e:=CN w os;?_,Sd (Ia e) λr b c=>?_];rw[<-QF]at b;haveI a:=tu _ _ _ _ b;rw[QW]at a;rw[a];erw[Fc some c]
theorem N0:G0.fns.lookup (Str.ofString "law")=some 84:=by kernel_rfl
theorem SM:PySem.Challenge.rw_nn0333_01.row.claim.post args (.bool true) args=true:=by wrow_post
theorem TM (J:defOf qv PySem.Challenge.rw_nn0333_01.row.name=some (d,kwd)):WalkO qv uu (λ_ _=>True) (λ_ h=>∃c,Lk c/\∀b o,c.get? b=some o->h.get? b=some o) PySem.Challenge.rw_nn0333_01.row.toRowW d kwd λf vs=>PySem.call f vs:=by
 intro w V Dh mg mb G Y a o pm cd U dV kV ho hd N hD r M E e as L0 Z q X s;erw[Sd Y λc l z=>?_,have k:=Ck.of l.1;?_,we (QM L0 Z q X s) λla m n W=>(Qf e W λns Bk=>(pj Bk λK L t=>?_))];haveI R:a=Jr c 84:=by
  erw[We G.T.g λoo es ep B H=>(pj H λA g3 O=>?_)];obtain⟨I,nX,Q,y,x,P,u⟩:=Heap.Ns.of_isNs k.1;rw[z _ _ y]at B;obtain rfl:=(oa B);rw[x]at A;cases A;haveI E_:d.name=Str.ofString "law":=(defOf_name J).symm▸rfl;have D:=(u d.name).symm.trans (O d.name);rw[r,E_]at D;have S:Ly c (Str.ofString "law")=some (.ref (Jr c 84)):=jA (k.13 (Str.ofString "law",84) (Oi N0)).1;have C:Ly c (Str.ofString "law")=some (.ref a):=D;rw[S]at C;obtain rfl:=(Value.ref.inj (oa C));rfl
 subst R;erw[zc (WQ (w:=w) k l z M K L t) (λv s' p=>?_) λ_ _ f=>f.elim,Fi v p λj F=>(eA F λos i=>⟨.inl ⟨.bool true,.bool true,[],rfl,λ_=>rfl,.bool true,SM,λ_=>⟨.nil,λ_ h=>nomatch h⟩⟩,j,os,.of_eq i⟩)]
end
end
end Mine
open PySem.W in
theorem PySem.Challenge.cw_nn0333_01_holds : PySem.Challenge.rw_nn0333_01.Holds :=
 holds_law Mine.VC λadN=>by
  obtain⟨⟨d,kwd⟩,hn,hq⟩:=Option.map_eq_some_iff.mp Mine.FN
  simp only[Prod.mk.injEq]at hq
  haveI hkw:kwd=[]:=by
   haveI:=Mine.GN
   rw[hn]at this
   exact Option.some.inj this
  exact holds_open Mine.RM (YP:=λ_ h=>∃h0,Mine.Lk h0/\∀b o,h0.get? b=some o->h.get? b=some o) (XP:=λ_ _=>True) (λw s e=>⟨s.heap,Mine.Lk.of e,λ_ _ e=>e⟩) (λw h h' Ki k=>by obtain⟨h0,a,b⟩:=Ki;exact⟨h0,a,λx o e=>k _ _ (b _ _ e)⟩)
   (λ_ _=>trivial) (λ_ _ _ _ _=>trivial) hn hq.1.symm (by rw[hq.2,hkw]) (λs e=>PySem.W.recFacts_of rfl) rfl adN Mine.Py Mine.VF Mine.WF (Mine.TM hn)
