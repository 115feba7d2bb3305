import PyProof.Rows.All
import Wide.All
import OpenK.AllK
import Wide.FinOn
import Open.Line
import Lean
import PySem.Challenge.RW_np0224_01
set_option linter.all false
set_option Elab.async false
set_option tactic.hygienic false
set_option maxRecDepth 10000
set_option genSizeOf false
set_option genInjectivity false
set_option genCtorIdx false
set_option bootstrap.genMatcherCode false
namespace Mine
noncomputable section
def a9:=@List.length_map
def b9:=@List.length_append
def cg:=@congrArg
def c0:=@Nat.le_trans
def da:=@PySem.wpAny_bind
def dk:=@of_decide_eq_true
def dt:=@List.mem_singleton
def dy:=@List.mem_append_left
def dR:=@Option.some.inj
def dS:=@Nat.lt_of_le_of_lt
def eb:=@decide_eq_true
def ec:=@List.mem_append_right
def ee:=@List.append_assoc
def ej:=@if_neg
def er:=@if_pos
def eu:=@List.mem_append
def e5:=@PySem.wpAny_pure
def e7:=@List.map_append
def fe:=@List.length_filter_le
def fo:=@decide_eq_false
def ft:=@List.all_eq_true
def fz:=@PySem.Heap.get?_push_of_some
def f5:=@List.getElem?_eq_some_iff
def gS:=@List.mem_filter
def gY:=@List.map_map
def hE:=@List.append_nil
def hS:=@Nat.le_of_ble_eq_true
def hW:=@PySem.Heap.get?_push_size
def h8:=@List.getElem?_eq_getElem
def ig:=@List.cons.inj
def ih:=@Nat.add_le_add_left
def ik:=@List.map_cons
def i1:=@Nat.le_refl
def i3:=@Nat.le_antisymm
def js:=@Nat.zero_le
def jT:=@Bool.and_eq_true_iff
def ka:=@Nat.succ_le_succ
def lp:=@PySem.IsL.isList
def lq:=@List.mem_cons
def ly:=@decide_eq_false_iff_not
def lF:=@List.map_congr_left
def lH:=@Nat.le_succ_of_le
def mc:=@List.length_cons
def mi:=@List.isEmpty_iff
def mj:=@Int.ofNat.inj
def my:=@PySem.builtinLookup_eq_fast
def mF:=@List.size_toArray
def m5:=@PySem.wpAny_of_eq
def nf:=@List.mem_of_getElem?
def nq:=@List.filter_cons_of_neg
def nI:=@Bool.false_ne_true
def nW:=@List.mem_map
def nX:=@decide_eq_decide
def pg:=@Nat.le_of_not_lt
def p8:=@Array.getElem?_toList
def p9:=@PySem.Heap.lt_size
def qa:=@List.getElem?_map
def ql:=@Nat.le_add_right
def qn:=@List.pairwise_append
def q0:=@Nat.ne_of_lt
def ra:=@List.length_replicate
def rh:=@Nat.le_of_lt
def ri:=@Nat.lt_of_lt_of_le
def rj:=@List.pairwise_cons
def rl:=@List.filter_sublist
def rn:=@Nat.le_of_eq
def rZ:=@List.filter_cons_of_pos
def r0:=@PySem.typeLookup_type
def si:=@of_decide_eq_false
def sl:=@List.filter_eq_self
def sA:=@List.prefix_refl
def sN:=@Nat.le_of_lt_succ
def sZ:=@List.flatMap_cons
def tc:=@Bool.not_eq_true'
def tq:=@Bool.eq_false_iff
def ui:=@List.getD_eq_getElem?_getD
def u1:=@List.mem_map_of_mem
def vC:=@Nat.sub_le
def vN:=@Classical.byContradiction
def wh:=@List.lookup_cons
def wq:=@Bool.or_eq_true
def wQ:=@Nat.not_succ_le_zero
def wX:=@Int.natCast_nonneg
def xf:=@PySem.sizeLine_eq
def xl:=@List.flatMap_append
def xt:=@Int.ofNat_le
def xC:=@Array.length_toList
def xD:=@PySem.wpAny_specialOf
def xW:=@Nat.div_add_mod
def x3:=@PySem.wpAny_call_entry
def yb:=@Nat.lt_succ_self
def ye:=@List.length_drop
def yv:=@List.filter_cons
def y1:=@PySem.wpAny_mono
def y2:=@Option.map_eq_some_iff
def zy:=@Nat.sub_add_cancel
def Be:=@PySem.wpAny_holding
def BB:=@beq_eq_false_iff_ne
def Cp:=@PySem.Heap.SameBut.update
def Cw:=@List.perm_append_comm
def CQ:=@PySem.wpAny_truthy_bool
def Dp:=@Nat.zero_add
def Dq:=@Ne.symm
def Dw:=@List.mem_range
def Ep:=@PySem.Heap.get?_none_of_le
def EV:=@List.nodup_cons
def EW:=@List.find?_cons
def Fe:=@beq_self_eq_true
def FC:=@List.perm_middle
def Gq:=@PySem.bm_if_false
def Gy:=@Iff.rfl
def Gz:=@Option.isSome_iff_exists
def GX:=@Nat.min_eq_left
def G7:=@Int.not_lt
def He:=@Nat.add_le_add_right
def Hg:=@List.any_eq_true
def HX:=@Nat.succ_pos
def HZ:=@Nat.le_of_succ_le
def H5:=@List.nodup_append
def I0:=@List.filter_congr
def I3:=@Int.ofNat_lt
def I8:=@Int.le_trans
def I9:=@PySem.Calls.Name_function_global
section
namespace Ln
inductive X where
 |v (i:Nat)|n (k:Nat)|a (x y:X)|m (k:Nat) (x:X)|r (x:X) (k:Nat)
noncomputable def at':List Nat->Nat->Nat
 |[],_=>0|a::l,i=>i.casesOn a λi=>at' l i
noncomputable def dn(c:List Nat):X->Nat
 |.v i=>at' c i|.n k=>k|.a x y=>dn c x+dn c y|.m k x=>k*dn c x|.r x k=>dn c x*k
noncomputable def add:List Nat->List Nat->List Nat
 |[],q=>q|a::p,q=>q.casesOn (a::p) λb q=>(a+b)::add p q
noncomputable def mul(k:Nat)(p:List Nat):List Nat:=p.map (k*·)
noncomputable def un(i:Nat):List Nat:=Nat.rec [1] (λz l=>0::l) i
noncomputable def nm:X->List Nat
 |.v i=>0::un i|.n k=>[k]|.a x y=>add (nm x) (nm y)|.m k x=>mul k (nm x)|.r x k=>mul k<|nm x
noncomputable def JP:List Nat->List Nat->Bool
 |[],_=>true|a::p,q=>q.casesOn (Nat.beq a 0&&JP p []) λb q=>Nat.ble a b&&JP p q
noncomputable def dot:List Nat->List Nat->Nat
 |[],_=>0|a::p,c=>c.casesOn 0 λx c=>a*x+dot p c
def dD(p:List Nat):∀q c,dot (add p q) c=dot p c+dot q c:=by
 induction p with
 |nil=>exactλq c=>(Dp _).symm|cons a p i=>
  intro q c;rcases q with _|⟨b,q⟩;.rfl
  rcases c with _|⟨x,c⟩;.rfl
  show(a+b)*x+dot (add p q) c=(a*x+dot p c)+(b*x+dot q c);rw[i,Nat.add_mul,Nat.add_add_add_comm]
def ic(k:Nat)(p:List Nat):∀c,dot (mul k p) c=k*dot p c:=by
 induction p with
 |nil=>exactλc=>rfl|cons a p i=>
  intro c;rcases c with _|⟨x,c⟩;.rfl
  show k*a*x+dot (mul k p) c=k*(a*x+dot p c);rw[i,Nat.mul_add,Nat.mul_assoc]
def JQ(i:Nat):∀c,dot (un i) c=at' c i:=by
 induction i with
 |zero=>
  intro c;rcases c with _|⟨x,c⟩;.rfl
  .exact Nat.one_mul x
 |succ i I=>
  intro c;rcases c with _|⟨x,c⟩;.rfl
  .show 0*x+dot (un i) c=at' c i;rw[Nat.zero_mul,Dp,I]
def ta(c:List Nat)(x:X):dot (nm x) (1::c)=dn c x:=by
 induction x with|v i=>show 0*1+dot (un i) c=_;rw[Nat.zero_mul,Dp,JQ];rfl|n k=>exact Nat.mul_one k|a x y T z=>exact(dD ..).trans<|congr (cg HAdd.hAdd T) z|m k x I=>exact(ic ..).trans<|cg (k*·) I|r x k I=>exact((ic ..).trans<|cg (k*·) I).trans<|Nat.mul_comm ..
def Pn(p:List Nat):dot p []=0:=by rcases p<;>rfl
def GB(p:List Nat):∀q c,JP p q=true->dot p c<=dot q c:=by
 induction p with
 |nil=>exactλq c z=>js _|cons a p i=>
  intro q c h;rcases c with _|⟨x,c⟩;.exact js _
  rcases q with _|⟨b,q⟩
  .have h:=jT.1<|show(Nat.beq a 0&&JP p [])=true from h;show a*x+dot p c<=0;rw[Nat.eq_of_beq_eq_true h.1,Nat.zero_mul,Dp];exact i [] c h.2
  .have h:=jT.1<|show(Nat.ble a b&&JP p q)=true from h;exact Nat.add_le_add (Nat.mul_le_mul_right x<|hS h.1)<|i q c h.2
structure C where
 t:Nat
 x:X
 y:X
def tell{α:Type} [LE α] [LT α](t:Nat)(a b:α):Prop:=match t with|0=>a<=b|1=>a<b|2=>a=b|3=>a=b|4=>¬a<=b|5=>¬a<b|6=>a≠b|_=>a≠b
def C.dn(c:List Nat)(k:C):Prop:=cond (Nat.ble 8 k.t) (tell (k.t-8) (Int.ofNat<|Ln.dn c k.x)<|Int.ofNat<|Ln.dn c k.y)<|tell k.t (Ln.dn c k.x)<|Ln.dn c k.y
def side(t:Nat)(a b:List Nat):List Nat×List Nat:=match t with|0=>(a,b)|1=>(add a [1],b)|2=>(a,b)|3=>(b,a)|4=>(add b [1],a)|5=>(b,a)|6=>(add a [1],b)|_=>(add b [1],a)
def C.sd(k:C):List Nat×List Nat:=side (cond (Nat.ble 8 k.t) (k.t-8) k.t) (nm k.x)<|nm k.y
def T5{t a b:Nat}(h:tell t (Int.ofNat a)<|Int.ofNat b):tell t a b:=by
 match t,h with|0,h=>exact xt.1 h|1,h=>exact I3.1 h|2,h=>exact mj h|3,h=>exact mj h|4,h=>exactλq=>h<|xt.2 q|5,h=>exactλq=>h<|I3.2 q|6,h=>exactλq=>h<|cg _ q|_+7,h=>exactλq=>h<|cg _ q
def T6{t a b:Nat}(h:tell t a b):tell t (Int.ofNat a) (Int.ofNat b):=by
 match t,h with|0,h=>exact xt.2 h|1,h=>exact I3.2 h|2,h=>exact cg _ h|3,h=>exact cg _ h|4,h=>exactλq=>h<|xt.1 q|5,h=>exactλq=>h<|I3.1 q|6,h=>exactλq=>h<|mj q|_+7,h=>exactλq=>h<|mj q
section
variable{c:List Nat}{t:Nat}{a b:List Nat}
def MW:dot [1] (1::c)=1:=rfl
def GC(h:tell t (dot a<|1::c)<|dot b<|1::c)(H:Nat.ble t 5=true):dot (side t a b).1 (1::c)<=dot (side t a b).2 (1::c):=by
 match t,h,H with|0,h,_=>exact h|1,h,_=>exact(dD ..).symm▸h|2,h,_=>exact rn h|3,h,_=>exact rn h.symm|4,h,_=>exact(dD ..).symm▸Nat.lt_of_not_le h|5,h,_=>exact pg h|_+6,_,H=>exact nomatch H
def GD(h:dot (side t a b).1 (1::c)<=dot (side t a b).2 (1::c))(H:(Nat.beq t 2||Nat.beq t 3)=false):tell t (dot a<|1::c) (dot b<|1::c):=by
 have e:∀{p:List Nat},dot (add p [1]) (1::c)=dot p (1::c)+1:=dD ..
 match t,h,H with|0,h,_=>exact h|1,h,_=>exact c0 (rn e.symm) h|2,_,H=>exact nomatch H|3,_,H=>exact nomatch H|4,h,_=>exact Nat.not_le_of_lt<|c0 (rn e.symm) h|5,h,_=>exact Nat.not_lt_of_le h|6,h,_=>exact q0<|c0 (rn e.symm) h|_+7,h,_=>exact Nat.ne_of_gt<|c0 (rn e.symm) h
end
noncomputable def tg(k:C):Nat:=cond (Nat.ble 8 k.t) (k.t-8) k.t
def C.le{c:List Nat}(h:k.dn c)(H:Nat.ble (tg k) 5=true):dot k.sd.1 (1::c)<=dot k.sd.2 (1::c):=by
 refine GC (t:=tg k) ?_ H;rw[ta,ta];unfold C.dn at h;unfold tg;by_cases q:Nat.ble 8 k.t=true;.rw[q]at h⊢;exact T5 h
 .rw[tq.2 q]at h⊢;exact h
def C.of{c:List Nat}{k:C}(h:dot k.sd.1 (1::c)<=dot k.sd.2 (1::c))(H:(Nat.beq (tg k) 2||Nat.beq (tg k) 3)=false):k.dn c:=by
 have h:=GD (t:=tg k) h H;rw[ta,ta]at h;unfold C.dn;unfold tg at h;by_cases q:Nat.ble 8 k.t=true;.rw[q]at h⊢;exact T6 h
 .rw[tq.2 q]at h⊢;exact h
noncomputable def imp(c:List Nat)(g:Prop):List C->Prop
 |[]=>g|k::l=>k.dn c->imp c g l
noncomputable def Po(g:C)(w:Nat):List C->List Nat->List Nat->List Nat->Bool
 |[],_,L,R=>!(Nat.beq (tg g) 2||Nat.beq (tg g) 3)&&JP (add (add (mul w g.sd.1) R) [1]) (add (mul w<|add g.sd.2 [1]) L)|k::l,s,L,R=>s.casesOn false λu s=>Nat.ble (tg k) 5&&Po g w l s (add L<|mul u k.sd.1) (add R<|mul u k.sd.2)
def sound{c:List Nat}(l:List C):∀s L R,dot L (1::c)<=dot R (1::c)->Po g w l s L R=true->imp c (g.dn c) l:=by
 induction l with
 |nil=>intro s L R H h;have h:=jT.1<|show(!(Nat.beq (tg g) 2||Nat.beq (tg g) 3)&&JP _ _)=true from h;refine C.of (pg λq=>?_)<|(tc _).mp h.1;have z:=GB _ _ (1::c) h.2;rw[dD,dD,ic,dD,ic,dD,MW]at z;exact Nat.not_lt_of_le (Nat.add_le_add (Nat.mul_le_mul_left w<|Nat.succ_le_of_lt q) H) z|cons k l i=>
  intro s L R H h y;rcases s with _|⟨u,s⟩;.exact nomatch h
  have h:=jT.1<|show(Nat.ble (tg k) 5&&Po g w l s _ _)=true from h;refine i s _ _ ?_ h.2;rw[dD,dD,ic,ic];exact Nat.add_le_add H<|Nat.mul_le_mul_left u<|C.le y h.1
def ln(c:List Nat)(l:List C)(g:C)(w:Nat)(s:List Nat)(h:Po g w l s [] []=true):imp c (g.dn c) l:=sound l s [] [] (i1 _) h
def s1(a b:Nat):a<=(a-b)+b:=Nat.le_add_of_sub_le<|i1 _
end Ln
def Ja:=@Ln.ln
end
section
set_option backward.match.sparseCases false
def bC{G:Prop}(h:¬¬G):G:=vN h
@[elab_as_elim] theorem bL {α z:Type} {P:z->Prop} {f:α->z} {l:List α} {b:z} (h:b∈l.map f) (k:∀a,a∈l->P (f a)):P b:=(nW.1 h).elim λa e=>e.2▸k a e.1
def oO{α z:Type}{P:Prop}{f:α->z}{l:List α}{b:z}(h:b∈l.map f)(k:∀a,a∈l->f a=b->P):P:=(nW.1 h).elim λa e=>k a e.1 e.2
@[elab_as_elim] theorem C5 {α z:Type} {P:z->Prop} {f:α->z} {o:Option α} {b:z} (h:o.map f=some b) (k:∀a,o=some a->P (f a)):P b:=(y2.1 h).elim λa e=>e.2▸k a e.1
def Gm{α z:Type}{P:Prop}{f:α->z}{o:Option α}{b:z}(h:o.map f=some b)(k:∀a,o=some a->f a=b->P):P:=(y2.1 h).elim λa e=>k a e.1 e.2
def zL{α z:Type}{P:Prop}{f:α->Option z}{o:Option α}{b:z}(h:o.bind f=some b)(k:∀a,o=some a->f a=some b->P):P:=(Option.bind_eq_some_iff.1 h).elim λa e=>k a e.1 e.2
def T7{A B C D E F G:Sort _}{P:A->B->C->D->E->F->G->Prop}{a b c d e f g}(p:P a b c d e f g):∃a b c d e f g,P a b c d e f g:=⟨a,b,c,d,e,f,g,p⟩
@[elab_as_elim] theorem cR {α:Sort _} {a b:α} {p:α->Prop} (h:a=b) (k:p b):p a:=h▸k
@[elab_as_elim] theorem cL {α:Sort _} {a b:α} {p:α->Prop} (h:a=b) (k:p a):p b:=h▸k
set_option genCtorIdx true in
inductive Kd where
 |int|str|oP|AU
 deriving DecidableEq
set_option genCtorIdx true in
set_option genInjectivity true in
inductive V where
 |none|bool (b:Bool)|int (i:Int)|str (s:List Nat)|bytes (b:List UInt8)
 |tup (l:List V)|lst (l:List V)|ref (a:Nat)
inductive Ob where
 |list (l:List V)|dict (k:Kd) (d:List (V×V))|inst (c:Nat) (f:List (Nat×V))|iy (b:List UInt8)
 |ro (o:Ob)
abbrev Hp:=List Ob
noncomputable def Ob.base:Ob->Ob
 |.ro o=>o.base|o=>o
def rd(H:Hp)(a:Nat):Option Ob:=(H[a]?).map Ob.base
abbrev Loc:=Nat->Option V
noncomputable def upd(L:Loc)(x:Nat)(v:V):Loc:=λy=>if y=x then some v else L y
mutual
inductive Ms where
 |add|sub|mul|div|mod|pow|shl|shr|band
inductive CG where
 |eq|ne|lt|le|gt|ge|isin|c8|IQ|oQ
end
inductive B where
 |len|list|dict (k:Kd)|bytes|bytearray|sum|all|min|max|tuple|int|ord|chr
set_option genCtorIdx true in
inductive BM where
 |extend|pop|get|split|join
mutual
inductive E where
 |int (i:Int)|str (s:List Nat)|Mt (b:List UInt8)|none|bool (b:Bool)
 |var (x:Nat)|glob (g:Nat)
 |bin (op:Ms) (a b:E)
 |neg (i:Int)
 |cmp (op:CG) (a b:E)
 |chain (p q:CG) (a b c:E)
 |not (a:E)|and (l:Es)|or (l:Es)
 |ite (c a b:E)
 |tup (l:Es)|cK (m:Bool) (l:Es)|dict (k:Kd) (l:Es)
 |sub (a i:E)
 |slice (a:E) (lo hi:E)
 |attr (o:E) (f:Nat)
 |call (f:Nat) (l:Es)|new (c:Nat) (l:Es)|aC (o:E) (m:Nat) (l:Es)
 |bi (b:B) (l:Es)|bm (b:BM) (o:E) (l:Es)
 |sorted (m:Bool) (i:It)
 |comp (m:Bool) (e:E) (t:List Nat) (i:It) (c:Es)
 |fail
inductive Es where
 |nil|cons (e:E) (r:Es)
inductive It where
 |val (e:E)|range (e:E)|zip (a b:E)|enum (a:E)|items (d:E)|acc (x:Nat)
end
mutual
inductive S where
 |asg (x:Nat) (e:E)
 |dh (xs:List Nat) (e:E)
 |bn (o:E) (f:Nat) (e:E)
 |uV (o:E) (f:Nat) (o':E) (f':Nat) (e:E)
 |fg (o i e:E)
 |expr (e:E)
 |cI (c:E) (a b:Ss)
 |dU (t:List Nat) (i:It) (b:Ss)
 |kU (c:E) (b:Ss)
 |ret (e:E)|qO|yc (x:Nat)
 |iX (x:Nat) (l:Es)|oi (y:Nat) (e:E) (x:Nat) (l:Es)|eP (x:Nat) (e:E)|kV (x:Nat) (e:E)
 |cont|fail
inductive Ss where
 |nil|cons (s:S) (r:Ss)
end
structure Code where
 params:List Nat
 jz:List V
 acc:Option Nat
 body:Ss
structure Pg where
 code:Nat->Option Code
 init:Nat->Option Nat
 aC:Nat->Nat->Option Nat
 glob:Nat->Option V
 attr:Nat->Nat->Bool
noncomputable def big:Nat:=16777216
noncomputable def d7:V->Option (List V)
 |.tup l=>some l|_=>none
noncomputable def bP:V->Option (List V)
 |.lst l=>some l|_=>none
noncomputable def bx:V->Option Int
 |.int l=>some l|_=>none
noncomputable def cz:V->Option Bool
 |.bool l=>some l|_=>none
noncomputable def gH:V->Option (List Nat)
 |.str l=>some l|_=>none
noncomputable def iP:V->Option (List UInt8)
 |.bytes l=>some l|_=>none
noncomputable def rK:V->Option Nat
 |.ref l=>some l|_=>none
noncomputable def one{α:Type}:List α->Option α
 |[x]=>some x|_=>none
noncomputable def two{α:Type}:List α->Option (α×α)
 |[x,y]=>some (x,y)|_=>none
noncomputable def gI:V->Bool
 |.none=>true|_=>false
mutual
noncomputable def V.beq(a b:V):Bool:=match a with|.none=>gI b|.bool x=>(cz b).any λy=>decide (x=y)|.int x=>(bx b).any λy=>decide (x=y)|.str x=>(gH b).any λy=>decide (x=y)|.bytes x=>(iP b).any λy=>decide (x=y)|.ref x=>(rK b).any λy=>decide (x=y)|.tup l=>(d7 b).any λm=>V.AV l m|.lst l=>(bP b).any λm=>V.AV l m
noncomputable def V.AV(a b:List V):Bool:=match a with
 |[]=>b.isEmpty|x::s=>match b with|[]=>false|y::Y=>V.beq x y&&V.AV s Y
end
def any_some(h:o.any p=true):∃a,o=some a/\p a=true:=match o,h with|some a,h=>⟨a,rfl,h⟩
def yd(h:cz v=some x):v=.bool x:=by rcases v<;>cases h;rfl
def fE(h:bx v=some x):v=.int x:=by rcases v<;>cases h;rfl
def kW(h:gH v=some x):v=.str x:=by rcases v<;>cases h;rfl
def AW(h:iP v=some x):v=.bytes x:=by rcases v<;>cases h;rfl
def AX(h:rK v=some x):v=.ref x:=by rcases v<;>cases h;rfl
def rL(h:d7 v=some x):v=.tup x:=by rcases v<;>cases h;rfl
def d3(h:bP v=some x):v=.lst x:=by rcases v<;>cases h;rfl
def fF(h:gI v=true):v=.none:=by rcases v<;>injection h;rfl
def jA{α:Type} [DecidableEq α]{o:Option α}{x:α}(h:(o.any λy=>decide (x=y))=true):o=some x:=by obtain⟨y,e,h⟩:=any_some h;rw[e,dk h]
mutual
theorem V.beq_eq:∀(a b:V),V.beq a b=true->a=b
 |.none,b,h=>(fF h).symm|.bool x,b,h=>(yd<|jA h).symm|.int x,b,h=>(fE<|jA h).symm|.str x,b,h=>(kW<|jA h).symm|.bytes x,b,h=>(AW<|jA h).symm|.ref x,b,h=>(AX<|jA h).symm|.tup l,b,h=>by obtain⟨m,e,h⟩:=any_some h;rw[rL e,V.tb l m h]
 |.lst l,b,h=>by obtain⟨m,e,h⟩:=any_some h;rw[d3 e,V.tb l m h]
theorem V.tb:∀(a b:List V),V.AV a b=true->a=b
 |[],b,h=>(mi.1 h).symm|x::s,[],h=>nomatch h|x::s,y::Y,h=>by have h:=jT.1<|show(V.beq x y&&V.AV s Y)=true from h;rw[V.beq_eq x y h.1,V.tb s Y h.2]
theorem V.uW:∀a:V,V.beq a a=true
 |.none=>rfl|.bool x=>eb (p:=x=x) rfl|.int x=>eb (p:=x=x) rfl|.str x=>eb (p:=x=x) rfl|.bytes x=>eb (p:=x=x) rfl|.ref x=>eb (p:=x=x) rfl|.tup l=>V.kX l|.lst l=>V.kX l
theorem V.kX:∀a:List V,V.AV a a=true
 |[]=>rfl|x::s=>jT.2 ⟨V.uW x,V.kX s⟩
end
noncomputable instance:DecidableEq V:=λa b=>decidable_of_iff (V.beq a b=true) ⟨V.beq_eq a b,λh=>h▸V.uW a⟩
noncomputable def isInt:V->Bool
 |.int _=>true|_=>false
noncomputable def isStr:V->Bool
 |.str _=>true|_=>false
def rM(v:V):Bool:=match d7 v with|some [a,b]=>isInt a&&isInt b|_=>false
def IR(v:V):Bool:=match d7 v with|some [a,b,c]=>rM a&&isStr b&&rM c|_=>false
def keyOk:Kd->V->Bool
 |.int=>isInt|.str=>isStr|.oP=>rM|.AU=>IR
mutual
noncomputable def V.fU:V->V->Bool
 |.none,.none=>true|.bool _,.bool _=>true|.int _,.int _=>true|.str _,.str _=>true|.bytes _,.bytes _=>true|.tup a,.tup b=>V.cV a b|.lst a,.lst b=>V.cV a b|_,_=>false
noncomputable def V.cV:List V->List V->Bool
 |[],_=>true|_,[]=>true|x::s,y::Y=>V.fU x y&&V.cV s Y
end
mutual
noncomputable def V.dp:V->Nat
 |.tup l=>V.jB l+1|.lst l=>V.jB l+1|_=>0
noncomputable def V.jB:List V->Nat
 |[]=>0|v::l=>Nat.max (V.dp v)<|V.jB l
end
noncomputable def gJ{α:Type} [DecidableEq α](lt:α->α->Bool):List α->List α->Bool
 |[],[]=>false|[],_::_=>true|_::_,[]=>false|x::s,y::Y=>if x=y then gJ lt s Y else lt x y
def ltNats:List Nat->List Nat->Bool:=gJ λa b=>decide (a<b)
def V.gy:V->V->Bool
 |.int a,.int b=>decide (a<b)|.str a,.str b=>ltNats a b|.int _,.str _=>true|_,_=>false
def V.lt:V->V->Bool
 |.tup a,.tup b=>gJ V.gy a b|x,y=>V.gy x y
noncomputable def cA:V->V->Bool
 |.int _,.int _=>true|.str _,.str _=>true|_,_=>false
noncomputable def oR:List V->List V->Bool
 |x::s,y::Y=>cA x y&&oR s Y|_,_=>true
def kZ(x y:V):Bool:=match d7 x,d7 y with|some a,some b=>! a.isEmpty&&! b.isEmpty&&oR a b|_,_=>false
def V.ord(x y:V):Bool:=cA x y||kZ x y
def sortable(l:List V):Bool:=l.all λx=>l.all λy=>V.ord x y
noncomputable def dE{α:Type}(lt:α->α->Bool)(x:α):List α->List α
 |[]=>[x]|y::r=>if lt x y then x::y::r else y::dE lt x r
def bQ{α:Type}(lt:α->α->Bool)(l:List α):List α:=l.foldl (λa x=>dE lt x a) []
def dG:List V->List V:=bQ V.lt
noncomputable def bI(d:List<|V×V)(k:V):Option V:=(d.find? λe=>decide (e.1=k)).map (·.2)
noncomputable def bR(d:List<|V×V)(k:V):Bool:=d.any λe=>decide (e.1=k)
def dput(d:List<|V×V)(k v:V):List (V×V):=if bR d k then d.map (λe=>if e.1=k then(e.1,v)else e)else d++[(k,v)]
noncomputable def dV(d:List<|V×V)(k:V):List (V×V):=d.filter λe=>!decide (e.1=k)
noncomputable def fG(f:List<|Nat×V)(x:Nat):Option V:=(f.find? λe=>decide (e.1=x)).map (·.2)
noncomputable def yf(f:List<|Nat×V)(x:Nat)(v:V):List (Nat×V):=if f.any λe=>decide (e.1=x)then f.map (λe=>if e.1=x then(e.1,v)else e)else f++[(x,v)]
noncomputable def small(i:Int):Bool:=decide (i.natAbs<18446744073709551616)
def AY{α:Type}(a b:List α)(f:List α->V):Option V:=if a.length+b.length<=big then some (f<|a++b)else none
def GE(x y:V):Option V:=match x with|.int a=>(bx y).map λb=>.int (a+b)|.str a=>(gH y).bind λb=>AY a b .str|.bytes a=>(iP y).bind λb=>AY a b .bytes|.lst a=>(bP y).bind λb=>AY a b .lst|.tup a=>(d7 y).bind λb=>AY a b .tup|_=>none
def ints2(x y:V)(f:Int->Int->Option Int):Option V:=(bx x).bind λa=>(bx y).bind λb=>(f a b).map .int
noncomputable def fW(c:Bool)(i:Int):Option Int:=match c with|true=>some i|false=>none
def k7(op:Ms)(x y:V):Option V:=match op with|.add=>GE x y|.sub=>ints2 x y λa b=>some (a-b)|.mul=>ints2 x y λa b=>fW (small a&&small b) (a*b)|.div=>ints2 x y λa b=>fW (decide (b≠0)&&decide (b.natAbs<1073741824)) (a.fdiv b)|.mod=>ints2 x y λa b=>fW (decide (b≠0)) (a.fmod b)|.pow=>ints2 x y λa b=>fW (small a&&decide (0<=b/\b<=64)) (a^b.toNat)|.shl=>ints2 x y λa b=>fW (small a&&decide (0<=b/\b<=64)) (a*2^b.toNat)|.shr=>ints2 x y λa b=>fW (decide (0<=b/\b<=64)) (a.fdiv<|2^b.toNat)|.band=>ints2 x y λa b=>fW (decide (0<=a)&&decide (b=255))<|a.fmod 256
def IS(x y:V):Option Bool:=if V.fU x y&&decide (V.dp x<=8)then some (decide (x=y))else none
def MX(x y:V)(H:Hp):Option Bool:=match x with
 |.ref a=>match y with
  |.lst l=>(rd H a).bind λo=>match o with
   |.list m=>if V.cV m l&&decide (V.jB m<=8)then some (decide (m=l))else none|_=>none
  |.ref b=>(rd H a).bind λo=>match o with
   |.dict k d=>(rd H b).bind λO=>match O with
    |.dict z D=>if decide (k=.str)&&decide (z=.str)&&D.isEmpty then some d.isEmpty else none|_=>none
   |_=>none
  |_=>none
 |x=>IS x y
def MY(x y:V)(H:Hp):Option Bool:=match y with
 |.lst l=>if l.all (V.fU · x)&&decide (V.jB l<=8)then some (decide (x∈l))else none|.tup l=>if l.all (V.fU · x)&&decide (V.jB l<=8)then some (decide (x∈l))else none|.ref a=>match rd H a with
  |some (.dict k d)=>if keyOk k x then some (bR d x)else none|_=>none
 |_=>none
def zM(x y:V)(f:Int->Int->Bool):Option Bool:=(bx x).bind λa=>(bx y).map λb=>f a b
def IU(x y:V)(f:Bool->Bool):Option Bool:=match gI y with|true=>some<|f<|gI x|false=>none
def k8(op:CG)(x y:V)(H:Hp):Option Bool:=match op with|.eq=>MX x y H|.ne=>(MX x y H).map (!·)|.lt=>zM x y λa b=>decide (a<b)|.le=>zM x y λa b=>decide (a<=b)|.gt=>zM x y λa b=>decide (b<a)|.ge=>zM x y λa b=>decide (b<=a)|.isin=>MY x y H|.c8=>(MY x y H).map (!·)|.IQ=>IU x y id|.oQ=>IU x y (!·)
noncomputable def idx(n:Nat)(i:Int):Option Nat:=if 0<=i/\i<n then some i.toNat else if i<0/\0<=i+n then some (i+n).toNat else none
def GF{α:Type}(l:List α)(i:V):Option α:=(bx i).bind λi=>(idx l.length i).bind (l[·]?)
def oS(x i:V)(H:Hp):Option V:=match x with
 |.lst l=>GF l i|.tup l=>GF l i|.str l=>(GF l i).map λc=>.str [c]|.bytes l=>(GF l i).map λc=>.int c.toNat|.ref a=>(rd H a).bind λo=>match o with
  |.dict k d=>if keyOk k i then bI d i else none|.list l=>GF l i|_=>none
 |_=>none
noncomputable def clamp(n:Nat)(d:Nat):V->Option Nat
 |.none=>some d|.int i=>if i<0 then some (i+n).toNat else some (min i.toNat n)|_=>none
noncomputable def cut{α:Type}(l:List α)(i j:Nat):List α:=(l.take j).drop i
def JR{α:Type}(l:List α)(lo H:V)(f:List α->V):Option V:=(clamp l.length 0 lo).bind λi=>(clamp l.length l.length H).map λj=>f<|cut l i j
def MZ(l:List V)(lo H:V):Option V:=(bx lo).bind λi=>if(gI H&&decide (1<=i/\i<=l.length))=true then some (.tup<|l.drop i.toNat)else none
def c9(x lo H:V):Option V:=match x with|.lst l=>JR l lo H .lst|.tup l=>MZ l lo H|.bytes l=>JR l lo H .bytes|_=>none
noncomputable def freeze(g:Option<|Nat×Ob)(H:Hp):Hp:=match g with|none=>H|some (a,o)=>H.set a<|.ro o
noncomputable def iY(g:Option<|Nat×Ob)(H:Hp):Hp:=match g with|none=>H|some (a,o)=>H.set a o
noncomputable def rN:List V->Option (List Int)
 |[]=>some []|.int i::r=>(rN r).map (i::·)|_::_=>none
noncomputable def oT:List V->Option (List Bool)
 |[]=>some []|.bool i::r=>(oT r).map (i::·)|_::_=>none
noncomputable def strs?:List V->Option (List<|List Nat)
 |[]=>some []|.str i::r=>(strs? r).map (i::·)|_::_=>none
noncomputable def oU:List V->Option (List<|V×V)
 |[]=>some []|.tup [a,b]::r=>(oU r).map ((a,b)::·)|_::_=>none
noncomputable def dj:List Nat->List (List Nat)->List Nat
 |m,[]=>m|m,x::r=>dj (if ltNats x m then x else m) r
noncomputable def cM(s:List Nat):List (List Nat)->List Nat
 |[]=>[]|[x]=>x|x::r=>x++s++cM s r
noncomputable def aQ(c:Nat):List Nat->List (List Nat)
 |[]=>[[]]|x::r=>if x=c then[]::aQ c r else match aQ c r with|[]=>[[x]]|y::Y=>(x::y)::Y
noncomputable def Kd.plain:Kd->Bool
 |.int|.str=>true|_=>false
noncomputable def pairUp:List V->Option (List<|V×V)
 |[]=>some []|k::v::r=>(pairUp r).map ((k,v)::·)|[_]=>none
def jC(t:List Nat)(v:V)(L:Loc):Option Loc:=(d7 v).bind λl=>if t.length=l.length then some ((t.zip l).foldl (λL e=>upd L e.1 e.2) L)else none
def cW(t:List Nat)(v:V)(L:Loc):Option Loc:=match one t with|some x=>some<|upd L x v|none=>jC t v L
noncomputable def mD:Nat->List V->List V
 |_,[]=>[]|n,v::r=>.tup [.int n,v]::mD (n+1) r
noncomputable def uX:List V->List V->List V
 |x::s,y::Y=>.tup [x,y]::uX s Y|_,_=>[]
def oV(c:Code)(args:List V):Option Loc:=
 if args.length<=c.params.length/\c.params.length<=args.length+c.jz.length then
  some ((c.params.zip<|args++c.jz.drop (args.length+c.jz.length-c.params.length)).foldl (λL e=>upd L e.1 e.2) λz=>none)
 else none
noncomputable def fuel:Nat:=1000
end
section
structure TO{α:Type}(lt:α->α->Bool)(S:α->Prop):Prop where
 ir:∀{x},S x->lt x x=false
 tr:∀{x y z},S x->S y->S z->lt x y=true->lt y z=true->lt x z=true
 CH:∀{x y},S x->S y->lt x y=false->lt y x=false->x=y
section
variable{α:Type}{lt:α->α->Bool}{S S':α->Prop}{l:List α}{x y z d:α}
def TO.sub(h:TO lt S)(s:∀x,S' x->S x):TO lt S':=⟨λa=>h.ir<|s _ a,λa b c=>h.tr (s _ a) (s _ b)<|s _ c,λa b=>h.CH (s _ a)<|s _ b⟩
def bF(h:b=true->False):b=false:=tq.2 h
def Pp{C:Prop}(h:b=true)(q:b=false):C:=nomatch h.symm.trans q
def TO.P1(h:TO lt S)(sx:S x)(s:S y)(q:lt x y=true):lt y x=false:=bF λp=>Pp (h.tr sx s sx q p)<|h.ir sx
def TO.le(h:TO lt S)(sx:S x)(s:S y)(sz:S z)(a:lt y x=false)(b:lt z y=false):lt z x=false:=bF λq=>by
 by_cases c:lt x y=true;.exact Pp (h.tr sz sx s q c) b
 .obtain rfl:=h.CH sx s (bF c) a;exact Pp q b
def fH(lt:α->α->Bool)(x:α)(l:List α):(dE lt x l).Perm (x::l):=by
 induction l with
 |nil=>exact .refl _|cons y r i=>
  show List.Perm (if _ then _ else _) _;by_cases c:lt x y=true;.rw[er c]
  .rw[ej c];exact(i.cons y).trans<|.swap _ _ _
def aL(lt:α->α->Bool)(l:List α):(bQ lt l).Perm l:=by
 have g:∀(l a:List α),(l.foldl (λa x=>dE lt x a) a).Perm (l++a):=λl=>by
  induction l with|nil=>exactλa=>.refl _|cons x r i=>exactλa=>(i _).trans<|((fH lt x a).append_left r).trans FC
 exact(hE l).subst (motive:=λm=>(bQ lt l).Perm m)<|g l []
def mE(lt:α->α->Bool)(a b:α):Prop:=lt b a=false
def uY(h:TO lt S)(sx:S x)(s:∀y∈l,S y)(p:l.Pairwise<|mE lt):(dE lt x l).Pairwise (mE lt):=by
 induction l with
 |nil=>exact List.pairwise_singleton _ _|cons y r i=>
  have q:=rj.1 p;have Y:=s y<|.head _;show List.Pairwise _<|if _ then _ else _;by_cases c:lt x y=true
  .rw[er c];have a:=h.P1 sx Y c;exact rj.2 ⟨λz m=>(lq.1 m).elim (λe=>e▸a) λm=>h.le sx Y (s z<|.tail _ m) a<|q.1 z m,p⟩
  .rw[ej c];exact rj.2 ⟨λz m=>(lq.1<|(fH lt x r).subset m).elim (λe=>e▸bF c)<|q.1 z,i (λz m=>s z<|.tail _ m) q.2⟩
def fX(h:TO lt S)(s:∀y∈l,S y):(bQ lt l).Pairwise (mE lt):=by
 have g:∀(t a:List α),(∀x∈t,S x)->(∀x∈a,S x)->a.Pairwise (mE lt)->(t.foldl (λa x=>dE lt x a) a).Pairwise (mE lt):=λt=>by
  induction t with|nil=>exactλa k k p=>p|cons x t i=>exactλa H u p=>i _ (λy m=>H y<|.tail _ m) (λy m=>(lq.1<|(fH lt x a).subset m).elim (λe=>e▸H x (.head _))<|u y)<|uY h (H x<|.head _) u p
 exact g l [] s nofun .nil
def oW(h:TO lt S)(s:∀y∈l,S y)(p:l.Perm l')(H:l'.Pairwise<|mE lt):bQ lt l=l':=
 List.Perm.eq_of_pairwise (le:=mE lt) (λa b m M e u=>h.CH (s a<|(aL lt l).subset m) (s b<|p.symm.subset M) u e) (fX h s) H ((aL lt l).trans p)
def jD(h:TO lt (·∈l))(p:l.Perm l'):bQ lt l=bQ lt l':=oW h (λu m=>m) (p.trans (aL lt l').symm)<|fX h λu m=>p.symm.subset m
def AZ(h:TO lt (·∈l))(s:l.Pairwise<|mE lt):bQ lt l=l:=oW h (λu m=>m) (.refl _) s
def uZ(h:TO lt (·∈l)):bQ lt (bQ lt l)=bQ lt l:=(jD h (aL lt l).symm).symm
def TO.lex [DecidableEq α](h:TO lt S):TO (gJ lt) λl=>∀x∈l,S x where
 ir {x}:=by
  induction x with|nil=>exactλQ=>rfl|cons a x i=>exactλs=>(er rfl).trans (i λy m=>s y<|.tail _ m)
 tr {x}:=by
  induction x with
  |nil=>
   intro y z _ _ _ u H;rcases z with _|⟨c,z⟩
   .rcases y with _|⟨b,y⟩;.exact u
    .exact H
   .rfl
  |cons a x i=>
   intro y z sx Y U u H;rcases y with _|⟨b,y⟩;.exact nomatch u
   rcases z with _|⟨c,z⟩;.exact nomatch H
   have u:(if a=b then gJ lt x y else lt a b)=true:=u;have H:(if b=c then gJ lt y z else lt b c)=true:=H;show(if a=c then gJ lt x z else lt a c)=true;have A:=sx a<|.head _;have j:=Y b<|.head _;have f:=U c<|.head _;by_cases p:a=b
   .clear h f j A;subst p;rw[er rfl]at u;by_cases k:a=c
    .rw[er k]at H⊢;exact i (λq m=>sx q<|.tail _ m) (λq m=>Y q<|.tail _ m) (λq m=>U q<|.tail _ m) u H
    .rw[ej k]at H⊢;exact H
   .rw[ej p]at u;by_cases k:b=c;.clear h f j A H;subst k;rw[ej p];exact u
    .rw[ej k]at H;have T:=h.tr A j f u H;rw[ej λe:a=c=>Pp T<|e▸h.ir A];exact T
 CH {x}:=by
  induction x with
  |nil=>
   intro y _ _ u H;rcases y with _|⟨b,y⟩;.rfl
   .exact nomatch u
  |cons a x i=>
   intro y sx Y u H;rcases y with _|⟨b,y⟩;.exact nomatch H
   have u:(if a=b then gJ lt x y else lt a b)=false:=u;have H:(if b=a then gJ lt y x else lt b a)=false:=H;by_cases p:a=b
   .clear h;subst p;rw[er rfl]at u H;exact cg _<|i (λq m=>sx q<|.tail _ m) (λq m=>Y q<|.tail _ m) u H
   .rw[ej p]at u;rw[ej<|Dq p]at H;exact absurd (h.CH (sx a<|.head _) (Y b<|.head _) u H) p
end
def TO.nat:TO (λa b:Nat=>decide (a<b)) λz=>True:=
 ⟨λz=>fo<|Nat.lt_irrefl _,λz z z H y=>eb<|Nat.lt_trans (dk H)<|dk y,λz z H y=>i3 (pg<|si y)<|pg<|si H⟩
def TO.nats:TO ltNats λz=>True:=TO.lex TO.nat|>.sub λz z z z=>trivial
noncomputable def jE:V->Bool
 |.int _=>true|.str _=>true|_=>false
@[elab_as_elim] theorem fJ {C:V->Prop} {x:V} (h:jE x=true) (k:∀i,C<|.int i) (k2:∀s,C<|.str s):C x:=by rcases x<;>first|exact k _|exact k2 _|exact nomatch h
def TO.flat:TO V.gy (jE ·=true) where
 ir sx:=fJ (C:=λx=>V.gy x x=false) sx (λi=>fo<|Int.lt_irrefl i) λs=>TO.nats.ir trivial
 tr sx sy sz:=by
  refine fJ (C:=λx=>V.gy x _=true->_->V.gy x _=true) sx (λa=>?_) λa=>?_
  .refine fJ (C:=λy=>V.gy (.int a) y=true->V.gy y _=true->V.gy (.int a) _=true) sy (λb=>?_) λb=>?_;.exact fJ (C:=λz=>V.gy (.int a) (.int b)=true->V.gy (.int b) z=true->V.gy (.int a) z=true) sz (λc u H=>eb<|Int.lt_trans (dk u)<|dk H) λc p p=>rfl
   .exact fJ (C:=λz=>V.gy (.int a) (.str b)=true->V.gy (.str b) z=true->V.gy (.int a) z=true) sz (λc p H=>nomatch H) λc p p=>rfl
  .refine fJ (C:=λy=>V.gy (.str a) y=true->V.gy y _=true->V.gy (.str a) _=true) sy (λb h=>nomatch h) λb=>?_;exact fJ (C:=λz=>V.gy (.str a) (.str b)=true->V.gy (.str b) z=true->V.gy (.str a) z=true) sz (λc p H=>nomatch H) λc u H=>TO.nats.tr trivial trivial trivial u H
 CH sx sy:=by
  refine fJ (C:=λx=>V.gy x _=false->V.gy _ x=false->x=_) sx (λa=>?_) λa=>?_;.exact fJ (C:=λy=>V.gy (.int a) y=false->V.gy y (.int a)=false->V.int a=y) sy (λb u H=>cg _<|Int.le_antisymm (G7.1<|si H)<|G7.1<|si u) λb h=>nomatch h
  .exact fJ (C:=λy=>V.gy (.str a) y=false->V.gy y (.str a)=false->V.str a=y) sy (λb p h=>nomatch h) λb u H=>cg _<|TO.nats.CH trivial trivial u H
def fY{x y:V}(h:jE x=true):V.lt x y=V.gy x y:=fJ (C:=λx=>V.lt x y=V.gy x y) h (λz=>rfl) λz=>rfl
def TO.IV:TO V.lt (jE ·=true):=⟨λa=>(fY a).trans<|TO.flat.ir a,λa b c H z=>(fY a).trans<|TO.flat.tr a b c ((fY a).symm.trans H)<|(fY b).symm.trans z,λa b H z=>TO.flat.CH a b ((fY a).symm.trans H)<|(fY b).symm.trans z⟩
def JS(x:V):Prop:=∃a,x=.tup a/\∀c∈a,jE c=true
def TO.M2:TO V.lt JS where
 ir:=λ⟨a,e,h⟩=>e▸TO.flat.lex.ir (x:=a) h
 tr:=λ⟨a,e,h⟩ ⟨b,u,H⟩ ⟨c,T,M⟩=>by subst e u T;exact TO.flat.lex.tr (x:=a) (y:=b) (z:=c) h H M
 CH:=λ⟨a,e,h⟩ ⟨b,u,H⟩=>by subst e u;exactλs p=>cg V.tup<|TO.flat.lex.CH (x:=a) (y:=b) h H s p
def TO.pull{α u:Type}{lt:α->α->Bool}{S:α->Prop}{f:u->α}(h:TO lt S)(s:∀x,S<|f x)(i:∀x y,f x=f y->x=y)(T:u->Prop):TO (λa b=>lt (f a)<|f b) T:=
 ⟨λ{x} _=>h.ir<|s x,λ{x y z} _ _ _=>h.tr (s x) (s y)<|s z,λ{x y} _ _ a b=>i x y<|h.CH (s x) (s y) a b⟩
end
noncomputable def GG(a b c d e:E)(r:Es):Es:=.cons a<|.cons b<|.cons c<|.cons d<|.cons e r
noncomputable def jF(a b c d e:S)(r:Ss):Ss:=.cons a<|.cons b<|.cons c<|.cons d<|.cons e r
noncomputable def aq(a:E):Es:=.cons a .nil
noncomputable def au(a b:E):Es:=.cons a<|.cons b .nil
noncomputable def aR(a b c:E):Es:=.cons a<|.cons b<|.cons c .nil
noncomputable def nB(a b c d:E):Es:=.cons a<|.cons b<|.cons c<|.cons d .nil
noncomputable def C6(a b c d e:E):Es:=.cons a<|.cons b<|.cons c<|.cons d<|.cons e .nil
noncomputable def P2(a b c d e f:E):Es:=.cons a<|.cons b<|.cons c<|.cons d<|.cons e<|.cons f .nil
noncomputable def aD(a:S):Ss:=.cons a .nil
noncomputable def cx(a b:S):Ss:=.cons a<|.cons b .nil
noncomputable def eL(a b c:S):Ss:=.cons a<|.cons b<|.cons c .nil
noncomputable def iZ(a b c d:S):Ss:=.cons a<|.cons b<|.cons c<|.cons d .nil
noncomputable def td(a b c d e:S):Ss:=.cons a<|.cons b<|.cons c<|.cons d<|.cons e .nil
noncomputable def te(a b c d e f:S):Ss:=.cons a<|.cons b<|.cons c<|.cons d<|.cons e<|.cons f .nil
noncomputable def CI:E:=.var 2
noncomputable def eJ:E:=.var 3
noncomputable def A0:E:=.var 4
noncomputable def zN:E:=.var 6
noncomputable def zP:E:=.var 9
noncomputable def bJ:E:=.var 11
noncomputable def ba:E:=.var 12
noncomputable def oX:E:=.var 13
noncomputable def k9:E:=.var 14
noncomputable def bq:E:=.var 15
noncomputable def cS:E:=.var 17
noncomputable def jG:E:=.var 23
noncomputable def dW:E:=.var 24
noncomputable def oY:E:=.var 31
noncomputable def bS:E:=.var 32
noncomputable def ar:E:=.var 44
noncomputable def aO:E:=.var 48
noncomputable def i0:E:=.var 49
noncomputable def eM:E:=.var 69
noncomputable def i4:E:=.var 82
noncomputable def ci:E:=.var 83
noncomputable def dH:E:=.var 103
noncomputable def dI:E:=.var 112
noncomputable def eQ:E:=.var 114
noncomputable def eR:E:=.var 121
def IW:Code:=⟨[0],[],none,
 (jF (.asg 0<|.slice (.var 0) .none<|.int 63) (.asg 1<|.cK false<|au (.new 0<|aq<|.new 1 .nil)<|.new 0<|aq<|.new 1 .nil) (.dh [2,3]<|.tup<|au (.comp false (.call 22<|au A0<|.int 1) [4] (.val<|.var 1) .nil)<|.dict .str<|P2 (.str [102,111,108,100,101,114,115]) (.dict .int<|au (.int 1)<|.dict .str .nil) (.str [115,116,97,116,101,115]) (.dict .int<|au (.int 1)<|.tup<|au (.int 0)<|.Mt []) (.str [108,97,115,116])<|.int 1) (.dU [5] (.val<|.slice (.var 0) .none<|.int 6)<|aD<|.expr<|.call 1<|aR eJ CI<|.cK true<|aq<|.var 5) (.dh [6,7]<|.tup<|au (.call 9<|aq eJ)<|.comp false (.new 4<|aq A0) [4] (.val<|.var 1) .nil)<|td (.cI (.cmp .ne (.call 52<|au (.sub (.var 7)<|.int 0)<|.sub (.var 7)<|.int 1)<|.cK false .nil) (aD<|.ret<|.bool false) .nil) (.bn (.sub CI<|.int 1) 8<|.int 2) (.dU [5] (.val<|.slice (.var 0) (.int 6)<|.int 12)<|aD<|.expr<|.call 1<|aR eJ (.slice CI (.int 1) .none)<|.cK true<|aq<|.var 5) (.asg 9<|.call 9<|aq eJ)<|.ret<|.and<|au (.cmp .eq (.call 52<|au (.sub (.var 7)<|.int 0)<|.sub (.var 7)<|.int 1)<|.call 10<|au zN zP)<|.cmp .eq (.call 52<|au (.sub (.var 7)<|.int 1)<|.sub (.var 7)<|.int 0)<|.call 10<|au zP zN)⟩
def mG:Code:=⟨[3,2,4],[],none,
 (jF (.dh [10,11,12]<|.tup<|aR (.call 2<|au A0<|.int 8) (.sub (.sorted false<|.val<|.sub eJ<|.str [102,111,108,100,101,114,115])<|.call 2<|au A0<|.bi .len<|aq<|.sub eJ<|.str [102,111,108,100,101,114,115])<|.sub (.str [97,98,99])<|.call 2<|au A0<|.int 3) (.cI (.cmp .lt (.var 10)<|.int 2) (cx (.expr<|.call 6<|C6 eJ CI bJ ba<|.cmp .eq (.var 10)<|.int 1) .qO) .nil) (.asg 13<|.call 3<|aR eJ (.int 1)<|.str []) (.cI (.cmp .eq oX<|.cK false .nil) (aD .qO) .nil) (.asg 14<|.sub oX<|.call 2<|au A0<|.bi .len<|aq oX)<|eL (.dh [15,16,6,17] k9) (.dh [18,19]<|.tup<|au (.cmp .c8 ba<|.sub (.sub eJ<|.str [102,111,108,100,101,114,115]) bJ)<|.bin .add (.bin .add (.call 4<|au eJ bJ)<|.str [47]) ba)<|.cI (.cmp .eq (.var 10)<|.int 2) (aD<|.expr<|.call 8<|nB eJ CI k9 A0)<|aD<|.cI (.cmp .eq (.var 10)<|.int 3) (aD<|.expr<|.call 7<|aR eJ CI k9)<|aD<|.cI (.and<|aR (.cmp .eq (.var 10)<|.int 4) (.cmp .c8 cS<|.sub eJ<|.str [102,111,108,100,101,114,115])<|.var 18) (cx (.dU [20] (.val CI)<|aD<|.expr<|.aC (.var 20) 21<|au bq<|.var 19)<|.fg (.sub (.sub eJ<|.str [102,111,108,100,101,114,115]) bJ) ba cS)<|aD<|.cI (.and<|aR (.cmp .gt (.var 10)<|.int 4) (.var 18)<|.or<|au (.cmp .c8 cS<|.sub eJ<|.str [102,111,108,100,101,114,115])<|.cmp .c8 bJ<|.call 5<|au eJ cS) (eL (.dU [20] (.val CI)<|aD<|.expr<|.aC (.var 20) 22<|au bq<|.var 19) (.expr<|.bm .pop (.sub (.sub eJ<|.str [102,111,108,100,101,114,115])<|.var 16)<|aq zN)<|.fg (.sub (.sub eJ<|.str [102,111,108,100,101,114,115]) bJ) ba cS) .nil)⟩
def u0:Code:=⟨[4,23],[],none,
 (eL (.asg 24<|.bin .mod (.sub A0<|.int 0) jG) (.fg A0 (.int 0)<|.bin .div (.sub A0<|.int 0) jG)<|.ret dW)⟩
def ti:Code:=⟨[3,11,15],[],(some 24),
 (eL (.iX 24 .nil) (.dU [12] (.val<|.sorted false<|.val<|.sub (.sub eJ<|.str [102,111,108,100,101,114,115]) bJ)<|eL (.asg 17<|.sub (.sub (.sub eJ<|.str [102,111,108,100,101,114,115]) bJ) ba) (.eP 24<|.tup<|nB (.bin .add (.bin .add bq<|.str [47]) ba) bJ ba cS)<|.cI (.cmp .isin cS<|.sub eJ<|.str [102,111,108,100,101,114,115]) (aD<|.kV 24<|.call 3<|aR eJ cS<|.bin .add (.bin .add bq<|.str [47]) ba) .nil)<|.yc 24)⟩
def u4:Code:=⟨[3,11],[],none,
 (cx (.asg 24<|.comp false bq [15,16,12,17] (.val<|.call 3<|aR eJ (.int 1)<|.str [])<|aq<|.cmp .eq cS bJ)<|.ret<|.ite (.cmp .eq bJ<|.int 1) (.str [])<|.sub dW<|.int 0)⟩
def tj:Code:=⟨[3,11],[],none,
 (aD<|.ret<|.bin .add (.cK false<|aq bJ)<|.comp false cS [15,16,12,17] (.val<|.call 3<|aR eJ bJ<|.str [])<|aq<|.cmp .isin cS<|.sub eJ<|.str [102,111,108,100,101,114,115])⟩
def u5:Code:=⟨[3,2,11,12,25],[],none,
 (jF (.cI (.cmp .isin ba<|.sub (.sub eJ<|.str [102,111,108,100,101,114,115]) bJ) (aD .qO) .nil) (.asg 15<|.bin .add (.bin .add (.call 4<|au eJ bJ)<|.str [47]) ba) (.dU [20] (.val CI)<|aD<|.expr<|.ite (.var 25) (.aC (.var 20) 26<|au bq<|.int 5)<|.aC (.var 20) 27<|au bq<|.int 5) (.fg eJ (.str [108,97,115,116])<|.bin .add (.sub eJ<|.str [108,97,115,116])<|.int 1) (.fg (.sub (.sub eJ<|.str [102,111,108,100,101,114,115]) bJ) ba<|.sub eJ<|.str [108,97,115,116])<|cx (.fg (.sub eJ<|.str [115,116,97,116,101,115]) (.sub eJ<|.str [108,97,115,116])<|.tup<|au (.int 5)<|.Mt [])<|.cI (.var 25) (aD<|.fg (.sub eJ<|.str [102,111,108,100,101,114,115]) (.sub eJ<|.str [108,97,115,116])<|.dict .str .nil) .nil)⟩
def u6:Code:=⟨[3,2,14],[],none,
 (td (.dh [15,16,12,17] k9) (.cI (.cmp .ne (.bm .get (.sub eJ<|.str [102,111,108,100,101,114,115])<|au cS<|.dict .str .nil)<|.dict .str .nil) (aD .qO) .nil) (.dU [20] (.val CI)<|aD<|.expr<|.ite (.cmp .isin cS<|.sub eJ<|.str [102,111,108,100,101,114,115]) (.aC (.var 20) 28<|aq bq)<|.aC (.var 20) 29<|aq bq) (.expr<|.bm .pop (.sub (.sub eJ<|.str [102,111,108,100,101,114,115])<|.var 16)<|aq ba)<|.cI (.cmp .isin cS<|.sub eJ<|.str [102,111,108,100,101,114,115]) (aD<|.expr<|.bm .pop (.sub eJ<|.str [102,111,108,100,101,114,115])<|aq cS) .nil)⟩
def dJ:Code:=⟨[3,2,14,4],[],none,
 (iZ (.dh [15,17,10,30]<|.tup<|nB (.sub k9<|.int 0) (.sub k9<|.int 3) (.call 2<|au A0<|.int 2)<|.call 2<|au A0<|.int 4) (.dh [31,32]<|.sub (.sub eJ<|.str [115,116,97,116,101,115]) cS) (.cI (.and<|au (.cmp .eq (.var 10)<|.int 0)<|.cmp .c8 cS<|.sub eJ<|.str [102,111,108,100,101,114,115]) (cx (.asg 32<|.bin .add (.bin .add (.bin .add (.slice bS .none<|.bin .mod (.var 30)<|.int 2)<|.bi .bytes<|aq<|.bi .max<|au (.int 0)<|.bin .sub (.bin .mod (.var 30)<|.int 2)<|.bi .len<|aq bS)<|.bi .bytes<|aq<|.cK false<|aq<|.bin .add (.int 65)<|.var 30)<|.slice bS (.bin .add (.bin .mod (.var 30)<|.int 2)<|.int 1) .none)<|.dU [20] (.val CI)<|aD<|.expr<|.aC (.var 20) 33<|aR bq (.bin .mod (.var 30)<|.int 2)<|.bi .bytes<|aq<|.cK false<|aq<|.bin .add (.int 65)<|.var 30)<|cx (.asg 31<|.var 30)<|.dU [20] (.val CI)<|aD<|.expr<|.aC (.var 20) 34<|au bq<|.var 30)<|.fg (.sub eJ<|.str [115,116,97,116,101,115]) cS<|.tup<|au oY bS)⟩
def u7:Code:=⟨[3],[],none,
 (iZ (.dh [13,35]<|.tup<|au (.dict .int<|au (.int 1)<|.cK false .nil)<|.dict .int .nil) (.dU [15,11,12,17] (.val<|.call 3<|aR eJ (.int 1)<|.str [])<|aD<|.fg oX cS<|.bin .add (.bm .get oX<|au cS<|.cK false .nil)<|.cK false<|aq<|.tup<|au (.tup<|au bJ ba) bq) (.dU [17] (.val oX)<|aD<|.fg (.var 35) cS<|.tup<|au (.sub (.sub eJ<|.str [115,116,97,116,101,115]) cS)<|.sorted false<|.items<|.bm .get (.sub eJ<|.str [102,111,108,100,101,114,115])<|au cS<|.dict .str .nil)<|.ret<|.tup<|au oX<|.var 35)⟩
def i5:Code:=⟨[6,9],[],(some 36),
 (eL (.iX 36 .nil) (.dU [17] (.val<|.sorted false<|.val<|.bi (.dict .int)<|aq<|.comp false (.tup<|au cS<|.int 0) [17] (.val<|.bin .add (.bi .list<|aq<|.sub zN<|.int 0)<|.bi .list<|aq<|.sub zP<|.int 0) .nil)<|te (.dh [37,38]<|.tup<|au (.bm .get (.sub zN<|.int 0)<|au cS<|.cK false .nil)<|.bm .get (.sub zP<|.int 0)<|au cS<|.cK false .nil) (.asg 39<|.sorted true<|.val<|.comp false bq [40,15] (.val<|.var 37)<|aq<|.cmp .c8 (.var 40)<|.comp false (.var 41) [41,42] (.val<|.var 38) .nil) (.asg 43<|.sorted true<|.val<|.comp false bq [40,15] (.val<|.var 38)<|aq<|.cmp .c8 (.var 40)<|.comp false (.var 41) [41,42] (.val<|.var 37) .nil) (.kU (.and<|au (.cmp .ne (.var 39)<|.cK false .nil)<|.cmp .ne (.var 43)<|.cK false .nil)<|aD<|.eP 36<|.tup<|aR (.bm .pop (.var 39)<|aq<|.int 0) (.str [82])<|.bm .pop (.var 43)<|aq<|.int 0) (.kV 36<|.bin .add (.comp false (.tup<|au bq<|.str [45]) [15] (.val<|.var 39) .nil)<|.comp false (.tup<|au bq<|.str [43]) [15] (.val<|.var 43) .nil)<|.cI (.and<|aR (.cmp .isin cS<|.sub zN<|.int 1) (.cmp .isin cS<|.sub zP<|.int 1)<|.cmp .ne (.sub (.sub zN<|.int 1) cS)<|.sub (.sub zP<|.int 1) cS) (aD<|.eP 36<|.tup<|au (.bi .min<|aq<|.bin .add (.comp false bq [40,15] (.val<|.var 38) .nil)<|.ite (.cmp .eq cS<|.int 1) (.cK false<|aq<|.str [47])<|.cK false .nil)<|.str [77]) .nil)<|.ret<|.comp false (.bin .add (.tup<|au (.sub k9<|.int 1)<|.sub k9<|.int 0)<|.slice k9 (.int 2) .none) [14] (.val<|.sorted false<|.acc 36) .nil)⟩
def jH:Code:=⟨[44,45],[],none,
 (iZ (.bn ar 45<|.var 45) (.bn ar 46<|.dict .int .nil) (.bn ar 32<|.dict .int .nil)<|.bn ar 47<|.int 0)⟩
def oZ:Code:=⟨[44,48],[],none,
 (cx (.cI (.cmp .c8 aO<|.attr ar 46) (aD .fail) .nil)<|.ret<|.sub (.attr ar 46) aO)⟩
def qP:Code:=⟨[44,48,49,23],[],none,
 (iZ (.expr<|.aC ar 50<|aq aO) (.cI (.or<|au (.cmp .lt i0<|.int 0)<|.cmp .lt jG<|.int 0) (aD .fail) .nil) (.asg 24<|.bi .bytes<|aq<|.slice (.sub (.attr ar 32) aO) i0<|.bin .add i0 jG)<|.ret<|.bin .add dW<|.bi .bytes<|aq<|.bin .sub jG<|.bi .len<|aq dW)⟩
def jI:Code:=⟨[44,51,52,53],[.bytes []],none,
 (td (.cI (.or<|au (.cmp .lt (.var 51)<|.int 1)<|.cmp .lt (.var 52)<|.int 1) (aD .fail) .nil) (.bn ar 47<|.bin .add (.attr ar 47)<|.int 1) (.fg (.attr ar 46) (.attr ar 47)<|.new 2<|aR (.var 51) (.var 52)<|.bi .bytes<|aq<|.var 53) (.fg (.attr ar 32) (.attr ar 47)<|.Mt [])<|.ret<|.attr ar 47)⟩
def qQ:Code:=⟨[44,48],[],none,
 (eL (.expr<|.aC ar 50<|aq aO) (.expr<|.bm .pop (.attr ar 46)<|aq aO)<|.expr<|.bm .pop (.attr ar 32)<|aq aO)⟩
def i6:Code:=⟨[44,48,53],[],none,
 (aD<|.bn (.aC ar 50<|aq aO) 53<|.bi .bytes<|aq<|.var 53)⟩
def tm:Code:=⟨[44,48,32],[],none,
 (iZ (.asg 50<|.aC ar 50<|aq aO) (.asg 54<|.call 20<|au (.bi .len<|aq bS)<|.attr (.var 50) 52) (.fg (.attr ar 32) aO<|.bin .add bS<|.bi .bytes<|aq<|.bin .sub (.var 54)<|.bi .len<|aq bS)<|.bn (.var 50) 55<|.bin .sub (.bin .div (.var 54)<|.attr (.var 50) 52)<|.int 1)⟩
def o5:Code:=⟨[44,48,49,32],[],none,
 (eL (.expr<|.aC ar 50<|aq aO) (.cI (.cmp .lt i0<|.int 0) (aD .fail) .nil)<|.cI (.cmp .gt (.bi .len<|aq bS)<|.int 0) (cx (.asg 56<|.bin .add (.sub (.attr ar 32) aO)<|.bi .bytes<|aq<|.bi .max<|au (.int 0)<|.bin .sub i0<|.bi .len<|aq<|.sub (.attr ar 32) aO)<|.expr<|.aC ar 57<|au aO<|.bin .add (.bin .add (.slice (.var 56) .none i0)<|.bi .bytes<|aq bS)<|.slice (.var 56) (.bin .add i0<|.bi .len<|aq bS) .none) .nil)⟩
def lg:Code:=⟨[44,58,59,60,61,46,62,63,64,65,66,67],[.int 16,.int 32,.int 32,.int 4,.int 4,.int 4,.int 2,.int 128,.int 192,.int 160,.int 128],none,
 (jF (.bn ar 58<|.var 58) (.bn ar 59<|.var 59) (.bn ar 60<|.var 60) (.bn ar 61<|.var 61) (.bn ar 46<|.var 46)<|te (.bn ar 62<|.var 62) (.bn ar 63<|.var 63) (.bn ar 64<|.var 64) (.bn ar 65<|.var 65) (.bn ar 66<|.var 66)<|.bn ar 67<|.var 67)⟩
def yg:Code:=⟨[48,68],[],none,
 (aD<|.ret<|.bin .mul (.bin .div (.bin .sub (.bin .add aO<|.var 68)<|.int 1)<|.var 68)<|.var 68)⟩
def iz:Code:=⟨[44,51,52,53],[],none,
 (iZ (.bn ar 51<|.var 51) (.bn ar 52<|.var 52) (.bn ar 55<|.neg 1)<|.bn ar 53<|.var 53)⟩
def u8:Code:=⟨[69,8],[],none,
 (te (.cI (.cmp .ne (.call 65<|au eM<|.glob 70)<|.glob 71) (aD .fail) .nil) (.asg 72<|.call 65<|au eM<|.glob 73) (.expr<|.call 57<|aR eM (.var 72)<|.new 5<|GG (.glob 74) (.int 0) (.int 0) (.int 2) (.var 72)<|au (.var 8)<|.var 8) (.expr<|.call 66<|nB eM (.glob 71) (.glob 75)<|.var 72) (.expr<|.call 66<|nB eM (.glob 71) (.glob 76)<|.call 65<|au eM<|.glob 77)<|.ret<|.new 3<|au eM<|.var 8)⟩
def iA:Code:=⟨[44,69,8],[],none,
 (td (.bn ar 69 eM) (.bn ar 8<|.var 8) (.bn ar 78<|.new 4<|aq eM) (.bn ar 79<|.call 68<|aR eM (.glob 71)<|.glob 76)<|.bn ar 80<|.dict .int .nil)⟩
def eS:Code:=⟨[44,48,81,82],[.none],none,
 (te (.asg 83<|.call 56<|au (.attr ar 69) aO) (.bn ci 81<|.bin .add (.attr ci 81)<|.var 81) (.bn ci 82<|.ite (.cmp .IQ i4 .none) (.attr ci 82) i4) (.bn ci 84<|.attr ar 8) (.expr<|.call 57<|aR (.attr ar 69) aO ci)<|.ret ci)⟩
def gK:Code:=⟨[44,15],[],none,
 (iZ (.dh [11,12]<|.call 47<|aR (.attr ar 69) (.attr (.attr ar 78) 72) bq) (.expr<|.call 59<|aq ba) (.cI (.cmp .oQ (.call 60<|aR (.attr ar 69) bJ ba) .none) (aD .fail) .nil)<|.ret<|.tup<|au bJ ba)⟩
def gM:Code:=⟨[44,31],[],none,
 (aD<|.cI (.not<|.chain .le .le (.int 0) oY<|.glob 85) (aD .fail) .nil)⟩
def iC:Code:=⟨[44,15,86,31],[],none,
 (jF (.expr<|.aC ar 87<|aq oY) (.dh [11,12]<|.aC ar 88<|aq bq) (.asg 83<|.new 5<|GG (.var 86) oY (.int 0) (.int 1) bJ<|au (.attr ar 8)<|.attr ar 8) (.asg 48<|.aC (.attr ar 69) 89<|aR (.glob 90) (.attr (.attr (.attr ar 69) 45) 60)<|.call 54<|aq ci) (.expr<|.call 61<|C6 (.attr ar 69) bJ ba aO<|.var 86)<|cx (.expr<|.aC ar 91<|au bJ<|.int 0)<|.ret aO)⟩
def jJ:Code:=⟨[44,15,31],[],none,
 (aD<|.ret<|.aC ar 92<|aR bq (.glob 93) oY)⟩
def iD:Code:=⟨[44,15,31],[],none,
 (jF (.expr<|.aC ar 87<|aq oY) (.dh [11,12]<|.aC ar 88<|aq bq) (.asg 48<|.call 65<|au (.attr ar 69)<|.glob 73) (.expr<|.call 57<|aR (.attr ar 69) aO<|.new 5<|GG (.glob 74) oY (.int 0) (.int 2) bJ<|au (.attr ar 8)<|.attr ar 8) (.expr<|.call 61<|C6 (.attr ar 69) bJ ba aO<|.glob 74)<|cx (.expr<|.aC ar 91<|au bJ<|.int 1)<|.ret aO)⟩
def nE:Code:=⟨[44,15,41],[],none,
 (jF (.asg 48<|.aC (.attr ar 78) 94<|au bq<|.bool false) (.asg 83<|.call 56<|au (.attr ar 69) aO) (.cI (.cmp .eq (.attr ci 86)<|.glob 74) (aD .fail) .nil) (.dh [11,12]<|.aC ar 88<|aq<|.var 41) (.expr<|.call 61<|C6 (.attr ar 69) bJ ba aO<|.attr ci 86)<|cx (.expr<|.aC ar 91<|au aO<|.int 1)<|.expr<|.aC ar 91<|au bJ<|.int 0)⟩
def i7:Code:=⟨[44,15],[],none,
 (eL (.asg 48<|.aC (.attr ar 78) 94<|aq bq) (.cI (.cmp .eq (.attr (.call 56<|au (.attr ar 69) aO) 86)<|.glob 74) (aD .fail) .nil)<|.ret aO)⟩
def lh:Code:=⟨[44,15,49,32],[],none,
 (eL (.asg 48<|.aC ar 95<|aq bq) (.cI (.or<|au (.cmp .lt i0<|.int 0)<|.cmp .gt (.bin .add i0<|.bi .len<|aq bS)<|.glob 96) (aD .fail) .nil)<|.cI (.cmp .gt (.bi .len<|aq bS)<|.int 0) (cx (.expr<|.aC (.attr ar 69) 33<|aR aO i0 bS)<|.expr<|.aC ar 91<|aR aO (.int 0)<|.bi .max<|au (.attr (.call 56<|au (.attr ar 69) aO) 82)<|.bin .add i0<|.bi .len<|aq bS) .nil)⟩
def iE:Code:=⟨[44,15,31],[],none,
 (td (.expr<|.aC ar 87<|aq oY) (.asg 48<|.aC (.attr ar 78) 94<|aq bq) (.asg 83<|.call 56<|au (.attr ar 69) aO) (.uV ci 31 ci 84<|.tup<|au oY<|.attr ar 8)<|.expr<|.call 57<|aR (.attr ar 69) aO ci)⟩
def gN:Code:=⟨[44,48],[],none,
 (cx (.cI (.cmp .gt (.attr (.aC ar 91<|au aO<|.neg 1) 81)<|.int 0) (aD .qO) .nil)<|.cI (.cmp .isin aO<|.attr ar 80) (aD .fail)<|aD<|.expr<|.aC (.attr ar 69) 97<|aq aO)⟩
def jK:Code:=⟨[44,15],[],none,
 (td (.dh [11,12]<|.call 47<|aR (.attr ar 69) (.attr (.attr ar 78) 72) bq) (.cI (.cmp .eq (.attr (.call 56<|au (.attr ar 69)<|.aC (.attr ar 78) 94<|au bq<|.bool false) 86)<|.glob 74) (aD .fail) .nil) (.dh [48,86]<|.call 62<|aR (.attr ar 69) bJ ba) (.expr<|.aC ar 91<|au bJ<|.int 0)<|.expr<|.aC ar 98<|aq aO)⟩
def gz:Code:=⟨[44,15],[],none,
 (jF (.dh [11,12]<|.call 47<|aR (.attr ar 69) (.attr (.attr ar 78) 72) bq) (.asg 48<|.aC (.attr ar 78) 94<|au bq<|.bool false) (.expr<|.call 45<|aR (.attr ar 69) aO bq) (.cI (.not<|.call 64<|au (.attr ar 69) aO) (aD .fail) .nil) (.expr<|.call 62<|aR (.attr ar 69) bJ ba)<|cx (.expr<|.aC ar 91<|au bJ<|.neg 1)<|.expr<|.aC (.attr ar 69) 97<|aq aO)⟩
def jM:Code:=⟨[44,15,41],[],none,
 (jF (.dh [11,12]<|.call 47<|aR (.attr ar 69) (.attr (.attr ar 78) 72) bq) (.asg 48<|.aC (.attr ar 78) 94<|au bq<|.bool false) (.dh [19,99]<|.call 47<|aR (.attr ar 69) (.attr (.attr ar 78) 72)<|.var 41) (.expr<|.call 59<|aq<|.var 99) (.dh [83,100]<|.tup<|au (.call 56<|au (.attr ar 69) aO)<|.call 60<|aR (.attr ar 69) (.var 19)<|.var 99)<|te (.cI (.and<|au (.cmp .eq (.attr ci 86)<|.glob 74)<|.call 48<|aR (.attr ar 69) (.var 19) aO) (aD .fail) .nil) (.cI (.and<|au (.cmp .oQ (.var 100) .none)<|.cmp .eq (.sub (.var 100)<|.int 0) aO) (aD .qO) .nil) (.cI (.cmp .oQ (.var 100) .none) (aD .fail) .nil) (.expr<|.call 62<|aR (.attr ar 69) bJ ba) (.expr<|.call 61<|C6 (.attr ar 69) (.var 19) (.var 99) aO<|.attr ci 86)<|.expr<|.aC ar 101<|aR aO bJ<|.var 19)⟩
def li:Code:=⟨[44,48,11,19],[],none,
 (te (.asg 83<|.call 56<|au (.attr ar 69) aO) (.asg 23<|.bi .int<|aq<|.cmp .eq (.attr ci 86)<|.glob 74) (.uV ci 102 ci 84<|.tup<|au (.var 19)<|.attr ar 8) (.expr<|.call 57<|aR (.attr ar 69) aO ci) (.expr<|.aC ar 91<|au bJ<|.bin .sub (.int 0) jG)<|.expr<|.aC ar 91<|au (.var 19) jG)⟩
def iF:Code:=⟨[44,103],[],none,
 (cx (.bn ar 103 dH)<|.bn ar 72<|.call 68<|aR dH (.glob 71)<|.glob 75)⟩
def nG:Code:=⟨[44,15,104],[.bool true],none,
 (aD<|.ret<|.call 46<|nB (.attr ar 103) (.attr ar 72) bq<|.var 104)⟩
def jN:Code:=⟨[44,48,49,23],[],none,
 (eL (.cI (.or<|au (.cmp .lt i0<|.int 0)<|.cmp .lt jG<|.int 0) (aD .fail) .nil) (.asg 82<|.attr (.call 56<|au (.attr ar 103) aO) 82)<|.ret<|.aC (.attr ar 103) 105<|aR aO i0<|.bi .max<|au (.int 0)<|.bi .min<|au jG<|.bin .sub i4 i0)⟩
def lj:Code:=⟨[44,15,48,102],[],(some 24),
 (iZ (.asg 83<|.call 56<|au (.attr ar 103) aO) (.iX 24<|aq<|.tup<|nB bq aO (.var 102) ci) (.cI (.cmp .eq (.attr ci 86)<|.glob 74) (aD<|.dU [12,106,86] (.val<|.call 63<|au (.attr ar 103) aO)<|aD<|.kV 24<|.aC ar 107<|aR (.ite (.cmp .ne bq<|.str [47]) (.bin .add (.bin .add bq<|.str [47]) ba)<|.bin .add (.str [47]) ba) (.var 106) aO) .nil)<|.yc 24)⟩
def gO:Code:=⟨[44],[],none,
 (aD<|.ret<|.aC ar 107<|aR (.str [47]) (.attr ar 72)<|.attr ar 72)⟩
def yh:Code:=⟨[15],[],none,
 (aD<|.ret<|.comp false ba [12] (.val<|.bm .split bq<|aq<|.str [47])<|aq<|.cmp .ne ba<|.str [])⟩
def qR:Code:=⟨[103,48,15],[],none,
 (aD<|.cI (.cmp .ne (.attr (.call 56<|au dH aO) 86)<|.glob 74) (aD .fail) .nil)⟩
def C7:Code:=⟨[103,72,15,104],[],none,
 (eL (.dh [56,108,23]<|.tup<|aR (.var 72) (.call 44<|aq bq)<|.int 0) (.kU (.cmp .ne (.var 108)<|.cK false .nil)<|jF (.dh [12,108]<|.tup<|au (.sub (.var 108)<|.int 0)<|.slice (.var 108) (.int 1) .none) (.expr<|.call 45<|aR dH (.var 56) bq) (.cI (.cmp .eq ba<|.str [46]) (aD .cont) .nil) (.cI (.cmp .eq ba<|.str [46,46]) (cx (.asg 56<|.attr (.call 56<|au dH<|.var 56) 102) .cont) .nil) (.asg 24<|.call 60<|aR dH (.var 56) ba)<|cx (.cI (.cmp .IQ dW .none) (aD .fail) .nil)<|.cI (.and<|au (.cmp .eq (.sub dW<|.int 1)<|.glob 109)<|.or<|au (.cmp .ne (.var 108)<|.cK false .nil)<|.var 104) (iZ .fail .fail .fail .fail)<|aD<|.asg 56<|.sub dW<|.int 0)<|.ret<|.var 56)⟩
def yi:Code:=⟨[103,72,15],[],none,
 (td (.asg 13<|.call 44<|aq bq) (.cI (.or<|au (.cmp .eq oX<|.cK false .nil)<|.cmp .isin (.sub oX<|.neg 1)<|.tup<|au (.str [46])<|.str [46,46]) (aD .fail) .nil) (.asg 11<|.call 46<|nB dH (.var 72) (.bm .join (.str [47])<|aq<|.slice oX .none<|.neg 1)<|.bool true) (.expr<|.call 45<|aR dH bJ bq)<|.ret<|.tup<|au bJ<|.sub oX<|.neg 1)⟩
def u9:Code:=⟨[103,48,41],[],none,
 (cx (.kU (.cmp .ne aO<|.var 41)<|eL (.asg 102<|.attr (.call 56<|au dH aO) 102) (.cI (.cmp .eq (.var 102) aO) (aD<|.ret<|.bool false) .nil)<|.asg 48<|.var 102)<|.ret<|.bool true)⟩
def C8:Code:=⟨[48,83],[],none,
 (aD<|.ret<|.tup<|au aO<|.attr ci 110)⟩
def yj:Code:=⟨[111,48,83,112],[],none,
 (eL (.cI (.cmp .ne (.attr ci 86)<|.glob 74) (aD<|.ret<|.tup<|aR (.attr ci 86) (.attr ci 31)<|.aC (.var 111) 32<|aR aO (.int 0)<|.attr ci 82) .nil) (.asg 36<|.comp false (.tup<|au ba<|.sub dI<|.var 106) [12,106,86] (.val<|.call 63<|au (.attr (.var 111) 103) aO) .nil)<|.ret<|.tup<|aR (.attr ci 86) (.attr ci 31)<|.bi .tuple<|aq<|.var 36)⟩
def vd:Code:=⟨[111],[],(some 24),
 (td (.asg 36<|.aC (.var 111) 113 .nil) (.asg 112<|.bi (.dict .int)<|aq<|.comp false (.tup<|au aO<|.call 49<|au aO ci) [15,48,11,83] (.val<|.var 36) .nil) (.iX 24 .nil) (.dU [15,48,11,83] (.val<|.var 36)<|aD<|.eP 24<|.tup<|nB bq (.sub dI aO) (.sub dI bJ)<|.call 50<|nB (.var 111) aO ci dI)<|.yc 24)⟩
def nH:Code:=⟨[6,9],[],none,
 (aD<|.ret<|.call 95<|au (.call 51<|aq zN)<|.call 51<|aq zP)⟩
def lm:Code:=⟨[44,86,31,82,81,102,110,84],[],none,
 (jF (.bn ar 86<|.var 86) (.bn ar 31 oY) (.bn ar 82 i4) (.bn ar 81<|.var 81) (.bn ar 102<|.var 102)<|cx (.bn ar 110<|.var 110)<|.bn ar 84<|.var 84)⟩
def o6:Code:=⟨[83],[],none,
 (jF (.asg 114<|.new 6 .nil) (.expr<|.aC eQ 48<|au (.attr ci 86)<|.int 1) (.expr<|.aC eQ 48<|au (.attr ci 31)<|.int 2) (.expr<|.aC eQ 48<|au (.attr ci 82)<|.int 4) (.expr<|.aC eQ 48<|au (.attr ci 81)<|.int 2)<|iZ (.expr<|.aC eQ 48<|au (.attr ci 102)<|.int 4) (.expr<|.aC eQ 48<|au (.attr ci 110)<|.int 4) (.expr<|.aC eQ 48<|au (.attr ci 84)<|.int 4)<|.ret<|.aC eQ 54 .nil)⟩
def yk:Code:=⟨[32],[],none,
 (te (.cI (.cmp .ne (.bi .len<|aq bS)<|.glob 115) (aD .fail) .nil) (.asg 116<|.new 7<|aq bS) (.dh [86,31,82]<|.tup<|aR (.aC (.var 116) 48<|aq<|.int 1) (.aC (.var 116) 48<|aq<|.int 2)<|.aC (.var 116) 48<|aq<|.int 4) (.dh [81,102,110,84]<|.tup<|nB (.aC (.var 116) 48<|aq<|.int 2) (.aC (.var 116) 48<|aq<|.int 4) (.aC (.var 116) 48<|aq<|.int 4)<|.aC (.var 116) 48<|aq<|.int 4) (.cI (.cmp .gt (.var 86)<|.glob 109) (aD .fail) .nil)<|.ret<|.new 5<|GG (.var 86) oY i4 (.var 81) (.var 102)<|au (.var 110)<|.var 84)⟩
def tu:Code:=⟨[103,48],[],none,
 (aD<|.ret<|.call 55<|aq<|.attr (.aC dH 50<|aq aO) 53)⟩
def qS:Code:=⟨[69,48,83],[],none,
 (aD<|.expr<|.aC eM 117<|au aO<|.call 54<|aq ci)⟩
def nJ:Code:=⟨[12],[],none,
 (cx (.cI (.or<|au (.not<|.chain .le .le (.int 1) (.bi .len<|aq ba)<|.glob 118)<|.cmp .isin ba<|.tup<|au (.str [46])<|.str [46,46]) (aD<|.ret<|.bool false) .nil)<|.ret<|.bi .all<|aq<|.comp false (.and<|au (.chain .le .lt (.int 32) (.bi .ord<|aq<|.var 119)<|.int 127)<|.cmp .ne (.var 119)<|.str [47]) [119] (.val ba) .nil)⟩
def jO:Code:=⟨[12],[],none,
 (aD<|.cI (.not<|.call 58<|aq ba) (aD .fail) .nil)⟩
def A1:Code:=⟨[103,11,12],[],none,
 (cx (.asg 24<|.ite (.call 58<|aq ba) (.call 68<|aR dH bJ ba) .none)<|.ret<|.ite (.cmp .IQ dW .none) .none<|.tup<|au (.bin .div dW<|.glob 120)<|.bin .mod dW<|.glob 120)⟩
def ve:Code:=⟨[69,11,12,48,86],[],none,
 (cx (.expr<|.call 59<|aq ba)<|.expr<|.call 66<|nB eM bJ ba<|.bin .add (.bin .mul aO<|.glob 120)<|.var 86)⟩
def tv:Code:=⟨[69,11,12],[],none,
 (iZ (.asg 24<|.call 60<|aR eM bJ ba) (.cI (.cmp .IQ dW .none) (aD .fail) .nil) (.expr<|.call 67<|aR eM bJ ba)<|.ret dW)⟩
def A2:Code:=⟨[103,11],[],none,
 (aD<|.ret<|.comp false (.tup<|aR ba (.bin .div dW<|.glob 120)<|.bin .mod dW<|.glob 120) [12,24] (.val<|.call 69<|au dH bJ) .nil)⟩
def ym:Code:=⟨[103,11],[],none,
 (aD<|.ret<|.cmp .eq (.call 69<|au dH bJ)<|.cK false .nil)⟩
def A3:Code:=⟨[69,51],[],none,
 (iZ (.asg 82<|.attr (.attr eM 45) 67) (.asg 121<|.aC eM 89<|au (.var 51) i4) (.expr<|.aC eM 33<|aR eR (.int 0)<|.call 72<|aR (.call 89<|aq eR) (.cK false .nil) i4)<|.ret eR)⟩
def A4:Code:=⟨[69,121,12,48],[],none,
 (te (.expr<|.call 74<|au ba aO) (.asg 32<|.call 70<|au eM eR) (.cI (.cmp .ne (.call 71<|aq bS)<|.glob 122) (cx .fail .fail) .nil) (.asg 36<|.sorted false<|.val<|.bin .add (.comp false k9 [14] (.val<|.call 73<|aq bS)<|aq<|.cmp .ne (.sub k9<|.int 0) ba)<|.cK false<|aq<|.tup<|au ba aO) (.asg 110<|.call 72<|aR (.call 89<|aq eR) (.var 36)<|.bi .len<|aq bS)<|.cI (.cmp .oQ (.var 110) .none) (aD<|.expr<|.aC eM 33<|aR eR (.int 0)<|.var 110)<|cx .fail .fail)⟩
def yn:Code:=⟨[69,121,12],[],none,
 (jF (.cI (.cmp .IQ (.call 68<|aR eM eR ba) .none) (aD .fail) .nil) (.asg 32<|.call 70<|au eM eR) (.cI (.cmp .eq (.call 71<|aq bS)<|.glob 122) (eL (.asg 36<|.comp false k9 [14] (.val<|.call 73<|aq bS)<|aq<|.cmp .ne (.sub k9<|.int 0) ba) (.expr<|.aC eM 33<|aR eR (.int 0)<|.call 72<|aR (.call 89<|aq eR) (.var 36)<|.bi .len<|aq bS) .qO) .nil) .fail .fail<|iZ .fail .fail .fail .fail)⟩
def yo:Code:=⟨[103,121,12],[],none,
 (te (.asg 32<|.call 70<|au dH eR) (.cI (.cmp .eq (.call 71<|aq bS)<|.glob 122) (cx (.asg 24<|.comp false aO [123,48] (.val<|.call 73<|aq bS)<|aq<|.cmp .eq (.var 123) ba)<|.ret<|.ite (.cmp .ne dW<|.cK false .nil) (.sub dW<|.int 0) .none) .nil) .fail .fail .fail .fail)⟩
def A5:Code:=⟨[103,121],[],none,
 (td (.asg 32<|.call 70<|au dH eR) (.cI (.cmp .eq (.call 71<|aq bS)<|.glob 122) (aD<|.ret<|.sorted false<|.val<|.call 73<|aq bS) .nil) .fail .fail .fail)⟩
def qT:Code:=⟨[103,121],[],none,
 (aD<|.ret<|.aC dH 105<|aR eR (.int 0)<|.attr (.aC dH 50<|aq eR) 52)⟩
def A6:Code:=⟨[32],[],none,
 (cx (.cI (.cmp .c8 (.sub bS<|.int 0)<|.tup<|au (.glob 122)<|.glob 124) (aD .fail) .nil)<|.ret<|.sub bS<|.int 0)⟩
def o7:Code:=⟨[125,36,82],[],none,
 (jF (.asg 114<|.new 6 .nil) (.expr<|.aC eQ 48<|au (.glob 122)<|.int 1) (.expr<|.aC eQ 48<|au (.var 125)<|.int 4) (.expr<|.aC eQ 48<|au (.bi .len<|aq<|.var 36)<|.int 2) (.dU [12,48] (.val<|.var 36)<|cx (.expr<|.aC eQ 123<|aq ba)<|.expr<|.aC eQ 48<|au aO<|.glob 126)<|cx (.asg 32<|.aC eQ 54 .nil)<|.ret<|.ite (.cmp .le (.bi .len<|aq bS) i4) (.call 75<|au bS i4) .none)⟩
def ty:Code:=⟨[32],[],(some 24),
 (eL (.oi 116 (.new 7<|au bS<|.glob 127) 24 .nil) (.dU [128] (.range<|.call 76<|aq<|.slice bS (.int 5)<|.int 7)<|cx (.asg 12<|.aC (.var 116) 123 .nil)<|.eP 24<|.tup<|au ba<|.aC (.var 116) 48<|aq<|.glob 126)<|.yc 24)⟩
def yp:Code:=⟨[12,48],[],none,
 (cx (.cI (.not<|.chain .lt .le (.int 0) (.bi .len<|aq<|.call 78<|aq ba)<|.glob 129) (aD .fail) .nil)<|.cI (.not<|.chain .le .lt (.int 0) aO<|.bin .pow (.int 256)<|.glob 126) (aD .fail) .nil)⟩
def C9:Code:=⟨[32,82],[],none,
 (cx (.cI (.cmp .gt (.bi .len<|aq bS) i4) (aD .fail) .nil)<|.ret<|.bin .add (.bi .bytes<|aq bS)<|.bi .bytes<|aq<|.bin .sub i4<|.bi .len<|aq bS)⟩
def vf:Code:=⟨[32],[],none,
 (aD<|.ret<|.bi .sum<|aq<|.comp false (.bin .shl (.var 131)<|.bin .mul (.int 8)<|.var 130) [130,131] (.enum bS) .nil)⟩
def vg:Code:=⟨[48,82],[],none,
 (cx (.cI (.not<|.chain .le .lt (.int 0) aO<|.bin .pow (.int 256) i4) (aD .fail) .nil)<|.ret<|.bi .bytes<|aq<|.comp false (.bin .band (.bin .shr aO<|.bin .mul (.int 8)<|.var 130)<|.int 255) [130] (.range i4) .nil)⟩
def qU:Code:=⟨[123],[],none,
 (eL (.asg 132<|.comp false (.bi .ord<|aq<|.var 119) [119] (.val<|.var 123) .nil) (.cI (.not<|.bi .all<|aq<|.comp false (.chain .le .lt (.int 32) (.var 133)<|.int 127) [133] (.val<|.var 132) .nil) (aD .fail) .nil)<|.ret<|.bi .bytes<|aq<|.var 132)⟩
def qV:Code:=⟨[32],[],none,
 (cx (.cI (.not<|.bi .all<|aq<|.comp false (.chain .le .lt (.int 32) (.var 131)<|.int 127) [131] (.val bS) .nil) (aD .fail) .nil)<|.ret<|.bm .join (.str [])<|aq<|.comp false (.bi .chr<|aq<|.var 131) [131] (.val bS) .nil)⟩
def nK:Code:=⟨[44],[],none,
 (aD<|.bn ar 32<|.bi .bytearray .nil)⟩
def qW:Code:=⟨[44,48,82],[],none,
 (aD<|.expr<|.bm .extend (.attr ar 32)<|aq<|.call 77<|au aO i4)⟩
def vk:Code:=⟨[44,123],[],none,
 (eL (.asg 32<|.call 78<|aq<|.var 123) (.expr<|.aC ar 48<|au (.bi .len<|aq bS)<|.int 1)<|.expr<|.bm .extend (.attr ar 32)<|aq bS)⟩
def tz:Code:=⟨[44],[],none,
 (aD<|.ret<|.bi .bytes<|aq<|.attr ar 32)⟩
def jP:Code:=⟨[44,32,49],[.int 0],none,
 (cx (.bn ar 32 bS)<|.bn ar 49 i0)⟩
def qY:Code:=⟨[44],[],none,
 (aD<|.ret<|.bin .sub (.bi .len<|aq<|.attr ar 32)<|.attr ar 49)⟩
def qZ:Code:=⟨[44,23],[],none,
 (iZ (.cI (.cmp .gt jG<|.aC ar 134 .nil) (aD .fail) .nil) (.asg 24<|.bi .bytes<|aq<|.slice (.attr ar 32) (.attr ar 49)<|.bin .add (.attr ar 49) jG) (.bn ar 49<|.bin .add (.attr ar 49) jG)<|.ret dW)⟩
def nM:Code:=⟨[44,82],[],none,
 (aD<|.ret<|.call 76<|aq<|.aC ar 135<|aq i4)⟩
def rb:Code:=⟨[44],[],none,
 (aD<|.ret<|.call 79<|aq<|.aC ar 135<|aq<|.aC ar 48<|aq<|.int 1)⟩
def A7:Code:=⟨[48],[],none,
 (aD<|.ret<|.bin .mod (.bin .add (.bin .mul aO<|.int 2654435761)<|.int 40503)<|.bin .pow (.int 2)<|.glob 136)⟩
def gP:Code:=⟨[44,36],[],none,
 (iZ (.bn ar 13<|.dict .AU .nil) (.bn ar 137<|.dict .oP .nil) (.bn ar 35<|.dict .oP .nil)<|.dU [15,112,11,138] (.val<|.var 36)<|eL (.fg (.attr ar 13) (.tup<|aR bJ (.sub (.bm .split bq<|aq<|.str [47])<|.neg 1) dI) bq) (.fg (.attr ar 137) dI<|.bin .add (.bm .get (.attr ar 137)<|au dI<|.cK false .nil)<|.cK false<|aq bq)<|.fg (.attr ar 35) dI<|.var 138)⟩
def lr:Code:=⟨[44,41],[],none,
 (eL (.asg 24<|.dict .oP .nil) (.dU [12] (.val<|.attr ar 13)<|aD<|.cI (.cmp .c8 ba<|.attr (.var 41) 13) (aD<|.fg dW (.sub ba<|.int 2)<|.bin .add (.bm .get dW<|au (.sub ba<|.int 2)<|.cK false .nil)<|.cK false<|aq<|.sub (.attr ar 13) ba) .nil)<|.ret<|.bi (.dict .oP)<|aq<|.comp false (.tup<|au dI<|.sorted false<|.val<|.sub dW dI) [112] (.val dW) .nil)⟩
def vm:Code:=⟨[39,43],[],none,
 (eL (.asg 23<|.bi .min<|au (.bi .len<|aq<|.var 39)<|.bi .len<|aq<|.var 43) (.asg 24<|.comp false (.tup<|aR A0 (.glob 139)<|.var 41) [4,41] (.zip (.var 39)<|.var 43) .nil)<|.ret<|.bin .add (.bin .add dW<|.comp false (.tup<|aR bq (.glob 140)<|.str []) [15] (.val<|.slice (.var 39) jG .none) .nil)<|.comp false (.tup<|aR bq (.glob 141)<|.str []) [15] (.val<|.slice (.var 43) jG .none) .nil)⟩
def rc:Code:=⟨[6,9],[],none,
 (cx (.asg 142<|.comp true dI [112] (.val<|.attr zP 35)<|aq<|.cmp .isin dI<|.attr zN 35)<|.ret<|.comp true (.tup<|aR (.sub (.sorted false<|.val<|.sub (.attr zP 137) dI)<|.int 0) (.glob 143)<|.str []) [112] (.val<|.var 142)<|aq<|.cmp .ne (.sub (.attr zN 35) dI)<|.sub (.attr zP 35) dI)⟩
def vn:Code:=⟨[6,9],[],none,
 (eL (.dh [39,43,24]<|.tup<|aR (.aC zN 144<|aq zP) (.aC zP 144<|aq zN)<|.call 93<|au zN zP) (.dU [112] (.val<|.sorted false<|.val<|.bi (.dict .oP)<|aq<|.comp false (.tup<|au (.var 145)<|.int 0) [145] (.val<|.bin .add (.bi .list<|aq<|.var 39)<|.bi .list<|aq<|.var 43) .nil)<|aD<|.expr<|.bm .extend dW<|aq<|.call 92<|au (.bm .get (.var 39)<|au dI<|.cK false .nil)<|.bm .get (.var 43)<|au dI<|.cK false .nil)<|.ret<|.sorted false<|.val dW)⟩
def o8:Code:=⟨[6,9],[],none,
 (cx (.asg 36<|.call 94<|au (.new 8<|aq zN)<|.new 8<|aq zP)<|.ret<|.comp false (.ite (.cmp .eq (.var 146)<|.glob 139) (.tup<|aR (.var 146) bq<|.var 41)<|.tup<|au (.var 146) bq) [15,146,41] (.val<|.var 36) .nil)⟩
def gQ:List Code:=[IW,mG,u0,ti,u4,tj,u5,u6,dJ,u7,i5,jH,oZ,qP,jI,qQ,i6,tm,o5,lg,yg,iz,u8,iA,eS,gK,gM,iC,jJ,iD,nE,i7,lh,iE,gN,jK,gz,jM,li,iF,nG,jN,lj,gO,yh,qR,C7,yi,u9,C8,yj,vd,nH,lm,o6,yk,tu,qS,nJ,jO,A1,ve,tv,A2,ym,A3,A4,yn,yo,A5,qT,A6,o7,ty,yp,C9,vf,vg,qU,qV,nK,qW,vk,tz,jP,qY,qZ,nM,rb,A7,gP,lr,vm,rc,vn,o8]
noncomputable def fK:List Nat:=[11,19,21,23,39,53,80,84,90]
noncomputable def mH:List (List<|Nat×Nat):=[[(50,12),(105,13),(89,14),(97,15),(117,16),(57,17),(33,18)],[],[],[(91,24),(88,25),(87,26),(92,27),(27,28),(26,29),(21,30),(95,31),(33,32),(34,33),(98,34),(29,35),(28,36),(22,37),(101,38)],[(94,40),(32,41),(107,42),(113,43)],[],[(48,81),(123,82),(54,83)],[(134,85),(135,86),(48,87),(123,88)],[(144,91)]]
noncomputable def o9:List (List Nat):=[[49,52,53,84,66,63,46,61,51,81,110,23,31,55,64,13,8,69,32,80,102,137,60,62,72,58,78,45,59,86,35,47,65,79,103,67],[49,52,53,84,66,63,46,61,51,81,110,23,31,55,64,13,8,69,32,80,102,137,60,62,72,58,78,45,82,59,86,35,47,65,79,103,67],[49,52,53,84,66,63,46,61,51,81,110,23,31,55,64,13,8,69,32,80,102,137,60,62,72,58,78,45,82,59,86,35,47,65,79,103,67],[49,52,53,84,66,63,46,61,51,81,110,23,31,55,64,13,8,69,32,80,102,137,60,62,72,58,78,45,82,59,86,35,47,65,79,103,67],[49,52,53,84,66,63,46,61,51,81,110,23,31,55,64,8,69,80,102,137,60,62,72,58,78,45,82,59,86,35,47,65,79,103,67],[49,52,53,84,66,63,46,61,51,81,110,23,31,55,64,13,8,69,32,80,102,137,60,62,72,58,78,45,82,59,86,35,47,65,79,103,67],[49,52,53,84,66,63,46,61,51,81,110,23,31,55,64,13,8,69,32,80,102,137,60,62,72,58,78,45,82,59,86,35,47,65,79,103,67],[49,52,53,84,66,63,46,61,51,81,110,23,31,55,64,13,8,69,32,80,102,137,60,62,72,58,78,45,82,59,86,35,47,65,79,103,67],[49,52,53,84,66,63,46,61,51,81,110,23,31,55,64,13,8,69,32,80,102,137,60,62,72,58,78,45,82,59,86,35,47,65,79,103,67]]
noncomputable def globT:List (Nat×V):=[(136,.int 32),(141,.str [43]),(124,.int 2),(90,.int 8),(93,.int 0),(73,.int 9),(74,.int 1),(109,.int 2),(129,.int 28),(70,.int 14),(71,.int 1),(122,.int 1),(127,.int 7),(85,.int 65535),(118,.int 28),(96,.int 4294967295),(139,.str [82]),(126,.int 8),(75,.str [114,111,111,116]),(120,.int 4),(143,.str [77]),(77,.int 15),(76,.str [117,110,108,105,110,107,101,100]),(140,.str [45]),(115,.int 21)]
noncomputable def yq:List String:=["script","sets","trees","world","one","digit","old","views","now","new","way","folder","name","names","row","path","within","thing","is_free","goal","tree","link","rename","many","found","is_folder","make_dir","create","remove_dir","remove","x","mode","octets","write","set_mode","states","rows","had","has","went","key","other","where","came","self","shape","dnodes","top","number","at","dnode","kind","block","bonus","whole","most","here","put","sector","slab","record","fan","ring","defer","most_record","uber","config","zap","to","objset","MASTER","MASTER_OBJECT","root","FOLDER","FOLDER_SORT","ROOT_NAME","UNLINKED_NAME","UNLINKED","seen","unlinked","opened","links","size","znode","changed","MOST_MODE","sort","want_mode","place_for","add","FILE","change","add_file","FILE_SORT","find","file_at","MOST_SIZE","drop","drop_name","goal_name","there","moved","parent","view","follows","read","child","below","todo","LINK_SORT","made","files","who","all_paths","sink","ZNODE","cursor","set_bonus","MOST_SIGNS","sign","SORTS","object_now","MICRO","text","FAT","salt","NUMBER","MICRO_HEAD","turn","LONGEST","place","octet","points","point","left","take","BITS","paths","state","MOVED","WENT","CAME","both","TURNED","only","some","mark","__init__","is_there","objects","cut","symlink","truncate","make_room","open_file","shut_file","clear_unlinked","stat","target","contents","plain"]
noncomputable def M4:List String:=["law","_law_deed","_law_pick","_law_names","_law_path","_law_below","_law_make","_law_take","_law_turn","_law_told","_law_due","MemSet.__init__","MemSet.dnode","MemSet.read","MemSet.add","MemSet.drop","MemSet.set_bonus","MemSet.put","MemSet.write","Shape.__init__","round_up","MemDnode.__init__","make_tree","FileTree.__init__","FileTree.change","FileTree.place_for","FileTree.want_mode","FileTree.add_file","FileTree.create","FileTree.make_dir","FileTree.link","FileTree.file_at","FileTree.write","FileTree.set_mode","FileTree.drop_name","FileTree.remove","FileTree.remove_dir","FileTree.rename","FileTree.moved","FileView.__init__","FileView.find","FileView.octets","FileView.below","FileView.all_paths","parts_of","want_folder","walked","ahead_of","is_within","who_is","state_of","file_rows","names_changed","Znode.__init__","znode_octets","znode_of","load_znode","store_znode","is_entry_name","want_entry_name","look_up","put_entry","take_entry","entries","is_empty","new_zap","zap_put","zap_take","zap_find","zap_all","first_block","sort_of","micro_octets","micro_rows","want_row","padded","number_of","octets_of","text_octets","octets_text","Sink.__init__","Sink.number","Sink.text","Sink.whole","Cursor.__init__","Cursor.left","Cursor.take","Cursor.number","Cursor.text","salt_of","NameTable.__init__","NameTable.only","name_rows","turned_rows","diff_rows","rows_changed"]
noncomputable def P3:List (String×String):=[("","law"),("","_law_deed"),("","_law_pick"),("","_law_names"),("","_law_path"),("","_law_below"),("","_law_make"),("","_law_take"),("","_law_turn"),("","_law_told"),("","_law_due"),("MemSet","__init__"),("MemSet","dnode"),("MemSet","read"),("MemSet","add"),("MemSet","drop"),("MemSet","set_bonus"),("MemSet","put"),("MemSet","write"),("Shape","__init__"),("","round_up"),("MemDnode","__init__"),("","make_tree"),("FileTree","__init__"),("FileTree","change"),("FileTree","place_for"),("FileTree","want_mode"),("FileTree","add_file"),("FileTree","create"),("FileTree","make_dir"),("FileTree","link"),("FileTree","file_at"),("FileTree","write"),("FileTree","set_mode"),("FileTree","drop_name"),("FileTree","remove"),("FileTree","remove_dir"),("FileTree","rename"),("FileTree","moved"),("FileView","__init__"),("FileView","find"),("FileView","octets"),("FileView","below"),("FileView","all_paths"),("","parts_of"),("","want_folder"),("","walked"),("","ahead_of"),("","is_within"),("","who_is"),("","state_of"),("","file_rows"),("","names_changed"),("Znode","__init__"),("","znode_octets"),("","znode_of"),("","load_znode"),("","store_znode"),("","is_entry_name"),("","want_entry_name"),("","look_up"),("","put_entry"),("","take_entry"),("","entries"),("","is_empty"),("","new_zap"),("","zap_put"),("","zap_take"),("","zap_find"),("","zap_all"),("","first_block"),("","sort_of"),("","micro_octets"),("","micro_rows"),("","want_row"),("","padded"),("","number_of"),("","octets_of"),("","text_octets"),("","octets_text"),("Sink","__init__"),("Sink","number"),("Sink","text"),("Sink","whole"),("Cursor","__init__"),("Cursor","left"),("Cursor","take"),("Cursor","number"),("Cursor","text"),("","salt_of"),("NameTable","__init__"),("NameTable","only"),("","name_rows"),("","turned_rows"),("","diff_rows"),("","rows_changed")]
noncomputable def M5:List String:=["MemSet","Shape","MemDnode","FileTree","FileView","Znode","Sink","Cursor","NameTable"]
def P:Pg where
 code f:=gQ[f]?
 init c:=fK[c]?
 aC c m:=match mH[c]? with|some l=>l.lookup m|none=>none
 glob g:=globT.lookup g
 attr c x:=match o9[c]? with|some l=>l.contains x|none=>false
section
set_option backward.match.sparseCases false
abbrev VP:=V->Hp->Prop
abbrev cY:=Nat->List V->Hp->VP->Prop
inductive wO{α:Type}(o:Option α)(Q:α->Prop):Prop
 |of {a:α} (h:o=some a) (k:Q a)
def wM{α:Type}(o:Option α)(Q:α->Prop):Prop:=match o with|some a=>Q a|none=>False
inductive gF(b:Bool)(A B:Prop):Prop
 |of (h1:b=true->A) (h2:b=false->B)
def wB(b:Bool)(A:Prop):Prop:=match b with|true=>A|false=>False
def kH(H:Hp)(Q:VP):V->Prop:=λv=>Q v H
def kN(H:Hp)(Q:VP):Nat->Prop:=λn=>Q (.int n) H
def kB(H:Hp)(Q:VP):Bool->Prop:=λb=>Q (.bool b) H
def Su(Q:VP):Bool->Hp->Prop:=λb H=>Q (.bool b) H
def M6(op:Ms)(x y:V)(Q:V->Prop):Prop:=match op with
 |.add=>match x with
  |.int a=>wM (bx y) λb=>Q<|.int<|a+b|x=>wO (GE x y) Q
 |.sub=>wM (bx x) λa=>wM (bx y) λb=>Q<|.int<|a-b|op=>wO (k7 op x y) Q
def Gn(x y:V)(Q:Int->Int->Prop):Prop:=wM (bx x) λa=>wM (bx y) λb=>Q a b
def P4(op:CG)(x y:V)(H:Hp)(f:Bool->Bool)(Q:Bool->Prop):Prop:=match x with|.int a=>wM (bx y) λb=>Q (f<|decide (a=b))|.str a=>wM (gH y) λb=>Q<|f<|decide (a=b)|x=>wO (k8 op x y H) Q
def T9(x:V)(f:Bool->Bool)(Q:Bool->Prop):Ob->Prop
 |.dict kd d=>wB (keyOk kd x)<|Q<|f<|bR d x|_=>False
def P5(op:CG)(x y:V)(H:Hp)(f:Bool->Bool)(Q:Bool->Prop):Prop:=match y with|.ref a=>wO (rd H a)<|T9 x f Q|y=>wO (k8 op x y H) Q
def yr(op:CG)(x y:V)(H:Hp)(Q:Bool->Prop):Prop:=match op with|.eq=>P4 .eq x y H id Q|.ne=>P4 .ne x y H (!·) Q|.lt=>Gn x y λa b=>Q (decide (a<b))|.le=>Gn x y λa b=>Q (decide (a<=b))|.gt=>Gn x y λa b=>Q (decide (b<a))|.ge=>Gn x y λa b=>Q (decide (b<=a))|.IQ=>wB (gI y) (Q<|gI x)|.oQ=>wB (gI y) (Q<|!gI x)|.isin=>P5 .isin x y H id Q|.c8=>P5 .c8 x y H (!·) Q
def P6(i:V)(Q:V->Prop):Ob->Prop
 |.dict kd d=>wB (keyOk kd i) (wO (bI d i) Q)|.list l=>wO (GF l i) Q|_=>False
def JT(x i:V)(H:Hp)(Q:V->Prop):Prop:=match x with|.ref a=>wO (rd H a)<|P6 i Q|x=>wO (oS x i H) Q
def M7(Q:Nat->List (Nat×V)->Prop):Ob->Prop
 |.inst c f=>Q c f|_=>False
def zQ(x:V)(H:Hp)(Q:Nat->List (Nat×V)->Prop):Prop:=match x with|.ref a=>wO (rd H a)<|M7 Q|_=>False
def M8(a f:Nat)(v:V)(H:Hp)(Q:Hp->Prop):Ob->Prop
 |.inst c s=>wB (P.attr c f&&Nat.blt s.length 1000)<|Q<|H.set a<|.inst c<|yf s f v|_=>False
def rO(x:V)(f:Nat)(v:V)(H:Hp)(Q:Hp->Prop):Prop:=match x with|.ref a=>wO (H[a]?) (M8 a f v H Q)|_=>False
def M9(a:Nat)(i v:V)(H:Hp)(Q:Hp->Prop):Ob->Prop
 |.dict k d=>wB (keyOk k i) (gF (decide (d.length<1000000)) (Q<|H.set a<|.dict k<|dput d i v) False)|.list l=>wM (bx i) λi=>gF (decide (0<=i/\i<l.length)) (Q<|H.set a<|.list<|l.set i.toNat v) False|_=>False
def Da(x i v:V)(H:Hp)(Q:Hp->Prop):Prop:=match x with|.ref a=>wO (H[a]?) (M9 a i v H Q)|_=>False
def P7(Q:Nat->Prop):Ob->Prop
 |.list l=>Q l.length|.dict _ d=>Q d.length|_=>False
def P8(x:V)(H:Hp)(Q:Nat->Prop):Prop:=match x with|.ref a=>wO (rd H a) (P7 Q)|.lst l=>Q l.length|.str l=>Q l.length|.bytes l=>Q l.length|_=>False
def Na(Q:List UInt8->Prop):Ob->Prop
 |.iy b=>Q b|_=>False
def P9(x:V)(H:Hp)(Q:List UInt8->Prop):Prop:=match x with|.int i=>gF (decide (0<=i/\i<=1000000)) (Q<|List.replicate i.toNat 0) False|.bytes b=>Q b|.ref a=>wO (rd H a) (Na Q)|.lst l=>wO (rN l) λs=>gF (s.all λi=>decide (0<=i/\i<256)) (Q<|s.map λi=>UInt8.ofNat i.toNat) False|_=>False
def Nb(Q:List V->Prop):Ob->Prop
 |.dict _ d=>Q<|d.map (·.1)|_=>False
def kL(H:Hp)(Q:VP):List V->Prop:=λl=>Q (.lst l) H
def kY(H:Hp)(Q:VP):List UInt8->Prop:=λl=>Q (.bytes l) H
def Sv(b:B)(l:List V)(H:Hp)(Q:VP):Prop:=match b with
 |.len=>wM (one l) λx=>P8 x H (kN H Q)|.list=>wM (one l) λx=>wM (rK x) λa=>wO (rd H a) (Nb<|kL H Q)|.dict k=>wM (one l) λx=>wM (bP x) λm=>wO (oU m) λz=>gF (z.all (λe=>keyOk k e.1)&&decide (z.length<=1000000)) (Q (.ref H.length)<|H++[.dict k<|z.foldl (λd e=>dput d e.1 e.2) []]) False|.bytes=>wM (one l) λx=>P9 x H (kY H Q)|.bytearray=>match l with
  |[]=>Q (.ref H.length)<|H++[.iy []]|_=>False
 |.tuple=>wM (one l) λx=>wM (bP x) λm=>Q (.tup m) H|.max=>wM (two l) λp=>Gn p.1 p.2 λa b=>Q (.int<|if a<b then b else a) H|.min=>match two l with
  |some p=>Gn p.1 p.2 λa b=>Q (.int<|if b<a then b else a) H|none=>wM (one l) λx=>wM (bP x) λm=>wO (strs? m) λl=>match l with|x::r=>Q (.str<|dj x r) H|[]=>False
 |.sum=>wM (one l) λx=>wM (bP x) λm=>wO (rN m) λI=>Q (.int<|I.foldl (·+·) 0) H|.all=>wM (one l) λx=>wM (bP x) λm=>wO (oT m) λy=>Q (.bool<|y.all id) H|.int=>wM (one l) λx=>wM (cz x) λb=>wO (some (if b then 1 else 0:Int)) λi=>Q (.int i) H|.ord=>wM (one l) λx=>wM (gH x) λs=>wM (one s) λc=>Q (.int c) H|.chr=>wM (one l) λx=>wM (bx x) λi=>gF (decide (32<=i/\i<127)) (Q (.str [i.toNat]) H) False
noncomputable def GH:Ob->Nat
 |.dict _ _=>1|.list _=>2|.iy _=>3|_=>0
def Qa(o:Ob)(a:Nat)(x:V)(H:Hp)(Q:VP):Prop:=match o with|.list m=>wM (bP x) λr=>gF (decide (m.length+r.length<=big)) (Q .none<|H.set a<|.list<|m++r) False|.iy m=>wM (iP x) λr=>gF (decide (m.length+r.length<=1000000)) (Q .none<|H.set a<|.iy<|m++r) False|_=>False
def Qb(o:Ob)(a:Nat)(k:V)(H:Hp)(Q:VP):Prop:=match o with
 |.list l=>match l with
  |x::r=>wB (decide (k=.int 0))<|Q x<|H.set a<|.list r|[]=>False
 |.dict D d=>wB (keyOk D k&&D.plain)<|wO (bI d k)<|kH (H.set a<|.dict D<|dV d k) Q|_=>False
def JU(o:Ob)(k z:V)(H:Hp)(Q:VP):Prop:=match o.base with|.dict D d=>wB (keyOk D k)<|wO (some<|(bI d k).getD z)<|kH H Q|_=>False
def Nc(b:BM)(o:Ob)(a:Nat)(l:List V)(H:Hp)(Q:VP):Prop:=match b with|.extend=>wM (one l) λx=>Qa o a x H Q|.pop=>wM (one l) λk=>Qb o a k H Q|.get=>wM (two l) λp=>JU o p.1 p.2 H Q|_=>False
noncomputable def yt(b:BM)(t:Nat):Bool:=match b with|.extend=>Nat.beq t 2||Nat.beq t 3|.pop=>Nat.beq t 1||Nat.beq t 2|.get=>Nat.beq t 1|_=>Nat.beq t 4
def Qc(b:BM)(Q:Nat->Prop):Ob->Prop:=λo=>wB (yt b<|GH o)<|Q<|GH o
def Nd(b:BM)(x:V)(H:Hp)(Q:Nat->Prop):Prop:=match x with|.ref a=>wO (rd H a) (Qc b Q)|.str _=>wB (yt b 4)<|Q 4|_=>False
def Ua(b:BM)(t a:Nat)(l:List V)(H:Hp)(Q:VP):Ob->Prop:=λo=>wB (Nat.beq t<|GH o.base)<|Nc b o a l H Q
def Qd(b:BM)(x:V)(t:Nat)(l:List V)(H:Hp)(Q:VP):Prop:=match x with
 |.ref a=>wO (H[a]?) (Ua b t a l H Q)|.str s=>match b with
  |.split=>wM (one l) λx=>wM (gH x) λc=>wM (one c) λc=>gF (decide (s.length<=1000000)) (Q (.lst<|(aQ c s).map .str) H) False|.join=>wM (one l) λx=>wM (bP x) λm=>wO (strs? m) λz=>gF (decide ((cM s z).length+s.length<=big)) (Q (.str<|cM s z) H) False|_=>False
 |_=>False
def JV(a:Nat)(Q:List V->Option (Nat×Ob)->Prop):Ob->Prop
 |.list l=>Q l (some (a,.list l))|.dict k d=>Q (d.map (·.1))<|some (a,.dict k d)|_=>False
def wItems(v:V)(H:Hp)(Q:List V->Option (Nat×Ob)->Prop):Prop:=match v with|.lst l=>Q l none|.tup l=>Q l none|.str l=>Q (l.map λc=>.str [c]) none|.bytes l=>Q (l.map λc=>.int c.toNat) none|.ref a=>wO (H[a]?) (JV a Q)|_=>False
def bz(g:Option<|Nat×Ob)(H:Hp)(A:Prop):Prop:=match g with|none=>A|some (a,o)=>H[a]?=some (.ro o)/\A
def JW(m:Bool)(l:List V)(H:Hp)(Q:VP):Prop:=match m with|true=>Q (.ref H.length)<|H++[.list l]|false=>Q (.lst l) H
def vp(m:Bool)(vs:List V)(H:Hp)(Q:VP):Prop:=sortable vs=true/\vs.length<64/\JW m (dG vs) H Q
def Nf(Q:List V->Prop):Ob->Prop
 |.list l=>Q l|.dict _ d=>Q<|d.map (·.1)|_=>False
def Ng(v:V)(H:Hp)(Q:List V->Prop):Prop:=match v with|.lst l=>Q l|.ref a=>wO (rd H a)<|Nf Q|_=>False
def Qe(Q:List V->Prop):Ob->Prop
 |.list l=>Q l|_=>False
def Nh(v:V)(H:Hp)(Q:List V->Prop):Prop:=match v with|.lst l=>Q l|.ref a=>wO (rd H a)<|Qe Q|_=>False
def Qf(Q:List V->Prop):Ob->Prop
 |.dict kd d=>wB (decide (kd=.str))<|Q<|d.map λe=>.tup [e.1,e.2]|_=>False
def Qg(v:V)(H:Hp)(Q:List V->Prop):Prop:=match v with|.ref a=>wO (rd H a)<|Qf Q|_=>False
def Qh(a:Nat)(Q:VP):VP:=λv H=>wB (gI v)<|Q (.ref a) H
def Qi(z:cY)(c:Nat)(l:List V)(H:Hp)(Q:VP):Prop:=wM (P.init c) λf=>
 z f (.ref H.length::l) (H++[.inst c []]) (Qh H.length Q)
inductive rP(k:Kd)(vs:List V)(a:Nat)(H:Hp)(Q:VP):Prop
 |of {ps:List (V×V)} (h:pairUp vs=some ps) (hk:ps.all (λe=>keyOk k e.1)=true) (ha:H[a]?=some (.dict k [])) (q:Q (.ref a) (H.set a (.dict k (ps.foldl (λd e=>dput d e.1 e.2) []))))
def mI(Q:List V->Hp->Prop)(v:V):List V->Hp->Prop:=λs H=>Q (v::s) H
noncomputable def d8(elt:Loc->Hp->VP->Prop)(test:Loc->Hp->(Bool->Hp->Prop)->Prop)(t:List Nat)(L:Loc)(g:Option<|Nat×Ob):List V->Hp->(List V->Hp->Prop)->Prop
 |[],H,Q=>bz g H<|Q []<|iY g H|v::r,H,Q=>bz g H (wM (cW t v L) λl=>test l H λb z=>gF b (elt l z λx y=>d8 elt test t L g r y<|mI Q x) (d8 elt test t L g r z Q))
abbrev TF:=Loc->Hp->VP->Prop
abbrev Ni:=Loc->Hp->(List V->Hp->Prop)->Prop
abbrev Qj:=Loc->Hp->(Bool->Hp->Prop)->Prop
def k2(F:TF)(L:Loc)(G:V->VP):VP:=λx z=>F L z<|G x
def k3(F f:TF)(L:Loc)(G:V->V->VP):VP:=λx z=>F L z<|k2 f L<|G x
def Qk(op:Ms)(Q:VP)(x:V):VP:=λy H=>M6 op x y<|kH H Q
def Ql(op:CG)(Q:VP)(x:V):VP:=λy H=>yr op x y H<|kB H Q
def Qm(Q:VP):VP:=λv H=>wM (cz v) λb=>Q (.bool ! b) H
def Qn(F G:TF)(L:Loc)(Q:VP):VP:=λv H=>wM (cz v) λt=>gF t (F L H Q)<|G L H Q
def Db(Q:VP):List V->Hp->Prop:=λs H=>Q (.tup s) H
def Dc(m:Bool)(Q:VP):List V->Hp->Prop:=λs H=>JW m s H Q
def Nj(k:Kd)(a:Nat)(Q:VP):List V->Hp->Prop:=λs H=>rP k s a H Q
def Nk(Q:VP)(x:V):VP:=λy H=>JT x y H<|kH H Q
def JX(Q:VP)(x y:V):VP:=λz H=>wO (c9 x y z)<|kH H Q
def Nl(f:Nat)(H:Hp)(Q:VP):Nat->List (Nat×V)->Prop:=λz s=>wM (fG s f)<|kH H Q
def Nn(f:Nat)(Q:VP):VP:=λx H=>zQ x H<|Nl f H Q
def Np(z:cY)(f:Nat)(Q:VP):List V->Hp->Prop:=λs H=>z f s H Q
def Qo(z:cY)(c:Nat)(Q:VP):List V->Hp->Prop:=λs H=>Qi z c s H Q
def JY(z:cY)(f:Nat)(x:V)(Q:VP):List V->Hp->Prop:=λs H=>z f (x::s) H Q
def Nq(z:cY)(m:Nat)(F:Ni)(L:Loc)(x:V)(H:Hp)(Q:VP):Nat->List (Nat×V)->Prop:=λc s=>wB (fG s m).isNone<|wM (P.aC c m) λf=>F L H<|JY z f x Q
def Nr(z:cY)(m:Nat)(F:Ni)(L:Loc)(Q:VP):VP:=λx H=>zQ x H<|Nq z m F L x H Q
def Ub(b:B)(Q:VP):List V->Hp->Prop:=λs H=>Sv b s H Q
def Qp(b:BM)(x:V)(t:Nat)(Q:VP):List V->Hp->Prop:=λs H=>Qd b x t s H Q
def Qq(b:BM)(F:Ni)(L:Loc)(x:V)(H:Hp)(Q:VP):Nat->Prop:=λt=>F L H<|Qp b x t Q
def Uc(b:BM)(F:Ni)(L:Loc)(Q:VP):VP:=λx H=>Nd b x H<|Qq b F L x H Q
def Dd(m:Bool)(H:Hp)(Q:VP):List V->Prop:=λs=>vp m s H Q
def Nt(F:TF)(T:Qj)(m:Bool)(t:List Nat)(L:Loc)(Q:VP):List V->Option (Nat×Ob)->Hp->Prop:=λs g H=>d8 F T t L g s (freeze g H)<|Dc m Q
def Pq(F:Ni)(L:Loc)(Q:List V->Hp->Prop):VP:=λv H=>F L H<|mI Q v
def Qr(F:Qj)(L:Loc)(Q:Bool->Hp->Prop):VP:=λv H=>wM (cz v) λb=>gF b (F L H Q)<|Q false H
def Ud(F:Qj)(L:Loc)(Q:Bool->Hp->Prop):VP:=λv H=>wM (cz v) λb=>gF b (Q true H)<|F L H Q
def Ue(Q:List V->Option (Nat×Ob)->Hp->Prop)(H:Hp):List V->Option (Nat×Ob)->Prop:=λl g=>Q l g H
def JZ(Q:List V->Option (Nat×Ob)->Hp->Prop):VP:=λv H=>wItems v H<|Ue Q H
mutual
noncomputable def wE(u:cY):E->Loc->Hp->VP->Prop
 |.int i,_,H,Q=>Q (.int i) H|.str s,_,H,Q=>Q (.str s) H|.Mt b,_,H,Q=>Q (.bytes b) H|.none,_,H,Q=>Q .none H|.bool b,_,H,Q=>Q (.bool b) H|.var x,L,H,Q=>wM (L x) (kH H Q)|.glob g,_,H,Q=>wM (P.glob g) (kH H Q)|.bin op a b,L,H,Q=>wE u a L H (k2 (wE u b) L<|Qk op Q)|.neg i,_,H,Q=>Q (.int<|-i) H|.cmp op a b,L,H,Q=>wE u a L H (k2 (wE u b) L<|Ql op Q)|.chain p q a b c,L,H,Q=>wE u a L H λx j=>wE u b L j λy Y=>yr p x y Y λv=>
   gF v (wE u c L Y λz U=>yr q y z U λw=>Q (.bool w) U) (Q (.bool false) Y)
 |.not a,L,H,Q=>wE u a L H (Qm Q)|.fail,_,_,_=>False|.and l,L,H,Q=>re u l L H (Su Q)|.or l,L,H,Q=>Qs u l L H (Su Q)|.ite c a b,L,H,Q=>wE u c L H (Qn (wE u a) (wE u b) L Q)|.tup l,L,H,Q=>wEs u l L H (Db Q)|.cK m l,L,H,Q=>wEs u l L H (Dc m Q)|.dict k l,L,H,Q=>wEs u l L (H++[.dict k []]) (Nj k H.length Q)|.sub a i,L,H,Q=>wE u a L H (k2 (wE u i) L<|Nk Q)|.slice a lo I,L,H,Q=>wE u a L H (k3 (wE u lo) (wE u I) L<|JX Q)|.attr o f,L,H,Q=>wE u o L H (Nn f Q)|.call f l,L,H,Q=>wEs u l L H (Np u f Q)|.new c l,L,H,Q=>wEs u l L H (Qo u c Q)|.aC o m l,L,H,Q=>wE u o L H (Nr u m (wEs u l) L Q)|.bi b l,L,H,Q=>wEs u l L H (Ub b Q)|.bm b o l,L,H,Q=>wE u o L H (Uc b (wEs u l) L Q)|.sorted m (.val e),L,H,Q=>wE u e L H λv j=>Ng v j (Dd m j Q)|.sorted m (.items e),L,H,Q=>wE u e L H λv j=>Qg v j (Dd m j Q)|.sorted m (.acc x),L,H,Q=>wM (L x) λv=>wM (bP v) (Dd m H Q)|.sorted _ (.range _),_,_,_=>False|.sorted _ (.zip _ _),_,_,_=>False|.sorted _ (.enum _),_,_,_=>False|.comp m e t i c,L,H,Q=>Pr u i L H<|Nt (wE u e) (re u c) m t L Q
noncomputable def wEs(z:cY):Es->Loc->Hp->(List V->Hp->Prop)->Prop
 |.nil,_,H,Q=>Q [] H|.cons e r,L,H,Q=>wE z e L H<|Pq (wEs z r) L Q
noncomputable def re(z:cY):Es->Loc->Hp->(Bool->Hp->Prop)->Prop
 |.nil,_,H,Q=>Q true H|.cons e r,L,H,Q=>wE z e L H<|Qr (re z r) L Q
noncomputable def Qs(z:cY):Es->Loc->Hp->(Bool->Hp->Prop)->Prop
 |.nil,_,H,Q=>Q false H|.cons e r,L,H,Q=>wE z e L H<|Ud (Qs z r) L Q
noncomputable def Pr(z:cY):It->Loc->Hp->(List V->Option (Nat×Ob)->Hp->Prop)->Prop
 |.val e,L,H,Q=>wE z e L H (JZ Q)|.range e,L,H,Q=>wE z e L H λv u=>wM (bx v) λn=>gF (decide (-1000000<=n/\n<=1000000)) (Q ((List.range n.toNat).map λi=>.int<|Int.ofNat i) none u) False|.zip a b,L,H,Q=>wE z a L H λv u=>wM (bP v) λx=>wE z b L u λw s=>wM (bP w) λy=>Q (uX x y) none s|.enum a,L,H,Q=>wE z a L H λv u=>wM (iP v) λx=>Q (mD 0<|x.map λc=>.int c.toNat) none u|.items _,_,_,_=>False|.acc _,_,_,_=>False
end
def gT(Q:Bool->Hp->Prop):VP:=λv H=>wM (cz v) λb=>Q b H
def wT(z:cY)(e:E)(L:Loc)(H:Hp)(Q:Bool->Hp->Prop):Prop:=wE z e L H<|gT Q
abbrev LP:=Loc->Hp->Prop
noncomputable def i8(body:Loc->Hp->LP->VP->LP->Prop)(t:List Nat)(g:Option<|Nat×Ob)(K:LP)(T:VP):List V->Loc->Hp->Prop
 |[],L,H=>bz g H<|K L<|iY g H|v::r,L,H=>bz g H<|wM (cW t v L) λl=>body l H (i8 body t g K T r) (λv z=>bz g z<|T v<|iY g z)<|i8 body t g K T r
noncomputable def i9(test:Loc->Hp->(Bool->Hp->Prop)->Prop)(body:Loc->Hp->LP->VP->LP->Prop)(K:LP)(T:VP):Nat->Loc->Hp->Prop
 |0,_,_=>False|n+1,L,H=>test L H λb z=>gF b (body L z (i9 test body K T n) T<|i9 test body K T n)<|K L z
abbrev SF:=Loc->Hp->LP->VP->LP->Prop
def kF(F:SF)(K:LP)(T:VP)(C:LP):LP:=λL H=>F L H K T C
def Qt(L:Loc)(x:Nat)(K:LP):VP:=λv H=>K (upd L x v) H
def zR(L:Loc)(xs:List Nat)(K:LP):VP:=λv H=>wM (jC xs v L) λl=>K l H
def kK(L:Loc)(K:LP):Hp->Prop:=λH=>K L H
def Nu(f:Nat)(L:Loc)(K:LP)(v:V):VP:=λx H=>rO x f v H<|kK L K
def J0(L:Loc)(K:LP)(v x:V):VP:=λy H=>Da x y v H<|kK L K
def gX(L:Loc)(K:LP):VP:=λz H=>K L H
def Uf(F G:SF)(L:Loc)(K:LP)(T:VP)(C:LP):Bool->Hp->Prop:=λt H=>gF t (F L H K T C)<|G L H K T C
def Qu(F:SF)(t:List Nat)(K:LP)(T:VP)(L:Loc):List V->Option (Nat×Ob)->Hp->Prop:=λs g H=>i8 F t g K T s L<|freeze g H
def Qv(L:Loc)(x:Nat)(K:LP):List V->Hp->Prop:=λs H=>K (upd L x<|.lst s) H
def Nv(L:Loc)(x:Nat)(l:List V)(K:LP):VP:=λv H=>gF (decide (l.length<1000000)) (K (upd L x<|.lst<|l++[v]) H) False
inductive Bx(A:Prop):Prop
 |of (h:A)
mutual
noncomputable def wS(z:cY):S->Loc->Hp->LP->VP->LP->Prop
 |.asg x e,L,H,K,_,_=>wE z e L H (Qt L x K)|.dh xs e,L,H,K,_,_=>wE z e L H (zR L xs K)|.bn o f e,L,H,K,_,_=>wE z e L H (k2 (wE z o) L<|Nu f L K)|.uV o f O m e,L,H,K,_,_=>wE z e L H λv u=>wM (d7 v) λl=>wM (two l) λp=>wE z o L u λx s=>rO x f p.1 s λU=>wE z O L U λk j=>rO k m p.2 j λY=>K L Y|.fg o i e,L,H,K,_,_=>wE z e L H (k3 (wE z o) (wE z i) L<|J0 L K)|.expr e,L,H,K,_,_=>wE z e L H (gX L K)|.cI c a b,L,H,K,T,C=>wT z c L H (Uf (wSs z a) (wSs z b) L K T C)|.dU t i b,L,H,K,T,_=>Pr z i L H (Qu (wSs z b) t K T L)|.kU c b,L,H,K,T,_=>Bx (i9 (wT z c) (wSs z b) K T fuel L H)|.ret e,L,H,_,T,_=>wE z e L H T|.qO,_,H,_,T,_=>T .none H|.yc x,L,H,_,T,_=>wM (L x) λv=>wM (bP v) λl=>T (.lst l) H|.iX x l,L,H,K,_,_=>wEs z l L H (Qv L x K)|.oi y e x l,L,H,K,_,_=>wE z e L H λv u=>wEs z l L u λvs s=>K (upd (upd L x<|.lst vs) y v) s|.eP x e,L,H,K,_,_=>wM (L x) λw=>wM (bP w) λl=>wE z e L H (Nv L x l K)|.kV x e,L,H,K,_,_=>wM (L x) λw=>wM (bP w) λl=>wE z e L H λv u=>Nh v u λr=>gF (decide (l.length+r.length<=1000000)) (K (upd L x<|.lst<|l++r) u) False|.cont,L,H,_,_,C=>C L H|.fail,_,_,_,_,_=>False
noncomputable def wSs(z:cY):Ss->Loc->Hp->LP->VP->LP->Prop
 |.nil,L,H,K,_,_=>K L H|.cons s r,L,H,K,T,C=>wS z s L H (kF (wSs z r) K T C) T C
end
inductive Wr(Φ:cY)(f:Nat)(args:List V)(H:Hp)(Q:VP):Prop
 |of (h:Φ f args H Q)
noncomputable def Sw:Nat->cY
 |0,_,_,_,_=>False|d+1,f,args,H,Q=>wM (P.code f) λc=>wM (oV c args) λL=>wSs (Wr<|Sw d) c.body L H (λz y=>Q .none y) Q λz z=>False
abbrev wC(d:Nat):cY:=Wr<|Sw d
def aa(h:o=some a)(k:Q a):wO o Q:=.of h k
def ae(h:o=some a)(k:Q a):wM o Q:=by rw[h];exact k
def J1(k:wEs Φ l L H<|Db Q):wE Φ (.tup l) L H Q:=k
def pa(k:wE Φ e L H<|Pq (wEs Φ l) L Q):wEs Φ (.cons e l) L H Q:=k
def De(k:wE Φ a L H<|k2 (wE Φ b) L<|Nk Q):wE Φ (.sub a b) L H Q:=k
def yu(h:L x=some v)(k:Q v H):wE Φ (.var x) L H Q:=ae h k
def aY{A B:Prop}(h:b=true)(k:A):gF b A B:=.of (λz=>k) λe=>absurd (h.symm.trans e) nofun
def aJ{A B:Prop}(h:b=false)(k:B):gF b A B:=.of (λe=>absurd (e.symm.trans h) nofun) λz=>k
def b7{A B:Prop}(H:b=true->A)(z:b=false->B):gF b A B:=.of H z
def dT [Decidable p]{A B:Prop}(h:p)(k:A):gF (decide p) A B:=aY (eb h) k
def dF [Decidable p]{A B:Prop}(h:¬p)(k:B):gF (decide p) A B:=aJ (fo h) k
def nT [Decidable p]{A B:Prop}(h:¬p)(k:A):gF (!decide p) A B:=aY (by rw[fo h];rfl) k
def nF [Decidable p]{A B:Prop}(h:p)(k:B):gF (!decide p) A B:=aJ (by rw[eb h];rfl) k
def dC [Decidable p]{A B:Prop}(h:p->A)(k:¬p->B):gF (decide p) A B:=b7 (λe=>h<|dk e) λe=>k<|si e
def av{args:List V}(h:P.code f=some c)(b:oV c args=some L)(k:wSs (wC d) c.body L H (λz H'=>Q .none H') Q λz z=>False):wC (d+1) f args H Q:=by refine .of ?_;show wM (P.code f) _;rw[h];show wM (oV c args) _;rw[b];exact k
def b8(l:List α)(i f:α->V)
 (step:∀a∈l,∀Q:VP,Q (f a) H->wM (cW t (i a) L) λz=>elt z H Q) (k:Q (l.map f) H):d8 elt (re Φ .nil) t L none (l.map i) H Q:=by
 induction l generalizing Q with
 |nil=>exact k|cons a r I=>
  have h:=step a<|.head _;show wM (cW t (i a) L) _;generalize cW t (i a) L=x at h
  induction x using Option.casesOn with|none=>exact(h (λy y=>True) trivial).elim|some z=>exact aY rfl (h _<|I (λb u=>step b<|.tail _ u) k)
def fZ{test:Loc->Hp->(Bool->Hp->Prop)->Prop}(l:List α)(i f:α->V)(p:α->Bool)
 (step:∀a∈l,∃z,cW t (i a) L=some z/\(∀Q:Bool->Hp->Prop,Q (p a) H->test z H Q)/\(p a=true->∀Q:VP,Q (f a) H->elt z H Q))
 (k:Q ((l.filter p).map f) H):d8 elt test t L none (l.map i) H Q:=by
 induction l generalizing Q with
 |nil=>exact k|cons a r x=>
  refine bC λG=>?_;obtain⟨z,y,ht,u⟩:=step a<|.head _;refine G ?_;have I:=λQ=>@x Q λb y=>step b<|.tail _ y;show wM (cW t (i a) L) _;rw[y];refine ht _<|b7 (λe=>u e _<|I _ ?_) λe=>I _ ?_;.rw[rZ e]at k;exact k
  .rw[nq<|by rw[e];nofun]at k;exact k
end
section
open PySem PySem.W PyProof.Rows
section
def aU(x:Nat):Str:=match yq[x]? with|some n=>Str.ofString n|none=>⟨#[1114112+x]⟩
structure Sg where
 g:List (Addr×Addr)
 H:Hp
 s:Shared
 X:Addr->Prop
 z:Addr->Option Obj
noncomputable abbrev Sg.h(σ:Sg)(a:Addr):Option Obj:=σ.s.heap.get? a
def ie(σ:Sg)(b:Addr):Prop:=∃p∈σ.g,b=p.1\/b=p.2
def NI(σ:Sg)(b:Addr):Prop:=ie σ b\/σ.X b
mutual
noncomputable def RV(σ:Sg):V->Value->Prop
 |.none,x=>x=.none|.bool b,x=>x=.bool b|.int i,x=>∃t,x=.int i t|.str l,x=>∃t,l.length<=sizeLine/\x=.str ⟨l.toArray⟩ t|.bytes l,x=>∃t,l.length<=sizeLine/\x=.bytes l.toArray t|.tup l,x=>∃a n vs,l.length<=sizeLine/\x=.ref a/\¬NI σ a/\IsT σ.s.heap a vs n/\aN σ l vs.toList|.lst l,x=>∃a n vs,l.length<=sizeLine/\x=.ref a/\¬NI σ a/\IsL σ.s.heap a vs n/\aN σ l vs.toList|.ref i,x=>∃p,σ.g[i]?=some p/\x=.ref p.1
noncomputable def aN(σ:Sg):List V->List Value->Prop
 |[],s=>s=[]|v::l,s=>∃y Y,RV σ v y/\aN σ l Y/\s=y::Y
end
section
variable{σ σ':Sg}{v:V}{x:Value}{l:List V}{xs:List Value}{C:Value->Prop}{D:List Value->Prop}
@[elab_as_elim] theorem RV.mJ (r:RV σ (.bool b) x) (k:C<|.bool b):C x:=(show x=.bool b from r)▸k
@[elab_as_elim] theorem RV.ls (r:RV σ (.int i) x) (k:∀t,C<|.int i t):C x:=let⟨t,e⟩:=(show∃t,x=.int i t from r);e▸k t
@[elab_as_elim] theorem RV.gA {l:List Nat} (r:RV σ (.str l) x) (k:∀t,l.length<=sizeLine->C (.str ⟨l.toArray⟩ t)):C x:=let⟨t,h,e⟩:=(show∃t,l.length<=sizeLine/\x=.str ⟨l.toArray⟩ t from r);e▸k t h
@[elab_as_elim] theorem RV.A8 {l:List UInt8} (r:RV σ (.bytes l) x) (k:∀t,l.length<=sizeLine->C (.bytes l.toArray t)):C x:=let⟨t,h,e⟩:=(show∃t,l.length<=sizeLine/\x=.bytes l.toArray t from r);e▸k t h
@[elab_as_elim] theorem RV.f0 (r:RV σ (.tup l) x) (k:∀a n vs,l.length<=sizeLine->¬NI σ a->IsT σ.s.heap a vs n->aN σ l vs.toList->C (.ref a)):C x:=
  by obtain⟨a,n,vs,h,rfl,H,ht,s⟩:=(show∃a n vs,l.length<=sizeLine/\x=.ref a/\¬NI σ a/\IsT σ.s.heap a vs n/\aN σ l vs.toList from r);exact k a n vs h H ht s
@[elab_as_elim] theorem RV.jQ (r:RV σ (.lst l) x) (k:∀a n vs,l.length<=sizeLine->¬NI σ a->IsL σ.s.heap a vs n->aN σ l vs.toList->C (.ref a)):C x:=
  by obtain⟨a,n,vs,h,rfl,H,ht,s⟩:=(show∃a n vs,l.length<=sizeLine/\x=.ref a/\¬NI σ a/\IsL σ.s.heap a vs n/\aN σ l vs.toList from r);exact k a n vs h H ht s
@[elab_as_elim] theorem RV.rf (r:RV σ (.ref i) x) (k:∀p,σ.g[i]?=some p->C (.ref p.1)):C x:=let⟨p,h,e⟩:=(show∃p,σ.g[i]?=some p/\x=.ref p.1 from r);e▸k p h
@[elab_as_elim] theorem aN.iG (r:aN σ [] xs) (k:D []):D xs:=(show xs=[]from r)▸k
@[elab_as_elim] theorem aN.bp (r:aN σ (v::l) xs) (k:∀y ys,RV σ v y->aN σ l ys->D (y::ys)):D xs:=by obtain⟨y,ys,h,s,rfl⟩:=(show∃y ys,RV σ v y/\aN σ l ys/\xs=y::ys from r);exact k y ys h s
def RV.nn:RV σ .none .none:=rfl
def RV.bb:RV σ (.bool b) (.bool b):=rfl
def RV.ii:RV σ (.int i) (.int i t):=⟨t,rfl⟩
def RV.ss{l:List Nat}(h:l.length<=sizeLine):RV σ (.str l) (.str ⟨l.toArray⟩ t):=⟨t,h,rfl⟩
def RV.yy{l:List UInt8}(h:l.length<=sizeLine):RV σ (.bytes l) (.bytes l.toArray t):=⟨t,h,rfl⟩
def RV.tt(h:l.length<=sizeLine)(H:¬NI σ a)(ht:IsT σ.s.heap a vs n)(s:aN σ l vs.toList):RV σ (.tup l) (.ref a):=⟨a,n,vs,h,rfl,H,ht,s⟩
def RV.ll(h:l.length<=sizeLine)(H:¬NI σ a)(ht:IsL σ.s.heap a vs n)(s:aN σ l vs.toList):RV σ (.lst l) (.ref a):=⟨a,n,vs,h,rfl,H,ht,s⟩
def RV.rr(h:σ.g[i]?=some p):RV σ (.ref i) (.ref p.1):=⟨p,h,rfl⟩
def aN.nil:aN σ [] []:=rfl
def aN.cons(r:RV σ v x)(s:aN σ l xs):aN σ (v::l) (x::xs):=⟨x,xs,r,s,rfl⟩
def aN.one(r:RV σ v x):aN σ [v] [x]:=.cons r .nil
structure Up(σ σ':Sg):Prop where
 pre:σ.g<+:σ'.g
 keep:∀a o vs n,σ.h a=some o->o.data=.seq vs n->¬NI σ a->¬NI σ' a/\σ'.h a=some o
def eT{α:Type}{g G:List α}{i:Nat}{p:α}(h:g<+:G)(e:g[i]?=some p):G[i]?=some p:=
 let⟨t,ht⟩:=h;ht▸(List.getElem?_append_left (f5.mp e).1).trans e
mutual
theorem RV.up(u:Up σ σ'):∀(v:V) (x:Value),RV σ v x->RV σ' v x
 |.none,_,r=>r|.bool _,_,r=>r|.int _,_,r=>r|.str _,_,r=>r|.bytes _,_,r=>r|.tup l,x,r=>r.f0 (C:=λx=>RV σ' (.tup l) x) λa n vs h H ht s=>.tt h (u.keep a _ vs n ht rfl H).1 (u.keep a _ vs n ht rfl H).2 (aN.up u l _ s)|.lst l,x,r=>r.jQ (C:=λx=>RV σ' (.lst l) x) λa n vs h H ht s=>.ll h (u.keep a _ vs n ht rfl H).1 (u.keep a _ vs n ht rfl H).2 (aN.up u l _ s)|.ref i,x,r=>r.rf (C:=λx=>RV σ' (.ref i) x) λp h=>.rr<|eT u.pre h
theorem aN.up(u:Up σ σ'):∀(l:List V) (xs:List Value),aN σ l xs->aN σ' l xs
 |[],_,r=>r|v::l,xs,r=>r.bp (D:=λxs=>aN σ' (v::l) xs) λy Y h s=>.cons (RV.up u v y h)<|aN.up u l Y s
end
def RV.on(r:RV σ v x)(u:Up σ σ'):RV σ' v x:=RV.up u v x r
def aN.on(r:aN σ l xs)(u:Up σ σ'):aN σ' l xs:=aN.up u l xs r
theorem aN.len:∀{l:List V} {xs:List Value},aN σ l xs->xs.length=l.length
 |[],_,r=>r.iG (D:=λxs=>xs.length=0) rfl|_::l,_,r=>r.bp (D:=λxs=>xs.length=l.length+1) λz z z s=>cg (·+1) s.len
theorem aN.size{vs:Array Value}(r:aN σ l vs.toList):vs.size=l.length:=xC.symm.trans r.len
theorem aN.get:∀{l:List V} {xs:List Value},aN σ l xs->∀{i:Nat} {v:V},l[i]?=some v->∃x,xs[i]?=some x/\RV σ v x
 |[],_,_,_,_,e=>nomatch e|u::l,xs,r,0,v,e=>r.bp (D:=λxs=>∃x,xs[0]?=some x/\RV σ v x) λy z h z=>⟨y,rfl,dR e▸h⟩|u::l,xs,r,i+1,v,e=>r.bp (D:=λxs=>∃x,xs[i+1]?=some x/\RV σ v x) λz z z s=>s.get (l:=l) e
theorem aN.app:∀{l l':List V} {xs s:List Value},aN σ l xs->aN σ l' s->aN σ (l++l') (xs++s)
 |[],l',xs,s,r,z=>r.iG z|v::l,l',xs,s,r,z=>r.bp λy y h H=>.cons h<|H.app z
theorem aN.take:∀{l:List V} {xs:List Value} (n:Nat),aN σ l xs->aN σ (l.take n) (xs.take n)
 |l,xs,0,_=>by rw[List.take_zero,List.take_zero];exact .nil|[],xs,n+1,r=>r.iG .nil|v::l,xs,n+1,r=>r.bp λz z h s=>.cons h<|s.take n
theorem aN.drop:∀{l:List V} {xs:List Value} (n:Nat),aN σ l xs->aN σ (l.drop n) (xs.drop n)
 |_,_,0,r=>r|[],xs,n+1,r=>r.iG .nil|v::l,xs,n+1,r=>r.bp λz z z s=>s.drop n
theorem aN.set:∀{l:List V} {xs:List Value} (i:Nat),aN σ l xs->RV σ v x->aN σ (l.set i v) (xs.set i x)
 |[],xs,i,r,_=>r.iG .nil|u::l,xs,0,r,q=>r.bp λz z z s=>.cons q s|u::l,xs,i+1,r,q=>r.bp λz z h s=>.cons h<|s.set i q
theorem aN.rev:∀{l:List V} {xs:List Value},aN σ l xs->aN σ l.reverse xs.reverse
 |[],xs,r=>r.iG (D:=λxs=>aN σ [] xs.reverse) .nil|v::l,xs,r=>r.bp (D:=λxs=>aN σ (v::l).reverse xs.reverse) λy Y h s=>by rw[List.reverse_cons,List.reverse_cons];exact s.rev.app<|.one h
end
mutual
noncomputable def cm(w:World):V->Int
 |.int i=>hashInt i|.str l=>hashStr w ⟨l.toArray⟩|.tup l=>reduceHash<|Builtin.Tuple.tupleHashOf<|ja w l|_=>0
noncomputable def ja(w:World):List V->List Int
 |[]=>[]|v::l=>cm w v::ja w l
end
noncomputable def fh(w:World)(σ:Sg):List (V×V)->List DictEntry->Prop
 |[],es=>es=[]|e::d,es=>∃y Y,RV σ e.1 y.key/\RV σ e.2 y.val/\y.hash=cm w e.1/\fh w σ d Y/\es=y::Y
section
variable{w:World}{σ σ':Sg}{e:V×V}{d:List (V×V)}{es:List DictEntry}{D:List DictEntry->Prop}
@[elab_as_elim] theorem fh.bp (r:fh w σ (e::d) es) (k:∀y ys,RV σ e.1 y.key->RV σ e.2 y.val->y.hash=cm w e.1->fh w σ d ys->D (y::ys)):D es:=
  by obtain⟨y,ys,H,z,T,x,rfl⟩:=(show∃y ys,RV σ e.1 y.key/\RV σ e.2 y.val/\y.hash=cm w e.1/\fh w σ d ys/\es=y::ys from r);exact k y ys H z T x
def fh.nil:fh w σ [] []:=rfl
def fh.cons{y:DictEntry}(H:RV σ e.1 y.key)(z:RV σ e.2 y.val)(T:y.hash=cm w e.1)(r:fh w σ d es):fh w σ (e::d) (y::es):=⟨y,es,H,z,T,r,rfl⟩
theorem fh.on(u:Up σ σ'):∀{d:List (V×V)} {es:List DictEntry},fh w σ d es->fh w σ' d es
 |[],_,r=>r|e::d,es,r=>r.bp (D:=λes=>fh w σ' (e::d) es) λz z H y T x=>.cons (H.on u) (y.on u) T<|x.on u
end
structure Cx where
 prog:Program
 w:World
 cF:Nat->Addr
 fA:Nat->Addr
 B:Shared
noncomputable def cn:Nat:=1000000
structure IX(σ:Sg)(f:List (Nat×V))(m:Str->Option Value):Prop where
 get:∀x v,fG f x=some v->∃val,m (aU x)=some val/\RV σ v val
 only:∀n,m n≠none->∃x v,n=aU x/\fG f x=some v
inductive J2(σ:Sg)(p:Addr×Addr)(l:List V):Prop
 |of (n:Nat) (vs:Array Value) (hl:l.length<=sizeLine) (e:p.2=p.1) (h:IsL σ.s.heap p.1 vs n) (r:aN σ l vs.toList)
inductive oj(k:Cx)(σ:Sg)(p:Addr×Addr)(kd:Kd)(d:List (V×V)):Prop
 |of (es:Array DictEntry) (ep:Nat) (hl:d.length<=cn) (e:p.2=p.1) (hk:∀e∈d,keyOk kd e.1=true) (nd:(d.map (·.1)).Nodup)
  (h:σ.h p.1=some {cls:=.type "dict",dict:=none,data:=.dict es ep,slots:=#[]}) (r:fh k.w σ d es.toList)
inductive Mu(k:Cx)(σ:Sg)(p:Addr×Addr)(c:Nat)(f:List (Nat×V)):Prop
 |of (o:Obj) (m:Str->Option Value) (hl:f.length<=1000) (ha:∀x v,fG f x=some v->P.attr c x=true) (ne:p.2≠p.1) (h:σ.h p.1=some o) (hc:o.cls=.ref (k.cF c))
  (hd:∀x,o.data≠ .cls x) (hp:o.dict=some p.2) (hn:σ.s.heap.Ns1 p.2 m) (r:IX σ f m)
noncomputable def RO(k:Cx)(σ:Sg)(p:Addr×Addr):Ob->Prop
 |.list l=>J2 σ p l|.dict kd d=>oj k σ p kd d|.inst c f=>Mu k σ p c f|.iy b=>b.length<=1000000/\p.2=p.1/\σ.h p.1=some {cls:=.type "bytearray",dict:=none,data:=.bytearray b.toArray 0,slots:=#[]}|.ro o=>RO k σ p o/\σ.h p.1=σ.z p.1/\σ.h p.2=σ.z p.2
end
section
set_option backward.match.sparseCases false
def ff{p:Prop}(h:false=true):p:=nomatch h
def aI{C:Prop}(h:(a&&b)=true)(k:a=true->b=true->C):C:=let q:=jT.1 h;k q.1 q.2
def bG{C:Prop}(h:(a&&b&&c)=true)(k:a=true->b=true->c=true->C):C:=aI h λh T=>aI h λH z=>k H z T
def co{C:Prop}(h:(a&&b&&c&&d)=true)(k:a=true->b=true->c=true->d=true->C):C:=aI h λh x=>bG h λH z T=>k H z T x
def Ug [Decidable p]{C:Prop}(h:decide p=true)(k:p->C):C:=k<|dk h
def dK(h:(!b)=true):b=false:=(tc b).mp h
@[elab_as_elim] theorem rg {α:Type} {l:List α} {f:α->Bool} {C:List α->Prop} (h:(one l).any f=true) (k:∀a,f a=true->C [a]):C l:=match l,h with|[a],h=>k a h|[],h=>ff h|_::_::_,h=>ff h
@[elab_as_elim] theorem vq {α:Type} {l:List α} {f:α×α->Bool} {C:List α->Prop} (h:(two l).any f=true) (k:∀a b,f (a,b)=true->C [a,b]):C l:=match l,h with|[a,b],h=>k a b h|[],h=>ff h|[_],h=>ff h|_::_::_::_,h=>ff h
noncomputable def Mw:List Nat->List Nat->Bool
 |[],y=>y.isEmpty|a::x,y=>y.casesOn false λb y=>Nat.beq a b&&Mw x y
theorem yw:∀{x y:List Nat},Mw x y=true->x=y
 |[],y,h=>(mi.1 h).symm|_::_,[],h=>ff h|a::x,b::y,h=>aI (a:=Nat.beq a b) h λH z=>Nat.eq_of_beq_eq_true H▸yw z▸rfl
theorem zS:∀x,Mw x x=true
 |[]=>rfl|a::x=>jT.2 ⟨Nat.beq_refl a,zS x⟩
def cq(a b:Str):Bool:=Mw a.cps.toList b.cps.toList
def cj(h:cq a b=true):a=b:=by have:=cg List.toArray<|yw h;obtain⟨⟩:=a;obtain⟨⟩:=b;exact cg Str.mk this
def cZ:cq a a=true:=zS _
noncomputable def findS{α:Type}(n:Str):List (Str×α)->Option α
 |[]=>none|e::r=>cond (cq n e.1) (some e.2)<|findS n r
theorem findS_eq(n:Str):∀l:List<|Str×α,findS n l=l.lookup n
 |[]=>rfl|(m,k)::r=>by
  show cond (cq n m) (some k) (findS n r)=_;rw[wh,findS_eq n r];by_cases h:n=m;.rw[h,cZ,Fe];rfl
  .rw[tq.2 λq=>h<|cj q,BB.2 h];rfl
def Mx(f:Nat):Str:=match M4[f]? with|some n=>Str.ofString n|none=>⟨#[1114112+f]⟩
def Nw(c:Nat):Str:=match M5[c]? with|some n=>Str.ofString n|none=>⟨#[1114112+c]⟩
noncomputable def Nx(b:Ms):Operator:=b.casesOn .Add .Sub .Mult .FloorDiv .Mod .Pow .LShift .RShift .BitAnd
noncomputable def yx(b:CG):CmpOp:=b.casesOn .Eq .NotEq .Lt .LtE .Gt .GtE .In .NotIn .Is .IsNot
noncomputable def My(b:B):Str:=b.casesOn "len" "list" (λz=>"dict") "bytes" "bytearray" "sum" "all" "min" "max" "tuple" "int" "ord" "chr"
noncomputable def Sy(b:BM):Str:=b.casesOn "extend" "pop" "get" "split" "join"
abbrev Ks:=List<|Str×NameKind
def kdOf(k:Ks)(n:Str):Option NameKind:=findS n k
def isVar(k:Ks)(n:Str):Bool:=decide (kdOf k n=some .local)||decide (kdOf k n=some .cell)
def pb(k:Ks)(n:Str):Bool:=decide (kdOf k n=some .globalImplicit)
section
variable(x:Expr)
noncomputable def eU(f:Const->Bool):Bool:=by cases x with|Constant c k p=>exact f c|_=>exact false
noncomputable def pd(f:Str->Bool):Bool:=by cases x with|Name n p=>exact f n|_=>exact false
noncomputable def IY(f:Expr->Operator->Expr->Bool):Bool:=by cases x with|BinOp l o r p=>exact f l o r|_=>exact false
noncomputable def J3(f:UnaryOp->Expr->Bool):Bool:=by cases x with|UnaryOp o r p=>exact f o r|_=>exact false
noncomputable def Df(f:Expr->List CmpOp->List Expr->Bool):Bool:=by cases x with|Compare l o r p=>exact f l o r|_=>exact false
noncomputable def yz(f:BoolOp->List Expr->Bool):Bool:=by cases x with|BoolOp o r p=>exact f o r|_=>exact false
noncomputable def J4(f:Expr->Expr->Expr->Bool):Bool:=by cases x with|IfExp a b c p=>exact f a b c|_=>exact false
noncomputable def jR(f:List Expr->Bool):Bool:=by cases x with|Tuple l k p=>exact f l|_=>exact false
noncomputable def tA(f:List Expr->Bool):Bool:=by cases x with|List l p=>exact f l|_=>exact false
noncomputable def Dg(f:List (Option Expr)->List Expr->Bool):Bool:=by cases x with|Dict l r p=>exact f l r|_=>exact false
noncomputable def tD(f:Expr->Expr->Bool):Bool:=by cases x with|Subscript l r p=>exact f l r|_=>exact false
noncomputable def tE(f:Option Expr->Option Expr->Option Expr->Bool):Bool:=by cases x with|Slice a b c p=>exact f a b c|_=>exact false
noncomputable def lu(f:Expr->Str->Pos->Bool):Bool:=by cases x with|Attribute o n p=>exact f o n p|_=>exact false
noncomputable def pe(f:Expr->List Expr->List Keyword->Pos->Bool):Bool:=by cases x with|Call o n w p=>exact f o n w p|_=>exact false
noncomputable def Dh(f:Expr->List Comprehension->Scope->Bool):Bool:=by cases x with|ListComp e g s p=>exact f e g s|_=>exact false
end
section
variable{x:Expr}{C:Expr->Prop}
@[elab_as_elim] theorem lw {f:Const->Bool} (h:eU x f=true) (k:∀c i p,f c=true->C (.Constant c i p)):C x:=by rcases x<;>first|exact k _ _ _ h|exact ff h
@[elab_as_elim] theorem IZ {f:Str->Bool} (h:pd x f=true) (k:∀c p,f c=true->C (.Name c p)):C x:=by rcases x<;>first|exact k _ _ h|exact ff h
@[elab_as_elim] theorem Qw {f:Expr->Operator->Expr->Bool} (h:IY x f=true) (k:∀l o r p,f l o r=true->C (.BinOp l o r p)):C x:=by rcases x<;>first|exact k _ _ _ _ h|exact ff h
@[elab_as_elim] theorem Qx {f:UnaryOp->Expr->Bool} (h:J3 x f=true) (k:∀o r p,f o r=true->C (.UnaryOp o r p)):C x:=by rcases x<;>first|exact k _ _ _ h|exact ff h
@[elab_as_elim] theorem GI {f:Expr->List CmpOp->List Expr->Bool} (h:Df x f=true) (k:∀l o r p,f l o r=true->C (.Compare l o r p)):C x:=by rcases x<;>first|exact k _ _ _ _ h|exact ff h
@[elab_as_elim] theorem mJ {f:BoolOp->List Expr->Bool} (h:yz x f=true) (k:∀o r p,f o r=true->C (.BoolOp o r p)):C x:=by rcases x<;>first|exact k _ _ _ h|exact ff h
@[elab_as_elim] theorem Uh {f:Expr->Expr->Expr->Bool} (h:J4 x f=true) (k:∀a b c p,f a b c=true->C (.IfExp a b c p)):C x:=by rcases x<;>first|exact k _ _ _ _ h|exact ff h
@[elab_as_elim] theorem f0 {f:List Expr->Bool} (h:jR x f=true) (k:∀l i p,f l=true->C (.Tuple l i p)):C x:=by rcases x<;>first|exact k _ _ _ h|exact ff h
@[elab_as_elim] theorem listE {f:List Expr->Bool} (h:tA x f=true) (k:∀l p,f l=true->C (.List l p)):C x:=by rcases x<;>first|exact k _ _ h|exact ff h
@[elab_as_elim] theorem Ny {f:List (Option Expr)->List Expr->Bool} (h:Dg x f=true) (k:∀l r p,f l r=true->C (.Dict l r p)):C x:=by rcases x<;>first|exact k _ _ _ h|exact ff h
@[elab_as_elim] theorem Di {f:Expr->Expr->Bool} (h:tD x f=true) (k:∀l r p,f l r=true->C (.Subscript l r p)):C x:=by rcases x<;>first|exact k _ _ _ h|exact ff h
@[elab_as_elim] theorem J5 {f:Option Expr->Option Expr->Option Expr->Bool} (h:tE x f=true) (k:∀a b c p,f a b c=true->C (.Slice a b c p)):C x:=by rcases x<;>first|exact k _ _ _ _ h|exact ff h
@[elab_as_elim] theorem vr {f:Expr->Str->Pos->Bool} (h:lu x f=true) (k:∀o n p,f o n p=true->C (.Attribute o n p)):C x:=by rcases x<;>first|exact k _ _ _ h|exact ff h
@[elab_as_elim] theorem Dj {f:Expr->List Expr->List Keyword->Pos->Bool} (h:pe x f=true) (k:∀o n w p,f o n w p=true->C (.Call o n w p)):C x:=by rcases x<;>first|exact k _ _ _ _ h|exact ff h
@[elab_as_elim] theorem Nz {f:Expr->List Comprehension->Scope->Bool} (h:Dh x f=true) (k:∀e g s p,f e g s=true->C (.ListComp e g s p)):C x:=by rcases x<;>first|exact k _ _ _ _ h|exact ff h
end
def tF(x:Expr):Bool:=pd x λz=>true
def isSlice(x:Expr):Bool:=tE x λz z z=>true
def tG(x:Expr):Bool:=jR x λz=>true
noncomputable def tH(x:Expr):Bool:=by cases x with|ListComp e g s p=>exact true|SetComp e g s p=>exact true|DictComp q e g s p=>exact true|_=>exact false
def Dk(s:List Nat)(c:Const):Bool:=by cases c with|str y=>exact Mw s y.cps.toList&&Nat.blt s.length 1000|_=>exact false
def A9{s:List Nat}(h:Dk s c=true):c=.str ⟨s.toArray⟩/\s.length<1000:=by
 cases c with|str y=>exact aI (a:=Mw s _) h λH z=>⟨cg Const.str<|by rw[yw H],hS z⟩|_=>exact ff h
def vt(k:Ks)(v:Nat)(x:Expr):Bool:=pd x λid=>cq id (aU v)&&isVar k id
@[elab_as_elim] theorem lz {x:Expr} {C:Expr->Prop} (h:vt ks v x=true) (k:∀p,isVar ks (aU v)=true->C (.Name (aU v) p)):C x:=IZ h λc p h=>aI h λH z=>by obtain rfl:=cj H;exact k p z
noncomputable def iQ(k:Ks):List Nat->List Expr->Bool
 |[],es=>es.isEmpty|x::s,es=>es.casesOn false λe es=>vt k x e&&iQ k s es
def gU(k:Ks)(t:List Nat)(x:Expr):Bool:=(one t).any (λv=>vt k v x)||jR x λes=>!Nat.beq t.length 1&&iQ k t es
def mK(k:Ks)(names:Ks):Ks:=names.map λn=>cond (decide (n.2=.free)&&decide (kdOf k n.1=some .cell)) (n.1,.cell) n
def NA(k:Ks)(ac:Option Nat)(t:List Nat)(sc:Scope):Bool:=
 (decide (sc.kind=.function)&&! sc.isGenerator&&! sc.isCoroutine)&&(sc.names.all (λn=>(decide (n.2=.free)&&decide (kdOf k n.1=some .cell)&&ac.all λa=>! cq n.1 (aU a))||decide (n.2=.globalImplicit)||(decide (n.2=.local)&&decide (kdOf sc.names n.1=some .local)&&(cq n.1 ".0"||t.any λx=>cq n.1<|aU x)))&&
 t.all λx=>decide (kdOf sc.names (aU x)=some .local))
def ph(k:Ks)(nm:Str)(x:Expr):Bool:=pd x λid=>cq id nm&&pb k id
@[elab_as_elim] theorem rQ {nm:Str} {x:Expr} {C:Expr->Prop} (h:ph ks nm x=true) (k:∀p,pb ks nm=true->C (.Name nm p)):C x:=IZ h λc p h=>aI h λH z=>by obtain rfl:=cj H;exact k p z
def isFree(f:Nat):Bool:=(P3[f]?).any λp=>p.1.isEmpty
def pj(x:Expr):Bool:=!pe x λf a k z=>a.isEmpty&&k.isEmpty&&pd f λid=>cq id "super"
def lA(x:Expr)(n:Str)(f:Expr->List Expr->Bool):Bool:=pe x λh a k z=>k.isEmpty&&lu h λy m p=>decide (p.endLine=z.line)&&Nat.ble a.length 20&&pj y&&(cq m n&&f y a)
noncomputable def Pt:List Nat->Bool
 |[]=>true|a::l=>!(l.any<|Nat.beq a)&&Pt l
def yA(x:Expr):Bool:=! jR x λs=>!(s.all (foldedForSure 8)||!(s.all<|constantsAlone 8))
noncomputable def zT(i:It):Bool:=by cases i with|zip a b=>exact false|enum a=>exact false|_=>exact true
noncomputable def GJ(e:E):Bool:=by cases e with|none=>exact true|_=>exact false
def mM(k:Ks)(n:Str)(x:Expr)(f:List Expr->Bool):Bool:=pe x λh a z y=>z.isEmpty&&ph k n h&&f a
@[elab_as_elim] theorem jb {x:Expr} {C:Expr->Prop} (h:mM ks n x f=true) (k:∀p a z,pb ks n=true->f a=true->C (.Call (.Name n p) a [] z)):C x:=
  Dj h λo a u z h=>bG h λH y T=>rQ y λp g=>mi.1 H▸k p a z g T
def J6(l:Option Expr)(e:E)(f:Expr->Bool):Bool:=l.casesOn (GJ e) f
noncomputable def tI(x:Expr):Bool:=by cases x with|Set a k p=>exact true|_=>exact false
noncomputable def isStar(x:Expr):Bool:=by cases x with|Starred a p=>exact true|_=>exact false
noncomputable def plainT(x:Expr):Bool:=by cases x with|UnaryOp o a p=>exact decide (o≠ .Not)|BoolOp o l p=>exact false|IfExp a b c p=>exact false|Compare a b c p=>exact false|_=>exact true
noncomputable def yB(e:E):Bool:=by cases e with|not a=>exact true|and l=>exact true|or l=>exact true|cmp o a b=>exact true|chain p q a b c=>exact true|_=>exact false
noncomputable def om(e:E):Bool:=by cases e with|comp m e t i c=>exact true|_=>exact false
def I4(e:E)(x:Expr):Bool:=yB e||plainT x
noncomputable def vw:Es->List Expr->Bool
 |.nil,_=>true|.cons e r,xs=>xs.casesOn false λx ys=>I4 e x&&vw r ys
mutual
noncomputable def aV(j:Ks)(ac:Option Nat):E->Expr->Bool
 |.int i,x=>eU x λc=>decide (c=.int i)|.str s,x=>eU x λc=>Dk s c|.Mt b,x=>eU x λc=>decide (c=.bytes b)&&Nat.blt b.length 1000|.none,x=>eU x λc=>decide (c=.none)|.bool b,x=>eU x λc=>decide (c=.bool b)|.var v,x=>vt j v x&&decide (ac≠some v)|.glob v,x=>ph j (aU v) x|.bin op a b,x=>IY x λl o r=>decide (o=Nx op)&&aV j ac a l&&aV j ac b r|.neg i,x=>J3 x λo y=>decide (o=.USub)&&eU y λc=>decide (c=.int i)|.cmp op a b,x=>Df x λl os Y=>(one os).any λo=>(one Y).any λr=>decide (o=yx op)&&!behindInMarks o r&&aV j ac a l&&aV j ac b r|.chain p q a b c,x=>Df x λl os Y=>(two os).any λo=>(two Y).any λr=>decide (o.1=yx p)&&decide (o.2=yx q)&&!behindInMarks o.2 r.2&&(aV j ac a l&&aV j ac b r.1&&aV j ac c r.2)|.not a,x=>J3 x λo y=>decide (o=.Not)&&I4 a y&&aV j ac a y|.and l,x=>yz x λo ys=>decide (o=.And)&&!ys.isEmpty&&vw l ys&&cB j ac l ys|.or l,x=>yz x λo ys=>decide (o=.Or)&&!ys.isEmpty&&vw l ys&&cB j ac l ys|.ite c a b,x=>J4 x λt y z=>I4 c t&&aV j ac c t&&aV j ac a y&&aV j ac b z|.tup l,x=>jR x λys=>Nat.ble ys.length 1000&&cB j ac l ys|.cK _ l,x=>tA x λys=>Nat.ble ys.length 1000&&cB j ac l ys|.dict _ l,x=>Dg x λk v=>Nat.ble v.length 15&&encD j ac l k v|.sub a i,x=>tD x λy z=>!isSlice z&&aV j ac a y&&aV j ac i z|.slice a lo H,x=>tD x λy z=>aV j ac a y&&tE z λl u st=>st.isNone&&J6 l lo (aV j ac lo)&&J6 u H (aV j ac H)|.attr o f,x=>lu x λy n U=>pj y&&cq n (aU f)&&aV j ac o y|.call f l,x=>mM j (Mx f) x λA=>isFree f&&(gQ[f]?).isSome&&cB j ac l A|.new c l,x=>mM j (Nw c) x λA=>(fK[c]?).isSome&&cB j ac l A|.aC o m l,x=>lA x (aU m) λy A=>aV j ac o y&&cB j ac l A|.bi b l,x=>mM j (My b) x λA=>cB j ac l A|.bm b o l,x=>lA x (Sy b) λy A=>aV j ac o y&&cB j ac l A|.sorted _ i,x=>mM j "sorted" x λA=>(one A).any λy=>!isStar y&&Ba j ac i y|.comp _ e t i c,x=>Dh x λy G sc=>(one G).any λg=>(decide (g.is_async=0)&&NA j ac t sc)&&(gU (mK j sc.names) t g.target&&(zT i||tG g.target)&&!tI g.iter)&&(Ba j ac i g.iter&&aV (mK j sc.names) none e y)&&(vw c g.ifs&&cB (mK j sc.names) none c g.ifs)|.fail,_=>true
noncomputable def cB(k:Ks)(ac:Option Nat):Es->List Expr->Bool
 |.nil,xs=>xs.isEmpty|.cons e r,xs=>xs.casesOn false λx ys=>!isStar x&&aV k ac e x&&cB k ac r ys
noncomputable def encD(s:Ks)(ac:Option Nat):Es->List (Option Expr)->List Expr->Bool
 |.nil,k,v=>k.isEmpty&&v.isEmpty|.cons a r,k,v=>k.casesOn false λx k'=>x.any λx=>aV s ac a x&&Qy s ac r k' v
noncomputable def Qy(s:Ks)(ac:Option Nat):Es->List (Option Expr)->List Expr->Bool
 |.nil,k,v=>false|.cons b r,k,v=>v.casesOn false λy v'=>aV s ac b y&&encD s ac r k v'
noncomputable def Ba(k:Ks)(ac:Option Nat):It->Expr->Bool
 |.val e,x=>aV k ac e x|.range e,x=>mM k "range" x λs=>(one s).any λy=>!isStar y&&aV k ac e y|.zip a b,x=>mM k "zip" x λs=>(two s).any λy=>!isStar y.1&&!isStar y.2&&aV k ac a y.1&&aV k ac b y.2|.enum a,x=>mM k "enumerate" x λs=>(one s).any λy=>!isStar y&&aV k ac a y|.items d,x=>lA x "items" λy s=>s.isEmpty&&aV k ac d y|.acc v,x=>vt k v x&&decide (ac=some v)
end
section
variable(x:Stmt)
def mO(f:Expr->Expr->Bool):Bool:=by cases x with|Assign t y p=>exact(one t).any λt=>f t y|_=>exact false
noncomputable def tJ(f:Expr->Bool):Bool:=by cases x with|Expr y p=>exact f y|_=>exact false
noncomputable def I5(f:Expr->List Stmt->List Stmt->Bool):Bool:=by cases x with|If a b c p=>exact f a b c|_=>exact false
noncomputable def I6(f:Expr->Expr->List Stmt->List Stmt->Bool):Bool:=by cases x with|For a b c d p=>exact f a b c d|_=>exact false
noncomputable def zU(f:Expr->List Stmt->List Stmt->Bool):Bool:=by cases x with|While a b c p=>exact f a b c|_=>exact false
noncomputable def zW(f:Option Expr->Bool):Bool:=by cases x with|Return y p=>exact f y|_=>exact false
noncomputable def Dl:Bool:=by cases x with|Continue p=>exact true|_=>exact false
end
section
variable{x:Stmt}{C:Stmt->Prop}
@[elab_as_elim] theorem vz {f:Expr->Expr->Bool} (h:mO x f=true) (k:∀t y p,f t y=true->C (.Assign [t] y p)):C x:=by rcases x<;>first|exact rg h λt h=>k t _ _ h|exact ff h
@[elab_as_elim] theorem Dm {f:Expr->Bool} (h:tJ x f=true) (k:∀y p,f y=true->C (.Expr y p)):C x:=by rcases x<;>first|exact k _ _ h|exact ff h
@[elab_as_elim] theorem Qz {f:Expr->List Stmt->List Stmt->Bool} (h:I5 x f=true) (k:∀a b c p,f a b c=true->C (.If a b c p)):C x:=by rcases x<;>first|exact k _ _ _ _ h|exact ff h
@[elab_as_elim] theorem QA {f:Expr->Expr->List Stmt->List Stmt->Bool} (h:I6 x f=true) (k:∀a b c d p,f a b c d=true->C (.For a b c d p)):C x:=by rcases x<;>first|exact k _ _ _ _ _ h|exact ff h
@[elab_as_elim] theorem J7 {f:Expr->List Stmt->List Stmt->Bool} (h:zU x f=true) (k:∀a b c p,f a b c=true->C (.While a b c p)):C x:=by rcases x<;>first|exact k _ _ _ _ h|exact ff h
@[elab_as_elim] theorem J8 {f:Option Expr->Bool} (h:zW x f=true) (k:∀y p,f y=true->C (.Return y p)):C x:=by rcases x<;>first|exact k _ _ h|exact ff h
@[elab_as_elim] theorem NB (h:Dl x=true) (k:∀p,C<|.Continue p):C x:=by rcases x<;>first|exact k _|exact ff h
end
def tK(k:Ks)(ac:Option Nat)(v:Nat)(n:Str)(y:Expr)(f:Expr->Bool):Bool:=lA y n λo a=>(vt k v o&&decide (ac=some v))&&(one a).any λz=>!isStar z&&f z
mutual
noncomputable def J9(k:Ks)(ac:Option Nat):S->Stmt->Bool
 |.asg v e,x=>mO x λt y=>(vt k v t&&decide (ac≠some v))&&(om e||!tH y)&&aV k ac e y|.dh vs e,x=>mO x λt y=>(jR t λT=>iQ k vs T)&&Pt vs&&yA y&&(vs.all (λv=>decide (ac≠some v))&&aV k ac e y)|.bn o f e,x=>mO x λt z=>(lu t λy n s=>cq n (aU f)&&aV k ac o y)&&aV k ac e z|.uV o f O m e,x=>mO x λt z=>(jR t λT=>(two T).any λt=>(lu t.1 λy n s=>cq n (aU f)&&aV k ac o y)&&lu t.2 λy n s=>cq n (aU m)&&aV k ac O y)&&aV k ac e z|.fg o i e,x=>mO x λt u=>(tD t λy z=>!isSlice z&&aV k ac o y&&aV k ac i z)&&aV k ac e u|.expr e,x=>tJ x λy=>aV k ac e y&&((pe y λs s s s=>true)||J4 y λs s s=>true)|.cI c a b,x=>I5 x λt y z=>I4 c t&&aV k ac c t&&jS k ac a y&&jS k ac b z|.dU t i b,x=>I6 x λtg I y z=>z.isEmpty&&(zT i&&!tI I&&gU k t tg&&t.all (λv=>decide (ac≠some v)))&&Ba k ac i I&&jS k ac b y|.kU c b,x=>zU x λt y z=>(z.isEmpty&&I4 c t)&&aV k ac c t&&jS k ac b y|.ret e,x=>zW x λy=>y.any λy=>aV k ac e y|.qO,x=>zW x λy=>y.isNone|.yc v,x=>zW x λy=>y.any λy=>vt k v y&&decide (ac=some v)|.iX v l,x=>mO x λt y=>(vt k v t&&decide (ac=some v))&&tA y λys=>Nat.ble ys.length 1000&&cB k ac l ys|.oi u e v l,x=>mO x λt y=>yA y&&(jR t λT=>(two T).any λt=>vt k u t.1&&decide (ac≠some u)&&vt k v t.2&&decide (ac=some v))&&jR y λys=>(two ys).any λy=>!isStar y.1&&aV k ac e y.1&&tA y.2 λys=>Nat.ble ys.length 1000&&cB k ac l ys|.eP v e,x=>tJ x λy=>tK k ac v "append" y λz=>aV k ac e z|.kV v e,x=>tJ x λy=>tK k ac v "extend" y λz=>aV k ac e z|.cont,x=>Dl x|.fail,_=>true
noncomputable def jS(k:Ks)(ac:Option Nat):Ss->List Stmt->Bool
 |.nil,xs=>xs.isEmpty|.cons s r,xs=>xs.casesOn false λx ys=>J9 k ac s x&&jS k ac r ys
end
noncomputable def yC(k:Ks):List Nat->List Arg->Bool
 |[],s=>s.isEmpty|x::z,s=>s.casesOn false λa r=>cq a.arg (aU x)&&isVar k a.arg&&yC k z r
noncomputable def QB(v:V)(c:Const):Bool:=match v with|.none=>decide (c=.none)|.bool a=>decide (c=.bool a)|.int a=>decide (c=.int a)|.bytes a=>decide (c=.bytes a)|_=>false
noncomputable def I7:List V->List Expr->Bool
 |[],es=>es.isEmpty|v::s,es=>es.casesOn false λe r=>(eU e λc=>QB v c)&&I7 s r
def encC(c:Code)(p:Arguments)(body:List Stmt)(sc:Scope):Bool:=
 (p.posonlyargs.isEmpty&&p.kwonlyargs.isEmpty&&p.vararg.isNone&&p.kwarg.isNone)&&(yC sc.names c.params p.args&&I7 c.jz p.defaults&&Pt c.params&&Nat.ble c.jz.length c.params.length)&&
 (decide (sc.kind=.function)&&! sc.isGenerator&&! sc.isCoroutine&&sc.names.all (λn=>decide (n.2≠ .free)))&&(c.acc.all (λx=>! c.params.contains x)&&jS sc.names c.acc c.body body)
end
section
open Sem (wp)
noncomputable def vA:{f:Value->PySem.Code×Pos->Bool//∀s,Builtin.Bytes.exported s=(do return(<-stack).any (f s))}:=⟨_,λs=>rfl⟩
def jc(c:PySem.Code):Prop:=∀s p,vA.1 s (c,p)=false
def GK(id:String):Prop:=∀args,jc<|.builtin id args
def Dn{id:String}(H:∀s k p,vA.1 s (.builtin id ⟨[],k⟩,p)=false)(y:∀s v k p,vA.1 s (.builtin id ⟨[v],k⟩,p)=(Builtin.Bytes.sameRef v s&&Builtin.Bytes.decodersThatHold.contains id))
 (h:∀s v u l k p,vA.1 s (.builtin id ⟨v::u::l,k⟩,p)=(Builtin.Bytes.sameRef v s&&Builtin.Bytes.decodersThatHold.contains id)) (z:Builtin.Bytes.decodersThatHold.contains id=false):GK id:=λargs s p=>by
 obtain⟨pos,k⟩:=args
 induction pos using List.casesOn with
 |nil=>exact H ..|cons v l=>induction l using List.casesOn with|nil=>rw[y,z,Bool.and_false]|cons u l=>rw[h,z,Bool.and_false]
def Clean(l:List<|PySem.Code×Pos):Prop:=∀x∈l,jc x.1
def aB{α:Type}(M:Model)(A:Around)(t:Sem α)(Q:α->Shared->Prop)(E:Value->Shared->Prop)(s:Shared):Prop:=
 ∀z p,z.In A->jc z.code->Clean z.below->wp M z t (λa x y=>Q a y) (λe x y=>E e y) p s
def codeN(M:Model)(A:Around)(c:PySem.Code)(R:Result->Shared->Prop)(s:Shared):Prop:=
 ∀z p,z.code=c->z.Below A->Clean z.below->wpCode M z R p s
section
variable{α β:Type}{M:Model}{A:Around}{E:Value->Shared->Prop}{s:Shared}
def al(h:wpAny M A t Q E s):aB M A t Q E s:=λz p j y y=>h z p j
def ag(h:Q a s):aB M A (pure a) Q E s:=al<|e5 h
def ai(h:aB M A t Q E s)
 (H:∀a s,Q a s->Q' a s) (y:∀e s,E e s->E' e s):aB M A t Q' E' s:=
 λz p j x u=>Sem.wp_mono M z t (λa m s=>H a s) (λe m s=>y e s) p s<|h z p j x u
def ab(h:aB M A m (λa s'=>aB M A (f a) Q E s') E s):aB M A (m>>=f) Q E s:=λz p j y x=>by rw[Sem.wp_bind'];exact Sem.wp_mono M z m (λa l s' H=>H z l j y x) (λu u u H=>H) p s<|h z p j y x
def ao(h:wpAny M A m (λa s'=>aB M A (f a) Q E s') E s):aB M A (m>>=f) Q E s:=ab<|al h
def bZ(h:aB M A m Q (λe s'=>aB M A (k e) (λz G=>E e G) E s') s):aB M A (m.onRaise k) Q E s:=λy p j x u=>by rw[Sem.wp_onRaise];exact Sem.wp_mono M y m (λz z z H=>H) (λe l s' H=>H y l j x u) p s<|h y p j x u
def aj(h:aB M A m Q E s):aB M A (holding vs m) Q E s:=
 λz p j H y=>by rw[Sem.wp_holding];exact h z p j H y
def pk(h:aB M A m Q E s):aB M A (m.keep vs) Q E s:=
 λz p j H y=>by rw[Sem.wp_keep];exact h z p j H y
def ak(h:Q () s):aB M A (standAt pos) Q E s:=al<|wpAny_standAt h
def vB{m:Sem α}(h:aB M A m (λa=>Q<|.ok a) (λe=>Q<|.error e) s):aB M A m.attempt Q E s:=λz p j H y=>by rw[Sem.wp_attempt];exact h z p j H y
def po{R R':Result->Shared->Prop}(h:codeN M A c R s)(H:∀r s,R r s->R' r s):codeN M A c R' s:=
 λz p y j x=>wpCode_mono H<|h z p y j x
def tL
 (y:codeN M A c (λr s'=>match r with|.ok (.ret v)=>Q v s'|.ok _=>False|.error e=>E e s') s):aB M A (runValue c) Q E s:=λu p j H z=>by
 rw[Sem.wp_runValue];refine y _ p rfl (j.enter c none p<|by intro x;injection x) λx hx=>?_;rcases lq.mp hx with rfl|hx;.exact H
 .exact z x hx
def gV
 (y:codeN M A (.call f ⟨pos,kw⟩) (λr s'=>match r with|.ok (.ret v)=>Q v s'|.ok _=>False|.error e=>E e s') s):aB M A (call f pos kw) Q E s:=tL y
def be{R:Result->Shared->Prop}(b:jc c)
 (h:aB M (A.under c) (M.den c) (λfin s'=>match fin with|.done f=>R (.ok f) s'|.again z=>z.quiet=true/\codeN M A z R s')
   (λe s'=>R (.error e) s') s):codeN M A c R s:=λy p x j u=>by
 rw[wpCode_iff_wp,x];refine Sem.wp_mono M y _ (λfin l s' H=>?_) (λm m m H=>H) p s<|h y p (x▸j.in) (by rw[x];exact b) u
 cases fin with|done f=>exact H|again z=>exact⟨H.1,H.2 (y.goto z) l rfl (j.goto z) u⟩
def GN [Decidable c](h:if c then aB M A a Q E s else aB M A b Q E s):aB M A (if c then a else b) Q E s:=by split<;>simp_all
end
section
variable{M:Model}{A:Around}{E:Value->Shared->Prop}{s:Shared}{env:Env}
def lB{l:Sem Value}(h:aB M A l (λv s₁=>wpAny M A (truthy v) Q E s₁) E s)
 (u:isTrue e env l=(do let v<-l;standAt e.pos;holding [v] (truthy v))):aB M A (isTrue e env l) Q E s:=by
 rw[u];exact ab<|ai h (λv s₁ H=>ab<|ak<|aj<|al H) λz z x=>x
def mP(h:aB M A (eval x env) (λv s₁=>wpAny M A (unaryOp op v) Q E s₁) E s):aB M A (eval (.UnaryOp op x pos) env) Q E s:=by rw[arm_eval_UnaryOp];exact ab<|ai h (λv s₁ H=>ab<|ak<|aj<|al H) λz z x=>x
def pq{l:Sem Value}(h:aB M A (isTrue x env<|eval x env) (λb s₁=>Q (! b) s₁) E s):aB M A (isTrue (.UnaryOp .Not x pos) env l) Q E s:=by rw[arm_isTrue_UnaryOp];exact ab<|ai h (λb s₁ H=>ag H) λz z x=>x
def dL(h:aB M A m Q E s):aB M A (operate vs m) Q E s:=
 λz p j H y=>by rw[Sem.wp_operate];exact h z p j H y
def Bb{l op r pos}(h:aB M A (eval l env) (λa s₁=>aB M A (eval r env) (λb m=>wpAny M A (binaryOp op a b) Q E m) E s₁) E s):aB M A (eval (.BinOp l op r pos) env) Q E s:=by rw[eval_BinOp];exact ab<|ai h (λa s₁ H=>ab<|aj<|ai H (λb m Y=>ab<|ak<|dL<|al Y) λz z x=>x) λz z x=>x
def tM{l op r pos}(h:aB M A (eval l env) (λa s₁=>aB M A (eval r env) (λb m=>wpAny M A (compareOp op a b) Q E m) E s₁) E s)(H:behindInMarks op r=false):
 aB M A (eval (.Compare l [op] [r] pos) env) Q E s:=by
 rw[eval_Compare1,markedBehindIn_of_false H];exact ab<|ai h (λa s₁ y=>ab<|aj<|ai y (λb m Y=>ab<|ak<|dL<|al Y) λz z x=>x) λz z x=>x
def iH{l op r pos whole}
 (h:aB M A (eval l env) (λa s₁=>aB M A (eval r env) (λb m=>wpAny M A (compareOp op a b) (λc y=>wpAny M A (truthy c) Q E y) E m) E s₁) E s) (H:behindInMarks op r=false):
 aB M A (isTrue (.Compare l [op] [r] pos) env whole) Q E s:=by
 rw[isTrue_Compare1,markedBehindIn_of_false H];exact ab<|ai h (λa s₁ u=>ab<|aj<|ai u (λb m Y=>ab<|ak<|ab<|dL<|ai (al Y) (λc y D=>aj<|al D) λz z x=>x) λz z x=>x) λz z x=>x
def iJ{e:List Expr}
 (h:aB M A (isTrue x env<|eval x env) (λb s₁=>if b then Q true s₁ else aB M A (allTrue .Or e env) Q E s₁) E s):aB M A (allTrue .Or (x::e) env) Q E s:=by
 show aB M A (do match BoolOp.Or,<-isTrue x env (eval x env)with|.And,false=>pure false|.Or,true=>pure true|_,_=>allTrue .Or e env) Q E s;refine ab<|ai h (λb s₁ H=>?_) λz z x=>x;obtain⟨⟩:=b;.exact H
 .exact ag H
def gW{e:List Expr}
 (h:aB M A (isTrue x env<|eval x env) (λb s₁=>if b then aB M A (allTrue .And e env) Q E s₁ else Q false s₁) E s):aB M A (allTrue .And (x::e) env) Q E s:=by
 show aB M A (do match BoolOp.And,<-isTrue x env (eval x env)with|.And,false=>pure false|.Or,true=>pure true|_,_=>allTrue .And e env) Q E s;refine ab<|ai h (λb s₁ H=>?_) λz z x=>x;obtain⟨⟩:=b;.exact ag H
 .exact H
def jd(h:Q false s):aB M A (allTrue .Or [] env) Q E s:=al<|wpAny_allTrue_Or_nil h
def iK(h:Q true s):aB M A (allTrue .And [] env) Q E s:=al<|wpAny_allTrue_And_nil h
def eW{a:List Expr}{l:Sem Value}(h:aB M A (allTrue op a env) Q E s):aB M A (isTrue (.BoolOp op a pos) env l) Q E s:=by rw[arm_isTrue_BoolOp];exact h
def Bc{test body e:Expr}
 (h:aB M A (isTrue test env<|eval test env) (λb s₁=>if b then aB M A (eval body env) Q E s₁ else aB M A (eval e env) Q E s₁) E s):aB M A (eval (.IfExp test body e pos) env) Q E s:=by
 rw[arm_eval_IfExp];refine ab<|ai h (λb s₁ H=>?_) λz z x=>x;rcases b<;>exact H
def bh{T:List Expr}
 (h:aB M A (eval e env) (λv s₁=>aB M A (spliced<|backTo pos<|starEach T env) (λvs m=>Q (v::vs) m) E s₁) E s)
 (u:starEach (e::T) env=(false,eval e env)::starEach T env):aB M A (spliced<|backTo pos<|starEach (e::T) env) Q E s:=by
 rw[u]
 show aB M A (do
  let v<-eval e env
  let here<-(pure [v]:Sem<|List Value)
  return here++(<-holding here (spliced<|backTo pos<|starEach T env))) Q E s;exact ab<|ai h (λv s₁ H=>ab<|ag<|ab<|aj<|ai H (λvs m Y=>ag Y) λz z x=>x) λz z x=>x
def bM(h:Q [] s):aB M A (spliced<|backTo pos<|starEach [] env) Q E s:=ag h
def rR{e:List Expr}{k pos}
 (h:aB M A (spliced<|backTo pos<|starEach e env) (λvs s₁=>vs.length<=sizeLine/\Q (.ref s₁.heap.objs.size) {s₁ with heap:=s₁.heap.push {cls:=.type "tuple",data:=.seq vs.toArray} }) E s):aB M A (eval (.Tuple e k pos) env) Q E s:=by
 rw[arm_eval_Tuple];exact ab<|ak<|ab<|ai h (λvs s₁ H=>al<|wpAny_newObj_type H.2<|by show vs.toArray.size<=sizeLine;rw[mF];exact H.1) λz z x=>x
def pr{e:List Expr}
 (h:aB M A (spliced<|backTo pos<|starEach e env) (λvs s₁=>vs.length<=sizeLine/\Q (.ref s₁.heap.objs.size) {s₁ with heap:=s₁.heap.push {cls:=.type "list",data:=.seq vs.toArray} }) E s):aB M A (eval (.List e pos) env) Q E s:=by
 rw[arm_eval_List];exact ab<|ak<|ab<|ai h (λvs s₁ H=>al<|wpAny_newObj_type H.2<|by show vs.toArray.size<=sizeLine;rw[mF];exact H.1) λz z x=>x
end
def zX{α:Type}{M:Model}{A:Around}{E:Value->Shared->Prop}{s:Shared}{c:Prop} [Decidable c]{t e:Sem α}{K:α->Shared->Prop}(h:c)(k:aB M A t K E s):aB M A (if c then t else e) K E s:=by rw[er h];exact k
def je{α:Type}{M:Model}{A:Around}{E:Value->Shared->Prop}{s:Shared}{c:Prop} [Decidable c]{t e:Sem α}{K:α->Shared->Prop}(h:¬c)(k:aB M A e K E s):aB M A (if c then t else e) K E s:=by rw[ej h];exact k
def zY{α:Type}{M:Model}{A:Around}{E:Value->Shared->Prop}{s:Shared}{c:Prop} [Decidable c]{t e:Sem α}{K:α->Shared->Prop}(h:c)(k:wpAny M A t K E s):wpAny M A (if c then t else e) K E s:=by rw[er h];exact k
def lC{α:Type}{M:Model}{A:Around}{E:Value->Shared->Prop}{s:Shared}{c:Prop} [Decidable c]{t e:Sem α}{K:α->Shared->Prop}(h:¬c)(k:wpAny M A e K E s):wpAny M A (if c then t else e) K E s:=by rw[ej h];exact k
end
section
variable{M:Model}{A:Around}{E:Value->Shared->Prop}{s:Shared}{env:Env}
def jU{l Y op₂ ops p r₂ rs pos}
 (h:aB M A (eval l env) (λa s₁=>aB M A (compareChain pos a (Y::op₂::ops)<|eval p env::eval r₂ env::evalEach rs env) Q E s₁) E s)
 (H:lastMarks (Y::op₂::ops) (p::r₂::rs)=false):aB M A (eval (.Compare l (Y::op₂::ops) (p::r₂::rs) pos) env) Q E s:=by
 show aB M A (do compareChain pos (<-eval l env) (Y::op₂::ops) (markedEach (Y::op₂::ops) (p::r₂::rs)<|evalEach (p::r₂::rs) env)) Q E s;rw[markedEach_of_false _ _ _ H];exact ab h
def lD{l Y op₂ ops p r₂ rs pos whole}
 (h:aB M A (eval l env) (λa s₁=>aB M A (testChain pos a (Y::op₂::ops)<|eval p env::eval r₂ env::evalEach rs env) Q E s₁) E s)
 (H:lastMarks (Y::op₂::ops) (p::r₂::rs)=false):aB M A (isTrue (.Compare l (Y::op₂::ops) (p::r₂::rs) pos) env whole) Q E s:=by
 show aB M A (do testChain pos (<-eval l env) (Y::op₂::ops) (markedEach (Y::op₂::ops) (p::r₂::rs)<|evalEach (p::r₂::rs) env)) Q E s;rw[markedEach_of_false _ _ _ H];exact ab h
def pv
 (h:aB M A r (λb s₁=>wpAny M A (compareOp op a b) (λc m=>wpAny M A (truthy c) (λt y=>if t then aB M A (compareChain pos b (N::ops)<|u::rs) Q E y else Q c y) E m) E s₁) E s):
 aB M A (compareChain pos a (op::N::ops)<|r::u::rs) Q E s:=by
 show aB M A (do
  let rv<-holding [a] r
  standAt pos
  let c<-holding [a,rv] (compareOp op a rv)
  release [a,rv] [c]
  if<-holding [c,rv] (truthy c)then compareChain pos rv (N::ops) (u::rs)else pure c) Q E s
 refine ab (aj (ai h (λb s₁ H=>ab (ak (ab (aj (ai (al H) (λc m Y=>
  ao (PyProof.Rows.wpAny_release'<|ab<|aj<|ai (al Y) (λt y D=>?_) λz z x=>x)) λz z x=>x))))) λz z x=>x))
 induction t using Bool.casesOn with|true=>exact D|false=>exact ag D
def pw(h:aB M A r (λb s₁=>wpAny M A (compareOp op a b) Q E s₁) E s):aB M A (compareChain pos a [op] [r]) Q E s:=by
 show aB M A (do
  let rv<-holding [a] r
  standAt pos
  operate [a,rv] (compareOp op a rv)) Q E s;exact ab<|aj<|ai h (λb s₁ H=>ab<|ak<|dL<|al H) λz z x=>x
def rk
 (h:aB M A r (λb s₁=>wpAny M A (compareOp op a b) (λc m=>wpAny M A (truthy c) (λt y=>if t then aB M A (testChain pos b (N::ops)<|u::rs) Q E y else Q false y) E m) E s₁) E s):
 aB M A (testChain pos a (op::N::ops)<|r::u::rs) Q E s:=by
 show aB M A (do
  let rv<-holding [a] r
  standAt pos
  let c<-holding [a,rv] (compareOp op a rv)
  release [a,rv] [c]
  if<-holding [c,rv] (truthy c)then testChain pos rv (N::ops) (u::rs)else pure false) Q E s
 refine ab (aj (ai h (λb s₁ H=>ab (ak (ab (aj (ai (al H) (λc m Y=>
  ao (PyProof.Rows.wpAny_release'<|ab<|aj<|ai (al Y) (λt y D=>?_) λz z x=>x)) λz z x=>x))))) λz z x=>x))
 induction t using Bool.casesOn with|true=>exact D|false=>exact ag D
def rq(h:aB M A r (λb s₁=>wpAny M A (compareOp op a b) (λc m=>wpAny M A (truthy c) Q E m) E s₁) E s):aB M A (testChain pos a [op] [r]) Q E s:=by
 show aB M A (do
  let rv<-holding [a] r
  standAt pos
  let c<-operate [a,rv] (compareOp op a rv)
  holding [c] (truthy c)) Q E s;exact ab<|aj<|ai h (λb s₁ H=>ab<|ak<|ab<|dL<|ai (al H) (λc m Y=>aj<|al Y) λz z x=>x) λz z x=>x
def jV(h:aB M A (eval e env) Q E s):aB M A (evalPart (some e) env) Q E s:=h
def eY(h:Q .none s):aB M A (evalPart none env) Q E s:=ag h
def Bd{e U step:Option Expr}
 (h:aB M A (evalPart e env) (λl s₁=>aB M A (evalPart U env) (λu m=>aB M A (evalPart step env) (λst y=>
   Q (.ref y.heap.objs.size) {y with heap:=y.heap.push {cls:=.type "slice",data:=.fields #[l,u,st]} }) E m) E s₁) E s):
 aB M A (eval (.Slice e U step p) env) Q E s:=by
 rw[arm_eval_Slice];refine ab<|ai h (λl s₁ h₁=>ab<|aj<|ai h₁ (λu m Y=>ab<|aj<|ai Y (λst y D=>?_) λz z x=>x) λz z x=>x) λz z x=>x;exact al<|wpAny_newObj_type D
end
section
variable{prog:Program}{w:World}{A:Around}{E:Value->Shared->Prop}{s:Shared}{env:Env}
def jf{T:List (Sem Value×Sem Value)}
 (h:aB (model prog w) A k (λy s₁=>aB (model prog w) A v (λx m=>aB (model prog w) A (evalPairs T) (λvs c=>Q ((y,x)::vs) c) E m) E s₁) E s):
 aB (model prog w) A (evalPairs<|(k,v)::T) Q E s:=by
 rw[evalPairs];refine ab<|ai h (λy s₁ H=>?_) λz z e=>e;refine ab<|aj<|ai H (λx m Y=>?_) λz z e=>e;exact ab<|aj<|ai Y (λvs c D=>ag D) λz z e=>e
end
section
variable{M:Model}{A:Around}{E:Value->Shared->Prop}{s:Shared}{env:Env}
def bc{id:Str}{args:List Expr}{keywords:List Keyword}
 (h:wpAny M A (eval (.Name id p) env) (λf s₁=>aB M A (callWith pos f [] (backTo pos<|starEach args env)<|backToKw pos<|keywordEach keywords env) Q E s₁) E s):
 aB M A (eval (.Call (.Name id p) args keywords pos) env) Q E s:=by
 rw[arm_eval_Call_Name'];exact ao h
def eg{e:List (Bool×Sem Value)}
 (h:aB M A (spliced<|(false,x)::e) (λvs s'=>Q ⟨vs,[]⟩ s') E s):aB M A (evalArgs f true ((false,x)::e) []) Q E s:=by
 unfold evalArgs;show aB M A (spliced ((false,x)::e)>>=_) Q E s;refine ab<|ai h (λvs s' H=>?_) λz z x=>x;exact aj<|ab<|ag<|ab<|ag<|ag H
def bH(ht:aB M A t Q E s):aB M A (t>>=λr=>holding [r] point>>=λz=>pure r) Q E s:=
 ab (ai ht (λr m H=>ab<|aj<|al<|wpAny_point<|ag H) λz z x=>x)
def py(h:aB M A x Q E s)(H:aB M A y Q E s):aB M A (@ite _ c i x y) Q E s:=by cases i;exact H;exact h
def aW{first:List Value}{P:Heap->Prop}{args:List (Bool×Sem Value)}{keywords:List (Option Str×Sem Value)}(z:(args.any (·.1)||keywords.any (·.1.isNone))=false)
 (y:∀h,P h->∃k,(k=Keeper.frame\/k=Keeper.machine\/k=Keeper.boundFrame)/\Looks M h (keeperOf f) k)
 (h:aB M A (evalArgs f true args keywords) (λa s₁=>P s₁.heap/\aB M A (call f (first++a.pos) a.kw) Q E s₁) E s):aB M A (callWith pos f first args keywords) Q E s:=by
 unfold callWith;refine ab<|aj<|ai h (λa s₁ H=>ab<|ak ?_) λu u x=>x;refine bC λG=>?_;obtain⟨k,e,L⟩:=y _ H.1;refine G ?_;rw[z];refine ao<|L.here ?_;have m (p:Value):aB M A (callMarked p f (first++a.pos) a.kw) Q E s₁:=by unfold callMarked;exact pk H.2
 rcases e with rfl|rfl|rfl<;>first|exact bH H.2|exact py (bH H.2)<|bH<|m _
def cN{first:List Value}{args:List (Bool×Sem Value)}{keywords:List (Option Str×Sem Value)}
 (h:aB M A (evalArgs (.ref a) true args keywords) (λx s₁=>(s₁.heap.get? a=some o/\o.data=.func fd)/\aB M A (call (.ref a) (first++x.pos) x.kw) Q E s₁) E s):
 aB M A (callWith pos (.ref a) first args keywords) Q E s:=by
 unfold callWith;refine ab<|aj<|ai h (λx s₁ H=>ab<|ak ?_) λz z x=>x;cases y:(args.any (·.1)||keywords.any (·.1.isNone))<;>
  refine ab (m:=keeperOf<|.ref a) ?_<;>unfold keeperOf<;>
  refine ao<|wpAny_load H.1.1 ?_<;>rw[H.1.2]<;>refine ag ?_;.exact py (bH H.2)<|bH<|by unfold callMarked;exact pk H.2
 .exact bH<|by unfold callMarked;exact pk H.2
end
section
variable{prog:Program}{w:World}{A:Around}{R:Result->Shared->Prop}{s:Shared}
def fj{id:String}{args:Args}(D:GK id)(H:entryFor table id=some b)
 (h:aB (model prog w) (A.under<|.builtin id args) (b args)
   (λfin s'=>match fin with|.done f=>R (.ok f) s'|.again z=>z.quiet=true/\codeN (model prog w) A z R s') (λe s'=>R (.error e) s') s):codeN (model prog w) A (.builtin id args) R s:=by
 refine be (c:=.builtin id args) (D args) ?_;show aB _ _ (match entryFor table id with|some b=>b args|none=>unsupported<|(withoutEnding? id "#data").getD id) _ _ s;rw[H];exact h
def c5{id:String}{args:Args}(H:(PySem.Code.builtin id args).quiet=true)
 (h:wpAny (model prog w) A.in1 (checkBuiltinCall id args) (λz s₁=>codeN (model prog w) A (.builtin id args) R s₁) (λe s'=>R (.error e) s') s):codeN (model prog w) A (.call (.builtin id) args) R s:=by
 refine be (c:=.call (.builtin id) args) (λz z=>rfl) ?_;show aB _ A.in1 (do checkBuiltinCall id args;again (.builtin id args)) _ _ s;exact ao<|y1 h (λz s₁ y=>ag<|And.intro H y) λz z x=>x
end
section
set_option maxRecDepth 100000
section
variable{prog:Program}{w:World}{A:Around}{E:Value->Shared->Prop}{h:Heap}{g:Array GenState}{d:Drawn}{t:Nat}{os:OsState}
variable{nm q:Str}{C N:Addr}{bs:List Value}{sn:List Str}{sub:List Value}{col:Option Bool}{dd:Option Addr}{k0 k1 k2 k3 k5:Option Value}{newId:String}
def f6(F:ObjNewFacts newId){s:List Value}
 (H:h.get? C=some (excClassObj nm q C N bs [.type "object"] true sn sub false col dd k0 k1 k2 k3 k5 newId)) (z:h.Ns N mN) (i:mN "__init__"=some (.ref fI))
 (p:h.get? fI=some oI) (D:oI.cls=.type "function")
 (m:∀y x l,Heap.MadeObj h y x l C->
   aB (model prog w) A (call (.ref fI)<|.ref x::s) (λr s'=>r=.none/\Q (.done<|.ret<|.ref x) s') E ⟨y,g,d,t,os⟩):
 aB (model prog w) A (Builtin.«type.__call__» ⟨.ref C::s,[]⟩) Q E ⟨h,g,d,t,os⟩:=by
 have k:mroOf (.type "object")=pure [.type "object"]:=by kernel_rfl
 have f:typeLookup (.type "object") "__init__"=pure (some<|.builtin "object.__init__"):=by rw[r0,my];kernel_rfl
 unfold Builtin.«type.__call__»;dsimp only;refine je (show ¬(Value.ref C==Value.type "type")=true from nI) ?_;refine ao ?_;repeat (first|with_reducible refine wpAny_loadPart_at H ?_|wp_step)
 refine je (by simp) ?_;refine ao ?_;repeat (first|with_reducible refine wpAny_madeBy_exc H ?_|wp_step)
 dsimp only;refine ab<|ag<|ao<|Be<|wpAny_call<|codeAny_call_builtin_code (Code.quiet_builtin _ F.quiet)<|wpAny_check_obj_new F H<|codeAny_obj_new F H z i ?_;show aB _ _ _ _ _ _
 have I:=fz {cls:=.ref C,dict:=some h.objs.size,data:=.plain} (fz {cls:=.type "dict",data:=.dict #[]} H)
 have a:=fz {cls:=.ref C,dict:=some h.objs.size,data:=.plain} (fz {cls:=.type "dict",data:=.dict #[]} p)
 have Y:((h.push {cls:=.type "dict",data:=.dict #[]}).push {cls:=.ref C,dict:=some h.objs.size,data:=.plain}).Ns N mN:=
  let⟨o,es,ep,e,r⟩:=z;⟨o,es,ep,fz _<|fz _ e,r⟩
 have j:((h.push {cls:=.type "dict",data:=.dict #[]}).push {cls:=.ref C,dict:=some h.objs.size,data:=.plain}).get? (h.objs.size+1)=some {cls:=.ref C,dict:=some h.objs.size,data:=.plain}:=by heap_get
 have U:((h.push {cls:=.type "dict",data:=.dict #[]}).push {cls:=.ref C,dict:=some h.objs.size,data:=.plain}).get? h.objs.size=some {cls:=.type "dict",data:=.dict #[]}:=
  fz _ (Heap.get?_push_at rfl rfl)
 have O:(Value.ref C::[Value.type "object"]).contains (.ref C)=true:=by simp
 refine ao ?_
 unfold isInstance
 repeat (first|with_reducible refine wpAny_loadPart_at j ?_|(with_reducible refine wpAny_isSubtype_exc I ?_;rw[O])|wp_step)
 refine je (by simp) ?_
 refine ab<|aj ?_
 unfold callSpecial? specialOf
 refine ab ?_
 refine ao ?_
 repeat (first|with_reducible refine wpAny_loadPart_at j ?_|wp_step)
 show aB _ _ (typeLookup (.ref C) _) _ _ _
 refine al<|wpAny_typeLookup_exc I Y k f ?_
 rw[i]
 refine aj<|ab ?_
 unfold bindSpecial
 refine ao<|wpAny_typeOf (T:="function") ⟨_,a,D⟩ ?_
 refine zX (by decide) ?_
 refine ag (ab (ai (m _ (h.objs.size+1) h.objs.size ⟨λb o M=>fz _<|fz _ M,Ep<|Nat.le_succ _,Ep<|i1 _,
  ⟨_,j,rfl,λc=>by simp,.inr ⟨h.objs.size,rfl,q0<|yb _,Heap.Ns1.of_empty ⟨_,#[],_,U,rfl,λe L=>absurd L<|by simp,λu=>rfl⟩⟩⟩,
  λo J=>by obtain rfl:=dR<|j.symm.trans J;rfl,by simp only[Heap.size_push];exact Ja [_] [] ⟨0,.v 0,.a (.a (.v 0)<|.n 1)<|.n 1⟩ 1 [] rfl⟩) (λr s' G=>?_) λu u x=>x))
 obtain⟨rfl,hQ⟩:=G
 refine ag ?_
 dsimp only
 refine je (by decide) ?_
 exact ag hQ
def jW(F:ObjNewFacts newId){e:List Value}
 (H:h.get? C=some (excClassObj nm q C N bs [.type "object"] true sn sub false col dd k0 k1 k2 k3 k5 newId)) (u:h.Ns N mN) (i:mN "__init__"=some (.ref fI))
 (p:h.get? fI=some oI) (D:oI.cls=.type "function")
 (s:∀y x l,Heap.MadeObj h y x l C->
   aB (model prog w) (A.under<|.builtin "type.__call__" ⟨.ref C::e,[]⟩) (call (.ref fI)<|.ref x::e) (λr s'=>r=.none/\Q (.ref x) s') E ⟨y,g,d,t,os⟩):
 aB (model prog w) A (call (.ref C) e) Q E ⟨h,g,d,t,os⟩:=by
 have f:=tc_lookup;have k:=tc_bind<|.ref C;have T:(⟨h,g,d,t,os⟩:Shared).TypeIs (.ref C) "type":=⟨_,H,rfl⟩;refine gV<|be (c:=.call (.ref C) ⟨e,[]⟩) (λz z=>rfl) ?_;show aB _ A.in1 (callAny (.ref C) _) _ _ _;refine al ?_;repeat (any_goals (first|assumption|with_reducible refine wpAny_loadPart_at H ?_|wp_step))
 refine⟨rfl,?_⟩;refine c5 (Code.quiet_builtin _<|by decide+kernel)<|wpAny_check_type_call_sub H ?_;refine fj (Dn (λz z z=>rfl) (λz z z z=>rfl) (λz z z z z z=>rfl)<|by decide+kernel) entry_typeCall ?_;exact f6 F H u i p D λy x l m=>s y x l m
end
end
section
variable{M:Model}{A:Around}{E:Value->Shared->Prop}{s:Shared}{env:Env}
def fk(h:Q .next s):aB M A (execs [] env) Q E s:=al<|wpAny_execs_nil h
def pA{st rest}
 (h:aB M A (exec st env) (λf s'=>match f with|.next=>aB M A (execs rest env) Q E s'|f=>Q f s') E s):aB M A (execs (st::rest) env) Q E s:=by
 rw[execs_cons];refine ab<|ai h (λf s' H=>?_) λz z x=>x;rcases f<;>first|exact H|exact ag H
def gu{e pos}(h:aB M A (eval e env) (λv=>Q<|.ret v) E s):aB M A (exec (.Return (some e) pos) env) Q E s:=by rw[exec_Return_some];exact ab<|ak<|ab<|ai h (λv y H=>ag H) λz z x=>x
def nN{pos}(h:Q (.ret .none) s):aB M A (exec (.Return none pos) env) Q E s:=al<|wpAny_Return_none h
def tN(h:Q .cont s):aB M A (exec (.Continue pos) env) Q E s:=al<|wpAny_Continue h
def Kf{test body orelse pos}
 (h:aB M A (isTrue test env<|eval test env) (λb m=>if b then aB M A (execs body env) Q E m else aB M A (execs orelse env) Q E m) E s):aB M A (exec (.If test body orelse pos) env) Q E s:=by
 rw[exec_If];refine ab<|ak<|ab<|ai h (λb m Y=>?_) λz z x=>x;rcases b<;>exact Y
def dP{x pos' value pos}
 (h:aB M A (eval value env) (λv s₁=>wpAny M A (storeName env x v) (λz=>Q .next) E s₁) E s) (H:swapsWith value (some<|.Name x pos') pos.line env=pure false):
 aB M A (exec (.Assign [.Name x pos'] value pos) env) Q E s:=by
 rw[exec_Assign_Name env x pos' value pos H];exact ab<|ak<|ab<|ai h (λv s₁ y=>ab<|ak<|ao<|wpAny_bindName<|y1 y (λz m Y=>ag Y) λz z x=>x) λz z x=>x
def jX(h:Q () s):aB M A (release old new) Q E s:=al<|PyProof.Rows.wpAny_release' h
def fM{elts k tpos value pos}
 (h:aB M A (eval value env) (λv s₁=>wpAny M A (assign (.Tuple elts k tpos) env v) (λz=>Q .next) E s₁) E s)
 (H:swapsWithSole [.Tuple elts k tpos] value pos.line env=pure false) (y:swappedStores [.Tuple elts k tpos] value env=pure none):
 aB M A (exec (.Assign [.Tuple elts k tpos] value pos) env) Q E s:=by
 rw[PyProof.Rows.exec_Assign];refine ab<|ak ?_;rw[H];refine ab<|ag<|je (by decide) ?_;refine ab<|ai h (λv s₁ u=>?_) λz z x=>x;rw[y];refine ab<|ag ?_;show aB M A (do assignAll v [assign (.Tuple elts k tpos) env];pure .next) Q E s₁;exact ao<|y1 u (λz z x=>ag x) λz z x=>x
def cO{elts k tpos value pos}{names:List Str}
 (h:aB M A (eval value env) (λv s₁=>wpAny M A (unpackItems v names.length none) (λitems m=>
   wpAny M A (assignInOrder (names.reverse.map λn=>bindName env n) items.reverse) (λz=>Q .next) E m) E s₁) E s)
 (H:swapsWithSole [.Tuple elts k tpos] value pos.line env=pure false) (y:swappedStores [.Tuple elts k tpos] value env=pure (some names)):
 aB M A (exec (.Assign [.Tuple elts k tpos] value pos) env) Q E s:=by
 rw[PyProof.Rows.exec_Assign];refine ab<|ak ?_;rw[H];refine ab<|ag<|je (by decide) ?_;refine ab<|ai h (λv s₁ u=>?_) λz z x=>x;rw[y];refine ab<|ag ?_;show aB M A (do rule "assign.swapped-stores";let items<-unpackItems v names.length none;assignInOrder (names.reverse.map λn=>bindName env n) items.reverse;pure .next) Q E s₁;exact ao<|wpAny_rule<|ao<|y1 u (λitems m Y=>ao<|y1 Y (λz z x=>ag x) λz z x=>x) λz z x=>x
end
section
variable{prog:Program}{w:World}{A:Around}{E:Value->Shared->Prop}{s:Shared}{env:Env}
def lE{e:List Expr}{x1}{items:Array Value}(z:A.handled=none)(ht:s.heap.IsTuple t items)
 (N:(assignEach e env).length=items.size) (y:(assignEach e env).findIdx? (·.1)=none)
 (h:∀H,Heap.ExtBut s.heap.objs.size s.heap H->aB (model prog w) A (assignInOrder ((assignEach e env).map (·.2)) items.toList) Q E {s with heap:=H}):
 aB (model prog w) A (assign (.Tuple e x1 pos) env<|.ref t) Q E s:=by
 rw[arm_assign_Tuple];refine ab<|ak ?_;unfold unpack;rw[N,y];exact ab<|aj<|al<|wpAny_unpackItems_tuple z ht h
end
section
variable{prog:Program}{w:World}{A:Around}{E:Value->Shared->Prop}{s:Shared}
def mQ{id:String}{e:Value}(y:∀h,Looks (model prog w) h (keeperOf<|.builtin id) .machine)
 (h:aB (model prog w) A x (λv s₁=>wpAny (model prog w) A (PySem.call (.builtin id) [e,v]) Q E s₁) E s):aB (model prog w) A (callWith pos (.builtin id) [e] [(false,x)] []) Q E s:=by
 refine aW (P:=λz=>True) rfl (λh u=>⟨.machine,.inr<|.inl rfl,y h⟩) (eg ?_);rw[spliced];refine ab<|ai h (λv s₁ H=>?_) λz z x=>x;simp only[Bool.false_eq_true,if_false];exact ab<|ag<|ab<|aj<|ag<|ag ⟨trivial,al H⟩
def nO
 (h:aB (model prog w) A x (λv s₁=>∃items n,items.size<=sizeLine/\IsL s₁.heap l items n/\Q .none {s₁ with heap:=s₁.heap.update l (Obj.mapSeq λxs=>xs.push v)}) E s):
 aB (model prog w) A (callWith pos (.builtin "list.append") [.ref l] [(false,x)] []) Q E s:=
 mQ (λz=>Looks.of_pure rfl) (ai h (λv s₁ y=>by
  refine bC λG=>?_;obtain⟨items,n,u,H,p⟩:=y
  exact G<|call_meets PySem.F.slot_list_append ⟨_,H,rfl⟩ PySem.F.entry_list_append (PySem.F.args_list_append_2 _ _) (list_append l items n v u) ⟨H,p⟩) λz z e=>e)
def nP
 (h:aB (model prog w) A x (λv s₁=>∃b items L n N,items.size<=sizeLine/\items.size+L.size<=sizeLine+1/\¬(!items.isEmpty&&Builtin.List.listTooLong (items.size+L.size))=true/\v=.ref b/\IsL s₁.heap l items n/\IsL s₁.heap b L N/\
   Q .none {s₁ with heap:=s₁.heap.update l (Obj.mapSeq λxs=>xs++L)}) E s):
 aB (model prog w) A (callWith pos (.builtin "list.extend") [.ref l] [(false,x)] []) Q E s:=
 mQ (λz=>Looks.of_pure rfl) (ai h (λv s₁ y=>by
  refine bC λG=>?_;obtain⟨b,items,L,n,N,u,c,f,rfl,H,p,m⟩:=y
  exact G<|call_meets PySem.F.slot_list_extend ⟨_,H,rfl⟩ PySem.F.entry_list_extend (PySem.F.args_list_extend_2 _ _) (AutoSeq1.list_extend_list_list_0 l items n b L N f u c) ⟨H,p,m⟩) λz z e=>e)
end
section
variable{prog:Program}{w:World}{A:Around}{R:Result->Shared->Prop}{s:Shared}
def yD{body env}
 (h:aB (model prog w) (A.deeper env) (execs body env) (λf s'=>R (.ok<|.ret<|match f with|.ret v=>v|_=>.none) s') (λz z=>False) s):codeN (model prog w) A (.func body env) R s:=by
 refine be (c:=.func body env) (λz z=>rfl) ?_;show aB _ (A.deeper env) (do point;match<-(execs body env).onRaise (leaving env)with|.ret v=>ret v|_=>ret .none) _ _ s;refine ao<|wpAny_point<|ab<|bZ<|ai h (λf s' H=>?_) λz z H=>H.elim;rcases f<;>exact ag H
def iM{args:Args}{body:List Stmt}(N:A.depth<recursionLimit)(J:s.heap.get? a=some o)
 (O:o.data=.func fd) (U:fd.scope.isCoroutine=false) (Q:fd.scope.isGenerator=false) (x:fd.body=.stmts body) (u:s.heap.CodeRec fd.code fd.qualname)
 (h:wpAny (model prog w) A.in1 (bindArgs fd args) (λbinds s₁=>
   wpAny (model prog w) A.in1 (newFunctionEnv fd.scope fd.globals fd.closure binds (fd.qualname++".<locals>.") (some a) fd.code none fd.builtins)
    (λenv M=>M.heap.NoLimit/\codeN (model prog w) A (.func body env) R M) (λe s'=>R (.error e) s') s₁) (λe s'=>R (.error e) s') s):
 codeN (model prog w) A (.call (.ref a) args) R s:=by
 refine be (c:=.call (.ref a) args) (λz z=>rfl) ?_;show aB _ A.in1 (load a>>=_) _ _ s;refine ao<|wpAny_load J<|bC λG=>?_;obtain⟨c,oc,f,T,y,p,l,j⟩:=u;refine G ?_;rw[O];show aB _ _ (callFunction a fd args) _ _ _
 have e:fd={fd with body:=.stmts body,code:=.ref c,scope:={fd.scope with isGenerator:=false,isCoroutine:=false} }:=by show(λb D g k=>({fd with body:=b,code:=D,scope:={fd.scope with isGenerator:=g,isCoroutine:=k} }:FuncData)) fd.body fd.code fd.scope.isGenerator fd.scope.isCoroutine=_;rw[x,y,Q,U]
 rw[y]at h;rw[e]at h⊢;refine ao (m:=field (.ref c) 1)<|wpAny_field p l j<|ab<|ag ?_
 exact ao (y1 h (λbinds s₁ i=>ao (y1 i (λenv M Y=>ao (wpAny_enterFrame Y.1 N
  (ag<|And.intro rfl Y.2))) λz z H=>H)) λz z H=>H)
end
section
variable{M:Model}{A:Around}{E:Value->Shared->Prop}{s:Shared}{env:Env}
def pB(y:codeN M A c (λr s'=>match r with|.ok f=>Q f s'|.error _=>False) s):aB M A (runOwn c env) Q E s:=by
 unfold runOwn;refine bZ λm p j z u=>?_;rw[Sem.wp_run];refine wpCode_mono (λr s' H=>?_)<|y _ p rfl (j.enter c none p<|by intro x;injection x) λx hx=>?_
 .induction r using Except.casesOn with|ok f=>exact H|error e=>exact H.elim
 .rcases lq.mp hx with rfl|hx;.exact z
  .exact u x hx
def gZ{R:Result->Shared->Prop}(b:jc c)(H:c.quiet=true)(I:Nat->Shared->Prop)
 (turn:∀n s,I n s->aB M (A.under c) (M.den c)
   (λfin s'=>match fin with|.done f=>R (.ok f) s'|.again z=>(z=c/\∃m,m<n/\I m s')\/(z.quiet=true/\codeN M A z R s')) (λe s'=>R (.error e) s') s)
 (n:Nat) (h:I n s):codeN M A c R s:=by
 induction n using Nat.strongRecOn generalizing s with
 |ind n i=>
  refine be b<|ai (turn n s h) (λfin s' hf=>?_) λy y x=>x
  cases fin with
  |done f=>exact hf|again z=>
   rcases hf with⟨rfl,m,u,p⟩|hf;.exact⟨H,i m u p⟩
   .exact hf
def yE{R:Result->Shared->Prop}(b:jc c)(Q:c.quiet=true)(I:Nat->Shared->Prop)
 (turn:∀n s,I n s->aB M (A.under c) (M.den c) (λfin s'=>match fin with|.done f=>R (.ok f) s'|.again z=>z=c/\∃m,m<n/\I m s') (λe s'=>R (.error e) s') s)
 (n:Nat) (h:I n s):codeN M A c R s:=
 gZ b Q I (λn s p=>ai (turn n s p) (λfin s' H=>by
  cases fin with|done f=>exact H|again z=>exact .inl H) λy y x=>x) n h
def GO{target iter body orelse pos}
 (h:aB M A (eval iter env) (λx s₁=>wpAny M A (pyIter x) (λI m=>
   codeN M A (.forLoop target I body orelse env) (λr s'=>match r with|.ok f=>Q f s'|.error e=>False) m) E s₁) E s)
 (y:∀x,foldedSetIterable iter env x=pure x):aB M A (exec (.For target iter body orelse pos) env) Q E s:=by
 rw[exec_For]
 exact ab (ak (ab (ai h (λx s₁ u=>by
  rw[y x]
  exact ab<|ag<|ab<|ak<|ab<|aj<|ai (al u) (λI m Y=>pB Y) λz z H=>H) λz z H=>H)))
def Bf{test body orelse pos}
 (h:codeN M A (.whileLoop test body orelse env) (λr s'=>match r with|.ok f=>Q f s'|.error e=>False) s):aB M A (exec (.While test body orelse pos) env) Q E s:=by
 rw[exec_While];exact ab<|ak<|pB h
end
section
variable{prog:Program}{w:World}{A:Around}{R:Result->Shared->Prop}{s:Shared}{env:Env}
def vD{m:List Stmt}(h:aB (model prog w) A (execs m env) (λf s'=>R (.ok f) s') (λz z=>False) s):codeN (model prog w) A (.block m env) R s:=by refine be (c:=.block m env) (λz z=>rfl) ?_;show aB _ _ (do return Fin.done (<-(execs m env).onRaise (λx=>do noteFrame x env;theTreesLotGoes x))) _ _ s;exact ab<|bZ<|ai h (λf s' H=>ag H) λz z H=>H.elim
def jY{target it body orelse}(I:Nat->Shared->Prop)
 (turn:∀n s,I n s->wpAny (model prog w) A (pyNext it) (λr s₁=>match r with
   |none=>aB (model prog w) A (execs orelse env) (λf y=>R (.ok f) y) (λz z=>False) s₁|some v=>wpAny (model prog w) A (letOwnedTupleGo target it v) (λz i=>
     wpAny (model prog w) A (assign target env v) (λz a=>aB (model prog w) A (execs body env) (λf y=>match f with|.next|.cont=>∃m,m<n/\I m y|.brk=>R (.ok .next) y|.ret v=>R (.ok<|.ret v) y) (λz z=>False) a) (λz z=>False) i) (λz z=>False) s₁) (λz z=>False) s)
 (n:Nat) (h:I n s):codeN (model prog w) A (.forLoop target it body orelse env) R s:=by
 refine gZ (c:=.forLoop target it body orelse env) (λz z=>rfl) rfl I (λn s p=>?_) n h;show aB _ A ((forTurn target it body orelse env).onRaise λx=>do noteFrame x env;theTreesLotGoes x) _ _ s;refine bZ<|ai ?_ (λz z h=>h) λ_ _ (h:False)=>h.elim;unfold forTurn;refine ab<|ak<|ab<|bZ<|ai (al<|turn n s p) (λr s₁ u=>?_) λz z H=>H.elim
 induction r using Option.casesOn with
 |none=>exact ag<|.inr ⟨rfl,vD u⟩|some v=>
  refine ab<|ai (al u) (λz i N=>?_) λz z H=>H;refine ab<|ai (al N) (λz a Y=>ab<|ai Y (λf y D=>?_) λz z H=>H) λz z H=>H
  induction f using Flow.casesOn with|next=>exact ag<|.inl ⟨rfl,D⟩|cont=>exact ag<|.inl ⟨rfl,D⟩|brk=>exact ag D|ret v=>exact ag D
def nQ{test body orelse}(I:Nat->Shared->Prop)
 (turn:∀n s,I n s->
   aB (model prog w) A (isTrue test env<|eval test env) (λb a=>
    if b then aB (model prog w) A (execs body env) (λf y=>match f with|.next|.cont=>∃m,m<n/\I m y|.brk=>R (.ok .next) y|.ret v=>R (.ok<|.ret v) y) (λz z=>False) a
    else aB (model prog w) A (execs orelse env) (λf y=>R (.ok f) y) (λz z=>False) a) (λz z=>False) s)
 (n:Nat) (h:I n s):codeN (model prog w) A (.whileLoop test body orelse env) R s:=by
 refine gZ (c:=.whileLoop test body orelse env) (λz z=>rfl) rfl I (λn s p=>?_) n h;show aB _ A ((whileTurn test body orelse env).onRaise λx=>do noteFrame x env;theTreesLotGoes x) _ _ s;refine bZ<|ai ?_ (λz z h=>h) λ_ _ (h:False)=>h.elim;unfold whileTurn;refine ab<|ai (turn n s p) (λb a Y=>?_) λz z H=>H
 cases b with
 |false=>exact je nI<|ab<|ai ((ej nI).mp Y) (λf y D=>ag D) λz z H=>H|true=>
  refine zX rfl (ab<|ai ((er rfl).mp Y) (λf y D=>?_) λz z H=>H)
  induction f using Flow.casesOn with|next=>exact ag<|.inl ⟨rfl,D⟩|cont=>exact ag<|.inl ⟨rfl,D⟩|brk=>exact ag D|ret v=>exact ag D
end
section
variable{M:Model}{A:Around}{s:Shared}{env:Env}
def nR{E:Value->Shared->Prop}(y:codeN M A c (λr s'=>match r with|.ok f=>Q (.ok f) s'|.error _=>False) s):aB M A (holding vs<|run c).attempt Q E s:=by
 refine vB<|aj λm p j z u=>?_;rw[Sem.wp_run];refine wpCode_mono (λr s' H=>?_)<|y _ p rfl (j.enter c none p<|by intro x;injection x) λx hx=>?_
 .induction r using Except.casesOn with|ok f=>exact H|error e=>exact H.elim
 .rcases lq.mp hx with rfl|hx;.exact z
  .exact u x hx
def vE [Decidable c]{E:Value->Shared->Prop}(h:aB M A (k ()) Q E s):aB M A (if c then(standAt pos>>=k)else k ()) Q E s:=by
 split;.exact ab<|ak h
 .exact h
def f7{scope:Scope}{D first:Sem Value}
 (T:clausesOf e=g::gs) (U:∀x,foldedSetIterable g.iter env x=pure x) (O:closureFor scope env=pure cl)
 (j:scope.kind=.function) (L:∀x∈scope.names,x.2=.local->scope.names.lookup x.1=some .local)
 (h:aB M A first (λx s₁=>wpAny M A (pyIter x) (λI i=>wpAny M A D (λa c=>
   wpAny M A (newFunctionEnv scope env.globals cl [] env.qual none .none<|some env) (λcenv Y=>
    codeN M A (.compStart e 0 I a {cenv with scope:=relabel scope env}) (λr s'=>match r with|.ok f=>compPost M A (λz z=>False) use Q a cenv.locals (.ok f) s'|.error _=>False) Y) (λz z=>False) c) (λz z=>False) i) (λz z=>False) s₁) (λz z=>False) s):
 aB M A (comprehension e scope env pos D false first use) Q (λz z=>False) s:=by
 unfold comprehension;refine cR O<|cR T<|ab<|ai h (λx s₁ h₁=>?_) λz z H=>H;refine ab<|ak<|ab<|cR (U x)<|ag<|ab<|aj<|ai (al h₁) (λI i bY=>?_) λz z H=>H;refine vE<|ab<|ai (al bY) (λa c dm=>ab<|ag<|ab<|ai (al dm) (λcenv Y QG=>?_) λz z H=>H) λz z H=>H;have p:∀x∈(scope.names.filter λx=>(x.2== .local||x.2== .cell)&&x.1 !=(".0":Str)).reverse,x.2=.local->
  Env.kindOf {cenv with scope:=relabel scope env} x.1=some .local:=λx k l=>lookup_relabel_local<|L x (gS.mp<|List.mem_reverse.mp k).1 l;have Go:∀x∈(scope.names.filter λx=>(x.2== .local||x.2== .cell)&&x.1 !=(".0":Str)).reverse.drop 1++(scope.names.filter λx=>(x.2== .local||x.2== .cell)&&x.1 !=(".0":Str)).reverse.take 1,
  x.2=.local->Env.kindOf {cenv with scope:=relabel scope env} x.1=some .local:=λx k l=>by
  rcases eu.mp k with h1|h1;.exact p x (List.mem_of_mem_drop h1) l
  .exact p x (List.mem_of_mem_take h1) l
 refine aj<|ab<|nR<|po QG λr s' y=>?_
 induction r using Except.casesOn with
 |ok f=>
  induction use using Option.casesOn with
  |none=>refine bC λG=>?_;obtain⟨m,N,y⟩:=y;exact G<|ab<|aj<|al<|wpAny_comp_letGo (cenv:={cenv with scope:=relabel scope env}) j _ s' m p N λH m' z b=>ag<|y H b
  |some u=>refine ao<|wpAny_rule<|ab<|aj<|ai (al y) (λz GL J=>?_) λz z H=>H;refine bC λG=>?_;obtain⟨m,N,J⟩:=J;exact G<|ao<|wpAny_comp_letGo (cenv:={cenv with scope:=relabel scope env}) j _ GL m Go N λH m' z b=>ag<|J H b
 |error x=>exact y.elim
end
section
variable{prog:Program}{w:World}{A:Around}{R:Result->Shared->Prop}{s:Shared}
def g0{elt target iter ifs rest scope pos it acc env}
 (y:codeN (model prog w) A (.compLoop (.ListComp elt (⟨target,iter,ifs,0⟩::rest) scope pos) 0 it acc env) R s)
 (h:wpAny (model prog w) A (pyIter it) (λQ s'=>codeN (model prog w) A (.compLoop (.ListComp elt (⟨target,iter,ifs,0⟩::rest) scope pos) 0 Q acc env) R s') (λz z=>False) s):
 codeN (model prog w) A (.compStart (.ListComp elt (⟨target,iter,ifs,0⟩::rest) scope pos) 0 it acc env) R s:=by
 refine be (c:=.compStart (.ListComp elt (⟨target,iter,ifs,0⟩::rest) scope pos) 0 it acc env) (λz z=>rfl) ?_;show aB _ _ ((compStart (.ListComp elt (⟨target,iter,ifs,0⟩::rest) scope pos) 0 it acc env).onRaise λx=>do noteFrame x env;standAt theWindowsPlace) _ _ s;refine bZ<|ai (E:=λz z=>False) ?_ (λz z h=>h) λz z h=>h.elim;unfold compStart;show aB _ _ (ask>>=_) _ _ s;refine ao<|wpAny_askSetting<|GN ?_;split
 .first
   |exact ab<|ag<|ag<|And.intro rfl y|exact ag<|And.intro rfl y
 .first
   |exact ao (wpAny_rule (ab (ak (ao (y1 h (λQ s' H=>ag<|And.intro rfl H) λz z x=>x)))))|(refine ao (wpAny_rule ?_);show aB _ _ (standAt iter.pos>>=_) _ _ s;exact ab (ak (ao (y1 h (λQ s' H=>ag<|And.intro rfl H) λz z x=>x))))
end
section
noncomputable def Bg(b:B):Value:=b.casesOn (.builtin "len") (.type "list") (λz=>.type "dict") (.type "bytes") (.type "bytearray") (.builtin "sum") (.builtin "all") (.builtin "min") (.builtin "max") (.type "tuple") (.type "int") (.builtin "ord")<|.builtin "chr"
noncomputable def rS:List (Str×Value):=[("range",.type "range"),("zip",.type "zip"),("enumerate",.type "enumerate"),("sorted",.builtin "sorted")]
noncomputable def gr(B:Shared):Sg:=⟨[],[],B,λz=>False,λz=>none⟩
inductive Kh(B:Shared)(a:Addr)(c:Code):Prop
 |of (o:Obj) (fd:FuncData) (body:List Stmt) (h:B.heap.get? a=some o) (hc:o.cls=.type "function") (hd:o.data=.func fd) (cr:B.heap.CodeRec fd.code fd.qualname) (hb:fd.body=.stmts body)
  (hg:fd.globals=mainGlobals) (V3:fd.builtins=builtinsNs) (tP:fd.closure=[]) (he:encC c fd.params body fd.scope=true)
  (df:(fd.defaults=.none/\c.jz=[])\/∃T od vs n,fd.defaults=.ref T/\B.heap.get? T=some od/\od.data=.seq vs n/\aN (gr B) c.jz vs.toList)
inductive Ds(B:Shared)(fA:Nat->Addr)(C:Addr)(c:Nat):Prop
 |of (nm q:Str) (N:Addr) (bs:List Value) (sn:List Str) (sub:List Value) (col:Option Bool) (dd:Option Addr) (k0 k1 k2 k3 k5:Option Value) (mN:Str->Option Value)
  (h:B.heap.get? C=some (excClassObj nm q C N bs [.type "object"] true sn sub false col dd k0 k1 k2 k3 k5 "object.__new__")) (hn:B.heap.Ns N mN)
  (ga:mN "__getattribute__"=none) (gt:mN "__getattr__"=none) (sa:mN "__setattr__"=none)
  (hi:∀f,P.init c=some f->mN "__init__"=some (.ref (fA f))) (hm:∀m f,P.aC c m=some f->mN (aU m)=some (.ref (fA f))) (ho:∀x,P.attr c x=true->mN (aU x)=none)
inductive QI(B:Shared)(cF fA:Nat->Addr):Prop
 |of (mg mb:Str->Option Value) (g:B.heap.Ns mainGlobals mg) (b:B.heap.Ns builtinsNs mb) (gl:∀g v,P.glob g=some v->∃val,mg (aU g)=some val/\RV (gr B) v val)
  (fn:∀f c,P.code f=some c->isFree f=true->mg (Mx f)=some (.ref (fA f))) (cl:∀c f,P.init c=some f->mg (Nw c)=some (.ref (cF c)))
  (bi:∀b,mg (My b)=none/\mb (My b)=some (Bg b)) (more:∀p∈rS,mg p.1=none/\mb p.1=some p.2)
structure Base(B:Shared)(cF fA:Nat->Addr):Prop where
 big:B.heap.get? sysModules≠none
 lim:B.heap.NoLimit
 ns:QI B cF fA
 fns:∀f c,P.code f=some c->Kh B (fA f) c
 cls:∀c f,P.init c=some f->Ds B fA (cF c) c
structure dX(s s':Shared):Prop where
 gens:s'.gens=s.gens
 os:s'.os=s.os
 drawn:s'.drawn=s.drawn
theorem dX.trans{a b c:Shared}(x:dX a b)(y:dX b c):dX a c:=⟨y.gens.trans x.gens,y.os.trans x.os,y.drawn.trans x.drawn⟩
structure SR(k:Cx)(σ:Sg):Prop where
 len:σ.g.length=σ.H.length
 obs:∀(i:Nat) (p:Addr×Addr) (o:Ob),σ.g[i]?=some p->σ.H[i]?=some o->RO k σ p o
 inj:∀(i j:Nat) (p q:Addr×Addr),σ.g[i]?=some p->σ.g[j]?=some q->(p.1=q.1\/p.1=q.2\/p.2=q.1\/p.2=q.2)->i=j
 fresh:∀b,ie σ b->k.B.heap.get? b=none
 eh:∀b,σ.X b->¬ie σ b/\σ.h b≠none/\k.B.heap.get? b=none
 old:∀b o,k.B.heap.get? b=some o->σ.h b=some o
 eq:dX k.B σ.s
 base:Base k.B k.cF k.fA
structure Mv(Ar:Addr->Prop)(σ σ':Sg):Prop where
 pre:σ.g<+:σ'.g
 keep:∀b o,σ.h b=some o->¬ie σ b->¬Ar b->σ'.h b=some o
 new:∀b,ie σ' b->ie σ b\/σ.h b=none\/Ar b
 live:∀b,¬Ar b->σ.h b≠none->σ'.h b≠none
 z:σ'.z=σ.z
def No:Addr->Prop:=λz=>False
structure Ex(σ σ':Sg):Prop where
 m:Mv No σ σ'
 X:σ'.X=σ.X
def aw{o:Option α}(h:o=some x):o≠none:=λe=>nomatch h.symm.trans e
def cC{o:Option α}(h:o≠none):∃x,o=some x:=match o,h with|none,h=>absurd rfl h|some x,_=>⟨x,rfl⟩
def gv{σ:Sg}{i:Nat}{p:Addr×Addr}(h:σ.g[i]?=some p):ie σ p.1/\ie σ p.2:=⟨⟨p,nf h,.inl rfl⟩,⟨p,nf h,.inr rfl⟩⟩
section
variable{Ar:Addr->Prop}{σ σ' lG:Sg}{k:Cx}{p:Addr×Addr}
def Mv.refl:Mv Ar σ σ:=⟨sA _,λz z e z z=>e,λz h=>.inl h,λz z h=>h,rfl⟩
theorem Mv.trans(x:Mv Ar σ σ')(y:Mv Ar σ' lG):Mv Ar σ lG where
 pre:=x.pre.trans y.pre
 keep b o e hm ha:=y.keep b o (x.keep b o e hm ha) (λh=>(x.new b h).elim hm λh=>h.elim (aw e) ha) ha
 new b h:=(y.new b h).elim (x.new b) λh=>(Classical.em<|Ar b).elim (λa=>.inr<|.inr a) λa=>.inr (.inl<|vN λq=>h.elim (x.live b a q) a)
 live b a h:=y.live b a (x.live b a h)
 z:=y.z.trans x.z
def Mv.wk(x:Mv Ar σ σ')(h:∀b,Ar b->σ.h b≠none->Ar' b):Mv Ar' σ σ' where
 pre:=x.pre
 keep b o e hm ha:=x.keep b o e hm λq=>ha (h b q<|aw e)
 new b q:=(x.new b q).imp_right λq=>(Classical.em<|σ.h b=none).elim .inl λn=>q.imp_right λq=>h b q n
 live b ha n:=x.live b (λq=>ha<|h b q n) n
 z:=x.z
theorem Ex.refl:Ex σ σ:=⟨.refl,rfl⟩
theorem Ex.trans(x:Ex σ σ')(y:Ex σ' lG):Ex σ lG:=⟨x.m.trans y.m,y.X.trans x.X⟩
def Mv.up(x:Mv Ar σ σ')(H:∀b,Ar b->σ.X b\/∀o,σ.h b=some o->∀vs n,o.data≠ .seq vs n)(hX:∀b,σ'.X b->σ.X b\/σ.h b=none):Up σ σ' where
 pre:=x.pre
 keep a o vs n e d hn:=
  have N:¬Ar a:=λh=>(H a h).elim (λh=>hn<|.inr h) λh=>h o e vs n d
  ⟨λh=>h.elim (λh=>(x.new a h).elim (λh=>hn<|.inl h) λh=>h.elim (aw e) N) λh=>(hX a h).elim (λh=>hn<|.inr h)<|aw e,x.keep a o e (λh=>hn<|.inl h) N⟩
theorem Ex.up(x:Ex σ σ'):Up σ σ':=x.m.up (λz h=>h.elim) λb h=>.inl<|x.X▸h
theorem RO.live:∀{o:Ob},RO k σ p o->σ.h p.1≠none/\σ.h p.2≠none
 |.list _,r=>J2.casesOn r λz z z e h z=>⟨aw h,e▸aw h⟩|.dict _ _,r=>oj.casesOn r λz z z e z z h z=>⟨aw h,e▸aw h⟩|.inst _ _,r=>Mu.casesOn r λz z z z z h z z z H z=>⟨aw h,by obtain⟨_,_,_,e,_⟩:=H;exact aw e⟩
 |.iy _,r=>⟨aw r.2.2,r.2.1▸aw r.2.2⟩|.ro o,r=>RO.live (o:=o) r.1
theorem RO.base:∀{o:Ob},RO k σ p o->RO k σ p o.base
 |.list _,r=>r|.dict _ _,r=>r|.inst _ _,r=>r|.iy _,r=>r|.ro o,r=>RO.base (o:=o) r.1
theorem IX.on{f:List (Nat×V)}{m:Str->Option Value}(u:Up σ σ')(r:IX σ f m):IX σ' f m:=⟨λx v e=>let⟨val,a,b⟩:=r.get x v e;⟨val,a,b.on u⟩,r.only⟩
theorem RO.on(u:Up σ σ')(H:∀b,b=p.1\/b=p.2->∀o,σ.h b=some o->σ'.h b=some o)(hz:∀b,b=p.1\/b=p.2->σ'.z b=σ.z b):∀{o:Ob},RO k σ p o->RO k σ' p o
 |.list _,r=>J2.casesOn r λn vs L e h r=>J2.of n vs L e (H _ (.inl rfl) _ h) (r.on u)|.dict _ _,r=>oj.casesOn r λes ep L e y N h r=>oj.of es ep L e y N (H _ (.inl rfl) _ h) (r.on u)|.inst _ _,r=>Mu.casesOn r λo m L a ne h c D Q z r=>Mu.of o m L a ne (H _ (.inl rfl) _ h) c D Q (z.at λo e=>H _ (.inr rfl) o e) (r.on u)|.iy _,r=>⟨r.1,r.2.1,H _ (.inl rfl) _ r.2.2⟩|.ro o,r=>
  have l:=RO.live (o:=o) r.1
  have f:∀b,b=p.1\/b=p.2->σ.h b≠none->σ.h b=σ.z b->σ'.h b=σ'.z b:=λb m n e=>(cC n).elim λo q=>(H b m o q).trans (q.symm.trans<|e.trans (hz b m).symm)
  ⟨RO.on u H hz r.1,f _ (.inl rfl) l.1 r.2.1,f _ (.inr rfl) l.2 r.2.2⟩
def SR.bound(r:SR k σ)(b:Addr)(h:ie σ b):σ.h b≠none:=
 let⟨p,hp,e⟩:=h
 let⟨i,hi,e2⟩:=List.getElem_of_mem hp
 have l:=(r.obs i p _ ((h8 hi).trans<|cg some e2)<|h8<|r.len▸hi).live
 e.elim (λe=>e▸l.1) λe=>e▸l.2
theorem SR.rd(r:SR k σ){i:Nat}{o:Ob}(H:σ.g[i]?=some p) (h:Mine.rd σ.H i=some o):RO k σ p o:=
 let⟨o',h1,e⟩:=y2.mp h
 e▸(r.obs i p o' H h1).base
def cT{s s':Shared}(y:∀b o,s.heap.get? b=some o->s'.heap.get? b=some o)(b:Addr)(h:s.heap.get? b≠none):s'.heap.get? b≠none:=let⟨o,e⟩:=cC h;aw (y b o e)
def SR.g3(r:SR k σ)(h:σ.h b=none):k.B.heap.get? b=none:=vN λq=>let⟨o,e⟩:=cC q;aw (r.old b o e) h
def SR.step{W:Addr->Prop}{s':Shared}(r:SR k σ)(y:∀b o,¬W b->σ.h b=some o->s'.heap.get? b=some o)(e:dX σ.s s')
 (l:H'.length=σ.H.length) (hX:∀b,X' b->¬ie σ b/\s'.heap.get? b≠none/\k.B.heap.get? b=none) (U:∀b,X' b->σ.X b\/σ.h b=none)
 (z:∀b,W b->k.B.heap.get? b=none/\(NI σ b\/∀o,σ.h b=some o->∀vs n,o.data≠ .seq vs n))
 (J:Up σ ⟨σ.g,H',s',X',σ.z⟩->∀(i:Nat) (p:Addr×Addr) (o:Ob),σ.g[i]?=some p->H'[i]?=some o->RO k ⟨σ.g,H',s',X',σ.z⟩ p o\/(σ.H[i]?=some o/\¬W p.1/\¬W p.2)):SR k ⟨σ.g,H',s',X',σ.z⟩/\Up σ ⟨σ.g,H',s',X',σ.z⟩:=
 have u:Up σ ⟨σ.g,H',s',X',σ.z⟩:=⟨sA _,λa o vs n q d H=>⟨λh=>h.elim (λh=>H<|.inl h) λh=>(U a h).elim (λh=>H<|.inr h)<|aw q,
  y a o (λh=>(z a h).2.elim H λf=>f o q vs n d) q⟩⟩
 ⟨{len:=r.len.trans l.symm
   obs:=λi p o x s=>(J u i p o x s).elim id λT=>have j:=T.1;have N:=T.2.1;have c:=T.2.2;RO.on u (λb m o q=>y b o (m.elim (λm=>m▸N) λm=>m▸c) q) (λY Y=>rfl) (r.obs i p o x j)
   inj:=r.inj
   fresh:=r.fresh
   eh:=hX
   old:=λb o q=>y b o (λh=>aw q (z b h).1) (r.old b o q)
   eq:=r.eq.trans e
   base:=r.base},u⟩
end
structure Af(k:Cx)(σ σ':Sg):Prop where
 ex:Ex σ σ'
 sr:SR k σ'
noncomputable def Sg.w(σ:Sg)(s':Shared):Sg:=⟨σ.g,σ.H,s',σ.X,σ.z⟩
noncomputable def Sg.t(σ:Sg)(i:Nat)(o:Ob)(s':Shared):Sg:=⟨σ.g,σ.H.set i o,s',σ.X,σ.z⟩
noncomputable def Sg.n(σ:Sg)(p:Addr×Addr)(o:Ob)(s':Shared):Sg:=⟨σ.g++[p],σ.H++[o],s',σ.X,σ.z⟩
def dX.tQ:dX s s:=⟨rfl,rfl,rfl⟩
section
variable{Ar:Addr->Prop}{σ σ' lG:Sg}{k:Cx}{p:Addr×Addr}{s':Shared}{i:Nat}{o:Ob}
theorem Af.trans(x:Af k σ σ')(y:Af k σ' lG):Af k σ lG:=⟨x.ex.trans y.ex,y.sr⟩
theorem Af.up(x:Af k σ σ'):Up σ σ':=x.ex.up
def SR.here(r:SR k σ):Af k σ σ:=⟨.refl,r⟩
def SR.own{W:Addr->Prop}(r:SR k σ)(y:∀b o,¬W b->σ.h b=some o->s'.heap.get? b=some o)(s:∀b,σ.X b->s'.heap.get? b≠none)
 (z:∀b,W b->¬ie σ b/\k.B.heap.get? b=none/\(σ.X b\/∀o,σ.h b=some o->∀vs n,o.data≠ .seq vs n)) (e:dX σ.s s'):SR k (σ.w s')/\Mv W σ (σ.w s')/\Up σ (σ.w s'):=
 have q:=r.step (W:=W) (H':=σ.H) (X':=σ.X) y e rfl (λb h=>⟨(r.eh b h).1,s b h,(r.eh b h).2.2⟩) (λx h=>.inl h) (λb h=>⟨(z b h).2.1,(z b h).2.2.imp_left .inr⟩)
  λx i p o u m=>.inr ⟨m,λh=>(z _ h).1 (gv u).1,λh=>(z _ h).1 (gv u).2⟩
 ⟨q.1,⟨sA _,λb o e x H=>y b o H e,λb h=>.inl h,λb H h=>let⟨o,e⟩:=cC h;aw (y b o H e),rfl⟩,q.2⟩
def SR.keep(r:SR k σ)(y:∀b o,σ.h b=some o->s'.heap.get? b=some o)(e:dX σ.s s'):Af k σ (σ.w s'):=
 have q:=r.own (W:=No) (λb o z=>y b o) (λb h=>cT y b (r.eh b h).2.1) (λz h=>h.elim) e
 ⟨⟨q.2.1,rfl⟩,q.1⟩
def SR.tok(r:SR k σ)(t:Nat):Af k σ (σ.w {σ.s with toks:=t}):=r.keep (s':={σ.s with toks:=t}) (λz z e=>e) ⟨rfl,rfl,rfl⟩
theorem SR.push(r:SR k σ)(o:Obj)(t:Nat):Af k σ (σ.w {σ.s with heap:=σ.s.heap.push o,toks:=t}):=r.keep (s':={σ.s with heap:=σ.s.heap.push o,toks:=t}) (λz z e=>fz _ e) ⟨rfl,rfl,rfl⟩
theorem SR.set(r:SR k σ)(H:σ.g[i]?=some p) (s:∀b o,b≠p.1->b≠p.2->σ.h b=some o->s'.heap.get? b=some o) (e:dX σ.s s') (O:Up σ (σ.t i o s')->RO k (σ.t i o s') p o):Af k σ (σ.t i o s'):=by
 have m:=gv H;have N:∀b,¬ie σ b->¬(b=p.1\/b=p.2):=λb h q=>q.elim (λq=>h<|q▸m.1) λq=>h<|q▸m.2;have z:∀b o,¬(b=p.1\/b=p.2)->σ.h b=some o->s'.heap.get? b=some o:=λb o h=>s b o (λq=>h<|.inl q) λq=>h<|.inr q;have q:=r.step (W:=λb=>b=p.1\/b=p.2) (H':=σ.H.set i o) (X':=σ.X) z e List.length_set (λb h=>have x:=r.eh b h;⟨x.1,let⟨_,e⟩:=cC x.2.1;aw (z b _ (N b x.1) e),x.2.2⟩) (λy h=>.inl h)
  (λb h=>have M:ie σ b:=h.elim (·▸m.1) (·▸m.2);⟨r.fresh b M,.inl<|.inl M⟩) λu j q ob Q U=>by
    by_cases J:i=j
    .subst J;obtain rfl:=dR<|H.symm.trans Q;rw[List.getElem?_set_self<|r.len▸(f5.mp H).1]at U;exact .inl<|dR U▸O u
    .rw[List.getElem?_set_ne J]at U;exact .inr ⟨U,λh=>J<|r.inj i j p q H Q<|h.elim (λh=>.inl h.symm) λh=>.inr<|.inr<|.inl h.symm,λh=>J<|r.inj i j p q H Q<|h.elim (λh=>.inr<|.inl h.symm) λh=>.inr<|.inr<|.inr h.symm⟩
 have l:=(O q.2).live;exact⟨⟨⟨sA _,λb o e f y=>z b o (N b f) e,λb h=>.inl h,λb y h=>(Classical.em<|b=p.1\/b=p.2).elim (λq=>q.elim (·▸l.1) (·▸l.2)) λq=>let⟨_,e⟩:=cC h;aw (z b _ q e),rfl⟩,rfl⟩,q.1⟩
def SR.at(r:SR k σ)(H:σ.H[i]?=some o):∃p,σ.g[i]?=some p/\RO k σ p o:=
 have h:i<σ.g.length:=r.len▸(f5.mp H).1
 ⟨σ.g[i],h8 h,r.obs i _ o (h8 h) H⟩
def SR.en(r:SR k σ)(H:σ.g[i]?=some p):(p.1==sysModules)=false:=BB.2 λe=>r.base.big<|e▸r.fresh _ (gv H).1
def Sg.rW(r:SR k σ):(σ.n p o s').g[σ.H.length]?=some p:=r.len▸List.getElem?_concat_length
def bN(h:(l++[a])[j]?=some b):l[j]?=some b\/(j=l.length/\b=a):=by
 rw[List.getElem?_append]at h;split at h;.exact .inl h
 .rename_i q;have e:=List.getElem?_singleton (a:=a) (i:=j-l.length)▸h;split at e;.rename_i z;exact .inr ⟨i3 (Nat.le_of_sub_eq_zero z)<|pg q,(dR e).symm⟩
  .exact nomatch e
def SR.alloc(r:SR k σ)(y:∀b o,σ.h b=some o->s'.heap.get? b=some o)(e:dX σ.s s')(z:σ.h p.1=none)(u:σ.h p.2=none)(O:Up σ (σ.n p o s')->RO k (σ.n p o s') p o):Af k σ (σ.n p o s'):=by
 have new:∀b,ie (σ.n p o s') b->ie σ b\/σ.h b=none:=λb T=>by obtain⟨q,H,e⟩:=T;exact(eu.mp H).elim (λh=>.inl ⟨q,h,e⟩) λh=>.inr<|by obtain rfl:=dt.1 h;exact e.elim (·▸z) (·▸u)
 have f:Ex σ (σ.n p o s'):=⟨⟨List.prefix_append _ _,λb o e s s=>y b o e,λb h=>(new b h).imp_right .inl,λb s=>cT y b,rfl⟩,rfl⟩;have nn:∀{b b':Addr},ie σ b->σ.h b'=none->b≠b':=λm n e=>r.bound _ m<|e▸n
 have lt:∀{j:Nat} {q:Addr×Addr},σ.g[j]?=some q->j≠σ.g.length:=λh=>q0 (f5.mp h).1
 refine⟨f,⟨by show(σ.g++[p]).length=(σ.H++[o]).length;rw[b9,b9,r.len];rfl,λj q ob H U=>?_,λj l q Q H J e=>?_,λb h=>(new b h).elim (r.fresh b) r.g3,
  λb h=>have x:=r.eh b h;⟨λm=>(new b m).elim x.1 x.2.1,cT y b x.2.1,x.2.2⟩,λb o e=>y b o<|r.old b o e,r.eq.trans e,r.base⟩⟩
 .rcases bN H with H|⟨e1,rfl⟩
  .rcases bN U with U|⟨e2,_⟩;.exact RO.on f.up (λb s o e=>y b o e) (λs s=>rfl)<|r.obs j q ob H U
   .exact absurd (e2.trans r.len.symm)<|lt H
  .rcases bN U with U|⟨_,rfl⟩;.exact absurd (e1.trans r.len)<|q0 (f5.mp U).1
   .exact O f.up
 .rcases bN H with a|⟨e1,rfl⟩<;>rcases bN J with a'|⟨e2,rfl⟩;.exact r.inj j l q Q a a' e
  .have m:=gv a;exact(e.elim (nn m.1 z) λe=>e.elim (nn m.1 u) λe=>e.elim (nn m.2 z)<|nn m.2 u).elim
  .have m:=gv a';exact(e.elim (λe=>nn m.1 z e.symm) λe=>e.elim (λe=>nn m.2 z e.symm) λe=>e.elim (λe=>nn m.1 u e.symm) λe=>nn m.2 u e.symm).elim
  .exact e1.trans e2.symm
end
def Bound(env:Env)(h:Heap)(n:Str)(a:Value):Prop:=
 (env.kindOf n=some .local/\∃m,h.Ns env.locals m/\m n=some a)\/(env.kindOf n=some .cell/\∃c,env.cells.lookup n=some c/\h.IsCell c (some a))
def FA(env:Env)(b:Addr):Prop:=b=env.locals\/∃n,env.cells.lookup n=some b
def QK(env:Env)(x:Nat):Prop:=env.kindOf (aU x)=some .local\/env.kindOf (aU x)=some .cell
structure Fr where
 A:Around
 ac:Option Nat
 env:Env
 X0:Addr->Prop
inductive Acc(F:Fr)(σ:Sg)(v:V)(val:Value):Prop
 |of (l:List V) (a:Addr) (n:Nat) (vs:Array Value) (e:v=.lst l) (e':val=.ref a) (hl:l.length<=cn) (hX:σ.X a) (h0:¬F.X0 a) (h:IsL σ.s.heap a vs n) (r:aN σ l vs.toList)
structure FR(k:Cx)(F:Fr)(L:Loc)(σ:Sg):Prop where
 kind:F.env.scope.kind=.function
 glob:F.env.globals=mainGlobals
 blt:F.env.builtins=builtinsNs
 loc:∃m,σ.s.heap.Ns F.env.locals m
 cells:∀n c,F.env.cells.lookup n=some c->c≠F.env.locals/\∃v,σ.s.heap.IsCell c v
 bK:∀n,F.env.kindOf n=some .cell->∃c,F.env.cells.lookup n=some c
 cE:∀n n' c,F.env.cells.lookup n=some c->F.env.cells.lookup n'=some c->n=n'
 vars:∀x v,L x=some v->QK F.env x->∃val,Bound F.env σ.s.heap (aU x) val/\(F.ac≠some x->RV σ v val)/\(F.ac=some x->Acc F σ v val)
 apart:∀b,FA F.env b->¬ie σ b/\¬σ.X b/\k.B.heap.get? b=none/\σ.h b≠none
 out:∀b,F.X0 b->σ.X b
def vF{h H:Heap}(N:h.Ns a m)(k:∀o,h.get? a=some o->H.get? a=some o):H.Ns a m:=Heap.Ns.at' N k
def cellAt{h H:Heap}(N:h.IsCell a m)(k:∀o,h.get? a=some o->H.get? a=some o):H.IsCell a m:=let⟨o,e,d⟩:=N;⟨o,k o e,d⟩
def Bound.keep{env:Env}{h H:Heap}{n:Str}{val:Value}(b:Bound env h n val)(k:∀b o,FA env b->h.get? b=some o->H.get? b=some o):Bound env H n val:=
 b.imp (λT=>by obtain⟨a,m,N,M⟩:=T;exact⟨a,m,vF N λo e=>k _ o (.inl rfl) e,M⟩) λT=>by obtain⟨a,c,y,p⟩:=T;exact⟨a,c,y,cellAt p λo e=>k _ o (.inr ⟨n,y⟩) e⟩
section
variable{Ar:Addr->Prop}{σ σ' lG:Sg}{k:Cx}{F:Fr}{L:Loc}{d:Nat}
theorem Acc.on{v:V}{val:Value}(u:Up σ σ')(h:∀b o,σ.X b->¬F.X0 b->σ.h b=some o->σ'.h b=some o)(x:∀b,σ.X b->¬F.X0 b->σ'.X b)(r:Acc F σ v val):Acc F σ' v val:=by obtain⟨l,a,n,s,e,y,H,z,T,p,m⟩:=r;exact .of l a n s e y H (x a z T) T (h a _ z T p)<|m.on u
def GP(d:Nat)(A:Around):Prop:=A.depth+3*d<recursionLimit/\A.units+40*d+80<cLine/\A.handled=none
def pC(d:Nat)(A:Around):Prop:=A.depth+3*d+2<recursionLimit/\A.units+40*d+100<cLine/\A.handled=none
theorem pC.units{d:Nat}(h:pC d A):A.units+100<cLine:=dS (He (ql _ _) _) h.2.1
def pC.room{d:Nat}(h:pC d A):GP d A:=⟨dS (ql _ 2) h.1,dS (ih (by decide:80<=100) _) h.2.1,h.2.2⟩
structure Ok(k:Cx)(d:Nat)(F:Fr)(L:Loc)(σ:Sg):Prop where
 rm:pC d F.A
 sr:SR k σ
 fr:FR k F L σ
theorem Ok.on(o:Ok k d F L σ)(a:Af k σ σ'):Ok k d F L σ':=
 have f:=o.fr
 have x:=a.ex
 have keep:∀b o,FA F.env b->σ.h b=some o->σ'.h b=some o:=λb o H O=>x.m.keep b o O (f.apart b H).1 id
 ⟨o.rm,a.sr,{kind:=f.kind,glob:=f.glob,blt:=f.blt,bK:=f.bK,cE:=f.cE
             loc:=let⟨m,hm⟩:=f.loc;⟨m,vF hm λo O=>keep _ o (.inl rfl) O⟩
             cells:=λn c z=>⟨(f.cells n c z).1,(f.cells n c z).2.imp λv h=>cellAt h λo O=>keep _ o (.inr ⟨n,z⟩) O⟩
             vars:=λy v Y i=>(f.vars y v Y i).imp λA T=>have s:=T.1;have p:=T.2.1;have l:=T.2.2;⟨s.keep keep,λh=>(p h).on x.up,λh=>(l h).on x.up (λb o H U e=>x.m.keep b o e (o_x b H) id) λb H U=>x.X▸H⟩
             apart:=λb H=>have u:=f.apart b H;have s:=u.1;have p:=u.2.1;have l:=u.2.2.1;have j:=u.2.2.2;⟨λh=>(x.m.new b h).elim s λh=>h.elim j id,x.X▸p,l,x.m.live b id j⟩
             out:=λb h=>x.X▸f.out b h}⟩
where o_x:=λb hb=>(o.sr.eh b hb).1
end
end
def WN(k:Cx)(A:Around){α:Type}(t:Sem α)(K:α->Shared->Prop)(s:Shared):Prop:=aB (model k.prog k.w) A t K (λz z=>False) s
def KV(k:Cx)(σ:Sg)(Q:VP)(K:Value->Shared->Prop):Prop:=∀v z x,Af k σ z->RV z v x->Q v z.H->K x z.s
def Un(k:Cx)(σ:Sg)(n:Nat)(Q:List V->Hp->Prop)(K:List Value->Shared->Prop):Prop:=∀v z x,v.length=n->Af k σ z->aN z v x->Q v z.H->K x z.s
def KB(k:Cx)(σ:Sg)(Q:Bool->Hp->Prop)(K:Bool->Shared->Prop):Prop:=∀b z,Af k σ z->Q b z.H->K b z.s
def KP(k:Cx)(σ:Sg)(Q:V->Prop)(K:Value->Shared->Prop):Prop:=∀v y x,Af k σ (σ.w y)->RV (σ.w y) v x->Q v->K x y
section
variable(k:Cx)(d:Nat)
def aG(e:E):Prop:=∀F L z x Q K,aV F.env.scope.names F.ac e x=true->Ok k d F L z->wE (wC d) e L z.H Q->KV k z Q K->WN k F.A (eval x F.env) K z.s
def nS(e:E):Prop:=∀F L z x Q K,I4 e x=true->aV F.env.scope.names F.ac e x=true->Ok k d F L z->wT (wC d) e L z.H Q->KB k z Q K->WN k F.A (isTrue x F.env<|eval x F.env) K z.s
def iR(l:Es):Prop:=∀F L σ x (pos:Pos) Q K,cB F.env.scope.names F.ac l x=true->Ok k d F L σ->wEs (wC d) l L σ.H Q->Un k σ x.length Q K->WN k F.A (spliced<|backTo pos<|starEach x F.env) K σ.s
end
section
variable{k:Cx}{d:Nat}{σ:Sg}{x y v:V}{vx vy:Value}{C:Value->Prop}{D:Value->Value->Prop}
def rt{Q:α->Prop}{C:Prop}(h:wM o Q)(k:∀a,o=some a->Q a->C):C:=by
 induction o using Option.casesOn with|none=>exact False.elim h|some a=>exact k a rfl h
def vG{A C:Prop}(h:wB b A)(k:b=true->A->C):C:=by
 induction b using Bool.casesOn with|false=>exact False.elim h|true=>exact k rfl h
@[elab_as_elim] theorem RV.bx {Q:Int->Prop} (r:RV σ x vx) (h:wM (bx x) Q) (k:∀a t,Q a->C (.int a t)):C vx:=by cases x with|int a=>exact r.ls λt=>k a t h|_=>exact False.elim h
@[elab_as_elim] theorem RV.cz {Q:Bool->Prop} (r:RV σ x vx) (h:wM (Mine.cz x) Q) (k:∀a,Q a->C (.bool a)):C vx:=by cases x with|bool a=>exact r.mJ<|k a h|_=>exact False.elim h
@[elab_as_elim] theorem RV.gH {Q:List Nat->Prop} (r:RV σ x vx) (h:wM (Mine.gH x) Q) (k:∀a t,a.length<=sizeLine->Q a->C (.str ⟨a.toArray⟩ t)):C vx:=by cases x with|str a=>exact r.gA λt l=>k a t l h|_=>exact False.elim h
@[elab_as_elim] theorem RV.iP {Q:List UInt8->Prop} (r:RV σ x vx) (h:wM (Mine.iP x) Q) (k:∀a t,a.length<=sizeLine->Q a->C (.bytes a.toArray t)):C vx:=by cases x with|bytes a=>exact r.A8 λt l=>k a t l h|_=>exact False.elim h
@[elab_as_elim] theorem RV.bP {Q:List V->Prop} (r:RV σ x vx) (h:wM (Mine.bP x) Q) (k:∀l a n vs,l.length<=sizeLine->¬NI σ a->IsL σ.s.heap a vs n->aN σ l vs.toList->Q l->C (.ref a)):C vx:=by cases x with|lst l=>exact r.jQ λa n vs H z T u=>k l a n vs H z T u h|_=>exact False.elim h
@[elab_as_elim] theorem RV.d7 {Q:List V->Prop} (r:RV σ x vx) (h:wM (Mine.d7 x) Q) (k:∀l a n vs,l.length<=sizeLine->¬NI σ a->IsT σ.s.heap a vs n->aN σ l vs.toList->Q l->C (.ref a)):C vx:=by cases x with|tup l=>exact r.f0 λa n vs H z T u=>k l a n vs H z T u h|_=>exact False.elim h
@[elab_as_elim] theorem RV.rK {Q:Nat->Prop} (r:RV σ x vx) (h:wM (Mine.rK x) Q) (k:∀i p,σ.g[i]?=some p->Q i->C (.ref p.1)):C vx:=by cases x with|ref i=>exact r.rf λp e=>k i p e h|_=>exact False.elim h
def g4(h:o=some a):wM o (·=a):=by rw[h];exact rfl
@[elab_as_elim] theorem yF {Q:Int->Int->Prop} (z:RV σ x vx) (Y:RV σ y vy) (h:Gn x y Q) (k:∀a b t u,Q a b->D (.int a t) (.int b u)):D vx vy:=
  z.bx h λa t h=>Y.bx h λb u h=>k a b t u h
@[elab_as_elim] theorem Ki {f:Int->Int->Option Int} (z:RV σ x vx) (Y:RV σ y vy) (h:ints2 x y f=some v) (k:∀a b t u c,f a b=some c->v=.int c->D (.int a t) (.int b u)):D vx vy:=by refine zL h λa H h=>?_;refine zL h λb s h=>?_;refine Gm h λc T h=>?_;exact z.bx (g4 H) λp t e=>Y.bx (g4 s) λp u m=>k _ _ t u c (e▸m▸T) h.symm
def jh(h:fW c i=some j):c=true/\j=i:=by cases c with|true=>exact⟨rfl,(dR h).symm⟩|false=>injection h
def SR.fN(r:SR k σ)(H:σ.h a=none):¬NI σ a:=λh=>h.elim (λh=>r.bound a h H) λh=>(r.eh a h).2.1 H
def bj(h:Heap):h.get? h.objs.size=none:=Ep<|i1 _
def SR.GQ(r:SR k σ)(h:aN σ l vs.toList)(H:l.length<=sizeLine)(t:Nat)(e:s'={σ.s with heap:=σ.s.heap.push {cls:=.type "tuple",data:=.seq vs},toks:=t}):
 Af k σ (σ.w s')/\RV (σ.w s') (.tup l) (.ref σ.s.heap.objs.size):=by
 subst e;have a:=r.push {cls:=.type "tuple",data:=.seq vs} t;exact⟨a,.tt (n:=0) (vs:=vs) H (λh=>r.fN (bj _) h) (hW _ rfl)<|h.on a.up⟩
def SR.GR(r:SR k σ)(h:aN σ l vs.toList)(H:l.length<=sizeLine)(t:Nat)(e:s'={σ.s with heap:=σ.s.heap.push {cls:=.type "list",data:=.seq vs},toks:=t}):
 Af k σ (σ.w s')/\RV (σ.w s') (.lst l) (.ref σ.s.heap.objs.size):=by
 subst e;have a:=r.push {cls:=.type "list",data:=.seq vs} t;exact⟨a,.ll (n:=0) (vs:=vs) H (λh=>r.fN (bj _) h) (hW _ rfl)<|h.on a.up⟩
def aN.GS{l l':List V}{vs O:Array Value}(h:aN σ l vs.toList)(H:aN σ l' O.toList):aN σ (l++l') (vs++O).toList:=Array.toList_append (xs:=vs) (ys:=O)▸h.app H
end
def pD(h:small i=true):i.natAbs<2^64:=dk h
def yG(h:small i=true):Builtin.Int.intBits i<=64:=by
 unfold Builtin.Int.intBits;split;.decide
 .rename_i H;exact(Nat.log2_lt λe=>H<|by simpa using e).mpr<|pD h
def GT(h:0<=a):Builtin.bitAnd a 255=a.fmod 256:=by obtain⟨n,rfl⟩:=Int.eq_ofNat_of_zero_le h;rw[bitAnd_pp h<|by decide,show(255:Int).toNat=2^8-1 from rfl,Nat.and_two_pow_sub_one_eq_mod,Int.fmod_eq_emod_of_nonneg _<|by decide];rfl
def pE{b:Int}(h:decide (0<=b/\b<=64)=true):0<=b/\b<=1000000:=Ug h λh=>⟨h.1,I8 h.2<|by decide⟩
section
variable{k:Cx}{σ:Sg}{x y v:V}{vx vy:Value}{A:Around}{E:Value->Shared->Prop}{K:Value->Shared->Prop}{Q:V->Prop}
def GU(h:AY a b f=some v):a.length+b.length<=sizeLine/\v=f (a++b):=by
 unfold AY at h;split at h;.rename_i q;exact⟨q,(dR h).symm⟩
 .exact nomatch h
def vH{l:List V}{vs:Array Value}(h:aN σ l vs.toList)(e:vs.isEmpty=true):l=[]:=List.eq_nil_of_length_eq_zero<|h.size.symm.trans<|Array.isEmpty_iff_size_eq_zero.1 e
def Bh(h:GE x y=some v)(q:Q v)(r:SR k σ)(s:RV σ x vx)(Y:RV σ y vy)(kp:KP k σ Q K):wpAny (model k.prog k.w) A (binaryOp .Add vx vy) K E σ.s:=by
 induction x using V.casesOn with
 |int a=>obtain⟨b,H,rfl⟩:=y2.1 h;exact s.ls λt=>Y.bx (g4 H) λz u e=>e▸add_int (kp _ _ _ (r.tok _) .ii q)
 |str a=>obtain⟨b,H,h⟩:=Option.bind_eq_some_iff.1 h;obtain⟨hz,rfl⟩:=GU h;refine s.gA λt z=>Y.gH (g4 H) λz u z e=>e▸add_str (λT tk=>?_) hz;have e:Str.append ⟨a.toArray⟩ ⟨b.toArray⟩=⟨(a++b).toArray⟩:=cg Str.mk<|List.append_toArray a b;have c:=kp _ _ (.str ⟨(a++b).toArray⟩ T) (r.tok tk) (.ss<|b9▸hz) q;rw[<-e]at c;exact c
 |bytes a=>
  obtain⟨b,H,h⟩:=Option.bind_eq_some_iff.1 h;obtain⟨hz,rfl⟩:=GU h
  exact s.A8 λt z=>Y.iP (g4 H) λz u z e=>e▸KBy.add_bytes (by rw[<-xf];exact hz) λT tk=>
   (List.append_toArray a b).symm▸kp _ _ _ (r.tok _) (.yy<|b9▸hz) q
 |lst a=>refine zL h λb H h=>?_;obtain⟨hz,rfl⟩:=GU h;refine s.jQ λj n m z z ht p=>Y.bP (g4 H) λz i N O z z J G e=>?_;clear h s;subst e;have c:=r.GR (p.GS G) (b9▸hz) σ.s.toks rfl;exact P.add_list ht J (kp _ _ _ c.1 c.2 q)<|by rw[p.size,G.size];exact hz
 |tup a=>
  refine zL h λb H h=>?_;obtain⟨hz,rfl⟩:=GU h;refine s.f0 λj n m L M ht p=>Y.d7 (g4 H) λz i N O I U J G e=>?_;clear h s;subst e;by_cases l:m.isEmpty=true
  .clear h Y hz H;obtain rfl:=vH p l;exact concat_meets ⟨_,ht,rfl⟩ ⟨_,J,rfl⟩ noFill_tuple_add seq_tuple_add F.slot_tuple_add F.entry_tuple_add (F.args_tuple_add_2 _ _) (AutoSeq1.tuple___add___tuple_tuple_0 j m n i O N l) ⟨ht,J,kp _ σ.s _ r.here (.tt I U J G) q⟩
  .by_cases f:O.isEmpty=true
   .clear h Y I U hz H;obtain rfl:=vH G f;rw[hE]at q;exact concat_meets ⟨_,ht,rfl⟩ ⟨_,J,rfl⟩ noFill_tuple_add seq_tuple_add F.slot_tuple_add F.entry_tuple_add (F.args_tuple_add_2 _ _) (AutoSeq1.tuple___add___tuple_tuple_1 j m n i O N l f) ⟨ht,J,kp _ σ.s _ r.here (.tt L M ht p) q⟩
   .have c:=r.GQ (p.GS G) (b9▸hz) σ.s.toks rfl;exact P.add_tuple ht J l f (kp _ _ _ c.1 c.2 q)<|by rw[p.size,G.size];exact hz
 |_=>injection h
end
section
open AutoSeq1 (wpAny_loadPart')
section
variable{k:Cx}{σ:Sg}{x y v:V}{vx vy:Value}{A:Around}{E:Value->Shared->Prop}{K:Value->Shared->Prop}{Q:V->Prop}
def Bj(w:M6 op x y Q)(r:SR k σ)(l:RV σ x vx)(Y:RV σ y vy)(kp:KP k σ Q K):wpAny (model k.prog k.w) A (binaryOp (Nx op) vx vy) K E σ.s:=by
 have tk:∀{i:Int} {s:Tok} {t:Nat},Q (.int i)->K (.int i s) {σ.s with toks:=t}:=λq=>kp _ _ _ (r.tok _) .ii q
 have g:∀{f:Int->Int->Option Int} {o:Operator},wO (ints2 x y f) Q->(∀a b c t u,f a b=some c->Q (.int c)->wpAny (model k.prog k.w) A (binaryOp o (.int a t)<|.int b u) K E σ.s)->wpAny (model k.prog k.w) A (binaryOp o vx vy) K E σ.s:=λw f=>by obtain⟨h,q⟩:=w;exact Ki l Y h λa b t u c e j=>f a b c t u e<|j▸q
 induction op using Ms.casesOn with
 |add=>cases x with
  |int a=>exact l.ls λt=>Y.bx w λb u q=>add_int<|tk q|_=>exact wO.casesOn (show wO (GE _ y) Q from w) λh q=>Bh h q r l Y kp
 |sub=>exact yF l Y w λa b t u q=>sub_int<|tk q|mul=>exact g w λa b c t u z q=>by obtain⟨e,rfl⟩:=jh z;exact mul_int (tk q)<|IntMulOk.of_left<|yG (jT.1 e).1
 |div=>
  exact g w λa b c t u z q=>by obtain⟨e,rfl⟩:=jh z;exact aI e λm p=>floordiv_int (dk m) (tk q)<|.inl<|PyProof.noPylong_small<|dk p
 |mod=>exact g w λa b c t u z q=>by obtain⟨e,rfl⟩:=jh z;exact mod_int' (dk e)<|tk q
 |pow=>exact g w λa b c t u z q=>by obtain⟨e,rfl⟩:=jh z;exact aI e λm p=>pow_int_small (pE p).1 (pE p).2 (pD m)<|tk q
 |shl=>exact g w λa b c t u z q=>by obtain⟨e,rfl⟩:=jh z;exact aI e λm p=>lshift_int_small (pE p).1 (pE p).2 (pD m)<|tk q
 |shr=>exact g w λa b c t u z q=>by obtain⟨e,rfl⟩:=jh z;exact rshift_int (pE e).1<|tk q
 |band=>
  exact g w λa b c t u z q=>by obtain⟨e,rfl⟩:=jh z;refine aI e λm p=>?_;obtain rfl:=dk p;exact and_int<|GT (dk m)▸tk q
end
end
section
open PySem.SeqAt
def yH [BEq α] [LawfulBEq α] [DecidableEq α](a b:α):(a==b)=decide (a=b):=by rw[Bool.eq_iff_iff];simp
def all_eq:∀{l l':List V},l.length=l'.length->(List.range l.length).all (λj=>decide (l[j]?=l'[j]?))=decide (l=l'):=λ{l l'} h=>Bool.eq_iff_iff.2<|by
 rw[ft,decide_eq_true_iff];refine⟨λa=>List.ext_getElem? λi=>?_,λe j z=>eb<|e▸rfl⟩;by_cases H:i<l.length;.exact dk<|a i<|Dw.2 H
 .rw[List.getElem?_eq_none<|pg H,List.getElem?_eq_none<|h▸pg H]
def all_min{l l':List V}(H:m=l.length)(N:n=l'.length):((List.range<|min m n).all (λj=>decide (l[j]?=l'[j]?))&&m==n)=decide (l=l'):=by
 subst H N;by_cases h:l.length=l'.length;.rw[h,Nat.min_self,Fe,Bool.and_true,<-h];exact all_eq h
 .rw[BB.2 h,Bool.and_false,fo λe=>h<|cg List.length e]
section
variable{σ:Sg}{vx vy:Value}{A:Around}{x y:V}{l l':List V}
mutual
theorem RV.inj:∀(x y:V) (v:Value),V.fU x y=true->RV σ x v->RV σ y v->x=y
 |.none,y,v,l,p,q=>by rcases y<;>first|rfl|exact ff l
 |.bool a,y,v,l,p,q=>by cases y with
  |bool b=>cases(show v=.bool a from p).symm.trans q;rfl|_=>exact ff l
 |.int a,y,v,l,p,q=>by cases y with
  |int b=>obtain⟨t,rfl⟩:=p;obtain⟨u,q⟩:=q;cases q;rfl
  |_=>exact ff l
 |.str a,y,v,l,p,q=>by cases y with
  |str b=>obtain⟨t,_,rfl⟩:=p;obtain⟨u,_,q⟩:=q;injection q with q;injection q with q;exact cg V.str<|List.toArray_inj q
  |_=>exact ff l
 |.bytes a,y,v,l,p,q=>by cases y with
  |bytes b=>obtain⟨t,_,rfl⟩:=p;obtain⟨u,_,q⟩:=q;injection q with q;exact cg V.bytes<|List.toArray_inj q
  |_=>exact ff l
 |.tup a,y,v,l,p,q=>by cases y with
  |tup b=>obtain⟨t,n,s,_,rfl,_,H,z⟩:=p;obtain⟨T,m,O,_,e,_,N,M⟩:=q;cases e;cases dR<|H.symm.trans N;exact cg V.tup<|aN.inj _ _ _ l z M
  |_=>exact ff l
 |.lst a,y,v,l,p,q=>by cases y with
  |lst b=>obtain⟨t,n,s,_,rfl,_,H,z⟩:=p;obtain⟨T,m,O,_,e,_,N,M⟩:=q;cases e;cases dR<|H.symm.trans N;exact cg V.lst<|aN.inj _ _ _ l z M
  |_=>exact ff l
 |.ref a,y,v,l,p,q=>by rcases y<;>exact ff l
theorem aN.inj:∀(x y:List V) (v:List Value),V.cV x y=true->aN σ x v->aN σ y v->x=y
 |[],[],v,l,p,q=>rfl|[],_::_,v,l,p,q=>nomatch p.len.symm.trans q.len|_::_,[],v,l,p,q=>nomatch p.len.symm.trans q.len|x::k,y::Y,v,l,p,q=>by refine bC λG=>?_;obtain⟨j,U,z,u,rfl⟩:=p;obtain⟨i,f,Q,s,e⟩:=q;refine G ?_;cases e;exact aI (a:=V.fU x y) l λL m=>congr (cg _<|RV.inj _ _ _ L z Q)<|aN.inj _ _ _ m u s
end
def Rc(A:Around)(s:Shared)(vx vy:Value)(b:Bool):Prop:=RcAt A s vx vy b/\RcNeAt A s vx vy (! b)
def Rc.NN [Decidable p](h:Rc A σ.s (.ref a) (.ref b)<|decide p)(s:a=b->p):EqAt A σ.s (.ref a) (.ref b) (decide p)/\Rc A σ.s (.ref a) (.ref b) (decide p):=by
 refine⟨?_,h⟩;by_cases e:a=b
 .subst e;rw[eb<|s rfl];exact EqAt.same _
 .exact EqAt.of_refs e h.1
def vI(H:IsL σ.s.heap ax vs n)(s:IsL σ.s.heap ay oq n')(z:aN σ l vs.toList)(p:aN σ l' oq.toList)(u:A.units<cLine)
 (m:∀j (H:j<vs.size) (s:j<oq.size),EqAt A.in1 σ.s vs[j] oq[j] (decide (l[j]?=l'[j]?))):Rc A σ.s (.ref ax) (.ref ay) (decide (l=l')):=by
 have i:=lp (n:=n) H;have I:=lp (n:=n') s;by_cases hz:vs.size=oq.size
 .have e:=all_eq<|z.size.symm.trans<|hz.trans p.size;rw[<-z.size]at e;exact⟨λprog w E Q q=>RcAt.lists i I hz u m prog w E Q<|e▸q,λprog w E Q q=>RcNeAt.lists i I hz u m prog w E Q<|e▸q⟩
 .have k:(vs.size !=oq.size)=true:=bne_iff_ne.2 hz;rw[fo λe=>hz<|z.size.trans<|(cg List.length e).trans p.size.symm];exact⟨RcAt.lists_lengths i I k u,RcNeAt.lists_lengths i I k u⟩
def Bk(H:IsT σ.s.heap ax vs n)(z:IsT σ.s.heap ay oq n')(p:aN σ l vs.toList)(m:aN σ l' oq.toList)(u:A.units<cLine)
 (s:∀j (H:j<vs.size) (z:j<oq.size),EqAt A.in1 σ.s vs[j] oq[j] (decide (l[j]?=l'[j]?))):Rc A σ.s (.ref ax) (.ref ay) (decide (l=l')):=by
 have e:=all_min p.size m.size;have i:σ.s.heap.IsTuple ax vs:=⟨_,H,rfl,n,rfl⟩;have I:σ.s.heap.IsTuple ay oq:=⟨_,z,rfl,n',rfl⟩;exact⟨λprog w E Q q=>RcAt.tuples i I u s prog w E Q<|e▸q,λprog w E Q q=>RcNeAt.tuples i I u s prog w E Q<|e▸q⟩
def NO{a b:List Nat}:((⟨a.toArray⟩:Str)==⟨b.toArray⟩)=decide (a=b):=(yH _ _).trans<|nX.2 ⟨λe=>List.toArray_inj<|Str.mk.inj e,λe=>e▸rfl⟩
def Dt(h:a+(b+1)<c):a+1+b<c:=(Nat.add_right_comm a 1 b).symm▸h
def Du{α z:Type} [DecidableEq α] [DecidableEq z]{f:α->z}(H:∀a b,f a=f b->a=b)(a b:α):decide (f a=f b)=decide (a=b):=nX.2 ⟨H a b,λe=>e▸rfl⟩
mutual
theorem MA:∀(x y:V) {A:Around} {vx vy:Value},V.fU x y=true->A.units+V.dp x<cLine->RV σ x vx->RV σ y vy->EqAt A σ.s vx vy (decide (x=y))/\Rc A σ.s vx vy (decide (x=y))
 |.none,y,A,vx,vy,H,U,k,Y=>by cases y with
  |none=>obtain rfl:=k;obtain rfl:=Y;exact⟨EqAt.same _,λz z z z q=>EqNone.eq_none_none q,λz z z z q=>EqNone.ne_none_none q⟩
  |_=>exact ff H
 |.bool a,y,A,vx,vy,H,U,k,Y=>by cases y with
  |bool b=>obtain rfl:=k;obtain rfl:=Y;rw[Du λz z=>V.bool.inj,<-yH];exact⟨EqAt.bool_bool a b,λz z z z q=>eq_bool q,λz z z z q=>ne_bool q⟩
  |_=>exact ff H
 |.int a,y,A,vx,vy,H,U,k,Y=>by cases y with
  |int b=>obtain⟨t,rfl⟩:=k;obtain⟨u,rfl⟩:=Y;rw[Du λz z=>V.int.inj,<-yH];exact⟨EqAt.int_int a t b u,λz z z z q=>eq_int q,λz z z z q=>ne_int q⟩
  |_=>exact ff H
 |.str a,y,A,vx,vy,H,U,k,Y=>by cases y with
  |str b=>obtain⟨t,_,rfl⟩:=k;obtain⟨u,_,rfl⟩:=Y;rw[Du λz z=>V.str.inj,<-NO];exact⟨EqAt.str_str _ t _ u,λz z z z q=>eq_str q,λz z z z q=>ne_str q⟩
  |_=>exact ff H
 |.bytes a,y,A,vx,vy,H,U,k,Y=>by cases y with
  |bytes b=>obtain⟨t,_,rfl⟩:=k;obtain⟨u,_,rfl⟩:=Y;rw[Du λz z=>V.bytes.inj];have e:(a.toArray.toList==b.toArray.toList)=decide (a=b):=yH a b;exact⟨λz z z z q=>eqBool_bytes q,λz z z z q=>eq_bytes<|e▸q,λz z z z q=>ne_bytes<|by rw[bne,e];exact q⟩
  |_=>exact ff H
 |.tup a,y,A,vx,vy,H,U,k,Y=>by cases y with
  |tup b=>have inj:=λe:vx=vy=>RV.inj (.tup a) (.tup b) vx H k<|e▸Y;rw[Du λz z=>V.tup.inj];obtain⟨i,n,f,_,rfl,_,m,s⟩:=k;obtain⟨c,N,O,_,rfl,_,j,p⟩:=Y;exact(Bk m j s p (dS (ql _ _) U)<|GV a b (A:=A.in1) H (Dt U) s p).NN λe=>V.tup.inj<|inj<|cg _ e
  |_=>exact ff H
 |.lst a,y,A,vx,vy,H,U,k,Y=>by cases y with
  |lst b=>have inj:=λe:vx=vy=>RV.inj (.lst a) (.lst b) vx H k<|e▸Y;rw[Du λz z=>V.lst.inj];obtain⟨i,n,f,_,rfl,_,m,s⟩:=k;obtain⟨c,N,O,_,rfl,_,j,p⟩:=Y;exact(vI m j s p (dS (ql _ _) U)<|GV a b (A:=A.in1) H (Dt U) s p).NN λe=>V.lst.inj<|inj<|cg _ e
  |_=>exact ff H
 |.ref a,y,A,vx,vy,H,U,k,Y=>by rcases y<;>exact ff H
theorem GV:∀(l l':List V) {A:Around} {xs ys:List Value},V.cV l l'=true->A.units+V.jB l<cLine->aN σ l xs->aN σ l' ys->∀j (z:j<xs.length) (u:j<ys.length),EqAt A σ.s xs[j] ys[j] (decide (l[j]?=l'[j]?))
 |[],_,A,xs,ys,H,U,k,Y,j,z,u=>by obtain rfl:=k;cases z
 |_::_,[],A,xs,ys,H,U,k,Y,j,z,u=>by obtain rfl:=Y;cases u
 |x::l,y::l',A,xs,ys,H,U,k,Y,j,z,u=>by
  obtain⟨e,O,p,s,rfl⟩:=k;obtain⟨b,a,Q,i,rfl⟩:=Y;have m:=Nat.max_le.1<|i1<|Nat.max (V.dp x)<|V.jB l;have H:=jT.1<|show(V.fU x y&&V.cV l l')=true from H
  induction j using Nat.casesOn with|zero=>have c:=(MA x y (A:=A) H.1 (dS (ih m.1 _) U) p Q).1;rw[<-Du (λf f=>dR) x y]at c;exact c|succ j=>exact GV l l' H.2 (dS (ih m.2 _) U) s i j (Nat.lt_of_succ_lt_succ z)<|Nat.lt_of_succ_lt_succ u
end
end
end
section
open PySem.SeqAt
mutual
noncomputable def g5:V->Bool
 |.int _=>true|.str _=>true|.tup l=>ji l|_=>false
noncomputable def ji:List V->Bool
 |[]=>true|v::l=>g5 v&&ji l
end
mutual
noncomputable def fm:V->Nat
 |.tup l=>jZ l+1|_=>1
noncomputable def jZ:List V->Nat
 |[]=>0|v::l=>fm v+jZ l
end
noncomputable def Sg.tk(σ:Sg)(t:Nat):Shared:={σ.s with toks:=t}
section
variable{prog:Program}{w:World}{σ:Sg}{A:Around}{E:Value->Shared->Prop}
theorem rX(y:∀x b tk Q,wpAny (model prog w) A (pyHash x) (λh s=>Q (.yield<|b.push h) s) E (σ.tk tk)->wpAny (model prog w) A (f x b) Q E (σ.tk tk)):
 ∀(l:List V) (xs:List Value) (b:Array Int) (tk:Nat) (Q:Array Int->Shared->Prop),(∀(j:Nat) x v tk Q,xs[j]?=some x->l[j]?=some v->Q (cm w v) (σ.tk<|tk+fm v)->wpAny (model prog w) A (pyHash x) Q E (σ.tk tk))->xs.length=l.length->
 (∀z,z.toList=b.toList++ja w l->Q z (σ.tk<|tk+jZ l))->wpAny (model prog w) A (forIn xs b f) Q E (σ.tk tk)
 |[],[],b,tk,Q,i,H,h=>by rw[List.forIn_nil];exact e5<|h b (hE _).symm|[],_::_,_,_,_,_,H,_=>nomatch H|_::_,[],_,_,_,_,H,_=>nomatch H|v::l,x::xs,b,tk,Q,i,H,h=>by
  rw[List.forIn_cons];refine da<|y x b tk _<|i 0 x v tk _ rfl rfl (rX y l xs _ _ Q (λj=>i<|j+1) (Nat.succ.inj H) λz e=>?_);have:=h z<|e.trans<|by rw[Array.toList_push,ee];rfl
  exact(Nat.add_assoc tk (fm v)<|jZ l).symm▸this
def yI(u:A.units<cLine)(H:IsT σ.s.heap a xs n)(hz:xs.size=l.length)
 (i:∀(j:Nat) x v tk (Q:Int->Shared->Prop) E,xs.toList[j]?=some x->l[j]?=some v->Q (cm w v) (σ.tk<|tk+fm v)->wpAny (model prog w) A.in1 (pyHash x) Q E (σ.tk tk))
 (h:Q (cm w<|.tup l)<|σ.tk<|tk+fm (.tup l)):wpAny (model prog w) A (pyHash<|.ref a) Q E (σ.tk tk):=by
 have T:(σ.tk tk).TypeIs (.ref a) "tuple":=⟨_,H,rfl⟩;unfold pyHash pyHashByItsType;refine da<|wpAny_cRoomFor_or (.inr u)<|da<|xD T F.slot_tuple_hash.lookup ?_;show wpAny _ _ (if(some (Value.builtin "tuple.__hash__")==some Value.none)=true then _ else _) Q E _;rw[ej<|by rw[beq_builtin_none];exact nI];refine da<|xD T F.slot_tuple_hash.lookup ?_;show wpAny _ _ (callSpecialIfBoundUnlessNone? (.ref a) "__hash__" _>>=_) Q E _;refine da<|wpAny_callSpecialIfBoundUnlessNone?_slot T F.slot_tuple_hash<|x3 F.slot_tuple_hash T F.entry_tuple_hash ?_<|F.args_tuple_hash_1 _;show wpAny _ _ (Builtin.Tuple.tupleItemsOf (.ref a)>>=_) _ _ _;refine da<|wpAny_tupleItemsOf H rfl (da ?_);rw[<-Array.forIn_toList];refine rX (λx b tk Q q=>da<|y1 q (λz z q=>by first|exact e5 q|exact da<|e5<|e5 q) λz z x=>x) l _ _ _ _ (λj x v tk Q y s q=>i j x v tk Q _ y s q) hz λb e=>?_;show wpAny _ _ (retInt<|Builtin.Tuple.tupleHashOf b.toList) _ _ _;rw[show b.toList=ja w l from e];refine wpAny_ret_mkInt ?_;have h:Q (reduceHash<|Builtin.Tuple.tupleHashOf<|ja w l) _:=h;unfold reduceHash at h;show wpAny _ _ (if(decide (-(2:Int)^63<=Builtin.Tuple.tupleHashOf (ja w l))&&decide (Builtin.Tuple.tupleHashOf (ja w l)<2^63))=true then _ else _) Q E<|σ.tk<|tk+(jZ l+1);split
 .rename_i c;rw[er c]at h;exact e5 h
 .rename_i c;rw[ej c]at h;exact da<|wpAny_rule<|e5 h
mutual
theorem tT:∀(v:V) {A:Around} {tk:Nat} {L:Value} {Q:Int->Shared->Prop} {E:Value->Shared->Prop},g5 v=true->A.units+V.dp v<cLine->RV σ v L->
 Q (cm w v) (σ.tk<|tk+fm v)->wpAny (model prog w) A (pyHash L) Q E (σ.tk tk)
 |.int i,A,tk,L,Q,E,b,u,k,h=>by obtain⟨t,rfl⟩:=k;exact wpAny_pyHash_int h
 |.str l,A,tk,L,Q,E,b,u,k,h=>by obtain⟨t,_,rfl⟩:=k;exact wpAny_pyHash_str h
 |.tup l,A,tk,L,Q,E,b,u,k,h=>by refine bC λG=>?_;obtain⟨a,n,s,_,rfl,_,T,H⟩:=k;exact G<|yI (dS (ql _ _) u) T H.size (λj x v tk Q E z y q=>vJ l (A:=A.in1) b (Dt u) H j z y q) h
 |.none,_,_,_,_,_,b,_,_,_=>ff b|.bool _,_,_,_,_,_,b,_,_,_=>ff b|.bytes _,_,_,_,_,_,b,_,_,_=>ff b|.lst _,_,_,_,_,_,b,_,_,_=>ff b|.ref _,_,_,_,_,_,b,_,_,_=>ff b
theorem vJ:∀(l:List V) {A:Around} {xs:List Value},ji l=true->A.units+V.jB l<cLine->aN σ l xs->∀(j:Nat) {x v tk} {Q:Int->Shared->Prop} {E:Value->Shared->Prop},xs[j]?=some x->l[j]?=some v->
 Q (cm w v) (σ.tk<|tk+fm v)->wpAny (model prog w) A (pyHash x) Q E (σ.tk tk)
 |[],A,xs,b,H,k,j,x,v,tk,Q,E,s,z,h=>by injection z|u::l,A,xs,b,H,k,j,x,v,tk,Q,E,s,z,h=>by
  obtain⟨y,ys,p,i,rfl⟩:=k;have m:=Nat.max_le.1<|i1<|Nat.max (V.dp u)<|V.jB l;have b:=jT.1<|show(g5 u&&ji l)=true from b
  induction j using Nat.casesOn with
  |zero=>obtain rfl:=dR s;obtain rfl:=dR z;exact tT u b.1 (dS (ih m.1 _) H) p h
  |succ j=>exact vJ l b.2 (dS (ih m.2 _) H) i j s z h
end
theorem pF{z:Type}{s:Shared}{r:z}{f:Value->z->Sem (ForInStep z)}:∀(xs:List Value),(∀(j:Nat) x Q,xs[j]?=some x->Q (.yield r) s->wpAny (model prog w) A (f x r) Q E s)->∀{Q:z->Shared->Prop},Q r s->wpAny (model prog w) A (forIn xs r f) Q E s
 |[],_,Q,h=>by rw[List.forIn_nil];exact e5 h|x::xs,i,Q,h=>by rw[List.forIn_cons];exact da<|i 0 x _ rfl (pF xs (λj=>i<|j+1) h)
mutual
theorem Dv:∀(v:V) {d:Nat} {A:Around} {L:Value} {Q:Bool->Shared->Prop} {E:Value->Shared->Prop},g5 v=true->V.dp v<=d->RV σ v L->Q true σ.s->wpAny (model prog w) A (eqIsQuiet d L) Q E σ.s
 |.int i,d,A,L,Q,E,b,u,k,h=>by obtain⟨t,rfl⟩:=k;rw[eqIsQuiet_byValue _ rfl];exact e5 h
 |.str l,d,A,L,Q,E,b,u,k,h=>by obtain⟨t,_,rfl⟩:=k;rw[eqIsQuiet_byValue _ rfl];exact e5 h
 |.tup l,0,A,L,Q,E,b,u,k,h=>nomatch u|.tup l,d+1,A,L,Q,E,b,u,k,h=>by refine bC λG=>?_;obtain⟨a,n,s,_,rfl,_,T,z⟩:=k;refine G ?_;have H:σ.s.TypeIs (.ref a) "tuple":=⟨_,T,rfl⟩;unfold eqIsQuiet;refine da<|xD H F.slot_tuple_eq.lookup ?_;show wpAny _ _ (isInstance (.ref a) (.type "tuple")>>=_) _ _ _;refine da<|wpAny_isInstance H isSubtype_tuple_tuple<|lC nI<|da<|wpAny_seqItems T rfl (da ?_);show wpAny _ _ (forIn s _ _) _ _ _;rw[<-Array.forIn_toList];refine pF _ (λj x Q y q=>da<|zZ l b (Nat.le_of_succ_le_succ u) z j y ?_)<|e5 h;exact lC nI<|e5 q
 |.none,_,_,_,_,_,b,_,_,_=>ff b|.bool _,_,_,_,_,_,b,_,_,_=>ff b|.bytes _,_,_,_,_,_,b,_,_,_=>ff b|.lst _,_,_,_,_,_,b,_,_,_=>ff b|.ref _,_,_,_,_,_,b,_,_,_=>ff b
theorem zZ:∀(l:List V) {d:Nat} {A:Around} {xs:List Value},ji l=true->V.jB l<=d->aN σ l xs->∀(j:Nat) {x} {Q:Bool->Shared->Prop} {E:Value->Shared->Prop},xs[j]?=some x->Q true σ.s->wpAny (model prog w) A (eqIsQuiet d x) Q E σ.s
 |[],d,A,xs,b,U,k,j,x,Q,E,H,h=>by obtain rfl:=k;injection H
 |u::l,d,A,xs,b,U,k,j,x,Q,E,H,h=>by
  obtain⟨y,ys,z,p,rfl⟩:=k;have m:=Nat.max_le.1<|i1<|Nat.max (V.dp u)<|V.jB l;have b:=jT.1<|show(g5 u&&ji l)=true from b
  induction j using Nat.casesOn with
  |zero=>obtain rfl:=dR H;exact Dv u b.1 (c0 m.1 U) z h
  |succ j=>exact zZ l b.2 (c0 m.2 U) p j H h
end
end
end
section
open PySem.SeqAt
def vK{v:V}(h:isInt v=true):∃i,v=.int i:=by rcases v<;>first|exact⟨_,rfl⟩|exact ff h
def pG{v:V}(h:isStr v=true):∃i,v=.str i:=by rcases v<;>first|exact⟨_,rfl⟩|exact ff h
def Bl{v:V}(h:rM v=true):∃i j,v=.tup [.int i,.int j]:=by
 induction v using V.casesOn with
 |tup l=>match l,h with
  |[a,b],h=>obtain⟨H,z⟩:=jT.1<|show(isInt a&&isInt b)=true from h;clear h;obtain⟨i,rfl⟩:=vK H;obtain⟨j,rfl⟩:=vK z;exact⟨i,j,rfl⟩
  |[],h=>exact ff h|[_],h=>exact ff h|_::_::_::_,h=>exact ff h
 |_=>exact ff h
def GW{v:V}(h:IR v=true):∃i j n k m,v=.tup [.tup [.int i,.int j],.str n,.tup [.int k,.int m]]:=by
 induction v using V.casesOn with
 |tup l=>match l,h with
  |[a,b,c],h=>refine bG (show(rM a&&isStr b&&rM c)=true from h) λH z T=>?_;clear h;obtain⟨i,j,rfl⟩:=Bl H;obtain⟨n,rfl⟩:=pG z;obtain⟨k,m,rfl⟩:=Bl T;exact⟨i,j,n,k,m,rfl⟩
  |[],h=>exact ff h|[_],h=>exact ff h|[_,_],h=>exact ff h|_::_::_::_::_,h=>exact ff h
 |_=>exact ff h
def Km{C:V->Prop}{k:Kd}(h:keyOk k x=true)(H:∀i,k=.int->C (.int i))(z:∀l,k=.str->C (.str l))(T:∀i j,C<|.tup [.int i,.int j])(y:∀i j n k m,C<|.tup [.tup [.int i,.int j],.str n,.tup [.int k,.int m]]):C x:=by
 induction k using Kd.casesOn with
 |int=>obtain⟨_,rfl⟩:=vK h;exact H _ rfl
 |str=>obtain⟨_,rfl⟩:=pG h;exact z _ rfl
 |oP=>obtain⟨_,_,rfl⟩:=Bl h;exact T _ _
 |AU=>obtain⟨_,_,_,_,_,rfl⟩:=GW h;exact y _ _ _ _ _
def pH{k:Kd}(H:keyOk k x=true)(Y:keyOk k y=true):V.fU x y=true:=by
 induction k using Kd.casesOn with
 |int=>obtain⟨_,rfl⟩:=vK H;obtain⟨_,rfl⟩:=vK Y;rfl
 |str=>obtain⟨_,rfl⟩:=pG H;obtain⟨_,rfl⟩:=pG Y;rfl
 |oP=>obtain⟨_,_,rfl⟩:=Bl H;obtain⟨_,_,rfl⟩:=Bl Y;rfl
 |AU=>obtain⟨_,_,_,_,_,rfl⟩:=GW H;obtain⟨_,_,_,_,_,rfl⟩:=GW Y;rfl
def bl{k:Kd}(h:keyOk k x=true):g5 x=true/\V.dp x<=2:=
 Km (C:=λx=>g5 x=true/\V.dp x<=2) h (λz z=>⟨rfl,js _⟩) (λz z=>⟨rfl,js _⟩) (λz z=>⟨rfl,Nat.le_succ _⟩) λz z z z z=>⟨rfl,i1 _⟩
mutual
theorem RV.free{σ σ':Sg}(u:∀a o vs n,σ.h a=some o->o.data=.seq vs n->¬NI σ a->¬NI σ' a/\σ'.h a=some o):∀(v:V) (x:Value),g5 v=true->RV σ v x->RV σ' v x
 |.int _,_,_,r=>r|.str _,_,_,r=>r|.tup l,x,b,r=>by obtain⟨a,n,vs,h,rfl,H,ht,s⟩:=r;exact .tt h (u a _ vs n ht rfl H).1 (u a _ vs n ht rfl H).2 (aN.free u l _ b s)
 |.none,_,b,_=>ff b|.bool _,_,b,_=>ff b|.bytes _,_,b,_=>ff b|.lst _,_,b,_=>ff b|.ref _,_,b,_=>ff b
theorem aN.free{σ σ':Sg}(u:∀a o vs n,σ.h a=some o->o.data=.seq vs n->¬NI σ a->¬NI σ' a/\σ'.h a=some o):∀(l:List V) (xs:List Value),ji l=true->aN σ l xs->aN σ' l xs
 |[],_,_,r=>r|v::l,xs,b,r=>by obtain⟨y,Y,h,s,rfl⟩:=r;exact aI (a:=g5 v) b λH z=>.cons (RV.free u v y H h)<|aN.free u l Y z s
end
def NP:¬NI (gr s) a:=λh=>h.elim (λT=>by obtain⟨_,m,_⟩:=T;exact nomatch m) id
def sH(h:Heap):Sg:=gr {heap:=h}
theorem RV.gr{σ:Sg}{v:V}(r:RV σ v x)(b:g5 v=true)(e:∀a o vs n,σ.h a=some o->o.data=.seq vs n->s.heap.get? a=some o):RV (gr s) v x:=
 RV.free (σ:=σ) (λa o vs n q d z=>⟨NP,e a o vs n q d⟩) v x b r
theorem RV.sH{σ:Sg}{v:V}(r:RV σ v x)(b:g5 v=true):RV (sH σ.s.heap) v x:=r.gr b λz z z z q z=>q
def Dx{k:Kd}(h:keyOk k x=true)(H:u+12<cLine):u+V.dp x<cLine:=dS (ih (c0 (bl h).2<|by decide) _) H
def Dy(prog:Program)(w:World)(k:Kd):HeapKind prog w V where
 is:=λh v a=>keyOk k v=true/\RV (sH h) v (.ref a)
 hash:=cm w
 draws:=fm
 room:=λA=>A.units+12<cLine
 inj:=λH Y=>RV.inj _ _ _ (pH H.1 Y.1) H.2 Y.2
 keeps:=λ{h l v a d o es j} H J D m=>⟨H.1,H.2.gr (bl H.1).1 λb O i n e L=>(m.2 b<|by rintro rfl;cases dR<|J.symm.trans e;cases D.symm.trans L).trans e⟩
 pyHash:=λ{A E s v a Q} p H u=>tT (σ:=gr s) v (bl H.1).1 (Dx H.1 p) (H.2.gr (bl H.1).1 λz z z z q z=>q) u
 eqBool:=λ{A E s x y a b Q} p H Y u=>(MA (σ:=gr s) x y (pH H.1 Y.1) (Dx H.1 p) (H.2.gr (bl H.1).1 λz z z z q z=>q)<|Y.2.gr (bl Y.1).1 λz z z z q z=>q).1 prog w _ _ u
 quiet:=λ{A E s v a Q} H u=>Dv (σ:=gr s) v (bl H.1).1 (c0 (bl H.1).2<|by decide) (H.2.gr (bl H.1).1 λz z z z q z=>q) u
section
variable{w:World}{σ:Sg}
theorem fh.len:∀{d:List (V×V)} {es:List DictEntry},fh w σ d es->es.length=d.length
 |[],_,r=>by obtain rfl:=r;rfl
 |_::d,_,r=>r.bp λz z z z z x=>cg (·+1) x.len
theorem fh.get:∀{d:List (V×V)} {es:List DictEntry},fh w σ d es->∀{i:Nat} {e:V×V},d[i]?=some e->∃y,es[i]?=some y/\RV σ e.1 y.key/\RV σ e.2 y.val/\y.hash=cm w e.1
 |[],_,_,_,_,u=>nomatch u|_::_,_,r,0,_,u=>by obtain rfl:=dR u;exact r.bp λy z H x T z=>⟨y,rfl,H,x,T⟩
 |_::d,_,r,i+1,_,u=>r.bp λz z z z z s=>s.get (d:=d) u
theorem fh.find:∀{d:List (V×V)} {es:List DictEntry},fh w σ d es->(∀e∈d,∀y,RV σ e.1 y.key->p y=q e)->es.findIdx? p=d.findIdx? q
 |[],_,r,_=>by obtain rfl:=r;rfl
 |u::d,_,r,H=>r.bp λy Y z x x s=>by rw[List.findIdx?_cons,List.findIdx?_cons,H u (.head _) y z,s.find λe m=>H e<|.tail _ m]
theorem fh.modify{v:V}(p:RV σ v val):∀{d:List (V×V)} {es:List DictEntry},fh w σ d es->∀(i:Nat),fh w σ (d.modify i λe=>(e.1,v))<|es.modify i λe=>{e with val:=val}
 |[],_,r,i=>by obtain rfl:=r;rw[List.modify_nil,List.modify_nil];exact .nil
 |u::d,_,r,0=>r.bp λz z H z T x=>.cons (e:=(u.1,v)) H p T x|u::d,_,r,i+1=>r.bp λz z H y T x=>.cons H y T<|x.modify p i
theorem fh.snoc{k v:V}(H:RV σ k y.key)(z:RV σ v y.val)(T:y.hash=cm w k):∀{d:List (V×V)} {es:List DictEntry},fh w σ d es->fh w σ (d++[(k,v)]) (es++[y])
 |[],_,r=>by obtain rfl:=r;exact .cons (e:=(k,v)) H z T .nil
 |u::d,_,r=>r.bp λx x Q s p m=>.cons Q s p<|m.snoc H z T
theorem fh.erase:∀{d:List (V×V)} {es:List DictEntry},fh w σ d es->∀(i:Nat),fh w σ (d.eraseIdx i)<|es.eraseIdx i
 |[],_,r,_=>by obtain rfl:=r;exact .nil
 |u::d,_,r,0=>r.bp λz z z z z x=>x|u::d,_,r,i+1=>r.bp λz z H y T x=>.cons H y T<|x.erase i
theorem fh.mem:∀{d:List (V×V)} {es:List DictEntry},fh w σ d es->∀y∈es,∃e∈d,RV σ e.1 y.key/\y.hash=cm w e.1
 |[],_,r,y,Y=>by obtain rfl:=r;cases Y
 |u::d,_,r,y,Y=>by
  refine bC λG=>?_;obtain⟨z,p,H,m,T,x,rfl⟩:=r;refine G ?_;rcases lq.mp Y with rfl|e;.exact⟨u,.head _,H,T⟩
  .obtain⟨s,a,b⟩:=x.mem y e;exact⟨s,.tail _ a,b⟩
end
noncomputable def tU(d:List<|V×V)(k:V):Option Nat:=d.findIdx? λe=>decide (e.1=k)
section
variable{d:List (V×V)}{k v:V}
def j0:tU (e::d) k=if e.1=k then some 0 else(tU d k).map (·+1):=by unfold tU;rw[List.findIdx?_cons];by_cases h:e.1=k<;>simp[h]
theorem tV:∀(d:List<|V×V) (k:V),bI d k=(tU d k).bind λi=>(d[i]?).map (·.2)
 |[],k=>rfl|e::d,k=>by
  rw[j0,bI,EW];by_cases h:e.1=k;.rw[er h,eb h];rfl
  .rw[ej h,fo h];exact(tV d k).trans<|by cases tU d k<;>rfl
def Dz(d:List<|V×V)(k:V):bR d k=(bI d k).isSome:=by unfold bR bI;rw[Option.isSome_map,Bool.eq_iff_iff,Hg,List.find?_isSome]
theorem j1:∀{d:List (V×V)} {k:V} {i:Nat},tU d k=some i->∃v,d[i]?=some (k,v)
 |[],k,i,h=>nomatch h|e::d,k,i,h=>by
  rw[j0]at h;split at h;.rename_i q;obtain rfl:=dR h;obtain rfl:=q;exact⟨e.2,rfl⟩
  .exact C5 h λj H=>j1 (d:=d) H
def DA(h:tU d k=none)(m:e∈d):e.1≠k:=λq=>by have:=List.findIdx?_eq_none_iff.1 h e m;rw[eb q]at this;exact nomatch this
end
end
section
open PySem.SeqAt
def Bm{α:Type}{f:α->α}{l:List α}(h:∀a∈l,f a=a):l.map f=l:=(lF h).trans<|List.map_id' l
theorem z3:∀(d:List<|V×V) (k v:V),(d.map (·.1)).Nodup->dput d k v=match tU d k with|some i=>d.modify i λe=>(e.1,v)|none=>d++[(k,v)]
 |[],k,v,_=>rfl|e::d,k,v,H=>by
  have H:=EV.1<|show(e.1::d.map (·.1)).Nodup from H;have I:=z3 d k v H.2;rw[j0];unfold dput at I⊢;by_cases y:e.1=k
  .rw[er y,show bR (e::d) k=true from by rw[bR,List.any_cons,eb y];rfl,er rfl,ik,er y];exact cg _ (Bm λa m=>ej λq:a.1=k=>H.1<|q.trans y.symm▸u1 (f:=Prod.fst) m)
  .rw[ej y,show bR (e::d) k=bR d k from by rw[bR,List.any_cons,fo y];rfl,ik,ej y]
   cases D:tU d k with
   |none=>rw[D]at I;by_cases c:bR d k=true;.rw[er c]at I⊢;exact cg _ I
          .rw[ej c];rfl
   |some i=>rw[D]at I;by_cases c:bR d k=true;.rw[er c]at I⊢;exact cg _ I
            .rw[ej c]at I⊢;exact cg _ I
theorem z4:∀(d:List<|V×V) (k:V),(d.map (·.1)).Nodup->∀i,tU d k=some i->dV d k=d.eraseIdx i
 |[],_,_,_,h=>nomatch h|e::d,k,H,i,h=>by
  have H:=EV.1<|show(e.1::d.map (·.1)).Nodup from H;rw[j0]at h;unfold dV;by_cases y:e.1=k
  .rw[er y]at h;obtain rfl:=dR h;rw[nq<|by rw[eb y];nofun];exact sl.2 λa m=>by rw[fo λq:a.1=k=>H.1<|q.trans y.symm▸u1 (f:=Prod.fst) m];rfl
  .rw[ej y]at h;refine C5 h λj J=>?_;rw[rZ<|by rw[fo y];rfl];exact cg _<|z4 d k H.2 j J
def Bn{d:List (V×V)}{k v:V}{p:V->Prop}(y:p k)(D:∀e∈d,p e.1):∀e∈dput d k v,p e.1:=λe m=>by
 unfold dput at m;split at m
 .refine bL m λa H=>?_;split;.exact D a H
  .exact D a H
 .exact(eu.1 m).elim (D e) λm=>by obtain rfl:=dt.1 m;exact y
def vL(d:List<|V×V)(k v:V):(dput d k v).map (·.1)=if bR d k then d.map (·.1)else d.map (·.1)++[k]:=by
 unfold dput;split;.rw[gY];exact lF λa z=>by show(if a.1=k then(a.1,v)else a).1=a.1;split<;>rfl
 .exact e7
def yJ{d:List (V×V)}(h:(d.map (·.1)).Nodup):((dput d k v).map (·.1)).Nodup:=by
 rw[vL];split;.exact h
 .rename_i y;refine H5.2 ⟨h,EV.2 ⟨nofun,List.nodup_nil⟩,λa H b z=>?_⟩;obtain rfl:=dt.1 z;refine bL H λe m=>?_;exactλq=>y<|Hg.2 ⟨e,m,eb q⟩
def pI(d:List<|V×V)(k v:V):(dput d k v).length<=d.length+1:=by
 have:=cg List.length<|vL d k v;rw[a9]at this;rw[this];split;.rw[a9];exact Nat.le_succ _
 .rw[b9,a9];exact i1 _
def tW(h:n<=cn):n<=sizeLine:=c0 h<|by decide
section
variable{prog:Program}{w:World}{σ:Sg}{A:Around}{E:Value->Shared->Prop}{kd:Kd}{d:List (V×V)}{a:Addr}{es:Array DictEntry}{ep:Nat}{x:V}{key:Value}
theorem fh.vM(ht:∀v y,keyOk kd v=true->RV σ v y->∃b,y=.ref b):∀{d:List (V×V)} {l:List DictEntry},(∀e∈d,keyOk kd e.1=true)->fh w σ d l->
 ∃xs:List<|V×Addr×Value,l=xs.map (entryOfKey<|Dy prog w kd)/\(∀x∈xs,(Dy prog w kd).is σ.s.heap x.1 x.2.1)/\xs.map (·.1)=d.map (·.1)
 |[],_,_,r=>⟨[],by obtain rfl:=r;rfl,nofun,rfl⟩
 |e::d,l,N,r=>by
  refine bC λG=>?_;obtain⟨⟨c,z,u⟩,Y,H,U,T,s,rfl⟩:=r;have k:=N e<|.head _;obtain⟨xs,p,j,i⟩:=vM ht (λe f=>N e<|.tail _ f) s;obtain⟨b,rfl⟩:∃b,z=.ref b:=ht _ _ k H
  exact G<|⟨(e.1,b,u)::xs,congr (cg _<|by show _=DictEntry.mk (cm w e.1) _ _;rw[<-T]) p,
   λx m=>(lq.1 m).elim (λq=>q▸⟨k,H.sH (bl k).1⟩)<|j x,cg _ i⟩
def Kn{i:Nat}{v:V}(H:(d.map (·.1)).Nodup)(h:(d.map (·.1))[i]?=some x):tU d x=some i:=by
 refine Gm (((qa ..).symm.trans h)) λe u q=>?_
 cases k:tU d x with|none=>exact absurd q<|DA k<|nf u|some j=>obtain⟨v,p⟩:=j1 k;have g:=(qa (f:=Prod.fst) (l:=d) (i:=j)).trans<|cg (Option.map Prod.fst) p;obtain⟨L,z⟩:=f5.1 g;obtain⟨m,y⟩:=f5.1 h;rw[(List.getElem_inj (h₀:=L) (h₁:=m) H).1<|z.trans y.symm]
def j2{K:Type} [DecidableEq K](knd:PySem.KeyKind prog w K)(c:K){tk:Nat}(m:σ.h a=some {cls:=.type "dict",dict:=none,data:=.dict es ep,slots:=#[]}) (H:fh w σ d es.toList) (s:knd.is c key=true) (p:cm w x=knd.hash c)
 (T:∀e∈d,∀y:Value,RV σ e.1 y->(∃z,knd.is z y=true/\cm w e.1=knd.hash z)/\knd.is c y=decide (e.1=x)) {Q:Option Nat->Shared->Prop} (h:Q (tU d x)<|σ.tk tk):wpAny (model prog w) A (dictFind a key<|cm w x) Q E (σ.tk tk):=by
 rw[p];refine wpAny_dictFind_of (knd:=knd) s (show(σ.tk tk).heap.get? a=_ from m) rfl (λe u=>?_) ?_
 .refine bC λG=>?_;obtain⟨l,Y,k,j⟩:=H.mem e<|Array.mem_toList_iff.mpr u;obtain⟨⟨z,i,f⟩,_⟩:=T l Y _ k;exact G<|⟨z,i,j.trans f⟩
 .rw[show es.findIdx? (λe=>knd.is c e.key)=es.toList.findIdx? (λe=>knd.is c e.key) by obtain⟨⟩:=es;simp,H.find (q:=λe=>decide (e.1=x)) λe u y q=>(T e u _ q).2];exact h
def DB{tk:Nat}(U:A.units+12<cLine)(m:σ.h a=some {cls:=.type "dict",dict:=none,data:=.dict es ep,slots:=#[]}) (N:∀e∈d,keyOk kd e.1=true) (c:(d.map (·.1)).Nodup) (z:fh w σ d es.toList)
 (H:keyOk kd x=true) (T:RV σ x key) {Q:Option Nat->Shared->Prop} (h:Q (tU d x)<|σ.tk tk):wpAny (model prog w) A (dictFind a key<|cm w x) Q E (σ.tk tk):=by
 have O:(∀v y,keyOk kd v=true->RV σ v y->∃b,y=.ref b)->wpAny (model prog w) A (dictFind a key<|cm w x) Q E (σ.tk tk):=λht=>by
  obtain⟨xs,D,e2,M⟩:=z.vM (prog:=prog) ht N;clear N z;obtain⟨b,rfl⟩:=ht _ _ H T
  have g:∀{j:Nat} {p:Addr×Value},xs[j]?=some (x,p)->tU d x=some j:=λJ=>Kn (v:=x) c<|M▸(qa ..).trans (cg (Option.map Prod.fst) J)
  refine wpAny_dictFind_heap (knd:=Dy prog w kd) (k:=x) (s:=σ.tk tk) U ⟨H,T.sH (bl H).1⟩ m rfl D e2 (M▸c) (λqJ=>?_) λj p J=>g J▸h
  cases G:tU d x with|none=>exact G▸h|some i=>refine bC λzG=>?_;obtain⟨v,hv⟩:=j1 G;have q:=(qa (f:=Prod.fst) (l:=d) (i:=i)).trans<|cg (Option.map Prod.fst) hv;rw[<-M,qa]at q;clear U m c;obtain⟨⟨x1,x2⟩,Ur,rfl⟩:=y2.1 q;exact zG<|absurd Ur<|qJ i x2
 induction kd using Kd.casesOn with
 |int=>clear U c O;obtain⟨i,rfl⟩:=vK H;clear H;obtain⟨t,rfl⟩:=T;refine j2 (key:=.int i t) (intKind prog w) i m z (Fe i) rfl (λe L y Y=>?_) h;obtain⟨j,q⟩:=vK<|N e L;rw[q]at Y⊢;clear m N z h q t;obtain⟨u,rfl⟩:=Y;refine⟨⟨j,Fe j,rfl⟩,?_⟩;rw[Du λI I=>V.int.inj];exact yH j i
 |str=>clear U c O;obtain⟨i,rfl⟩:=pG H;clear H;obtain⟨t,_,rfl⟩:=T;refine j2 (key:=.str ⟨i.toArray⟩ t) (strKind prog w) ⟨i.toArray⟩ m z (Fe (⟨i.toArray⟩:Str)) rfl (λe L y Y=>?_) h;obtain⟨j,q⟩:=pG<|N e L;rw[q]at Y⊢;clear m N z h q t;obtain⟨u,_,rfl⟩:=Y;refine⟨⟨⟨j.toArray⟩,Fe (⟨j.toArray⟩:Str),rfl⟩,?_⟩;rw[Du λI I=>V.str.inj];exact NO (a:=j) (b:=i)
 |oP=>exact O λv y h r=>by obtain⟨_,_,rfl⟩:=Bl h;obtain⟨b,_,_,_,e,_⟩:=r;exact⟨b,e⟩
 |AU=>exact O λv y h r=>by obtain⟨_,_,_,_,_,rfl⟩:=GW h;obtain⟨b,_,_,_,e,_⟩:=r;exact⟨b,e⟩
end
end
section
open PySem.SeqAt
section
variable{k:Cx}{σ:Sg}{A:Around}{E:Value->Shared->Prop}{i:Nat}{kd:Kd}{d:List (V×V)}{p:Addr×Addr}{x v:V}{key val:Value}
def oj.type(O:oj k σ p kd d):σ.s.TypeIs (.ref p.1) "dict":=by obtain⟨es,j,H,e,y,N,h,r⟩:=O;exact⟨_,h,rfl⟩
def DC(y:keyOk kd x=true)(z:RV σ x key)(u:A.units+12<cLine)(q:Q (cm k.w x)<|σ.tk<|σ.s.toks+fm x):wpAny (model k.prog k.w) A (pyHash key) Q E σ.s:=
 tT x (bl y).1 (Dx y u) z q
def NQ{A:Around}(u:A.units+20<cLine):A.in1.units+12<cLine:=dS (ih (by decide:1+12<=20) A.units) u
def Ko(O:oj k σ p kd d)(u:A.units+12<cLine)(z:keyOk kd x=true)(s:RV σ x key)
 (J:bI d x=none->∀t,Q none<|σ.tk t) (N:∀v val,bI d x=some v->RV σ v val->∀t,Q (some val)<|σ.tk t):wpAny (model k.prog k.w) A (dictGet p.1 key) Q E σ.s:=by
 cases O with
 |of es c L e l D h r=>
  unfold dictGet;try with_reducible refine Be ?_
  refine da<|DC z s u<|da<|DB u h l D r z s ?_;rw[tV]at J N
  cases H:tU d x with
  |none=>rw[H]at J;exact e5<|J rfl _|some j=>
   refine bC λG=>?_;obtain⟨v,m⟩:=j1 H;obtain⟨y,Y,b,f,a⟩:=r.get m;refine G<|da<|wpAny_dictEntries (show(σ.tk _).heap.get? p.1=_ from h) rfl ?_
   rw[show es[j]?=some y from p8.symm.trans Y]
   exact e5<|N v y.val (by rw[H];exact(cg (Option.map Prod.snd) m)) f _
def Kp(r:SR k σ)(Y:σ.g[i]?=some p) (O:oj k σ p kd d) (U:A.units+12<cLine) (H:keyOk kd x=true) (s:RV σ x key) (l:RV σ v val) (L:d.length<cn)
 (h:∀s',Af k σ (σ.t i (.dict kd<|dput d x v) s')->Q () s'):wpAny (model k.prog k.w) A (dictSet p.1 key val) Q E σ.s:=by
 cases O with
 |of es ep I e c N m z=>
  have M:es.size<=sizeLine:=tW<|(xC (xs:=es)).symm.trans z.len▸I
  have fin:∀(f:Obj->Obj) y T,(σ.s.heap.update p.1 f).get? p.1=some {cls:=.type "dict",dict:=none,data:=.dict y T,slots:=#[]}->fh k.w σ (dput d x v) y.toList->∀tk,Q () {σ.s with heap:=σ.s.heap.update p.1 f,toks:=tk}:=λf y T J D tk=>by
   have same:Heap.SameBut p.1 σ.s.heap (σ.s.heap.update p.1 f):=Cp _ _ _
   exact h _ (r.set (o:=.dict kd<|dput d x v) (s':={σ.s with heap:=σ.s.heap.update p.1 f,toks:=tk}) Y (λb o hb zz e=>(same.2 b hb).trans e) ⟨rfl,rfl,rfl⟩ λu=>
    .of y T (c0 (pI d x v) L) e (Bn (p:=λv=>keyOk kd v=true) H c) (yJ N) J (D.on u))
  unfold dictSet
  try with_reducible refine Be ?_
  refine da<|DC H s U ?_
  unfold dictSetHashed
  try with_reducible refine Be ?_
  refine da<|DB U m c N z H s ?_
  have G:=z3 d x v N
  cases a:tU d x with|none=>rw[a]at G;refine da<|wpAny_rule<|wpAny_updateDictKeys (hz:=M) (show(σ.tk _).heap.get? p.1=_ from m) rfl (fin _ (es.push ⟨cm k.w x,key,val⟩) (ep+1) (Heap.get?_update_self _ m rfl) ?_ _);rw[G,Array.toList_push];exact z.snoc s l rfl|some j=>rw[a]at G;refine da<|wpAny_rule<|da<|wpAny_updateDict (show(σ.tk _).heap.get? p.1=_ from m) rfl (wpAny_point<|fin _ (es.modify j λe=>{e with val:=val}) ep (Heap.get?_update_self _ m rfl) ?_ _);rw[G,Array.toList_modify];exact z.modify l j
def Us(r:SR k σ)(H:σ.g[i]?=some p) (O:oj k σ p kd d) (u:A.units+20<cLine) (y:keyOk kd x=true) (z:RV σ x key)
 (h:∀t,Q (bR d x)<|σ.tk t):wpAny (model k.prog k.w) A (contains (.ref p.1) key) Q E σ.s:=by
 have T:=O.type;unfold contains;try with_reducible refine Be ?_
 refine da<|xD T slot_dict_contains.lookup ?_;show wpAny _ _ (if(some (Value.builtin "dict.__contains__")==some Value.none)=true then _ else _) _ E _;rw[ej<|by rw[beq_builtin_none];exact nI]
 refine da (wpAny_callSpecialUnlessNone?_slot (name:=Str.ofString "__contains__") T slot_dict_contains
  (x3 slot_dict_contains T entry_dict_contains ?_<|args_dict_contains _ _));show wpAny _ _ (dictGet p.1 key>>=_) _ _ _;rw[Dz]at h;refine da<|Ko O (NQ u) y z (λJ t=>?_) λv val s m t=>?_
 .rw[J]at h;show wpAny _ _ (Builtin.Dict.pendingKey? p.1 key>>=_) _ _ _;exact da<|wpAny_pendingKey_other (r.en H)<|e5 ⟨_,rfl,CQ<|h _⟩
 .rw[s]at h;exact e5 ⟨_,rfl,CQ<|h _⟩
def NS(O:oj k σ p kd d)(u:A.units+20<cLine)(y:keyOk kd x=true)(z:RV σ x key)(H:bI d x=some v)
 (h:∀val t,RV σ v val->Q val (σ.tk t)):wpAny (model k.prog k.w) A (getItem (.ref p.1) key) Q E σ.s:=by
 have T:=O.type;unfold getItem;try with_reducible refine Be ?_
 refine da (wpAny_sequenceKey T (by decide) (da (wpAny_callSpecial?_slot (name:=Str.ofString "__getitem__") T slot_dict_getitem
  (x3 slot_dict_getitem T entry_dict_getitem ?_<|args_dict_getitem _ _))));exact da (m:=dictGet p.1 key)<|Ko O (NQ u) y z (λJ=>nomatch J.symm.trans H) λs val G l t=>e5 ⟨val,rfl,e5<|h val t<|dR (H.symm.trans G)▸l⟩
def DD(r:SR k σ)(H:σ.g[i]?=some p) (O:oj k σ p kd d) (u:A.units+20<cLine) (y:keyOk kd x=true) (z:RV σ x key) (l:RV σ v val) (L:d.length<cn)
 (h:∀s',Af k σ (σ.t i (.dict kd<|dput d x v) s')->Q () s'):wpAny (model k.prog k.w) A (setItem (.ref p.1) key val) Q E σ.s:=by
 have T:=O.type;unfold setItem;try with_reducible refine Be ?_
 refine da (wpAny_sequenceKey T (by decide) (da (wpAny_callSpecial?_slot (name:=Str.ofString "__setitem__") T slot_dict_setitem
  (x3 slot_dict_setitem T entry_dict_setitem ?_<|args_dict_setitem _ _ _))));refine da (m:=Builtin.Dict.notOrdered "__setitem__" ⟨[.ref p.1,key,val],[]⟩)<|wpAny_notOrdered_dict T ?_;exact da (m:=dictSet p.1 key val)<|Kp r H O (NQ u) y z l L λs' a=>e5 ⟨.none,rfl,e5<|h s' a⟩
def NT(r:SR k σ)(H:σ.g[i]?=some p) (O:oj k σ p kd d) (u:A.units+20<cLine) (y:keyOk kd x=true) (s:RV σ x key) {dflt:Value} (hz:RV σ z dflt)
 (h:∀val t,RV σ ((bI d x).getD z) val->Q val (σ.tk t)):wpAny (model k.prog k.w) A (PySem.call (.builtin "dict.get") [.ref p.1,key,dflt]) Q E σ.s:=by
 refine x3 F.slot_dict_get O.type F.entry_dict_get (da (m:=dictGet p.1 key)<|Ko O (NQ u) y s (λJ t=>?_) λv val l j t=>?_)<|F.args_dict_get_3 _ _ _
 .rw[J]at h;exact da (m:=Builtin.Dict.missed p.1 key)<|wpAny_missed_other (r.en H)<|e5 ⟨dflt,rfl,h dflt t hz⟩
 .rw[l]at h;exact e5 ⟨val,rfl,h val t j⟩
def NU(r:SR k σ)(T:σ.g[i]?=some p) (O:oj k σ p kd d) (U:A.units+12<cLine) (l:keyOk kd x=true) (f:RV σ x key) (H:bI d x=some v)
 (h:∀e s',Af k σ (σ.t i (.dict kd<|dV d x) s')->RV (σ.t i (.dict kd<|dV d x) s') v e.val->Q (some e) s'):wpAny (model k.prog k.w) A (Builtin.Dict.takeOut p.1 key) Q E σ.s:=by
 cases O with
 |of es ep L e c N m z=>
  have M:es.size<=sizeLine:=tW<|(xC (xs:=es)).symm.trans z.len▸L;unfold Builtin.Dict.takeOut;try with_reducible refine Be ?_
  refine da<|DC l f U<|da<|DB U m c N z l f ?_;rw[tV]at H
  cases s:tU d x with
  |none=>rw[s]at H;injection H|some j=>
   rw[s]at H;refine bC λJ=>?_;obtain⟨v',G⟩:=j1 s;obtain rfl:=dR<|(cg (Option.map Prod.snd) G).symm.trans H;obtain⟨y,I,q1,D,q3⟩:=z.get G
   refine J ?_;have Y:es[j]?=some y:=p8.symm.trans I
   refine da<|wpAny_dictEntries (show(σ.tk _).heap.get? p.1=_ from m) rfl ?_
   rw[Y]
   refine da<|wpAny_updateDictKeys (hz:=M) (show(σ.tk _).heap.get? p.1=_ from m) rfl (e5 ?_)
   have same:Heap.SameBut p.1 σ.s.heap (σ.s.heap.update p.1<|Obj.mapDictKeys (·.eraseIdxIfInBounds j)):=Cp _ _ _
   have e2:(es.eraseIdxIfInBounds j).toList=es.toList.eraseIdx j:=by rw[Array.eraseIdxIfInBounds,dif_pos (Array.getElem?_eq_some_iff.1 Y).1,Array.toList_eraseIdx]
   have a:=r.set (o:=.dict kd<|dV d x) (s':={σ.s with heap:=σ.s.heap.update p.1<|Obj.mapDictKeys (·.eraseIdxIfInBounds j),toks:=σ.s.toks+fm x}) T (λb o hb zz e=>(same.2 b hb).trans e) ⟨rfl,rfl,rfl⟩ λu=>
    .of (es.eraseIdxIfInBounds j) (ep+1) (c0 (fe _ _) L) e (λe he=>c e (gS.1 he).1) (N.sublist<|rl.map _) (Heap.get?_update_self _ m rfl)
     (by rw[e2];exact((z4 d x N j s).symm▸z.erase j:fh k.w σ (dV d x) _).on u)
   exact h y _ a<|D.on a.up
def QM(r:SR k σ)(H:σ.g[i]?=some p) (O:oj k σ p kd d) (u:A.units+20<cLine) (y:keyOk kd x=true) (D:(keyPart key).isSome=true) (z:RV σ x key) (s:bI d x=some v)
 (h:∀val s',Af k σ (σ.t i (.dict kd<|dV d x) s')->RV (σ.t i (.dict kd<|dV d x) s') v val->Q val s'):wpAny (model k.prog k.w) A (PySem.call (.builtin "dict.pop") [.ref p.1,key]) Q E σ.s:=by
 have T:=O.type;refine x3 F.slot_dict_pop T F.entry_dict_pop ?_<|F.args_dict_pop_2 _ _;unfold Builtin.«dict.pop»;refine da ?_;unfold Builtin.Dict.keyAndDefault;exact da<|wpAny_notOrdered_dict T<|e5 (a:=(p.1,key,none))<|zY D<|da<|e5<|lC nI<|da<|NU r H O (NQ u) y z s λe s' a l=>lC nI<|da<|wpAny_letGo<|e5 ⟨e.val,rfl,h e.val s' a l⟩
end
end
section
open PySem.SeqAt
theorem z6:∀{l:List V} {v:V},v∈l->V.dp v<=V.jB l
 |_::_,_,.head _=>Nat.le_max_left _ _|_::_,_,.tail _ h=>c0 (z6 h)<|Nat.le_max_right _ _
section
variable{k:Cx}{σ:Sg}{A:Around}{E K:Value->Shared->Prop}{x y v:V}{vx vy:Value}{l:List V}{b:Bool}
open Classical in
def Pv(σ:Sg)(x:V)(y:Value):Bool:=decide (RV σ x y)
def DF(h:V.fU v x=true)(r:RV σ v vy):Pv σ x vy=decide (v=x):=nX.2 ⟨λq=>RV.inj _ _ _ h r q,λe=>e▸r⟩
theorem DG:∀{l:List V} {xs:List Value},aN σ l xs->(∀v∈l,V.fU v x=true)->xs.any (Pv σ x)=decide (x∈l)
 |[],_,r,_=>by obtain rfl:=r;rfl
 |v::l,_,r,h=>r.bp λy Y H z=>by rw[List.any_cons,DF (h v<|.head _) H,DG z λv m=>h v<|.tail _ m];exact Bool.eq_iff_iff.2<|by rw[wq,decide_eq_true_iff,decide_eq_true_iff,decide_eq_true_iff,lq,eq_comm]
theorem aN.mem:∀{l:List V} {xs:List Value},aN σ l xs->∀y∈xs,∃v∈l,RV σ v y
 |[],_,r,y,m=>by obtain rfl:=r;cases m
 |v::l,_,r,y,m=>by
  refine bC λG=>?_;obtain⟨z,zs,h,s,rfl⟩:=r
  refine G ?_;cases m with|head=>exact⟨v,.head _,h⟩|tail _ m=>obtain⟨v,a,b⟩:=s.mem y m;exact⟨v,.tail _ a,b⟩
def DH{xs:Array Value}(s:aN σ l xs.toList)(h:(l.all (V.fU · x)&&decide (V.jB l<=8))=true)(u:A.units+40<cLine)(p:RV σ x vx):(∀y,y∈xs->EqAt A.in1 σ.s y vx (Pv σ x y))/\xs.any (Pv σ x)=decide (x∈l):=
 aI h λH j=>by have H:=ft.1 H;refine⟨λy m=>?_,(Array.any_toList).symm.trans<|DG s H⟩;refine bC λG=>?_;obtain⟨v,mv,z⟩:=s.mem y<|Array.mem_toList_iff.2 m;refine G ?_;rw[DF (H v mv) z];exact(MA v x (H v mv) (dS (ih (c0 (z6 mv)<|c0 (dk j) (by decide:8<=39)) _)<|Nat.add_assoc A.units 1 39▸u) z p).1
def ew [Decidable c]{a b:α}(h:(if c then some a else none)=some b):c/\a=b:=by
 by_cases q:c;.rw[er q]at h;exact⟨q,dR h⟩
 .rw[ej q]at h;exact nomatch h
def DI(N:Bool)(h:MY x y σ.H=some b)(p:∀i,y≠ .ref i)(H:A.units+40<cLine)(z:RV σ x vx)(Y:RV σ y vy)(q:K (.bool<|cond N (!b) b) σ.s):wpAny (model k.prog k.w) A (compareOp (cond N .NotIn .In) vx vy) K E σ.s:=by
 cases y with
 |lst l=>
  obtain⟨a,n,m,_,rfl,_,ht,s⟩:=Y;obtain⟨c,rfl⟩:=ew h;obtain⟨e,u⟩:=DH (A:=A) s c H z
  cases N with|false=>exact in_listAt _ (lp (n:=n) ht) e<|u▸q|true=>exact notIn_listAt _ (lp (n:=n) ht) e<|u▸q
 |tup l=>
  obtain⟨a,n,m,_,rfl,_,ht,s⟩:=Y;obtain⟨c,rfl⟩:=ew h;obtain⟨e,u⟩:=DH (A:=A) s c H z
  cases N with|false=>exact in_tupleAt _ ⟨_,ht,rfl,n,rfl⟩ e<|u▸q|true=>exact notIn_tupleAt _ ⟨_,ht,rfl,n,rfl⟩ e<|u▸q
 |ref i=>exact absurd rfl (p i)|_=>injection h
def Rc.use(h:Rc A σ.s vx vy b)(N:Bool)(q:K (.bool<|cond N (! b) b) σ.s):wpAny (model k.prog k.w) A (compareOp (cond N .NotEq .Eq) vx vy) K E σ.s:=by
 induction N using Bool.casesOn with|false=>exact h.1 _ _ _ _ q|true=>exact h.2 _ _ _ _ q
noncomputable def pJ:V->Str
 |.str l=>⟨l.toArray⟩|_=>⟨#[]⟩
def yL{a b:V}(H:isStr a=true)(z:isStr b=true)(h:pJ a=pJ b):a=b:=by obtain⟨i,rfl⟩:=pG H;obtain⟨j,rfl⟩:=pG z;exact cg V.str<|List.toArray_inj<|Str.mk.inj h
theorem strPairs(prog:Program):∀{d:List (V×V)} {l:List DictEntry},fh w σ d l->(∀e∈d,isStr e.1=true)->∃N:List<|Str×Value,Pairs (PySem.strKind prog w) l N/\N.map (·.1)=d.map λe=>pJ e.1
 |[],_,r,_=>by obtain rfl:=r;exact⟨[],.nil,rfl⟩
 |e::d,_,r,H=>by refine bC λG=>?_;obtain⟨y,Y,z,i,T,s,rfl⟩:=r;obtain⟨N,Q,p⟩:=strPairs prog s λe m=>H e<|.tail _ m;obtain⟨j,q⟩:=pG<|H e<|.head _;refine G<|⟨(pJ e.1,y.val)::N,.cons ?_ rfl Q,cg _ p⟩;rw[q]at z⊢;refine bC λG=>?_;obtain⟨u,_,e⟩:=z;refine G ?_;rw[e];exact Fe<|pJ<|.str j
def ou(prog:Program)(O:oj k σ p .str d):∃N:List<|Str×Value,σ.s.heap.DictOf (PySem.strKind prog k.w) p.1 N/\N.length=d.length:=by
 cases O with
 |of es i L e H D h r=>
  obtain⟨N,Q,s⟩:=strPairs prog r H;refine⟨N,⟨_,es,i,h,⟨rfl,rfl,rfl⟩,rfl,λe f=>?_,Q,?_⟩,(a9 ..).symm.trans<|(cg List.length s).trans<|a9 ..⟩
  .refine bC λG=>?_;obtain⟨c,Y,z,m⟩:=r.mem e<|Array.mem_toList_iff.mpr f;obtain⟨j,q⟩:=pG<|H c Y;rw[q]at z m;obtain⟨u,_,e⟩:=z;exact G<|⟨⟨j.toArray⟩,by rw[e];exact Fe (⟨j.toArray⟩:Str),m⟩
  .rw[s];exact List.pairwise_map.2<|(List.pairwise_map.1 D).imp_of_mem λa M ne q=>ne<|yL (H _ a) (H _ M) q
def DJ(N:Bool)(h:IS x y=some b)(u:A.units+40<cLine)(z:RV σ x vx)(Y:RV σ y vy)(q:K (.bool<|cond N (!b) b) σ.s):wpAny (model k.prog k.w) A (compareOp (cond N .NotEq .Eq) vx vy) K E σ.s:=by have c:=(ew h).1;refine cL (ew h).2 ?_ q;exactλq=>aI c λs f=>(MA x y s (dS (ih (c0 (dk f)<|by decide) _) u) z Y).2.use N q
def vO(N:Bool)(h:MX x y σ.H=some b)(r:SR k σ)(u:A.units+40<cLine)(e:RV σ x vx)(Y:RV σ y vy)(q:K (.bool<|cond N (! b) b) σ.s):wpAny (model k.prog k.w) A (compareOp (cond N .NotEq .Eq) vx vy) K E σ.s:=by
 cases x with
 |ref i=>
  refine e.rf λp z=>?_;clear e
  cases y with
  |lst l=>
   refine zL h λo H h=>?_
   cases o with
   |list m=>
    refine Y.jQ λa n vs _ _ ht Q=>?_
    cases r.rd z H with|of n' ws _ _ h3 O=>have c:=(ew h).1;rw[<-(ew h).2]at q;exact aI c λs f=>(vI h3 ht O Q (dS (ql _ _) u)<|GV m l (A:=A.in1) s (dS (ih (c0 (dk f) (by decide:8<=39)) _)<|Nat.add_assoc A.units 1 39▸u) O Q).use N q
   |_=>injection h
  |ref j=>
   refine Y.rf λp' M=>zL h λo H h=>?_
   cases o with
   |dict kd d=>
    refine zL h λo' U h=>?_
    cases o' with
    |dict V4 d'=>
     have c:=(ew h).1;rw[<-(ew h).2]at q;refine bG c λs f c3=>?_;rw[dk s]at H;rw[dk f,mi.1 c3]at U;refine bC λzG=>?_;obtain⟨T,L,J⟩:=ou k.prog<|r.rd z H;obtain⟨kb,D,I⟩:=ou k.prog<|r.rd M U;rw[List.eq_nil_of_length_eq_zero I]at D;refine zG ?_;have G:(T.length==([]:List<|Str×Value).length&&true)=d.isEmpty:=by rw[J];rcases d<;>rfl
     have hits:T.length=([]:List<|Str×Value).length->KeqHits A.in1 σ.s [] T true:=λhl=>by rw[List.eq_nil_of_length_eq_zero hl];exact .nil
     have hu':A.units<cLine:=dS (ql _ _) u;clear h H U c s f c3 J I kb
     induction N using Bool.casesOn with|false=>exact keq_eq (r.en z) (r.en M) L D hu' hits<|by rw[G];exact q|true=>exact keq_ne (r.en z) (r.en M) L D hu' hits<|by rw[G];exact q
    |_=>injection h
   |_=>injection h
  |_=>injection h
 |_=>exact DJ N h u e Y q
def vP(u:RV σ x vx):(vx==Value.none)=gI x:=by
 induction x using V.casesOn with
 |none=>obtain rfl:=u;rfl
 |bool b=>obtain rfl:=u;rfl
 |int i=>obtain⟨t,rfl⟩:=u;rfl
 |str l=>obtain⟨t,_,rfl⟩:=u;rfl
 |bytes l=>obtain⟨t,_,rfl⟩:=u;rfl
 |tup l=>exact u.f0 λz z z z z z z=>rfl|lst l=>exact u.jQ λz z z z z z z=>rfl|ref i=>exact u.rf λz z=>rfl
def GY{Q:Bool->Prop}(N:Bool)(w:wO (k8 (cond N .ne .eq) x y σ.H) Q)(r:SR k σ)(u:A.units+40<cLine)(s:RV σ x vx)(Y:RV σ y vy)(p:∀b,Q b->K (.bool b) σ.s):wpAny (model k.prog k.w) A (compareOp (cond N .NotEq .Eq) vx vy) K E σ.s:=by
 induction N using Bool.casesOn with
 |false=>obtain⟨h,z⟩:=(show wO (MX x y σ.H) Q from w);exact vO false h r u s Y<|p _ z
 |true=>obtain⟨h,z⟩:=(show wO ((MX x y σ.H).map (!·)) Q from w);exact Gm h λc H e=>vO true H r u s Y<|p _<|e▸z
def DK{Q:Bool->Prop}(N:Bool){f:Bool->Bool}(H:∀b,f b=cond N (! b) b)(w:P4 (cond N .ne .eq) x y σ.H f Q)(r:SR k σ)(u:A.units+40<cLine)(z:RV σ x vx)(Y:RV σ y vy)(p:∀b,Q b->K (.bool b) σ.s):wpAny (model k.prog k.w) A (compareOp (cond N .NotEq .Eq) vx vy) K E σ.s:=by
 cases x with|int a=>exact rt w λb e w=>(MA (.int a) y (by rw[fE e];rfl) (dS (ql _ _) u) z Y).2.use N<|by rw[fE e,Du λs s=>V.int.inj,<-H];exact p _ w|str a=>exact rt w λb e w=>(MA (.str a) y (by rw[kW e];rfl) (dS (ql _ _) u) z Y).2.use N<|by rw[kW e,Du λs s=>V.str.inj,<-H];exact p _ w|_=>exact GY N w r u z Y p
def GZ{Q:Bool->Prop}(N:Bool)(w:wO (k8 (cond N .c8 .isin) x y σ.H) Q)(u:A.units+40<cLine)(s:RV σ x vx)(Y:RV σ y vy)(p:∀b,Q b->K (.bool b) σ.s)(ne:∀i,y≠ .ref i):wpAny (model k.prog k.w) A (compareOp (cond N .NotIn .In) vx vy) K E σ.s:=by
 induction N using Bool.casesOn with
 |false=>obtain⟨h,z⟩:=(show wO (MY x y σ.H) Q from w);exact DI false h ne u s Y<|p _ z
 |true=>obtain⟨h,z⟩:=(show wO ((MY x y σ.H).map (!·)) Q from w);exact Gm h λc H e=>DI true H ne u s Y<|p _<|e▸z
set_option tactic.hygienic true in
def DM{Q:Bool->Prop}(N:Bool){f:Bool->Bool}(H:∀b,f b=cond N (!b) b)(w:P5 (cond N .c8 .isin) x y σ.H f Q)(r:SR k σ)(u:A.units+40<cLine)(s:RV σ x vx)(Y:RV σ y vy)(q:∀b t,Q b->K (.bool b) (σ.tk t)):wpAny (model k.prog k.w) A (compareOp (cond N .NotIn .In) vx vy) K E σ.s:=by
 cases y with
 |ref i=>
  refine Y.rf λp m=>?_;obtain⟨h,z⟩:=(show wO _ _ from w);rename_i o
  cases o with
  |dict D d=>
   refine vG z λj z=>?_;have c:=λ(Q:Bool->Shared->Prop) e=>Us (A:=A) (E:=E) (Q:=Q) r m (r.rd m h) (dS (ih (by decide) _) u) j s e;clear w
   induction N using Bool.casesOn with|false=>exact da<|c _ λt=>e5<|q _ t<|(show f (bR d x)=bR d x from H _)▸z|true=>exact da<|c _ λt=>e5<|q _ t<|(show f (bR d x)=!bR d x from H _)▸z
  |_=>exact False.elim z
 |_=>exact GZ N w u s Y (λb=>q b σ.s.toks) nofun
def lI{op:CG}{Q:Bool->Prop}(w:yr op x y σ.H Q)(r:SR k σ)(H:A.units+40<cLine)(u:RV σ x vx)(Y:RV σ y vy)(q:∀b t,Q b->K (.bool b) (σ.tk t)):wpAny (model k.prog k.w) A (compareOp (yx op) vx vy) K E σ.s:=by
 have p:∀b,Q b->K (.bool b) σ.s:=λb=>q b σ.s.toks
 induction op using CG.casesOn with|eq=>exact DK false (λz=>rfl) w r H u Y p|ne=>exact DK true (λz=>rfl) w r H u Y p|isin=>exact DM false (λz=>rfl) w r H u Y q|c8=>exact DM true (λz=>rfl) w r H u Y q|lt=>exact yF u Y w λz z z z w=>lt_int<|p _ w|le=>exact yF u Y w λz z z z w=>le_int<|p _ w|gt=>exact yF u Y w λz z z z w=>gt_int<|p _ w|ge=>exact yF u Y w λz z z z w=>ge_int<|p _ w|IQ=>exact vG w λh w=>by cases fF h;cases Y;exact is_none<|vP u▸p _ w|oQ=>exact vG w λh w=>by cases fF h;cases Y;exact isNot_none<|vP u▸p _ w
end
end
section
open PySem.SeqAt
def QN(h:n<=sizeLine):(n:Int)<2^63:=Int.lt_of_le_of_lt (xt.2 (xf▸h:n<=16777216))<|by decide
def Jd(h:n<=sizeLine):¬(n:Int)≥2^63:=Int.not_le.2<|QN h
def Je{i n:Int}(h:i<0):i+n<n:=by have h:=Int.add_lt_add_right h n;rw[Int.zero_add]at h;exact h
def idx_eq{n:Nat}(h:idx n i=some j):j<n/\((0<=i/\j=i.toNat)\/(i<0/\-(n:Int)<=i/\j=(i+n).toNat)):=by
 unfold idx at h;split at h;.rename_i c;obtain rfl:=dR h;exact⟨(Int.toNat_lt c.1).2 c.2,.inl ⟨c.1,rfl⟩⟩
 .obtain⟨c,rfl⟩:=ew h;exact⟨(Int.toNat_lt c.2).2<|Je c.1,.inr ⟨c.1,Int.le_of_sub_nonneg<|by rw[Int.sub_neg];exact c.2,rfl⟩⟩
def tX(h:idx n i=some j):seqIndex? i n=some j:=by
 obtain⟨H,⟨z,rfl⟩|⟨z,T,rfl⟩⟩:=idx_eq h
 .have N:¬i<0:=G7.2 z;have x:i<(n:Int):=(Int.toNat_lt z).1 H;simp[seqIndex?,N,z,x]
 .exact seqIndex_neg z T
def j3(h:idx n i=some j)(H:n<=sizeLine):-(2:Int)^63<=i/\i<2^63:=by
 have H:(n:Int)<=2^63:=xt.2<|c0 H (by rw[xf];decide:sizeLine<=2^63);obtain⟨y,⟨z,rfl⟩|⟨z,T,rfl⟩⟩:=idx_eq h;.exact⟨I8 (by decide) z,Int.lt_of_lt_of_le ((Int.toNat_lt z).1 y) H⟩
 .exact⟨I8 (Int.neg_le_neg H) T,Int.lt_trans z<|by decide⟩
section
variable{k:Cx}{σ:Sg}{A:Around}{E K:Value->Shared->Prop}{x y v:V}{vx vy:Value}{Q:V->Prop}
def pK{n d:Nat}(p:RV σ v val)(c:clamp n d v=some j):∃o:Option Int,IsPart val o/\o.elim d (clipAt n)=j:=by
 induction v using V.casesOn with
 |none=>obtain rfl:=p;exact⟨none,.none,dR c⟩
 |int i=>
  obtain⟨t,rfl⟩:=p;refine⟨some i,.int i t,?_⟩;have c:(if i<0 then some (i+n).toNat else some (min i.toNat n))=some j:=c;have:=clipAt_cast n i;show clipAt n i=j;split at c
  .rename_i H;obtain rfl:=dR c;rw[er H,Int.min_eq_left<|Int.le_of_lt<|Je H,Int.max_comm,<-Int.ofNat_toNat]at this;exact mj this
  .rename_i H;obtain rfl:=dR c;obtain⟨m,rfl⟩:=Int.eq_ofNat_of_zero_le<|G7.1 H;rw[ej H,Int.max_eq_right<|Int.le_min.2 ⟨wX _,wX _⟩]at this;show _=min m n;rcases Nat.le_total m n with h|h;.rw[Int.min_eq_left<|xt.2 h]at this;rw[GX h];exact mj this
   .rw[Int.min_eq_right<|xt.2 h]at this;rw[Nat.min_eq_right h];exact mj this
 |_=>injection c
def tY{α:Type}{l:List α}{i:V}{a:α}(h:GF l i=some a):∃n j,i=.int n/\idx l.length n=some j/\l[j]?=some a:=by refine bC λG=>?_;refine zL h λn H h=>?_;refine zL h λj z h=>?_;refine G ?_;exact⟨n,j,fE H,z,h⟩
def z7(p:l.length<=sizeLine)(z:IsL σ.s.heap a xs n)(s:aN σ l xs.toList)(h:GF l y=some v)(Y:RV σ y vy)(q:∀val,RV σ v val->K val σ.s):wpAny (model k.prog k.w) A (getItem (.ref a) vy) K E σ.s:=by
 refine bC λG=>?_;obtain⟨i,j,rfl,J,f⟩:=tY h;obtain⟨t,rfl⟩:=Y;obtain⟨val,H,u⟩:=s.get f
 refine G ?_;have H:xs[j]?=some val:=p8.symm.trans H
 have L:=j3 J p
 obtain⟨c,⟨m,rfl⟩|⟨m,e,rfl⟩⟩:=idx_eq J
 .exact wpAny_getItem_list (lp (n:=n) z) m L.2 H<|q _ u
 .exact wpAny_getItem_list_neg (lp (n:=n) z) m (s.size.symm▸e) L.1 (by rw[s.size];exact H)<|q _ u
def G0(h:oS x y σ.H=some v)(z:∀i,x≠ .ref i)(r:SR k σ)(s:RV σ x vx)(Y:RV σ y vy)(q:Q v)(kp:KP k σ Q K):wpAny (model k.prog k.w) A (getItem vx vy) K E σ.s:=by
 have big:∀{l:List Nat},l.length=1->l.length<=sizeLine:=λh=>h▸(by decide)
 induction x using V.casesOn with
 |lst l=>exact s.jQ λa n T L N e f=>z7 L e f h Y λb O=>kp v σ.s b r.here O q|tup l=>refine bC λG=>?_;clear z big;obtain⟨i,j,rfl,H,p⟩:=tY h;clear h;obtain⟨t,rfl⟩:=Y;obtain⟨a,n,T,L,rfl,N,e,f⟩:=s;obtain⟨b,M,J⟩:=f.get p;exact G<|P.getItem_tuple e (j3 H L).1 (j3 H L).2 (by rw[f.size];exact tX H) (p8.symm.trans M)<|kp v σ.s b r.here J q
 |str l=>clear z;obtain⟨c,U,rfl⟩:=y2.1 h;clear h;obtain⟨i,j,rfl,H,p⟩:=tY U;obtain⟨t,rfl⟩:=Y;obtain⟨u,L,rfl⟩:=s;have m:=j3 H L;refine PyProof.Rows.getItem_str (c:=c) (by rw[Bool.or_eq_false_iff,ly,ly];exact⟨G7.2 m.1,Int.not_le.2 m.2⟩) ?_<|kp _ _ _ (r.tok _) (.ss (l:=[c])<|big rfl) q;show(seqIndex? i l.toArray.size).bind _=_;rw[mF,tX H];exact List.getElem?_toArray.trans p
 |bytes l=>
  clear z big;obtain⟨c,U,rfl⟩:=y2.1 h;clear h;obtain⟨i,j,rfl,H,p⟩:=tY U;obtain⟨t,rfl⟩:=Y;obtain⟨u,L,rfl⟩:=s;have m:=j3 H L
  exact getItem_gives (typeIs_bytes σ.s _ u) (by decide) FB.slot_bytes_getitem FB.entry_bytes_getitem (FB.args_bytes_getitem_2 _ _) (gives_bytes_getitem _ i u t c (jT.2 ⟨eb m.1,eb m.2⟩)
   (by rw[mF,tX H];exact List.getElem?_toArray.trans p)) (kp _ _ _ (r.tok _) .ii q)
 |ref i=>exact absurd rfl (z i)|_=>injection h
set_option tactic.hygienic true in
def Bo(w:JT x y σ.H Q)(r:SR k σ)(U:A.units+40<cLine)(u:RV σ x vx)(Y:RV σ y vy)(kp:KP k σ Q K):wpAny (model k.prog k.w) A (getItem vx vy) K E σ.s:=by
 have g:wO (oS x y σ.H) Q->(∀i,x≠ .ref i)->wpAny (model k.prog k.w) A (getItem vx vy) K E σ.s:=λw m=>by obtain⟨h,q⟩:=w;exact G0 h m r u Y q kp
 cases x with
 |ref i=>
  clear g;obtain⟨p,s,rfl⟩:=u;obtain⟨h,w⟩:=(show wO _ _ from w);rename_i o
  induction o using Ob.casesOn with
  |dict D d=>exact vG w λj w=>by obtain⟨H,q⟩:=w;exact NS (r.rd s h) (dS (ih (by decide) _) U) j Y H λa t z=>kp _ _ _ (r.tok t) (z.on (r.tok t).up) q
  |list l=>obtain⟨n,e,L,_,T,f⟩:=r.rd s h;obtain⟨H,q⟩:=(show wO _ _ from w);exact z7 L T f H Y λa z=>kp _ σ.s a r.here z q
  |_=>exact False.elim w
 |_=>exact g w nofun
def Ku(l:List α)(i j:Nat):cut l i j=(l.drop i).take (j-i):=List.drop_take ..
def z8{lo H:V}(h:JR l lo H f=some v)(L:RV σ lo vl)(u:RV σ H vh):
 ∃O z:Option Int,IsPart vl O/\IsPart vh z/\v=f ((l.drop<|O.elim 0<|clipAt l.length).take<|z.elim l.length (clipAt l.length)-O.elim 0 (clipAt l.length)):=by
 refine bC λG=>zL h λi p h=>Gm h λj s h=>?_;obtain⟨O,m,rfl⟩:=pK L p;obtain⟨z,e,rfl⟩:=pK u s;exact G<|⟨O,z,m,e,h.symm.trans<|cg f<|Ku _ _ _⟩
def z9{α:Type}{l:List α}{n:Nat}:(l.drop n).length<=l.length:=by rw[ye];exact vC _ _
def Aa{α:Type}{l:List α}{i j:Nat}(h:l.length<=sizeLine):((l.drop i).take j).length<=sizeLine:=c0 (List.length_take_le' ..)<|c0 z9 h
def vQ{lo I:V}{U T:Value}{N:Addr}(h:c9 x lo I=some v)(q:Q v)(r:SR k σ)(s:RV σ x vx)(L:RV σ lo U)(H:RV σ I T)(p:σ.s.heap.IsSliceOf N U T .none)(kp:KP k σ Q K):wpAny (model k.prog k.w) A (getItem vx<|.ref N) K E σ.s:=by
 induction x using V.casesOn with
 |lst l=>refine bC λG=>?_;obtain⟨a,n,vs,hz,rfl,hn,e,M⟩:=s;obtain⟨O,J,b,Y,rfl⟩:=z8 h L H;refine G<|wpAny_getItem_list_slice (lp (n:=n) e) p b Y .none (by simp) ?_<|M.size▸hz;rw[slicePick_plain,M.size];have c:=r.GR (vs:=((vs.toList.drop<|O.elim 0<|clipAt l.length).take<|J.elim l.length (clipAt l.length)-O.elim 0 (clipAt l.length)).toArray) ((M.drop _).take _) (Aa hz) σ.s.toks rfl;exact kp _ _ _ c.1 c.2 q
 |tup l=>refine zL h λi h1 h'=>?_;clear h;obtain rfl:=fE h1;obtain⟨c,rfl⟩:=ew h';refine aI c λD f=>?_;clear c;obtain rfl:=fF D;have f:=dk f;refine bC λG=>?_;clear D;obtain⟨a,n,vs,hz,rfl,hn,e,M⟩:=s;obtain⟨t,rfl⟩:=L;obtain rfl:=H;obtain⟨m,rfl⟩:=Int.eq_ofNat_of_zero_le<|I8 (by decide) f.1;refine G ?_;have d:=r.GQ (vs:=(vs.toList.drop m).toArray) (M.drop m) (c0 z9 hz) σ.s.toks rfl;have:=xf;have z:=M.size;exact getItem_tuple_from ⟨_,e,rfl,n,rfl⟩ p (Ja [_] [⟨8,.n 1,.v 0⟩] ⟨0,.n 1,.v 0⟩ 1 [1] rfl f.1) (Ja [_,_,_] [⟨8,.v 0,.v 1⟩,⟨3,.v 2,.v 1⟩] ⟨0,.v 0,.v 2⟩ 1 [1,1] rfl f.2 z) (kp _ _ _ d.1 d.2 q)<|Ja [_,_] [⟨0,.v 0,.n 16777216⟩,⟨2,.v 1,.v 0⟩] ⟨0,.v 1,.n 16777216⟩ 1 [1,1] rfl hz z
 |bytes l=>
  refine bC λG=>?_;obtain⟨u,hz,rfl⟩:=s;obtain⟨O,J,b,Y,rfl⟩:=z8 h L H;refine G<|getItem_meets (typeIs_bytes _ _ _) (by decide) FB.slot_bytes_getitem FB.entry_bytes_getitem (FB.args_bytes_getitem_2 _ _) (KBc.meets_slice2 _ u _ b Y)
   ⟨p,c0 (KBc.size_picked_le _ _ _) hz,λt' j=>?_⟩;rw[KBc.picked_eq];exact kp _ _ _ (r.tok _) (.yy<|Aa hz) q
 |_=>injection h
end
end
noncomputable def QP:List Str->Bool
 |[]=>true|a::l=>!(l.any<|cq a)&&QP l
theorem rY:∀{l:List Str},QP l=true->l.Nodup
 |[],_=>List.nodup_nil|a::l,h=>aI h λH z=>EV.2 ⟨λm=>tq.1 (dK H)<|Hg.2 ⟨a,m,cZ⟩,rY z⟩
def NV:QP (yq.map Str.ofString)=true:=by decide+kernel
def Kv:(yq.all λn=>(Str.ofString n).cps.toList.all λc=>Nat.blt c 1114112)=true:=by decide+kernel
def tZ(l:List String)(s:Str):Bool:=l.all λn=>! cq (Str.ofString n) s
def Kw:tZ yq "__debug__"=true:=by decide+kernel
def Kx:tZ M4 "__debug__"=true:=by decide+kernel
def Ky:tZ M5 "__debug__"=true:=by decide+kernel
def yM{l:List String}{s:Str}{x:Nat}{n:String}(h:tZ l s=true)(e:l[x]?=some n):(Str.ofString n==s)=false:=
 BB.2 λq=>tq.1 (dK<|ft.1 h n<|nf e)<|q▸cZ
def lJ(h:yq[x]?=some n):aU x=Str.ofString n:=by unfold aU;rw[h]
def ij(h:yq[x]?=none):aU x=⟨#[1114112+x]⟩:=by unfold aU;rw[h]
def DO{x y:Nat}(h:yq[x]?=some n):Str.ofString n≠⟨#[1114112+y]⟩:=λq=>by
 have:=ft.1 (ft.1 Kv n<|nf h) (1114112+y)<|by rw[q];exact .head _
 exact absurd (hS this)<|Nat.not_lt.2<|ql _ _
def j4{x y:Nat}(h:aU x=aU y):x=y:=by
 cases H:yq[x]? with
 |some n=>cases Y:yq[y]? with
  |some k=>
   rw[lJ H,lJ Y]at h
   have g:∀{z:Nat} {m:String},yq[z]?=some m->(yq.map Str.ofString)[z]?=some (Str.ofString m):=λe=>(qa ..).trans<|cg (Option.map _) e
   obtain⟨lx,f⟩:=f5.1<|g H
   obtain⟨l,u⟩:=f5.1<|g Y
   exact(List.getElem_inj (h₀:=lx) (h₁:=l)<|rY NV).1<|f.trans<|h.trans u.symm
  |none=>rw[lJ H,ij Y]at h;exact absurd h<|DO H
 |none=>cases Y:yq[y]? with|some k=>rw[ij H,lJ Y]at h;exact absurd h.symm<|DO Y|none=>rw[ij H,ij Y]at h;exact Nat.add_left_cancel (ig<|cg Array.toList<|Str.mk.inj h).1
def j5(x:Nat):(aU x==("__debug__":Str))=false:=by
 cases k:yq[x]? with|some n=>rw[lJ k];exact yM Kw k|none=>rw[ij k];exact BB.2 λe=>absurd (cg (λs:Str=>s.cps.toList.length) e) (by decide+kernel:¬1=(("__debug__":Str)).cps.toList.length)
section
variable{k:Cx}{d:Nat}{F:Fr}{L:Loc}{σ:Sg}{A:Around}{E K:Value->Shared->Prop}{Q:VP}
def SR.ez(r:SR k σ)(h:k.B.heap.Ns a m):σ.s.heap.Ns a m:=h.keeps r.old
def SR.Sz(r:SR k σ):Up (gr k.B) σ:=⟨List.nil_prefix,λa o s n e z z=>⟨λh=>h.elim (λh=>aw e<|r.fresh a h) λh=>aw e (r.eh a h).2.2,r.old a o e⟩⟩
def eA(h:isVar ks n=true):ks.lookup n=some .local\/ks.lookup n=some .cell:=
 ((wq _ _).mp h).imp (λh=>(findS_eq n ks).symm.trans<|dk h) λh=>(findS_eq n ks).symm.trans<|dk h
def c6(h:pb ks n=true):ks.lookup n=some .globalImplicit:=(findS_eq n ks).symm.trans<|dk h
def ow(y:env.scope.kind=.function)(h:Bound env s.heap n val)(D:(n==("__debug__":Str))=false)(q:K val s):wpAny M A (eval (.Name n pos) env) K E s:=by
 rcases h with⟨H,m,N,p⟩|⟨H,c,z,p⟩;.exact wpAny_Name (wpAny_loadName_local y H N p q) D
 .exact wpAny_Name (wpAny_loadName_cell y H z p q) D
def yN(o:Ok k d F L σ)(p:pb F.env.scope.names n=true)(H:k.B.heap.Ns mainGlobals mg)(m:mg n=some val)(D:(n==("__debug__":Str))=false)(q:K val σ.s):
 wpAny (model k.prog k.w) A (eval (.Name n pos) F.env) K E σ.s:=
 I9 o.fr.kind (c6 p) (Calls.loadGlobal_global (o.fr.glob▸o.sr.ez H) m q) D
def isTrue_plain(h:plainT x=true)(env:Env)(l:Sem Value):isTrue x env l=(do let v<-l;standAt x.pos;holding [v] (truthy v)):=by
 induction x using Expr.casesOn with
 |UnaryOp o a p=>rcases o<;>first|rfl|exact ff h
 |_=>first|rfl|exact ff h
def G1(h:aG k d e)(H:yB e=false):nS k d e:=λF L σ x Q K ht z o w u=>
 lB (h F L σ x _ (λv s=>wpAny (model k.prog k.w) F.A (truthy v) K (λp p=>False) s) z o w λv m y a r w=>r.cz w λb w=>CQ<|u b m a w) (isTrue_plain ((wq _ _).mp ht|>.resolve_left (by rw[H];nofun)) _ _)
end
section
variable{k:Cx}{d:Nat}
def DP:aG k d (.int i):=λF L u x Q K h o w y=>lw h λc z z h=>by obtain rfl:=dk h;exact al<|wpAny_Constant_int<|y _ _ _ (o.sr.tok _) .ii w
def DQ:aG k d (.str l):=λF L u x Q K h o w y=>lw h λc z z h=>by obtain⟨rfl,H⟩:=A9 h;exact al<|wpAny_Constant_str<|y _ _ _ (o.sr.tok _) (.ss<|c0 (rh H)<|by decide) w
def DR:aG k d (.Mt l):=λF L s x Q K h o w y=>lw h λc z z h=>aI h λH u=>by obtain rfl:=dk H;exact al<|W.Constant_bytes<|y _ _ _ (o.sr.tok _) (.yy<|c0 (hS u)<|by decide) w
def Bp:aG k d .none:=λF L u x Q K h o w y=>lw h λc z z h=>by obtain rfl:=dk h;exact al<|wpAny_Constant_none<|y _ _ _ o.sr.here .nn w
def Bq:aG k d (.bool b):=λF L u x Q K h o w y=>lw h λc z z h=>by obtain rfl:=dk h;exact al<|wpAny_Constant_bool<|y _ _ _ o.sr.here .bb w
def DS:aG k d (.var y):=λF L l x Q K h o w z=>aI h λH u=>lz H λp s=>rt w λv e w=>by refine bC λG=>?_;obtain⟨a,b,m,_⟩:=o.fr.vars y v e<|eA s;exact G<|al<|ow o.fr.kind b (j5 y)<|z _ _ _ o.sr.here (m<|dk u) w
def Br:aG k d (.glob y):=λF L l x Q K h o w z=>rQ h λp H=>rt w λv e w=>by
 cases o.sr.base.ns with|of M b u j T=>obtain⟨a,s,m⟩:=T y v e;exact al<|yN o H u s (j5 y)<|z _ _ _ o.sr.here (m.on o.sr.Sz) w
def DT:aG k d (.neg i):=λF L m x Q K h o w u=>Qx h λc y p h=>aI h λH z=>lw z λc s s z=>by obtain rfl:=dk H;obtain rfl:=dk z;exact mP<|al<|wpAny_Constant_int<|PyProof.Rows.neg_int<|u _ _ _ (o.sr.tok _) .ii w
def DU(H:aG k d a)(y:aG k d b):aG k d (.bin op a b):=λF L u x Q K h o w s=>Qw h λl c r p h=>bG h λm j T=>by obtain rfl:=dk m;exact Bb<|H F L u l _ _ j o w λN i M z f w=>y F L i r _ _ T (o.on z) w λJ I G A e w=>Bj w A.sr (f.on A.up) e λv D Y U O q=>s v _ Y ((z.trans A).trans U) O q
def Ok.MD{k:Cx}{d:Nat}{F:Fr}{L:Loc}{σ:Sg}(o:Ok k d F L σ):F.A.units+40<cLine:=dS (ih (by decide:40<=100) _) o.rm.units
def vR{F:Fr}{L:Loc}{σ:Sg}{Q:Bool->Hp->Prop}{K:Value->Shared->Prop}(s:aG k d a)(p:aG k d b)(m:aV F.env.scope.names F.ac a l=true)(T:aV F.env.scope.names F.ac b r=true)(o:Ok k d F L σ)
 (w:wE (wC d) a L σ.H λx j=>wE (wC d) b L j λy H=>yr op x y H λv=>Q v H) (q:∀v σ',Af k σ σ'->Q v σ'.H->K (.bool v) σ'.s):
 WN k F.A (eval l F.env) (λx s₁=>aB (model k.prog k.w) F.A (eval r F.env) (λy M=>wpAny (model k.prog k.w) F.A (compareOp (yx op) x y) K (λz z=>False) M) (λz z=>False) s₁) σ.s:=
 s F L σ l _ _ m o w λN i c u f w=>p F L i r _ _ T (o.on u) w λJ I G A e w=>lI w A.sr o.MD (f.on A.up) e λv t w=>q v (I.w<|I.tk t) ((u.trans A).trans<|A.sr.tok t) w
def G2(A:aG k d a)(s:aG k d b):aG k d (.cmp op a b)/\nS k d (.cmp op a b):=by
 refine⟨λF L m x Q K h o w j=>GI h λl os i p h=>rg h λc h=>rg h λr h=>co h λH z y T=>?_,λF L m x Q K e h o w f=>GI h λl os i p h=>rg h λc h=>rg h λr h=>co h λH z y T=>?_⟩
 .obtain rfl:=dk H;exact tM (vR A s y T o w λv u a w=>j _ u _ a .bb w)<|dK z
 .obtain rfl:=dk H;exact iH (vR (Q:=Q) A s y T o w λv u a w=>CQ<|f v u a w)<|dK z
def DV(H:aG k d a):aG k d (.not a):=λF L z x Q K h o w u=>Qx h λc y p h=>bG h λs j m=>by obtain rfl:=dk s;exact mP<|H F L z y _ _ m o w λv i f A l w=>l.cz w λb w=>not_value<|CQ<|u _ _ _ A .bb w
def DW(A:nS k d a):nS k d (.not a):=λF L z x Q K j h o w u=>Qx h λc y p h=>bG h λs ht m=>by obtain rfl:=dk s;refine pq<|A F L z y (λb H=>Q (!b) H) _ ht m o w λb i l w=>u _ i l w
end
def SA(m:Bool)(z:cY)(l:Es)(L:Loc)(H:Hp)(Q:Bool->Hp->Prop):Prop:=match m with|true=>re z l L H Q|false=>Qs z l L H Q
def bA(h:isStar x=false)(e:List Expr)(env:Env):starEach (x::e) env=(false,eval x env)::starEach e env:=by rcases x<;>first|rfl|exact ff h.symm
noncomputable def Bs(m:Bool):BoolOp:=match m with|true=>.And|false=>.Or
section
variable(k:Cx)(d:Nat)
def NW(m:Bool)(l:Es):Prop:=∀F L z x Q K,vw l x=true->cB F.env.scope.names F.ac l x=true->Ok k d F L z->SA m (wC d) l L z.H Q->KB k z Q K->WN k F.A (allTrue (Bs m) x F.env) K z.s
def NX(m:Bool)(l:Es):Prop:=∀F L σ x (pos:Pos) Q K,x≠[]->cB F.env.scope.names F.ac l x=true->Ok k d F L σ->SA m (wC d) l L σ.H (λb H=>Q (.bool b) H)->KV k σ Q K->WN k F.A (boolOp pos (Bs m)<|evalEach x F.env) K σ.s
noncomputable def eO:Es->Prop
 |.nil=>True|.cons e r=>(aG k d e/\nS k d e)/\eO r
end
section
variable{k:Cx}{d:Nat}{m:Bool}
@[elab_as_elim] theorem pM {A B:Prop} {C:Bool->Prop} (h:gF b A B) (z:A->C true) (k2:B->C false):C b:=by
  cases h with
  |of H y=>cases b with|true=>exact z<|H rfl|false=>exact k2<|y rfl
@[elab_as_elim] theorem pO {C:List Expr->Prop} (h:cB ks ac (.cons e r) x=true) (k:∀y ys,isStar y=false->aV ks ac e y=true->cB ks ac r ys=true->C (y::ys)):C x:=by
  induction x using List.casesOn with|nil=>exact ff h|cons y ys=>exact bG (a:=!isStar y) h λH z u=>k y ys (dK H) z u
def il(h:cB ks ac .nil x=true):x=[]:=mi.1 h
theorem bB:∀{l:Es} {x:List Expr},cB ks ac l x=true->∀y∈x,isStar y=false
 |.nil,_,h,y,M=>by obtain rfl:=il h;cases M
 |.cons e r,_,h,y,M=>by
  revert M;refine pO h λz zs H s u M=>?_
  cases M with|head=>exact H|tail _ M=>exact bB u y M
theorem eO.bt:∀{l:Es},eO k d l->NW k d m l
 |.nil,_,F,L,σ,x,Q,K,ht,h,o,w,u=>by
  obtain rfl:=il h
  induction m using Bool.casesOn with|true=>exact iK<|u _ σ o.sr.here w|false=>exact jd (u _ σ o.sr.here w)
 |.cons e r,s,F,L,σ,x,Q,K,ht,h,o,w,u=>by
  revert ht;have H:=eO.bt s.2;refine pO h λy Y c p j ht=>aI (a:=I4 e y) ht λT f=>?_
  induction m using Bool.casesOn with|true=>exact gW<|s.1.2 F L σ y _ _ T p o w λb i z w=>pM w (λw=>H F L i Y Q K f j (o.on z) w λb I A w=>u b I (z.trans A) w) λw=>u false i z w|false=>exact iJ<|s.1.2 F L σ y _ _ T p o w λb i z w=>pM w (λw=>u true i z w) λw=>H F L i Y Q K f j (o.on z) w λb I A w=>u b I (z.trans A) w
def vS{E:Value->Shared->Prop}{e:List (Sem Value)}
 (h:aB M A x (λv s₁=>wpAny M A (truthy v) (λt a=>if t=m then aB M A (boolOp pos (Bs m)<|y::e) Q E a else Q v a) E s₁) E s):aB M A (boolOp pos (Bs m)<|x::y::e) Q E s:=by
 show aB M A (do
  let v<-x
  standAt pos
  let t<-holding [v] (truthy v)
  match Bs m,t with|.And,false|.Or,true=>pure v|_,_=>boolOp pos (Bs m)<|y::e) Q E s;refine ab<|ai h (λv s₁ H=>ab<|ak<|ab<|aj<|ai (al H) (λt a Y=>?_) λz z x=>x) λz z x=>x;rcases m<;>rcases t<;>first|exact Y|exact ag Y
theorem eO.bv:∀{l:Es},eO k d l->NX k d m l
 |.nil,_,F,L,σ,x,pos,Q,K,Y,h,o,w,u=>absurd (il h) Y|.cons e r,H,F,L,σ,x,pos,Q,K,Y,h,o,w,u=>pO h λy ys O p j=>by
  induction ys using List.casesOn with
  |nil=>
   cases r with|cons N M=>exact ff j|nil=>exact H.1.1 F L σ y _ K p o (show wE (wC d) e L σ.H λv U=>wM (cz v) λb=>gF b (Q (.bool true) U) (Q (.bool false) U) by rcases m<;>exact w) λv i A a s w=>s.cz w λb w=>u (.bool b) i _ a .bb<|pM w id id
  |cons z zs=>
   have T:=eO.bv H.2;refine vS ?_
   induction m using Bool.casesOn with|true=>exact H.1.1 F L σ y _ _ p o w λv i A a s w=>s.cz w λb w=>CQ<|pM w (λw=>T F L i (z::zs) pos Q K nofun j (o.on a) w λv I A f c w=>u v I A (a.trans f) c w) λw=>u _ i _ a .bb w|false=>exact H.1.1 F L σ y _ _ p o w λv i A a s w=>s.cz w λb w=>CQ<|pM w (λw=>u _ i _ a .bb w) λw=>T F L i (z::zs) pos Q K nofun j (o.on a) w λv I A f c w=>u v I A (a.trans f) c w
theorem eO.es:∀{l:Es},eO k d l->iR k d l
 |.nil,_,F,L,σ,x,pos,Q,K,h,o,w,z=>by obtain rfl:=il h;exact bM (z [] σ [] rfl o.sr.here .nil w)
 |.cons e r,s,F,L,σ,x,pos,Q,K,h,o,w,z=>by revert z;refine pO h λy Y H u p z=>bh (s.1.1 F L σ y _ _ u o w λv i j a f w=>eO.es s.2 F L i Y pos _ _ p (o.on a) w λc I b U A T w=>z (v::c) I (j::b) (cg (·+1) U) (a.trans A) (.cons (f.on A.up) T) w)<|bA H _ _
def snd_and(s:eO k d l):aG k d (.and l)/\nS k d (.and l):=
 ⟨λF L z x Q K h o w j=>mJ h λc Y p h=>co h λH y T u=>by obtain rfl:=dk H;rw[arm_eval_BoolOp];exact s.bv (m:=true) F L z Y p Q K (λe=>by rw[e]at y;injection y) u o w j,
 λF L z x Q K i h o w b=>mJ h λc Y p h=>co h λH y T u=>by
  obtain rfl:=dk H
  exact eW<|s.bt (m:=true) F L z Y Q K T u o w b⟩
def KA(s:eO k d l):aG k d (.or l)/\nS k d (.or l):=
 ⟨λF L z x Q K h o w j=>mJ h λc Y p h=>co h λH y T u=>by obtain rfl:=dk H;rw[arm_eval_BoolOp];exact s.bv (m:=false) F L z Y p Q K (λe=>by rw[e]at y;injection y) u o w j,
 λF L z x Q K i h o w b=>mJ h λc Y p h=>co h λH y T u=>by
  obtain rfl:=dk H
  exact eW<|s.bt (m:=false) F L z Y Q K T u o w b⟩
def DX(H:nS k d c)(f:aG k d a)(e:aG k d b):aG k d (.ite c a b):=λF L Y x Q K h o w j=>Uh h λt y z p h=>co h λht U T O=>
 Bc (H F L Y t _ _ ht U o w λq i A w=>pM w (λw=>f F L i y Q K T (o.on A) w λv I l u s w=>j v I l (A.trans u) s w) λw=>e F L i z Q K O (o.on A) w λv I l u s w=>j v I l (A.trans u) s w)
def pP{p q:CG}{a b c:E}{α:Type}{T:Value->Sem α}{K:α->Shared->Prop}{fin:Bool->Shared->Prop}{Y:Value->Value->Shared->Prop}{U:Value->Shared->Prop}{F:Fr}{L:Loc}{σ:Sg}{l j i:Expr}{Q:Bool->Hp->Prop}
 (ha:aG k d a) (hb:aG k d b) (hc:aG k d c) (hl:∀y b s,cond b (WN k F.A (T y) K s) (fin false s)->Y y (.bool b) s)
 (hr:∀y s,WN k F.A (eval i F.env) (λz s=>wpAny (model k.prog k.w) F.A (compareOp (yx q) y z) U (λf f=>False) s) s->WN k F.A (T y) K s) (hR:∀b s,fin b s->U (.bool b) s)
 (h1:aV F.env.scope.names F.ac a l=true) (h2:aV F.env.scope.names F.ac b j=true) (h3:aV F.env.scope.names F.ac c i=true) (o:Ok k d F L σ)
 (w:wE (wC d) a L σ.H λx H1=>wE (wC d) b L H1 λy H=>yr p x y H λv=>gF v (wE (wC d) c L H λz O=>yr q y z O λw=>Q w O)<|Q false H) (N:∀v σ',Af k σ σ'->Q v σ'.H->fin v σ'.s):
 WN k F.A (eval l F.env) (λx s₁=>WN k F.A (eval j F.env) (λy aM=>wpAny (model k.prog k.w) F.A (compareOp (yx p) x y) (Y y) (λf f=>False) aM) s₁) σ.s:=
 ha F L σ l _ _ h1 o w λva σ1 xa M q1 w=>hb F L σ1 j _ _ h2 (o.on M) w λvb I xb A J w=>lI w A.sr o.MD (q1.on A.up) J λv t w=>
  have G:=A.sr.tok t
  have e:=(M.trans A).trans G
  hl xb v _ (pM w (λw=>hr _ _<|hc F L (I.w<|I.tk t) i _ _ h3 (o.on e) w λvc D xc u q4 w=>lI w u.sr o.MD ((J.on G.up).on u.up) q4 λv t' w=>hR v _<|N v (D.w<|D.tk t') ((e.trans u).trans<|u.sr.tok t') w) λw=>N false (I.w<|I.tk t) e w)
def Bt{p q:CG}{a b c:E}(A:aG k d a)(N:aG k d b)(M:aG k d c):aG k d (.chain p q a b c)/\nS k d (.chain p q a b c):=by
 refine⟨λF L J x Q K h o w I=>GI h λl os rs p h=>vq h λu f h=>vq h λr1 r2 h=>co h λe j G h=>bG h λi Y T=>?_,λF L J x Q K z h o w kb=>GI h λl os rs p h=>vq h λu f h=>vq h λr1 r2 h=>co h λe j G h=>bG h λi Y T=>?_⟩
 .have U:u=_:=dk e;have D:f=_:=dk j;rw[D]at G;rw[U,D];refine jU (ai (pP (Q:=λb H=>Q (.bool b) H) (fin:=λb s=>K (.bool b) s) A N M (λy b s h=>?_) (λy s h=>pw (pos:=p) h) (λz z h=>h) i Y T o w λv O a w=>I _ O _ a .bb w) (λz z h=>pv h) λz z x=>x)<|dK G;exact CQ<|by rcases b<;>exact h
 .have U:u=_:=dk e;have D:f=_:=dk j;rw[D]at G;rw[U,D];refine lD (ai (pP (Q:=Q) (fin:=K) A N M (λy b s h=>?_) (λy s h=>rq (pos:=p) h) (λz z h=>CQ h) i Y T o w λv O a w=>kb _ O a w) (λz z h=>rk h) λz z x=>x)<|dK G;exact CQ<|by rcases b<;>exact h
def im(h:Nat.ble n 1000=true):n<=sizeLine:=c0 (hS h)<|by decide
def DY(u:iR k d l):aG k d (.tup l):=λF L s x Q K h o w j=>f0 h λY i p h=>aI h λH f=>
 rR (u F L s Y p _ _ f o w λvs b a e z y w=>
  have c:=z.sr.GQ (vs:=a.toArray) y (e▸im H) b.s.toks rfl
  ⟨y.len.symm▸e▸im H,j (.tup vs) _ _ (z.trans c.1) c.2 w⟩)
def SR.KC(m:Bool)(r:SR k σ)(h:aN σ l vs.toList)(H:l.length<=sizeLine)(w:JW m l σ.H Q)(t:Nat)(e:s'={σ.s with heap:=σ.s.heap.push {cls:=.type "list",data:=.seq vs},toks:=t})
 {K:Value->Shared->Prop} (y:KV k σ Q K):K (.ref σ.s.heap.objs.size) s':=by
 induction m using Bool.casesOn with
 |false=>have c:=r.GR h H t e;exact y _ _ _ c.1 c.2 w|true=>
  subst e
  have a:=r.alloc (p:=(σ.s.heap.objs.size,σ.s.heap.objs.size)) (o:=.list l) (s':={σ.s with heap:=σ.s.heap.push {cls:=.type "list",data:=.seq vs},toks:=t}) (λz z e=>fz _ e) ⟨rfl,rfl,rfl⟩ (bj _) (bj _) λu=>
   .of 0 vs H rfl (hW _ rfl) (h.on u);exact y _ _ _ a (.rr<|Sg.rW r) w
def Bu{m:Bool}(s:iR k d l):aG k d (.cK m l):=λF L j x Q K h o w i=>listE h λY p h=>aI h λH f=>
 pr (s F L j Y p _ _ f o w λvs c b e z u w=>
  ⟨u.len.symm▸e▸im H,z.sr.KC m (vs:=b.toArray) u (e▸im H) w c.s.toks rfl λv I y A a w=>i v I y (z.trans A) a w⟩)
end
section
variable{k:Cx}{d:Nat}{σ:Sg}{A:Around}{E K:Value->Shared->Prop}{x y v:V}{vx vy:Value}{Q:V->Prop}
def ox(s:Shared)(vx:Value):Prop:=∃T id,typeLookup (.type T) "__getitem__"=pure (some<|.builtin id)/\s.TypeIs vx T
def f8(h:(∃l,x=.lst l)\/(∃l,x=.tup l)\/(∃l,x=.str l)\/∃l,x=.bytes l)(z:RV σ x vx):ox σ.s vx:=by
 rcases h with⟨l,rfl⟩|⟨l,rfl⟩|⟨l,rfl⟩|⟨l,rfl⟩;.obtain⟨a,n,s,_,rfl,_,H,_⟩:=z;exact⟨"list",_,slot_list_getitem.lookup,_,H,rfl⟩
 .obtain⟨a,n,s,_,rfl,_,H,_⟩:=z;exact⟨"tuple",_,F.slot_tuple_getitem.lookup,_,H,rfl⟩
 .obtain⟨t,_,rfl⟩:=z;exact⟨"str",_,slot_str_getitem.lookup,typeIs_str _ _ _⟩
 .obtain⟨t,_,rfl⟩:=z;exact⟨"bytes",_,FB.slot_bytes_getitem.lookup,typeIs_bytes _ _ _⟩
set_option tactic.hygienic true in
def G3(w:JT x y σ.H Q)(r:SR k σ)(z:RV σ x vx):ox σ.s vx:=by
 cases x with
 |ref i=>
  obtain⟨p,H,rfl⟩:=z;obtain⟨h,w⟩:=(show wO _ _ from w);rename_i o
  induction o using Ob.casesOn with
  |dict D d=>exact⟨"dict",_,slot_dict_getitem.lookup,oj.type<|r.rd H h⟩|list l=>obtain⟨n,s,L,_,T,u⟩:=r.rd H h;exact⟨"list",_,slot_list_getitem.lookup,_,T,rfl⟩
  |_=>exact False.elim w
 |lst l=>exact f8 (.inl ⟨l,rfl⟩) z|tup l=>exact f8 (.inr<|.inl ⟨l,rfl⟩) z|str l=>exact f8 (.inr<|.inr<|.inl ⟨l,rfl⟩) z|bytes l=>exact f8 (.inr<|.inr<|.inr ⟨l,rfl⟩) z|_=>obtain⟨h,w⟩:=(show wO (oS _ y σ.H) Q from w);injection h
def Bv{lo H:V}(h:c9 x lo H=some v)(z:RV σ x vx):ox σ.s vx:=by
 induction x using V.casesOn with|lst l=>exact f8 (.inl ⟨l,rfl⟩) z|tup l=>exact f8 (.inr<|.inl ⟨l,rfl⟩) z|bytes l=>exact f8 (.inr<|.inr<|.inr ⟨l,rfl⟩) z|_=>injection h
def Ab{prog:Program}{value l:Expr}(H:ox s o)(h:wpAny (model prog w) A (getItem o i) K E s)(hs:subscripted l false o i=operate [o,i] (getItem o i)\/subscripted l false o i=operate [i,o] (getItem o i)):
 wpAny (model prog w) A (do
  let r<-subscripted l (<-getitemInPython o) o i
  letTemporaryGo value o r
  pure r) K E s:=by
 refine bC λG=>?_;obtain⟨T,id,L,H⟩:=H;refine G<|da ?_;rw[getitemInPython_of_ne H.not_modules];refine da<|xD H L ?_
 have fin:wpAny (model prog w) A (subscripted l false o i) (λr c=>wpAny (model prog w) A (letTemporaryGo value o r>>=λz=>pure r) K E c) E s:=by rcases hs with hs|hs<;>(rw[hs];exact wpAny_operating<|y1 h (λr c D=>da<|wpAny_letTemporaryGo<|e5 D) λz z x=>x)
 first
  |exact e5<|da fin|exact da<|e5<|da fin|exact da fin
def j6(h:isSlice z=false)(o i:Value):subscripted z false o i=operate [o,i] (getItem o i):=by rcases z<;>first|rfl|exact ff h.symm
def DZ(H:aG k d a)(I:aG k d i):aG k d (.sub a i):=λF L σ x Q K h o w l=>Di h λy z p h=>bG h λj f e=>by
 rw[eval_Subscript]
 exact ab (H F L σ y _ _ f o w λM c N s m w=>ab (aj (I F L c z _ _ e (o.on s) w λT J G u b w=>ab (ak (al (Ab (G3 w u.sr<|m.on u.up)
  (Bo w u.sr o.MD (m.on u.up) b λv D Y U O q=>l v _ Y ((s.trans u).trans U) O q) (.inl<|j6 (dK j) _ _)))))))
def pQ{F:Fr}{σ:Sg}{lo:Mine.E}{Q:VP}{K:Value->Shared->Prop}(N:aG k d lo)(h:J6 l lo (aV F.env.scope.names F.ac lo)=true)(o:Ok k d F L σ)(w:wE (wC d) lo L σ.H Q)(z:KV k σ Q K):WN k F.A (evalPart l F.env) K σ.s:=by
 induction l using Option.casesOn with
 |none=>induction lo using Mine.E.casesOn with
  |none=>exact eY<|z _ _ _ o.sr.here .nn w|_=>exact ff h
 |some q=>exact jV<|N F L σ q Q K h o w z
def yO{a lo H:Mine.E}(b:aG k d a)(N:aG k d lo)(Y:aG k d H):aG k d (.slice a lo H):=λF L σ x Q K h o w T=>Di h λy z p h=>aI h λO h=>J5 h λl u st p' h=>bG h λM J I=>by
 obtain rfl:=Option.isNone_iff_eq_none.1 M;rw[eval_Subscript];refine ab<|b F L σ y _ _ O o w λva σ1 xa s G w=>ab<|aj<|Bd<|pQ N J (o.on s) w λvl br D m r2 w=>pQ Y I (o.on<|s.trans m) w λvh c xh U r3 w=>eY<|ab<|ak ?_;obtain⟨f,q⟩:=w
 have j:=U.sr.push {cls:=.type "slice",data:=.fields #[D,xh,.none]} c.s.toks
 have i:=U.trans j
 have e:=(G.on m.up).on i.up
 exact al<|Ab (Bv f e) (vQ (Q:=λv=>Q v c.H) f q j.sr e (r2.on i.up) (r3.on j.up) (Heap.IsSliceOf.new ..) λv s' val a5 r5 q=>T v _ val (((s.trans m).trans i).trans a5) r5 q)<|.inr rfl
noncomputable def pairsOf(env:Env)(pos:Pos):List (Option Expr)->List Expr->List (Sem Value×Sem Value)
 |some k::s,v::z=>(eval k env,do let x<-eval v env;standAt pos;pure x)::pairsOf env pos s z
 |_,_=>[]
noncomputable def G4(σ:Sg):List (V×V)->List (Value×Value)->Prop
 |[],N=>N=[]|p::s,N=>∃z r,RV σ p.1 z.1/\RV σ p.2 z.2/\G4 σ s r/\N=z::r
theorem G4.on{σ σ':Sg}(u:Up σ σ'):∀{z:List (V×V)} {N:List (Value×Value)},G4 σ z N->G4 σ' z N
 |[],_,r=>r|p::z,_,r=>by obtain⟨s,t,H,m,T,rfl⟩:=r;exact⟨s,t,H.on u,m.on u,T.on u,rfl⟩
theorem G4.len{σ:Sg}:∀{z:List (V×V)} {N:List (Value×Value)},G4 σ z N->z.length=N.length
 |[],_,r=>by obtain rfl:=r;rfl
 |p::z,_,r=>by obtain⟨u,t,H,s,T,rfl⟩:=r;exact cg (·+1) T.len
def D3{k:List (Option Expr)}{v:List Expr}{C:List (Option Expr)->List Expr->Prop}(h:encD ks ac (.cons a<|.cons b r) k v=true)(f:∀x k' y v',aV ks ac a x=true->aV ks ac b y=true->encD ks ac r k' v'=true->C (some x::k') (y::v')):C k v:=by
 induction k using List.casesOn with
 |nil=>exact ff h|cons x k'=>induction x using Option.casesOn with
  |none=>exact ff h|some x=>
   refine aI (a:=aV ks ac a x) h λH h=>?_
   induction v using List.casesOn with|nil=>exact ff h|cons y v'=>exact aI (a:=aV ks ac b y) h λz T=>f x k' y v' H z T
def pR{k:List (Option Expr)}{v:List Expr}{C:Prop}(h:encD ks ac (.cons a .nil) k v=true):C:=by
 induction k using List.casesOn with
 |nil=>exact ff h|cons x z=>induction x using Option.casesOn with|none=>exact ff h|some x=>exact aI (a:=aV ks ac a x) h λu h=>ff h
def D4{k:List (Option Expr)}(h:encD ks ac l k []=true):l=.nil/\k=[]:=by
 cases l with
 |nil=>exact aI (a:=k.isEmpty) h λH z=>⟨rfl,mi.1 H⟩|cons a r=>induction r using Mine.Es.casesOn with|nil=>exact pR h|cons b r=>exact D3 (C:=λz v=>v=[]->_) h (λz z z z z z z e=>nomatch e) rfl
theorem mR:∀(l:Es) (k:List<|Option Expr) (v:List Expr),encD ks ac l k v=true->
 (evalEachOpt k env).zip ((evalEach v env).map λv=>do let x<-v;standAt pos;pure x)=(pairsOf env pos k v).map (λp=>(some p.1,p.2))/\(pairsOf env pos k v).length=v.length
 |.nil,k,v,h=>aI (a:=k.isEmpty) h λH z=>by obtain rfl:=mi.1 H;obtain rfl:=mi.1 z;exact⟨rfl,rfl⟩
 |.cons a .nil,k,v,h=>pR h|.cons a (.cons b r),k,v,h=>D3 (C:=λk v=>(evalEachOpt k env).zip ((evalEach v env).map λv=>do let x<-v;standAt pos;pure x)=(pairsOf env pos k v).map (λp=>(some p.1,p.2))/\(pairsOf env pos k v).length=v.length) h λx u y s m m h=>by obtain⟨i,I⟩:=mR r u s h;exact⟨cg _ i,cg (·+1) I⟩
theorem mS{F:Fr}:∀{l:Es},eO k d l->∀{σ:Sg} {z:List (Option Expr)} {v:List Expr} {Q:List V->Hp->Prop} {K:List (Value×Value)->Shared->Prop},encD F.env.scope.names F.ac l z v=true->Ok k d F L σ->wEs (wC d) l L σ.H Q->
 (∀vs σ' N,Af k σ σ'->(∀p,pairUp vs=some p->G4 σ' p N)->N.length=v.length->Q vs σ'.H->K N σ'.s)->WN k F.A (evalPairs<|pairsOf F.env pos z v) K σ.s
 |.nil,_,σ,z,v,Q,K,h,o,w,u=>by refine aI (a:=z.isEmpty) h λH s=>?_;obtain rfl:=mi.1 H;obtain rfl:=mi.1 s;exact ag (u [] σ [] o.sr.here (λp e=>by obtain rfl:=dR e;rfl) rfl w)
 |.cons a .nil,_,σ,z,v,Q,K,h,o,w,u=>pR h|.cons a (.cons b r),m,σ,z,v,Q,K,h,o,w,u=>by revert u;refine D3 (C:=λz v=>(∀vs σ' N,Af k σ σ'->(∀p,pairUp vs=some p->G4 σ' p N)->N.length=v.length->Q vs σ'.H->K N σ'.s)->WN k F.A (evalPairs<|pairsOf F.env pos z v) K σ.s) h λx k' y v' H s T u=>jf<|m.1.1 F L σ x _ _ H o w λva f c j Y w=>ab<|m.2.1.1 F L f y _ _ s (o.on j) w λvb br J i O w=>ab<|ak<|ag<|mS m.2.2 T (o.on<|j.trans i) w λvs M N U I G w=>u _ M _ ((j.trans i).trans U) (λp e=>?_) (cg (·+1) G) w;exact C5 e λD e'=>⟨(c,J),N,(Y.on i.up).on U.up,O.on U.up,I D e',rfl⟩
theorem storeAll(U:A.units+12<cLine):∀(eN:List<|Value×Value) (z D:List<|V×V) (σ:Sg) (Q:PUnit->Shared->Prop),σ.g[i]?=some p->σ.H[i]?=some (.dict kd D)->SR k σ->(∀e∈z,keyOk kd e.1=true)->
 G4 σ z eN->D.length+z.length<=cn->(∀s',Af k σ (σ.t i (.dict kd<|z.foldl (λd e=>dput d e.1 e.2) D) s')->Q ⟨⟩ s')->
 wpAny (model k.prog k.w) A (forIn eN PUnit.unit λ(x:Value×Value) (_:PUnit)=>(do dictSet p.1 x.1 x.2;pure (ForInStep.yield PUnit.unit):Sem<|ForInStep PUnit)) Q E σ.s
 |eN,[],D,σ,Q,u,s,r,m,l,H,j=>by
  obtain rfl:=l;rw[List.forIn_nil]
  have e:σ.t i (.dict kd D) σ.s=σ:=by
   have:σ.H.set i (.dict kd D)=σ.H:=by obtain⟨h,e⟩:=f5.1 s;exact e▸List.set_getElem_self h
   unfold Sg.t;rw[this]
  exact e5<|j σ.s<|e.symm▸r.here
 |eN,e::z,D,σ,Q,u,s,r,m,l,H,j=>by refine bC λG=>?_;obtain⟨T,t,f,c,b,rfl⟩:=l;refine G ?_;have H:D.length+1+z.length<=cn:=Nat.add_right_comm D.length 1 z.length▸H;rw[List.forIn_cons];have I:i<σ.H.length:=(f5.1 s).1;refine da<|da<|Kp r u (r.obs i p _ u s) U (m e<|.head _) f c (c0 (ql _ _) H) λs1 a1=>e5<|storeAll U t z (dput D e.1 e.2) (σ.t i (.dict kd<|dput D e.1 e.2) s1) Q u (List.getElem?_set_self I) a1.sr (λe Y=>m e<|.tail _ Y) (b.on a1.up) (c0 (He (pI D e.1 e.2) _) H) λs' a2=>j s' ?_;have a:=a1.trans a2;unfold Sg.t at a⊢;rw[List.set_set]at a;exact a
def SR.newDict{σ:Sg}(kd:Kd)(r:SR k σ)(t:Nat):Af k σ (σ.n (σ.s.heap.objs.size,σ.s.heap.objs.size) (.dict kd []) {σ.s with heap:=σ.s.heap.push {cls:=.type "dict",data:=.dict #[]},toks:=t}):=
 r.alloc (λz z e=>fz _ e) ⟨rfl,rfl,rfl⟩ (bj _) (bj _) λu=>.of #[] 0 (js _) rfl nofun List.nodup_nil (hW _ rfl) .nil
def Bw(j:eO k d l):aG k d (.dict kd l):=λF L σ x Q K h o w i=>Ny h λf c p h=>aI h λH z=>by
 have H:=hS H;have s:=o.sr.newDict kd σ.s.toks;obtain⟨b,u⟩:=mR (env:=F.env) (pos:=p) l f c z
 have G:=Sg.rW (p:=(σ.s.heap.objs.size,σ.s.heap.objs.size)) (o:=.dict kd []) (s':={σ.s with heap:=σ.s.heap.push {cls:=.type "dict",data:=.dict #[]},toks:=σ.s.toks}) o.sr
 by_cases N:pairsOf F.env p f c=[]
 .clear j b H;obtain rfl:=List.eq_nil_of_length_eq_zero<|u.symm.trans<|cg List.length N
  clear N u H;obtain⟨rfl,rfl⟩:=D4 z
  cases w with
  |of m Y U q=>
   obtain rfl:=dR m;rw[eval_Dict_empty];refine ab<|ak ?_;unfold newDict;have e:(σ.H++[Ob.dict kd []]).set σ.H.length (.dict kd [])=σ.H++[.dict kd []]:=by rw[List.set_append_right _ _<|i1 _,Nat.sub_self];rfl
   have q:Q (.ref σ.H.length) ((σ.H++[Ob.dict kd []]).set σ.H.length<|.dict kd []):=q;rw[e]at q;exact al<|wpAny_newObj_type<|i (.ref σ.H.length) _ _ s (.rr (p:=(σ.s.heap.objs.size,σ.s.heap.objs.size)) G) q
 .rw[arm_eval_Dict,b,dictDisplay_pairs _ N<|u.symm▸dS H (by decide)]
  refine ab<|ak<|ab ?_
  unfold subDict
  refine ao<|wpAny_alloc<|ab<|aj ?_
  rw[er<|u.symm▸H]
  refine ab<|mS j z (o.on s) w λoq I T a O M w=>aj ?_
  cases w with
  |of m Y U q=>
   have rp:=O _ m
   refine ao (storeAll (p:=(σ.s.heap.objs.size,σ.s.heap.objs.size)) (dS (ih (by decide) _) o.MD) T _ [] I _ (eT a.ex.m.pre G) U a.sr (λe J=>ft.1 Y e J) rp
    (by rw[rp.len,M,List.length_nil,Dp];exact c0 H<|by decide) λs' D=>ag<|ag<|ag<|i (.ref σ.H.length) _ _ ((s.trans a).trans D) (.rr (p:=(σ.s.heap.objs.size,σ.s.heap.objs.size))<|eT a.ex.m.pre G) q)
end
def vU:(o9.all λl=>l.all λx=>(fastLookup "object"<|aU x).any Option.isNone)=true:=by decide+kernel
def vV:(mH.all λl=>l.all λp=>(fastLookup "object"<|aU p.1).isSome)=true:=by decide+kernel
def pT{c x:Nat}(h:P.attr c x=true):∃l,o9[c]?=some l/\x∈l:=by
 have h:(match o9[c]? with|some l=>l.contains x|none=>false)=true:=h
 cases e:o9[c]? with|none=>rw[e]at h;injection h|some l=>rw[e]at h;exact⟨l,rfl,List.contains_iff_mem.1 h⟩
theorem lookup_mem:∀{l:List (Nat×Nat)},l.lookup m=some f->(m,f)∈l
 |(a,b)::l,h=>by
  rw[wh]at h
  cases e:m==a with
  |true=>rw[e]at h;obtain rfl:=dR h;obtain rfl:=beq_iff_eq.1 e;exact .head _
  |false=>rw[e]at h;exact .tail _<|lookup_mem h
def j7{c m f:Nat}(h:P.aC c m=some f):∃l,mH[c]?=some l/\(m,f)∈l:=by
 have h:(match mH[c]? with|some l=>l.lookup m|none=>none)=some f:=h
 cases e:mH[c]? with|none=>rw[e]at h;injection h|some l=>rw[e]at h;exact⟨l,rfl,lookup_mem h⟩
def D5{c x:Nat}(h:P.attr c x=true):typeLookup (.type "object") (aU x)=pure none:=by obtain⟨l,e,m⟩:=pT h;obtain⟨y,e,h⟩:=any_some<|ft.1 (ft.1 vU l<|nf e) x m;rw[r0,my,e,Option.isNone_iff_eq_none.1 h]
def KD{c m f:Nat}(h:P.aC c m=some f):∃y,typeLookup (.type "object") (aU m)=pure y:=by obtain⟨l,e,q⟩:=j7 h;obtain⟨y,e⟩:=Gz.1<|ft.1 (ft.1 vV l<|nf e) (m,f) q;exact⟨y,by rw[r0,my,e]⟩
def D6{c:Nat}(h:c<fK.length):∃f,P.init c=some f:=⟨fK[c],h8 h⟩
def Ac{c x:Nat}(h:P.attr c x=true):∃f,P.init c=some f:=by obtain⟨l,e,_⟩:=pT h;exact D6<|(by decide:o9.length=fK.length)▸(f5.1 e).1
def D7{c m f:Nat}(h:P.aC c m=some f):∃f,P.init c=some f:=by obtain⟨l,e,_⟩:=j7 h;exact D6<|(by decide:mH.length=fK.length)▸(f5.1 e).1
def G5{c:Code}(h:P.code f=some c):(Mx f==("__debug__":Str))=false:=by
 have e:M4[f]?=some (M4[f]'((by decide:gQ.length=M4.length)▸(f5.1 (show gQ[f]?=some c from h)).1)):=h8 _
 unfold Mx
 rw[e]
 exact yM Kx e
def G6{c f:Nat}(h:P.init c=some f):(Nw c==("__debug__":Str))=false:=by
 have e:M5[c]?=some (M5[c]'((by decide:fK.length=M5.length)▸(f5.1 (show fK[c]?=some f from h)).1)):=h8 _
 unfold Nw
 rw[e]
 exact yM Ky e
def pU{a:Str}{whole:Sem Value}(h:pj o=true):attributeBase o a env whole=whole:=by
 induction o using Expr.casesOn with
 |Call f s k p=>induction f using Expr.casesOn with
  |Name id q=>induction s using List.casesOn with
   |nil=>induction k using List.casesOn with
    |nil=>
     have h:cq id "super"=false:=dK (b:=true&&true&&cq id "super") h;have e:(id !=("super":Str))=true:=bne_iff_ne.2 λe=>by rw[e,cZ]at h;exact nomatch h
     refine er ?_;rw[e];rfl
    |cons _ _=>rfl
   |cons _ _=>rfl
  |_=>rfl
 |_=>rfl
section
variable{k:Cx}{d:Nat}{σ:Sg}{A:Around}{E K:Value->Shared->Prop}{x v:V}{val:Value}{p:Addr×Addr}{c:Nat}{fs:List (Nat×V)}
def RV.handed(r:RV σ v val):handedOut val=pure val:=by
 induction v using V.casesOn with
 |none=>obtain rfl:=r;rfl
 |bool b=>obtain rfl:=r;rfl
 |int i=>exact r.ls λz=>rfl|str l=>exact r.gA λz z=>rfl|bytes l=>exact r.A8 λz z=>rfl|tup l=>exact r.f0 λz z z z z z z=>rfl|lst l=>exact r.jQ λz z z z z z z=>rfl|ref i=>exact r.rf λz z=>rfl
def D8{C:Prop}(O:Mu k σ p c fs)(f:∀m,fs.length<=1000->(∀x v,fG fs x=some v->P.attr c x=true)->σ.s.heap.Inst p.1 (k.cF c) m->IX σ fs m->p.2≠p.1->(∀o,σ.h p.1=some o->o.dict=some p.2)->C):C:=by
 cases O with|of o m l a ne h y D H N r=>exact f m l a ⟨o,h,y,D,.inr ⟨p.2,H,ne,N⟩⟩ r ne λz e=>dR (h.symm.trans e)▸H
set_option tactic.hygienic true in
def D9{C:Value->Prop}(z:RV σ x val)(w:zQ x σ.H Q)(r:SR k σ)(f:∀i p c fs,σ.g[i]?=some p->x=.ref i->Mu k σ p c fs->Q c fs->C (.ref p.1)):C val:=by
 cases x with
 |ref i=>
  obtain⟨p,H,rfl⟩:=z;obtain⟨h,w⟩:=(show wO _ _ from w);rename_i o
  induction o using Ob.casesOn with|inst c fs=>exact f i p c fs H rfl (r.rd H h) w|_=>exact False.elim w
 |_=>exact False.elim w
def Ea(w:zQ x σ.H λz fs=>wM (fG fs f) Q)(r:SR k σ)(u:RV σ x val)(kp:KP k σ Q K):wpAny (model k.prog k.w) A (getAttr val (aU f) true) K E σ.s:=
 D9 (C:=λval=>wpAny (model k.prog k.w) A (getAttr val (aU f) true) K E σ.s) u w r λi p c fs U z O w=>D8 O λm z H I s z z=>rt w λv e q=>by
  have H:=H f v e;refine bC λG=>?_;obtain⟨l,j⟩:=Ac H;obtain⟨val,M,y⟩:=s.get f v e
  refine G ?_;cases r.base.cls c l j with|of nm T N L D sub col dd k0 k1 k2 k3 k5 mN b a Y Px Py ME Pz J=>exact load_attr (r.old _ _ b) (r.ez a) Y (J f H) (D5 H) I M y.handed<|kp v _ val (r.tok _) (y.on (r.tok _).up) q
def By(J:aG k d o):aG k d (.attr o f):=λF L σ x Q K h ok w u=>vr h λy n p h=>bG h λH s m=>by obtain rfl:=cj s;rw[arm_eval_Attribute,pU H];exact ab<|J F L σ y _ _ m ok w λO i e z l w=>ab<|ak<|ab<|aj<|al<|Ea w z.sr l λv b val a j q=>ao<|wpAny_letTemporaryGo<|ag<|u v _ val (z.trans a) j q
end
def ck{A:Around}{E:Value->Shared->Prop}{args:List Expr}(p:∀x∈args,isStar x=false)
 (h:aB M A (spliced<|backTo pos<|starEach args env) (λvs s'=>Q ⟨vs,[]⟩ s') E s):aB M A (evalArgs f true (backTo pos<|starEach args env) []) Q E s:=by
 induction args using List.casesOn with
 |nil=>
  unfold evalArgs;show aB M A (spliced []>>=_) Q E s;refine ab<|ai h (λvs s' H=>?_) λz z x=>x
  first
   |exact ab<|ag<|aj<|ab<|ag<|ab<|ag<|ag H|exact aj<|ab<|ag<|ab<|ag<|ag H
 |cons x y=>rw[bA<|p x<|.head _]at h⊢;exact eg h
theorem bO:∀{args:List Expr},(∀x∈args,isStar x=false)->(backTo pos<|starEach args env).any (·.1)=false
 |[],_=>rfl|x::s,H=>by rw[bA<|H x<|.head _];exact bO (args:=s) λy m=>H y<|.tail _ m
section
variable(k:Cx)(d:Nat)
def yP:Prop:=∀f args z b A Q K,GP d A->SR k z->aN z args b->wC d f args z.H Q->KV k z Q K->WN k A (PySem.call (.ref<|k.fA f) b) K z.s
end
section
variable{k:Cx}{d:Nat}{σ:Sg}{A:Around}{K:Value->Shared->Prop}
def vW:(fK.all λf=>(gQ[f]?).isSome)=true/\(mH.all λl=>l.all λp=>(gQ[p.2]?).isSome)=true:=by decide+kernel
def codeOf(h:(gQ[f]?).isSome=true):∃c,P.code f=some c:=Gz.1 h
def Eb{c f:Nat}(h:P.init c=some f):∃c,P.code f=some c:=codeOf (ft.1 vW.1 f (nf (show fK[c]?=some f from h)))
def Ec{c m f:Nat}(h:P.aC c m=some f):∃c,P.code f=some c:=by obtain⟨l,e,q⟩:=j7 h;exact codeOf<|ft.1 (ft.1 vW.2 l<|nf e) (m,f) q
def QT{C:Prop}(r:SR k σ)(y:∃c,P.code f=some c)(g:∀c o fd,P.code f=some c->k.B.heap.get? (k.fA f)=some o->o.cls=.type "function"->o.data=.func fd->C):C:=by
 obtain⟨c,y⟩:=y
 cases r.base.fns f c y with|of o fd body Q s p=>exact g c o fd y Q s p
def Bz(G:yP k d)(s:iR k d l):aG k d (.call f l):=λF L σ x Q K h o w m=>jb h λp a j i h=>bG h λe y H=>by
 cases o.sr.base.ns with
 |of mg mb N n2 n3 b=>
  obtain⟨c,y⟩:=codeOf y
  exact bc (yN o i N (b f c y e) (G5 y) (QT o.sr ⟨c,y⟩ λc O fd u Y u U=>cN (o:=O) (fd:=fd) (ck (bB H) (s F L σ a j _ _ H o w λT M J u z I w=>
   ⟨⟨z.sr.old _ _ Y,U⟩,G f T M J F.A Q K o.rm.room z.sr I w λv D val a2 r2 w=>m v D val (z.trans a2) r2 w⟩))))
def pC.create{A:Around}(h:pC d A)(C:Addr)(e:List Value):GP d (A.under<|.builtin "type.__call__" ⟨.ref C::e,[]⟩):=by
 have H:(Code.builtin "type.__call__" ⟨.ref C::e,[]⟩).weight=1:=rfl;have z:(Code.builtin "type.__call__" ⟨.ref C::e,[]⟩).cUnits=1:=rfl;refine⟨?_,?_,h.2.2⟩
 .show A.depth+_+3*d<_;rw[H,Nat.add_right_comm];exact dS (Nat.le_succ _) h.1
 .show A.units+_+40*d+80<_;rw[z,Nat.add_right_comm A.units];exact dS (ih (by decide:1+80<=100)<|A.units+40*d) h.2.1
def SR.G8{c:Nat}{x l:Addr}(r:SR k σ)(m:Heap.MadeObj σ.s.heap s'.heap x l<|k.cF c)(e:dX σ.s s'):Af k σ (σ.n (x,l) (.inst c []) s'):=
 r.alloc (p:=(x,l)) m.keeps e m.newX m.newD λu=>by
  refine bC λG=>?_;obtain⟨o,s,j,i,z⟩:=m.inst;refine G ?_;have y:=m.dict o s;rcases z with⟨z,_⟩|⟨a,z,f,b⟩;.exact nomatch(y.symm.trans z)
  .obtain rfl:=dR<|y.symm.trans z;exact .of o _ (js _) nofun f s j i y b ⟨nofun,λn h=>absurd rfl h⟩
def Ed{c:Nat}(b:yP k d)(Y:iR k d l):aG k d (.new c l):=λF L σ x Q K h o w T=>jb h λp O M G h=>aI h λH u=>by
 .obtain⟨I,H⟩:∃f,P.init c=some f:=Gz.1 H
  cases o.sr.base.ns with
  |of mg mb J n2 n3 n4 n5=>
  cases o.sr.base.cls c I H with
  |of nm q N bs sn sub col dd k0 k1 k2 k3 k5 mN j hn N0 Px Py ME Pz qJ=>
  refine bc<|yN o G J (n5 c I H) (G6 H)<|QT o.sr (Eb H) λc' oo fd zz q1 q2 q3=>aW (P:=λh=>h.get? (k.cF c)=some (excClassObj nm q (k.cF c) N bs [.type "object"] true sn sub false col dd k0 k1 k2 k3 k5 "object.__new__")) (keywords:=[]) (by rw[bO<|bB u];rfl)
   (λh hh=>⟨.machine,.inr<|.inl rfl,λA Q E s k q=>by obtain⟨m,g,d,t,os⟩:=s;exact wpAny_keeperOf_exc (k _ _ hh) q⟩) (ck (bB u)<|Y F L σ O M _ _ u o w λvs i vals zz z r1 w=>⟨z.sr.old _ _ j,rt w λSB ei w=>?_⟩);obtain rfl:=dR<|H.symm.trans ei;refine jW PySem.F.objNew (z.sr.old _ _ j) (z.sr.ez hn) (ME I H) (z.sr.old _ _ q1) q2 λm y D mo=>?_;have a:=z.sr.G8 (s':=⟨m,i.s.gens,i.s.drawn,i.s.toks,i.s.os⟩) mo ⟨rfl,rfl,rfl⟩;have G:=Sg.rW (p:=(y,D)) (o:=.inst c []) (s':=⟨m,i.s.gens,i.s.drawn,i.s.toks,i.s.os⟩) z.sr
  exact b I _ _ (.ref y::vals) _ _ _ (o.rm.create _ _) a.sr (.cons (.rr (p:=(y,D)) G)<|r1.on a.up) w λv CK val U r3 w=>vG w λe w=>by obtain rfl:=fF e;obtain rfl:=r3;exact⟨rfl,T (.ref i.H.length) CK _ ((z.trans a).trans U) (.rr (p:=(y,D))<|eT U.ex.m.pre G) w⟩
def j8{prog:Program}{x:Expr}{E:Value->Shared->Prop}(h:lA x n f=true)
 (g:∀o args pos,f o args=true->(∀x∈args,isStar x=false)/\aB (model prog w) A (eval o env) (λO s₁=>∀p,wpAny (model prog w) A (getMethod O n p) (λfx a=>aB (model prog w) A (callWith pos fx.1 fx.2 (backTo pos<|starEach args env) []) Q E a) E s₁) E s):
 aB (model prog w) A (eval x env) Q E s:=by
 refine Dj h λc args b pos h=>aI h λH h=>vr h λo m y h=>co h λm1 m2 m3 h=>aI h λu l=>?_;cases cj u;obtain rfl:=mi.1 H;have m1:=dk m1;have m2:=hS m2;obtain⟨j,h⟩:=g o args pos l;rw[arm_eval_Call,pU m3];refine ab<|ai h (λO s₁ i=>ab<|ak ?_) λz z x=>x;have e:=bO (env:=env) (pos:=pos) j
 have N:methodCallForm (args.length+([]:List Keyword).length) (backTo pos<|starEach args env) (backToKw pos<|keywordEach [] env)=true:=by unfold methodCallForm;rw[show(backTo pos<|starEach args env).all (λx=>!x.1)=true by rw[List.all_eq_not_any_not];simpa using e];show(true&&true&&decide (args.length+0+0<30))=true;rw[eb (dS m2 (by decide):args.length+0+0<30)];rfl
 unfold methodCall;rw[N];refine ab<|aj<|ai (al<|i _) (λfx a Y=>?_) λz z x=>x
 have U:methodCallPos true o env y pos=pure pos:=by unfold methodCallPos;rw[m1,Fe];rfl
 rw[U];exact ab<|ag Y
def BA{ob:Mine.E}(G:yP k d)(J:aG k d ob)(M:iR k d l):aG k d (.aC ob m l):=λF L σ x Q K h o w D=>j8 h λy s pos h=>aI h λh1 u=>
 ⟨bB u,J F L σ y _ _ h1 o w λva j f a r1 w=>D9 (C:=λf=>∀b,wpAny (model k.prog k.w) F.A (getMethod f (aU m) b) (λfx aM=>aB (model k.prog k.w) F.A (callWith pos fx.1 fx.2 (backTo pos<|starEach s F.env) []) K (λz z=>False) aM) (λz z=>False) j.s)
   r1 w a.sr λi p c fs hp ev ro w=>D8 ro λmA z z I F0 z z=>vG w λY w=>rt w λT H w b=>by
   refine bC λzG=>?_;obtain⟨SB,hi⟩:=D7 H;obtain⟨yy,hy⟩:=KD H
   refine zG ?_;have Ee:mA (aU m)=none:=vN λfC=>by obtain⟨x',v',e,hg⟩:=F0.only _ fC;obtain rfl:=j4 e;rw[hg]at Y;injection Y
   cases a.sr.base.cls c SB hi with
   |of nm q N bs sn sub col dd k0 k1 k2 k3 k5 mN hC hn N0 Px Py ME Pz qJ=>
    refine QT a.sr (Ec H) λc' oo fd z O q2 q3=>method_of (a.sr.old _ _ hC) (a.sr.ez hn) N0 Px (Pz m T H) (a.sr.old _ _ O) q2 hy I Ee ?_
    exact cN (o:=oo) (fd:=fd) (keywords:=[]) (ck (bB u) (M F L j s pos _ _ u (o.on a) w λvs CK vals z U r3 w=>
     ⟨⟨U.sr.old _ _ O,q3⟩,G T _ CK (.ref p.1::vals) F.A Q K o.rm.room U.sr (.cons (ev▸.rr (p:=p) (eT U.ex.m.pre hp)) r3) w λv kT val a4 r4 w=>D v kT val ((a.trans U).trans a4) r4 w⟩))⟩
end
def Ns.uniq{h:Heap}(x:h.Ns a m)(y:h.Ns a m'):m=m':=by refine bC λG=>?_;obtain⟨o,es,j,e,d,k,f⟩:=x;obtain⟨O,s,T,u,D,p,z⟩:=y;obtain rfl:=dR<|e.symm.trans u;refine G ?_;cases d.symm.trans D;funext n;exact(f n).symm.trans<|z n
def IsCell.uniq{h:Heap}(x:h.IsCell a m)(y:h.IsCell a m'):m=m':=by obtain⟨o,e,d⟩:=x;obtain⟨O,u,D⟩:=y;obtain rfl:=dR<|e.symm.trans u;cases d.symm.trans D;rfl
def oy{env:Env}{C:Prop}(a:env.kindOf n=some .local)(b:env.kindOf n=some .cell):C:=nomatch a.symm.trans b
theorem Bound.uniq{env:Env}(x:Bound env h n a)(y:Bound env h n b):a=b:=by
 rcases x with⟨k,m,H,M⟩|⟨k,c,u,p⟩<;>rcases y with⟨z,l,U,e⟩|⟨z,j,s,G⟩;.exact dR<|M.symm.trans<|(congrFun (Ns.uniq H U) n).trans e
 .exact oy k z
 .exact oy z k
 .obtain rfl:=dR<|u.symm.trans s;exact dR<|IsCell.uniq p G
def FT(env:Env)(xs:List Nat)(b:Addr):Prop:=b=env.locals\/∃x∈xs,env.kindOf (aU x)=some .cell/\env.cells.lookup (aU x)=some b
section
variable{k:Cx}{d:Nat}{F:Fr}{L:Loc}{σ σ':Sg}{A:Around}{E:Value->Shared->Prop}{s':Shared}{x:Nat}{v:V}{val:Value}{env:Env}
def FT.fa{xs:List Nat}{b:Addr}(h:FT env xs b):FA env b:=h.imp_right λT=>by obtain⟨x,_,_,h⟩:=T;exact⟨_,h⟩
def FT.more(h:FT env xs b)(k:∀x∈xs,x∈ys):FT env ys b:=h.imp_right λT=>by obtain⟨x,H,z⟩:=T;exact⟨x,k x H,z⟩
def FR.noSeq(f:FR k F L σ)(h:FA F.env b)(e:σ.h b=some o):∀vs n,o.data≠ .seq vs n:=λvs n H=>by
 rcases h with rfl|⟨n',hk⟩
 .obtain⟨m,O,es,j,u,D,_⟩:=f.loc;obtain rfl:=dR<|e.symm.trans u;injection H.symm.trans D
 .obtain⟨_,v,O,u,D⟩:=f.cells n' b hk;obtain rfl:=dR<|e.symm.trans u;injection H.symm.trans D
def Ok.store(o:Ok k d F L σ){W:Addr->Prop}(z:∀b,W b->FA F.env b)(H:∀b o,¬W b->σ.h b=some o->s'.heap.get? b=some o)(e:dX σ.s s')
 (Q:∃m,s'.heap.Ns F.env.locals m) (i:∀n c,F.env.cells.lookup n=some c->∃v,s'.heap.IsCell c v) (T:Bound F.env s'.heap (aU x) val) (O:∀n u,n≠aU x->Bound F.env σ.s.heap n u->Bound F.env s'.heap n u)
 (N:∀b,W b->s'.heap.get? b≠none) (M:F.ac≠some x->RV σ v val) (J:F.ac=some x->Acc F σ v val):Mv W σ (σ.w s')/\Up σ (σ.w s')/\Ok k d F (upd L x v) (σ.w s'):=by
 have f:=o.fr;have I:∀b,σ.X b->¬W b:=λb h w=>(f.apart b<|z b w).2.1 h;have l:∀b,σ.h b≠none->s'.heap.get? b≠none:=λb h=>(Classical.em<|W b).elim (N b) λn=>let⟨_,e⟩:=cC h;aw (H b _ n e);obtain⟨G,mv,up⟩:=o.sr.own H (λb h=>l b (o.sr.eh b h).2.1) (λb w=>have a:=f.apart b<|z b w;⟨a.1,a.2.2.1,.inr λo e=>f.noSeq (z b w) e⟩) e;refine⟨mv,up,o.rm,G,{kind:=f.kind,glob:=f.glob,blt:=f.blt,loc:=Q,cells:=λn c p=>⟨(f.cells n c p).1,i n c p⟩,bK:=f.bK,cE:=f.cE,vars:=λy u U D=>?_,apart:=λb s=>have a:=f.apart b s;⟨a.1,a.2.1,a.2.2.1,l b a.2.2.2⟩,out:=f.out}⟩;have j:∀{u:V} {y:Value},Acc F σ u y->Acc F (σ.w s') u y:=Acc.on up (λb o s zz=>H b o<|I b s) λb h zz=>h;by_cases Y:y=x
 .cases Y;obtain rfl:=dR<|(er rfl:upd L x v x=some v).symm.trans U;exact⟨val,T,λh=>(M h).on up,λh=>j<|J h⟩
 .refine bC λzG=>?_;obtain⟨G9,h1,h2,h3⟩:=f.vars y u ((ej Y:upd L x v y=L y).symm.trans U) D;exact zG<|⟨G9,O _ _ (λe=>Y<|j4 e) h1,λh=>(h2 h).on up,λh=>j<|h3 h⟩
def bw(o:Ok k d F L σ)(hn:isVar F.env.scope.names (aU x)=true)(p:F.ac≠some x->RV σ v val)(I:F.ac=some x->Acc F σ v val){Q:Unit->Shared->Prop}
 (q:∀s',Mv (FT F.env [x]) σ (σ.w s')->Up σ (σ.w s')->Ok k d F (upd L x v) (σ.w s')->Q () s'):wpAny (model k.prog k.w) A (storeName F.env (aU x) val) Q E σ.s:=by
 have f:=o.fr;obtain⟨m,O⟩:=f.loc;rcases eA hn with hl|hl
 .refine wpAny_storeName_local hl O (λs U G=>?_)<|by rw[f.kind];rfl
  have i:∀b o,b≠F.env.locals->σ.h b=some o->s.get? b=some o:=λb o H e=>(G.2 b H).trans e;have a:∀n c v,F.env.cells.lookup n=some c->σ.s.heap.IsCell c v->s.IsCell c v:=λn c v y p=>cellAt p λo e=>i c o (f.cells n c y).1 e;refine bC λN=>?_;obtain⟨mv,up,J⟩:=o.store (s':={σ.s with heap:=s,toks:=σ.s.toks+1}) (W:=λb=>b=F.env.locals) (λb h=>.inl h) (λb o H e=>i b o H e) ⟨rfl,rfl,rfl⟩ ⟨_,U⟩ (λn c y=>(f.cells n c y).2.imp λv p=>a n c v y p)
   (.inl ⟨hl,_,U,er rfl⟩) (λn u Y H=>H.imp (λ⟨l,m',T,j⟩=>⟨l,_,U,(ej Y).trans<|Ns.uniq O T▸j⟩) λ⟨l,c,y,j⟩=>⟨l,c,y,a n c _ y j⟩)
   (λb e=>by subst e;obtain⟨_,_,_,e,_⟩:=U;exact aw e) p I;exact N<|q _ (mv.wk λb h zz=>.inl h) up J
 .refine bC λN=>?_;obtain⟨c,y⟩:=f.bK _ hl;obtain⟨tP,v0,Ux⟩:=f.cells _ _ y;refine N<|wpAny_storeName_cell f.kind hl y Ux λs U G=>?_;have i:∀b o,b≠c->σ.h b=some o->s.get? b=some o:=λb o H e=>(G.2 b H).trans e;have D:∀m',σ.s.heap.Ns F.env.locals m'->s.Ns F.env.locals m':=λm' T=>vF T λo e=>i _ o (Dq tP) e;have a:∀n z v,n≠aU x->F.env.cells.lookup n=some z->σ.s.heap.IsCell z v->s.IsCell z v:=λn z v Y M p=>cellAt p λo e=>i z o (λq=>Y<|f.cE n (aU x) c (q▸M) y) e;obtain⟨mv,up,J⟩:=o.store (s':={σ.s with heap:=s}) (W:=λb=>b=c) (λb h=>.inr ⟨_,h▸y⟩) (λb o H e=>i b o H e) ⟨rfl,rfl,rfl⟩ ⟨_,D m O⟩
   (λn z M=>(Classical.em<|n=aU x).elim (λq=>⟨_,dR (y.symm.trans<|q▸M)▸U⟩) λq=>(f.cells n z M).2.imp λv p=>a n z v q M p)
   (.inr ⟨hl,c,y,U⟩) (λn u Y H=>H.imp (λ⟨l,m',T,j⟩=>⟨l,m',D m' T,j⟩) λ⟨l,z,M,j⟩=>⟨l,z,M,a n z _ Y M j⟩)
   (λb e=>by subst e;obtain⟨_,e,_⟩:=U;exact aw e) p I;exact q _ (mv.wk λb h zz=>.inr ⟨x,.head _,hl,h▸y⟩) up J
theorem lK:∀{xs:List Nat} {p:List (Value->Sem Unit)} {vs:List V} {j:List Value} {L:Loc} {σ:Sg} {Q:Unit->Shared->Prop},p.length=xs.length->
 (∀(i x:Nat) (f:Value->Sem Unit),xs[i]?=some x->p[i]?=some f->∀(val:Value) (s:Shared) (Q:Unit->Shared->Prop) (E:Value->Shared->Prop),wpAny (model k.prog k.w) A (storeName F.env (aU x) val) Q E s->wpAny (model k.prog k.w) A (f val) Q E s)->
 (∀x∈xs,isVar F.env.scope.names (aU x)=true/\F.ac≠some x)->xs.length=vs.length->Ok k d F L σ->aN σ vs j->
 (∀s',Mv (FT F.env xs) σ (σ.w s')->Up σ (σ.w s')->Ok k d F ((xs.zip vs).foldl (λL e=>upd L e.1 e.2) L) (σ.w s')->Q () s')->wpAny (model k.prog k.w) A (assignInOrder p j) Q E σ.s
 |[],[],[],_,L,σ,Q,_,_,_,_,o,l,q=>by obtain rfl:=l;exact e5<|q σ.s .refl ⟨sA _,λu u u u e u n=>⟨n,e⟩⟩ o
 |[],_::_,_,_,_,_,_,H,_,_,_,_,_,_=>nomatch H|[],[],_::_,_,_,_,_,_,_,_,H,_,_,_=>nomatch H|_::_,[],_,_,_,_,_,H,_,_,_,_,_,_=>nomatch H|_::_,_::_,[],_,_,_,_,_,_,_,H,_,_,_=>nomatch H|x::xs,ff::p,v::vs,_,L,σ,Q,H,Y,T,N,o,l,q=>by
  obtain⟨y,ys,M,J,rfl⟩:=l;have D:=T x<|.head _;refine da (m:=holding ys<|ff y)<|Be<|Y 0 x ff rfl rfl y σ.s _ E (bw o D.1 (λu=>M) (λq=>absurd q D.2) λs1 m1 U I=>?_)
  exact lK (Nat.succ.inj H) (λi z G hz Uy=>Y (i+1) z G hz Uy) (λz hz=>T z<|.tail _ hz) (Nat.succ.inj N) I (J.on U) λs2 m2 O o2=>
   q s2 ((m1.wk λb q u=>q.more λz hz=>dt.1 hz▸.head _).trans<|m2.wk λb q u=>q.more λz hz=>.tail _ hz) ⟨U.pre.trans O.pre,λa o vs n e d h=>have c:=U.keep a o vs n e d h;O.keep a o vs n c.2 d c.1⟩ o2
theorem lL:∀{xs:List Nat} {es:List Expr},iQ ks xs es=true->es.length=xs.length/\(∀(i x:Nat) (e:Expr),xs[i]?=some x->es[i]?=some e->∃p,e=Expr.Name (aU x) p)/\∀x∈xs,isVar ks (aU x)=true
 |[],es,h=>by obtain rfl:=mi.1<|show es.isEmpty=true from h;exact⟨rfl,nofun,nofun⟩
 |x::xs,[],h=>ff h|x::xs,e::es,h=>aI (a:=vt ks x e) h λz s=>by
  refine bC λG=>?_;obtain⟨I,l,j⟩:=lL s
  refine G<|lz (C:=λe=>(e::es).length=(x::xs).length/\(∀(i y:Nat) (u:Expr),(x::xs)[i]?=some y->(e::es)[i]?=some u->∃p,u=Expr.Name (aU y) p)/\∀y∈x::xs,isVar ks (aU y)=true) z λp f=>⟨cg (·+1) I,λi y u Y H=>?_,λy m=>by cases m with|head=>exact f|tail _ m=>exact j y m⟩
  induction i using Nat.casesOn with
  |zero=>obtain rfl:=dR Y;obtain rfl:=dR H;exact⟨p,rfl⟩
  |succ i=>exact l i y u Y H
theorem dq{env:Env}:∀{xs:List Nat} {es:List Expr},iQ ks xs es=true->(assignEach es env).findIdx? (·.1)=none/\(assignEach es env).length=es.length/\(assignEach es env).map (·.2)=es.map λe=>assign e env
 |[],es,h=>by obtain rfl:=mi.1<|show es.isEmpty=true from h;exact⟨rfl,rfl,rfl⟩
 |x::xs,[],h=>ff h|x::xs,e::es,h=>aI (a:=vt ks x e) h λH z=>by obtain⟨i,I,j⟩:=dq (env:=env) z;refine lz (C:=λe=>(assignEach (e::es) env).findIdx? (·.1)=none/\(assignEach (e::es) env).length=(e::es).length/\(assignEach (e::es) env).map (·.2)=(e::es).map λe=>assign e env) H λp y=>⟨?_,cg (·+1) I,cg _ j⟩;show List.findIdx? _ ((false,assign (.Name (aU x) p) env)::assignEach es env)=none;rw[List.findIdx?_cons,i];rfl
def iS(z:A.handled=none)(ht:iQ F.env.scope.names xs es=true)(y:∀x∈xs,F.ac≠some x)(N:xs.length=vs.length)(o:Ok k d F L σ)(l:RV σ (.tup vs) val)
 (q:∀s',Mv (FT F.env xs) σ (σ.w s')->Up σ (σ.w s')->Ok k d F ((xs.zip vs).foldl (λL e=>upd L e.1 e.2) L) (σ.w s')->Q () s'):wpAny (model k.prog k.w) A (assign (.Tuple es j pos) F.env val) Q E σ.s:=by
 refine bC λG=>?_;obtain⟨a,n,items,hl,rfl,hn,I,H⟩:=l;obtain⟨f,Y,U⟩:=dq (env:=F.env) ht;obtain⟨T,O,M⟩:=lL ht;refine G<|wpAny_assign_Tuple z ⟨_,I,rfl,n,rfl⟩ (by rw[Y,T,H.size,N]) f λJ D=>?_;rw[U];have c:=o.sr.keep (s':={σ.s with heap:=J}) (λb o e=>D b o (q0<|p9 e) e) ⟨rfl,rfl,rfl⟩;refine lK (xs:=xs) (vs:=vs) ((a9 ..).trans T) (λi x ff QV MF val s Q E hq=>?_) (λx m=>⟨M x m,y x m⟩) N (o.on c) (H.on c.up) λs' m u o'=>q s' ((c.ex.m.wk λzz h zz=>h.elim).trans m) ⟨c.up.pre.trans u.pre,λa o vs n e d h=>have b:=c.up.keep a o vs n e d h;u.keep a o vs n b.2 d b.1⟩ o';refine C5 (((qa ..).symm.trans MF)) λe yK=>?_;obtain⟨p,rfl⟩:=O i x e QV yK;exact PyProof.Rows.assign_Name hq
end
section
def FO(F:Fr)(X:Addr->Prop)(b:Addr):Prop:=FA F.env b\/(X b/\¬F.X0 b)
structure Sx(F:Fr)(σ σ':Sg):Prop where
 m:Mv (FO F σ.X) σ σ'
 new:∀b,σ'.X b->σ.X b\/σ.h b=none
 ap:∀b,FA F.env b->¬σ'.X b
noncomputable def Sg.lx(σ:Sg)(X':Addr->Prop):Sg:=⟨σ.g,σ.H,σ.s,X',σ.z⟩
structure KS(k:Cx)(d:Nat)(F:Fr)(σ:Sg)(K:LP)(T:VP)(C:LP)(G:Flow->Shared->Prop):Prop where
 next:∀L' σ',Sx F σ σ'->Ok k d F L' σ'->K L' σ'.H->G .next σ'.s
 ret:∀L' v σ' x,Sx F σ σ'->Ok k d F L' σ'->RV (σ'.lx F.X0) v x->T v σ'.H->G (.ret x) σ'.s
 cont:∀L' σ',Sx F σ σ'->Ok k d F L' σ'->C L' σ'.H->G .cont σ'.s
section
variable(k:Cx)(d:Nat)
def fq(st:Mine.S):Prop:=∀F L z x K T C G,J9 F.env.scope.names F.ac st x=true->Ok k d F L z->wS (wC d) st L z.H K T C->KS k d F z K T C G->WN k F.A (exec x F.env) G z.s
def gw(st:Ss):Prop:=∀F L z x K T C G,jS F.env.scope.names F.ac st x=true->Ok k d F L z->wSs (wC d) st L z.H K T C->KS k d F z K T C G->WN k F.A (execs x F.env) G z.s
end
section
variable{k:Cx}{d:Nat}{F:Fr}{L:Loc}{σ σ' lG:Sg}{A:Around}{E:Value->Shared->Prop}{K:LP}{T:VP}{C:LP}{G:Flow->Shared->Prop}
theorem Sx.trans(x:Sx F σ σ')(y:Sx F σ' lG):Sx F σ lG where
 m:=by
  have f:∀b,FO F σ'.X b->FO F σ.X b\/σ.h b=none:=λb h=>h.elim (λh=>.inl<|.inl h) λh=>(x.new b h.1).imp_left λq=>.inr ⟨q,h.2⟩;refine⟨x.m.pre.trans y.m.pre,λb o e M H=>y.m.keep b o (x.m.keep b o e M H) (λq=>(x.m.new b q).elim M λq=>q.elim (aw e) H) λq=>(f b q).elim H<|aw e,λb h=>?_,λb H s=>y.m.live b (λq=>(f b q).elim H s)<|x.m.live b H s,y.m.z.trans x.m.z⟩;rcases y.m.new b h with q|q|q;.exact x.m.new b q
  .exact(Classical.em<|FO F σ.X b).elim (λa=>.inr<|.inr a) λa=>.inr<|.inl<|vN λu=>x.m.live b a u q
  .exact .inr ((f b q).symm)
 new b h:=(y.new b h).elim (x.new b) λq=>(Classical.em<|σ.h b=none).elim .inr λn=>(Classical.em<|FO F σ.X b).elim (λa=>a.elim (λa=>absurd h<|y.ap b a) λa=>.inl a.1) λa=>absurd q (x.m.live b a n)
 ap:=y.ap
def Af.sx(a:Af k σ σ')(o:Ok k d F L σ):Sx F σ σ':=⟨a.ex.m.wk λz h=>h.elim,λb h=>.inl<|a.ex.X▸h,λb h=>a.ex.X▸(o.fr.apart b h).2.1⟩
def Sx.of{W:Addr->Prop}{s':Shared}{l:Loc}(m:Mv W σ<|σ.w s')(z:∀b,W b->FO F σ.X b)(o:Ok k d F l<|σ.w s'):Sx F σ (σ.w s'):=⟨m.wk λb h y=>z b h,λy h=>.inl h,λb h=>(o.fr.apart b h).2.1⟩
def KS.on(s:KS k d F σ K T C G)(x:Sx F σ σ'):KS k d F σ' K T C G:=
 ⟨λl σ' y o w=>s.next l σ' (x.trans y) o w,λl v σ' r y o z w=>s.ret l v σ' r (x.trans y) o z w,λl σ' y o w=>s.cont l σ' (x.trans y) o w⟩
def BC:gw k d .nil:=λF L σ x K T C G h o w s=>by obtain rfl:=mi.1<|show x.isEmpty=true from h;exact fk<|s.next L σ (o.sr.here.sx o) o w
def yQ{st:Mine.S}{e:Ss}(H:fq k d st)(z:gw k d e):gw k d (.cons st e):=λF L σ x K T C G h o w s=>by
 induction x using List.casesOn with|nil=>exact ff h|cons y Y=>refine aI (a:=J9 F.env.scope.names F.ac st y) h λu p=>pA<|H F L σ y _ _ _ _ u o w ⟨λl i m O w=>?_,s.ret,s.cont⟩;exact z F l i Y K T C G p O w<|s.on m
def Sg.Jf(h:∀b,F.X0 b->σ.X b):Up σ (σ.lx F.X0):=⟨sA _,λa o s n e z H=>⟨λq=>q.elim (λq=>H<|.inl q) λq=>H<|.inr<|h a q,e⟩⟩
def Ef(u:aG k d e):fq k d (.ret e):=λF L σ x K T C G h o w s=>J8 h λy p h=>by obtain⟨y,rfl,h⟩:=any_some h;exact gu<|u F L σ y _ _ h o w λv i x a r w=>s.ret L v i x (a.sx o) (o.on a) (r.on<|Sg.Jf (o.on a).fr.out) w
def BD:fq k d .qO:=λF L σ x K T C G h o w s=>J8 h λy p h=>by obtain rfl:=Option.isNone_iff_eq_none.1 h;exact nN<|s.ret L .none σ _ (o.sr.here.sx o) o .nn w
def BE:fq k d .cont:=λF L σ x K T C G h o w s=>NB h λp=>tN<|s.cont L σ (o.sr.here.sx o) o w
def Eg(H:nS k d c)(m:gw k d a)(l:gw k d b):fq k d (.cI c a b):=λF L σ x K T C G h o w s=>Qz h λt y z p h=>co h λht j f e=>
 Kf (H F L σ t _ _ ht j o w λq i u w=>pM w (λw=>m F L i y K T C G f (o.on u) w<|s.on<|u.sx o) λw=>l F L i z K T C G e (o.on u) w<|s.on<|u.sx o)
def oz(h:tH y=false)(t:Option Expr)(line:Nat)(env:Env):swapsWith y t line env=pure false:=by rcases y<;>first|rfl|exact ff h.symm
def Eh(s:aG k d e)(N:om e=false):fq k d (.asg v e):=λF L σ x K T C G h o w l=>vz h λt y p h=>bG h λH j i=>aI H λH f=>lz H λq c=>
 dP (s F L σ y _ _ i o w λu Y U z b w=>bw (o.on z) c (λa=>b) (λq=>absurd q<|dk f) λQ m u O=>l.next _ _ ((z.sx o).trans<|.of m (λa h=>.inl h.fa) O) O w)
  (oz (dK<|(wq _ _).mp j|>.resolve_left (by rw[N];nofun)) _ _ _)
def FR.pV(f:FR k F L σ):interactive F.env=false:=by unfold interactive;rw[f.kind];rfl
def Ei{prog:Program}(Y:tF y=false)(q:Q .next s):wpAny (model prog w) A (dropValue y pos v) Q E s:=by
 have e:dropValue y pos v=dropValue (.Tuple [] 0 pos) pos v:=by rcases y<;>first|exact ff Y.symm|kernel_rfl
 rw[e];rcases v<;>first|exact e5 q|exact da<|wpAny_standAt<|da<|wpAny_runValue<|codeAny_builtin entry_let_go<|show wpAny _ _ (ret .none) _ _ s from e5<|e5 q
def BF(u:aG k d e):fq k d (.expr e):=λF L σ x K T C G h o w s=>Dm h λy p h=>aI h λH m=>by
 have c:tH y=false/\tF y=false:=by rcases y<;>first|exact⟨rfl,rfl⟩|exact ff m
 rw[exec_Expr F.env y p o.fr.pV<|oz c.1 _ _ _];exact ab<|ak<|ab<|u F L σ y _ _ H o w λv i a z l w=>al<|Ei c.2<|s.next L i (z.sx o) (o.on z) w
def Uz{y:Expr}{n:Str}{p:Pos}{l:Nat}{env:Env}(v:Expr):swapsWith v (some<|.Attribute y n p) l env=pure false:=by cases v<;>rfl
def UA{y z:Expr}{p:Pos}{l:Nat}{env:Env}(v:Expr):swapsWith v (some<|.Subscript y z p) l env=pure false:=by cases v<;>rfl
def SE{y:List Expr}{n:Nat}{p:Pos}{l:Nat}{env:Env}(v:Expr):swapsWith v (some<|.Tuple y n p) l env=pure false:=by cases v<;>rfl
def UB{y:Expr}{n:Str}{p:Pos}{env:Env}(v:Expr):swappedStores [.Attribute y n p] v env=pure none:=by cases v<;>rfl
def UC{y z:Expr}{p:Pos}{env:Env}(v:Expr):swappedStores [.Subscript y z p] v env=pure none:=by cases v<;>rfl
def t4{prog:Program}{w:World}{s:Shared}{env:Env}{t value:Expr}{pos:Pos}{Q:Flow->Shared->Prop}(H:swapsWith value (some t) pos.line env=pure false)(y:swappedStores [t] value env=pure none)(ht:(assignEach [t] env).map (·.2)=[assign t env])
 (h:aB (model prog w) A (eval value env) (λv s₁=>aB (model prog w) A (assign t env v) (λz=>Q .next) E s₁) E s):aB (model prog w) A (exec (.Assign [t] value pos) env) Q E s:=by
 rw[PyProof.Rows.exec_Assign];refine ab<|ak ?_;show aB _ _ (swapsWith value (some t) pos.line env>>=_) _ _ _;rw[H];refine ab<|ag ?_;rw[ej<|by decide];refine ab<|ai h (λv s₁ u=>?_) λz z x=>x;rw[y];refine ab<|ag ?_;rw[ht];show aB _ A (do assignAll v [assign t env];pure .next) Q E s₁;exact ab<|ai u (λz z x=>ag x) λz z x=>x
def Ej [Decidable p]{A C:Prop}(h:gF (decide p) A False)(f:p->A->C):C:=by
 cases h with
 |of H z=>by_cases c:p;.exact f c<|H<|eb c
          .exact(z<|fo c).elim
def dr:fG (e::fs) x=if e.1=x then some e.2 else fG fs x:=by
 unfold fG;rw[EW];by_cases h:e.1=x;.rw[eb h,er h];rfl
 .rw[fo h,ej h]
theorem vX(h:¬x=f):∀s:List<|Nat×V,fG (s.map λe=>if e.1=f then(e.1,v)else e) x=fG s x
 |[]=>rfl|e::s=>by
  rw[ik,dr,dr,vX h s];by_cases H:e.1=f;.rw[er H,ej λq:e.1=x=>h<|q.symm.trans H,ej λq:e.1=x=>h<|q.symm.trans H]
  .rw[ej H]
theorem fO(f x:Nat)(v:V):∀s:List<|Nat×V,fG (yf s f v) x=if x=f then some v else fG s x
 |[]=>by
  show fG [(f,v)] x=_;rw[dr];by_cases h:x=f;.rw[er h,er h.symm]
  .rw[ej h,ej λq:f=x=>h q.symm]
 |e::s=>by
  have i:=fO f x v s;unfold yf at i⊢;by_cases u:e.1=f
  .rw[er<|by rw[List.any_cons,eb u];rfl,ik,er u,dr,dr];by_cases H:x=f;.rw[er<|u.trans H.symm,er H]
   .rw[ej λq:e.1=x=>H<|q.symm.trans u,ej H,vX H,ej λq:e.1=x=>H<|q.symm.trans u]
  .rw[List.any_cons,fo u,Bool.false_or]
   have g:∀l,fG l x=(if x=f then some v else fG s x)->fG (e::l) x=if x=f then some v else fG (e::s) x:=λl h=>by
    rw[dr,dr,h];by_cases H:x=f;.rw[er H,er H,ej λq:e.1=x=>u<|q.trans H]
    .rw[ej H,ej H]
   split at i;.rename_i c;rw[er c,ik,ej u];exact g _ i
   .rename_i c;rw[ej c];exact g _ i
def Ek(s:List<|Nat×V)(f:Nat)(v:V):(yf s f v).length<=s.length+1:=by
 unfold yf;split;.rw[a9];exact Nat.le_succ _
 .rw[b9];exact i1 _
def IX.put(h:IX σ fs m)(l:RV σ v val):IX σ (yf fs f v) λn=>if n=aU f then some val else m n where
 get y u hu:=by
  rw[fO]at hu;by_cases q:y=f;.rw[er q]at hu;obtain rfl:=dR hu;exact⟨val,er<|cg aU q,l⟩
  .rw[ej q]at hu;obtain⟨x,H,s⟩:=h.get y u hu;exact⟨x,(ej λe=>q<|j4 e).trans H,s⟩
 only n hn:=by
  by_cases q:n=aU f;.exact⟨f,v,q,(fO ..).trans<|er rfl⟩
  .refine bC λp=>?_;obtain⟨y,u,z,j⟩:=h.only n<|by rwa [ej q]at hn
   exact p<|⟨y,u,z,(fO ..).trans<|(ej λe=>q<|z.trans<|cg aU e).trans j⟩
def El{f:List (Nat×V)}{x:Nat}{u:V}(h:fG f x=some u):aU x∈f.map λe=>aU e.1:=by exact Gm h λe H _=>nW.2 ⟨e,List.mem_of_find?_eq_some H,cg aU<|dk (p:=e.1=x)<|List.find?_some (p:=λe:Nat×V=>decide (e.1=x)) H⟩
set_option tactic.hygienic true in
def Em{G:Unit->Shared->Prop}(w:rO x f v σ.H Q)(r:SR k σ)(rx:RV σ x vx)(rv:RV σ v val)(q:∀σ',Af k σ σ'->Q σ'.H->G () σ'.s):wpAny (model k.prog k.w) A (setAttr vx (aU f) val) G E σ.s:=by
 cases x with
 |ref i=>
  obtain⟨p,l,rfl⟩:=rx;obtain⟨hH,w⟩:=(show wO _ _ from w);rename_i ob
  cases ob with
  |inst c j=>
   refine vG w λH w=>aI H λH O=>D8 (r.obs i p _ l hH) λm hlen ha I M fC J=>?_;obtain⟨fi,hi⟩:=Ac H
   cases r.base.cls c fi hi with
   |of nm q' N bs sn sub col dd k0 k1 k2 k3 k5 mN D hn N0 Px Py ME Pz qJ=>
    have UD:p.1≠k.cF c:=λe=>aw (e▸D)<|r.fresh p.1 (gv l).1;refine store_attr (ns:=j.map λe=>aU e.1) PySem.F.store_object (r.old _ _ D) (r.ez hn) Py (qJ f H) (D5 H) UD I (λh' UE I' hk hs=>?_) (λn tS=>?_)<|by rw[a9];have:=hS O;have:=xf;exact Ja [_] [⟨0,.v 0,.n 1000⟩] ⟨0,.v 0,.n 16777216⟩ 1 [1] rfl hlen
    .obtain⟨o0,e0,_⟩:=id I;have QW:=J o0 e0;refine q _ (r.set (s':=⟨h',σ.s.gens,σ.s.drawn,UE,σ.s.os⟩) (o:=.inst c<|yf j f v) l (λb o Jh CO e=>hk b o Jh (λQX dx eo ed=>(dR<|(J QX eo).symm.trans ed).symm▸CO) e) ⟨rfl,rfl,rfl⟩ λu=>?_) w;refine bC λzG=>?_;obtain⟨o1,s,c1,d1,z⟩:=I';obtain⟨o2,a,c2,d2,s2,N4⟩:=hs o0 e0;obtain rfl:=dR<|s.symm.trans a;refine zG ?_;have Y:=N4 p.2 QW;rcases z with⟨z,_⟩|⟨dx,z,t2,t3⟩;.exact nomatch(Y.symm.trans z)
     .obtain rfl:=dR<|Y.symm.trans z;refine .of o1 _ (c0 (Ek j f v)<|hS O) (λy u U=>?_) fC s c1 d1 Y t3<|(M.on u).put<|rv.on u;rw[fO]at U;split at U;.rename_i e;exact e▸H
      .exact ha y u U
    .obtain⟨y,u,s,a⟩:=M.only n tS;exact s▸El a
  |_=>exact False.elim w
 |_=>exact False.elim w
set_option tactic.hygienic true in
def En{G:Unit->Shared->Prop}(w:Da x y v σ.H Q)(r:SR k σ)(U:A.units+40<cLine)(O:RV σ x vx)(Y:RV σ y vy)(s:RV σ v val)(q:∀σ',Af k σ σ'->Q σ'.H->G () σ'.s):wpAny (model k.prog k.w) A (setItem vx vy val) G E σ.s:=by
 cases x with
 |ref i=>
  obtain⟨p,z,rfl⟩:=O;obtain⟨m,w⟩:=(show wO _ _ from w);rename_i ob
  cases ob with
  |dict D I=>exact vG w λN w=>Ej w λH w=>DD r z (r.obs i p _ z m) (dS (ih (by decide) _) U) N Y s H λs' a=>q _ a w|list l=>cases r.obs i p _ z m with
   |of n xs j M f c=>
    refine Y.bx w λa t w=>Ej w λH w=>?_;have same:Heap.SameBut p.1 σ.s.heap (σ.s.heap.update p.1<|Obj.mapSeq (·.setIfInBounds a.toNat val)):=Cp _ _ _;have hz:=c.size;have r6:=xf;refine ki_setAt (n:=n) f H.1 (Int.lt_of_lt_of_le H.2<|Int.le_of_lt<|QN j) (hz.symm▸H.2) ?_
    exact q _ (r.set (o:=.list<|l.set a.toNat v) (s':={σ.s with heap:=σ.s.heap.update p.1 (Obj.mapSeq (·.setIfInBounds a.toNat val))}) z (λb o J _ e=>(same.2 b J).trans e) ⟨rfl,rfl,rfl⟩ λu=>
     .of _ _ (by rw[List.length_set];exact j) M (f.update _) (by rw[Array.toList_setIfInBounds];exact(c.on u).set _<|s.on u)) w
  |_=>exact False.elim w
 |_=>exact False.elim w
def lM{ob:Mine.E}{L:Loc}{G:Unit->Shared->Prop}(J:aG k d ob)(h:aV F.env.scope.names F.ac ob y=true)(o:Ok k d F L σ)(l:RV σ v val)(w:wE (wC d) ob L σ.H λx H=>rO x f v H Q)(q:∀σ',Af k σ σ'->Q σ'.H->G () σ'.s):
 WN k F.A (assign (.Attribute y (aU f) ap) F.env val) G σ.s:=by
 unfold WN;rw[arm_assign_Attribute];exact ab<|aj<|J F L σ y _ _ h o w λx i s z u w=>ab<|ak<|ab<|aj<|al<|Em w z.sr u (l.on z.up) λI a w=>jX<|q I (z.trans a) w
def BG{ob:Mine.E}(J:aG k d ob)(s:aG k d e):fq k d (.bn ob f e):=λF L σ x K T C G h o w m=>vz h λt z p h=>aI h λH l=>vr H λy n c h=>aI h λj H=>by obtain rfl:=cj j;exact t4 (Uz z) (UB z) rfl (s F L σ z _ _ l o w λv b Y a i w=>lM J H (o.on a) i w λI u w=>m.next L I ((a.trans u).sx o) (o.on<|a.trans u) w)
def BH{ob i e:Mine.E}(J:aG k d ob)(H:aG k d i)(l:aG k d e):fq k d (.fg ob i e):=λF L σ x K T C G h o w j=>vz h λt u p h=>aI h λh f=>Di h λy z ap h=>bG h λh0 c b=>by
 refine t4 (UA u) (UC u) rfl (l F L σ u _ _ f o w λv Y val s Q w=>?_);rw[arm_assign_Subscript]
 refine ab (aj (J F L Y y _ _ c (o.on s) w λxo I vo m O w=>ab (aj (H F L I z _ _ b (o.on<|s.trans m) w λxi CK vi U N w=>
  ab (ak<|ab<|aj<|al<|En w U.sr o.MD (O.on U.up) N ((Q.on m.up).on U.up) λD M w=>jX ?_)))));have a:=((s.trans m).trans U).trans M;exact j.next L D (a.sx o) (o.on a) w
end
end
def Ji{α:Type _}{c:Bool}{a b x:α}(h:a=x)(H:b=x):(if c=true then a else b)=x:=by cases c;exact H;exact h
def Ad{α:Type _}{c:Bool}{a b x y:α}(h:a=x\/a=y)(H:c=false->b=x\/b=y):(if c=true then a else b)=x\/(if c=true then a else b)=y:=by cases c;exact H rfl;exact h
def KF{α:Type _}{c:Bool}{a b x y:α}(h:c=true->a=x\/a=y)(H:c=false->b=x\/b=y):(if c=true then a else b)=x\/(if c=true then a else b)=y:=by cases c;exact H rfl;exact h rfl
def Ha{α:Type}{l:List α}{p:α×α}(h:two l=some p):l=[p.1,p.2]:=match l,h with|[a,b],h=>by obtain rfl:=dR h;rfl
section
variable{k:Cx}{d:Nat}{F:Fr}{L:Loc}{σ σ':Sg}{A:Around}{E:Value->Shared->Prop}
def N5{y:List Expr}{n:Nat}{p:Pos}{l:Nat}{env:Env}(v:Expr):swapsWithSole [.Tuple y n p] v l env=pure false:=SE (y:=y) (n:=n) (p:=p) (l:=l) (env:=env) v
def UF{y z:Expr}{m n:Str}{p q r:Pos}{j:Nat}{env:Env}(v:Expr):swappedStores [.Tuple [.Attribute y m p,.Attribute z n q] j r] v env=pure none:=by cases v<;>first|rfl|exact Ji rfl (Ji rfl rfl)
def yR{ob i:Mine.E}{f Y:Nat}{e:Mine.E}(J:aG k d ob)(I:aG k d i)(D:aG k d e):fq k d (.uV ob f i Y e):=λF L σ x K T C G h o w ks=>vz h λt z pos h=>aI h λh h3=>f0 h λts kk tp h=>vq h λt1 t2 h=>aI h λH u=>
 vr (x:=t1) H λy n ap h=>aI h λh0 H=>vr (x:=t2) u λy' n' UH h=>aI h λUI u=>by
 obtain rfl:=cj h0;obtain rfl:=cj UI;refine t4 (SE z) (UF z) rfl (D F L σ z _ _ h3 o w λv σ1 val s r1 w=>r1.d7 w λl a n items hl hn hit O w=>rt w λp ep w=>?_);obtain rfl:=Ha ep;refine lE o.rm.2.2 ⟨_,hit,rfl,n,rfl⟩ (by rw[O.size];rfl) rfl λh' yK=>?_;have j:=s.sr.keep (s':={σ1.s with heap:=h'}) (λb o e=>yK b o (q0<|p9 e) e) ⟨rfl,rfl,rfl⟩;have c:=O.on j.up;generalize items.toList=its at c;obtain⟨w1,ws,q1,c,rfl⟩:=c;obtain⟨N,Q,q2,c,rfl⟩:=c;have M:=o.on<|s.trans j;refine ab (m:=holding (N::Q)<|assign (.Attribute y (aU f) ap) F.env w1)<|aj<|lM J H M q1 w λCK U w=>ab (m:=holding Q<|assign (.Attribute y' (aU Y) UH) F.env N)<|aj<|lM I u (M.on U) (q2.on U.up) w λkT a4 w=>?_;have a:=((s.trans j).trans U).trans a4;rcases Q<;>exact ag<|ks.next L kT (a.sx o) (o.on a) w
theorem lN:∀{l:List Nat},Pt l=true->l.Nodup
 |[],_=>List.nodup_nil|a::l,h=>aI h λH z=>EV.2 ⟨λm=>tq.1 (dK H)<|Hg.2 ⟨a,m,Nat.beq_refl a⟩,lN z⟩
def vY{a b:Nat}{u v:V}(h:a≠b):upd (upd L a u) b v=upd (upd L b v) a u:=by
 funext y;unfold upd;by_cases H:y=b;.rw[er H,er H,ej λq=>h<|q.symm.trans H]
 .rw[ej H,ej H]
theorem pW:∀(es:List<|Nat×V) (L:Loc) (a:Nat) (u:V),a∉es.map (·.1)->es.foldl (λL e=>upd L e.1 e.2) (upd L a u)=upd (es.foldl (λL e=>upd L e.1 e.2) L) a u
 |[],L,a,u,_=>rfl|e::es,L,a,u,h=>(cg (es.foldl λL e=>upd L e.1 e.2)<|vY λq=>h<|by rw[q];exact .head _).trans<|pW es _ a u λm=>h<|.tail _ m
theorem r7:∀(es:List<|Nat×V) (L:Loc),(es.map (·.1)).Nodup->es.reverse.foldl (λL e=>upd L e.1 e.2) L=es.foldl (λL e=>upd L e.1 e.2) L
 |[],L,_=>rfl|e::es,L,h=>by have h:=EV.1<|show(e.1::es.map (·.1)).Nodup from h;rw[List.reverse_cons,List.foldl_append,r7 es L h.2];exact(pW es L _ _ h.1).symm
theorem r8{s:Ks}{f:Expr->Option Str}(z:∀id p,f (.Name id p)=some id\/f (.Name id p)=none):∀{xs:List Nat} {T:List Expr},iQ s xs T=true->(T.filterMap f).length=T.length->T.filterMap f=xs.map aU
 |[],T,h,_=>by obtain rfl:=mi.1<|show T.isEmpty=true from h;rfl
 |x::xs,[],h,_=>ff h|x::xs,e::es,h,H=>aI (a:=vt s x e) h λy u=>by
  revert H;refine lz (C:=λe=>((e::es).filterMap f).length=(e::es).length->(e::es).filterMap f=(x::xs).map aU) y λp m H=>?_;rw[List.filterMap_cons]at H⊢;rcases z (aU x) p with q|q
  .rw[q]at H⊢;exact cg _<|r8 z u<|Nat.succ.inj H
  .rw[q]at H;exact absurd (List.length_filterMap_le f es)<|Nat.not_le.2<|Nat.lt_of_lt_of_eq (yb _) H.symm
set_option tactic.hygienic true in
def j9{z:Ks}{xs:List Nat}{T:List Expr}{j:Nat}{p:Pos}{value:Expr}{env:Env}(ht:iQ z xs T=true)(H:yA value=true):
 swappedStores [.Tuple T j p] value env=pure none\/swappedStores [.Tuple T j p] value env=pure (some<|xs.map aU):=by
 rcases value<;>first|exact .inl rfl|skip
 rename_i s u m;refine Ad (.inl rfl) λ_=>Ad (.inl rfl) λ_=>Ad (.inl rfl) λN=>?_;rw[Bool.or_eq_false_iff]at N;have e:=bne_eq_false_iff_eq.1 N.1;have U:=r8 (λid p=>by dsimp only;split<;>simp) ht e;refine Ad (.inl rfl) λy=>KF (λx=>?_) λ_=>.inr<|cg (λl=>pure<|some l) U;have H:(!(!(s.all (foldedForSure 8)||!(s.all<|constantsAlone 8))))=true:=H;rw[y,x]at H;exact ff H
def BI{vs:List Nat}{e:Mine.E}(he:aG k d e):fq k d (.dh vs e):=λF L σ x K T C G h o w ks=>vz h λt y pos h=>co h λh e1 e2 h4=>aI h4 λe3 e4=>f0 h λts j p M=>by
 have H:∀x∈vs,F.ac≠some x:=λx H=>dk<|ft.1 e3 x H
 have un:∀{v:V} {val:Value} {z:Sg} {Q:Loc->Prop} {C:Value->Prop},RV z v val->wM (jC vs v L) Q->(∀l a n I,vs.length=l.length->l.length<=sizeLine->¬NI z a->IsT z.s.heap a I n->aN z l I.toList->Q ((vs.zip l).foldl (λL e=>upd L e.1 e.2) L)->C (.ref a))->C val:=λ{v val z Q C} r w f=>
  rt w λL1 J w=>by refine zL J λl h1 J=>?_;obtain⟨N,rfl⟩:=ew J;exact r.d7 (C:=C) (g4 h1) λl' a n I U O Y D q5=>by cases q5;exact f l a n I N U O Y D w
 rcases j9 (j:=j) (p:=p) (env:=F.env) M e2 with hw|hw
 .exact fM (he F L σ y _ _ e4 o w λv z val c r1 w=>un (C:=λval=>wpAny (model k.prog k.w) F.A (assign (.Tuple ts j p) F.env val) (λzz=>G .next) _ z.s) r1 w λl a n I N U O Y D w=>
   iS o.rm.2.2 M H N (o.on c) (.tt U O Y D) λs' m u o'=>ks.next _ _ ((c.sx o).trans<|.of m (λzz h=>.inl h.fa) o') o' w) (N5 y) hw
 .refine cO (he F L σ y _ _ e4 o w λv z val c r1 w=>un (C:=λval=>wpAny (model k.prog k.w) F.A (unpackItems val (vs.map aU).length none) _ _ z.s) r1 w λl a n I N U O Y hs w=>?_) (N5 y) hw;rw[show(vs.map aU).length=I.size by rw[a9,N,hs.size]];refine wpAny_unpackItems_tuple o.rm.2.2 ⟨_,Y,rfl,n,rfl⟩ λh' yK=>?_;have a2:=c.sr.keep (s':={z.s with heap:=h'}) (λb o e=>yK b o (q0<|p9 e) e) ⟨rfl,rfl,rfl⟩;refine bC λzG=>?_;obtain⟨t1,t2,t3⟩:=lL M;refine zG<|lK (xs:=vs.reverse) (vs:=l.reverse) (by simp) (λi x ff QV MF val s Q E hq=>?_) (λx m=>⟨t3 x<|List.mem_reverse.1 m,H x<|List.mem_reverse.1 m⟩) (by rw[List.length_reverse,List.length_reverse,N]) (o.on<|c.trans a2) (hs.on a2.up).rev λs3 m3 u3 o3=>?_
  .rw[qa,<-List.map_reverse,qa,QV]at MF;obtain rfl:=dR MF;exact wpAny_bindName hq
  .have N6:vs.reverse.zip l.reverse=(vs.zip l).reverse:=(List.reverse_zipWith N).symm;rw[N6,r7 _ L<|by rw[List.map_fst_zip<|rn N];exact lN e1]at o3;exact ks.next _ _ (((c.trans a2).sx o).trans<|.of m3 (λzz h=>.inl h.fa) o3) o3 w
def BJ{v:Nat}:fq k d (.yc v):=λF L σ x K T C G h o w s=>J8 h λy p h=>by
 obtain⟨y,rfl,h⟩:=any_some h;refine aI h λH m=>lz (C:=λy=>WN k F.A (exec (.Return (some y) p) F.env) G σ.s) H λq j=>rt w λu e w=>bC λz=>?_;obtain⟨O,b,_,i⟩:=o.fr.vars v u e<|eA j
 refine z ?_;cases i<|dk m with|of l a n N f c Y hX U I Q=>refine bC λz=>?_;subst f c;exact z<|gu<|al<|ow o.fr.kind b (j5 v)<|s.ret L (.lst l) σ _ (o.sr.here.sx o) o (.ll (tW Y) (λq=>q.elim (o.sr.eh a hX).1 U) I<|Q.on<|Sg.Jf o.fr.out) w
end
section
noncomputable def Sg.ac(σ:Sg)(F:Fr)(a:Addr)(s':Shared):Sg:=⟨σ.g,σ.H,s',λb=>F.X0 b\/b=a,σ.z⟩
noncomputable def off(L:Loc)(x:Nat):Loc:=λy=>if y=x then none else L y
def t5{L:Loc}{x:Nat}:upd (off L x) x v=upd L x v:=by
 funext y;unfold upd off;by_cases h:y=x;.rw[er h,er h]
 .rw[ej h,ej h,ej h]
section
variable{k:Cx}{d:Nat}{F:Fr}{L:Loc}{σ σ':Sg}{A:Around}{E:Value->Shared->Prop}{x:Nat}{l:List V}
structure Ready(k:Cx)(d:Nat)(F:Fr)(L:Loc)(x:Nat)(l:List V)(a:Addr)(σ σ':Sg):Prop where
 ok:Ok k d F (off L x) σ'
 sx:Sx F σ σ'
 up:Up σ σ'
 acc:Acc F σ' (.lst l) (.ref a)
def pY(o:Ok k d F L σ)(M:F.ac=some x)(Q:l.length<=1000)(u:aN σ l vs.toList)(e:s'={σ.s with heap:=σ.s.heap.push {cls:=.type "list",data:=.seq vs} }):Ready k d F L x l σ.s.heap.objs.size σ (σ.ac F σ.s.heap.objs.size s'):=by
 subst e;have J:=bj σ.s.heap;have H:∀b o,σ.h b=some o->(σ.s.heap.push {cls:=.type "list",data:=.seq vs}).get? b=some o:=λb o e=>fz _ e;have G:(σ.s.heap.push {cls:=.type "list",data:=.seq vs}).get? σ.s.heap.objs.size=some {cls:=.type "list",data:=.seq vs}:=hW _ rfl;have j:∀b,(F.X0 b\/b=σ.s.heap.objs.size)->σ.X b\/σ.h b=none:=λb h=>h.imp (o.fr.out b) λ(e:b=_)=>e▸J;have i:=λb h=>cT (s:=σ.s) (s':={σ.s with heap:=σ.s.heap.push {cls:=.type "list",data:=.seq vs} }) H b h;obtain⟨O,up⟩:=o.sr.step (W:=No) (H':=σ.H) (s':={σ.s with heap:=σ.s.heap.push {cls:=.type "list",data:=.seq vs} }) (X':=λb=>F.X0 b\/b=σ.s.heap.objs.size) (λb o z=>H b o) ⟨rfl,rfl,rfl⟩ rfl
  (λb h=>h.elim (λh=>have a:=o.sr.eh b<|o.fr.out b h;⟨a.1,i b a.2.1,a.2.2⟩) λe=>e▸⟨λm=>o.sr.bound _ m J,aw G,o.sr.g3 J⟩) j (λz h=>h.elim) λz z z z z h=>.inr ⟨h,id,id⟩;have U:∀b,FA F.env b->¬(F.X0 b\/b=σ.s.heap.objs.size):=λb h q=>(j b q).elim (o.fr.apart b h).2.1 (o.fr.apart b h).2.2.2;have f:=o.fr
 refine⟨⟨o.rm,O,{kind:=f.kind,glob:=f.glob,blt:=f.blt,bK:=f.bK,cE:=f.cE
                 loc:=f.loc.imp λm N=>vF N λo e=>H _ o e
                 cells:=λn c T=>⟨(f.cells n c T).1,(f.cells n c T).2.imp λv h=>cellAt h λo e=>H _ o e⟩
                 vars:=λy v p u=>?_
                 apart:=λb h=>have a:=f.apart b h;⟨a.1,U b h,a.2.2.1,i b a.2.2.2⟩
                 out:=λb h=>.inl h}⟩,
  ⟨⟨sA _,λb o e z z=>H b o e,λb h=>.inl h,λb z=>i b,rfl⟩,j,U⟩,up,.of l _ 0 vs rfl rfl (c0 Q<|by decide) (.inr rfl) (λq=>(o.sr.eh _<|f.out _ q).2.1 J) G (u.on up)⟩;unfold off at p;by_cases Y:y=x;.rw[er Y]at p;exact nomatch p
 .rw[ej Y]at p;refine bC λI=>?_;obtain⟨D,h1,h2,h3⟩:=f.vars y v p u;exact I<|⟨D,h1.keep λb o z e=>H b o e,λh=>(h2 h).on up,λh=>absurd (dR<|M.symm.trans h).symm Y⟩
theorem Ready.on(r:Ready k d F L x l a σ σ1)(c:Af k σ1 br):Ready k d F L x l a σ br:=
 ⟨r.ok.on c,r.sx.trans<|c.sx r.ok,⟨r.up.pre.trans c.up.pre,λa o s n e d h=>have b:=r.up.keep a o s n e d h;c.up.keep a o s n b.2 d b.1⟩,
   r.acc.on c.up (λb o H z e=>c.ex.m.keep b o e (r.ok.sr.eh b H).1 id) λb H z=>c.ex.X▸H⟩
theorem Ready.pre(r:Ready k d F L x l a σ1 br)(c:Af k σ σ1)(o:Ok k d F L σ):Ready k d F L x l a σ br:=
 ⟨r.ok,(c.sx o).trans r.sx,⟨c.up.pre.trans r.up.pre,λa o s n e d h=>have b:=c.up.keep a o s n e d h;r.up.keep a o s n b.2 d b.1⟩,r.acc⟩
def Eo(h:isVar ks (aU v)=true):vt ks v (.Name (aU v) p)=true:=by show(cq _ _&&isVar ks _)=true;rw[cZ,h];rfl
def vZ{l:Es}(p:iR k d l):fq k d (.iX v l):=λF L σ x K T C G h o w j=>vz h λt y pos h=>aI h λh i=>aI h λf z=>lz f λq c=>listE i λY b h=>aI h λH U=>
 dP (pr (p F L σ Y b _ _ U o w λvs M Q e a s w=>⟨s.len.symm▸e▸im H,by
  have rd:=pY (l:=vs) (vs:=Q.toArray) (o.on a) (dk z) (e▸hS H) s rfl
  exact bw rd.ok c (λq=>absurd (dk z) q) (λN=>rd.acc) λJ m u O=>by
   rw[t5]at O
   exact j.next _ _ (((a.sx o).trans rd.sx).trans<|.of m (λN h=>.inl h.fa) O) O w⟩)) (by obtain⟨⟩:=pos;rfl)
def Ae(o:Ok k d F L σ)(T:F.ac=some x)(H:Bound F.env σ.s.heap (aU x)<|.ref a)(M:σ.X a)(i:¬F.X0 a)(J:IsL σ.s.heap a xs n)
 (f:Array Value->Array Value) (I:l'.length<=cn) (G:aN σ l' (f xs).toList) (e:s'={σ.s with heap:=σ.s.heap.update a (Obj.mapSeq f)}):Sx F σ (σ.w s')/\Ok k d F (upd L x<|.lst l') (σ.w s'):=by
 subst e;have same:Heap.SameBut a σ.s.heap (σ.s.heap.update a<|Obj.mapSeq f):=Cp _ _ _;have s:∀b o,¬b=a->σ.h b=some o->(σ.s.heap.update a<|Obj.mapSeq f).get? b=some o:=λb o q e=>(same.2 b q).trans e;have U:=J.update f;have Q:∀b,σ.h b≠none->(σ.s.heap.update a<|Obj.mapSeq f).get? b≠none:=λb H=>(Classical.em<|b=a).elim (λq=>by subst q;exact aw U) λq=>let⟨_,e⟩:=cC H;aw (s b _ q e);obtain⟨D,mv,up⟩:=o.sr.own (W:=λb=>b=a) (s':={σ.s with heap:=σ.s.heap.update a (Obj.mapSeq f)}) s (λb q=>Q b (o.sr.eh b q).2.1) (λb q=>q▸⟨(o.sr.eh a M).1,(o.sr.eh a M).2.2,.inl M⟩) ⟨rfl,rfl,rfl⟩;have z:=o.fr;have p:∀b o,FA F.env b->σ.h b=some o->(σ.s.heap.update a<|Obj.mapSeq f).get? b=some o:=λb o q e=>s b o (λu=>(z.apart b q).2.1<|u▸M) e
 refine⟨⟨mv.wk λb q O=>.inr<|q▸⟨M,i⟩,λO h=>.inl h,λb h=>(z.apart b h).2.1⟩,o.rm,D,⟨z.kind,z.glob,z.blt,z.loc.imp λm hm=>vF hm λo e=>p _ o (.inl rfl) e,λn c j=>⟨(z.cells n c j).1,(z.cells n c j).2.imp λv h=>cellAt h λo e=>p _ o (.inr ⟨n,j⟩) e⟩,z.bK,z.cE,λy u N UM=>?_,
  λb h=>have a:=z.apart b h;⟨a.1,a.2.1,a.2.2.1,Q b a.2.2.2⟩,z.out⟩⟩;by_cases Y:y=x
 .cases Y;obtain rfl:=dR<|(er rfl:upd L x (.lst l') x=_).symm.trans N;exact⟨.ref a,H.keep p,λq=>absurd T q,λO=>.of l' a _ _ rfl rfl I M i U (G.on up)⟩
 .refine bC λzG=>?_;obtain⟨val,h1,h2,h3⟩:=z.vars y u ((ej Y:upd L x (.lst l') y=L y).symm.trans N) UM;exact zG<|⟨val,h1.keep p,λq=>(h2 q).on up,λq=>absurd (dR<|T.symm.trans q).symm Y⟩
def Ag{l:List V}{C:Prop}(o:Ok k d F L σ)(M:F.ac=some v)(p:isVar F.env.scope.names (aU v)=true)(e:L v=some (.lst l))(f:∀a n xs,Bound F.env σ.s.heap (aU v) (.ref a)->l.length<=cn->σ.X a->¬F.X0 a->IsL σ.s.heap a xs n->aN σ l xs.toList->C):C:=by
 obtain⟨m,b,_,T⟩:=o.fr.vars v _ e<|eA p
 cases T M with|of j a n xs z u H hX y I s=>cases z;subst u;exact f a n xs b H hX y I s
def mU(h:lA y n f=true):tH y=false/\tF y=false:=Dj h λz z z z z=>⟨rfl,rfl⟩
def Ah{id:String}{l:List V}{K:Value->Shared->Prop}(h:tK F.env.scope.names F.ac v n y g=true)(o:Ok k d F L σ)(e:L v=some (.lst l))(i:Slot "list" n id)(ht:typeOf (.builtin id)=pure (.type "method_descriptor"))
 (f:∀z a pos,g z=true->F.ac=some v->isVar F.env.scope.names (aU v)=true->Bound F.env σ.s.heap (aU v) (.ref a)->aB (model k.prog k.w) F.A (callWith pos (.builtin id) [.ref a] [(false,eval z F.env)] []) K (λu u=>False) σ.s):WN k F.A (eval y F.env) K σ.s:=
 j8 h λob c pos h=>aI h λh T=>aI h λY H=>lz (x:=ob) Y λp s=>rg (l:=c) T λz h=>aI h λhz G=>by refine⟨λx m=>by obtain rfl:=dt.1 m;exact dK hz,?_⟩;refine Ag o (dk H) s e λa m U j u u u I u=>al<|ow o.fr.kind j (j5 v) λQ=>getMethod_builtin ⟨_,I,rfl⟩ PySem.F.plainAttrs_list i ht (λb q=>by cases q;exact⟨_,I,rfl⟩) ?_;rw[show backTo pos (starEach [z] F.env)=[(false,eval z F.env)]from cg (backTo pos)<|bA (dK hz) [] F.env];exact f z a pos G (dk H) s j
def Bound.same(o:Ok k d F L σ)(c:Af k σ σ1)(h:Bound F.env σ.s.heap (aU v)<|.ref a)(H:Bound F.env σ1.s.heap (aU v)<|.ref b):a=b:=
 Value.ref.inj (Bound.uniq (h.keep λb O z e=>c.ex.m.keep b O e (o.fr.apart b z).1 id) H)
def t6(i:aG k d e):fq k d (.eP v e):=λF L σ x K T C G h o w f=>Dm h λy pos h=>rt w λu U w=>rt w λl c w=>by obtain rfl:=d3 c;obtain⟨b,Y⟩:=mU h;rw[exec_Expr F.env y pos o.fr.pV<|oz b _ _ _];refine ab<|ak<|ab<|Ah h o U PySem.F.slot_list_append PySem.F.type_list_append λz a p Q M O N=>nO<|i F L σ z _ _ Q o w λJ σ1 D s r1 w=>Ej w λhlen w=>Ag (o.on s) M O U λa' n m j hl hX h0 I H=>?_;obtain rfl:=Bound.same o s N j;refine⟨m,n,H.size▸tW hl,I,al<|Ei Y ?_⟩;obtain⟨sx,o2⟩:=Ae (l':=l++[J]) (o.on s) M j hX h0 I (λm=>m.push D) (by rw[b9];exact hlen) (by rw[Array.toList_push];exact H.app<|.one r1) rfl;exact f.next _ _ ((s.sx o).trans sx) o2 w
set_option tactic.hygienic true in
@[elab_as_elim] theorem KG {v:V} {val:Value} {Q:List V->Prop} {D:Value->Prop} (G:SR k σ) (z:RV σ v val) (w:Nh v σ.H Q) (f:∀r b n xs,IsL σ.s.heap b xs n->aN σ r xs.toList->Q r->D (.ref b)):D val:=by
  cases v with
  |lst l=>exact z.jQ λa n vs y y H s=>f l a n vs H s w|ref i=>
   obtain⟨p,u,rfl⟩:=z;obtain⟨h,w⟩:=(show wO _ _ from w);rename_i ob
   induction ob using Ob.casesOn with
   |list l=>obtain⟨n,vs,_,_,T,m⟩:=G.rd u h;exact f l p.1 n vs T m w
   |_=>exact False.elim w
  |_=>exact False.elim w
def v3(O:aG k d e):fq k d (.kV v e):=λF L σ x K T C G h o w J=>Dm h λy pos h=>rt w λu U w=>rt w λl D w=>by
 obtain rfl:=d3 D;obtain⟨c1,c2⟩:=mU h;rw[exec_Expr F.env y pos o.fr.pV<|oz c1 _ _ _];refine ab<|ak<|ab<|Ah h o U PySem.F.slot_list_extend PySem.F.type_list_extend λz a p hg M hv hb=>nP<|O F L σ z _ _ hg o w λvu σ1 xu s r1 w=>KG s.sr r1 w λr b nb Y UN H w=>Ej w λN w=>Ag (o.on s) M hv U λa' n m i hl hX h0 I f=>?_;obtain rfl:=Bound.same o s hb i;have r6:=xf;have j:=f.size;have c:=H.size;refine⟨b,m,Y,n,nb,(Ja [_,_,_] [⟨0,.a (.v 0)<|.v 1,.n 1000000⟩,⟨2,.v 2,.v 0⟩] ⟨0,.v 2,.n 16777216⟩ 1 [1,1] rfl N j),(Ja [_,_,_,_] [⟨0,.a (.v 0)<|.v 1,.n 1000000⟩,⟨2,.v 2,.v 0⟩,⟨2,.v 3,.v 1⟩] ⟨0,.a (.v 2)<|.v 3,.n 16777217⟩ 1 [1,1,1] rfl N j c),λq=>?_,rfl,I,UN,al<|Ei c2 ?_⟩
 .have Q:=(jT.1 q).2;unfold Builtin.List.listTooLong at Q;simp at Q;exact wQ 0<|Ja [_,_,_,_] [⟨0,.a (.v 0)<|.v 1,.n 1000000⟩,⟨2,.v 2,.v 0⟩,⟨2,.v 3,.v 1⟩,⟨1,.n 16777216,.a (.v 2)<|.v 3⟩] ⟨0,.n 1,.n 0⟩ 15777217 [1,1,1,1] rfl N j c Q
 obtain⟨sx,o2⟩:=Ae (l':=l++r) (o.on s) M i hX h0 I (λm=>m++Y) (by rw[b9];exact N) (f.GS H) rfl;exact J.next _ _ ((s.sx o).trans sx) o2 w
def BK(swap:Bool)(rd:Ready k d F L x l b σ0 σ)(M:F.ac=some x)(Y:F.ac≠some y)(s:isVar F.env.scope.names (aU x)=true)(p:isVar F.env.scope.names (aU y)=true)(H:RV σ v val)
 (q:∀s',Sx F σ (σ.w s')->Ok k d F (upd (upd L x<|.lst l) y v) (σ.w s')->Q () s'):
 wpAny (model k.prog k.w) A (storeName F.env (aU<|cond swap x y)<|cond swap (.ref b) val) (λz=>wpAny (model k.prog k.w) A (storeName F.env (aU<|cond swap y x)<|cond swap val<|.ref b) Q E) E σ.s:=by
 induction swap using Bool.casesOn with|false=>refine bw rd.ok p (λz=>H) (λq=>absurd q Y) λs1 m1 U u=>bw (σ:=σ.w s1) u s (λq=>absurd M q) (λz=>rd.acc.on U (λb o hX z e=>m1.keep b o e (rd.ok.sr.eh b hX).1 λq=>(rd.ok.fr.apart b q.fa).2.1 hX) λz h z=>h) λs2 m2 m O=>?_;rw[vY λe:y=x=>Y<|e▸M,t5]at O;exact q _ ((Sx.of m1 (λz h=>.inl h.fa) u).trans<|.of m2 (λz h=>.inl h.fa) O) O|true=>refine bw rd.ok s (λq=>absurd M q) (λz=>rd.acc) λs1 m1 U u=>?_;refine bw (σ:=σ.w s1) u p (λz=>H.on U) (λq=>absurd q Y) λs2 m2 m O=>?_;rw[t5]at O;exact q _ ((Sx.of m1 (λz h=>.inl h.fa) u).trans<|.of m2 (λz h=>.inl h.fa) O) O
def t7{l:Es}(he:aG k d e)(hl:iR k d l):fq k d (.oi y e v l):=λF L σ x K T C G h o w ks=>vz h λt yy pos h=>bG h λQ h H=>f0 h λts j tp h=>vq (l:=ts) h λt1 t2 h=>co h λh1 O h2 M=>
 lz (x:=t1) h1 λp1 vy=>lz (x:=t2) h2 λp2 vx=>by
 revert Q;refine f0 (x:=yy) H λys i2 SH h=>vq (l:=ys) h λN yl h=>bG h λnU UO h=>listE (x:=yl) h λzs J h=>aI h λhz UP Q=>?_;have O:=dk O;have M:=dk M
 have ht:iQ F.env.scope.names [y,v] [.Name (aU y) p1,.Name (aU v) p2]=true:=by show(vt _ y _&&(vt _ v _&&true))=true;rw[Eo vy,Eo vx];rfl
 have main:∀(KK:Value->Shared->Prop),(∀(a b:Addr) (I:Sg) (u:Value) (s:V) (vs:List V),Ready k d F L v vs b σ I->RV I s u->I.h a=some {cls:=.type "tuple",data:=.seq #[u,.ref b]}->K (upd (upd L v<|.lst vs) y s) I.H->KK (.ref a) I.s)->
  WN k F.A (eval (.Tuple [N,.List zs J] i2 SH) F.env) KK σ.s:=λKK f=>by
  refine rR<|bh (he F L σ N _ _ UO o w λs σ1 xa m r1 w=>bh (pr<|hl F L σ1 zs J _ _ UP (o.on m) w λvs I xs e i D w=>⟨D.len.symm▸e▸im hz,bM ⟨(by decide:2<=sizeLine),?_⟩⟩)<|bA rfl _ _)<|bA (dK nU) _ _;have rd:=(pY (l:=vs) (vs:=xs.toArray) (o.on<|m.trans i) M (e▸hS hz) D rfl).pre (m.trans i) o
  have U:=rd.ok.sr.push {cls:=.type "tuple",data:=.seq #[xa,.ref I.s.heap.objs.size]} I.s.toks
  exact f _ _ _ xa s vs (rd.on U) (((r1.on i.up).on (pY (l:=vs) (vs:=xs.toArray) (o.on<|m.trans i) M (e▸hS hz) D rfl).up).on U.up) (hW _ rfl) w
 have fin:∀(swap:Bool) {a b:Addr} {I:Sg} {u:Value} {s:V} {vs:List V} {H:Heap},Ready k d F L v vs b σ I->RV I s u->K (upd (upd L v<|.lst vs) y s) I.H->(∀b o,I.h b=some o->H.get? b=some o)->
  wpAny (model k.prog k.w) F.A (storeName F.env (aU<|cond swap v y)<|cond swap (.ref b) u) (λz=>wpAny (model k.prog k.w) F.A (storeName F.env (aU<|cond swap y v)<|cond swap u<|.ref b) (λz=>G .next) λz z=>False) (λz z=>False) {I.s with heap:=H}:=λswap {a b I u s vs H} rd Y w hk=>by
  have c:=rd.ok.sr.keep (s':={I.s with heap:=H}) hk ⟨rfl,rfl,rfl⟩;exact BK swap (rd.on c) M O vx vy (Y.on c.up) λs' sx o'=>ks.next _ _ ((rd.on c).sx.trans sx) o' w
 have SI:swapsWithSole [.Tuple [.Name (aU y) p1,.Name (aU v) p2] j tp] (.Tuple [N,.List zs J] i2 SH) pos.line F.env=pure false:=rfl
 rcases j9 (j:=j) (p:=tp) (env:=F.env) ht Q with hw|hw
 .refine fM (main _ λa b I u s vs rd Y jg w=>?_) SI hw
  obtain⟨m,i,U⟩:=dq (env:=F.env) ht
  refine wpAny_assign_Tuple o.rm.2.2 ⟨_,jg,rfl,0,rfl⟩ i m λH yK=>?_
  rw[U]
  exact wpAny_assignInOrder_more<|PyProof.Rows.assign_Name<|y1 (fin false (a:=a) rd Y w λb o e=>yK b o (q0<|p9 e) e) (λz z q=>wpAny_assignInOrder_more<|PyProof.Rows.assign_Name<|y1 q (λz z q=>wpAny_assignInOrder_none q) λz z q=>q) λz z q=>q
 .refine cO (names:=[aU y,aU v]) (main _ λa b I u s vs rd Y jg w=>?_) SI hw
  refine wpAny_unpackItems_tuple o.rm.2.2 (items:=#[u,.ref b]) ⟨_,jg,rfl,0,rfl⟩ λH yK=>?_
  exact wpAny_assignInOrder_more<|wpAny_bindName<|y1 (fin true (a:=a) rd Y w λb o e=>yK b o (q0<|p9 e) e) (λz z q=>wpAny_assignInOrder_more<|wpAny_bindName<|y1 q (λz z q=>wpAny_assignInOrder_none q) λz z q=>q) λz z q=>q
end
end
abbrev SV:=List<|Str×Value
noncomputable def v4(r:SV)(p:Str×Value):SV:=if(r.lookup p.1).isNone then r++[p]else r
theorem pZ(n:Str)(z:SV):∀r:SV,(r++z).lookup n=(r.lookup n).or (z.lookup n)
 |[]=>rfl|a::r=>by
  rw[List.cons_append,wh,wh]
  cases n==a.1 with|true=>rfl|false=>exact pZ n z r
theorem kc:∀(L r:SV),(L.foldl v4 r).lookup n=(r.lookup n).or (L.lookup n)
 |[],r=>(Option.or_none).symm|p::L,r=>by
  rw[List.foldl_cons,kc L,wh];unfold v4
  cases e:r.lookup p.1 with
  |none=>show((r++[p]).lookup n).or _=_;rw[pZ,Option.or_assoc,wh];cases n==p.1<;>rfl|some v=>
   show(r.lookup n).or _=_
   cases h:n==p.1 with|true=>rw[beq_iff_eq.1 h,e];rfl|false=>rfl
theorem t8:∀{ns:List Str} {vs:List Value} {i:Nat} {n:Str},ns.Nodup->ns[i]?=some n->(ns.zip vs).lookup n=vs[i]?
 |[],_,_,_,_,e=>nomatch e|m::ns,[],i,n,_,_=>by rw[List.zip_nil_right];rfl|m::ns,v::vs,0,n,_,e=>by obtain rfl:=dR e;rw[List.zip_cons_cons,wh,Fe];rfl
 |m::ns,v::vs,i+1,n,H,e=>by have h:=EV.1 H;rw[List.zip_cons_cons,wh,BB.2 λq:n=m=>h.1<|q▸nf e];exact t8 h.2 e
def slots(ns:List Str)(vs ds:List Value):SV:=((ns.drop<|ns.length-ds.length).zip ds).foldl v4<|ns.zip vs
def binds(ns:List Str)(vs ds:List Value):SV:=ns.filterMap λn=>((slots ns vs ds).lookup n).map (n,·)
def Er{ns:List Str}{vs ds:List Value}{i:Nat}{n:Str}(H:ns.Nodup)(z:ns.length<=vs.length+ds.length)(T:ds.length<=ns.length)(e:ns[i]?=some n):(slots ns vs ds).lookup n=(vs++ds.drop (vs.length+ds.length-ns.length))[i]?:=by
 unfold slots;rw[kc,t8 H e,List.getElem?_append];by_cases h:i<vs.length;.rw[er h,h8 h];rfl
 .have h:=pg h;have a:ns.length-ds.length<=i:=c0 (Nat.sub_le_of_le_add z) h;rw[ej<|Nat.not_lt.2 h,List.getElem?_eq_none h,Option.none_or,t8 (i:=i-(ns.length-ds.length)) (H.sublist<|List.drop_sublist ..)<|by rw[List.getElem?_drop,Nat.add_sub_cancel' a];exact e,List.getElem?_drop];rw[Nat.sub_sub_right _ T,<-Nat.sub_add_comm z,Nat.add_right_comm,Nat.add_sub_cancel' h]
theorem Jj(f:Str×Value->SV->Sem (ForInStep SV))(H:∀p r,f p r=pure (.yield<|v4 r p)):∀(L:SV) (r:SV),forIn L r f=pure (L.foldl v4 r)
 |[],r=>by simp|p::L,r=>by rw[List.forIn_cons,H,pure_bind];exact Jj f H L _
def Et{ns:List Str}{vs ds J:List Value}{Q:SV->Prop}(e:J=ds)(q:Q<|binds ns vs ds):Q (List.filterMap (λn=>((slots ns vs J).lookup n).map (n,·))<|ns++[]):=by rw[e,hE];exact q
def KI{K:Option (Array Value)->Shared->Prop}{E:Value->Shared->Prop}(D:(v=.none/\ds=[])\/∃T od xs n,v=.ref T/\s.heap.get? T=some od/\od.data=.seq xs n/\xs.toList=ds)
 (k:∀o,(o.getD #[]).toList=ds->K o s):wpAny M A (seqItems? v) K E s:=by
 rcases D with⟨z,e⟩|⟨T,od,xs,n,z,u,i,e⟩;.rw[z];exact e5<|k none e.symm
 .rw[z];exact wpAny_seqItems u i<|k (some xs) e
def v5{s:Shared}{nm N:Str}{z:List Arg}{kd:List (Option Expr)}{f:List Expr}{D:FuncBody}{sc:Scope}{g b:Addr}{c:List (Str×Addr)}{d y u m:Value}{k:Option Addr}{j Y:Value}{vs ds:List Value}(H:(z.map (·.arg)).Nodup)
 (U:(d=.none/\ds=[])\/∃T od xs n,d=.ref T/\s.heap.get? T=some od/\od.data=.seq xs n/\xs.toList=ds) (O:vs.length<=(z.map (·.arg)).length) (L:(z.map (·.arg)).length<=vs.length+ds.length) (J:ds.length<=(z.map (·.arg)).length):
 BindsTo s ⟨nm,N,⟨[],z,none,[],kd,none,f⟩,D,sc,g,c,d,y,u,m,k,j,Y,b⟩ ⟨vs,[]⟩ (binds (z.map (·.arg)) vs ds):=by
 intro M A E Q I
 have Ee:List.filter (λn=>(List.lookup n<|(z.map (·.arg)).zip vs).isNone) (List.take ((z.map (·.arg)).length-ds.length)<|z.map (·.arg))=[]:=List.filter_eq_nil_iff.2 λa ha=>by
  obtain⟨i,e⟩:=List.getElem?_of_mem ha;rw[List.getElem?_take]at e;split at e
  .rename_i h;rw[t8 H e,h8<|ri h<|Nat.sub_le_of_le_add L];nofun
  .exact nomatch e
 unfold bindArgs;refine da<|e5<|da<|KI U λo ho=>?_
 have G:List.drop ((o.getD #[]).toList.length-(z.map (·.arg)).length) (o.getD #[]).toList=ds:=by rw[ho,Nat.sub_eq_zero_of_le J];rfl
 refine lC (by rw[Bool.and_eq_true,decide_eq_true_iff];exactλq=>Nat.not_lt.2 O q.1)<|lC (by refine(cg (λl=>¬((!List.isEmpty l)=true))<|(cg (λd=>List.filter (λn=>(List.lookup n<|(z.map (·.arg)).zip vs).isNone)<|List.take ((z.map (·.arg)).length-List.length d)<|z.map (·.arg)) G).trans Ee).mpr ?_;nofun) ?_
 refine da<|(Jj _ (λp r=>(apply_ite (λr:SV=>(pure (ForInStep.yield r):Sem<|ForInStep SV)) ((r.lookup p.1).isNone=true) (r++[p]) r).symm) _ _).symm▸e5 ?_
 exact da<|e5<|lC nI<|e5<|Et (Q:=λb=>Q b s) (ns:=z.map λx:Arg=>x.arg) (vs:=vs) G I
def yS{p:Arguments}(H:p.posonlyargs=[])(y:p.kwonlyargs=[])(z:p.vararg=none)(Q:p.kwarg=none):p=⟨[],p.args,none,[],p.kw_defaults,none,p.defaults⟩:=by obtain⟨⟩:=p;obtain rfl:=H;obtain rfl:=y;obtain rfl:=z;obtain rfl:=Q;rfl
def v6{s:Shared}(H:fd.params.posonlyargs=[])(y:fd.params.kwonlyargs=[])(z:fd.params.vararg=none)(Q:fd.params.kwarg=none)(N:(fd.params.args.map (·.arg)).Nodup)
 (D:(fd.defaults=.none/\ds=[])\/∃T od xs n,fd.defaults=.ref T/\s.heap.get? T=some od/\od.data=.seq xs n/\xs.toList=ds) (x:vs.length<=(fd.params.args.map (·.arg)).length)
 (u:(fd.params.args.map (·.arg)).length<=vs.length+ds.length) (m:ds.length<=(fd.params.args.map (·.arg)).length):BindsTo s fd ⟨vs,[]⟩ (binds (fd.params.args.map (·.arg)) vs ds):=
 (cg (λp=>BindsTo s ⟨fd.name,fd.qualname,p,fd.body,fd.scope,fd.globals,fd.closure,fd.defaults,fd.kwdefaults,fd.doc,fd.pyModule,fd.annotations,fd.code,fd.closureTuple,fd.builtins⟩ ⟨vs,[]⟩<|binds (fd.params.args.map (·.arg)) vs ds)<|yS H y z Q).mpr (v5 N D x u m)
theorem lO:∀(names:Ks) (k:Nat) (a:List<|Str×Addr),(a.lookup n).isSome=true->((cellsFrom k names a).lookup n).isSome=true
 |[],k,a,h=>h|p::r,k,a,h=>by
  unfold cellsFrom;split
  .refine lO r _ _ ?_;rw[wh]
   cases n==p.1 with|true=>rfl|false=>exact h
  .exact lO r _ _ h
theorem io:∀(names:Ks) (k:Nat) (a:List<|Str×Addr),names.lookup n=some .cell->((cellsFrom k names a).lookup n).isSome=true
 |[],k,a,h=>nomatch h|p::r,k,a,h=>by
  rw[wh]at h;unfold cellsFrom
  cases b:n==p.1 with
  |true=>rw[b]at h;rw[er<|beq_iff_eq.2<|dR h];refine lO r _ _ ?_;rw[wh,b];rfl|false=>
   rw[b]at h;split;.exact io r _ _ h
   .exact io r _ _ h
theorem r9(k:kd n=some .local):∀(y:SV) (m:Str->Option Value),(∀u,(n,u)∈y->u=v)->((n,v)∈y\/m n=some v)->bindL kd y m n=some v
 |[],m,_,h=>h.resolve_left nofun|p::r,m,H,h=>by
  unfold bindL;refine r9 k r _ (λu q=>H u<|.tail _ q) ?_;by_cases e:n=p.1
  .have:=H p.2<|e▸.head _;subst e;rw[er k];exact .inr<|(er rfl).trans<|cg some this
  .rcases h with h|h
   .cases h with|head=>exact absurd rfl e|tail _ h=>exact .inl h
   .refine .inr ?_;split;.exact(ej e).trans h
    .exact h
theorem se(k:kd n=some .cell):∀(y:SV) (m:Str->Option Value),(∀u,(n,u)∈y->u=v)->((n,v)∈y\/m n=some v)->bindC kd y m n=some v
 |[],m,_,h=>h.resolve_left nofun|p::r,m,H,h=>by
  unfold bindC;refine se k r _ (λu q=>H u<|.tail _ q) ?_;by_cases e:n=p.1
  .have:=H p.2<|e▸.head _;subst e;rw[ej λq=>nomatch q.symm.trans k];exact .inr<|(er rfl).trans<|cg some this
  .rcases h with h|h
   .cases h with|head=>exact absurd rfl e|tail _ h=>exact .inl h
   .refine .inr ?_;split;.exact h
    .exact(ej e).trans h
theorem sf:∀(es:List<|Nat×V) (L:Loc) (x:Nat) (v:V),es.foldl (λL e=>upd L e.1 e.2) L x=some v->(x,v)∈es\/L x=some v
 |[],L,x,v,h=>.inr h|e::es,L,x,v,h=>by
  rcases sf es _ x v h with h|h;.exact .inl<|.tail _ h
  .have H:(if x=e.1 then some e.2 else L x)=some v:=h;by_cases q:x=e.1
   .rw[er q]at H;exact .inl<|q▸dR H▸.head _
   .rw[ej q]at H;exact .inr H
theorem v7:∀{xs:List Nat} {s:List Arg},yC ks xs s=true->s.map (·.arg)=xs.map aU/\∀x∈xs,isVar ks (aU x)=true
 |[],s,h=>by obtain rfl:=mi.1<|show s.isEmpty=true from h;exact⟨rfl,nofun⟩
 |x::xs,[],h=>ff h|x::xs,a::s,h=>bG (a:=cq a.arg<|aU x) h λH z T=>by obtain⟨i,I⟩:=v7 T;have e:=cj H;exact⟨by rw[ik,ik,i,e],λy m=>by cases m with|head=>exact e▸z|tail _ m=>exact I y m⟩
theorem lP:∀{xs:List Nat},xs.Nodup->(xs.map aU).Nodup
 |[],_=>List.nodup_nil|x::xs,h=>EV.2 ⟨λH=>by
   refine oO H λy Y e=>?_
   exact(EV.1 h).1<|j4 e▸Y,lP (EV.1 h).2⟩
section
variable{k:Cx}{d:Nat}{σ:Sg}{A:Around}{L:Loc}{c:Mine.Code}{ds:List Value}
def KJ{args:List V}{D:Prop}{C:Loc->Prop}(h:wM (oV c args) C)(f:∀L,args.length<=c.params.length->c.params.length<=args.length+c.jz.length->
 (∀x v,L x=some v->∃i:Nat,c.params[i]?=some x/\(args++c.jz.drop (args.length+c.jz.length-c.params.length))[i]?=some v)->C L->D):D:=by
 unfold oV at h;split at h
 .rename_i q;refine f _ q.1 q.2 (λx v e=>?_) h;obtain⟨i,H⟩:=List.getElem?_of_mem<|(sf _ _ _ _ e).resolve_right nofun;exact⟨i,List.getElem?_zip_eq_some.1 H⟩
 .exact h.elim
def lQ{ns:List Str}{vs ds:List Value}{n:Str}{v:Value}:(n,v)∈binds ns vs ds↔n∈ns/\(slots ns vs ds).lookup n=some v:=by
 unfold binds;rw[List.mem_filterMap];constructor
 .rintro ⟨m,H,e⟩;refine Gm e λu U e=>?_;cases e;exact⟨H,U⟩
 .rintro ⟨H,e⟩;exact⟨n,H,by rw[e];rfl⟩
def FR.begin{args:List V}{l:List Value}(G:SR k σ)(x:InCallC σ.s env.locals (bindL env.kindOf (binds (c.params.map aU) l ds) λz=>none) env.cells (bindC env.kindOf (binds (c.params.map aU) l ds) λz=>none) s')
 (M:env.scope.kind=.function) (J:env.globals=mainGlobals) (I:env.builtins=builtinsNs) (U:∀n,env.kindOf n=some .cell->∃a,env.cells.lookup n=some a) (hn:c.params.Nodup) (mT:∀x,c.acc=some x->x∉c.params)
 (T:aN σ args l) (D:aN σ c.jz ds) (p:c.params.length<=args.length+c.jz.length) (h3:c.jz.length<=c.params.length) (hL:∀x v,L x=some v->∃i:Nat,c.params[i]?=some x/\(args++c.jz.drop (args.length+c.jz.length-c.params.length))[i]?=some v):
 Af k σ (σ.w s')/\FR k ⟨A,c.acc,env,σ.X⟩ L (σ.w s')/\(∀b,FA env b->σ.h b=none):=by
 obtain⟨hh,tk,rfl⟩:=x.toInCall.same;have a:=G.keep x.toInCall.keep ⟨rfl,rfl,rfl⟩;have Q:∀b,FA env b->σ.h b=none:=λb h=>h.elim (λh=>h▸Ep x.toInCall.fresh) λbT=>by obtain⟨n,H⟩:=bT;exact Ep<|rh<|dS x.toInCall.fresh<|x.above n b<|mem_of_lookup H
 refine⟨a,{kind:=M,glob:=J,blt:=I,loc:=⟨_,x.toInCall.ns⟩,bK:=U,cE:=λn n' a h1 p=>name_of_addr x.apart (mem_of_lookup h1)<|mem_of_lookup p,out:=λb h=>h
           cells:=λn a H=>⟨Nat.ne_of_gt<|x.above n a<|mem_of_lookup H,_,x.cell n a H⟩,vars:=λy v h s=>?_
           apart:=λb h=>?_},Q⟩
 .refine bC λzG=>?_;obtain⟨i,j,e2⟩:=hL y v h;have O:l.length=args.length:=T.len;have ld:ds.length=c.jz.length:=D.len;have ln:(c.params.map aU).length=c.params.length:=a9 ..;obtain⟨val,e3,r⟩:=(T.app<|D.drop<|args.length+c.jz.length-c.params.length).get e2;refine zG ?_;have f:=Er (vs:=l) (ds:=ds) (lP hn) (by rw[O,ld,ln];exact p) (by rw[ld,ln];exact h3)<|(qa ..).trans<|cg (Option.map aU) j;rw[O,ld,ln,e3]at f;have m:(aU y,val)∈binds (c.params.map aU) l ds:=lQ.2 ⟨u1<|nf j,f⟩;have u:∀u,(aU y,u)∈binds (c.params.map aU) l ds->u=val:=λu q=>dR<|(lQ.1 q).2.symm.trans f;refine⟨val,?_,λz=>r.on a.up,λq=>absurd (nf j)<|mT y q⟩;exact s.imp (λs=>⟨s,_,x.toInCall.ns,r9 s _ _ u<|.inl m⟩) λs=>(U _ s).elim λa N=>⟨s,a,N,se s _ (λz=>none) u (.inl m)▸x.cell _ _ N⟩
 .have Y:=Q b h;refine⟨λq=>G.bound b q Y,λq=>(G.eh b q).2.1 Y,G.g3 Y,?_⟩;rcases h with rfl|⟨n,H⟩;.obtain⟨o,es,ep,e,_⟩:=x.toInCall.ns;exact aw e
  .obtain⟨o,e,_⟩:=x.cell n b H;exact aw e
def Ok.done{F:Fr}(a:Af k σ<|σ.w s')(hX:F.X0=σ.X)(H:∀b,FA F.env b->σ.h b=none)(x:Sx F (σ.w s') br)(o:Ok k d F L' br):Af k σ (br.lx F.X0):=by
 have m:Mv (FO F σ.X) σ br:=(a.ex.m.wk λz h=>h.elim).trans x.m
 exact⟨⟨⟨m.pre,λb o e M z=>m.keep b o e M λh=>h.elim (λh=>aw e<|H b h) λh=>h.2<|hX▸h.1,λb h=>(m.new b h).imp_right λh=>h.elim .inl λh=>h.elim (λq=>.inl<|H b q) λq=>absurd (hX▸q.1) q.2,λb z h=>m.live b (λy=>y.elim (λq=>h<|H b q) λq=>q.2<|hX▸q.1) h,m.z⟩,hX⟩,
  (o.sr.step (W:=No) (H':=br.H) (s':=br.s) (X':=F.X0) (λz z z e=>e) dX.tQ rfl (λb h=>o.sr.eh b<|o.fr.out b h) (λb h=>.inl<|o.fr.out b h) (λz h=>h.elim) λz z z z z h=>.inr ⟨h,id,id⟩).1⟩
def BL:yP k 0:=λf args σ b A Q K z z z w z=>by obtain⟨h⟩:=w;exact h.elim
def BN{env:Env}{args:List V}{b:List Value}{s':Shared}{Q:VP}{body:List Stmt}{K:Flow->Shared->Prop}(s:gw k d c.body)(G:SR k σ)(x:InCallC σ.s env.locals (bindL env.kindOf (binds (c.params.map aU) b ds) λz=>none) env.cells (bindC env.kindOf (binds (c.params.map aU) b ds) λz=>none) s')
 (u:env.scope.kind=.function) (p:env.globals=mainGlobals) (m:env.builtins=builtinsNs) (l:∀n,env.kindOf n=some .cell->∃a,env.cells.lookup n=some a) (N:c.params.Nodup) (M:∀x,c.acc=some x->x∉c.params)
 (j:aN σ args b) (D:aN σ c.jz ds) (e:c.params.length<=args.length+c.jz.length) (T:c.jz.length<=c.params.length) (Y:∀x v,L x=some v->∃i:Nat,c.params[i]?=some x/\(args++c.jz.drop (args.length+c.jz.length-c.params.length))[i]?=some v)
 (H:GP (d+1) A) (U:jS env.scope.names c.acc c.body body=true) (w:wSs (wC d) c.body L σ.H (λz H'=>Q .none H') Q λz z=>False)
 (O:∀I,Af k σ I->Q .none I.H->K .next I.s) (J:∀v I x,Af k σ I->RV I v x->Q v I.H->K (.ret x) I.s):WN k (A.deeper env) (execs body env) K s':=by
 obtain⟨a,fr,f⟩:=FR.begin (A:=A.deeper env) (L:=L) G x u p m l N M j D e T Y;refine s _ L (σ.w s') body _ _ _ _ U ⟨⟨dS (rn<|by show A.depth+1+3*d+2=A.depth+3*(d+1);exact i3 (Ja [_,_] [] ⟨0,.a (.a (.a (.v 0)<|.n 1)<|.m 3<|.v 1)<|.n 2,.a (.v 0)<|.m 3<|.a (.v 1)<|.n 1⟩ 1 [] rfl)<|Ja [_,_] [] ⟨0,.a (.v 0)<|.m 3<|.a (.v 1)<|.n 1,.a (.a (.a (.v 0)<|.n 1)<|.m 3<|.v 1)<|.n 2⟩ 1 [] rfl) H.1,dS (by show A.units+3+40*d+100<=A.units+40*(d+1)+80;exact Ja [_,_] [] ⟨0,.a (.a (.a (.v 0)<|.n 3)<|.m 40<|.v 1)<|.n 100,.a (.a (.v 0)<|.m 40<|.a (.v 1)<|.n 1)<|.n 80⟩ 1 [] rfl) H.2.1,H.2.2⟩,a.sr,fr⟩ w ⟨λL' σ' y o w=>?_,λL' v σ' r y o rv w=>?_,λz z z z w=>w.elim⟩;.exact O (σ'.lx σ.X) (o.done a rfl f y) w
 .exact J v (σ'.lx σ.X) _ (o.done a rfl f y) rv w
def BO(hs:∀f c,P.code f=some c->gw k d c.body):yP k (d+1):=λf args σ vals A Q K M G J w kv=>by
 obtain⟨w⟩:=w;refine rt w λc hc w=>KJ w λL l1 l2 hL w=>?_;obtain⟨o,D,body,q1,q2,q3,q4,q5,q6,q7,q8,q9,UQ⟩:=G.base.fns f c hc;refine co q9 λp h1 h2 h3=>co p λp1 p2 p3 p4=>co h1 λp5 p6 p7 j=>co h2 λb UR UT V6=>aI h3 λSL UU=>bC λzG=>?_;obtain⟨m,a2⟩:=v7 p5;have SM:=lN p7;have j:=hS j;have b:=dk b;obtain⟨ds,hds,hd⟩:∃ds:List Value,aN σ c.jz ds/\((D.defaults=.none/\ds=[])\/∃T od l n,D.defaults=.ref T/\σ.h T=some od/\od.data=.seq l n/\l.toList=ds):=
  UQ.elim (λY=>have z:=Y.1;have U:=Y.2;⟨[],U▸.nil,.inl ⟨z,rfl⟩⟩) λY=>by obtain⟨T,od,l,n,z,U,e3,O⟩:=Y;exact⟨l.toList,O.on G.Sz,.inr ⟨T,od,l,n,z,G.old _ _ U,e3,rfl⟩⟩
 refine zG ?_;have lv:=J.len;have ld:=hds.len;have ln:(c.params.map aU).length=c.params.length:=a9 ..;have hb:=v6 (s:=σ.s) (vs:=vals) (ds:=ds) (mi.1 p1) (mi.1 p2) (Option.isNone_iff_eq_none.1 p3) (Option.isNone_iff_eq_none.1 p4) (m▸lP SM) hd (by rw[m,ln,lv];exact l1) (by rw[m,ln,lv,ld];exact l2)<|by rw[m,ln,ld];exact j
 rw[m]at hb;refine gV<|iM (dS (ql _ _) M.1) (G.old _ _ q1) q3 (dK UT) (dK UR) q5 (q4.keeps G.old)<|hb _ _ _ _ ?_;rw[q8];refine wpAny_newFunctionEnv_cells b (λy N=>?_) λenv H s' x=>?_
 .refine oO ((lQ.1 N).1) λi hi e=>?_;rw[<-e];exact(eA<|a2 i hi).imp_right λu=>⟨u,io _ _ _ u⟩
 .have z:env.scope=D.scope:=cg Env.scope H;refine⟨(G.base.lim.keeps G.old).keeps x.toInCall.keep,yD<|BN (hs f c hc) G x (z▸b) ((cg Env.globals H).trans q6) ((cg Env.builtins H).trans q7) (λn hn=>?_) SM (λy N hm=>?_) J hds l2 j hL M (z▸UU) w (λI a q=>kv .none I _ a .nn q) λv I x a r q=>kv v I x a r q⟩
  .have O:env.cells=cellsFrom (σ.s.heap.objs.size+1) D.scope.names []:=cg Env.cells H;rw[O];exact Gz.1<|io _ _ _<|by rw[<-z];exact hn
  .rw[N]at SL;exact tq.1 (dK SL)<|List.contains_iff_mem.2 hm
end
set_option tactic.hygienic true in
def KM(b:B):(My b==("__debug__":Str))=false:=by rcases b<;>first|decide+kernel|(rename_i k;rcases k<;>decide+kernel)
section
variable(k:Cx)
def jj(b:Mine.B):Prop:=∀s z a A Q K,A.units+60<cLine->A.handled=none->SR k z->aN z s a->Sv b s z.H Q->KV k z Q K->WN k A (PySem.call (Bg b) a) K z.s
end
section
variable{k:Cx}{d:Nat}{σ:Sg}{vs:List V}{vals:List Value}
def UV(b:Mine.B):keeperOf (Bg b)=pure Keeper.machine:=by cases b<;>rfl
def Hb{b:Mine.B}{l:Es}(H:jj k b)(y:iR k d l):aG k d (.bi b l):=λF L σ x Q K h o w u=>jb h λp a s G h=>by
 cases o.sr.base.ns with
 |of M U m j T O J N=>
  refine bc<|I9 o.fr.kind (c6 G) (Calls.loadGlobal_builtin (o.fr.glob▸o.sr.ez m) (N b).1 (o.fr.blt▸o.sr.ez j) (N b).2 ?_)<|KM b;refine aW (P:=λi=>True) (keywords:=[]) (by rw[bO<|bB h];rfl) (λh D=>⟨.machine,.inr<|.inl rfl,Looks.of_pure<|UV b⟩)
   (ck (bB h)<|y F L σ a s _ _ h o w λvs f vals i z e w=>⟨trivial,H vs f vals F.A Q K (dS (ih (by decide:60<=100) _) o.rm.units) o.rm.2.2 z.sr e w λv I A c Y w=>u v I A (z.trans c) Y w⟩)
@[elab_as_elim] theorem aN.jk {Q:V->Prop} {C:List Value->Prop} (r:aN σ vs vals) (h:wM (Mine.one vs) Q) (f:∀x y,RV σ x y->Q x->C [y]):C vals:=by
  induction vs using List.casesOn with
  |nil=>exact h.elim|cons x l=>induction l using List.casesOn with|nil=>exact r.bp λy ys z s=>s.iG<|f x y z h|cons=>exact h.elim
@[elab_as_elim] theorem aN.KN {C:List Value->Prop} (r:aN σ vs vals) (h:wM (two vs) Q) (f:∀x z y Y,RV σ x y->RV σ z Y->Q (x,z)->C [y,Y]):C vals:=by
  induction vs using List.casesOn with
  |nil=>exact h.elim|cons x l=>induction l using List.casesOn with
   |nil=>exact h.elim|cons z l=>induction l using List.casesOn with|nil=>exact r.bp λy ys u s=>s.bp (D:=λys=>C<|y::ys) λY zs p s=>s.iG (D:=λzs=>C<|y::Y::zs)<|f x z y Y u p h|cons=>exact h.elim
def KO:jj k .ord:=λvs σ vals A Q K H p r z w u=>z.jk w λx y s w=>s.gH w λl t m w=>by
 induction l using List.casesOn with
 |nil=>exact w.elim|cons c l=>induction l using List.casesOn with|nil=>exact al<|P.ord_of_char<|u _ _ _ (r.tok _) .ii w|cons=>exact w.elim
def KQ:jj k .chr:=λvs σ vals A Q K H p r z w u=>z.jk w λx y s w=>s.bx w λi t w=>Ej w λc w=>
 al (P.chr_of_int (by rw[Bool.or_eq_false_iff,ly,ly];exact⟨G7.2<|I8 (by decide) c.1,G7.2<|Int.le_of_lt<|Int.lt_trans c.2<|by decide⟩)<|u _ _ _ (r.tok _) (.ss (l:=[i.toNat])<|show 1<=sizeLine by decide) w)
def KT:jj k .int:=λvs σ vals A Q K H s r l w z=>l.jk w λx y u w=>u.cz w λb w=>by obtain⟨e,w⟩:=w;obtain rfl:=dR e;exact al<|call_int_bool<|z _ _ _ (r.tok _) .ii w
def Eu:jj k .tuple:=λvs σ vals A Q K U e r u w p=>u.jk w λx y m w=>m.bP w λl a n b H N j s w=>by refine al<|call_tuple_list (lp (n:=n) j) (λi f=>?_)<|s.size▸H;have z:=r.keep (s':={σ.s with heap:=i}) f ⟨rfl,rfl,rfl⟩;have c:=z.sr.GQ (s.on z.up) H σ.s.toks rfl;exact p _ _ _ (z.trans c.1) c.2 w
def Jk [Decidable p]:RV σ (.int<|if p then a else b) (if p then .int a t else .int b u):=by
 by_cases q:p;.rw[er q,er q];exact .ii
 .rw[ej q,ej q];exact .ii
def KU:jj k .max:=λvs σ vals A Q K U z r l w s=>l.KN w λx i y Y p m w=>yF p m w λa b t u w=>al<|max_two_ints z λH tk j=>s _ _ _ (r.keep (s':={σ.s with heap:=H,toks:=tk}) j ⟨rfl,rfl,rfl⟩) Jk w
def Hc{K:Value->Shared->Prop}(z:A.handled=none)(r:SR k σ)(s:RV σ x y)(p:RV σ x' y')(w:Gn x x' λa b=>Q (.int<|if b<a then b else a) σ.H)(m:KV k σ Q K):WN k A (PySem.call (.builtin "min") [y,y']) K σ.s:=
 yF s p w λa b t u w=>al<|min_two_ints z λH tk l=>m _ _ _ (r.keep (s':={σ.s with heap:=H,toks:=tk}) l ⟨rfl,rfl,rfl⟩) Jk w
def p0{Q:VP}{K:Value->Shared->Prop}{n m:Nat}(r:SR k σ)(e:m=n)(w:Q (.int n) σ.H)(y:KV k σ Q K)(t:Nat)(tok:Tok):K (.int m tok) {σ.s with toks:=t}:=e▸y _ _ _ (r.tok t) .ii w
set_option tactic.hygienic true in
def KW:jj k .len:=λvs σ vals A Q K T O r b w m=>b.jk w λx y j w=>by
 have N:=xf
 have list:∀{l:List V} {a n:Nat} {z:Array Value},l.length<=sizeLine->IsL σ.s.heap a z n->aN σ l z.toList->Q (.int l.length) σ.H->WN k A (PySem.call (.builtin "len") [.ref a]) K σ.s:=λ{l a n z} H u s w=>
  al (Calls.call_len_list (lp (n:=n) u) (by rw[s.size];exact QN H)<|p0 r s.size w m _ _)
 cases x with
 |str l=>exact j.gA λt H=>al<|PyProof.Rows.len_str (by show ¬((List.toArray _).size:Int)≥2^63;rw[mF];exact Jd H)<|p0 r (mF ..) w m _ _|bytes l=>exact j.A8 λt H=>al<|W.len_bytes (by rw[mF];exact Ja [_] [⟨0,.v 0,.n 16777216⟩] ⟨0,.v 0,.n 1099511627776⟩ 1 [1] rfl H)<|p0 r (mF ..) w m _ _|lst l=>exact j.jQ λa n z H M u s=>list H u s w|ref i=>
  obtain⟨p,f,rfl⟩:=j;obtain⟨h,w⟩:=(show wO _ _ from w);rename_i o
  induction o using Ob.casesOn with
  |list l=>obtain⟨n,z,H,_,u,s⟩:=r.rd f h;exact list H u s w
  |dict L D=>cases r.rd f h with|of es J H e I G c Y=>have hz:=xC.symm.trans Y.len;unfold cn at H;refine al<|call_len_slot (n:=(D.length:Nat)) ⟨_,c,rfl⟩ PySem.F.slot_dict_len (λQ' U=>?_) (Ja [_] [] ⟨13,.v 0,.n 0⟩ 1 [] rfl) (Jd<|c0 H<|by rw[xf];decide)<|m _ _ _ (r.tok _) .ii w;refine x3 PySem.F.slot_dict_len ⟨_,c,rfl⟩ PySem.F.entry_dict_len ?_<|PySem.F.args_dict_len_1 _;show wpAny _ _ (dictSize p.1>>=_) _ _ σ.s;unfold dictSize;refine da<|da<|wpAny_dictEntries c rfl (e5 ?_);show wpAny _ _ (Builtin.Dict.pendingCount p.1>>=_) _ _ σ.s;exact da<|wpAny_pendingCount_other (r.en f)<|da<|wpAny_mkInt<|e5 ⟨_,rfl,((Int.add_zero _).trans (cg Int.ofNat hz):((es.size:Int)+((0:Nat):Int))=(D.length:Nat))▸U⟩
  |_=>exact w.elim
 |_=>exact w.elim
end
section
noncomputable def qc:List String:=["enumerate","zip","dict_itemiterator","dict_reverseitemiterator","odict_iterator","itertools.zip_longest","itertools.pairwise"]
def v8{prog:Program}{A:Around}{E:Value->Shared->Prop}{e:Expr}(J:s.heap.get? it=some o)(y:o.cls=.type T)(H:qc.contains T=false)(q:Q () s):
 wpAny (model prog w) A (letOwnedTupleGo e (.ref it) v) Q E s:=by
 have c:wpAny (model prog w) A (do
  let(.ref r,.ref a):=((Value.ref it),v)|return
  let o<-load r
  match o.cls,o.data with
  |.type n,.fields z=>
   if["enumerate","zip","dict_itemiterator","dict_reverseitemiterator","odict_iterator","itertools.zip_longest","itertools.pairwise"].contains n&&z[0]?==some (rawInt a)then
    rule "for.unpacks-the-owned-tuple"
    updateField r 0 .none
  |_,_=>pure ():Sem Unit) Q E s:=by
  induction v using Value.casesOn with
  |ref a=>
   refine da<|wpAny_load J ?_;rw[y];generalize o.data=dd
   induction dd using Data.casesOn with|fields z=>exact lC (λh=>by rw[Bool.and_eq_true]at h;exact nomatch H.symm.trans h.1)<|e5 q|_=>exact e5 q
  |_=>exact e5 q
 induction e using Expr.casesOn with|Tuple=>exact c|List=>exact c|_=>exact e5 q
structure IT where
 it:Addr
 fp:List Addr
 wr:List Addr
 vs:List V
 tf:Bool
 Vl:Sg->Prop
 St:Nat->Heap->Prop
structure CP(k:Cx)(A:Around)(I:IT):Prop where
 sub:∀b∈I.wr,b∈I.fp
 frame:∀j h h',I.St j h->(∀b∈I.fp,∀o,h.get? b=some o->h'.get? b=some o)->I.St j h'
 up:∀σ σ',Up σ σ'->I.Vl σ->I.Vl σ'
 item:∀tg j v σ (Q:Value->Shared->Prop) (R:Option Value->Shared->Prop),I.vs[j]?=some v->I.St j σ.s.heap->(I.tf||tG tg)=true->SR k σ->I.Vl σ->
  (∀y s,wpAny (model k.prog k.w) A (letOwnedTupleGo tg (.ref I.it) y) (λzz s=>Q y s) (λzz zz=>False) s->R (some y) s)->
  (∀y h' tk,(Up σ (σ.w {σ.s with heap:=h',toks:=tk})->RV (σ.w {σ.s with heap:=h',toks:=tk}) v y)->I.St (j+1) h'->(∀b o,b∉I.wr->σ.h b=some o->h'.get? b=some o)->Q y {σ.s with heap:=h',toks:=tk})->
  wpAny (model k.prog k.w) A (pyNext (.ref I.it)) R (λzz zz=>False) σ.s
 done:∀(s:Shared) (Q:Option Value->Shared->Prop),I.St I.vs.length s.heap->(∀h' tk,(∀b o,b∉I.wr->s.heap.get? b=some o->h'.get? b=some o)->Q none {s with heap:=h',toks:=tk})->wpAny (model k.prog k.w) A (pyNext (.ref I.it)) Q (λzz zz=>False) s
 live:∀j h,I.St j h->∀b∈I.wr,h.get? b≠none
 own:I.tf=true->∀j h,I.St j h->∀b∈I.wr,∀o,h.get? b=some o->∀vs n,o.data≠ .seq vs n
 self:∀(j:Nat) (s:Shared) (Q:Value->Shared->Prop),I.St j s.heap->Q (.ref I.it) s->wpAny (model k.prog k.w) A (pyIter (.ref I.it)) Q (λzz zz=>False) s
def KX(I:Addr)(f:List Addr)(vs:List V)(P:Nat->Value->Prop)(St:Nat->Heap->Prop):IT:=⟨I,f,[I],vs,true,λz=>∀j v x,vs[j]?=some v->P j x->RV z v x,St⟩
section
variable{k:Cx}{d:Nat}{F:Fr}{L:Loc}{σ σ':Sg}{A:Around}{I:Addr}{gd:Option (Nat×Ob)}{ob:Ob}{p:Addr×Addr}
def ke{b I:Addr}(h:b∈[I]):b=I:=dt.1 h
def noSeq{o:Obj}(h:o.data=.fields a):∀xs m,o.data≠ .seq xs m:=λxs m q=>nomatch h.symm.trans q
def CP.eB{P:Nat->Value->Prop}{St:Nat->Heap->Prop}(W:Walks k.prog k.w A I fp [I] n P St)(N:n=vs.length)(T:String)(i:qc.contains T=false)(Y:∀j h,St j h->∃o,h.get? I=some o/\o.cls=.type T/\∀xs m,o.data≠ .seq xs m):CP k A (KX I fp vs P St) where
 sub:=W.sub
 frame:=W.frame
 up:=λσ σ' u h j v x e p=>(h j v x e p).on u
 item:=λtg j v σ Q R e st z z h f H=>W.item j σ.s _ _ (N▸(f5.1 e).1) st λy a tk p l U=>f y _ ((Y _ _ l).elim λo c=>v8 c.1 c.2.1 i<|H y a tk (λu=>(h j v y e p).on u) l U)
 done:=λs Q st H=>W.done s Q _ (N▸st) H
 live:=λj h st b m=>ke m▸(Y j _ st).elim λo c=>aw c.1
 own:=λz j h st b m o e=>(Y j _ st).elim λO c=>dR ((ke m▸c.1:h.get? b=some O).symm.trans e)▸c.2.2
 self:=λj s Q st H=>W.self j s Q _ st H
def Hd(z:A.handled=none)(I a:Addr)(Y:a≠I)(items:Array Value){vs:List V}(H:items.size=vs.length):
 CP k A (KX I [I,a] vs (λi v=>items[i]?=some v) (λi h=>h.IsListIter I a i/\h.IsList a items)):=
 .eB (Walks.list z I a Y items) H "list_iterator" (by decide) λj h st=>st.1.imp λo x=>⟨x.1,x.2.1,noSeq x.2.2⟩
def Ev(z:A.handled=none)(I a:Addr)(Y:a≠I)(items:Array Value){vs:List V}(H:items.size=vs.length):
 CP k A (KX I [I,a] vs (λi v=>items[i]?=some v) (λi h=>h.IsTupleIter I a i/\h.IsTuple a items)):=
 .eB (Walks.tuple z I a Y items) H "tuple_iterator" (by decide) λj h st=>st.1.imp λo x=>⟨x.1,x.2.1,noSeq x.2.2⟩
def Ew(z:A.handled=none)(I:Addr)(n:Nat){vs:List V}(H:n=vs.length):
 CP k A (KX I [I] vs (λi v=>∃t,v=.int (0+i*1) t) λi h=>IsRangeIter h I (0+(i:Nat)*1) ((n:Int)-(i:Nat)) 1):=
 .eB (Walks.range z I 0 1 n) H "range_iterator" (by decide) λj h st=>⟨_,st,rfl,noSeq rfl⟩
theorem Up.trans(u:Up σ σ')(U:Up σ' lG):Up σ lG:=⟨u.pre.trans U.pre,λa o s n e d H=>(u.keep a o s n e d H).elim λN z=>U.keep a o s n z d N⟩
theorem Ok.own{W:Addr->Prop}(o:Ok k d F L σ)(z:∀b o,¬W b->σ.h b=some o->s'.heap.get? b=some o)(e:dX σ.s s')(j:∀b,W b->σ.X b->s'.heap.get? b≠none)(s:∀b,W b->¬ie σ b/\k.B.heap.get? b=none/\(σ.X b\/∀o,σ.h b=some o->∀vs n,o.data≠ .seq vs n)/\¬FA F.env b/\(σ.X b->F.X0 b)):
 Ok k d F L (σ.w s')/\Mv W σ (σ.w s')/\Up σ (σ.w s'):=by
 have f:=o.fr;have x:∀b o,FA F.env b->σ.h b=some o->s'.heap.get? b=some o:=λb o h=>z b o λw=>(s b w).2.2.2.1 h;obtain⟨G,m,u⟩:=o.sr.own z (λb h=>(Classical.em<|W b).elim (λw=>j b w h) λn=>let⟨_,e⟩:=cC (o.sr.eh b h).2.1;aw (z b _ n e)) (λb h=>have a:=s b h;⟨a.1,a.2.1,a.2.2.1⟩) e
 exact⟨⟨o.rm,G,{kind:=f.kind,glob:=f.glob,blt:=f.blt,bK:=f.bK,cE:=f.cE,out:=f.out
                loc:=f.loc.imp λm M=>vF M λo e=>x _ o (.inl rfl) e
                cells:=λn c l=>⟨(f.cells n c l).1,(f.cells n c l).2.imp λv h=>cellAt h λo e=>x _ o (.inr ⟨n,l⟩) e⟩
                vars:=λy v Y i=>(f.vars y v Y i).imp λT h=>⟨h.1.keep x,λq=>(h.2.1 q).on u,λq=>(h.2.2 q).on u (λb o H U=>z b o λw=>U<|(s b w).2.2.2.2 H) λb H Q=>H⟩
                apart:=λb H=>have a:=f.apart b H;⟨a.1,a.2.1,a.2.2.1,let⟨_,e⟩:=cC a.2.2.2;aw (x b _ H e)⟩}⟩,m,u⟩
def Sx.own{W:Addr->Prop}(x:Sx F σ0 σ)(m:Mv W σ<|σ.w s')(H:∀b,W b->σ0.h b=none):Sx F σ0 (σ.w s'):=
 ⟨((x.m.wk (Ar':=λb=>FO F σ0.X b\/W b) λz h z=>.inl h).trans<|m.wk λz h z=>.inr h).wk λb h l=>h.resolve_right λq=>l<|H b q,x.new,x.ap⟩
theorem Sx.up(x:Sx F σ σ')(f:FR k F L σ):Up σ σ':=x.m.up (λb h=>h.elim (λh=>.inr λo e=>f.noSeq h e) λh=>.inl h.1) x.new
noncomputable def Sg.hz(σ:Sg)(H:Hp)(z:Addr->Option Obj):Sg:=⟨σ.g,H,σ.s,σ.X,z⟩
theorem Up.hz:Up σ (σ.hz H z):=⟨sA _,λy y y y e y n=>⟨n,e⟩⟩
theorem Ok.hz(o:Ok k d F L σ)(l:H.length=σ.H.length)(h:∀(i:Nat) (p:Addr×Addr) (ob:Ob),σ.g[i]?=some p->H[i]?=some ob->RO k (σ.hz H z) p ob):Ok k d F L (σ.hz H z):=
 have r:=o.sr
 have f:=o.fr
 ⟨o.rm,{len:=r.len.trans l.symm,obs:=h,inj:=r.inj,fresh:=r.fresh,eh:=r.eh,old:=r.old,eq:=r.eq,base:=r.base},
   {kind:=f.kind,glob:=f.glob,blt:=f.blt,bK:=f.bK,cE:=f.cE,out:=f.out,loc:=f.loc,cells:=f.cells,apart:=f.apart
    vars:=λy v Y s=>(f.vars y v Y s).imp λa h=>⟨h.1,λq=>(h.2.1 q).on .hz,λq=>(h.2.2 q).on .hz (λx x x x e=>e) λx h x=>h⟩}⟩
noncomputable def oA:Ob->Bool
 |.list _=>true|.dict _ _=>true|_=>false
def RO.pz(u:Up σ σ')(z:∀o,σ.h p.1=some o->σ'.h p.1=some o)(h:oA ob=true)(r:RO k σ p ob):RO k σ' p ob:=by
 induction ob using Ob.casesOn with|list l=>exact J2.casesOn r λn s H e h r=>J2.of n s H e (z _ h)<|r.on u|dict D x=>exact oj.casesOn r λes j H e y N h r=>oj.of es j H e y N (z _ h)<|r.on u|_=>injection h
noncomputable def PB(σ:Sg)(p:Addr×Addr)(b:Addr):Option Obj:=if b=p.1\/b=p.2 then σ.h b else σ.z b
def Ai{l:List Ob}(h:(l.set a x)[i]?=some o):(i=a/\o=x)\/(a≠i/\l[i]?=some o):=by
 by_cases e:a=i
 .subst e;rw[List.getElem?_set]at h;split at h
  .split at h;.exact .inl ⟨rfl,(dR h).symm⟩
   .exact nomatch h
  .exact absurd rfl ‹_›
 .exact .inr ⟨e,List.getElem?_set_ne e▸h⟩
def t9(h:¬(b=p.1\/b=p.2)):PB σ p b=σ.z b:=ej h
def du{A:Prop}(h:bz gd H A):A/\bz gd H True:=by
 induction gd using Option.casesOn with|none=>exact⟨h,trivial⟩|some q=>exact⟨h.2,h.1,trivial⟩
def v9(o:Ok k d F L σ)(U:∀a ob,gd=some (a,ob)->σ.H[a]?=some ob/\oA ob=true):
 ∃j,Ok k d F L (σ.hz (freeze gd σ.H) j)/\∀W σ' l,Ok k d F l σ'->Mv W (σ.hz (freeze gd σ.H) j) σ'->bz gd σ'.H True->Ok k d F l (σ'.hz (iY gd σ'.H) σ.z)/\Mv W σ (σ'.hz (iY gd σ'.H) σ.z):=by
 induction gd using Option.casesOn with
 |none=>exact⟨σ.z,o,λW σ' l O x z=>⟨(x.z:σ'.z=σ.z)▸O,(x.z:σ'.z=σ.z)▸x⟩⟩|some q=>
  obtain⟨a,ob⟩:=q;obtain⟨T,f⟩:=U a ob rfl;obtain⟨p,u,Q⟩:=o.sr.at T
  have ne:∀{σ':Sg} {i:Nat} {q:Addr×Addr},SR k σ'->σ'.g[a]?=some p->σ'.g[i]?=some q->a≠i->(¬(q.1=p.1\/q.1=p.2))/\¬(q.2=p.1\/q.2=p.2):=λr u H n=>
   ⟨λh=>n<|r.inj a _ p _ u H<|h.elim (λh=>.inl h.symm) λh=>.inr<|.inr<|.inl h.symm,λh=>n<|r.inj a _ p _ u H<|h.elim (λh=>.inr<|.inl h.symm) λh=>.inr<|.inr<|.inr h.symm⟩
  refine⟨PB σ p,o.hz List.length_set λi q x H s=>?_,λW σ' l O x N=>?_⟩
  .rcases Ai s with⟨rfl,rfl⟩|⟨n,s⟩
   .obtain rfl:=dR<|u.symm.trans H;exact⟨RO.pz .hz (λz e=>e) f Q,(er<|.inl rfl).symm,(er<|.inr rfl).symm⟩
   .have c:=ne o.sr u H n;exact RO.on .hz (λz z z e=>e) (λb m=>m.elim (λm=>m▸t9 c.1) λm=>m▸t9 c.2)<|o.sr.obs i q x H s
  .have M:=eT x.pre u
   have st:σ'.H[a]?=some (.ro ob):=N.1
   have z:σ'.z=PB σ p:=x.z
   refine⟨O.hz List.length_set λi q y H Y=>?_,⟨x.pre,x.keep,x.new,x.live,rfl⟩⟩
   rcases Ai Y with⟨rfl,rfl⟩|⟨n,Y⟩
   .obtain rfl:=dR<|M.symm.trans H;exact RO.pz .hz (λz e=>e) f (show RO k σ' p (.ro _)from O.sr.obs i p _ H st).1
   .have c:=ne O.sr M H n;exact RO.on (σ:=σ') (σ':=σ'.hz _ σ.z) .hz (λz z z e=>e) (λb m=>(m.elim (λm=>m▸t9 c.1) λm=>m▸t9 c.2:PB σ p b=σ.z b).symm.trans (congrFun z b).symm)<|O.sr.obs i q y H Y
end
def Fx(F:Fr)(gd:Option<|Nat×Ob)(z:List Addr)(σ:Sg)(b:Addr):Prop:=(¬ie σ b/\¬FA F.env b/\(σ.X b->F.X0 b)/\σ.h b≠none)\/(b∉z/\∃a o p,gd=some (a,o)/\σ.g[a]?=some p/\b=p.1)
def Fx.step{k:Cx}{F:Fr}{gd:Option (Nat×Ob)}{σ σ':Sg}(h:Fx F gd wr σ b)(x:Sx F σ σ')(r:SR k σ)(z:SR k σ')(H:bz gd σ.H True)(y:bz gd σ'.H True):Fx F gd wr σ' b/\∀o,σ.h b=some o->σ'.h b=some o:=by
 rcases h with h|⟨h,a,o,p,e1,e2,e3⟩
 .have no:¬FO F σ.X b:=λq=>q.elim h.2.1 λq=>q.2<|h.2.2.1 q.1;exact⟨.inl ⟨λq=>(x.m.new b q).elim h.1 λq=>q.elim h.2.2.2 no,h.2.1,λq=>(x.new b q).elim h.2.2.1 λq=>(h.2.2.2 q).elim,x.m.live b no h.2.2.2⟩,λo e=>x.m.keep b o e h.1 no⟩
 .subst e1 e3;have U:RO k σ p (.ro o):=r.obs a p _ e2 H.1;have O:RO k σ' p (.ro o):=z.obs a p _ (eT x.m.pre e2) y.1;exact⟨.inr ⟨h,a,o,p,rfl,eT x.m.pre e2,rfl⟩,λu e=>O.2.1.trans<|(congrFun x.m.z _).trans<|U.2.1.symm.trans e⟩
end
section
structure Src(k:Cx)(A:Around)(σ:Sg)(gd:Option (Nat×Ob))(s2:Shared)(I:IT):Prop where
 KZ:CP k A I
 st:I.St 0 s2.heap
 fresh:∀b∈I.wr,σ.h b=none
 keep:∀b o,σ.h b=some o->s2.heap.get? b=some o
 same:dX σ.s s2
 fix:∀b∈I.fp,(σ.h b=none/\s2.heap.get? b≠none)\/(¬NI σ b/\∃o xs n,σ.h b=some o/\o.data=.seq xs n)\/(b∉I.wr/\∃a o p,gd=some (a,o)/\σ.g[a]?=some p/\b=p.1)
 val:I.Vl σ
def sg(k:Cx)(A:Around)(σ:Sg)(s1:Shared)(vs:List V)(f:Bool)(gd:Option<|Nat×Ob)(a:Value):Prop:=
 ∀(Q:Value->Shared->Prop),(∀s2 I,I.vs=vs->I.tf=f->Src k A σ gd s2 I->Q (.ref I.it) s2)->wpAny (model k.prog k.w) A (pyIter a) Q (λz z=>False) s1
def Ey(gd:Option<|Nat×Ob)(H:Hp):Prop:=∀a o,gd=some (a,o)->H[a]?=some o/\oA o=true
def nY(k:Cx)(d:Nat)(i:It):Prop:=∀F L z x Q K,Ba F.env.scope.names F.ac i x=true->Ok k d F L z->Pr (wC d) i L z.H Q->
 (∀s gd y s1 a,Af k z y->sg k F.A y s1 s (zT i) gd a->Ey gd y.H->s.length<=sizeLine->Q s gd y.H->K a s1)->WN k F.A (eval x F.env) K z.s
theorem Ey.none:Ey none H:=λz z h=>nomatch h
theorem Ey.some(h:H[a]?=some o) (p:oA o=true):Ey (some (a,o)) H:=λz z e=>by cases e;exact⟨h,p⟩
section
variable{k:Cx}{d:Nat}{F:Fr}{L L':Loc}{σ σ':Sg}{A:Around}{E:Value->Shared->Prop}{gd:Option (Nat×Ob)}{vs:List V}
def Aj{t:List Nat}{v:V}(h:jC t v L=some L'):∃l,v=.tup l/\t.length=l.length/\L'=(t.zip l).foldl (λL e=>upd L e.1 e.2) L:=by
 refine zL h λl H h=>?_;split at h;.rename_i q;exact⟨l,rL H,q,(dR h).symm⟩
 .exact nomatch h
def Ez(h:one l=some x):l=[x]:=by
 induction l using List.casesOn with
 |nil=>injection h|cons a l=>induction l using List.casesOn with|nil=>exact cg (λx=>[x])<|dR h|cons=>injection h
def N7{C:Expr->Prop}(h:gU ks t x=true)(z:∀v p,t=[v]->isVar ks (aU v)=true->C (.Name (aU v) p))(k2:∀es j p,one t=none->iQ ks t es=true->C (.Tuple es j p)):C x:=by
 unfold gU at h;rcases(wq _ _).mp h with h|h
 .obtain⟨v,e,h⟩:=any_some h;refine lz h λp H=>z v p ?_ H;exact Ez e
 .refine f0 h λes j p h=>aI h λy u=>k2 es j p ?_ u
  induction t using List.casesOn with
  |nil=>rfl|cons a t=>induction t using List.casesOn with|nil=>injection y|cons=>rfl
def kf{tg:Expr}(u:A.handled=none)(ht:gU F.env.scope.names t tg=true)(H:∀x∈t,F.ac≠some x)(b:cW t v L=some L')(o:Ok k d F L σ)(z:RV σ v val)
 (h:∀s',Mv (FT F.env t) σ (σ.w s')->Up σ (σ.w s')->Ok k d F L' (σ.w s')->Q () s'):wpAny (model k.prog k.w) A (assign tg F.env val) Q E σ.s:=by
 refine N7 (C:=λtg=>wpAny (model k.prog k.w) A (assign tg F.env val) Q E σ.s) ht (λy p e G=>?_) λes j p e ht=>?_
 .subst e;obtain rfl:=dR<|show some (upd L y v)=some L' from b;exact PyProof.Rows.assign_Name<|bw o G (λi=>z) (λq=>absurd q<|H y<|.head _) h
 .unfold cW at b;rw[e]at b;refine bC λs=>?_;obtain⟨l,rfl,m,rfl⟩:=Aj b;exact s<|iS u ht H m o z h
structure LI(k:Cx)(d:Nat)(F:Fr)(gd:Option (Nat×Ob))(I:IT)(R:Sg->Prop)(j:Nat)(L:Loc)(σ:Sg):Prop where
 ok:Ok k d F L σ
 r:R σ
 st:I.St j σ.s.heap
 fx:∀b∈I.fp,Fx F gd I.wr σ b
 vl:I.Vl σ
structure LC(k:Cx)(F:Fr)(I:IT)(R:Sg->Prop):Prop where
 W:CP k F.A I
 hB:∀b∈I.wr,k.B.heap.get? b=none
 hX:(I.tf=true/\∀b∈I.wr,¬F.X0 b)\/∀σ,R σ->∀b∈I.wr,σ.X b
 own:∀σ s',R σ->Mv (·∈I.wr) σ (σ.w s')->R (σ.w s')
section
variable{I:IT}{R:Sg->Prop}{j:Nat}
def LI.turn(C:LC k F I R)(x:LI k d F gd I R j L σ)(H:∀b∈I.wr,σ.X b->h'.get? b≠none)(y:∀b o,b∉I.wr->σ.h b=some o->h'.get? b=some o):
 Ok k d F L (σ.w {σ.s with heap:=h',toks:=tk})/\R (σ.w {σ.s with heap:=h',toks:=tk})/\Up σ (σ.w {σ.s with heap:=h',toks:=tk}):=
 have c:=x.ok.own (W:=(·∈I.wr)) (s':={σ.s with heap:=h',toks:=tk}) y ⟨rfl,rfl,rfl⟩ H λb m=>(x.fx b<|C.W.sub b m).elim (λq=>⟨q.1,C.hB b m,C.hX.elim (λt=>.inr<|C.W.own t.1 j _ x.st b m) λq=>.inl<|q σ x.r b m,q.2.1,q.2.2.1⟩) λq=>absurd m q.1
 ⟨c.1,C.own σ _ x.r c.2.1,c.2.2⟩
def LI.own(C:LC k F I R)(x:LI k d F gd I R j L σ)(st:I.St i h')(y:∀b o,b∉I.wr->σ.h b=some o->h'.get? b=some o):LI k d F gd I R i L (σ.w {σ.s with heap:=h',toks:=tk})/\Up σ (σ.w {σ.s with heap:=h',toks:=tk}):=
 have c:=x.turn C (tk:=tk) (λb m z=>C.W.live i h' st b m) y
 ⟨⟨c.1,c.2.1,st,λb H=>(x.fx b H).imp_left λq=>⟨q.1,q.2.1,q.2.2.1,(Classical.em<|b∈I.wr).elim (C.W.live i h' st b) λm=>(cC q.2.2.2).elim λz e=>aw<|y b _ m e⟩,C.W.up _ _ c.2.2 x.vl⟩,c.2.2⟩
theorem LI.step(C:LC k F I R)(x:LI k d F gd I R j L σ)(y:Sx F σ σ')(o:Ok k d F L' σ')(z:bz gd σ.H True)(u:bz gd σ'.H True)(r:R σ'):LI k d F gd I R j L' σ':=
 ⟨o,r,C.W.frame j _ _ x.st λb H=>((x.fx b H).step y x.ok.sr o.sr z u).2,λb H=>((x.fx b H).step y x.ok.sr o.sr z u).1,C.W.up _ _ (y.up x.ok.fr) x.vl⟩
def Hf{body:Loc->Hp->LP->VP->LP->Prop}{K:LP}(h:i8 body t gd K T l L H):bz gd H True:=by
 rcases l with _|_;.exact(du h).2
 .exact(du h).2
inductive LW(k:Cx)(d:Nat)(F:Fr)(gd:Option (Nat×Ob))(I:IT)(R:Sg->Prop)(fw:List V->LP)(m:Nat)(s:Shared):Prop
 |of (j:Nat) (L:Loc) (σ:Sg) (hs:σ.s=s) (hj:m+j=I.vs.length) (x:LI k d F gd I R j L σ) (w:fw (I.vs.drop j) L σ.H)
def Ak{α:Type}{l:List α}{m j:Nat}(h:m+1+j=l.length):∃a,l[j]?=some a/\l.drop j=a::l.drop (j+1):=
 have O:j<l.length:=h▸Nat.lt_add_of_pos_left (HX m)
 ⟨l[j],h8 O,List.drop_eq_getElem_cons O⟩
def EA{body:Ss}{p:List Stmt}{t:List Nat}{tg:Expr}{K:LP}{T:VP}{G:Flow->Shared->Prop}{σ0:Sg}(C:LC k F I<|Sx F σ0)(J:I.tf=true)(hX:∀b∈I.wr,¬F.X0 b)(hb:gw k d body)(Kz:jS F.env.scope.names F.ac body p=true)(Q1:gU F.env.scope.names t tg=true)(hx:∀x∈t,F.ac≠some x)
 (kn:∀L σ,Ok k d F L σ->Sx F σ0 σ->bz gd σ.H (K L<|iY gd σ.H)->G .next σ.s)
 (kr:∀L σ v x,Ok k d F L σ->Sx F σ0 σ->RV (σ.lx F.X0) v x->bz gd σ.H (T v<|iY gd σ.H)->G (.ret x) σ.s)
 (x:LI k d F gd I (Sx F σ0) 0 L σ) (w:i8 (wSs (wC d) body) t gd K T I.vs L σ.H):
 codeN (model k.prog k.w) F.A (.forLoop tg (.ref I.it) p [] F.env) (λres s'=>match res with|.ok fl=>G fl s'|.error _=>False) σ.s:=by
 refine jY (LW k d F gd I (Sx F σ0)<|i8 (wSs (wC d) body) t gd K T) (λm s h=>?_) I.vs.length ⟨0,L,σ,rfl,rfl,x,w⟩;obtain⟨j,L,σ,hs,H,x,w⟩:=h;subst hs;rcases m with _|m
 .have H:j=I.vs.length:=(Dp j).symm.trans H;rw[H,List.drop_length]at w;exact C.W.done σ.s _ (H▸x.st) λz tk e=>have c:=x.turn C (tk:=tk) (λb m q=>(x.fx b<|C.W.sub b m).elim (λf=>(hX b m<|f.2.2.1 q).elim) λf=>absurd m f.1) e;fk (kn L _ c.1 c.2.1 w)
 .refine bC λzG=>?_;obtain⟨v,hv,hd⟩:=Ak H;rw[hd]at w;obtain⟨w,U⟩:=du w;refine zG<|C.W.item tg j v σ _ _ hv x.st (by rw[J];rfl) x.ok.sr x.vl (λN N h=>h) λy z tk a st e=>rt w λL1 Jh w=>?_;obtain⟨u,u2⟩:=x.own C (tk:=tk) st e;refine kf u.ok.rm.2.2 Q1 hx Jh u.ok (a u2) λs3 m3 u3 O=>?_;have M:Sx F (σ.w {σ.s with heap:=z,toks:=tk}) (Sg.w (σ.w {σ.s with heap:=z,toks:=tk}) s3):=.of m3 (λN h=>.inl h.fa) O;have Y:=u.step C M O U U<|u.r.trans M
  have again:∀l D,Sx F (Sg.w (σ.w {σ.s with heap:=z,toks:=tk}) s3) D->Ok k d F l D->i8 (wSs (wC d) body) t gd K T (I.vs.drop<|j+1) l D.H->∃i,i<m+1/\LW k d F gd I (Sx F σ0) (i8 (wSs (wC d) body) t gd K T) i D.s:=λl D y Q w=>
   ⟨m,yb m,j+1,_,_,rfl,(Nat.add_right_comm m j 1).trans H,Y.step C y Q U (Hf w)<|Y.r.trans y,w⟩;exact hb F L1 _ p _ _ _ _ Kz O w ⟨again,λl v D xv y Q a w=>kr l D v xv Q (Y.r.trans y) a w,again⟩
end
def EB(h:tI x=false)(env:Env)(v:Value):foldedSetIterable x env v=pure v:=by rcases x<;>first|rfl|exact ff h.symm
def EC{body:Ss}(M:nY k d i)(J:gw k d body):fq k d (.dU t i body):=λF L σ x K T C G h o w j=>QA h λtg D y z p h=>co h λh0 h1 h2 h3=>co h1 λY f2 f3 f4=>by
 obtain rfl:=mi.1 h0;refine GO (M F L σ D _ _ h2 o w λvs gd s s1 val a src Ke zz w=>src _ λs2 I ev U f=>?_)<|EB (dK f2) _;refine bC λzG=>?_;subst ev;obtain⟨Q,of,H⟩:=v9 (o.on a) Ke;refine zG ?_;have l:=of.sr.keep (s':=s2) f.keep f.same;have n1:∀b,s.h b=none->¬ie s b:=λb e q=>of.sr.bound b q e;have N:∀b∈I.wr,¬F.X0 b:=λb m q=>(of.sr.eh b<|of.fr.out b q).2.1<|f.fresh b m;refine EA (σ0:=s.hz (freeze gd s.H) Q) (σ:=(s.hz (freeze gd s.H) Q).w s2) ⟨f.KZ,λb m=>of.sr.g3<|f.fresh b m,.inl ⟨U.trans Y,N⟩,λσ s' r m=>r.own m f.fresh⟩ (U.trans Y) N J h3 f3 (λx m=>dk<|ft.1 f4 x m) (λL' σ' O sx w=>?_) (λL' σ' v x O sx rv w=>?_) ⟨of.on l,l.sx of,f.st,λb m=>?_,f.KZ.up _ _ (Up.hz.trans l.up) f.val⟩ w
 .have c:=H _ σ' L' O sx.m (du w).2;exact j.next L' (σ'.hz (iY gd σ'.H) s.z) ((a.sx o).trans ⟨c.2,sx.new,sx.ap⟩) c.1 (du w).1
 .have c:=H _ σ' L' O sx.m (du w).2;exact j.ret L' v (σ'.hz (iY gd σ'.H) s.z) x ((a.sx o).trans ⟨c.2,sx.new,sx.ap⟩) c.1 (rv.on .hz) (du w).1
 .exact(f.fix b m).elim (λq=>.inl ⟨n1 b q.1,λu=>(of.fr.apart b u).2.2.2 q.1,λu=>((of.sr.eh b u).2.1 q.1).elim,q.2⟩) λq=>q.elim (λbT=>by obtain⟨q,ob,xs,n,e,e2⟩:=bT;exact .inl ⟨λu=>q<|.inl u,λu=>of.fr.noSeq u e xs n e2,λu=>(q<|.inr u).elim,aw<|f.keep b ob e⟩) .inr
inductive WW(k:Cx)(d:Nat)(F:Fr)(σ0:Sg)(ww:Nat->LP)(m:Nat)(s:Shared):Prop
 |of (L:Loc) (σ:Sg) (hs:σ.s=s) (o:Ok k d F L σ) (x:Sx F σ0 σ) (w:ww m L σ.H)
def yT{body:Ss}(e:nS k d c)(Y:gw k d body):fq k d (.kU c body):=λF L σ x K T C G h o w j=>J7 h λt y z p h=>bG h λH U N=>aI H λH ht=>by
 obtain rfl:=mi.1 H;obtain⟨w⟩:=w;refine Bf<|nQ (WW k d F σ<|i9 (wT (wC d) c) (wSs (wC d) body) K T) (λm s q=>?_) fuel ⟨L,σ,rfl,o,o.sr.here.sx o,w⟩;obtain⟨L,σ',M,O,x,w⟩:=q;subst M
 induction m using Nat.casesOn with|zero=>exact w.elim|succ m=>refine e F L σ' t _ _ ht U O w λb u a w=>pM w (λw=>?_) λw=>fk<|j.next L u (x.trans<|a.sx O) (O.on a) w;have f:=x.trans<|a.sx O;have again:∀l D,Sx F u D->Ok k d F l D->i9 (wT (wC d) c) (wSs (wC d) body) K T m l D.H->∃i,i<m+1/\WW k d F σ (i9 (wT (wC d) c) (wSs (wC d) body) K T) i D.s:=λl D y Q w=>⟨m,yb m,l,D,rfl,Q,f.trans y,w⟩;exact Y F L u y _ _ _ _ N (O.on a) w ⟨again,λl v D J y Q I w=>j.ret l v D J (f.trans y) Q I w,again⟩
end
end
abbrev ED(h:Heap)(d:Addr)(es:Array DictEntry)(ep:Nat):Prop:=h.get? d=some {cls:=.type "dict",dict:=none,data:=.dict es ep,slots:=#[]}
abbrev MH(h:Heap)(I d:Addr)(i n ep:Nat):Prop:=∃N,h.get? I=some {cls:=.type "dict_keyiterator",data:=.fields #[.ref d,.int i 0,.int n 0,.int ep 0],slots:=N}
section
variable{prog:Program}{w:World}{A:Around}{E:Value->Shared->Prop}{s:Shared}
def wa{d:Addr}(D:d≠sysModules)(H:ED s.heap d es ep)
 (z:Q (.ref s.heap.objs.size) {s with heap:=s.heap.push {cls:=.type "dict_keyiterator",data:=.fields #[.ref d,.int (0:Nat) 0,.int es.size 0,.int ep 0]} }):
 wpAny (model prog w) A (pyIter<|.ref d) Q E s:=by
 have T:s.TypeIs (.ref d) "dict":=⟨_,H,rfl⟩;refine wpAny_pyIter_slot T PySem.F.slot_dict_iter<|x3 PySem.F.slot_dict_iter T PySem.F.entry_dict_iter ?_<|PySem.F.args_dict_iter_1 _;unfold Builtin.«dict.__iter__» Builtin.Dict.dictSlotNone;refine da<|da<|wpAny_notOrdered_dict T ?_;show wpAny _ _ (pure<|Value.ref d) _ _ s;refine e5 ?_;show wpAny _ _ (Builtin.Dict.showsAll d>>=_) _ _ s;unfold Builtin.Dict.showsAll;rw[ej<|by simpa using D];refine da<|e5<|da<|wpAny_dictEntries H rfl (da<|wpAny_dictEpoch H rfl ?_);refine da<|wpAny_newObj_type<|e5 ⟨_,rfl,"dict_keyiterator",_,⟨_,hW _ rfl,rfl⟩,PySem.F.slot_dict_keyiterator_next.lookup,?_⟩;simpa [rawInt]using z
def wb(H:A.handled=none)(h:∀O z:Obj,z.cls=.type "StopIteration"->z.isFreed=false->E (.ref (s.heap.push O).objs.size) {s with heap:=(s.heap.push O).push z}):wpAny (model prog w) A (newExc (.type "StopIteration") []>>=raiseNew) Kq E s:=by
 refine da ?_;unfold newExc newTuple;refine da<|wpAny_newObj_type ?_<|by size_fits
 refine da (m:=firstArgMember _ _)<|m5 (a:=Value.none) (by first|rfl|(simp only[firstArgMember];rfl)) ?_;refine wpAny_newObj_type ?_<|by size_fits
 unfold raiseNew;refine da<|wpAny_handled ?_;rw[H];exact da<|e5<|wpAny_throw<|h _ _ rfl rfl
def we{I d:Addr}(y:A.handled=none)(x:MH s.heap I d i es.size ep)(m:ED s.heap d es ep)
 (u:∀H (k:i<es.size),MH H I d (i+1) es.size ep->Heap.SameBut I s.heap H->Q (some es[i].key) {s with heap:=H}) (D:∀H,es.size<=i->Heap.ExtBut I s.heap H->Q none {s with heap:=H}):wpAny (model prog w) A (pyNext<|.ref I) Q E s:=by
 obtain⟨N,J⟩:=x;have z:s.TypeIs (.ref I) "dict_keyiterator":=⟨_,J,rfl⟩;unfold pyNext
 refine da (wpAny_attempt (wpAny_callSpecial?_slot (name:=Str.ofString "__next__") z PySem.F.slot_dict_keyiterator_next
  (x3 PySem.F.slot_dict_keyiterator_next z PySem.F.entry_dict_keyiterator_next ?_<|PySem.F.args_dict_keyiterator_next_1 _)));refine da<|e5<|da<|da<|da<|wpAny_typeNameOfWhole_keyiter z<|e5<|da<|wpAny_fieldsOf J rfl ?_;show wpAny _ _ (if(Value.ref d==Value.none)=true then _ else _) _ _ s;refine lC nI<|da<|e5<|da<|wpAny_dictEntries m rfl (lC (λq=>(bne_iff_ne.1 q) rfl)<|da<|e5<|da<|wpAny_dictEpoch m rfl (lC (λq=>(bne_iff_ne.1 q) rfl)<|e5 ?_))
 have p:(if(i:Int)<0 then none else es[(i:Int).toNat]?)=es[i]?:=ej<|G7.2<|wX i
 show wpAny _ _ (match(if(i:Int)<0 then none else es[(i:Int).toNat]?)with|some e=>_|none=>_) _ _ s
 rw[p]
 by_cases k:i<es.size
 .rw[Array.getElem?_eq_getElem k];refine da<|da<|wpAny_typeNameOfWhole_keyiter z<|e5<|da<|wpAny_isOneOf_keyiter z ?_;show wpAny _ _ (setField (.ref I) 1 (rawInt<|(i:Int)+1)>>=_) _ _ s;refine da<|wpAny_setField J rfl (show 1<4 by decide) ?_;have G:MH (s.heap.update I<|Obj.mapFields (·.setIfInBounds 1 (rawInt<|(i:Int)+1))) I d (i+1) es.size ep:=⟨N,Heap.get?_update_self _ J<|Obj.isFreed_of_fields<|Obj.data_mapFields rfl _⟩;refine da<|Be<|da<|wpAny_isOneOf_keyiter (s:={s with heap:=s.heap.update I (Obj.mapFields (·.setIfInBounds 1 (rawInt<|(i:Int)+1)))}) ⟨_,G.choose_spec,rfl⟩ ?_;show wpAny _ _ (pure es[i].key) _ _ _;exact e5<|e5 ⟨_,rfl,e5<|u _ k G<|Cp ..⟩
 .rw[Array.getElem?_eq_none<|pg k];refine da<|da<|wpAny_typeNameOfWhole_keyiter z<|e5 ?_;show wpAny _ _ (setField (.ref I) 0 .none>>=_) _ _ s;refine da<|wpAny_setField J rfl (show 0<4 by decide) (wb (A:=A.in1) y λO l c f=>da<|wpAny_isInstance (T:="StopIteration") (b:=true) ⟨_,hW _ f,c⟩ isSubtype_stop<|e5<|D _ (pg k)<|((Cp ..).extBut.push _).push _)
def EF{I d:Addr}(H:MH s.heap I d i n ep)(h:Q (.ref I) s):wpAny (model prog w) A (pyIter<|.ref I) Q E s:=by obtain⟨N,J⟩:=H;have T:s.TypeIs (.ref I) "dict_keyiterator":=⟨_,J,rfl⟩;refine wpAny_pyIter_slot T PySem.F.slot_dict_keyiterator_iter<|x3 PySem.F.slot_dict_keyiterator_iter T PySem.F.entry_dict_keyiterator_iter ?_<|PySem.F.args_dict_keyiterator_iter_1 _;show wpAny _ _ (ret<|.ref I) _ _ s;exact e5 ⟨_,rfl,"dict_keyiterator",_,T,PySem.F.slot_dict_keyiterator_next.lookup,h⟩
end
section
variable{k:Cx}{d:Nat}{F:Fr}{L L':Loc}{σ:Sg}{A:Around}{gd:Option (Nat×Ob)}{vs:List V}
def sj(m:A.handled=none)(I d:Addr)(Y:d≠I)(es:Array DictEntry)(ep:Nat):
 Walks k.prog k.w A I [I,d] [I] es.size (λi v=>∃e,es[i]?=some e/\v=e.key) (λi h=>MH h I d i es.size ep/\ED h d es ep) where
 sub:=λb H=>ke H▸.head _
 frame:=λj h x st y=>⟨st.1.imp λN a=>y _ (.head _) _ a,y _ (.tail _<|.head _) _ st.2⟩
 item:=λj s Q E y st z=>we m st.1 st.2 (λx p l u=>z _ x s.toks ⟨_,Array.getElem?_eq_getElem y,rfl⟩ ⟨l,(u.2 d Y).trans st.2⟩ λb o H e=>(u.2 b λq=>H<|q▸.head _).trans e) λp q=>absurd y (Nat.not_lt.2 q)
 done:=λs Q E st z=>we m st.1 st.2 (λp q=>absurd q<|Nat.lt_irrefl _) λx p u=>z x s.toks λb o H e=>u b o (λq=>H<|q▸.head _) e
 self:=λj s Q E st z=>EF st.1 z
def Hh(z:A.handled=none)(I d:Addr)(Y:d≠I)(es:Array DictEntry)(ep:Nat){vs:List V}(H:es.size=vs.length):
 CP k A (KX I [I,d] vs (λi v=>∃e,es[i]?=some e/\v=e.key) (λi h=>MH h I d i es.size ep/\ED h d es ep)):=
 .eB (sj z I d Y es ep) H "dict_keyiterator" (by decide) λj h st=>st.1.elim λN e=>⟨_,e,rfl,noSeq rfl⟩
def Src.K0{o:Obj}{f:List Addr}{P:Nat->Value->Prop}{St:Nat->Heap->Prop}{Q:Value->Shared->Prop}(z:∀s2 I,I.vs=vs->I.tf=true->Src k A σ gd s2 I->Q (.ref I.it) s2)(W:CP k A<|KX σ.s.heap.objs.size f vs P St)(st:St 0<|σ.s.heap.push o)
 (x:∀b∈f,b=σ.s.heap.objs.size\/(¬NI σ b/\∃o xs n,σ.h b=some o/\o.data=.seq xs n)\/∃a o p,gd=some (a,o)/\σ.g[a]?=some p/\b=p.1/\RO k σ p o)
 (G:∀(j:Nat) v val,vs[j]?=some v->P j val->RV σ v val):Q (.ref σ.s.heap.objs.size) {σ.s with heap:=σ.s.heap.push o}:=
 have T:=bj σ.s.heap
 z _ (KX σ.s.heap.objs.size f vs P St) rfl rfl ⟨W,st,λb H=>ke H▸T,λy y e=>fz _ e,⟨rfl,rfl,rfl⟩,λb H=>(x b H).elim (λe=>.inl<|e▸⟨T,W.live 0 _ st _<|.head _⟩) λq=>.inr<|q.imp_right λu=>by obtain⟨a,o,p,s,l,i,c⟩:=u;exact⟨λm=>c.live.1<|i▸ke m▸T,a,o,p,s,l,i⟩,G⟩
def itemOf{items:Array Value}(s:aN σ l items.toList)(j:Nat)(v:V)(val:Value)(H:l[j]?=some v) (p:items[j]?=some val):RV σ v val:=
 (s.get H).elim λx h=>dR ((p8.symm.trans h.1).symm.trans p)▸h.2
def N8(h:σ.h a=some o)(e:o.data=.seq xs n)(f:¬NI σ a\/∃i o p,gd=some (i,o)/\σ.g[i]?=some p/\a=p.1/\RO k σ p o) (b:Addr) (H:b∈[σ.s.heap.objs.size,a]):
 b=σ.s.heap.objs.size\/(¬NI σ b/\∃o xs n,σ.h b=some o/\o.data=.seq xs n)\/∃a o p,gd=some (a,o)/\σ.g[a]?=some p/\b=p.1/\RO k σ p o:=
 (lq.1 H).imp_right λH=>by obtain rfl:=ke H;exact f.imp_left λq=>⟨q,o,xs,n,h,e⟩
def src_list{a:Addr}{n:Nat}{items:Array Value}{l:List V}(z:A.handled=none)(I:IsL σ.s.heap a items n)(s:aN σ l items.toList)
 (H:¬NI σ a\/∃i o p,gd=some (i,o)/\σ.g[i]?=some p/\a=p.1/\RO k σ p o):sg k A σ σ.s l true gd (.ref a):=λQ y=>
 wpAny_pyIter_list (lp (n:=n) I) (Src.K0 y (Hd z _ a (q0<|p9 I) items s.size) ⟨⟨_,hW _ rfl,rfl,rfl⟩,(lp (n:=n) I).push _⟩ (N8 I rfl H)<|itemOf s)
def src_tuple{a:Addr}{n:Nat}{items:Array Value}{l:List V}(z:A.handled=none)(p:IsT σ.s.heap a items n)(s:aN σ l items.toList)(H:¬NI σ a):sg k A σ σ.s l true gd (.ref a):=λQ y=>
 have T:σ.s.heap.IsTuple a items:=⟨_,p,rfl,n,rfl⟩
 wpAny_pyIter_tuple T (Src.K0 y (Ev z _ a (q0<|p9 p) items s.size) ⟨⟨_,hW _ rfl,rfl,rfl⟩,T.push _⟩ (N8 p rfl (.inl H))<|itemOf s)
def yU{α:Type}{f:α->V}{l:List α}{j:Nat}{v:V}{c:α}(H:(l.map f)[j]?=some v) (h:l[j]?=some c):f c=v:=dR<|((qa ..).trans<|cg (Option.map f) h).symm.trans H
def Hi{l:List Nat}{t:Tok}(z:A.handled=none):sg k A σ σ.s (l.map λc=>.str [c]) true gd (.str ⟨l.toArray⟩ t):=by
 intro Q y;have s:(⟨l.toArray⟩:Str).cps.size=(l.map λc=>V.str [c]).length:=mF.trans (a9 ..).symm
 have G:∀(j:Nat) v val,(l.map λc=>V.str [c])[j]?=some v->SignAt ⟨l.toArray⟩ j val->RV σ v val:=λj v val J ⟨c,u,p,e⟩=>
  e▸yU J (List.getElem?_toArray▸p)▸.ss (l:=[c]) (show 1<=sizeLine by decide)
 by_cases a:(⟨l.toArray⟩:Str).cps.all (·<128)=true
 .exact wpAny_pyIter_ascii a<|Src.K0 y (.eB (Walks.strAscii z _ _ t) s "str_ascii_iterator" (by decide) λj h st=>st.imp λo x=>⟨x.1,x.2.1,noSeq x.2.2⟩) ⟨_,hW _ rfl,rfl,rfl⟩ (λb H=>.inl<|ke H) G
 .exact wpAny_pyIter_wide (tq.2 a)<|Src.K0 y (.eB (Walks.strWide z _ _ t) s "str_iterator" (by decide) λj h st=>st.imp λo x=>⟨x.1,x.2.1,noSeq x.2.2⟩) ⟨_,hW _ rfl,rfl,rfl⟩ (λb H=>.inl<|ke H) G
def BP{l:List UInt8}{t:Tok}(z:A.handled=none):sg k A σ σ.s (l.map λc=>.int c.toNat) true gd (.bytes l.toArray t):=λQ H=>
 KBw.pyIter_bytes (Src.K0 H (.eB (KBw.walks z _ _ t) (mF.trans (a9 ..).symm) "bytes_iterator" (by decide) λj h st=>st.imp λo x=>⟨x.1,x.2.1,noSeq x.2.2⟩) ⟨_,hW _ rfl,rfl,rfl⟩ (λb y=>.inl<|ke y) λj v a J ⟨c,u,s,e⟩=>
  e▸yU J (List.getElem?_toArray▸s)▸.ii)
def EG{i:Nat}{kd:Kd}{D:List (V×V)}{p:Addr×Addr}(u:A.handled=none)(r:SR k σ)(z:σ.g[i]?=some p) (O:oj k σ p kd D):sg k A σ σ.s (D.map (·.1)) true (some (i,.dict kd D)) (.ref p.1):=by intro Q s;have l:=O;obtain⟨es,ep,T,e,N,M,m,x⟩:=O;have hz:es.size=(D.map (·.1)).length:=(xC.symm.trans x.len).trans (a9 ..).symm;refine wa (BB.1<|r.en z) m<|Src.K0 s (Hh u _ p.1 (q0<|p9 m) es ep hz) ⟨⟨_,hW _ rfl⟩,fz _ m⟩ (λb H=>(lq.1 H).imp_right λH=>.inr ⟨_,_,p,rfl,z,ke H,l⟩) λj v I J ⟨e,f,q⟩=>?_;refine C5 (((qa ..).symm.trans J)) λc a=>?_;obtain⟨y,Y,U,_⟩:=x.get a;exact q▸dR ((p8.symm.trans Y).symm.trans f)▸U
set_option tactic.hygienic true in
def wi{e:Mine.E}(Y:aG k d e):nY k d (.val e):=λF L σ x Q K h o w y=>Y F L σ x _ _ h o w λv u M z m w=>by
 have s:=o.rm.2.2;have U:cn<=sizeLine:=by decide
 rcases v with _|_|_|l|l|l|l|i;.exact w.elim
 .exact w.elim
 .exact w.elim
 .exact m.gA λt H=>y _ none u _ _ z (Hi s) .none (c0 (rn<|a9 ..) H) w
 .exact m.A8 λt H=>y _ none u _ _ z (BP s) .none (c0 (rn<|a9 ..) H) w
 .exact m.f0 λa n b H N j f=>y _ none u _ _ z (src_tuple s j f N) .none H w
 .exact m.jQ λa n b H N j f=>y _ none u _ _ z (src_list s j f<|.inl N) .none H w
 .refine m.rf λp c=>?_;obtain⟨h,w⟩:=(show wO _ _ from w);rename_i ob;have O:=z.sr.obs i p ob c h;rcases ob with l|⟨kd,dd⟩|_|_|_
  .have T:=O;obtain⟨n,b,H,_,j,f⟩:=O;exact y _ _ u _ _ z (src_list s j f<|.inr ⟨_,_,p,rfl,c,rfl,T⟩) (.some h rfl) H w
  .exact y _ _ u _ _ z (EG s z.sr c O) (.some h rfl) (oj.casesOn O λ_ _ H _ _ _ _ _=>c0 (rn<|a9 ..)<|c0 H U) w
  .exact w.elim
  .exact w.elim
  .exact w.elim
def Hj(n:Int):Builtin.Range.rangeSize 0 n 1=(n.toNat:Int):=by
 rw[rangeSize_one];by_cases h:0<n;.rw[er h,Int.sub_zero];exact(Int.toNat_of_nonneg<|Int.le_of_lt h).symm
 .rw[ej h,Int.toNat_of_nonpos<|G7.1 h];rfl
def qd(m:aG k d e):nY k d (.range e):=λF L σ x Q K h o w f=>jb h λp as ps G h=>rg h λy h=>aI h λU h=>by
 have U:=dK U
 cases o.sr.base.ns with
 |of mg mb c Y n3 n4 n5 n6 T=>
  have s:=T ("range",.type "range")<|.head _;refine bc<|I9 o.fr.kind (c6 G) (Calls.loadGlobal_builtin (o.fr.glob▸o.sr.ez c) s.1 (o.fr.blt▸o.sr.ez Y) s.2 ?_)<|by decide+kernel
  refine aW (P:=λzz=>True) (keywords:=[]) (by rw[bO λx H=>by cases dt.1 H;exact U];rfl) (λh hh=>⟨.machine,.inr<|.inl rfl,Looks.of_pure rfl⟩)
   (ck (λx H=>by cases dt.1 H;exact U)<|bh (m F L σ y _ _ h o w λv z O a M w=>bM ⟨trivial,?_⟩)<|bA U _ _);refine M.bx w λn t w=>Ej w λN w=>al<|call_range_1 ?_;have l:((List.range n.toNat).map λi=>V.int<|Int.ofNat i).length=n.toNat:=(a9 ..).trans List.length_range;have I:=xf
  have D:=a.sr.push {cls:=.type "range",data:=.fields #[.int 0 z.s.toks,.int n t,.int 1<|z.s.toks+1]} (z.s.toks+1+1)
  refine f _ none (z.w _) _ _ (a.trans D) (λQ hq=>?_) .none (c0 (rn l)<|I▸Int.toNat_le.2 (I8 N.2<|by decide)) w
  refine wpAny_pyIter_range (IsRange.new z.s.heap 0 n 1 z.s.toks t<|z.s.toks+1) (small_one (by decide) (by decide) (I8 (by decide) N.1)<|Int.lt_of_le_of_lt N.2<|by decide)<|Src.K0 hq (Ew o.rm.2.2 _ n.toNat l.symm) ?_ (λb hb=>.inl<|ke hb) ?_
  .rw[Hj]
   show Heap.get? _ _=some _
   exact(cg (λi=>(_:Heap).get? _=some {cls:=.type "range_iterator",data:=.fields #[rawInt 0,rawInt i,rawInt 1]}) (Int.sub_zero _)).mpr (hW _ rfl)
  .rintro j v O J ⟨u,rfl⟩
   have QO:j<n.toNat:=l▸(f5.1 J).1
   rw[<-yU J (List.getElem?_range QO),Int.zero_add,Int.mul_one]
   exact .ii
end
section
set_option maxRecDepth 100000
noncomputable def EH(b:BM)(t:Nat):String:=match b with|.extend=>cond (Nat.beq t 2) "list.extend" "bytearray.extend"|.pop=>cond (Nat.beq t 1) "dict.pop" "list.pop"|.get=>"dict.get"|.split=>"str.split"|.join=>"str.join"
def eC:Slot "bytearray" "extend" "bytearray.extend":=
 .of (owner:="bytearray") (n:="extend") (by rw[r0,my];kernel_rfl) (by decide+kernel) (by decide+kernel) (by decide+kernel)
  (by first|exact .inl (by decide+kernel)|exact .inr<|by decide+kernel) (by rw[isSubtype_type];kernel_rfl)
def qe:typeOf (.builtin "bytearray.extend")=pure (.type "method_descriptor"):=by show builtinType _=_;rw[builtinType_eq_fast];kernel_rfl
def ru:PlainAttrs "bytearray":=
 ⟨⟨"bytearray.__getattribute__",by rw[r0,my];kernel_rfl,by decide+kernel⟩,by rw[r0,my];kernel_rfl⟩
section
variable(k:Cx)
def yV(b:BM):Prop:=∀x t s z J a A Q K,A.units+60<cLine->A.handled=none->SR k z->RV z x J->aN z s a->Qd b x t s z.H Q->KV k z Q K->WN k A (PySem.call (.builtin<|EH b t)<|J::a) K z.s
end
section
variable{k:Cx}{d:Nat}{σ:Sg}{x:V}{xv:Value}{A:Around}{E:Value->Shared->Prop}{C:Prop}{p:Addr×Addr}
def Found(k:Cx)(s:Shared)(A:Around)(xv:Value)(b:BM)(t:Nat):Prop:=∀(l:Sem Bool) (K:Value×List Value->Shared->Prop) (E:Value->Shared->Prop),K (.builtin<|EH b t,[xv]) s->wpAny (model k.prog k.w) A (getMethod xv (Sy b) l) K E s
def MI(h:σ.s.heap.get? a=some o)(e:o.dict=none)(b:Addr)(q:Value.ref a=.ref b):∃ob,σ.s.heap.get? b=some ob/\ob.dict=none:=⟨o,Value.ref.inj q▸h,e⟩
def yW(O:J2 σ p l)(e:yt b 2=true):Found k σ.s A (.ref p.1) b 2:=λL K E q=>by
 obtain⟨n,s,_,_,T,_⟩:=O
 induction b using BM.casesOn with|extend=>exact getMethod_builtin ⟨_,T,rfl⟩ PySem.F.plainAttrs_list PySem.F.slot_list_extend PySem.F.type_list_extend (MI T rfl) q|pop=>exact getMethod_builtin ⟨_,T,rfl⟩ PySem.F.plainAttrs_list PySem.F.slot_list_pop PySem.F.type_list_pop (MI T rfl) q|_=>injection e
def yX(O:oj k σ p kd dd)(e:yt b 1=true):Found k σ.s A (.ref p.1) b 1:=λl K E q=>by
 obtain⟨_,_,_,_,_,_,T,_⟩:=O
 induction b using BM.casesOn with|pop=>exact getMethod_builtin ⟨_,T,rfl⟩ PySem.F.plainAttrs_dict PySem.F.slot_dict_pop PySem.F.type_dict_pop (MI T rfl) q|get=>exact getMethod_builtin ⟨_,T,rfl⟩ PySem.F.plainAttrs_dict PySem.F.slot_dict_get PySem.F.type_dict_get (MI T rfl) q|_=>injection e
def yY{b:BM}{l:List UInt8}(T:σ.h p.1=some {cls:=.type "bytearray",dict:=none,data:=.bytearray l.toArray 0,slots:=#[]}) (e:yt b 3=true):Found k σ.s A (.ref p.1) b 3:=λL K E q=>by
 induction b using BM.casesOn with|extend=>exact getMethod_builtin ⟨_,T,rfl⟩ ru eC qe (MI T rfl) q|_=>injection e
def BQ(e:yt b 4=true):Found k s A (.str l t) b 4:=λL K E q=>by
 induction b using BM.casesOn with|split=>exact PySem.GM.split q|join=>exact PySem.GM.join q|_=>injection e
def UX(e:yt b 0=true):C:=by rcases b<;>injection e
set_option tactic.hygienic true in
def Hk(w:Nd b x σ.H Q)(r:SR k σ)(z:RV σ x xv)(f:∀t,Q t->Found k σ.s A xv b t->C):C:=by
 cases x with
 |str l=>exact z.gA (C:=λxv=>(∀t,Q t->Found k σ.s A xv b t->C)->C) (λt L f=>vG w λe w=>f 4 w<|BQ e) f|ref i=>
  obtain⟨p,H,rfl⟩:=z;obtain⟨h,w⟩:=(show wO _ _ from w);rename_i o;have O:=r.rd H h;refine vG w λe w=>f _ w ?_
  induction o using Ob.casesOn with|list l=>exact yW O e|dict D y=>exact yX O e|iy l=>exact yY O.2.2 e|_=>exact UX e
 |_=>exact w.elim
def Hl(H:yV k b)(J:aG k d o)(m:iR k d l):aG k d (.bm b o l):=λF L σ x Q K h ok w j=>j8 h λy i pos h=>aI h λf z=>
 ⟨bB z,J F L σ y _ _ f ok w λM e N a s w pl=>Hk w a.sr s λt w find=>find _ _ _
   (aW (P:=λc=>True) (keywords:=[]) (by rw[bO<|bB z];rfl) (λh hh=>⟨.machine,.inr<|.inl rfl,Looks.of_pure rfl⟩)
     (ck (bB z) (m F L e i pos _ _ z (ok.on a) w λY I U c u T w=>⟨trivial,
       H M t Y I N U F.A Q K (dS (ih (by decide:60<=100) _) ok.rm.units) ok.rm.2.2 u.sr (s.on u.up) T w λv O G D r3 w=>j v O G ((a.trans u).trans D) r3 w⟩)))⟩
def EI{b:BM}{t:Nat}{vs:List V}{Q:VP}{D:Value->Prop}(w:Qd b x t vs σ.H Q)(H:b≠ .split/\b≠ .join)(r:SR k σ)(y:RV σ x xv)(f:∀i p o,σ.g[i]?=some p->σ.H[i]?=some o->RO k σ p o->t=GH o.base->Nc b o i vs σ.H Q->D (.ref p.1)):D xv:=by
 cases x with
 |str l=>induction b using BM.casesOn with
  |split=>exact absurd rfl H.1|join=>exact absurd rfl H.2|_=>exact w.elim
 |ref i=>obtain⟨p,z,rfl⟩:=y;obtain⟨h,w⟩:=(show wO _ _ from w);exact vG w λe w=>f i p _ z h (r.obs i p _ z h) (Nat.eq_of_beq_eq_true e) w
 |_=>exact w.elim
def K2:yV k .get:=λx t Y σ xv b A Q K u U r y l w s=>EI (D:=λxv=>WN k A (PySem.call (.builtin<|EH .get t)<|xv::b) K σ.s) w ⟨nofun,nofun⟩ r y λi p o H h O m w=>l.KN w λj z ky T f c w=>by
 have O:=O.base;revert w O;show JU o j z σ.H Q->_;unfold JU
 cases o.base with
 |dict N M=>
  refineλw O=>vG w λa w=>?_
  cases w with|of e w=>obtain rfl:=dR e;exact al<|NT r H O (dS (ih (by decide:20<=60) _) u) a f c λL tk G=>s _ _ _ (r.tok tk) (G.on (r.tok tk).up) w
 |_=>exactλw m=>w.elim
def SR.N9(r:SR k σ)(H:σ.g[i]?=some p) (e:p.2=p.1) (T:IsL σ.s.heap p.1 xs n) (f:Array Value->Array Value) (l:l'.length<=sizeLine) (s:aN σ l' (f xs).toList):
 Af k σ (σ.t i (.list l') {σ.s with heap:=σ.s.heap.update p.1 (Obj.mapSeq f)}):=
 have same:Heap.SameBut p.1 σ.s.heap (σ.s.heap.update p.1<|Obj.mapSeq f):=Cp _ _ _
 r.set (o:=.list l') (s':={σ.s with heap:=σ.s.heap.update p.1 (Obj.mapSeq f)}) H (λb o z y e=>(same.2 b z).trans e) ⟨rfl,rfl,rfl⟩ λu=>.of _ _ l e (T.update _)<|s.on u
def K3:yV k .pop:=λx t vs σ xv b A Q K U hh r c N M u=>EI (D:=λxv=>WN k A (PySem.call (.builtin<|EH .pop t)<|xv::b) K σ.s) M ⟨nofun,nofun⟩ r c λi p o s h O e w=>N.jk w λkx ky z w=>by
 cases o with
 |list m=>induction m using List.casesOn with
  |nil=>exact w.elim|cons y l=>
   refine vG w λH w=>?_;obtain rfl:=dk H;obtain rfl:=e;obtain⟨n,J,L,e,T,I⟩:=O;refine z.ls λt=>bC λG=>?_;obtain⟨Y,rest,h5,j,h7⟩:=I;have UY:J=(Y::rest).toArray:=Array.toList_inj.1 h7;subst UY;refine G ?_;have e0:((Y::rest).toArray.eraseIdxIfInBounds 0).toList=rest:=by simp[Array.eraseIdxIfInBounds]
   have L:l.length+1<=sizeLine:=L;have f:=r.N9 (l':=l) s e T (λzs=>zs.eraseIdxIfInBounds 0) (HZ L)<|by rw[e0];exact j
   show WN k A (PySem.call (.builtin "list.pop") [.ref p.1,.int 0 t]) K σ.s;exact al<|call_meets PySem.F.slot_list_pop ⟨_,T,rfl⟩ PySem.F.entry_list_pop (PySem.F.args_list_pop_2 _ _) (PySem.MeetsSeq.list_pop_at p.1 _ n 0 t 0 Y (by decide) (by simp[seqIndex?]) (by simp)<|by rw[mF,mc,j.len];exact xf▸L) ⟨T,u _ _ _ f (h5.on f.up) w⟩
 |dict kd dd=>
  obtain rfl:=e;refine vG w λhc w=>aI hc λH UZ=>?_
  have DE:(keyPart ky).isSome=true:=by
   cases kd with
   |int=>obtain⟨i,rfl⟩:=vK H;exact z.ls λt=>rfl
   |str=>obtain⟨i,rfl⟩:=pG H;exact z.gA λt zz=>rfl
   |_=>injection UZ
  show WN k A (PySem.call (.builtin "dict.pop") [.ref p.1,ky]) K σ.s
  cases w with|of e w=>exact al<|QM r s O (dS (ih (by decide:20<=60) _) U) H DE z e λval s' a wg=>u _ _ _ a wg w
 |_=>exact w.elim
end
end
def ua:typeLookup (.type "int") "__bytes__"=pure none:=by rw[r0,my];kernel_rfl
def int_index:typeLookup (.type "int") "__index__"=pure (some<|.builtin "int.__index__"):=by rw[r0,my];kernel_rfl
def lR:typeLookup (.type "bytes") "__bytes__"=pure (some<|.builtin "bytes.__bytes__"):=by rw[r0,my];kernel_rfl
def wj:typeLookup (.type "bytearray") "__bytes__"=pure none:=by rw[r0,my];kernel_rfl
def wm:typeLookup (.type "bytearray") "__index__"=pure none:=by rw[r0,my];kernel_rfl
def lS:typeLookup (.type "bytearray") "__buffer__"=pure (some<|.builtin "bytearray.__buffer__"):=by rw[r0,my];kernel_rfl
def qf:typeLookup (.type "bytearray") "__release_buffer__"=pure (some<|.builtin "bytearray.__release_buffer__"):=by rw[r0,my];kernel_rfl
def ub:isSubtype (.type "bytearray") (.type "bytearray")=pure true:=by rw[isSubtype_type];kernel_rfl
section
variable{prog:Program}{w:World}{A:Around}{E:Value->Shared->Prop}{s:Shared}
def qg{name id T:String}(H:s.TypeIs x T)(l:typeLookup (.type T) (name:Str)=pure (some<|.builtin id))(z:id.endsWith ("."++name)=true)(y:id.dropRight (name.length+1)=T)(u:isSubtype (.type T) (.type T)=pure true)(h:Q true s):
 wpAny (model prog w) A (Builtin.Bytes.slotIsOwn x name) Q E s:=by
 unfold Builtin.Bytes.slotIsOwn;refine da<|xD H l ?_;show wpAny _ _ (if _ then _ else _) _ _ _;rw[ej<|by rw[z];decide,y];exact wpAny_isInstance H u h
def fu(h:codeAny (model prog w) A.in1 (.call (.builtin "bytes.__new__") ⟨[.type "bytes",x],[]⟩) (wants (λb s₁=>s₁.TypeIs b "bytes"/\Q b s₁) E) s):
 wpAny (model prog w) A (PySem.call (.type "bytes") [x]) Q E s:=by
 refine callType_codes (Q₁:=λb s₁=>s₁.TypeIs b "bytes"/\Q b s₁) PySem.F.bm_called (PySem.F.bm_typeCall _) PySem.F.entry_object_init ?_ λb s₁ H=>?_;.exact h
 exact⟨H.1,PySem.F.args_object_init_2 b _,object_init_meets PySem.F.bm_called.init.lookup PySem.F.bm_called.made (by decide) prog w A.in1 _ s₁ ⟨H.1,rfl,H.2⟩⟩
def rz(z:0<=n)(H:n<=1000000)(y:∀t,Q (.bytes (Array.replicate n.toNat 0) t) {s with toks:=s.toks+1}):
 codeAny (model prog w) A (.call (.builtin "bytes.__new__") ⟨[.type "bytes",.int n t],[]⟩) (wants Q E) s:=by
 refine codeAny_of_tree ?_;show wpAny _ A.in1 (do checkBuiltinCall "bytes.__new__" ⟨[.type "bytes",.int n t],[]⟩;again (.builtin "bytes.__new__" ⟨[.type "bytes",.int n t],[]⟩)) _ _ s;refine da<|m5 (PySem.F.bm_newCall _)<|e5 ⟨plainId_quiet PySem.F.bm_plain _,codeAny_builtin PySem.F.bm_entry ?_⟩;rw[Around.under_plainId PySem.F.bm_plain _];have T:s.TypeIs (.int n t) "int":=rfl;unfold Builtin.«bytes.__new__»;refine da<|m5 (a:=true) rfl<|Gq rfl<|da<|m5 PySem.F.bm_sub<|Gq rfl<|da<|m5 (PySem.F.bm_bind _)<|da<|m5 (a:=()) rfl<|da<|m5 (a:=()) rfl<|Gq rfl<|da<|xD T ua<|da<|m5 (a:=false) rfl<|Gq rfl<|da<|xD T int_index<|Gq rfl<|da<|m5 (a:=.ok n) rfl ?_;dsimp only
 refine Gq (by
  have:Builtin.Bytes.fitsIndex n=true:=by unfold Builtin.Bytes.fitsIndex;simp;exact⟨I8 (by decide) z,Int.lt_of_le_of_lt H<|by decide⟩
  rw[this];rfl) ?_;rw[ej<|G7.2 z,ej<|G7.2<|I8 H<|by decide]
 refine Gq (by unfold Builtin.Bytes.tooLong;rw[ly,xf];exact Nat.not_lt.2<|Int.toNat_le.2<|I8 H<|by decide) ?_;refine da<|wpAny_rule<|da<|wpAny_mkBytes ?_<|by rw[Array.size_replicate,xf];exact Int.toNat_le.2<|I8 H<|by decide
 show wpAny _ _ (if(Value.type "bytes"==Value.type "bytes")=true then _ else _) _ _ _;refine bm_if_true (by decide) ?_
 first
  |exact e5<|y _|exact da<|e5<|e5<|y _
def nZ(H:Q (.bytes b t) s):
 codeAny (model prog w) A (.call (.builtin "bytes.__new__") ⟨[.type "bytes",.bytes b t],[]⟩) (wants Q E) s:=by
 refine codeAny_of_tree ?_;show wpAny _ A.in1 (do checkBuiltinCall "bytes.__new__" ⟨[.type "bytes",.bytes b t],[]⟩;again (.builtin "bytes.__new__" ⟨[.type "bytes",.bytes b t],[]⟩)) _ _ s;refine da<|m5 (PySem.F.bm_newCall _)<|e5 ⟨plainId_quiet PySem.F.bm_plain _,codeAny_builtin PySem.F.bm_entry ?_⟩;rw[Around.under_plainId PySem.F.bm_plain _];have T:s.TypeIs (.bytes b t) "bytes":=PySem.W.typeIs_bytes _ _ _;unfold Builtin.«bytes.__new__»;refine da<|m5 (a:=true) rfl<|Gq rfl<|da<|m5 PySem.F.bm_sub<|Gq rfl<|da<|m5 (PySem.F.bm_bind _)<|da<|m5 (a:=()) rfl<|da<|m5 (a:=()) rfl<|Gq rfl<|da<|xD T lR ?_;dsimp only;refine da<|wpAny_rule<|da<|wpAny_typeOf T<|bm_if_true (by decide) ?_;show wpAny _ _ (if(Value.type "bytes"==Value.type "bytes")=true then _ else _) _ _ _;refine bm_if_true (by decide) ?_
 first
  |exact e5 H|exact da<|e5<|e5 H
def uc(H:s.heap.get? a=some {cls:=.type "bytearray",dict:=none,data:=.bytearray b e,slots:=#[]}) (y:b.size<=sizeLine) (z:∀t,Q (.bytes b t) {s with toks:=s.toks+1}):
 codeAny (model prog w) A (.call (.builtin "bytes.__new__") ⟨[.type "bytes",.ref a],[]⟩) (wants Q E) s:=by
 refine codeAny_of_tree ?_;show wpAny _ A.in1 (do checkBuiltinCall "bytes.__new__" ⟨[.type "bytes",.ref a],[]⟩;again (.builtin "bytes.__new__" ⟨[.type "bytes",.ref a],[]⟩)) _ _ s;refine da<|m5 (PySem.F.bm_newCall _)<|e5 ⟨plainId_quiet PySem.F.bm_plain _,codeAny_builtin PySem.F.bm_entry ?_⟩;rw[Around.under_plainId PySem.F.bm_plain _];have T:s.TypeIs (.ref a) "bytearray":=⟨_,H,rfl⟩;unfold Builtin.«bytes.__new__»;refine da<|m5 (a:=true) rfl<|Gq rfl<|da<|m5 PySem.F.bm_sub<|Gq rfl<|da<|m5 (PySem.F.bm_bind _)<|da<|m5 (a:=()) rfl<|da<|m5 (a:=()) rfl<|Gq rfl<|da<|xD T wj<|da<|da ?_;show wpAny _ _ (load a>>=_) _ _ _;refine da<|wpAny_load H<|e5<|e5<|Gq rfl<|da<|xD T wm<|bm_if_true rfl ?_;show wpAny _ _ (Builtin.Bytes.buffer? "bytes.__new__" (.ref a) true>>=_) _ _ _;refine da ?_;unfold Builtin.Bytes.buffer?;refine da<|xD T lS<|da<|qg T lS (by decide+kernel) (by decide+kernel) ub ?_;refine Gq rfl<|da<|xD T lS ?_;unfold Builtin.Bytes.ownRelease;refine da<|da<|qg T qf (by decide+kernel) (by decide+kernel) ub<|e5 ?_;refine Gq rfl ?_;unfold Builtin.Bytes.payload Builtin.Bytes.payload?;refine da<|da<|da<|wpAny_load H<|e5<|e5<|e5 ?_;dsimp only;refine da<|wpAny_rule<|da<|wpAny_mkBytes ?_ y;show wpAny _ _ (if(Value.type "bytes"==Value.type "bytes")=true then _ else _) _ _ _;refine bm_if_true (by decide) ?_
 first
  |exact e5<|z _|exact da<|e5<|e5<|z _
end
section
variable{M:Model}{A:Around}{E:Value->Shared->Prop}{s:Shared}
def kg{e:Value}(h:Q false s):aB M A (Builtin.Bytes.exported e) Q E s:=λz p j H y=>by
 rw[vA.2,Sem.wp_bind'];show Q (((z.code,p)::z.below).any _) s;rw[List.any_eq_false.2 λx k=>?_];.exact h
 .cases k with|head=>exact tq.1<|H _ _|tail _ k=>exact tq.1<|y _ k _ _
end
def ud:checkBuiltinCall "bytearray.__new__" ⟨[.type "bytearray"],[]⟩=pure ():=by kernel_rfl
def ue:entryFor table "bytearray.__new__"=some Builtin.«list.__new__»:=entryFor_alias (id':="list.__new__") (by kernel_rfl) (by first|rfl|decide+kernel) (by decide+kernel)<|by kernel_rfl
def kh:plainId "bytearray.__new__"=true:=by decide+kernel
set_option maxRecDepth 1000000 in
def EJ:("bytearray.__new__".splitOn ".__new__").headD ""="bytearray":=by simp+decide [String.splitOn,String.splitOnAux]
def EK:mroOf (.type "bytearray")=pure [.type "bytearray",.type "object"]:=by rw[mroOf_type];kernel_rfl
def rA:typeLookup (.type "bytearray") "__new__"=pure (some<|.builtin "bytearray.__new__"):=by rw[r0,my];kernel_rfl
def uf:Slot "bytearray" "__init__" "bytearray.__init__":=
 .of (owner:="bytearray") (n:="__init__") (by rw[r0,my];kernel_rfl) (by decide+kernel) (by decide+kernel) (by decide+kernel)
  (by first|exact .inl (by decide+kernel)|exact .inr<|by decide+kernel) (by rw[isSubtype_type];kernel_rfl)
def BS:TypeCalled "bytearray" "bytearray.__new__" "bytearray.__init__":=
 ⟨by decide+kernel,by decide+kernel,⟨_,_,EK⟩,madeBy_type EK rA<|by decide+kernel,by decide+kernel,by rw[isSubtype_type];kernel_rfl,uf⟩
def wn:checkTypeCall "bytearray" ⟨[],[]⟩=pure ():=by kernel_rfl
def rC:entryFor table "bytearray.__init__"=some Builtin.«bytearray.__init__»:=entryFor_of_tree<|by kernel_rfl
def ug(a:Value):argsOk "bytearray.__init__" ⟨[a],[]⟩:=by unfold argsOk;kernel_rfl
def Hm:Builtin.Bytes.bindOptional "bytearray.__init__" "bytearray" ["source","encoding","errors"] [] []=pure [none,none,none]:=by kernel_rfl
section
variable{prog:Program}{w:World}{A:Around}{E:Value->Shared->Prop}{s:Shared}
def wo(h:Q₁ (.ref s.heap.objs.size) {s with heap:=s.heap.push {cls:=.type "bytearray",data:=.bytearray #[]} }):
 codeAny (model prog w) A (.call (.builtin "bytearray.__new__") ⟨[.type "bytearray"],[]⟩) (wants Q₁ E) s:=by
 refine codeAny_of_tree ?_;show wpAny _ A.in1 (do checkBuiltinCall "bytearray.__new__" ⟨[.type "bytearray"],[]⟩;again (.builtin "bytearray.__new__" ⟨[.type "bytearray"],[]⟩)) _ _ s;refine da<|m5 ud<|e5 ⟨plainId_quiet kh _,codeAny_builtin_stack ue rfl λp st=>?_⟩;rw[Around.under_plainId kh _];have k:=ub;have Q:=EJ;obtain⟨H,g,d,tk,os⟩:=s;simp only[Q];wp_walk;exact h
def wt{R:PySem.Fin->Shared->Prop}(H:s.heap.get? a=some {cls:=.type "bytearray",dict:=none,data:=.bytearray #[] 0,slots:=#[]})
 (h:∀z,z.get? a=some {cls:=.type "bytearray",dict:=none,data:=.bytearray #[] 0,slots:=#[]}->(∀b o,b≠a->s.heap.get? b=some o->z.get? b=some o)->R (.done<|.ret .none) {s with heap:=z}):
 aB (model prog w) A (Builtin.«bytearray.__init__» ⟨[.ref a],[]⟩) R E s:=by
 have T:s.TypeIs (.ref a) "bytearray":=⟨_,H,rfl⟩;unfold Builtin.«bytearray.__init__»;unfold Builtin.Bytes.ownRelease;refine ab<|ao<|qg T qf (by decide+kernel) (by decide+kernel) ub<|ag ?_;refine je nI<|ao<|m5 Hm<|ao<|m5 (a:=()) rfl<|ao<|m5 (a:=()) rfl<|ab<|ab<|kg ?_;show aB _ _ (do let n<-Builtin.Bytes.exportsOf (Value.ref a);pure (decide (n>0))) _ _ s;unfold Builtin.Bytes.exportsOf;refine ab<|ao<|wpAny_load H<|ag<|ag<|je (by decide) ?_;refine ab ?_
 show aB _ _ (updateBytearray a λx=>#[]) _ _ s
 unfold updateBytearray
 refine ao<|wpAny_load H ?_
 refine ao<|wpAny_update H ?_
 have u:(s.heap.update a (Obj.mapBytearray λx=>(#[]:Array UInt8))).get? a=some {cls:=.type "bytearray",dict:=none,data:=.bytearray #[] 0,slots:=#[]}:=Heap.get?_update_self _ H rfl
 refine al<|wpAny_lookBehind u (by rfl) ?_
 first
  |exact ag (h _ u λb o y e=>(Heap.get?_update_other _ _<|Dq y).trans e)|exact ab (ag (ag (h _ u λb o y e=>(Heap.get?_update_other _ _<|Dq y).trans e)))
end
section
variable{prog:Program}{w:World}{A:Around}{E:Value->Shared->Prop}{s:Shared}
def eE{id:String}{args:Args}{R:Result->Shared->Prop}(H:plainId id=true)(D:GK id)(y:entryFor table id=some b)
 (h:wpAny (model prog w) A.in1 (checkBuiltinCall id args) (λz s₁=>aB (model prog w) A.in1 (b args)
   (λfin s'=>match fin with|.done f=>R (.ok f) s'|.again c=>c.quiet=true/\codeN (model prog w) A c R s') (λe s'=>R (.error e) s') s₁) (λe s'=>R (.error e) s') s):
 codeN (model prog w) A (.call (.builtin id) args) R s:=by
 refine c5 (plainId_quiet H _)<|y1 h (λz s₁ u=>fj D y ?_) λz z x=>x;rw[Around.under_plainId H _];exact u
def uh{T I u:String}{args:List Value}(y:TypeCalled T I u)
 (U:checkTypeCall T ⟨args,[]⟩=pure ()) (k:entryFor table u=some Bi) (D:GK u)
 (l:codeAny (model prog w) A.in1 (.call (.builtin I) ⟨.type T::args,[]⟩) (wants Q₁ λz z=>False) s)
 (O:∀b s₁,Q₁ b s₁->s₁.TypeIs b T/\argsOk u ⟨b::args,[]⟩/\
   aB (model prog w) A.in1.in1 (Bi ⟨b::args,[]⟩) (λfin s'=>match fin with|.done f=>f=.ret .none/\Q b s'|.again j=>False) (λz z=>False) s₁):
 aB (model prog w) A (call (.type T) args) Q (λz z=>False) s:=by
 obtain⟨c,tl,i⟩:=y.mro;have a:=y.made;have Y:=y.sub;refine gV<|be (c:=.call (.type T) ⟨args,[]⟩) (λz z=>rfl) ?_;show aB _ _ (callAny (.type T) _) _ _ _;refine ag ⟨Code.quiet_builtin _<|by decide+kernel,fj (Dn (λz z z=>rfl) (λz z z z=>rfl) (λz z z z z z=>rfl)<|by decide+kernel) PySem.F.entry_type_call ?_⟩;rw[Around.under_plain (weight_type_call_type T args []) rfl];have N:=y.notType;have M:=y.canCreate;unfold Builtin.«type.__call__»;refine je (by rw[N];exact nI)<|je (by rw[M];exact nI) ?_;refine ao<|m5 U<|ao<|m5 i<|je nI<|ao<|m5 a<|ab<|ag<|ao<|Be<|wpAny_call<|codeAny_mono l λr s₁ H=>?_
 cases r with
 |error e=>exact H|ok L=>
  cases L with
  |ret b=>
   have H:Q₁ b s₁:=H;refine bC λG=>?_;obtain⟨p,J,U2⟩:=O _ _ H;refine G ?_;show aB _ _ (isInstance b (.type T)>>=_) _ _ s₁;refine ao<|wpAny_isInstance p Y<|je nI<|ab<|aj ?_;unfold callSpecial?;refine ao<|xD p y.init.lookup<|aj<|ao<|m5 (y.init.bind b)<|ab<|gV<|eE y.init.plain D k<|y.init.check _ _ _ _ _ _ _ _ p J<|ai U2 (λfin aM m=>?_) λz z x=>x.elim
   cases fin with|again j=>exact m.elim|done f=>obtain⟨rfl,hq⟩:=m;exact ag<|je (by decide)<|ag hq
  |_=>exact H.elim
def jl
 (x:∀H,H.get? s.heap.objs.size=some {cls:=.type "bytearray",dict:=none,data:=.bytearray #[] 0,slots:=#[]}->(∀b o,s.heap.get? b=some o->H.get? b=some o)->Q (.ref s.heap.objs.size) {s with heap:=H}):
 aB (model prog w) A (call (.type "bytearray") []) Q (λz z=>False) s:=by
 refine uh (Q₁:=λj y=>j=.ref s.heap.objs.size/\y={s with heap:=s.heap.push {cls:=.type "bytearray",data:=.bytearray #[]} }) BS wn rC (Dn (λz z z=>rfl) (λz z z z=>rfl) (λz z z z z z=>rfl)<|by decide+kernel) (wo ⟨rfl,rfl⟩) ?_
 rintro j y ⟨rfl,rfl⟩
 have G:(s.heap.push {cls:=.type "bytearray",data:=.bytearray #[]}).get? s.heap.objs.size=some {cls:=.type "bytearray",dict:=none,data:=.bytearray #[] 0,slots:=#[]}:=hW _ rfl
 refine⟨⟨_,G,rfl⟩,ug _,wt G λH u p=>⟨rfl,x H u λb o e=>p b o (q0<|p9 e)<|fz _ e⟩⟩
end
def n8:entryFor table "bytearray.extend"=some Builtin.«bytearray.extend»:=entryFor_of_tree<|by kernel_rfl
def qh(a b:Value):argsOk "bytearray.extend" ⟨[a,b],[]⟩:=by unfold argsOk;kernel_rfl
def Hn{id:String}:Builtin.Bytes.takeBufferQuiet? id (.bytes b t) 0=pure (some (b,none)):=by unfold Builtin.Bytes.takeBufferQuiet? Builtin.Bytes.takeBuffer?;rw[KBy.special_eq KBy.look_buffer,KBy.own_buffer,show((0:Int)==Builtin.Bytes.fullReadOnly)=false by decide,KBy.buffer_eq];kernel_rfl
section
variable{prog:Program}{w:World}{A:Around}{E:Value->Shared->Prop}{s:Shared}
def yZ(H:s.heap.get? a=some {cls:=.type "bytearray",dict:=none,data:=.bytearray b 0,slots:=#[]}) (z:Q () s):aB (model prog w) A (Builtin.Bytes.checkResize<|.ref a) Q E s:=by unfold Builtin.Bytes.checkResize;refine ab ?_;refine ab<|kg ?_;show aB _ _ (do let n<-Builtin.Bytes.exportsOf (Value.ref a);pure (decide (n>0))) _ _ s;unfold Builtin.Bytes.exportsOf;refine ab<|ao<|wpAny_load H<|ag<|ag ?_;refine je (by decide) ?_;exact ag z
def rD{R:PySem.Fin->Shared->Prop}(H:s.heap.get? a=some {cls:=.type "bytearray",dict:=none,data:=.bytearray b 0,slots:=#[]}) (hz:(b++m).size<=sizeLine)
 (h:∀z,z.get? a=some {cls:=.type "bytearray",dict:=none,data:=.bytearray (b++m) 0,slots:=#[]}->(∀c o,c≠a->s.heap.get? c=some o->z.get? c=some o)->R (.done<|.ret .none) {s with heap:=z}):
 aB (model prog w) A (Builtin.«bytearray.extend» ⟨[.ref a,.bytes m t],[]⟩) R E s:=by
 unfold Builtin.«bytearray.extend»;refine ao<|m5 (a:=(Value.ref a,Value.bytes m t)) rfl<|ao<|m5 (KBy.special_eq KBy.look_buffer)<|zX rfl<|ao<|wpAny_rule ?_;unfold Builtin.Bytes.payload Builtin.Bytes.payload?;refine ab<|ab<|ao<|wpAny_load H<|ag<|ag<|ao<|m5 Hn<|zX rfl ?_
 have fin:aB (model prog w) A (do Builtin.Bytes.write (.ref a) (·++m);ret .none) R E s:=by
  refine ab ?_;show aB _ _ (updateBytearray a λx=>x++m) _ _ s;unfold updateBytearray;refine ao<|wpAny_load H<|ao<|wpAny_update H ?_
  have u:(s.heap.update a<|Obj.mapBytearray λx=>x++m).get? a=some {cls:=.type "bytearray",dict:=none,data:=.bytearray (b++m) 0,slots:=#[]}:=Heap.get?_update_self _ H rfl
  refine al<|wpAny_lookBehind u ?_ ?_
  .show(if(b++m).size>sizeLine then some "bytearray:memory"else none)=none
   rw[ej<|Nat.not_lt.2 hz]
  .exact ag<|h _ u λc o y e=>(Heap.get?_update_other _ _<|Dq y).trans e
 show aB _ _ (if(!m.isEmpty)=true then(Builtin.Bytes.checkResize (.ref a)>>=λp=>(do Builtin.Bytes.write (.ref a) (·++m);ret .none))else(do Builtin.Bytes.write (.ref a) (·++m);ret .none)) _ _ s
 split
 .exact ab<|yZ H fin
 .exact fin
def jm(y:s.heap.get? a=some {cls:=.type "bytearray",dict:=none,data:=.bytearray b 0,slots:=#[]}) (hz:(b++m).size<=sizeLine)
 (h:∀H,H.get? a=some {cls:=.type "bytearray",dict:=none,data:=.bytearray (b++m) 0,slots:=#[]}->(∀c o,c≠a->s.heap.get? c=some o->H.get? c=some o)->Q .none {s with heap:=H}):
 aB (model prog w) A (call (.builtin "bytearray.extend") [.ref a,.bytes m t]) Q E s:=
 gV (eE eC.plain (Dn (λz z z=>rfl) (λz z z z=>rfl) (λz z z z z z=>rfl)<|by decide+kernel) n8<|eC.check _ _ _ _ _ _ _ _ ⟨_,y,rfl⟩ (qh _ _)<|rD y hz λH x u=>h H x u)
end
def Oe{A C:Prop}(h:gF b A False)(f:b=true->A->C):C:=by
 cases h with
 |of H z=>cases b with|true=>exact f rfl (H rfl)|false=>exact(z rfl).elim
section
variable{k:Cx}{d:Nat}{σ:Sg}{A:Around}{l:List V}
def uj:jj k .bytearray:=λs σ b A Q K U j r z w y=>by
 induction s using List.casesOn with
 |nil=>refine z.iG (D:=λb=>WN k A (PySem.call (Bg .bytearray) b) K σ.s)<|jl λH x m=>?_;have a:=r.alloc (p:=(σ.s.heap.objs.size,σ.s.heap.objs.size)) (o:=.iy []) (s':={σ.s with heap:=H}) m ⟨rfl,rfl,rfl⟩ (bj _) (bj _) λu=>⟨js _,rfl,x⟩;exact y _ _ _ a (.rr (p:=(σ.s.heap.objs.size,σ.s.heap.objs.size))<|Sg.rW r) w
 |cons=>exact w.elim
theorem uk:∀{l:List V} {s:List Int},rN l=some s->l=s.map V.int
 |[],s,h=>by obtain rfl:=dR h;rfl
 |v::r,s,h=>by
  induction v using V.casesOn with|int i=>refine C5 ((show(rN r).map (i::·)=some s from h)) λY e=>?_;rw[uk e];rfl|_=>injection h
theorem wu:∀{s:List Int} {xs:List Value},aN σ (s.map V.int) xs->IntsAre xs s
 |[],xs,r=>r.iG (D:=λxs=>IntsAre xs []) .nil|i::s,xs,r=>r.bp (D:=λxs=>IntsAre xs<|i::s) λy Y h H=>h.ls (C:=λy=>IntsAre (y::Y)<|i::s) λt=>.cons i t<|wu H
set_option tactic.hygienic true in
def EL:jj k .bytes:=λvs σ D A Q K hu j r f w u=>f.jk w λx y z w=>by
 have s:∀(l:List UInt8) (t:Tok) (tk:Nat),l.length<=sizeLine->Q (.bytes l) σ.H->K (.bytes l.toArray t) {σ.s with toks:=tk}:=λl t tk H w=>u (.bytes l) _ _ (r.tok tk) (.yy H) w;have e:=xf
 cases x with
 |int i=>exact Ej w λI w=>z.ls λt=>al (fu (rz I.1 I.2 λT=>⟨PySem.W.typeIs_bytes _ _ _,by
   have:=s _ T (σ.s.toks+1) (by rw[ra,e];exact Int.toNat_le.2<|I8 I.2<|by decide) w;rw[List.toArray_replicate]at this
   exact this⟩))
 |bytes b=>exact z.A8 λt H=>al<|fu<|nZ ⟨PySem.W.typeIs_bytes _ _ _,u _ _ _ r.here (.yy H) w⟩|lst l=>refine z.jQ λa n Y H N U m=>bC λG=>?_;obtain⟨I,w⟩:=w;obtain rfl:=uk I;refine G<|Oe w λc w=>al<|call_bytes_ints (vs:=Y.toList) (by rw[Array.toArray_toList];exact lp (n:=n) U) (wu m) (λn N=>dk<|ft.1 c n N) (m.len▸H) j λM t tk L=>?_;exact u _ _ _ (r.keep (s':={σ.s with heap:=M,toks:=tk}) L ⟨rfl,rfl,rfl⟩) (.yy<|by rw[a9]at H⊢;exact H) w
 |ref i=>
  obtain⟨p,J,rfl⟩:=z;obtain⟨h,w⟩:=(show wO _ _ from w);rename_i o
  induction o using Ob.casesOn with
  |iy l=>
   have O:=r.rd J h;have hz:l.length<=sizeLine:=c0 O.1<|by decide
   exact al<|fu<|uc O.2.2 (by rw[mF];exact hz) λt=>⟨PySem.W.typeIs_bytes _ _ _,s l t _ hz w⟩
  |_=>exact w.elim
 |_=>exact w.elim
def BU:yV k .extend:=λx t vs σ J L A Q K hu hh r I rv w0 j=>EI (D:=λJ=>WN k A (PySem.call (.builtin<|EH .extend t)<|J::L) K σ.s) w0 ⟨nofun,nofun⟩ r I λi p o f h O e w=>rv.jk w λy vy a w=>by
 have r6:=xf
 induction o using Ob.casesOn with
 |list m=>obtain rfl:=e;refine a.bP w λl b nb Y hl hn H U w=>Ej w λc w=>?_;obtain⟨n,xs,h1,h2,T,N⟩:=O;have z:=N.size;have M:=U.size;have c:m.length+l.length<=sizeLine:=c;have a1:=r.N9 (l':=m++l) f h2 T (λzs=>zs++Y) (by rw[b9];exact c)<|N.GS U;show WN k A (PySem.call (.builtin "list.extend") [.ref p.1,.ref b]) K σ.s;refine al<|call_meets PySem.F.slot_list_extend ⟨_,T,rfl⟩ PySem.F.entry_list_extend (PySem.F.args_list_extend_2 _ _) (AutoSeq1.list_extend_list_list_0 p.1 xs n b Y nb (λq=>?_) (Ja [_,_] [⟨0,.v 0,.n 16777216⟩,⟨2,.v 1,.v 0⟩] ⟨0,.v 1,.n 16777216⟩ 1 [1,1] rfl h1 z)<|Ja [_,_,_,_] [⟨2,.v 0,.v 1⟩,⟨2,.v 2,.v 3⟩,⟨0,.a (.v 1)<|.v 3,.n 16777216⟩] ⟨0,.a (.v 0)<|.v 2,.n 16777217⟩ 1 [1,1,1] rfl z M c) ⟨T,H,j .none _ _ a1 .nn w⟩;have s:=(jT.1 q).2;unfold Builtin.List.listTooLong at s;simp at s;exact wQ 0<|Ja [_,_,_,_] [⟨2,.v 0,.v 1⟩,⟨2,.v 2,.v 3⟩,⟨0,.a (.v 1)<|.v 3,.n 16777216⟩,⟨1,.n 16777216,.a (.v 0)<|.v 2⟩] ⟨0,.n 1,.n 0⟩ 1 [1,1,1,1] rfl z M c s
 |iy m=>obtain rfl:=e;refine a.iP w λl t hl w=>Ej w λc w=>?_;show WN k A (PySem.call (.builtin "bytearray.extend") [.ref p.1,.bytes l.toArray t]) K σ.s;refine jm O.2.2 (by rw[Array.size_append,mF,mF];exact Ja [_,_] [⟨0,.a (.v 0)<|.v 1,.n 1000000⟩] ⟨0,.a (.v 0)<|.v 1,.n 16777216⟩ 1 [1] rfl c) λh' G g2=>?_;rw[List.append_toArray]at G;exact j .none _ _ (r.set (s':={σ.s with heap:=h'}) (o:=.iy<|m++l) f (λb o H zz e=>g2 b o H e) ⟨rfl,rfl,rfl⟩ λu=>⟨by rw[b9];exact c,O.2.1,G⟩) .nn w
 |_=>exact w.elim
end
section
set_option maxRecDepth 100000
theorem wv:∀{l:List V} {s:List Bool},oT l=some s->l=s.map V.bool
 |[],s,h=>by obtain rfl:=dR h;rfl
 |v::r,s,h=>by
  induction v using V.casesOn with|bool i=>refine C5 ((show(oT r).map (i::·)=some s from h)) λY e=>?_;rw[wv e];rfl|_=>injection h
theorem ul:∀{l:List V} {s:List (List Nat)},strs? l=some s->l=s.map V.str
 |[],s,h=>by obtain rfl:=dR h;rfl
 |v::r,s,h=>by
  induction v using V.casesOn with|str i=>refine C5 ((show(strs? r).map (i::·)=some s from h)) λY e=>?_;rw[ul e];rfl|_=>injection h
def ltNats_eq(a:List Nat):∀b,ltNats a b=decide (a<b):=by
 induction a with
 |nil=>
  intro b;rcases b with _|⟨y,ys⟩;.rfl
  .exact(eb<|List.nil_lt_cons _ _).symm
 |cons x s i=>
  intro b;rcases b with _|⟨y,ys⟩;.exact(fo<|List.not_lt_nil _).symm
  .show(if x=y then ltNats s ys else decide (x<y))=_;by_cases h:x=y
   .rw[er h,i ys];exact nX.2<|(List.cons_lt_cons_iff.trans ⟨λq=>q.elim (λq=>absurd h<|q0 q) And.right,λq=>.inr ⟨h,q⟩⟩).symm
   .rw[ej h];exact nX.2<|(List.cons_lt_cons_iff.trans ⟨λq=>q.elim id λq=>absurd q.1 h,.inl⟩).symm
def all_range(y:List Bool):(List.range y.length).all (λi=>y.getD i true)=y.all id:=by
 rw[Bool.eq_iff_iff,ft,ft];refine⟨λh b z=>?_,λh i H=>?_⟩
 .obtain⟨i,H,rfl⟩:=List.getElem_of_mem z;have:=h i (Dw.2 H);rwa [ui,h8 H]at this
 .have H:=Dw.1 H;rw[ui,h8 H];exact h _<|List.getElem_mem H
theorem preSum_eq(s:List Int):∀k,k<=s.length->preSum (λi=>s.getD i 0) k=(s.take k).foldl (·+·) 0
 |0,_=>rfl|k+1,h=>by rw[preSum,preSum_eq s k<|HZ h,List.take_succ_eq_append_getElem h,List.foldl_append,ui,h8 h];rfl
section
variable{k:Cx}{d:Nat}{σ:Sg}{A:Around}{l:List V}
def um{α:Type}{f:α->V}{y:List α}{items:Array Value}(z:α)(s:aN σ (y.map f) items.toList){i:Nat}{v:Value}(H:items[i]?=some v):RV σ (f<|y.getD i z) v:=by have I:i<y.length:=(a9 (f:=f)▸s.size:items.size=y.length)▸(Array.getElem?_eq_some_iff.1 H).1;obtain⟨a,Q,x⟩:=s.get (i:=i)<|(qa ..).trans<|cg (Option.map f)<|h8 I;rw[p8]at Q;obtain rfl:=dR<|Q.symm.trans H;rw[ui,h8 I];exact x
def Al{s:Shared}{o:Obj}{H:Heap}(y:∀b o',b∉[s.heap.objs.size]->(s.heap.push o).get? b=some o'->H.get? b=some o')(b:Addr)(o':Obj)(e:s.heap.get? b=some o'):H.get? b=some o':=
 y b o' (λq=>Nat.lt_irrefl _ (dt.1 q▸p9 e:s.heap.objs.size<s.heap.objs.size)) (fz _ e)
set_option tactic.hygienic true in
def K6:jj k .all:=λT σ L A Q K O u r p w m=>p.jk w λx y j w=>j.bP w λl a n I N M H z w=>by
 obtain⟨e,w⟩:=w;rename_i b;obtain rfl:=wv e;have hz:I.size=b.length:=z.size.trans<|a9 ..;refine al<|call_all_walk<|wpAny_pyIter_list (lp (n:=n) H)<|⟨_,_,_,_,_,_,λi=>b.getD i true,rfl,Walks.list (A:=A.in1) u _ a (q0<|p9 H) I,⟨⟨_,hW _ rfl,rfl,rfl⟩,(lp (n:=n) H).push _⟩,λi v s Q E f c=>?_,λY tk U=>?_⟩;.exact(um true z f).mJ<|CQ c
 .rw[hz,all_range];exact m _ _ _ (r.keep (s':={σ.s with heap:=Y,toks:=tk}) (Al U) ⟨rfl,rfl,rfl⟩) .bb w
def Of{s:Shared}(z:s.heap.get? a=some o')(b:Addr)(H:b∈[s.heap.objs.size,a]):b<(s.heap.push o).objs.size:=by
 rw[Heap.size_push]
 cases H with|head=>exact yb _|tail _ H=>obtain rfl:=dt.1 H;exact Nat.lt_succ_of_lt<|p9 z
set_option tactic.hygienic true in
def K7:jj k .sum:=λc σ L A Q K U z r u w p=>u.jk w λx y j w=>j.bP w λl a n I Y N H s w=>by obtain⟨e,w⟩:=w;rename_i b;obtain rfl:=uk e;have hz:I.size=b.length:=s.size.trans<|a9 ..;refine al<|call_sum_walkAnyS<|wpAny_pyIter_list (lp (n:=n) H)<|⟨_,_,_,_,_,_,_,λi=>b.getD i 0,rfl,(Walks.list (A:=A.in1) z _ a (q0<|p9 H) I).toS,⟨⟨_,hW _ rfl,rfl,rfl⟩,(lp (n:=n) H).push _⟩,Of H,λi v f=>um 0 s f,λs' T m=>?_⟩;rw[hz,preSum_eq b b.length<|i1 _,List.take_length];exact p _ _ _ (r.keep (s':=s') (Al m.heap) ⟨m.gens,m.os,m.drawn⟩) .ii w
theorem mV(f:Nat->List Nat):∀k,f (argBest (λi j=>ltNats (f i)<|f j) k)=dj (f 0) ((List.range k).map λi=>f<|i+1)
 |0=>rfl|k+1=>by
  have h:∀(r:List<|List Nat) (m y:List Nat),dj m (r++[y])=if ltNats y<|dj m r then y else dj m r:=λr=>by
   induction r with|nil=>intro m y;rfl|cons x r I=>intro m y;exact I _ y
  rw[List.range_succ,e7];show _=dj _ (_++[f<|k+1]);rw[h,<-mV f k];exact apply_ite f _ _ _
def BV(y:List Nat)(ys:List<|List Nat):(List.range ys.length).map (λi=>(y::ys).getD (i+1) [])=ys:=by refine List.ext_getElem (by rw[a9,List.length_range]) λi H z=>?_;rw[List.getElem_map,List.getElem_range,List.getD_cons_succ,ui,h8 z];rfl
set_option tactic.hygienic true in
def Ho{A:Around}{Q:VP}{K:Value->Shared->Prop}{vs:List V}{L:List Value}(U:A.handled=none)(r:SR k σ)(O:aN σ vs L)(N:KV k σ Q K)
 (w:wM (one vs) λx=>wM (bP x) λm=>wO (strs? m) λl=>match l with|x::r=>Q (.str<|dj x r) σ.H|[]=>False):WN k A (PySem.call (.builtin "min") L) K σ.s:=O.jk w λx y J w=>J.bP w λl a n I hl hn H z w=>by
 obtain⟨e,w⟩:=w;rename_i G;obtain rfl:=ul e
 induction G using List.casesOn with
 |nil=>exact w.elim|cons y Y=>
  have hz:I.size=Y.length+1:=z.size.trans<|a9 ..
  have T:∀i v,I[i]?=some v->RV σ (.str<|(y::Y).getD i []) v:=λi v p=>um [] z p
  refine al<|call_min_walk<|wpAny_pyIter_list (lp (n:=n) H) ?_
  refine T7 (g:=λi j=>ltNats ((y::Y).getD i [])<|(y::Y).getD j []) ⟨rfl,Walks.list (A:=A.in1) U _ a (q0<|p9 H) I,⟨⟨_,hW _ rfl,rfl,rfl⟩,(lp (n:=n) H).push _⟩,Of H,hz▸HX _,λi j D vj s Q E hi hj hQ=>?_,λv f tk p c=>?_⟩
  .exact(T i D hi).gA λt zz=>(T j vj hj).gA λu zz=>richCompare_gives (op:=.Lt) (typeIs_str s _ t) (typeIs_str s _ u) PySem.F.slot_str_lt PySem.F.entry_str_lt (PySem.F.args_str_lt_2 _ _) (gives_str_lt _ _ t u) nofun<|(cg (λb=>Q (.bool b) s)<|ltNats_eq _ _).mp hQ
  .have M:=mV (λi=>(y::Y).getD i [])<|I.size-1;rw[hz,Nat.add_sub_cancel,BV]at M;rw[hz,Nat.add_sub_cancel]at p;exact N _ _ _ (r.keep (s':={σ.s with heap:=f,toks:=tk}) (Al c) ⟨rfl,rfl,rfl⟩) ((M▸T _ v p).on (r.keep (s':={σ.s with heap:=f,toks:=tk}) (Al c) ⟨rfl,rfl,rfl⟩).up) w
def K8:jj k .min:=λs σ L A Q K U H r u w j=>by
 cases z:two s with
 |some p=>
  have w:wM (two s) λp=>Gn p.1 p.2 λa b=>Q (.int<|if b<a then b else a) σ.H:=by rw[z];have w:(match two s with|some p=>Gn p.1 p.2 λa b=>Q (.int<|if b<a then b else a) σ.H|none=>_):=w;rw[z]at w;exact w
  exact u.KN w λx e y Y i f w=>Hc H r i f w j
 |none=>have w:(match two s with|some p=>_|none=>wM (one s) λx=>wM (bP x) λm=>wO (strs? m) λl=>match l with|x::r=>Q (.str<|dj x r) σ.H|[]=>False):=w;rw[z]at w;exact Ho H r u j w
end
end
section
set_option maxRecDepth 100000
theorem g6:∀(p:List Nat),c∉p->∀r,aQ c (p++r)=match aQ c r with|[]=>[p]|y::Y=>(p++y)::Y
 |[],_,r=>by
  show aQ c r=_
  cases h:aQ c r with
  |nil=>induction r using List.casesOn with
   |nil=>exact nomatch h|cons x r=>
    have h:(if x=c then[]::aQ c r else match aQ c r with|[]=>[[x]]|y::Y=>(x::y)::Y)=[]:=h;by_cases e:x=c;.rw[er e]at h;exact nomatch h
    .rw[ej e]at h;cases q:aQ c r<;>(rw[q]at h;exact nomatch h)
  |cons y Y=>rfl
 |x::p,H,r=>by have i:=g6 p (λh=>H<|List.mem_cons_of_mem _ h) r;have k:x≠c:=λe=>H<|e▸List.mem_cons_self;show(if x=c then[]::aQ c (p++r)else match aQ c<|p++r with|[]=>[[x]]|y::Y=>(x::y)::Y)=_;rw[ej k,i];cases aQ c r<;>rfl
theorem mY:∀(z:List<|List Nat),z≠[]->(∀p∈z,c∉p)->aQ c (cM [c] z)=z
 |[],h,_=>absurd rfl h|[p],_,h=>by show aQ c p=[p];have:=g6 p (h p List.mem_cons_self) [];rw[hE]at this;rw[this];show(p++[])::[]=_;rw[hE]|p::q::r,_,h=>by
  show aQ c (p++[c]++cM [c] (q::r))=_;rw[ee,g6 p<|h p List.mem_cons_self];have i:=mY (c:=c) (q::r) (by simp) λx k=>h x<|List.mem_cons_of_mem _ k
  have e:aQ c ([c]++cM [c] (q::r))=[]::(q::r):=by show(if c=c then[]::aQ c (cM [c]<|q::r)else _)=_;rw[er rfl,i]
  rw[e];show(p++[])::_=_;rw[hE]
theorem g7(y:Str):∀T:List Str,(Str.join y T).cps.toList=cM y.cps.toList (T.map (·.cps.toList))
 |[]=>rfl|[x]=>rfl|x::z::r=>by show(x.cps++y.cps++(Str.join y<|z::r).cps).toList=_;rw[Array.toList_append,Array.toList_append,g7 y<|z::r];rfl
def EM(x:Str)(c:Nat):(Txt.split x ⟨#[c]⟩).map (·.cps.toList)=aQ c x.cps.toList:=by
 have H:=StrLaws.join_split x ⟨#[c]⟩
 have z:x.cps.toList=cM [c] ((Txt.split x ⟨#[c]⟩).map (·.cps.toList)):=by
  conv=>lhs;rw[<-H]
  exact g7 ⟨#[c]⟩ _
 rw[z,mY]
 .intro e
  have:=split_pos x ⟨#[c]⟩
  rw[List.map_eq_nil_iff.mp e]at this
  exact absurd this<|by decide
 .intro p y
  obtain⟨q,Q,rfl⟩:=nW.mp y
  exact StrLaws.split_free x c q Q
set_option tactic.hygienic true in
theorem qi(c:Nat):∀l:List Nat,∀p∈aQ c l,p.length<=l.length
 |[],p,H=>by obtain rfl:=dt.mp H;exact js _
 |x::r,p,H=>by
  have i:=qi c r;unfold aQ at H;split at H
  .rcases lq.mp H with rfl|h;.exact js _
   .exact lH<|i p h
  .split at H
   .obtain rfl:=dt.mp H;simp
   .rename_i y Y e;rcases lq.mp H with rfl|h
    .have:=i y<|by rw[e];exact List.mem_cons_self
     simpa using this
    .exact lH<|i p<|by rw[e];exact List.mem_cons_of_mem _ h
theorem sk(k:Nat):∀(T:List Str) (n:Nat),T.foldl (·+·.length+k) n=n+(T.map (·.length)).sum+T.length*k
 |[],n=>by simp|t::r,n=>by rw[List.foldl_cons,sk k r];simp only[ik,List.sum_cons,mc,Nat.add_mul];exact i3 (Ja [_,_,_,_,_] [] ⟨0,.a (.a (.a (.a (.v 0)<|.v 1)<|.v 2)<|.v 3)<|.v 4,.a (.a (.v 0)<|.a (.v 1)<|.v 3)<|.a (.v 4)<|.m 1<|.v 2⟩ 1 [] rfl)<|Ja [_,_,_,_,_] [] ⟨0,.a (.a (.v 0)<|.a (.v 1)<|.v 2)<|.a (.v 3)<|.m 1<|.v 4,.a (.a (.a (.a (.v 0)<|.v 1)<|.v 4)<|.v 2)<|.v 3⟩ 1 [] rfl
section
variable{k:Cx}{d:Nat}{σ:Sg}{A:Around}{l:List V}
theorem mZ:∀(l:List<|Str×Tok),(∀p∈l,p.1.cps.toList.length<=sizeLine)->aN σ (l.map λp=>.str p.1.cps.toList) (strValues l)
 |[],_=>.nil|p::r,H=>.cons (.ss (l:=p.1.cps.toList) (t:=p.2)<|H p<|.head _)<|mZ r λq Q=>H q<|.tail _ Q
theorem wx:∀{xs:List (List Nat)} {vs:List Value},aN σ (xs.map .str) vs->∃l,strValues l=vs/\l.map (·.1.cps.toList)=xs
 |[],vs,r=>r.iG (D:=λvs=>∃l,strValues l=vs/\l.map (·.1.cps.toList)=[]) ⟨[],rfl,rfl⟩|x::xs,vs,r=>r.bp (D:=λvs=>∃l,strValues l=vs/\l.map (·.1.cps.toList)=x::xs) λy Y h s=>h.gA (C:=λy=>∃l,strValues l=y::Y/\l.map (·.1.cps.toList)=x::xs) λt z=>by obtain⟨l,rfl,rfl⟩:=wx s;exact⟨(⟨x.toArray⟩,t)::l,rfl,rfl⟩
def BW{K:Value->Shared->Prop}(r:SR k σ)(H:a.length<=1000000)(w:Q (.lst<|(aQ c a).map .str) σ.H)(y:KV k σ Q K)(l:List<|Str×Tok)(tk:Nat)(e:l.map (·.1)=Txt.split ⟨a.toArray⟩ ⟨#[c]⟩):
 K (.ref σ.s.heap.objs.size) {σ.s with heap:=σ.s.heap.push {cls:=.type "list",data:=.seq (strValues l).toArray},toks:=tk}:=by
 have z:aQ c a=l.map (·.1.cps.toList):=by have:=EM ⟨a.toArray⟩ c;rw[<-e,gY]at this;exact this.symm
 have N:l.length<=a.length+2:=by
  have h:=split_le ⟨a.toArray⟩ ⟨#[c]⟩
  rw[<-e,a9]at h
  exact h
 have i:=xf
 have x:aN σ ((aQ c a).map .str) (strValues l).toArray.toList:=by rw[z,gY];refine mZ l λp u=>c0 (qi c a p.1.cps.toList<|by rw[z];exact nW.2 ⟨p,u,rfl⟩)<|Ja [_] [⟨0,.v 0,.n 1000000⟩] ⟨0,.v 0,.n 16777216⟩ 1 [1] rfl H
 have c:=r.GR x (by rw[z,gY,a9];exact Ja [_,_] [⟨0,.v 0,.n 1000000⟩,⟨0,.v 1,.a (.v 0)<|.n 2⟩] ⟨0,.v 1,.n 16777216⟩ 1 [1,1] rfl H N) tk rfl
 exact y _ _ _ c.1 c.2 w
def bm_split:yV k .split:=by
 intro x tg T σ J O A Q K M I r m j w b
 cases x with
 |str a=>
  refine m.gA λt L=>j.jk w λy G Y w=>Y.gH w λs u U w=>?_
  induction s using List.casesOn with
  |nil=>exact w.elim|cons c s=>induction s using List.casesOn with
   |cons=>exact w.elim|nil=>
    refine Ej w λe w=>?_;have z:=BW (c:=c) r e w b;have p:(⟨a.toArray⟩:Str).length=a.length:=mF ..;have D:=xf
    have N:=split_le ⟨a.toArray⟩ ⟨#[c]⟩
    rw[p]at N
    show WN k A (PySem.call (.builtin "str.split") [.str ⟨a.toArray⟩ t,.str ⟨#[c]⟩ u]) K σ.s
    cases H:(decide ((⟨a.toArray⟩:Str).length<(⟨#[c]⟩:Str).length)||decide (PySem.Builtin.Str.strKind ⟨a.toArray⟩<PySem.Builtin.Str.strKind ⟨#[c]⟩))with
    |false=>
     cases f:(Builtin.Str.occurrences ⟨a.toArray⟩ ⟨#[c]⟩ 0 (⟨a.toArray⟩:Str).length ((⟨a.toArray⟩:Str).length+1)).isEmpty with
     |false=>
      refine al<|call_meets PySem.F.slot_str_split (typeIs_str _ _ _) PySem.F.entry_str_split (PySem.F.args_str_split_2 _ _) (meets_str_split_sep ⟨a.toArray⟩ ⟨#[c]⟩ t u H rfl f (by rw[p];exact Ja [_] [⟨0,.v 0,.n 16777216⟩] ⟨0,.v 0,.n 16777216⟩ 1 [1] rfl L) ?_) ?_
      .unfold Txt.split at N
       rw[ej<|ne_true_of_eq_false H,ej<|ne_true_of_eq_false f]at N
       have h9:(⟨#[c]⟩:Str).length=1:=rfl
       exact Ja [_,_] [⟨0,.v 0,.n 16777216⟩,⟨0,.v 0,.n 1000000⟩,⟨0,.v 1,.a (.v 0)<|.n 2⟩] ⟨0,.v 1,.n 16777216⟩ 7888608 [7888607,1,7888608] rfl L e N
      .rw[strsFrom_eq]
       exact z _ _<|(numbered_texts _ _).trans ((ej<|ne_true_of_eq_false H).trans<|ej<|ne_true_of_eq_false f).symm
     |true=>exact al<|call_meets PySem.F.slot_str_split (typeIs_str _ _ _) PySem.F.entry_str_split (PySem.F.args_str_split_2 _ _) (meets_str_split_not_found ⟨a.toArray⟩ ⟨#[c]⟩ t u H rfl f) (z [(⟨a.toArray⟩,t)] _ ((ej<|ne_true_of_eq_false H).trans<|er f).symm)
    |true=>exact al<|call_meets PySem.F.slot_str_split (typeIs_str _ _ _) PySem.F.entry_str_split (PySem.F.args_str_split_2 _ _) (meets_str_split_cannot_occur ⟨a.toArray⟩ ⟨#[c]⟩ t u H) (z [(⟨a.toArray⟩,t)] _ (er H).symm)
 |ref i=>obtain⟨h,w⟩:=(show wO _ _ from w);exact vG w λU w=>w.elim
 |_=>exact w.elim
set_option tactic.hygienic true in
def Hq:yV k .join:=by
 intro x tg D σ xv vals A Q K hu hh r u s w p
 cases x with
 |str a=>
  refine u.gA λt hl=>s.jk w λy vy f w=>f.bP w λm b n ys PC hn H Y w=>bC λG=>?_;obtain⟨e,w⟩:=w;rename_i xs;obtain rfl:=ul e;refine G<|Ej w λN w=>bC λG=>?_;obtain⟨l,L,U⟩:=wx Y;refine G ?_;have N:(cM a xs).length+a.length<=sizeLine:=N;have r6:=xf;have j:=g7 ⟨a.toArray⟩<|l.map (·.1);rw[gY,show l.map ((·.cps.toList)∘(·.1))=xs from U]at j;have j:(Str.join ⟨a.toArray⟩<|l.map (·.1)).cps.toList=cM a xs:=j;have M:(Str.join ⟨a.toArray⟩<|l.map (·.1)).length=(cM a xs).length:=(xC ..).symm.trans<|cg List.length j;show WN k A (PySem.call (.builtin "str.join") [.str ⟨a.toArray⟩ t,.ref b]) K σ.s;have O:σ.s.heap.IsList b (strValues l).toArray:=by rw[L];exact lp (n:=n) H
  refine al<|PySem.SC.join O rfl ?_ λT tk=>?_
  .unfold JoinOk;rw[tc,List.foldl_toArray,sk];have J:(⟨a.toArray⟩:Str).length=a.length:=mF ..;unfold Builtin.Str.tooLong;rw[ly]
   cases I:l.map (·.1)with|nil=>simp|cons z r=>rw[I,len_join_cons]at M;simp only[mc,Nat.add_mul];rw[J]at M⊢;exact Ja [_,_,_,_] [⟨0,.a (.v 0)<|.v 1,.n 16777216⟩,⟨2,.a (.v 2)<|.v 3,.v 0⟩] ⟨5,.n 16777216,.a (.a (.n 0)<|.v 2)<|.a (.v 3)<|.m 1<|.v 1⟩ 1 [1,1] rfl N M
  .have c:=p (.str<|cM a xs) _ _ (r.tok tk) (.ss (t:=T)<|c0 (ql _ _) N) w;rw[<-j]at c;show K (Value.str (Builtin.Str.glued _ _) T) _;rw[StrLaws.glued_eq_join];exact c
 |ref i=>obtain⟨h,w⟩:=(show wO _ _ from w);exact vG w λ_ w=>w.elim
 |_=>exact w.elim
end
end
section
variable{k:Cx}{d:Nat}{σ σ':Sg}{A:Around}{l:List V}
def EO{d:Addr}(D:d≠sysModules):KdlSrc k.prog k.w "dict" d d es.size (λi v=>∃e,es[i]?=some e/\v=e.key) (λh=>ED h d es ep) where
 type:=λs h=>⟨_,h,rfl⟩
 there:=λh e=>⟨p9 e,p9 e⟩
 keep:=λh x e y=>y d (.inl rfl) _ e
 notList:=by decide
 notTuple:=by decide
 hint:=λA E s Q h H=>kdl_hint_dict ⟨_,h,rfl⟩ H
 iter:=λA s z h=>⟨{cls:=.type "dict_keyiterator",data:=.fields #[.ref d,.int (0:Nat) 0,.int es.size 0,.int ep 0]},_,λE Q H=>wa D h H,sj z _ d (q0<|p9 h) es ep,⟨_,hW _ rfl⟩,fz _ h⟩
theorem y4:∀{l:List V} {vs:List Value},l.length=vs.length->(∀(i:Nat) (x:V) (v:Value),l[i]?=some x->vs[i]?=some v->RV σ x v)->aN σ l vs
 |[],[],_,_=>.nil|[],_::_,hz,_=>nomatch hz|_::_,[],hz,_=>nomatch hz|x::l,v::vs,hz,H=>.cons (H 0 x v rfl rfl)<|y4 (Nat.succ.inj hz) λi y u z s=>H (i+1) y u z s
def wy{w:World}{es:Array DictEntry}(H:fh w σ dd es.toList)(u:Up σ σ')(a:ItemsOf (λi v=>∃e,es[i]?=some e/\v=e.key) acc es.size):aN σ' (dd.map (·.1)) acc.toList:=
 y4 (((a9 ..).trans<|H.len.symm.trans xC).trans<|a.1.symm.trans xC.symm) λi x v s z=>by rw[p8]at z;obtain⟨e,p,rfl⟩:=a.2 i v z;refine C5 (((qa ..).symm.trans s)) λc f=>?_;obtain⟨y,Y,U,_⟩:=H.get f;rw[p8]at Y;obtain rfl:=dR<|Y.symm.trans p;exact U.on u
set_option tactic.hygienic true in
def Hr:jj k .list:=λO σ M A Q K J s r m w j=>m.jk w λx y f w=>f.rK w λi p H w=>by
 obtain⟨h,w⟩:=w;rename_i o
 induction o using Ob.casesOn with
 |dict I D=>obtain⟨es,ep,L,e,z,G,b,u⟩:=r.rd H h;have hz:es.size<=1000000:=(xC.symm.trans u.len)▸L;refine al<|kdl_call (EO (k:=k) (ep:=ep)<|BB.1<|r.en H) s b (c0 hz<|by decide) λY tk acc c z U T=>?_;have a:=r.keep (s':={σ.s with heap:=Y,toks:=tk}) z ⟨rfl,rfl,rfl⟩;have N:¬NI σ σ.s.heap.objs.size:=r.fN<|bj _;exact j (.lst (D.map λe:V×V=>e.1)) _ _ a (.ll (n:=c) (c0 (rn (a9 λe:V×V=>e.1))<|c0 L<|by decide) N U<|wy u a.up T) w
 |_=>exact w.elim
end
section
def qj:typeLookup (.type "list") "keys"=pure none:=by rw[r0,my];kernel_rfl
def list_getattr_none:typeLookup (.type "list") "__getattr__"=pure none:=by rw[r0,my];kernel_rfl
def de:plainId "dict.update.loop"=true:=by decide+kernel
def g8:entryFor table "dict.update.loop"=some Builtin.«dict.update.loop»:=entryFor_of_tree<|by kernel_rfl
section
variable{prog:Program}{w:World}{A:Around}{E:Value->Shared->Prop}{h:Heap}{g:Array GenState}{d:Drawn}{t:Nat}{os:OsState}{a:Addr}{o:Obj}
def n9{n:Nat}(k:IsL h a xs n)(z:A.handled=none)
 (y:∀H tk e,Heap.NewAttrErr h H e (.ref a) "keys"->E (.ref e) ⟨H,g,d,tk,os⟩):
 wpAny (model prog w) A (Builtin.«object.__getattribute__» ⟨[.ref a,.str "keys" u],[]⟩) Q E ⟨h,g,d,t,os⟩:=by
 have T:(⟨h,g,d,t,os⟩:Shared).TypeIs (.ref a) "list":=⟨_,k,rfl⟩;have f:=qj;unfold IsL at k;unfold Builtin.«object.__getattribute__»;repeat (any_goals (first|assumption|wp_step))
 exact wpAny_raiseAttrError z y<|attrMsg_fits (by decide+kernel)<|by rw[xf];decide
def qk{n:Nat}{R:Result->Shared->Prop}(k:IsL h a xs n)(z:A.handled=none)(y:∀H tk e,Heap.NewAttrErr h H e (.ref a) "keys"->R (.error<|.ref e) ⟨H,g,d,tk,os⟩):
 codeAny (model prog w) A (.call (.builtin "list.__getattribute__") ⟨[.ref a,.str "keys" tk],[]⟩) R ⟨h,g,d,t,os⟩:=
 codeAny_call_builtin PySem.F.slot_list_getattribute.plain PySem.F.entry_list_ga (PySem.F.slot_list_getattribute.check _ _ _ _ _ _ _ _ (show(⟨h,g,d,t,os⟩:Shared).TypeIs (.ref a) "list"from⟨_,k,rfl⟩) (PySem.F.args_list_getattribute_2 _ _)<|n9 k z y)
def BX{n:Nat}(k:IsL h a xs n)(z:A.handled=none)(y:∀H tk,(∀b o,h.get? b=some o->H.get? b=some o)->Q none ⟨H,g,d,tk,os⟩):
 wpAny (model prog w) A (getAttr? (.ref a) "keys") Q E ⟨h,g,d,t,os⟩:=by
 have T:(⟨h,g,d,t,os⟩:Shared).TypeIs (.ref a) "list":=⟨_,k,rfl⟩;have f:=sub_AttributeError;have x:=PySem.F.slot_list_getattribute.lookup;have u:=PySem.F.slot_list_getattribute.bind<|.ref a;have s:=list_getattr_none;unfold getAttr? getAttrBy? getAttrBy;repeat (any_goals (first|assumption|wp_step))
 refine qk k z λH tk e M=>bC λG=>?_;obtain⟨p,U,m⟩:=M.there;refine G ?_;show wpAny _ _ (getattributeRaised _ _ _ _ _ _ _) _ _ _;unfold getattributeRaised;repeat (any_goals (first|assumption|wp_step))
 exact y _ _ M.keeps
end
section
variable{k:Cx}{σ:Sg}{A:Around}{I o:Addr}{n j i:Nat}{items:Array Value}{kd:Kd}{p:Addr×Addr}
structure UL(k:Cx)(I o:Addr)(items:Array Value)(n i:Nat)(σ:Sg):Prop where
 sr:SR k σ
 it:σ.s.heap.IsListIter I o i
 iI:¬NI σ I
 iB:k.B.heap.get? I=none
 ob:IsL σ.s.heap o items n
 no:¬NI σ o
def UL.turn{H:Heap}(x:UL k I o items n i σ)(s:∀b q,b≠I->σ.h b=some q->H.get? b=some q):SR k (σ.w {σ.s with heap:=H})/\Mv (·=I) σ (σ.w {σ.s with heap:=H})/\Up σ (σ.w {σ.s with heap:=H}):=
 x.sr.own s (λb u=>(cC (x.sr.eh b u).2.1).elim λq e=>aw<|s b q (λz=>x.iI<|.inr<|z▸u) e)
  (λb u=>by cases u;exact⟨λm=>x.iI<|.inl m,x.iB,.inr λq e=>x.it.elim λQ y=>by cases(show some q=some Q from e.symm.trans y.1);exact noSeq y.2.2⟩) ⟨rfl,rfl,rfl⟩
def UL.set{s':Shared}{ob:Ob}(x:UL k I o items n i σ)(a:Af k σ<|σ.t j ob s'):UL k I o items n i (σ.t j ob s'):=
 ⟨a.sr,x.it.imp λq y=>⟨a.ex.m.keep _ _ y.1 (λm=>x.iI<|.inl m) id,y.2⟩,x.iI,x.iB,a.ex.m.keep _ _ x.ob (λm=>x.no<|.inl m) id,x.no⟩
def set_same{α:Type}{l:List α}{j:Nat}{x:α}(h:l[j]?=some x):l.set j x=l:=by obtain⟨a,rfl⟩:=f5.1 h;exact List.set_getElem_self a
def Sg.nt{o O:Ob}{s s':Shared}:(σ.n p o s).t σ.H.length O s'=σ.n p O s':=cg (λH=>Sg.mk _ H s' σ.X σ.z)<|(List.set_append_right _ _<|i1 _).trans<|cg (λi=>σ.H++[o].set i O)<|Nat.sub_self _
def Sg.tw{ob:Ob}{s':Shared}(h:σ.H[j]?=some ob):σ.t j ob s'=σ.w s':=cg (λH=>Sg.mk σ.g H s' σ.X σ.z)<|set_same h
@[elab_as_elim] theorem aN.pairE {C:Array Value->Prop} {a b:V} {xs:Array Value} (r:aN σ [a,b] xs.toList) (f:∀x y,RV σ a x->RV σ b y->C #[x,y]):C xs:=by obtain⟨l⟩:=xs;exact r.bp (D:=λl=>C ⟨l⟩) λx z H s=>s.bp (D:=λl=>C ⟨x::l⟩) λy z u s=>s.iG (D:=λl=>C ⟨x::y::l⟩)<|f x y H u
def rE{prog:Program}{w:World}{E:Value->Shared->Prop}{T:Nat}{t:Addr}{x y:Value}{m:Nat}{s:Shared}{Q:List Value->Shared->Prop}(H:IsT s.heap t #[x,y] m) (h:Q [x,y] s):wpAny (model prog w) A (Builtin.Dict.pairItems<|.ref t) Q E s:=by unfold Builtin.Dict.pairItems;refine da<|wpAny_typeOf (T:="tuple") ⟨_,H,rfl⟩ ?_;refine zY (by decide) ?_;exact da (m:=seqItems?<|.ref t)<|da<|wpAny_load H<|e5<|e5 h
def Hs{R:Result->Shared->Prop}{u:Tok}{a b:V}{y:Value}{c:List (V×V)}(hh:A.handled=none)(U:A.units+20<cLine)(Y:o≠I)(x:UL k I o items n i σ)(s:σ.g[j]?=some p) (Q:σ.H[j]?=some (.dict kd c)) (M:items[i]?=some y) (L:RV σ (.tup [a,b]) y) (J:keyOk kd a=true) (G:c.length<cn)
 (fin:∀s',UL k I o items n (i+1) (σ.t j (.dict kd<|dput c a b) s')->Mv (·=I) σ (σ.t j (.dict kd<|dput c a b) s')->Up σ (σ.t j (.dict kd<|dput c a b) s')->codeAny (model k.prog k.w) A (.builtin "dict.update.loop" ⟨[.ref p.1,.ref I,.int (i+1:Nat) 0,.none],[]⟩) R s'):
 codeAny (model k.prog k.w) A (.builtin "dict.update.loop" ⟨[.ref p.1,.ref I,.int i u,.none],[]⟩) R σ.s:=codeAny_builtin g8 (by
 rw[Around.under_plainId de _];show wpAny _ A.in1 (pyNext (.ref I)>>=_) _ _ σ.s;refine da<|wpAny_pyNext_list_item (A:=A.in1) x.it (lp (n:=n) x.ob) M λl D f=>?_;have O:=x.turn λb q hb e=>(f.2 b hb).trans e;have z:UL k I o items n (i+1) (σ.w {σ.s with heap:=l}):=⟨O.1,D,x.iI,x.iB,(f.2 o Y).trans x.ob,x.no⟩;refine da<|Be<|da<|wpAny_tryCatch<|(L.on O.2.2).f0 (C:=λy=>wpAny _ _ (Builtin.Dict.pairItems y) _ _ _) λt m xs zz N H hs=>hs.pairE (C:=λxs=>IsT l t xs m->wpAny _ _ (Builtin.Dict.pairItems<|.ref t) _ _ _) (λkv vv b1 b2 H=>rE (T:=0) H ?_) H;refine Be<|Kp z.sr s (z.sr.obs j p _ s Q) (dS (ih (by decide:1+12<=20) A.units) U) J b1 b2 G λs2 a=>?_
 exact e5 ⟨plainId_quiet de _,fin s2 (z.set a) (O.2.1.trans<|a.ex.m.wk λzz q=>q.elim) ⟨a.up.pre,λb ob vs n e d N=>(O.2.2.keep b ob vs n e d N).elim λn1 e1=>a.up.keep b ob vs n e1 d n1⟩⟩)
def Hu{R:Result->Shared->Prop}(z:A.handled=none)(x:UL k I o items n i σ)(H:items[i]?=none) (fin:∀s',SR k (σ.w s')->Mv (·=I) σ (σ.w s')->R (.ok<|.ret .none) s'):
 codeAny (model k.prog k.w) A (.builtin "dict.update.loop" ⟨[.ref p.1,.ref I,.int i u,.none],[]⟩) R σ.s:=codeAny_builtin g8 (by
 rw[Around.under_plainId de _];show wpAny _ A.in1 (pyNext (.ref I)>>=_) _ _ σ.s;refine da<|wpAny_pyNext_list_end (A:=A.in1) z x.it (lp (n:=n) x.ob) H λy e=>?_;show wpAny _ A.in1 (Builtin.Dict.addKeywords p.1 []>>=_) _ _ _;have O:=x.turn e
 exact da<|e5<|e5<|fin _ O.1 O.2.1)
def drop_cons{α:Type}{l r:List α}{i:Nat}{y:α}(h:l.drop i=y::r):l[i]?=some y/\l.drop (i+1)=r:=
 ⟨(List.getElem?_drop (i:=i) (j:=0)).symm.trans<|h▸rfl,by rw[<-List.drop_drop,h];rfl⟩
def drop_nil{α:Type}{l:List α}{i:Nat}(h:l.drop i=[]):l[i]?=none:=(List.getElem?_drop (i:=i) (j:=0)).symm.trans<|h▸rfl
def EP{R:Result->Shared->Prop}(Y:A.handled=none)(T:A.units+20<cLine)(Q:o≠I)(s:List<|V×V):∀(U:List<|V×V) (i:Nat) (u:Tok) (σ:Sg),UL k I o items n i σ->σ.g[j]?=some p->σ.H[j]?=some (.dict kd U)->
 aN σ (s.map λe=>.tup [e.1,e.2]) (items.toList.drop i)->(∀e∈s,keyOk kd e.1=true)->U.length+s.length<=cn->
 (∀s',SR k (σ.t j (.dict kd<|s.foldl (λd e=>dput d e.1 e.2) U) s')->Mv (·=I) σ (σ.t j (.dict kd<|s.foldl (λd e=>dput d e.1 e.2) U) s')->R (.ok<|.ret .none) s')->
 codeAny (model k.prog k.w) A (.builtin "dict.update.loop" ⟨[.ref p.1,.ref I,.int i u,.none],[]⟩) R σ.s:=by
 induction s with|nil=>exactλU i u σ x l z f b L a=>Hu Y x (p8.symm.trans<|drop_nil f) λs' r m=>a s' ((Sg.tw z).symm▸r)<|(Sg.tw z).symm▸m|cons e s O=>intro U i u σ x l z f b L a;refine bC λG=>?_;obtain⟨y,ys,a1,a2,D⟩:=(show∃y ys,RV σ (.tup [e.1,e.2]) y/\aN σ _ ys/\items.toList.drop i=y::ys from f);refine G ?_;have c:=drop_cons D;refine Hs Y T Q x l z (p8.symm.trans c.1) a1 (b e<|.head _) (ri (Nat.lt_add_of_pos_right<|HX _) L) λs2 N m2 M=>O (dput U e.1 e.2) (i+1) 0 _ N l (List.getElem?_set_self (f5.1 z).1) (c.2.symm▸a2.on M) (λe m=>b e<|.tail _ m) (c0 (c0 (He (pI U e.1 e.2) _)<|rn<|Nat.succ_add_eq_add_succ _ _) L) λs'=>?_;rw[show∀ob s',(σ.t j (.dict kd<|dput U e.1 e.2) s2).t j ob s'=σ.t j ob s' fromλob s'=>cg (λH=>Sg.mk σ.g H s' σ.X σ.z)<|List.set_set ..];exactλr m=>a s' r<|m2.trans m
def Hv{R:Result->Shared->Prop}{z:List (V×V)}{s1:Shared}(y:A.handled=none)(u:A.units+20<cLine)(r:SR k σ)(a:Af k σ<|σ.n p (.dict kd []) s1)(H:σ.h I=none)(N:¬NI (σ.n p (.dict kd []) s1) I)(T:s1.heap.IsListIter I o 0)(Y:o≠I)(no:¬NI σ o)(ob:IsL σ.s.heap o items n)
 (x:aN σ (z.map λe=>.tup [e.1,e.2]) items.toList) (s:z.all (λe=>keyOk kd e.1)=true) (L:decide (z.length<=1000000)=true) (fin:∀s',Af k σ (σ.n p (.dict kd<|z.foldl (λd e=>dput d e.1 e.2) []) s')->R (.ok<|.ret .none) s'):
 codeAny (model k.prog k.w) A (.builtin "dict.update.loop" ⟨[.ref p.1,.ref I,.int (0:Nat) 0,.none],[]⟩) R s1:=
 have up:=a.up.keep o _ items n ob rfl no
 EP (j:=σ.H.length) (kd:=kd) (n:=n) y u Y z [] 0 0 (σ.n p (.dict kd []) s1) ⟨a.sr,T,N,r.g3 H,up.2,up.1⟩ (Sg.rW r) List.getElem?_concat_length (x.on a.up) (ft.1 s) ((Dp _).symm▸dk L)
  λs' m M=>fin s' ⟨⟨((a.ex.m.wk λf q=>q.elim).trans<|Eq.mp (cg (Mv (·=I)<|σ.n p (.dict kd []) s1) Sg.nt) M).wk λb (q:b=I) l=>(l<|q▸H).elim,rfl⟩,Sg.nt▸m⟩
theorem wz:∀{l:List V} {z:List (V×V)},oU l=some z->l=z.map λe=>.tup [e.1,e.2]
 |[],z,h=>by cases h;rfl|v::r,z,h=>by
  cases v with
  |tup m=>
   cases m with
   |nil=>cases h|cons a m=>cases m with
    |nil=>cases h|cons b m=>cases m with|nil=>refine C5 ((show(oU r).map ((a,b)::·)=some z from h)) λY e=>?_;rw[wz e];rfl|cons=>cases h
  |_=>cases h
def Hw{kd:Kd}:jj k (.dict kd):=λvs σ vals A Q K G Y r D w kv=>D.jk w λx y r1 w=>r1.bP w λl a n xs hl hn U hs w=>by
 cases w with|of h w=>
 rename_i ps;cases wz h;refine Oe w λc w=>aI c λc1 c2=>?_
 refine al (callType_codes (T:="dict") (Q₁:=λO N=>O=.ref σ.s.heap.objs.size/\N={σ.s with heap:=σ.s.heap.push {cls:=.type "dict",data:=.dict #[]} }) PySem.F.kt_called_dict (PySem.F.kt_typeCall_dict_1 _) PySem.F.entry_dict_init (kt_code_dict_new _ ⟨rfl,rfl⟩) λO N q=>?_)
 obtain⟨rfl,rfl⟩:=q
 have M:=r.alloc (p:=(σ.s.heap.objs.size,σ.s.heap.objs.size)) (o:=.dict kd []) (s':={σ.s with heap:=σ.s.heap.push {cls:=.type "dict",data:=.dict #[]} }) (λb o e=>fz _ e) ⟨rfl,rfl,rfl⟩ (bj _) (bj _) λu=>.of #[] 0 (js _) rfl nofun .nil (hW _ rfl) .nil
 have J:({σ.s with heap:=σ.s.heap.push {cls:=.type "dict",data:=.dict #[]} }:Shared).TypeIs (.ref σ.s.heap.objs.size) "dict":=⟨_,hW _ rfl,rfl⟩
 have L:=fz {cls:=.type "dict",data:=.dict #[]} U
 refine⟨J,PySem.F.args_dict_init_2 _ _,?_⟩
 refine da (m:=Builtin.Dict.selfAndRest _ _)<|da<|wpAny_notOrdered_dict J<|e5 (a:=(σ.s.heap.objs.size,[Value.ref a])) ?_
 show wpAny _ _ (Builtin.Dict.updateFrom "dict.__init__" σ.s.heap.objs.size (.ref a) [] .none) _ _ _
 unfold Builtin.Dict.updateFrom
 refine da<|wpAny_typeOf (T:="list") ⟨_,L,rfl⟩ ?_
 refine zY (by decide) ?_
 refine da<|BX L Y λs tk H=>?_
 refine zY (by rfl) ?_
 have f:=M.sr.keep (s':=⟨s,σ.s.gens,σ.s.drawn,tk,σ.s.os⟩) H ⟨rfl,rfl,rfl⟩
 refine da<|wpAny_rule<|da<|wpAny_pyIter_list (lp (n:=n)<|H a _ L) ?_
 refine e5 ⟨plainId_quiet de _,?_⟩
 have hI:s.get? s.objs.size=none:=bj _
 exact Hv (A:=A.in1) (p:=(σ.s.heap.objs.size,σ.s.heap.objs.size)) Y (dS (ih (by decide:1+20<=60) A.units) G) r ((M.trans f).trans<|f.sr.push _ tk) (vN λz=>(cC z).elim λo e=>Nat.lt_irrefl _<|p9<|H _ o<|fz _ e) (f.sr.fN hI)
  ⟨_,hW _ rfl,rfl,rfl⟩ (q0<|p9<|H a _ L) hn U hs c1 c2 λs' a'=>⟨rfl,kv _ _ _ a' (.rr (p:=(σ.s.heap.objs.size,σ.s.heap.objs.size))<|Sg.rW r) w⟩
end
end
section
def CL(s:List<|Str×Addr)(ns:Ks)(cl:List<|Str×Addr):Prop:=(∀n c,cl.lookup n=some c->s.lookup n=some c)/\∀n,(n,NameKind.free)∈ns->∃c,cl.lookup n=some c
def qm{n m:Str}{C:Option Addr->Prop}(H:n=m->C (some c))(z:C<|acc.lookup n):C (((m,c)::acc).lookup n):=by
 rw[wh];by_cases e:n=m;.rw[beq_iff_eq.2 e];exact H e
 .rw[BB.2 e];exact z
def BY{env:Env}:∀(ns:Ks) (a:List<|Str×Addr),(∀x∈ns,x.2=.free->∃c,env.cells.lookup x.1=some c)->(∀n c,a.lookup n=some c->env.cells.lookup n=some c)->
 ∃cl,(forIn ns a λx r=>(match x with|(name,kind)=>if(kind== .free)=true then do let y<-cellOf env name;pure (ForInStep.yield<|(name,y)::r)else pure (ForInStep.yield r)):Sem<|List<|Str×Addr)=pure cl/\(∀n c,cl.lookup n=some c->env.cells.lookup n=some c)/\∀n,((∃c,a.lookup n=some c)\/(n,NameKind.free)∈ns)->∃c,cl.lookup n=some c:=by
 intro ns
 induction ns with
 |nil=>exactλa j h=>⟨a,rfl,h,λn h=>h.elim id λh=>nomatch h⟩|cons x r i=>
  intro a k s;obtain⟨n,D⟩:=x;rw[List.forIn_cons];by_cases H:D=.free
  .subst H;obtain⟨c,p⟩:=k _ (.head _) rfl;obtain⟨cl,e,z,u⟩:=i ((n,c)::a) (λy m=>k y<|.tail _ m) λN l=>qm (C:=λo=>o=some l->_) (λe f=>e▸f▸p)<|s N l;refine⟨cl,by rw[<-e];simp[show cellOf env n=pure c by unfold cellOf;rw[p]],z,λm M=>u m<|M.elim (λq=>.inl<|qm (C:=λo=>∃c,o=some c) (λj=>⟨c,rfl⟩) q) λq=>(lq.1 q).imp_left λe=>⟨c,?_⟩⟩;obtain rfl:=cg Prod.fst e;rw[wh,Fe]
  .refine bC λG=>?_;obtain⟨cl,e,z,u⟩:=i a (λy m=>k y<|.tail _ m) s;exact G<|⟨cl,by rw[<-e];simp[H],z,λm M=>u m<|M.imp_right λq=>(lq.1 q).resolve_left λe=>H (cg Prod.snd e).symm⟩
def Hx{sc:Scope}(h:∀x∈sc.names,x.2=.free->∃c,env.cells.lookup x.1=some c):∃cl,closureFor sc env=pure cl/\CL env.cells sc.names cl:=by obtain⟨cl,e,H,z⟩:=BY sc.names [] h λn c e=>nomatch e;exact⟨cl,by unfold closureFor;simpa using e,H,λn m=>z n<|.inr m⟩
def iT{sc:Scope}(y:env.scope.kind=.function):(relabel sc env).names=mK env.scope.names sc.names:=by refine lF λx u=>?_;obtain⟨n,k⟩:=x;show(if(k== .free&&env.scope.kind== .function&&env.scope.names.lookup n==some .cell)=true then _ else _)=cond _ _ _;rw[y,kdOf,findS_eq];by_cases c:k=.free<;>by_cases z:env.scope.names.lookup n=some .cell<;>simp[c,z]
def SN(s:Ks)(ac:Option Nat)(t:List Nat)(ns:Ks)(n:Str)(k:NameKind):Prop:=
 (k=.free/\kdOf s n=some .cell/\∀a,ac=some a->n≠aU a)\/k=.globalImplicit\/(k=.local/\ns.lookup n=some .local/\(n=".0"\/∃y∈t,n=aU y))
structure SC(ks:Ks)(ac:Option Nat)(t:List Nat)(sc:Scope):Prop where
 kind:sc.kind=.function
 ns:∀n k,(n,k)∈sc.names->SN ks ac t sc.names n k
 loc:∀y∈t,sc.names.lookup (aU y)=some .local
def SC.of{t:List Nat}{sc:Scope}(h:NA ks ac t sc=true):SC ks ac t sc:=aI h λH z=>bG H λH x x=>aI z λz T=>
 ⟨dk H,λn k m=>((wq _ _).mp<|ft.1 z (n,k) m).elim (λc=>((wq _ _).mp c).elim
   (λc=>bG c λl f c3=>.inl ⟨dk l,dk f,λa e q=>by subst e q;exact nomatch(dK c3).symm.trans (cZ (a:=aU a))⟩) λc=>.inr<|.inl<|dk c)
   λc=>bG c λl f c3=>.inr<|.inr ⟨dk l,(findS_eq _ _).symm.trans<|dk f,((wq _ _).mp c3).imp cj λq=>(Hg.1 q).imp λy q=>⟨q.1,cj q.2⟩⟩,
  λy m=>(findS_eq _ _).symm.trans<|dk<|ft.1 T y m⟩
def EQ{α z:Type} [BEq α] [LawfulBEq α]{l:List (α×z)}{a:α}{b:z}(h:l.lookup a=some b):(a,b)∈l:=by obtain⟨L,m,e,_⟩:=List.lookup_eq_some_iff.1 h;exact e▸ec _ (.head _)
def SC.at{s:Ks}{ac:Option Nat}{t:List Nat}{sc:Scope}(h:SC s ac t sc){n:Str}{k:NameKind}(e:(mK s sc.names).lookup n=some k)(z:k≠ .globalImplicit):(k=.cell/\(n,NameKind.free)∈sc.names/\kdOf s n=some .cell/\∀a,ac=some a->n≠aU a)\/(k=.local/\(n=".0"\/∃y∈t,n=aU y)):=by
 refine oO (EQ e) λ⟨m,x⟩ H e=>?_;rcases h.ns _ _ H with⟨rfl,c,A⟩|rfl|⟨rfl,_,ht⟩
 .have e:(m,NameKind.cell)=(n,k):=by rw[<-e,eb c];rfl
  obtain rfl:=cg Prod.fst e;exact .inl ⟨(cg Prod.snd e).symm,H,c,A⟩
 .exact(z (cg Prod.snd e).symm).elim
 .obtain rfl:m=n:=cg Prod.fst e;exact .inr ⟨(cg Prod.snd e).symm,ht⟩
def Hy:(yq.all λn=>! cq (Str.ofString n) ".0")=true:=by decide+kernel
def ER(e:aU x=(".0":Str)){C:Prop}:C:=by
 rcases k:yq[x]? with _|n
 .exact absurd (cg (λs:Str=>s.cps.toList.length)<|(ij k).symm.trans e) (by decide+kernel:¬1=((".0":Str)).cps.toList.length)
 .have:=ft.1 Hy n<|nf k;rw[(lJ k).symm.trans e]at this;exact nomatch(dK this).symm.trans (cZ (a:=".0"))
noncomputable def wA(t:List Nat)(L:Loc):Loc:=λy=>if y∈t then none else L y
def Lb{t:List Nat}{L:Loc}(h:wA t L y=some v):y∉t/\L y=some v:=by
 by_cases q:y∈t;.exact nomatch(er q).symm.trans h
 .exact⟨q,(ej q).symm.trans h⟩
def Hz(L:Loc)(z:List<|Nat×V):Loc:=z.foldl (λL e=>upd L e.1 e.2) L
def HA(z:List<|Nat×V):∀{L l:Loc} {y:Nat},(y∉z.map (·.1)->L y=l y)->Hz L z y=Hz l z y:=by
 induction z with
 |nil=>exactλh=>h nofun|cons e z i=>
  intro L l y h;refine i λq=>?_;by_cases c:y=e.1;.exact(er c).trans (er c).symm
  .exact(ej c).trans<|(h λm=>(lq.1 m).elim c q).trans (ej c).symm
def ES(z:List<|Nat×V):∀{L:Loc} {y:Nat},y∉z.map (·.1)->Hz L z y=L y:=by
 induction z with|nil=>exactλh=>rfl|cons e z i=>exactλ{L y} h=>(i λq=>h<|.tail _ q).trans (ej λc:y=e.1=>h<|c▸.head _)
def ET{t:List Nat}{L u:Loc}(h:cW t v L=some u):∃z:List<|Nat×V,z.map (·.1)=t/\∀L,cW t v L=some (Hz L z):=by
 rcases e:one t with _|x
 .have y:∀L,cW t v L=jC t v L:=λL=>by unfold cW;rw[e]
  obtain⟨l,rfl,H,_⟩:=Aj<|(y L).symm.trans h;exact⟨t.zip l,List.map_fst_zip<|rn H,λL=>(y L).trans<|er H⟩
 .obtain rfl:=Ez e;exact⟨[(x,v)],rfl,λL=>rfl⟩
def BZ{t:List Nat}{L l:Loc}(h:cW t v L=some l):cW t v (wA t L)=some l/\∀x u,wA t L x=some u->l x=some u:=by obtain⟨z,rfl,hz⟩:=ET h;obtain rfl:=dR<|(hz L).symm.trans h;exact⟨(hz _).trans<|cg some<|funext λy=>HA z λq=>ej q,λx u e=>(ES z (Lb e).1).trans (Lb e).2⟩
section
variable{k:Cx}{d:Nat}{F:Fr}{L L':Loc}{σ σ':Sg}{s':Shared}{t:List Nat}{sc:Scope}{cl:List (Str×Addr)}{C:Addr}{X1 X0:Addr->Prop}
def Ok.less(o:Ok k d F L σ)(h:∀x v,L' x=some v->L x=some v):Ok k d F L' σ:=have f:=o.fr
 ⟨o.rm,o.sr,{kind:=f.kind,glob:=f.glob,blt:=f.blt,loc:=f.loc,cells:=f.cells,bK:=f.bK,cE:=f.cE,apart:=f.apart,out:=f.out,vars:=λx v H s=>f.vars x v (h x v H) s}⟩
noncomputable abbrev Fr.blk(F:Fr)(sc:Scope)(cl:List<|Str×Addr)(C:Addr)(X0:Addr->Prop):Fr:=⟨F.A,none,compEnvC sc cl C F.env,X0⟩
def Ok.block(o:Ok k d F L σ)(h:SC F.env.scope.names F.ac t sc)(T:CL F.env.cells sc.names cl)(H:∀b o,σ.h b=some o->s'.heap.get? b=some o)(e:dX σ.s s')(l:σ.h C=none)(Q:∃m,s'.heap.Ns C m)(hX:∀b,X1 b->σ.X b\/(σ.h b=none/\s'.heap.get? b≠none))(I:∀b,X0 b->X1 b)(A:¬X1 C):
 Ok k d (F.blk sc cl C X0) (wA t L) ⟨σ.g,σ.H,s',X1,σ.z⟩/\Up σ ⟨σ.g,σ.H,s',X1,σ.z⟩:=by
 have f:=o.fr;have r:=o.sr;obtain⟨sr,u⟩:=r.step (W:=No) (H':=σ.H) (X':=X1) (λb o j=>H b o) e rfl (λb q=>(hX b q).elim (λq=>⟨(r.eh b q).1,cT H b (r.eh b q).2.1,(r.eh b q).2.2⟩) λq=>⟨λm=>r.bound b m q.1,q.2,r.g3 q.1⟩) (λb q=>(hX b q).imp_right And.left) (λb q=>q.elim) λj i p o j z=>.inr ⟨z,id,id⟩;have D:∀{n D},(compEnvC sc cl C F.env).kindOf n=some D->D≠ .globalImplicit->(D=.cell/\(n,NameKind.free)∈sc.names/\kdOf F.env.scope.names n=some .cell/\∀a,F.ac=some a->n≠aU a)\/(D=.local/\(n=".0"\/∃y∈t,n=aU y)):=λe=>h.at<|(cg (List.lookup _)<|iT f.kind).symm.trans e;refine⟨⟨o.rm,sr,{kind:=h.kind,glob:=f.glob,blt:=f.blt,loc:=Q,cells:=λn c e=>?_,bK:=λn e=>?_,cE:=λn N c e e'=>f.cE n N c (T.1 n c e)<|T.1 N c e',vars:=λx v Y hs=>?_,apart:=λb hb=>?_,out:=I}⟩,u⟩
 .obtain⟨s,v,z⟩:=f.cells n c<|T.1 n c e;exact⟨λq=>z.elim λo O=>aw O.1<|q▸l,v,cellAt z λo O=>H c o O⟩
 .exact(D e nofun).elim (λq=>T.2 n q.2.1) λq=>nomatch q.1
 .refine bC λG=>?_;obtain⟨n1,Y⟩:=Lb Y
  have c:(aU x,NameKind.free)∈sc.names/\F.env.kindOf (aU x)=some .cell/\F.ac≠some x/\(compEnvC sc cl C F.env).kindOf (aU x)=some .cell:=by
   have no:∀{C:Prop},(aU x=".0"\/∃y∈t,aU x=aU y)->C:=λq=>q.elim (λq=>ER q) λbT=>by obtain⟨y,m,q⟩:=bT;exact absurd (j4 q▸m) n1
   rcases hs with hs|hs;.exact(D hs nofun).elim (λq=>nomatch q.1) λq=>no q.2
   .exact(D hs nofun).elim (λq=>⟨q.2.1,(findS_eq _ _).symm.trans q.2.2.1,λa=>q.2.2.2 x a rfl,hs⟩) λq=>nomatch q.1
  obtain⟨val,s,z,U⟩:=f.vars x v Y<|.inr c.2.1;refine G<|⟨val,?_,λj=>(z c.2.2.1).on u,nofun⟩;refine s.elim (λq=>oy q.1 c.2.1) λ⟨_,c1,hc,hv⟩=>?_;obtain⟨c2,M⟩:=T.2 _ c.1;obtain rfl:=dR<|(T.1 _ _ M).symm.trans hc;exact .inr ⟨c.2.2.2,c2,M,cellAt hv λo O=>H _ o O⟩
 .rcases hb with rfl|⟨n,hn⟩
  .refine bC λG=>?_;obtain⟨m,o,es,ep,e,_⟩:=Q;exact G<|⟨λq=>r.bound _ q l,A,r.g3 l,aw e⟩
  .obtain⟨s,z,U,J⟩:=f.apart b<|.inr ⟨n,T.1 n b hn⟩;exact⟨s,λq=>(hX b q).elim z λq=>J q.1,U,cT H b J⟩
end
end
section
section
variable{k:Cx}{d:Nat}{F:Fr}{L L':Loc}{σ σ' σ0:Sg}{s':Shared}{gd:Option (Nat×Ob)}{I:IT}{R:Sg->Prop}{j:Nat}{C D:Addr}
noncomputable def HB(env:Env)(b:Bool)(ifs:List Expr):Sem Bool:=forIn ifs b λc r=>if r=true then do let ok<-isTrue c env (eval c env);pure (ForInStep.yield ok)else pure (ForInStep.yield r)
theorem m6{K:Bool->Shared->Prop}(env:Env):∀(ifs:List Expr),K false s->WN k A (HB env false ifs) K s
 |[],h=>ag h|c::r,h=>by unfold HB;rw[List.forIn_cons];exact ab<|ag<|m6 env r h
theorem m7:∀{c:Es},eO k d c->∀{ifs:List Expr} {σ:Sg} {Q:Bool->Hp->Prop} {K:Bool->Shared->Prop},vw c ifs=true->cB F.env.scope.names F.ac c ifs=true->Ok k d F L σ->re (wC d) c L σ.H Q->KB k σ Q K->WN k F.A (HB F.env true ifs) K σ.s
 |.nil,_,ifs,σ,Q,K,_,h,o,w,u=>by obtain rfl:=mi.1 h;exact ag (u true σ o.sr.here w)
 |.cons e l,s,ifs,σ,Q,K,ht,h,o,w,u=>by revert ht;refine pO h λy Y m H x ht=>aI (a:=I4 e y) ht λT f=>?_;unfold HB;rw[List.forIn_cons];exact ab<|ab<|s.1.2 F L σ y _ _ T H o w λb i z w=>ag<|pM w (λw=>m7 s.2 f x (o.on z) w λb p A w=>u b p (z.trans A) w) λw=>m6 F.env Y<|u false i z w
inductive DL(σ:Sg)(D:Addr)(done:List V):Prop
 |of (n:Nat) (items:Array Value) (h:IsL σ.s.heap D items n) (r:aN σ done items.toList)
theorem DL.on{done:List V}(x:DL σ D done)(u:Up σ σ')(h:∀o,σ.h D=some o->σ'.h D=some o):DL σ' D done:=by obtain⟨n,i,e,r⟩:=x;exact .of n i (h _ e)<|r.on u
def RC(C D:Addr)(I:IT)(σ0 σ:Sg):Prop:=Mv (λb=>b=C\/b=D\/b∈I.wr) σ0 σ/\σ.X=σ0.X
def RC.on(r:RC C D I σ0 σ)(a:Af k σ σ'):RC C D I σ0 σ':=⟨r.1.trans<|a.ex.m.wk λz h=>h.elim,a.ex.X.trans r.2⟩
def LI.mid(W:CP k F.A I)(x:LI k d F gd I R j L σ)(o:Ok k d F L<|σ.w s')(u:Up σ<|σ.w s')(y:∀b∈I.fp,∀o,σ.h b=some o->s'.heap.get? b=some o)(r:R<|σ.w s'):LI k d F gd I R j L (σ.w s'):=
 ⟨o,r,W.frame _ _ _ x.st y,λb H=>(x.fx b H).imp_left λq=>⟨q.1,q.2.1,q.2.2.1,(cC q.2.2.2).elim λz e=>aw<|y b H _ e⟩,W.up _ _ u x.vl⟩
def LI.af(y:LC k F I R)(x:LI k d F gd I R j L σ)(a:Af k σ σ')(H:bz gd σ.H True)(z:bz gd σ'.H True)(r:R σ'):LI k d F gd I R j L σ':=x.step y (a.sx x.ok) (x.ok.on a) H z r
structure CC(k:Cx)(F:Fr)(I:IT)(C D:Addr)(σ0:Sg)(t:List Nat):Prop where
 lc:LC k F I (RC C D I σ0)
 ac:F.ac=none
 hC:F.env.locals=C
 X0:∀b,σ0.X b->F.X0 b
 hD:σ0.X D
 fD:D∉I.fp
 loc:∀y∈t,F.env.kindOf (aU y)=some .local
theorem CC.apart(c:CC k F I C D σ0 t)(o:Ok k d F L σ)(r:RC C D I σ0 σ):¬ie σ D/\¬FA F.env D/\k.B.heap.get? D=none:=have x:=o.sr.eh D<|r.2▸c.hD;⟨x.1,λh=>(o.fr.apart D h).2.1<|r.2▸c.hD,x.2.2⟩
def DL.af{done:List V}(c:CC k F I C D σ0 t)(x:DL σ D done)(o:Ok k d F L σ)(r:RC C D I σ0 σ)(a:Af k σ σ'):DL σ' D done:=x.on a.up λO e=>a.ex.m.keep D O e (c.apart o r).1 id
def CC.push{done:List V}(c:CC k F I C D σ0 t)(x:LI k d F gd I (RC C D I σ0) j L σ)(dl:DL σ D done)(l:done.length<=sizeLine)(u:RV σ v val)
 (q:∀s',LI k d F gd I (RC C D I σ0) j L (σ.w s')->DL (σ.w s') D (done++[v])->Q .none s'):wpAny (model k.prog k.w) F.A (PySem.call (.builtin "list.append") [.ref D,val]) Q (λz z=>False) σ.s:=by
 obtain⟨n,i,e,s⟩:=dl;have a:=c.apart x.ok x.r;refine wpAny_list_append_plain (hsz:=s.size▸l) ⟨n,e⟩ λm p y=>bC λG=>?_;obtain⟨O,m1,U⟩:=x.ok.own (W:=(·=D)) (s':={σ.s with heap:=m}) (λb o H e=>(y.2 b H).trans e) ⟨rfl,rfl,rfl⟩ (λb H z=>H▸p.elim λz e=>aw e) λb H=>H▸⟨a.1,a.2.2,.inl<|x.r.2▸c.hD,a.2.1,λh=>c.X0 D<|x.r.2▸h⟩;obtain⟨N,f⟩:=p;exact G<|q _ (x.mid c.lc.W O U (λb H o e=>(y.2 b λq=>c.fD<|q▸H).trans e) ⟨x.r.1.trans<|m1.wk λb h z=>.inr<|.inl h,x.r.2⟩)<|.of N _ f<|(Array.toList_push (xs:=i) (x:=val)).symm▸(s.on U).app (.one<|u.on U)
def wD{test:Loc->Hp->(Bool->Hp->Prop)->Prop}(h:d8 elt test t L gd l H Q):bz gd H True:=by
 rcases l with _|_;.exact(du h).2
 .exact(du h).2
inductive CW(k:Cx)(d:Nat)(F:Fr)(gd:Option (Nat×Ob))(I:IT)(C D:Addr)(σ0:Sg)(L:Loc)(wc:List V->Hp->(List V->Hp->Prop)->Prop)(Q:List V->Hp->Prop)(m:Nat)(s:Shared):Prop
 |of (j:Nat) (σ:Sg) (done:List V) (hs:σ.s=s) (hj:m+j=I.vs.length) (x:LI k d F gd I (RC C D I σ0) j L σ) (dl:DL σ D done) (hl:done.length<=j) (w:wc (I.vs.drop j) σ.H λxs=>Q (done++xs))
def B0{e:Mine.E}{c:Es}{t:List Nat}{elt tg iter:Expr}{ifs:List Expr}{sc:Scope}{pos:Pos}{Q:List V->Hp->Prop}{G:Shared->Prop}(z:CC k F I C D σ0 t)(he:aG k d e)(hc:eO k d c)
 (e1:aV F.env.scope.names F.ac e elt=true) (t2:vw c ifs=true) (e2:cB F.env.scope.names F.ac c ifs=true) (e3:gU F.env.scope.names t tg=true) (Q1:(I.tf||tG tg)=true) (hz:I.vs.length<=sizeLine)
 (fin:∀σ done H tk,LI k d F gd I (RC C D I σ0) I.vs.length (wA t L) σ->DL σ D done->done.length<=sizeLine->(∀b o,b∉I.wr->σ.h b=some o->H.get? b=some o)->bz gd σ.H (Q done<|iY gd σ.H)->G {σ.s with heap:=H,toks:=tk})
 (x:LI k d F gd I (RC C D I σ0) 0 (wA t L) σ) (dl:DL σ D []) (w:d8 (wE (wC d) e) (re (wC d) c) t L gd I.vs σ.H Q):
 codeN (model k.prog k.w) F.A (.compLoop (.ListComp elt [⟨tg,iter,ifs,0⟩] sc pos) 0 (.ref I.it) (.ref D) F.env) (λres s'=>match res with|.ok fl=>G s'|.error _=>False) σ.s:=by
 refine yE (c:=.compLoop (.ListComp elt [⟨tg,iter,ifs,0⟩] sc pos) 0 (.ref I.it) (.ref D) F.env) (λp p=>rfl) rfl (CW k d F gd I C D σ0 (wA t L) (d8 (wE (wC d) e) (re (wC d) c) t L gd) Q) (λm s h=>?_) I.vs.length ⟨0,σ,[],rfl,rfl,x,dl,js _,w⟩;obtain⟨j,σ,done,hs,J,x,dl,U,w⟩:=h;subst hs;show aB _ F.A ((compTurn (.ListComp elt [⟨tg,iter,ifs,0⟩] sc pos) 0 (.ref I.it) (.ref D) F.env).onRaise λx=>do noteFrame x F.env;theTreesLotGoes x) _ _ σ.s;refine bZ<|ai (E:=λp p=>False) ?_ (λp p h=>h) λp p h=>h.elim;rw[compTurn_list];refine ab<|ak<|ab<|al ?_;have A:j<=sizeLine:=c0 (J▸Nat.le_add_left j m) hz;rcases m with _|m
 .have J:j=I.vs.length:=(Dp j).symm.trans J;refine bC λi=>?_;subst J;refine i ?_;rw[List.drop_length]at w;exact z.lc.W.done σ.s _ x.st λH tk T=>ag<|fin σ done H tk x dl (c0 U A) T<|hE done▸w
 .refine bC λi=>?_;obtain⟨v,hv,hd⟩:=Ak J;rw[hd]at w;obtain⟨w,N⟩:=du w;refine i<|z.lc.W.item tg j v σ _ _ hv x.st Q1 x.ok.sr x.vl (λp p h=>ao h) λy H tk rv st T=>rt w λL1 Jh w=>bC λi=>?_;obtain⟨l,u2⟩:=x.own z.lc (tk:=tk) st T;have U4:=dl.on u2 λo=>T D o λq=>z.fD<|z.lc.W.sub D q;obtain⟨CO,less⟩:=BZ Jh;refine i<|ao<|kf l.ok.rm.2.2 e3 (λp p q=>nomatch z.ac.symm.trans q) CO l.ok (rv u2) λs3 m3 u3 O=>?_;have y3:Sx F (σ.w {σ.s with heap:=H,toks:=tk}) (Sg.w (σ.w {σ.s with heap:=H,toks:=tk}) s3):=.of m3 (λp h=>.inl h.fa) O;have Y:=l.step z.lc y3 O N N ⟨l.r.1.trans<|m3.wk λb h p=>h.elim (λe=>.inl<|e.trans z.hC) λbT=>by obtain⟨y,m,q,_⟩:=bT;exact oy (z.loc y m) q,l.r.2⟩;have SU:=U4.on u3 λo e=>m3.keep D o e (z.apart l.ok l.r).1 λh=>(z.apart l.ok l.r).2.1 h.fa;refine ab<|m7 hc t2 e2 O w λb kT a w=>pM w (λw=>?_) λw=>?_;rotate_left
  .have x4:=Y.af z.lc a N (wD w)<|Y.r.on a;exact ag ⟨rfl,m,yb m,j+1,kT,done,rfl,(Nat.add_right_comm m j 1).trans J,{x4 with ok:=x4.ok.less less},SU.af z O Y.r a,lH U,w⟩
  .refine ab<|ab<|he F L1 kT elt _ _ e1 (O.on a) w λu lT val a5 r5 w=>ab<|al ?_;have M:=a.trans a5;have x5:=Y.af z.lc M N (wD w)<|Y.r.on M;refine z.push x5 (SU.af z O Y.r M) (c0 U A) r5 λs6 x6 U5=>ag<|ag ⟨rfl,m,yb m,j+1,_,done++[u],rfl,(Nat.add_right_comm m j 1).trans J,{x6 with ok:=x6.ok.less less},U5,?_,?_⟩;.rw[b9];exact ka U
   .exact(funext λf=>cg Q (ee done [u] f):(λf=>Q<|done++[u]++f)=λf=>Q<|done++u::f)▸w
end
end
section
section
variable{k:Cx}{d:Nat}{F:Fr}{L L':Loc}{σ σ' σ0:Sg}{s':Shared}{gd:Option (Nat×Ob)}{I:IT}{C D:Addr}{xs:List V}{X:Addr->Prop}
theorem SR.lst(r:SR k σ)(hX:σ.X=λb=>X b\/b=D)(H:¬X D)(dl:DL σ D xs)(l:xs.length<=sizeLine):SR k (σ.lx X)/\RV (σ.lx X) (.lst xs) (.ref D)/\∀b,ie (σ.lx X) b->ie σ b:=by have x:∀b,X b->σ.X b:=λb h=>hX▸.inl h;refine bC λG=>?_;obtain⟨s,u⟩:=r.step (W:=No) (H':=σ.H) (X':=X) (s':=σ.s) (λb o z e=>e) .tQ rfl (λb h=>r.eh b<|x b h) (λb h=>.inl<|x b h) (λb h=>h.elim) λz i p o z y=>.inr ⟨y,id,id⟩;obtain⟨n,T,e,m⟩:=dl;exact G<|⟨s,.ll l (λh=>h.elim (r.eh D<|hX▸.inr rfl).1 H) e<|m.on u,λb h=>h⟩
def EU{σ':Sg}(h:σ'.g=σ.g++[(D,D)]){b:Addr}(m:ie σ' b):ie σ b\/b=D:=by obtain⟨q,m,e⟩:=m;rw[h]at m;exact(eu.1 m).imp (λm=>⟨q,m,e⟩) λm=>by obtain rfl:=dt.1 m;exact e.elim id id
def SR.adopt(r:SR k σ)(hX:σ.X=λb=>X b\/b=D)(i:¬X D)(dl:DL σ D xs)(f:xs.length<=sizeLine):
 SR k ⟨σ.g++[(D,D)],σ.H++[.list xs],σ.s,X,σ.z⟩/\RV ⟨σ.g++[(D,D)],σ.H++[.list xs],σ.s,X,σ.z⟩ (.ref σ.H.length) (.ref D)/\∀b,ie ⟨σ.g++[(D,D)],σ.H++[.list xs],σ.s,X,σ.z⟩ b->ie σ b\/b=D:=by
 have z:=r.eh D<|hX▸.inr rfl;have y:∀b,X b->σ.X b:=λb h=>hX▸.inl h;have new:∀b,ie ⟨σ.g++[(D,D)],σ.H++[.list xs],σ.s,X,σ.z⟩ b->ie σ b\/b=D:=λb m=>EU rfl m;have u:Up σ ⟨σ.g++[(D,D)],σ.H++[.list xs],σ.s,X,σ.z⟩:=⟨List.prefix_append _ _,λa o Y n e d N=>⟨λh=>h.elim (λm=>(new a m).elim (λm=>N<|.inl m) λq=>N<|.inr<|q▸hX▸.inr rfl) λh=>N<|.inr<|y a h,e⟩⟩
 have nn:∀{j:Nat} {q:Addr×Addr},σ.g[j]?=some q->¬(q.1=D\/q.2=D):=λh q=>q.elim (λe=>z.1<|e▸(gv h).1) λe=>z.1<|e▸(gv h).2
 have lt:∀{j:Nat} {q:Addr×Addr},σ.g[j]?=some q->j≠σ.g.length:=λh=>q0 (f5.mp h).1
 refine⟨⟨by show(σ.g++[_]).length=(σ.H++[_]).length;rw[b9,b9,r.len];rfl,λj q ob H U=>?_,λj l q Q H J e=>?_,λb h=>(new b h).elim (r.fresh b) λe=>e▸z.2.2,
  λb h=>have x:=r.eh b<|y b h;⟨λm=>(new b m).elim x.1 λq=>i<|q▸h,x.2⟩,r.old,r.eq,r.base⟩,.rr (p:=(D,D))<|r.len▸List.getElem?_concat_length,new⟩
 .rcases bN H with H|⟨e1,rfl⟩
  .rcases bN U with U|⟨e2,_⟩;.exact RO.on u (λb s o e=>e) (λs s=>rfl)<|r.obs j q ob H U
   .exact absurd (e2.trans r.len.symm)<|lt H
  .rcases bN U with U|⟨_,rfl⟩;.exact absurd (e1.trans r.len)<|q0 (f5.mp U).1
   .obtain⟨n,T,e,c⟩:=dl;exact .of n T f rfl e (c.on u)
 .rcases bN H with a|⟨e1,rfl⟩<;>rcases bN J with a'|⟨e2,rfl⟩;.exact r.inj j l q Q a a' e
  .exact(nn a<|e.elim .inl λe=>e.elim .inl λe=>.inr<|e.elim id id).elim
  .exact(nn a'<|e.elim (λe=>.inl e.symm) λe=>e.elim (λe=>.inr e.symm) λe=>e.elim (λe=>.inl e.symm) λe=>.inr e.symm).elim
  .exact e1.trans e2.symm
def MK.of{m:Bool}{Q:VP}{G:Prop}{σ1:Sg}(H:Ex σ1<|σ.lx σ1.X)(r:SR k σ)(hX:σ.X=λb=>σ1.X b\/b=D)(y:σ1.h D=none)(nD:¬σ1.X D)(dl:DL σ D xs)(z:xs.length<=sizeLine)
 (w:JW m xs σ.H Q) (g:∀v σ',σ'.s=σ.s->Af k σ1 σ'->RV σ' v (.ref D)->(∀b,ie σ' b->ie σ b\/b=D)->Q v σ'.H->G):G:=by
 rcases m with _|_
 .obtain⟨s,l,mt⟩:=r.lst hX nD dl z;exact g _ (σ.lx σ1.X) rfl ⟨H,s⟩ l (λb h=>.inl<|mt b h) w
 .obtain⟨s,l,mt⟩:=r.adopt hX nD dl z;exact g (.ref σ.H.length) ⟨σ.g++[(D,D)],σ.H++[Ob.list xs],σ.s,σ1.X,σ.z⟩ rfl ⟨⟨⟨H.m.pre.trans<|List.prefix_append _ _,H.m.keep,λb h=>(mt b h).elim (H.m.new b) λe=>.inr<|.inl<|e▸y,H.m.live,H.m.z⟩,rfl⟩,s⟩ l mt (show Q _ (σ.H++[.list xs])from w)
structure CE(k:Cx)(σ:Sg)(C:Addr)(v:V)(x:Value)(σ':Sg):Prop where
 a:Af k σ σ'
 rv:RV σ' v x
 ns:∃m,σ'.s.heap.Ns C m
 nC:¬NI σ' C
 hC:σ.h C=none
theorem CE.of{m:Bool}{Q:VP}{G:Prop}{σ1:Sg}(H:Ex σ1<|σ.lx σ1.X)(r:SR k σ)(hX:σ.X=λb=>σ1.X b\/b=D)(z:σ1.h D=none)(nD:¬σ1.X D)(dl:DL σ D xs)(l:xs.length<=sizeLine)(ns:∃m,σ.s.heap.Ns C m)(nC:¬ie σ C)(x:¬σ1.X C)(c:σ1.h C=none)(U:C≠D)
 (w:JW m xs σ.H Q) (g:∀v σ',σ'.s=σ.s->CE k σ1 C v (.ref D) σ'->Q v σ'.H->G):G:=
 MK.of H r hX z nD dl l w λv σ' e a y mt w=>g v σ' e ⟨a,y,e▸ns,λh=>h.elim (λh=>(mt _ h).elim nC U) λh=>x<|a.ex.X▸h,c⟩ w
end
end
section
section
variable{k:Cx}{d:Nat}{F:Fr}{L L':Loc}{σ σ' σ0:Sg}{s':Shared}{gd:Option (Nat×Ob)}{I:IT}{C D:Addr}{xs:List V}{X:Addr->Prop}{t:List Nat}{sc:Scope}{cl:List (Str×Addr)}
def cX(σ:Sg)(I:IT)(D b:Addr):Prop:=σ.X b\/b=D\/b∈I.wr
noncomputable def c3(σ:Sg)(I:IT)(D:Addr)(s':Shared):Sg:=⟨σ.g,σ.H,s',cX σ I D,σ.z⟩
structure CN(σ:Sg)(gd:Option (Nat×Ob))(s2 s3:Shared)(I:IT)(C D:Addr):Prop where
 kp:∀b o,s2.heap.get? b=some o->s3.heap.get? b=some o
 same:dX s2 s3
 D2:s2.heap.get? D=none
 C2:s2.heap.get? C=none
 ns:∃m,s3.heap.Ns C m
 dl:s3.heap.PlainList D #[]
 CD:C≠D
section
variable{s2 s3:Shared}(src:Src k F.A σ gd s2 I)(n:CN σ gd s2 s3 I C D)
include src n
theorem CN.Q4(b:Addr)(o:Obj)(h:σ.h b=some o):s3.heap.get? b=some o:=n.kp b o<|src.keep b o h
theorem CN.no(h:s2.heap.get? b=none):σ.h b=none:=vN λu=>cT src.keep b u h
theorem CN.PD(h:b∈I.wr):s2.heap.get? b≠none:=src.KZ.live 0 _ src.st b h
theorem CN.SW(r:SR k σ)(h:b∈I.fp):s2.heap.get? b≠none:=(src.fix b h).elim (λq=>q.2) λq=>q.elim (λT=>by obtain⟨_,o,xs,m,e,_⟩:=T;exact aw<|src.keep b o e) λT=>by obtain⟨_,a,o,p,z,u,i⟩:=T;exact cT src.keep b<|i▸r.bound _ (gv u).1
theorem CN.X3(b:Addr)(h:cX σ I D b):σ.X b\/(σ.h b=none/\s3.heap.get? b≠none):=h.imp_right λq=>q.elim (λq=>q▸⟨n.no src n.D2,n.dl.elim λz e=>aw e⟩) λq=>⟨src.fresh b q,cT n.kp b<|n.PD src q⟩
theorem CN.nC(r:SR k σ):¬cX σ I D C:=λq=>q.elim (λq=>(r.eh C q).2.1<|n.no src n.C2) λq=>q.elim n.CD λq=>n.PD src q n.C2
theorem CN.ok(o:Ok k d F L σ)(h:SC F.env.scope.names F.ac t sc)(T:CL F.env.cells sc.names cl):Ok k d (F.blk sc cl C<|cX σ I D) (wA t L) (c3 σ I D s3)/\Up σ (c3 σ I D s3):=
 o.block h T (n.Q4 src) (src.same.trans n.same) (n.no src n.C2) n.ns (n.X3 src) (λz h=>h) (n.nC src o.sr)
theorem CN.fx(o:Ok k d F L σ)(p:CL F.env.cells sc.names cl){b:Addr}(H:b∈I.fp):Fx (F.blk sc cl C<|cX σ I D) gd I.wr (c3 σ I D s3) b:=by
 have l:=n.SW src o.sr H;have fa:¬FA F.env b->¬FA (F.blk sc cl C<|cX σ I D).env b:=λg h=>h.elim (λe=>l<|e▸n.C2) λT=>by obtain⟨m,e⟩:=T;exact g<|.inr ⟨m,p.1 m b e⟩
 exact(src.fix b H).elim (λq=>.inl ⟨λm=>o.sr.bound b m q.1,fa λh=>(o.fr.apart b h).2.2.2 q.1,id,cT n.kp b l⟩) λq=>q.elim (λT=>by obtain⟨q,ob,xs,m,e,u⟩:=T;exact .inl ⟨λm=>q<|.inl m,fa λh=>o.fr.noSeq h e xs m u,id,cT n.kp b l⟩) .inr
theorem CN.fin{m:Bool}{Q:VP}{G:Prop}{done:List V}(r:SR k σ)(o:Ok k d (F.blk sc cl C<|cX σ I D) L lT)(hX:lT.X=cX σ I D)(M:Mv (λb=>b=C\/b=D\/b∈I.wr) (c3 σ I D s3) lT)(dl:DL lT D done)(f:done.length<=sizeLine)(y:∀b o,b∉I.wr->lT.h b=some o->h'.get? b=some o)
 (w:JW m done lT.H Q) (g:∀v σ',σ'.s={lT.s with heap:=h',toks:=tk}->CE k σ C v (.ref D) σ'->Q v σ'.H->G):G:=by
 have x:∀b,b∈I.wr->lT.X b:=λb h=>hX▸.inr (.inr h);have s:D∉I.wr:=λq=>n.PD src q n.D2;have c:C∉I.wr:=λq=>n.PD src q n.C2;have N:∀b,σ.X b\/b=D->b∉I.wr:=λb h q=>h.elim (λh=>(r.eh b h).2.1<|src.fresh b q) λh=>s<|h▸q;have j:∀b,σ.X b\/b=D->lT.X b:=λb h=>hX▸h.imp_right .inl;obtain⟨Y,u⟩:=o.sr.step (W:=(·∈I.wr)) (H':=lT.H) (X':=λb=>σ.X b\/b=D) (s':={lT.s with heap:=h',toks:=tk}) y ⟨rfl,rfl,rfl⟩ rfl (λb h=>have q:=o.sr.eh b<|j b h;⟨q.1,(cC q.2.1).elim λz e=>aw<|y b _ (N b h) e,q.2.2⟩) (λb h=>.inl<|j b h) (λb h=>⟨(o.sr.eh b<|x b h).2.2,.inl<|.inr<|x b h⟩)
  λz i p ob H U=>.inr ⟨U,λq=>(o.sr.eh _<|x _ q).1 (gv H).1,λq=>(o.sr.eh _<|x _ q).1 (gv H).2⟩;have mv:Mv No σ ⟨lT.g,lT.H,{lT.s with heap:=h',toks:=tk},σ.X,lT.z⟩:=
  ((⟨sA _,λb o e z z=>n.Q4 src b o e,λb h=>.inl h,λb z h=>cT (n.Q4 src) b h,rfl⟩:Mv (λb=>b=C\/b=D\/b∈I.wr) σ<|c3 σ I D s3).trans<|M.trans (⟨sA _,λb o e z h=>y b o (λq=>h<|.inr<|.inr q) e,λb h=>.inl h,λb h l=>(cC l).elim λz e=>aw<|y b _ (λq=>h<|.inr<|.inr q) e,rfl⟩:Mv _ lT ⟨lT.g,lT.H,{lT.s with heap:=h',toks:=tk},σ.X,lT.z⟩)).wk
    λb h l=>l<|h.elim (λe=>e▸n.no src n.C2) λh=>h.elim (λe=>e▸n.no src n.D2)<|src.fresh b;have a:=o.fr.apart C<|.inl rfl;exact CE.of (σ:=⟨lT.g,lT.H,{lT.s with heap:=h',toks:=tk},λb=>σ.X b\/b=D,lT.z⟩) (σ1:=σ) ⟨mv,rfl⟩ Y rfl (n.no src n.D2) (λq=>(r.eh D q).2.1<|n.no src n.D2) (dl.on u λo e=>y D o s e) f (o.fr.loc.imp λm T=>vF T λo e=>y C o c e) a.1 (λq=>(r.eh C q).2.1<|n.no src n.C2) (n.no src n.C2) n.CD w g
end
structure CF(ks:Ks)(ac:Option Nat)(e:Mine.E)(t:List Nat)(i:It)(c:Es)(elt tg iter:Expr)(ifs:List Expr)(sc:Scope):Prop where
 h:SC ks ac t sc
 a1:gU (mK ks sc.names) t tg=true
 a2:(zT i||tG tg)=true
 a3:tI iter=false
 a4:Ba ks ac i iter=true
 a5:aV (mK ks sc.names) none e elt=true
 a6:vw c ifs=true
 a7:cB (mK ks sc.names) none c ifs=true
def sm{m:Bool}{i:It}{e:Mine.E}{c:Es}{elt tg iter:Expr}{K:Value->Shared->Prop}(hi:nY k d i)(he:aG k d e)(hc:eO k d c)(o:Ok k d F L σ)(cf:CF F.env.scope.names F.ac e t i c elt tg iter ifs sc)
 (w:wE (wC d) (.comp m e t i c) L σ.H Q) (hQ:∀v σ' D C,CE k σ C v (.ref D) σ'->Q v σ'.H->compPost (model k.prog k.w) F.A (λz z=>False) use K (.ref D) C (.ok .next) σ'.s):
 WN k F.A (comprehension (.ListComp elt [⟨tg,iter,ifs,0⟩] sc pos) sc F.env ps (newList []) false (eval iter F.env) use) K σ.s:=by
 refine bC λp=>?_;obtain⟨h,a1,a2,a3,a4,a5,a6,a7⟩:=cf;obtain⟨cl,Dr,T⟩:=Hx (sc:=sc) (env:=F.env) λx H M=>(h.ns x.1 x.2 H).elim (λq=>o.fr.bK x.1<|(findS_eq _ _).symm.trans q.2.1) λq=>q.elim (λq=>nomatch M.symm.trans q) λq=>nomatch M.symm.trans q.1;refine p<|f7 rfl (EB a3 F.env) Dr h.kind (λx H l=>(h.ns x.1 x.2 H).elim (λq=>nomatch l.symm.trans q.1) λq=>q.elim (λq=>nomatch l.symm.trans q) λq=>q.2.1) ?_;refine hi F L σ iter _ _ a4 o w λvs gd u s1 val af src Ke hz w=>src _ λs2 I ev et s=>wpAny_newObj_type<|wpAny_newFunctionEnv (λx H q=>(h.ns x.1 x.2 H).elim (λc=>nomatch q.symm.trans c.1) λc=>c.elim (λc=>nomatch q.symm.trans c) λc=>nomatch q.symm.trans c.1) nofun (λj J A=>?_) h.kind;subst ev;have O:=o.on af;have Y:(s2.heap.push {cls:=.type "list",dict:=none,data:=.seq ([]:List Value).toArray}).objs.size=s2.heap.objs.size+1:=Heap.size_push ..;have k2:∀b q,(s2.heap.push {cls:=.type "list",dict:=none,data:=.seq ([]:List Value).toArray}).get? b=some q->j.get? b=some q:=λb q e=>A.extBut b q (q0<|p9 e)<|fz _ e;have n:CN u gd s2 {s2 with heap:=j,toks:=s2.toks+([]:List<|Str×Value).length} I (s2.heap.push {cls:=.type "list",dict:=none,data:=.seq ([]:List Value).toArray}).objs.size s2.heap.objs.size:=
  ⟨λb q e=>k2 b q<|fz _ e,⟨rfl,rfl,rfl⟩,bj _,Ep<|Y▸Nat.le_succ _,⟨_,J⟩,⟨0,k2 _ _<|hW _ rfl⟩,Y▸Nat.succ_ne_self _⟩;clear Y k2 J A;generalize({s2 with heap:=j,toks:=s2.toks+([]:List<|Str×Value).length}:Shared)=s3 at n⊢;generalize(s2.heap.push {cls:=.type "list",dict:=none,data:=.seq ([]:List Value).toArray}).objs.size=C at n⊢;generalize s2.heap.objs.size=D at n⊢;refine bC λp=>?_;obtain⟨o3,u3⟩:=n.ok s O h T;obtain⟨z',o4,th⟩:=v9 o3 Ke;refine p ?_;have N:=iT (sc:=sc) o.fr.kind;have cc:CC k (F.blk sc cl C<|cX u I D) I C D ((c3 u I D s3).hz (freeze gd u.H) z') t:=
  ⟨⟨s.KZ,λb m=>O.sr.g3<|s.fresh b m,.inr λσ r b m=>r.2▸.inr (.inr m),λσ s' r m=>⟨r.1.trans<|m.wk λb h z=>.inr<|.inr h,r.2⟩⟩,rfl,rfl,λb h=>h,.inr<|.inl rfl,λq=>n.SW s O.sr q n.D2,λy m=>lookup_relabel_local<|h.loc y m⟩;have fp:=λb U=>n.fx s (cl:=cl) (sc:=sc) O T (b:=b) U;have SX:=s.KZ.frame 0 _ _ s.st λb z o e=>n.kp b o e;have fin:=B0 (elt:=elt) (iter:=iter) (ifs:=ifs) (sc:=sc) (pos:=pos) (G:=λs'=>compPost (model k.prog k.w) F.A (λz z=>False) use K (.ref D) C (.ok .next) s') (Q:=λxs H2=>JW m xs H2 Q) cc he hc (N.symm▸a5) a6 (N.symm▸a7) (N.symm▸a1) (et.symm▸a2) hz
  (λlT done h' tk x dl l hk w=>n.fin s O.sr (th _ lT _ x.ok x.r.1 (du w).2).1 x.r.2 (th _ lT _ x.ok x.r.1 (du w).2).2 (dl.on .hz λz e=>e) l hk (du w).1 λv σ' e c q=>e▸hQ v σ' D C {c with a:=af.trans c.a,hC:=vN λq=>af.ex.m.live C id q c.hC} q)
  ⟨o4,⟨.refl,rfl⟩,SX,λb U=>fp b U,s.KZ.up _ _ (u3.trans .hz) s.val⟩ (n.dl.elim λi e=>.of i #[] e .nil) w
 have fin:codeN (model k.prog k.w) F.A (.compLoop (.ListComp elt [⟨tg,iter,ifs,0⟩] sc pos) 0 (.ref I.it) (.ref D)<|compEnvC sc cl C F.env) (λr s'=>match r with|.ok f=>compPost (model k.prog k.w) F.A (λz z=>False) use K (.ref D) C (.ok f) s'|.error _=>False) s3:=po fin λres s' q=>by
  rcases res with _|f;.exact q
  .rcases use with _|_<;>exact q
 exact g0 fin<|s.KZ.self 0 s3 _ SX fin
end
end
def m8:∀{x y:List V},(uX x y).length=min x.length y.length:=by
 intro x
 induction x with
 |nil=>intro y;rw[List.length_nil,Nat.zero_min];rcases y<;>rfl
 |cons a x i=>
  intro y;rcases y with _|⟨b,y⟩;.exact(Nat.min_zero _).symm
  .exact(cg (·+1) i).trans (Nat.succ_min_succ ..).symm
def HC{j:Nat}:∀{x y:List V},(uX x y)[j]?=some v->∃a b,x[j]?=some a/\y[j]?=some b/\v=.tup [a,b]:=by
 induction j with
 |zero=>
  intro x y h;rcases x with _|⟨a,x⟩;.rcases y<;>injection h
  .rcases y with _|⟨b,y⟩;.injection h
   .exact⟨a,b,rfl,rfl,(dR h).symm⟩
 |succ j i=>
  intro x y h;rcases x with _|⟨a,x⟩;.rcases y<;>injection h
  .rcases y with _|⟨b,y⟩;.injection h
   .exact i (x:=x) (y:=y) h
section
variable{k:Cx}{d:Nat}{F:Fr}{L:Loc}{σ:Sg}{A:Around}
def RV.pair(r:SR k σ)(z:RV σ x vx)(Y:RV σ y vy)(u:Up σ<|σ.w s')(h:IsT s'.heap σ.s.heap.objs.size #[vx,vy] 0):RV (σ.w s') (.tup [x,y]) (.ref σ.s.heap.objs.size):=
 .tt (l:=[x,y]) (show 2<=sizeLine by decide) (r.fN<|bj _) h (.cons (z.on u)<|.one<|Y.on u)
def IsT.at{l:List V}{items:Array Value}(s:aN σ l items.toList){j:Nat}{v:V}(h:l[j]?=some v):∃x,items[j]?=some x/\RV σ v x:=(s.get h).imp λx q=>⟨p8.symm.trans q.1,q.2⟩
def SY(z TI TO I y l m:Addr)(xs ys:Array Value)(i:Nat)(h:Heap):Prop:=
 IsZip h z TI TO .none/\IsPair h TI (.ref I) (.ref y)/\(∃a b,IsPair h TO a b)/\h.IsListIter I l i/\h.IsListIter y m i/\h.IsList l xs/\h.IsList m ys
abbrev SZ(z TI TO i I l m:Addr)(xs ys:Array Value)(J b:List V):IT:=⟨z,[z,TI,TO,i,I,l,m],[z,TO,i,I],uX J b,false,λσ=>aN σ J xs.toList/\aN σ b ys.toList,SY z TI TO i I l m xs ys⟩
def Oh{a b c d x:Addr}(h:x∈[a,b,c,d]):x=a\/x=b\/x=c\/x=d:=(lq.1 h).imp_right λh=>(lq.1 h).imp_right λh=>(lq.1 h).imp_right ke
def Oi{a b c d x:Addr}(h:x∉[a,b,c,d]):x≠a/\x≠b/\x≠c/\x≠d:=⟨λe=>h<|e▸.head _,λe=>h<|e▸.tail _ (.head _),λe=>h<|e▸.tail _ (.tail _<|.head _),λe=>h<|e▸.tail _ (.tail _<|.tail _<|.head _)⟩
def Lc(f:A.handled=none){z TI TO i I l m:Addr}(D:ZipApart z TI TO i I l m){xs ys:Array Value}{J U:List V}(hx:xs.size=J.length)(hy:ys.size=U.length):CP k A (SZ z TI TO i I l m xs ys J U) where
 sub:=(WalksT.zip2 (prog:=k.prog) (w:=k.w) f z TI TO i I l m D xs ys).sub
 frame:=(WalksT.zip2 (prog:=k.prog) (w:=k.w) f z TI TO i I l m D xs ys).frame
 up:=λσ σ' u h=>⟨h.1.on u,h.2.on u⟩
 done:=λs Q st H=>(WalksT.zip2 (prog:=k.prog) (w:=k.w) f z TI TO i I l m D xs ys).done s Q _ ((hx▸hy▸m8:(uX J U).length=min xs.size ys.size)▸st) H
 self:=λj s Q st H=>(WalksT.zip2 (prog:=k.prog) (w:=k.w) f z TI TO i I l m D xs ys).self j s Q _ st H
 own:=nofun
 live:=λj h st b T=>by refine bC λO=>?_;obtain⟨hz,N,⟨a,b',M⟩,⟨o1,e1,_⟩,⟨o2,e2,_⟩,_⟩:=st;exact O<|(Oh T).elim (λe=>e▸aw hz) λh=>h.elim (λe=>e▸aw M) λh=>h.elim (λe=>e▸aw e1) λe=>e▸aw e2
 item:=λtg j v σ Q R hv st ht r vl hR H=>by
  refine bC λO=>?_;obtain⟨va,vb,ha,T,rfl⟩:=HC hv;obtain⟨x,ex,rx⟩:=IsT.at vl.1 ha;obtain⟨y,ey,ry⟩:=IsT.at vl.2 T;obtain⟨hz,N,⟨a,b,M⟩,h1,h2,EX,MM⟩:=st;refine O<|f0 (C:=λtg=>(∀y s,wpAny (model k.prog k.w) A (letOwnedTupleGo tg (.ref z) y) (λzz s=>Q y s) (λzz zz=>False) s->R (some y) s)->_) ht (λes k0 p zz hR=>?_) hR;refine wpAny_pyNext_zip_item D hz N M h1 h2 EX MM ex ey λh' a1 a2 a3 a4 a5 a6 Y=>hR _ _<|wpAny_letOwnedTupleGo_zip a1 λNM Kl G=>?_
  refine H _ NM σ.s.toks (λu=>.pair r rx ry u<|(G.2 _<|Nat.ne_of_gt<|p9 hz).trans a5) ⟨Kl,G.extBut _ _ D.TIz<|Y _ _ D.TIz D.TITO D.TIi1 D.TIi2 N,⟨_,_,G.extBut _ _ D.TOz a2⟩,a3.extBut G.extBut D.i1z,a4.extBut G.extBut D.i2z,
   (EX.at λo e=>Y _ o D.l1z D.l1TO D.l1i1 D.l1i2 e).extBut G.extBut D.l1z,(MM.at λo e=>Y _ o D.l2z D.l2TO D.l2i1 D.l2i2 e).extBut G.extBut D.l2z⟩ λc o hc e=>?_;have n:=Oi hc;exact G.extBut _ _ n.1<|Y c o n.1 n.2.1 n.2.2.1 n.2.2.2 e
def iU{n i j:Nat}(h:i≠j):n+i≠n+j:=λe=>h<|Nat.add_left_cancel e
def wF(h:l<n)(i:Nat):l≠n+i:=q0<|ri h<|ql ..
def EY{n l l2:Nat}(H:l<n)(z:l2<n):ZipApart (n+4) (n+2) (n+3) n (n+1) l l2:=
 ⟨iU nofun,iU nofun,iU (i:=0) nofun,iU nofun,iU nofun,iU (j:=0) nofun,iU nofun,iU (j:=0) nofun,iU nofun,iU (i:=0) nofun,wF H 4,wF H 3,wF H 0,wF H 1,wF z 4,wF z 3,wF z 0,wF z 1⟩
def wH(ha:aG k d a)(hb:aG k d b):nY k d (.zip a b):=λF L σ x Q K h o w kk=>jb h λp as ps hg h=>vq h λY u h=>co h λc z h1 h2=>by
 have c:=dK c;have z:=dK z;obtain⟨mg,mb,n1,n2,n3,n4,n5,n6,n7⟩:=o.sr.base.ns;have s:=n7 ("zip",.type "zip")<|.tail _<|.head _;have U:∀x∈[Y,u],isStar x=false:=λx hx=>(lq.1 hx).elim (λe=>e▸c) λh=>dt.1 h▸z;refine bc<|I9 o.fr.kind (c6 hg) (Calls.loadGlobal_builtin (o.fr.glob▸o.sr.ez n1) s.1 (o.fr.blt▸o.sr.ez n2) s.2 ?_)<|by decide+kernel
 refine aW (P:=λj=>True) (keywords:=[]) (by rw[bO U];rfl) (λh hh=>⟨.machine,.inr<|.inl rfl,Looks.of_pure rfl⟩)
  (ck U<|bh (ha F L σ Y _ _ h1 o w λv σ1 y i r1 w=>rt w λla e w=>?_)<|bA c _ _);obtain rfl:=d3 e;refine bh (hb F L σ1 u _ _ h2 (o.on i) w λv I Q8 T r2 w=>rt w λlb e w=>bM ⟨trivial,?_⟩)<|bA z _ _;obtain rfl:=d3 e;refine(r1.on T.up).jQ (C:=λy=>WN k F.A (PySem.call (.type "zip") [y,Q8]) K I.s) λl m1 O U7 U8 f J=>r2.jQ (C:=λy=>WN k F.A (PySem.call (.type "zip") [.ref l,y]) K I.s) λl2 m2 N V7 U9 G M=>al<|call_zip_2 (lp (n:=m1) f) (lp (n:=m2) G) λh' b1 b2 b3 b4 b5 b6 H=>?_;have PH:@LT.lt Nat _ l I.s.heap.objs.size:=p9 f;have PI:@LT.lt Nat _ l2 I.s.heap.objs.size:=p9 G;have fresh:∀k,I.h (I.s.heap.objs.size+k)=none:=λk=>Ep<|ql _ _;refine kk _ none I {I.s with heap:=h'} _ (i.trans T) (λQ' hq=>?_) .none (m8▸c0 (Nat.min_le_left ..) U7) w;generalize hn:I.s.heap.objs.size=n at*;have D:ZipApart (n+4) (n+2) (n+3) n (n+1) l l2:=EY PH PI;have S0:SY (n+4) (n+2) (n+3) n (n+1) l l2 O N 0 h':=⟨b1,b2,⟨_,_,b3⟩,b4,b5,(lp (n:=m1) f).at λo e=>H _ o e,(lp (n:=m2) G).at λo e=>H _ o e⟩;have W:=Lc (k:=k) o.rm.2.2 D J.size M.size;refine W.self 0 {I.s with heap:=h'} _ S0<|hq {I.s with heap:=h'} (SZ (n+4) (n+2) (n+3) n (n+1) l l2 O N la lb) rfl rfl ⟨W,S0,?_,H,⟨rfl,rfl,rfl⟩,?_,J,M⟩;.exactλb m=>(Oh m).elim (λe=>e▸fresh 4) λh=>h.elim (λe=>e▸fresh 3) λh=>h.elim (λe=>e▸fresh 0) λe=>e▸fresh 1
 .exact List.forall_mem_cons.2 ⟨.inl ⟨fresh 4,aw b1⟩,List.forall_mem_cons.2 ⟨.inl ⟨fresh 2,aw b2⟩,List.forall_mem_cons.2 ⟨.inl ⟨fresh 3,aw b3⟩,List.forall_mem_cons.2 ⟨.inl ⟨fresh 0,b4.elim λj e=>aw e.1⟩,
   List.forall_mem_cons.2 ⟨.inl ⟨fresh 1,b5.elim λj e=>aw e.1⟩,List.forall_mem_cons.2 ⟨.inr<|.inl ⟨U8,_,_,_,f,rfl⟩,List.forall_mem_cons.2 ⟨.inr<|.inl ⟨U9,_,_,_,G,rfl⟩,nofun⟩⟩⟩⟩⟩⟩⟩
end
section
set_option maxRecDepth 100000
section
variable{prog:Program}{w:World}{A:Around}{E:Value->Shared->Prop}{s:Shared}
def y5(I:KBw.IsBytesIter s.heap it b t i)(k:b[i]?=some c)
 (z:∀H,KBw.IsBytesIter H it b t (i+1)->Heap.SameBut it s.heap H->Q (.int (c.toNat:Int) s.toks) {s with heap:=H,toks:=s.toks+1}):
 wpAny (model prog w) A (Builtin.SmallTypes.nextOf<|.ref it) Q E s:=by
 refine bC λG=>?_;obtain⟨o,J,y,D⟩:=id I;refine G ?_;unfold Builtin.SmallTypes.nextOf
 refine da (wpAny_callSpecial?_slot (name:=Str.ofString "__next__") (KBw.iter_typeIs I) KBw.slot_next
  (x3 KBw.slot_next (KBw.iter_typeIs I) KBw.entry_next ?_<|KBw.args_next _));show wpAny _ _ (field (.ref it) 0>>=_) _ _ s;refine da<|wpAny_field J D (x:=.bytes b t) rfl ?_;show wpAny _ _ (if(Value.bytes b t==Value.none)=true then _ else _) _ _ s;refine lC nI ?_;show wpAny _ _ (field (.ref it) 1>>=_) _ _ s;refine da<|wpAny_field J D (x:=.int i 0) rfl (da<|m5 (a:=b) rfl ?_)
 rw[show b[(i:Int).toNat]?=some c from k]
 exact da<|wpAny_setField J D (by simp)<|da<|wpAny_mkInt<|e5 ⟨_,rfl,e5<|z _ ⟨_,Heap.get?_update_self _ J<|Obj.isFreed_of_fields<|Obj.data_mapFields D _,(Obj.cls_mapFields ..).trans y,Obj.data_mapFields D _⟩<|Cp ..⟩
def B1(z:A.handled=none)(I:KBw.IsBytesIter s.heap it b t i)(k:b[i]?=none)
 (y:∀H e,Heap.ExtBut it s.heap H->(∃o,H.get? e=some o/\o.cls=.type "StopIteration")->E (.ref e) {s with heap:=H}):
 wpAny (model prog w) A (Builtin.SmallTypes.nextOf<|.ref it) Q E s:=by
 refine bC λG=>?_;obtain⟨o,J,c,D⟩:=id I;refine G ?_;unfold Builtin.SmallTypes.nextOf
 refine da (wpAny_callSpecial?_slot (name:=Str.ofString "__next__") (KBw.iter_typeIs I) KBw.slot_next
  (x3 KBw.slot_next (KBw.iter_typeIs I) KBw.entry_next ?_<|KBw.args_next _));show wpAny _ _ (field (.ref it) 0>>=_) _ _ s;refine da<|wpAny_field J D (x:=.bytes b t) rfl ?_;show wpAny _ _ (if(Value.bytes b t==Value.none)=true then _ else _) _ _ s;refine lC nI ?_;show wpAny _ _ (field (.ref it) 1>>=_) _ _ s;refine da<|wpAny_field J D (x:=.int i 0) rfl (da<|m5 (a:=b) rfl ?_)
 rw[show b[(i:Int).toNat]?=none from k]
 exact da<|wpAny_rule<|da<|wpAny_setField J D (by simp)<|wb (A:=A.in1) z λO u l f=>y _ _ (((Cp ..).extBut.push _).push _) ⟨_,hW _ f,l⟩
def EZ(y:A.handled=none)(I:Addr)(b:Array UInt8)(t:Tok):Draws prog w A I [I] b.size (λi v=>∃c u,b[i]?=some c/\v=.int (c.toNat:Int) u) (λi h=>KBw.IsBytesIter h I b t i) where
 live:=λi h st=>⟨_,st.choose_spec.1⟩
 frame:=λi h H st k=>let⟨o,ho,r⟩:=st;⟨o,k I (.head _) o ho,r⟩
 item:=λi s Q E z st x=>y5 st (c:=b[i]) (Array.getElem?_eq_getElem z) λH a p=>x _ H _ ⟨_,_,Array.getElem?_eq_getElem z,rfl⟩ a p
 done:=λs Q E st e=>B1 y st (Array.getElem?_eq_none<|i1 _) e
def Ld{M:Model}{A:Around}{f:List (PySem.Code×Pos)->Bool}{Q:Bool->Shared->Prop}{E:Value->Shared->Prop}{s:Shared}(h:∀b,Q b s):wpAny M A stack (λst s1=>wpAny M A (pure<|f st) Q E s1) E s:=wpAny_stack_any λst=>e5<|h _
set_option maxHeartbeats 1000000 in
def wI(b:Array UInt8)(t:Tok):
 Meets (Builtin.«enumerate.__new__» ⟨[.type "enumerate",.bytes b t],[]⟩) (λ_ R s=>
  R (.ok (.ret (.ref (s.heap.push {cls:=.type "bytes_iterator",data:=.fields #[.bytes b t,.int 0 0]}).objs.size)))
    {s with heap:=(s.heap.push {cls:=.type "bytes_iterator",data:=.fields #[.bytes b t,.int 0 0]}).push {cls:=.type "enumerate",data:=.fields #[.none,.bool false,.ref s.heap.objs.size,rawInt 0,.none,.none]} }):=
 .of_wp λprog w A R s h=>by obtain⟨H,g,d,tk,os⟩:=s;have k:=sub_enumerate;wp_walk;refine Ld λb=>?_;cases b<;>(wp_walk using KBw.pyIter_bytes;exact⟨_,rfl,h⟩)
def y6
 (h:∀H,IsEnum H (s.heap.objs.size+1) s.heap.objs.size 0 .none->KBw.IsBytesIter H s.heap.objs.size b t 0->(∀b o,s.heap.get? b=some o->H.get? b=some o)->Q (.ref<|s.heap.objs.size+1) {s with heap:=H}):
 wpAny (model prog w) A (PySem.call (.type "enumerate") [.bytes b t]) Q E s:=by
 refine callType_new F.called_enumerate (by decide) (F.typeCall_enumerate_1 _) (F.newCall_enumerate_1 _) (λj=>F.args_object_init_2 j _) F.entry_enumerate_new (wI b t) ?_
 have hz:(s.heap.push {cls:=.type "bytes_iterator",data:=.fields #[.bytes b t,.int 0 0]}).objs.size=s.heap.objs.size+1:=Heap.size_push ..
 show _/\_
 have u:=hW (s.heap.push {cls:=.type "bytes_iterator",data:=.fields #[.bytes b t,.int 0 0]}) (o:={cls:=.type "enumerate",data:=.fields #[.none,.bool false,.ref s.heap.objs.size,rawInt 0,.none,.none]}) rfl
 rw[hz]at u⊢
 exact⟨⟨_,u,rfl⟩,h _ u ⟨_,fz _<|hW _ rfl,rfl,rfl⟩ λb o x=>fz _<|fz _ x⟩
end
def ki:∀{n:Nat} {l:List V},(mD n l).length=l.length:=by
 intro n l
 induction l generalizing n with|nil=>rfl|cons v r i=>exact cg (·+1) i
def E0:∀{n j:Nat} {v:V},(mD n l)[j]?=some v->∃a,l[j]?=some a/\v=.tup [.int ((n+j:Nat):Int),a]:=by
 induction l with
 |nil=>exactλh=>nomatch h|cons u r I=>
  intro n j v h;rcases j with _|j;.exact⟨u,rfl,(dR h).symm⟩
  .obtain⟨a,H,z⟩:=I (n:=n+1) (j:=j) h;exact⟨a,H,z.trans<|cg (λi:Nat=>V.tup [.int i,a])<|Nat.succ_add_eq_add_succ n j⟩
section
variable{k:Cx}{d:Nat}{F:Fr}{L:Loc}{σ:Sg}{A:Around}
abbrev S1(e I:Addr)(l:List UInt8)(t:Tok):IT:=⟨e,[e,I],[e,I],mD 0<|l.map λc=>V.int c.toNat,false,λ_=>True,λi h=>(∃O,IsEnum h e I (i:Nat) O)/\KBw.IsBytesIter h I l.toArray t i⟩
def Le{a b x:Addr}(h:x∈[a,b]):x=a\/x=b:=(lq.1 h).imp_right ke
def HD(Y:A.handled=none)(O:e≠it)(l:List UInt8)(t:Tok):CP k A (S1 e it l t):=by
 have W:=WalksT.enumerateD (prog:=k.prog) (w:=k.w) (EZ (A:=A.in1) Y it l.toArray t) e O (λq=>O<|dt.mp q)<|.head _;have N:(mD 0<|l.map λc=>V.int c.toNat).length=l.toArray.size:=ki.trans<|(a9 ..).trans mF.symm;refine{sub:=λb z=>z,frame:=W.frame,up:=λ_ _ _ h=>h,own:=nofun,done:=λs Q st H=>W.done s Q _ (N▸st) H,self:=λj s Q st H=>W.self j s Q _ st H,live:=λj h st c m=>?_,item:=λtg j v σ Q R U st ht r vl i H=>?_}
 .refine bC λG=>?_;obtain⟨a,J,rfl⟩:=E0 U;obtain⟨c,m,rfl⟩:=y2.1<|(qa ..).symm.trans J;obtain⟨⟨D,T⟩,I⟩:=st;refine G<|f0 (C:=λtg=>(∀y s,wpAny (model k.prog k.w) A (letOwnedTupleGo tg (.ref e) y) (λ_ s=>Q y s) (λ_ _=>False) s->R (some y) s)->_) ht (λes k0 p _ i=>?_) i;refine wpAny_pyNext_enum_itemD (EZ (A:=A.in1) Y it l.toArray t) T I (N▸(f5.1 U).1) O (λq=>O<|ke q) λx h' tk hP ho gB hT hsz hk=>i _ _<|wpAny_letOwnedTupleGo_enum ho λh2 Va f=>bC λG=>?_;obtain⟨c',u,CM,rfl⟩:=hP;obtain rfl:=dR<|(List.getElem?_toArray.symm.trans CM).symm.trans m;refine G<|H _ h2 (tk+1) (λu=>.pair r .ii .ii u<|(f.2 _<|Nat.ne_of_gt<|p9 T).trans<|by rw[Dp];exact hT) ⟨⟨_,Va⟩,gB.imp λo q=>⟨(f.2 _<|Dq O).trans q.1,q.2⟩⟩ λb o z y=>?_;have M:b≠e:=λq=>z<|q▸.head _;exact(f.2 b M).trans<|hk b o M (λq=>z<|q▸.tail _ (.head _)) y
 .obtain⟨⟨D,e1⟩,o,e2,_⟩:=st;exact(Le m).elim (λq=>q▸aw e1) λq=>q▸aw e2
def sq(s:aG k d a):nY k d (.enum a):=λF L σ x Q K h o w j=>jb h λp as ps G h=>rg h λY h=>aI h λc f=>by
 have c:=dK c;obtain⟨mg,mb,N,T,n3,n4,n5,n6,O⟩:=o.sr.base.ns;have u:=O ("enumerate",.type "enumerate")<|.tail _<|.tail _<|.head _;have U:∀x∈[Y],isStar x=false:=λx M=>dt.1 M▸c;refine bc<|I9 o.fr.kind (c6 G) (Calls.loadGlobal_builtin (o.fr.glob▸o.sr.ez N) u.1 (o.fr.blt▸o.sr.ez T) u.2 ?_)<|by decide+kernel
 refine aW (P:=λ_=>True) (keywords:=[]) (by rw[bO U];rfl) (λh hh=>⟨.machine,.inr<|.inl rfl,Looks.of_pure rfl⟩)
  (ck U<|bh (s F L σ Y _ _ f o w λv i val J I w=>bM ⟨trivial,?_⟩)<|bA c _ _);refine I.iP w λl t D w=>al<|y6 λH z y hk=>?_;have fC:@Ne Nat (i.s.heap.objs.size+1) i.s.heap.objs.size:=Nat.succ_ne_self _;have fresh:∀k,i.h (i.s.heap.objs.size+k)=none:=λk=>Ep<|ql _ _;refine j _ none i {i.s with heap:=H} _ J (λQ' hq=>?_) .none ((ki.trans<|a9 ..).symm▸D) w;have W:=HD (k:=k) o.rm.2.2 fC l t;exact W.self 0 {i.s with heap:=H} _ ⟨⟨_,z⟩,y⟩<|hq {i.s with heap:=H} (S1 (i.s.heap.objs.size+1) i.s.heap.objs.size l t) rfl rfl ⟨W,⟨⟨_,z⟩,y⟩,λb m=>(Le m).elim (λe=>e▸fresh 1) λe=>e▸fresh 0,hk,⟨rfl,rfl,rfl⟩,λb m=>.inl<|(Le m).elim (λe=>e▸⟨fresh 1,aw z⟩) λe=>e▸⟨fresh 0,y.elim λ_ e=>aw e.1⟩,trivial⟩
end
end
noncomputable def lU{α:Type}(n:Nat)(r:Nat->Nat):KasT α->(α->Prop)->Prop
 |.ret a,P=>P a|.ask i j k,P=>i<n/\j<n/\lU n r (k<|decide (r i<r j)) P
theorem lU.bind{n:Nat}{r:Nat->Nat}{f:α->KasT β}{P:β->Prop}:lU n r t (λa=>lU n r (f a) P)->lU n r (t.bind f) P:=by
 induction t with|ret a=>exact id|ask i j k I=>exactλx=>⟨x.1,x.2.1,I _ x.2.2⟩
def lU.mono{n:Nat}{r:Nat->Nat}{P P':α->Prop}(h:∀a,P a->P' a):lU n r t P->lU n r t P':=by
 induction t with|ret a=>exact h a|ask i j k I=>exactλx=>⟨x.1,x.2.1,I _ x.2.2⟩
def lU.wp{α:Type}{n:Nat}{r:Nat->Nat}{c:Nat->Nat->(Bool->Shared->Prop)->Shared->Prop}{I:Shared->Prop}{P:α->Prop}{Q:α->Shared->Prop}{t:KasT α}
 (y:∀i j C s,i<n->j<n->I s->(∀s',I s'->C (decide (r i<r j)) s')->c i j C s) (z:∀a s,P a->I s->Q a s):∀{s:Shared},lU n r t P->I s->t.kasWp c Q s:=by
 induction t with|ret a=>exactλx H=>z a _ x H|ask i j k u=>exactλx H=>y i j _ _ x.1 x.2.1 H λs' b=>u _ x.2.2 b
def qK(f:Nat->Nat)(k:Nat):Prop:=∀i,i+1<k->f i<=f (i+1)
def x8(f:Nat->Nat)(k:Nat):Prop:=∀i,i+1<k->f (i+1)<=f i
section
variable{f f':Nat->Nat}{m k:Nat}
def qK.snoc(h:qK f<|m+1)(q:f m<=f (m+1)):qK f (m+2):=λi H=>(Nat.lt_or_eq_of_le<|sN H).elim (h i) λe=>Nat.succ.inj e▸q
def x8.snoc(h:x8 f<|m+1)(q:f (m+1)<=f m):x8 f (m+2):=λi H=>(Nat.lt_or_eq_of_le<|sN H).elim (h i) λe=>Nat.succ.inj e▸q
def qK.one:qK f 1:=λi H=>absurd (Nat.lt_of_succ_lt_succ H)<|Nat.not_lt_zero i
def x8.one:x8 f 1:=λi H=>absurd (Nat.lt_of_succ_lt_succ H)<|Nat.not_lt_zero i
def qK.le(h:qK f k){i j:Nat}(J:i<=j):j<k->f i<=f j:=by
 induction J with|refl=>exactλz=>i1 _|step _ I=>exactλH=>c0 (I<|Nat.lt_of_succ_lt H)<|h _ H
def x8.congr(h:x8 f k)(e:∀i,f' i=f i):x8 f' k:=λi H=>e i▸e (i+1)▸h i H
end
section
variable{n:Nat}{r:Nat->Nat}{p:Array Nat}
noncomputable def ky(r:Nat->Nat)(p:Array Nat)(i:Nat):Nat:=r<|p.getD i 0
def dv(n:Nat)(p:Array Nat):Prop:=p.Perm (List.range n).toArray
theorem dv.size(h:dv n p):p.size=n:=h.size_eq.trans<|mF.trans List.length_range
def getD_eq(p:Array Nat)(i:Nat):p.getD i 0=(p[i]?).getD 0:=Array.getD_eq_getD_getElem? ..
def dv.lt(h:dv n p)(H:0<n)(i:Nat):p.getD i 0<n:=by
 rw[getD_eq]
 rcases e:p[i]? with _|a
 .exact H
 .exact Dw.1<|(Array.perm_iff_toList_perm.1 h).mem_iff.1<|nf<|p8.trans e
def y7(H:b<=p.size)(k:Nat):ky r (kas_rev p a b) k=if a<=k/\k<b then ky r p (a+b-1-k)else ky r p k:=by
 unfold ky kas_rev;rw[getD_eq,getElem?_mirror_all H,getD_eq,getD_eq];by_cases c:a<=k/\k<b;.rw[er c,er c]
 .rw[ej c,ej c]
section
variable{k l i:Nat}
def y8(y:k<p.size)(H:l<=k):(bubble p k<|k-l)[i]?=if i=l then p[k]? else if l<i/\i<=k then p[i-1]? else p[i]?:=(getElem?_bubble y _ (vC ..) i).trans<|by rw[Nat.sub_sub_self H]
def E1{i j:Nat}(h:q[i]?=p[j]?):ky r q i=ky r p j:=cg r<|(getD_eq ..).trans<|(cg (·.getD 0) h).trans (getD_eq ..).symm
def y9(y:k<p.size)(H:l<=k)(h:i<l):ky r (bubble p k<|k-l) i=ky r p i:=E1<|(y8 y H).trans<|(ej<|q0 h).trans<|ej λq=>Nat.lt_asymm q.1 h
def E2(y:k<p.size)(H:l<=k):ky r (bubble p k<|k-l) l=ky r p k:=E1<|(y8 y H).trans<|er rfl
def E3(y:k<p.size)(H:l<=k)(h:l<i+1)(z:i+1<=k):ky r (bubble p k<|k-l) (i+1)=ky r p i:=E1<|(y8 y H).trans<|(ej<|Nat.ne_of_gt h).trans<|er ⟨h,z⟩
end
def dv.rev(h:dv n p)(a b:Nat):dv n (kas_rev p a b):=(mirror_perm _ _ _ _).trans h
def dv.Vb(h:dv n p)(a b:Nat):dv n (bubble p a b):=(bubble_perm _ _ _).trans h
def lU.q{i j:Nat}{k:Bool->KasT α}{P:α->Prop}(h:dv n p)(H:0<n)(z:ky r p i<ky r p j->lU n r (k true) P)(y:ky r p j<=ky r p i->lU n r (k false) P):lU n r (.ask (p.getD i 0) (p.getD j 0) k) P:=by
 refine⟨h.lt H _,h.lt H _,?_⟩;by_cases c:r (p.getD i 0)<r (p.getD j 0);.rw[eb c];exact z c
 .rw[fo c];exact y<|pg c
def E4(h:dv n p)(N:0<n)(f:Nat):∀m,m+1+f=n->qK (ky r p) (m+1)->lU n r (kas_asc p f<|m+1) (λq=>∃Q,q=Q+1/\q<=n/\qK (ky r p) q/\(q=n\/ky r p (Q+1)<ky r p Q)):=by
 induction f with|zero=>exactλm e H=>⟨m,rfl,rn e,H,.inl e⟩|succ f i=>exactλm e H=>.q h N (λc=>⟨m,rfl,e▸ql _ _,H,.inr c⟩) λc=>i (m+1) ((Nat.succ_add_eq_add_succ (m+1) f).trans e)<|H.snoc c
def Lf{m i:Nat}(hz:m+1<=p.size)(H:i<=m):ky r (kas_rev p 0<|m+1) i=ky r p (m-i):=by rw[y7 hz,er ⟨js _,Nat.lt_succ_of_le H⟩,Dp];rfl
def HE{m:Nat}(hz:m+1<=p.size)(D:x8 (ky r p)<|m+1):qK (ky r<|kas_rev p 0<|m+1) (m+1):=λi H=>by have H:i+1<=m:=sN H;rw[Lf hz<|rh H,Lf hz H,show m-i=m-(i+1)+1 from(Nat.succ_sub_succ m i).symm.trans<|Nat.succ_sub H];exact D _<|Nat.succ_lt_succ<|Nat.sub_lt (ri (HX i) H)<|HX i
def PJ(n:Nat)(r:Nat->Nat)(q:Nat×Array Nat):Prop:=∃Q,q.1=Q+1/\q.1<=n/\dv n q.2/\qK (ky r q.2) q.1
def wJ(h:dv n p)(H:0<n){m:Nat}(z:m+1<=n)(D:x8 (ky r p)<|m+1):lU n r (kas_tail3 (m+1) n p) (PJ n r):=
 .bind ((E4 (h.rev 0<|m+1) H (n-(m+1)) m (Nat.add_sub_cancel' z)<|HE (h.size▸z) D).mono λq T=>by obtain⟨Q,e,y,x,_⟩:=T;exact⟨Q,e,y,h.rev 0<|m+1,x⟩)
def Run(f:Nat->Nat)(m q:Nat):Prop:=∀i,m-q<=i->i<=m->f i=f m
def Run.rev{m q:Nat}(hz:m+1<=p.size)(H:Run (ky r p) m q)(k:Nat):ky r (kas_rev p (m+1-(q+1))<|m+1) k=ky r p k:=by
 rw[y7 hz,Nat.add_sub_add_right];by_cases c:m-q<=k/\k<m+1
 .have y:=sN c.2;rw[er c,H k c.1 y];exact H _ (Nat.le_sub_of_add_le<|ih y _)<|Nat.sub_le_iff_le_add.2<|(Nat.add_comm m k)▸He c.1 m
 .exact ej c
def HF(N:0<n)(f:Nat):∀(p:Array Nat) (m q:Nat),dv n p->m+1+f=n->x8 (ky r p) (m+1)->Run (ky r p) m q->lU n r (kas_desc f p (m+1) q) (λx=>∃l,x.2.1=l+1/\dv n x.1/\l+1<=n/\x8 (ky r x.1) (l+1)/\Run (ky r x.1) l x.2.2):=by
 induction f with
 |zero=>exactλp m q h e D H=>⟨m,rfl,h,rn e,D,H⟩|succ f I=>
  intro p m q h e D H;have u:m+1+1+f=n:=(Nat.succ_add_eq_add_succ (m+1) f).trans e;have hz:m+1<=p.size:=h.size▸e▸ql _ _;have y:∀{g:Nat->Nat},Run g (m+1) 0:=λi z h2=>cg _<|i3 h2 z;refine .q h N (λc=>?_) λc=>.q h N (λj=>⟨m,rfl,h,e▸ql _ _,D,H⟩) λs=>I p (m+1) (q+1) h u (D.snoc s) λi z h2=>?_
  .have O:=D.snoc<|rh c;show lU n r (if q>0 then _ else _) _;by_cases k:q>0;.rw[er k];exact I _ (m+1) 0 (h.rev _ _) u (O.congr<|H.rev hz) y
   .rw[ej k];exact I _ (m+1) 0 h u O y
  .rcases Nat.lt_or_eq_of_le h2 with h2|h2;.exact(H i (Nat.add_sub_add_right m 1 q▸z)<|sN h2).trans<|i3 c s
   .exact cg _ h2
def m9(h:dv n p)(H:0<n){m:Nat}(z:m+1<=n)(D:x8 (ky r p)<|m+1):lU n r (kas_descPart m n p) (PJ n r):=by
 refine .bind<|(HF H (n-(m+1)) p m 0 h (Nat.add_sub_cancel' z) D λi y z=>cg _<|i3 z y).mono λx ⟨l,e,a,U,u,A⟩=>?_;obtain⟨s,k,q⟩:=x;obtain rfl:=(e:k=l+1);show lU n r (if q>0 then _ else _) _;by_cases c:q>0;.rw[er c];exact wJ (a.rev _ _) H U<|u.congr<|A.rev<|a.size▸U
 .rw[ej c];exact wJ a H U u
def E5(h:dv n p)(N:0<n):lU n r (kas_count n p) (PJ n r):=by
 refine .bind<|(E4 h N (n-1) 0 (Nat.add_sub_cancel' N) .one).mono λq ⟨m,e,y,b,x⟩=>?_;subst e;have done:PJ n r (m+1,p):=⟨m,rfl,y,h,b⟩;have hz:m+1<=p.size:=h.size▸y;by_cases z:m+1=n;.rw[er<|beq_iff_eq.2 z];exact done
 .rw[ej λq=>z<|beq_iff_eq.1 q];have s:m+2<=n:=Nat.lt_of_le_of_ne y z;by_cases u:m+1>1
  .rw[er u];refine .q h N (λl=>done) λc=>m9 (h.rev _ _) N s ?_;have all:∀i,i<=m->ky r p i=ky r p m:=λi H=>i3 (b.le H<|yb m)<|c0 c<|b.le (js i)<|Nat.lt_succ_of_le H
   have eq:∀i,ky r (kas_rev p 0<|m+1) i=ky r p i:=λi=>by
    by_cases H:i<=m;.rw[Lf hz H,all _<|vC ..,all i H]
    .rw[y7 hz,ej λc=>H<|sN c.2]
   refine x8.congr (f:=ky r p) (x8.snoc (λi H=>rn ?_)<|rh<|x.resolve_left z) eq;rw[all i<|rh<|Nat.lt_of_succ_lt_succ H,all (i+1)<|sN H]
  .rw[ej u];obtain rfl:m=0:=Nat.eq_zero_of_not_pos λq=>u<|Nat.succ_lt_succ q;exact m9 h N s<|x8.one.snoc<|rh<|x.resolve_left z
def E6(h:dv n p)(N:0<n){k:Nat}(A:qK (ky r p) k)(f:Nat):∀(a b:Nat),b<=k->b<=a+f->(∀i,i<a->ky r p i<=ky r p k)->(∀i,b<=i->i<k->ky r p k<ky r p i)->
 a<=b->lU n r (kas_place p k f a b) (λl=>l<=k/\(∀i,i<l->ky r p i<=ky r p k)/\(∀i,l<=i->i<k->ky r p k<ky r p i)):=by
 induction f with
 |zero=>exactλa b z T lo H x=>⟨c0 x z,lo,λi q=>H i<|c0 T q⟩|succ f I=>
  intro a b z T lo H x;show lU n r (if a≥b then _ else _) _;by_cases c:b<=a;.rw[er c];exact⟨c0 x z,lo,λi q=>H i<|c0 c q⟩
  .rw[ej c];have c:=Nat.lt_of_not_le c;have m1:a<=(a+b)/2:=(Nat.le_div_iff_mul_le<|HX 1).2<|by rw[Nat.mul_two];exact ih x a
   have m2:(a+b)/2<b:=(Nat.div_lt_iff_lt_mul<|HX 1).2<|by rw[Nat.mul_two];exact Nat.add_lt_add_right c b
   refine .q h N (λq=>I a _ (c0 (rh m2) z) (sN<|ri m2 T) lo (λi m y=>ri q<|A.le m y) m1)
    λq=>I _ b z (c0 T<|c0 (rn (Nat.succ_add_eq_add_succ a f).symm)<|He (ka m1) f) (λi m=>c0 (A.le (sN m)<|ri m2 z) q) H m2
def HG{k l:Nat}(y:k<p.size)(H:l<=k)(a:qK (ky r p) k)(lo:∀i,i<l->ky r p i<=ky r p k)(I:∀i,l<=i->i<k->ky r p k<ky r p i):qK (ky r<|bubble p k<|k-l) (k+1):=λi h=>by
 have h:i+1<=k:=sN h;rcases Nat.lt_trichotomy (i+1) l with c|c|c
 .rw[y9 y H<|Nat.lt_of_succ_lt c,y9 y H c];exact a i<|ri c H
 .clear a I h;subst c;rw[y9 y H<|yb i,E2 y H];exact lo i<|yb i
 .rw[E3 y H c h];rcases Nat.lt_or_eq_of_le<|sN c with d|d
  .obtain⟨j,rfl⟩:∃j,i=j+1:=⟨i-1,(Nat.succ_pred_eq_of_pos<|dS (js l) d).symm⟩;rw[E3 y H d<|rh h];exact a j h
  .clear a lo;subst d;rw[E2 y H];exact rh<|I l (i1 l) h
def Lg(N:0<n)(f:Nat):∀(p:Array Nat) (k:Nat),dv n p->k+f=n->qK (ky r p) k->lU n r (kas_bin f p k) (λq=>dv n q/\qK (ky r q) n):=by
 induction f with
 |zero=>exactλp k h e H=>⟨h,e▸H⟩|succ f I=>exactλp k h e H=>.bind ((E6 h N H k 0 k (i1 _) (Nat.le_add_left ..) (λi z=>(Nat.not_lt_zero i z).elim) (λi a b=>(Nat.not_lt.2 a b).elim)<|js _).mono λl T=>have Q:=T.1;have Y:=T.2.1;have y:=T.2.2;
   I _ (k+1) (h.Vb _ _) ((Nat.succ_add_eq_add_succ k f).trans e) (HG (h.size▸e▸Nat.lt_add_of_pos_right (HX f)) Q H Y y))
def HH(H:0<n):lU n r (kas_sort n) (λq=>dv n q/\qK (ky r q) n):=by
 refine .bind<|(E5 (p:=(List.range n).toArray) (Array.Perm.refl _) H).mono λx ⟨m,e,A,U,u⟩=>?_;obtain⟨q,p⟩:=x;obtain rfl:=(e:q=m+1);show lU n r (if m+1<n then _ else _) _;by_cases h:m+1<n
 .rw[er h];have e:max (m+1) 1=m+1:=Nat.max_eq_left<|HX m;exact Lg H _ p (max (m+1) 1) U (e.symm▸Nat.add_sub_cancel' A)<|e.symm▸u
 .rw[ej h];exact⟨U,i3 A (pg h)▸u⟩
end
section
set_option maxRecDepth 100000
section
variable{prog:Program}{w:World}{A:Around}{E:Value->Shared->Prop}{s s1 s2:Shared}{a:Addr}{vs:List Value}{n:Nat}{κ:SortKind}{r:Nat->Nat}{P:PySem.Fin->Shared->Prop}
structure dQ(s:Shared)(a:Addr)(s':Shared):Prop where
 keep:∀b o,b≠a->s.heap.get? b=some o->s'.heap.get? b=some o
 same:dX s s'
theorem dQ.trans(x:dQ s a s1)(y:dQ s1 a s2):dQ s a s2:=⟨λb o h e=>y.keep b o h<|x.keep b o h e,x.same.trans y.same⟩
def dQ.upd:dQ s a {s with heap:=s.heap.update a f}:=⟨λb o H e=>((Cp _ a f).2 b H).trans e,rfl,rfl,rfl⟩
theorem dQ.push(x:dQ s a s1):dQ s a {s1 with heap:=s1.heap.push o}:=⟨λb q H e=>fz _<|x.keep b q H e,x.same.1,x.same.2,x.same.3⟩
def CR(s:Shared)(a:Addr)(e:Nat)(s':Shared):Prop:=dQ s a s'/\s'.heap.get? a=some (seqObj "list" #[] e)
noncomputable def rF{α:Type}(d:α)(l:List α)(p:Array Nat):List α:=p.toList.map λi=>l.getD i d
def Am:rF d l (List.range l.length).toArray=l:=by
 refine List.ext_getElem? λi=>?_;rw[rF,List.toList_toArray,qa];by_cases H:i<l.length;.rw[List.getElem?_range H,Option.map_some,ui,h8 H];rfl
 .rw[List.getElem?_eq_none<|List.length_range▸pg H,List.getElem?_eq_none<|pg H];rfl
def E7{e:Nat}{out:List Value}{Q:Unit->Shared->Prop}(I:CR s a e s1)(hz:out.length<=sizeLine)(h:∀s' c,dQ s a s'->s'.heap.get? a=some (seqObj "list" out.toArray c)->Q () s'):wpAny (model prog w) A (Builtin.List.listUpdate (.ref a) λz=>out.toArray) Q E s1:=
 listUpdate_at I.2 rfl (h _ _ (I.1.trans .upd)<|get?_update_seq I.2 λz=>out.toArray) (js _) (by rw[mF];exact lH hz)
def HI{α:Type}{xs:Array α}:(xs.zip xs).map (·.2)=xs:=by rw[Array.zip_eq_zipWith,Array.map_zipWith];exact Array.zipWith_self.trans<|Array.map_id ..
def Lh [Decidable c]{m1 m2:Sem β}(R:β->Shared->Prop)(H:c->wpAny M A m1 R E s)(y:¬c->wpAny M A m2 R E s)(h:∀b s',R b s'->wpAny M A (jp b) Q E s'):wpAny M A (if c then m1>>=jp else m2>>=jp) Q E s:=by
 by_cases q:c;.rw[er q];exact da<|y1 (H q) h λz z x=>x
 .rw[ej q];exact da<|y1 (y q) h λz z x=>x
def B2(J:s.heap.get? a=some (seqObj "list" vs.toArray n))(O:vs.length<64)
 (N:2<=vs.length->∀e s' (M:SortKind->Shared->Prop),CR s a e s'->(∀G,CR s a e G->M κ G)->wpAny (model prog w) A (keyKind' vs.toArray) M (λz z=>False) s')
 (k:∀e i j (C:Bool->Shared->Prop) s',i<vs.length->j<vs.length->CR s a e s'->(∀G,CR s a e G->C (decide (r i<r j)) G)->kas_ask prog w A κ vs i j C s')
 (h:∀(p:Array Nat) s' c,dv vs.length p->qK (ky r p) vs.length->dQ s a s'->s'.heap.get? a=some (seqObj "list" (rF Value.none vs p).toArray c)->P (.done<|.ret .none) s'):
 wpAny (model prog w) A (Builtin.«list.sort» ⟨[.ref a],[]⟩) P E s:=by
 have u:vs.length<=sizeLine:=c0 (rh O)<|by decide
 obtain⟨y,D⟩:∃y,(s.heap.update a (Obj.mapSeq λz=>(#[]:Array Value))).get? a=some (seqObj "list" #[] y):=⟨_,get?_update_seq J λz=>#[]⟩
 have m:CR s a y {s with heap:=((s.heap.update a (Obj.mapSeq λz=>(#[]:Array Value))).push (seqObj "tuple" vs.toArray 0)).push (seqObj "list" #[] 0)}:=⟨dQ.push<|dQ.push .upd,fz _<|fz _ D⟩
 rw[list_sort_plain]
 refine da<|listItems_at J rfl (da<|listUpdate_at J rfl ?_ (by rw[mF];exact u) (js _))
 refine da<|seqEpoch_at D rfl (da<|wpAny_newTuple ?_ u)
 refine da<|wpAny_newList (Be ?_)<|js _
 generalize({s with heap:=((s.heap.update a (Obj.mapSeq λz=>(#[]:Array Value))).push (seqObj "tuple" vs.toArray 0)).push (seqObj "list" #[] 0)}:Shared)=s0 at m
 have hz:vs.toArray.size=vs.length:=mF
 refine Lh (λOn s1=>CR s a y s1/\(2<=vs.length->On=κ)) (λc=>e5 ⟨m,λq=>absurd c<|Nat.not_lt.2<|hz.symm▸q⟩) (λc=>y1 (N (hz▸pg c) y _ (λOn s1=>CR s a y s1/\(2<=vs.length->On=κ)) m λs1 I=>⟨I,λz=>rfl⟩) (λz z x=>x) λz z x=>x.elim) λOn s1 bT=>have I1:=bT.1;have Vc:=bT.2;?_
 refine da<|y1 (Q:=λx s2=>CR s a y s2/\∃p,dv vs.length p/\qK (ky r p) vs.length/\(arrOf x.2).map (·.2)=(rF Value.none vs p).toArray/\failedOf x.2=none) ?_ (λx s2 ⟨I2,p,H,has,L,f⟩=>?_) λz z x=>x
 .by_cases c:vs.toArray.size<2
  .rw[er c,StateT.run_pure]
   refine e5 ⟨I1,(List.range vs.length).toArray,Array.Perm.refl _,λi l=>absurd (hz▸c)<|Nat.not_lt.2<|c0 (ka<|HX i)<|rh l|>λz=>l,HI.trans<|cg List.toArray Am.symm,rfl⟩
  .rw[ej c]
   have b:2<=vs.length:=hz▸pg c
   clear J N h c hz m u;obtain rfl:=Vc b
   have ask:(kas_sort vs.length).kasWp (kas_ask prog w A On vs) (λp s3=>dv vs.length p/\qK (ky r p) vs.length/\CR s a y s3) s1:=lU.wp (I:=CR s a y) (λi j C s3 l hj Y hC=>k y i j C s3 l hj Y hC) (λp s3 H Y=>⟨H.1,H.2,Y⟩) (HH<|ri (HX 1) b) I1
   exact y1 (kat_run (E:=E) (Q:=λU s2=>CR s a y s2/\∃p,dv vs.length p/\qK (ky r p) vs.length/\(arrOf U).map (·.2)=(rF Value.none vs p).toArray/\failedOf U=none) rfl b O (λp' U s' a1 a2 a3 T=>⟨T.2.2,p',T.1,T.2.1,kat_snds rfl a2,a3⟩) ask) (λz z x=>x) λz z x=>x
 .obtain⟨⟨⟩,st⟩:=x
  refine da<|seqEpoch_at I2.2 rfl ?_
  have L:(arrOf st).map (·.2)=_:=L
  have f:failedOf st=none:=f
  rw[L,f]
  refine da<|E7 I2 ?_ λs' c K k=>?_
  .rw[rF,a9,xC,H.size];exact u
  .show wpAny _ _ (if(y !=y)=true then _ else _) _ _ _
   rw[bne_self_eq_false]
   exact e5<|h p s' c H has K k
end
end
end
section
variable{α:Type}{lt:α->α->Bool}{S S':α->Prop}{l:List α}{x y z d:α}
noncomputable def ng(lt:α->α->Bool)(d:α)(l:List α)(i:Nat):Nat:=l.countP λy=>lt y<|l.getD i d
def B3(h:∀z∈l,p z=true->q z=true)(hx:x∈l)(H:p x=false)(u:q x=true):l.countP p<l.countP q:=by
 induction l with
 |nil=>cases hx|cons a r i=>
  have mono:=List.countP_mono_left λz m=>h z<|.tail _ m;rw[List.countP_cons,List.countP_cons];rcases lq.1 hx with rfl|hx;.rw[H,u];exact Nat.lt_succ_of_le mono
  .refine Nat.add_lt_add_of_lt_of_le (i (λz m=>h z<|.tail _ m) hx) ?_;by_cases c:p a=true;.rw[c,h a (.head _) c];exact i1 _
   .rw[bF c];exact js _
def getD_mem(h:i<l.length):l.getD i d∈l:=by rw[ui,h8 h];exact List.getElem_mem h
section
variable(h:TO lt S)(hs:∀y∈l,S y)
include h hs
theorem uo(H:i<l.length)(J:j<l.length)(q:lt (l.getD i d) (l.getD j d)=true):ng lt d l i<ng lt d l j:=
 have s:=hs _ (getD_mem (d:=d) H)
 B3 (λz m c=>h.tr (hs z m) s (hs _<|getD_mem J) c q) (getD_mem H) (h.ir s) q
theorem An(H:i<l.length)(J:j<l.length):decide (ng lt d l i<ng lt d l j)=lt (l.getD i d) (l.getD j d):=by
 by_cases q:lt (l.getD i d) (l.getD j d)=true;.rw[q];exact eb<|uo h hs H J q
 .rw[bF q];refine fo λc=>?_;by_cases s:lt (l.getD j d) (l.getD i d)=true;.exact Nat.lt_asymm c<|uo h hs J H s
  .exact q0 c<|cg (λx=>l.countP λy=>lt y x)<|h.CH (hs _<|getD_mem H) (hs _<|getD_mem J) (bF q)<|bF s
theorem su(s:dv l.length p)(a:qK (ky (ng lt d l) p) l.length):rF d l p=bQ lt l:=by
 have T:p.toList.Perm (List.range l.length):=Array.perm_iff_toList_perm.1 s
 have perm:(rF d l p).Perm l:=by have:=T.map (λi=>l.getD i d);rwa [show(List.range l.length).map (λi=>l.getD i d)=l from Am]at this
 refine(oW h hs perm.symm ?_).symm;refine List.pairwise_map.2<|List.pairwise_iff_getElem.2 λi j I H J=>bF λq=>?_;have g:∀{k:Nat} (u:k<p.toList.length),p.toList[k]<l.length/\p.getD k 0=p.toList[k]:=λ{k} u=>⟨Dw.1<|T.subset<|List.getElem_mem u,by rw[getD_eq,<-p8,h8 u];rfl⟩;have le:=a.le (rh J)<|s.size▸H;unfold ky at le;rw[(g I).2,(g H).2]at le;exact Nat.not_lt.2 le<|uo h hs (g H).1 (g I).1 q
end
end
@[elab_as_elim] theorem g9 {C:V->V->Prop} {x y:V} (h:cA x y=true) (k:∀i j,C (.int i)<|.int j) (k2:∀s t,C (.str s)<|.str t):C x y:=by rcases x<;>first|exact ff h|(rcases y<;>first|exact k _ _|exact k2 _ _|exact ff h)
set_option tactic.hygienic true in
@[elab_as_elim] theorem wK {C:V->V->Prop} {x y:V} (h:kZ x y=true) (k:∀a l b m,cA a b=true->oR l m=true->C (.tup<|a::l) (.tup<|b::m)):C x y:=by
  rcases x<;>first|exact ff h|skip
  rename_i l;rcases y<;>first|exact ff h|skip
  rename_i m;rcases l with _|⟨a,l⟩;.exact nomatch h
  rcases m with _|⟨b,m⟩;.exact nomatch h
  have h:=jT.1<|show(cA a b&&oR l m)=true from h;exact k a l b m h.1 h.2
def za{x y:V}(h:cA x y=true):jE x=true:=g9 h (λz z=>rfl) λz z=>rfl
def HJ{l:List V}(h:oR l l=true):∀c∈l,jE c=true:=by
 induction l with|nil=>exact nofun|cons a l i=>have h:=jT.1 h;exactλc m=>(lq.1 m).elim (λe=>e▸za h.1)<|i h.2 c
set_option tactic.hygienic true in
def E8{l:List V}{C:Prop}(h:sortable l=true)(k:TO V.lt (jE ·=true)->(∀x∈l,∀y∈l,cA x y=true)->(∀x∈l,jE x=true)->C)(k2:TO V.lt JS->(∀x∈l,∀y∈l,kZ x y=true)->(∀x∈l,JS x)->C):C:=by
 have o:∀x∈l,∀y∈l,V.ord x y=true:=λx s y Y=>ft.1 (ft.1 h x s) y Y;have nt:∀{x y z:V},cA x y=true->kZ y z=true->C:=λ{x y z} H u=>g9 (C:=λx y=>kZ y z=true->C) H (λ_ _ h=>nomatch h) (λ_ _ h=>nomatch h) u;have f:∀{x y:V},kZ x y=true->cA x x=true->C:=λ{x y} H u=>nt u H;rcases l with _|⟨x,l⟩;.exact k .IV nofun nofun
 rcases(wq _ _).mp<|o x (.head _) x<|.head _ with q|q
 .have a:∀y∈x::l,cA y y=true:=λy Y=>((wq _ _).mp<|o y Y y Y).elim id λc=>((wq _ _).mp<|o x (.head _) y Y).elim (λd=>g9 (C:=λx y=>kZ y y=true->cA y y=true) d (λ_ _ h=>nomatch h) (λ_ _ h=>nomatch h) c) λd=>wK (C:=λx y=>cA x x=true->cA y y=true) d (λ_ _ _ _ _ _ h=>nomatch h) q;exact k .IV (λy Y z hz=>((wq _ _).mp<|o y Y z hz).elim id λc=>wK (C:=λy z=>cA y y=true->cA y z=true) c (λ_ _ _ _ _ _ h=>nomatch h)<|a y Y) λy Y=>za<|a y Y
 .have a:∀y∈x::l,kZ y y=true:=λy Y=>((wq _ _).mp<|o y Y y Y).elim (λc=>((wq _ _).mp<|o x (.head _) y Y).elim (λd=>g9 (C:=λx y=>kZ x x=true->kZ y y=true) d (λ_ _ h=>nomatch h) (λ_ _ h=>nomatch h) q) λd=>wK (C:=λx y=>cA y y=true->kZ y y=true) d (λ_ _ _ _ _ _ h=>nomatch h) c) id;refine k2 .M2 (λy Y z hz=>((wq _ _).mp<|o y Y z hz).elim (λc=>g9 (C:=λy z=>kZ y y=true->kZ y z=true) c (λ_ _ h=>nomatch h) (λ_ _ h=>nomatch h)<|a y Y) id) λy Y=>?_;have c:=a y Y;rcases y<;>first|exact ff c|skip
  rename_i m;rcases m with _|⟨b,m⟩;.exact ff c
  .exact⟨b::m,rfl,HJ c⟩
section
open PySem PySem.W PyProof.Rows
section
set_option maxRecDepth 100000
def zb(x:V):Bool:=(d7 x).isSome
def kj:List V->SortKind
 |x::_=>cond (zb x) (tuples' true) oneType'|[]=>oneType'
def zc(x:V):Bool:=(bx x).isSome
def B4(x:V):String:=cond (zc x) "int" "str"
def E9(x:V):(Value.type (B4 x) !=Value.type "tuple")=true:=by unfold B4;rcases zc x<;>decide
def Fa(x:V):(Value.type (B4 x)==Value.type (B4 x))=true:=by unfold B4;rcases zc x<;>decide
section
variable{prog:Program}{w:World}{A:Around}{E:Value->Shared->Prop}{σ:Sg}{l:List V}{vs:List Value}{x y:V}{u v:Value}
theorem aN.getD(r:aN σ l vs)(H:i<l.length):RV σ (l.getD i d) (vs.getD i Value.none):=by obtain⟨v,z,s⟩:=r.get<|h8 H;rw[ui,ui,h8 H,z];exact s
def sv(H:cA x y=true)(r:RV σ y v):typeOf v=pure (.type<|B4 x):=
 g9 (C:=λx y=>RV σ y v->typeOf v=pure (.type<|B4 x)) H (λz z r=>r.ls (C:=λv=>typeOf v=pure (.type "int")) λz=>rfl) (λz z r=>r.gA (C:=λv=>typeOf v=pure (.type "str")) λz z=>rfl) r
def Fb(b:V):∀{l:List V} {vs:List Value},aN σ l vs->(∀y∈l,∃c m,y=.tup (c::m)/\cA b c=true)->∃s,KatTups σ.s.heap vs s/\s.length=l.length/\∀f∈s,typeOf f=pure (.type<|B4 b):=by
 intro l
 induction l with|nil=>exactλ{vs} r _=>r.iG (D:=λvs=>∃s,KatTups σ.s.heap vs s/\s.length=0/\∀f∈s,typeOf f=pure (.type<|B4 b)) ⟨[],trivial,rfl,λf m=>nomatch m⟩|cons y l I=>intro vs r ht;refine r.bp (D:=λvs=>∃s,KatTups σ.s.heap vs s/\s.length=l.length+1/\∀f∈s,typeOf f=pure (.type<|B4 b)) λv z H p=>bC λG=>?_;obtain⟨s,t,L,k⟩:=I p λy Y=>ht y<|.tail _ Y;obtain⟨c,m,rfl,j⟩:=ht y<|.head _;refine G<|H.f0 (C:=λv=>∃s,KatTups σ.s.heap (v::z) s/\s.length=l.length+1/\∀f∈s,typeOf f=pure (.type<|B4 b)) λa n U T T Q O=>?_;obtain⟨f,N,M⟩:=O.get (i:=0) rfl;exact⟨f::s,⟨⟨a,_,U,n,rfl,Q,rfl,rfl,p8.symm.trans N⟩,t⟩,cg (·+1) L,λJ m=>(lq.1 m).elim (λe=>e▸sv j M)<|k J⟩
def kind_sound(k:sortable l=true)(r:aN σ l vs)(s:2<=vs.length)(H:Q (kj l) σ.s):wpAny (model prog w) A (keyKind' vs.toArray) Q E σ.s:=by
 have hz:=r.len;rcases l with _|⟨x,l⟩;.exact absurd (hz▸s)<|by decide
 refine E8 k (λz h z=>?_) λz h p=>?_
 .have j:kj (x::l)=oneType':=fJ (C:=λx=>kj (x::l)=oneType') (za<|h x (.head _) x<|.head _) (λz=>rfl) λz=>rfl;rw[j]at H;exact kas_kind (T:=.type<|B4 x) s (λv O=>Looks.of_pure (let⟨y,Y,ry⟩:=r.mem v O;sv (h x (.head _) y Y) ry)) (E9 x) (Fa x) H
 .refine bC λG=>?_;obtain⟨b,i⟩:∃b,∀y∈x::l,∃c m,y=.tup (c::m)/\cA b c=true:=by
   have U:=h x<|.head _;clear k r s H h hz;obtain⟨m,rfl,_⟩:=p x<|.head _;rcases m with _|⟨b,m⟩;.exact ff<|U _<|.head _
   .exact⟨b,λy Y=>wK (C:=λx y=>x=.tup (b::m)->∃c m,y=.tup (c::m)/\cA b c=true) (U y Y) (λa l c M N z e=>⟨c,M,rfl,(ig<|V.tup.inj e).1▸N⟩) rfl⟩
  have j:kj (x::l)=tuples' true:=by clear k r s H h p hz;obtain⟨c,m,rfl,_⟩:=i x<|.head _;rfl
  obtain⟨J,t,L,p⟩:=Fb b r i;refine G<|kat_kind (T:=.type<|B4 b) t (L▸HX _) (λf m=>Looks.of_pure<|p f m) (Fa b) ?_;rw[E9 b];exact j▸H
def Fc(f:cA x y=true)(z:RV σ x u)(Y:RV σ y v)(H:Q (decide (x=y)) σ.s):wpAny (model prog w) A (eqBool u v) Q E σ.s:=by
 refine g9 (C:=λx y=>RV σ x u->RV σ y v->Q (decide (x=y)) σ.s->wpAny (model prog w) A (eqBool u v) Q E σ.s) f (λi j z Y H=>?_) (λa b z Y H=>?_) z Y H
 .refine z.ls (C:=λu=>wpAny _ _ (eqBool u v) _ _ _) λt=>Y.ls (C:=λv=>wpAny _ _ (eqBool (.int i t) v) _ _ _) λT=>wpAny_eqBool_int ?_;rw[yH];exact(nX.2 ⟨V.int.inj,cg V.int⟩:decide (V.int i=.int j)=decide (i=j))▸H
 .refine z.gA (C:=λu=>wpAny _ _ (eqBool u v) _ _ _) λt p=>Y.gA (C:=λv=>wpAny _ _ (eqBool (.str ⟨a.toArray⟩ t) v) _ _ _) λT p=>eqBool_str ?_;rw[yH];exact(nX.2 ⟨λe=>cg (λl:List Nat=>(⟨l.toArray⟩:Str))<|V.str.inj e,λe=>cg (λs:Str=>V.str s.cps.toList) e⟩:decide (V.str a=.str b)=decide ((⟨a.toArray⟩:Str)=⟨b.toArray⟩))▸H
def Ao(b:Bool)(f:cA x y=true)(z:RV σ x u)(Y:RV σ y v)(H:Q (V.gy x y) σ.s):wpAny (model prog w) A (oneLt' b u v) Q E σ.s:=by
 refine g9 (C:=λx y=>RV σ x u->RV σ y v->Q (V.gy x y) σ.s->wpAny (model prog w) A (oneLt' b u v) Q E σ.s) f (λi j z Y H=>?_) (λa c z Y H=>?_) z Y H
 .refine z.ls (C:=λu=>wpAny _ _ (oneLt' b u v) _ _ _) λt=>Y.ls (C:=λv=>wpAny _ _ (oneLt' b (.int i t) v) _ _ _) λT=>?_;rcases b with _|_;.exact kat_one _ _<|PyProof.Rows.lt_int H
  .exact keyLt'_oneType (Value.int i t) (Value.int j T)▸kat_lt_int H
 .refine z.gA (C:=λu=>wpAny _ _ (oneLt' b u v) _ _ _) λt s=>Y.gA (C:=λv=>wpAny _ _ (oneLt' b (.str ⟨a.toArray⟩ t) v) _ _ _) λT s=>?_;have H:Q (decide (a<c)) σ.s:=(ltNats_eq a c:V.gy (.str a) (.str c)=_)▸H;rcases b with _|_;.exact kat_one _ _<|PyProof.Rows.lt_str H
  .exact oneLt_str H
def B5:∀{xs ys:List V} {s vs:List Value} {i:Nat},oR xs ys=true->aN σ xs s->aN σ ys vs->Q (gJ V.gy xs ys) σ.s->KatLex prog w A b (decide (s.length<vs.length)) Q (s.zip vs) i σ.s:=by
 intro xs
 induction xs with
 |nil=>
  intro ys s vs i _ z p H;refine z.iG (D:=λs=>KatLex prog w A b (decide (s.length<vs.length)) Q (s.zip vs) i σ.s)<|kat_nil ?_;rcases ys with _|⟨y,ys⟩;.exact p.iG (D:=λvs=>Q (decide (0<vs.length)) σ.s) H
  .exact p.bp (D:=λvs=>Q (decide (0<vs.length)) σ.s) λm m m m=>H
 |cons x xs I=>
  intro ys s vs i f z p H;refine z.bp (D:=λs=>KatLex prog w A b (decide (s.length<vs.length)) Q (s.zip vs) i σ.s) λu s a j=>?_;rcases ys with _|⟨y,ys⟩;.exact p.iG (D:=λvs=>KatLex prog w A b (decide ((u::s).length<vs.length)) Q ((u::s).zip vs) i σ.s)<|kat_nil H
  .refine p.bp (D:=λvs=>KatLex prog w A b (decide ((u::s).length<vs.length)) Q ((u::s).zip vs) i σ.s) λv vs k c=>?_;have f:=jT.1<|show(cA x y&&oR xs ys)=true from f;have H:Q (if x=y then gJ V.gy xs ys else V.gy x y) σ.s:=H;refine kat_cons<|Fc f.1 a k<|kat_go (λe=>kat_yes ?_) λe=>kat_no ?_
   .rw[er<|dk e]at H;exact(nX.2 Nat.succ_lt_succ_iff:decide ((u::s).length<(v::vs).length)=decide (s.length<vs.length))▸I f.2 j c H
   .rw[ej<|si e]at H;exact Ao _ f.1 a k H
def B6{C:Bool->Shared->Prop}(U:sortable l=true)(r:aN σ l vs)(H:i<vs.length)(J:j<vs.length)(c:C (decide (ng V.lt .none l i<ng V.lt .none l j)) σ.s):kas_ask prog w A (kj l) vs i j C σ.s:=by
 have H:i<l.length:=r.len▸H;have J:j<l.length:=r.len▸J;have I:=r.getD (d:=.none) H;have s:=r.getD (d:=.none) J;have M:=getD_mem (d:=V.none) H;have e:=getD_mem (d:=V.none) J
 have T:∃x∈l,kj l=cond (zb x) (tuples' true) oneType':=by
  rcases l with _|⟨x,l⟩;.cases M
  .exact⟨x,.head _,rfl⟩
 obtain⟨x,Y,k⟩:=T;unfold kas_ask;refine E8 U (λo h f=>?_) λo h f=>?_
 .rw[An o f H J]at c;have k:kj l=oneType':=k.trans<|fJ (C:=λx=>cond (zb x) (tuples' true) oneType'=oneType') (f x Y) (λz=>rfl) λz=>rfl;rw[k,keyLt'_oneType];exact Ao true (h _ M _ e) I s<|fY (f _ M)▸c
 .rw[An o f H J]at c
  have k:kj l=tuples' true:=by obtain⟨a,rfl,_⟩:=f x Y;exact k
  rw[k];refine wK (C:=λp q=>RV σ p (vs.getD i .none)->RV σ q (vs.getD j .none)->C (V.lt p q) σ.s->_) (h _ M _ e) (λa L b m Q O I s c=>?_) I s c;exact I.f0 (C:=λu=>wpAny (model prog w) A (keyLt' (tuples' true) u<|vs.getD j .none) C _ _) λN n1 xs z z G s1=>s.f0 (C:=λv=>wpAny (model prog w) A (keyLt' (tuples' true) (.ref N) v) C _ _) λa2 n2 ys z z D s2=>kat_lt G rfl D rfl<|B5 (xs:=a::L) (ys:=b::m) (jT.2 ⟨Q,O⟩) s1 s2 c
end
end
section
set_option maxRecDepth 100000
def qo(k:Cx)(σ:Sg)(vs:List V)(l:Value):Prop:=∀(A:Around) (E:Value->Shared->Prop) (Q:List Value->Shared->Prop),A.handled=none->(∀y a,(∀b o,σ.h b=some o->y.heap.get? b=some o)->dX σ.s y->aN (σ.w y) vs a->Q a y)->wpAny (model k.prog k.w) A (collect l) Q E σ.s
section
variable{k:Cx}{d:Nat}{F:Fr}{L:Loc}{σ:Sg}{A:Around}{vs:List V}{val:Value}{p:Addr×Addr}{i:Nat}
def Up.kp(y:∀b o,σ.h b=some o->s'.heap.get? b=some o):Up σ (σ.w s'):=⟨sA _,λa o vs n e d H=>⟨H,y a o e⟩⟩
def lV{items:Array Value}(I:IsL σ.s.heap a items n)(s:aN σ vs items.toList)(H:vs.length<=sizeLine):qo k σ vs (.ref a):=λA E Q x z=>by
 refine collect_list (vs:=items.toList) (by rw[Array.toArray_toList];exact lp (n:=n) I) ?_<|s.len▸H
 have y:∀b o,σ.h b=some o->((σ.s.heap.push (seqObj "list" #[] 0)).update σ.s.heap.objs.size (Obj.mapSeq (·++items.toList.toArray))).get? b=some o:=λb o e=>(Heap.get?_update_other _ _<|Nat.ne_of_gt<|p9 e).trans<|fz _ e
 exact z {σ.s with heap:=_} _ y ⟨rfl,rfl,rfl⟩<|s.on<|.kp y
def B7(r:SR k σ)(z:σ.g[i]?=some p) (O:oj k σ p kd dd):qo k σ (dd.map (·.1)) (.ref p.1):=λA E Q x u=>by obtain⟨es,ep,l,e,y,N,m,H⟩:=O;refine kdu_collect (EO (k:=k) (ep:=ep)<|BB.1<|r.en z) x m (c0 ((xC.symm.trans H.len)▸l)<|by decide) λs tk c y a=>?_;exact u {σ.s with heap:=s,toks:=tk} _ y ⟨rfl,rfl,rfl⟩<|wy H (.kp y) a
def pairs_at{w:World}{knd:PySem.KeyKind k.prog k.w Str}{j:Nat}{key:Str}{x:Value}:∀{D:List (V×V)} {l:List DictEntry} {N:List (Str×Value)},fh w σ D l->Pairs knd l N->N[j]?=some (key,x)->∃e u,D[j]?=some e/\knd.is key u/\RV σ e.1 u/\RV σ e.2 x:=by
 induction j with
 |zero=>
  intro D l N r p H;rcases p with _|⟨p1,p2,p3⟩;.injection H
  rcases D with _|⟨e,D⟩;.exact nomatch r
  obtain⟨y,ys,a1,a2,_,_,z⟩:=(show∃y ys,RV σ e.1 y.key/\RV σ e.2 y.val/\y.hash=cm w e.1/\fh w σ D ys/\_=y::ys from r);obtain⟨rfl,_⟩:=ig z;obtain⟨rfl,rfl⟩:=Prod.mk.inj<|dR H;exact⟨e,_,rfl,p1,a1,p2▸a2⟩
 |succ j I=>
  intro D l N r p H;rcases p with _|⟨p1,p2,p3⟩;.injection H
  rcases D with _|⟨e,D⟩;.exact nomatch r
  refine bC λG=>?_;obtain⟨y,ys,a1,a2,_,a,z⟩:=(show∃y ys,RV σ e.1 y.key/\RV σ e.2 y.val/\y.hash=cm w e.1/\fh w σ D ys/\_=y::ys from r);obtain⟨_,rfl⟩:=ig z;exact G<|I a p3 H
def zd{D:List (V×V)}{v:Addr}(r:SR k σ)(hp:σ.g[i]?=some p) (O:oj k σ p .str D) (hv:σ.s.heap.IsItemsView v p.1):qo k σ (D.map λe=>.tup [e.1,e.2]) (.ref v):=λA E Q hh hq=>by
 refine bC λG=>?_;obtain⟨eN,⟨o,Y,Kt,U,k2,k3,k4,N,k6⟩,H⟩:=ou k.prog O;obtain⟨es,ep,h1,e,T,nd,h5,h6⟩:=O;have hm:σ.s.heap.DictAt (PySem.strKind k.prog k.w) p.1 eN Kt:=⟨o,Y,U,k2,k3,k4,N,k6⟩;obtain rfl:=dR<|h5.symm.trans U;obtain⟨rfl,rfl⟩:es=Y/\ep=Kt:=by injection k3 with a b;exact⟨a,b⟩
 refine G<|kdx_collect hh hv hm (c0 (H▸h1)<|by decide) λh' tk as M EN J=>?_;refine hq _ _ M ⟨rfl,rfl,rfl⟩<|y4 (by rw[a9,a9,EN,H]) λj x u e1 e2=>?_;refine C5 (((qa ..).symm.trans e1)) λe q1=>bC λG=>?_;obtain⟨a,I,rfl⟩:=y2.1<|(qa ..).symm.trans e2;obtain⟨key,m,x,q3,q4,q5⟩:=J.pairs j a I;obtain⟨s,Oo,q6,f,q8,q9⟩:=pairs_at h6 N q3;obtain rfl:=dR<|q6.symm.trans q1;refine G ?_;have ni:¬NI σ a:=r.fN<|Ep<|rh<|J.above a<|nf I
 refine .tt (l:=[s.1,s.2]) (n:=0) (vs:=#[key,x]) (show 2<=sizeLine by decide) ni q5 (.cons ?_<|.one<|q9.on<|.kp M)
 have T:=T s<|nf q6
 generalize s.1=y at T q8
 rcases y<;>first|exact ff T|skip
 refine q8.gA (C:=λOo=>(PySem.strKind k.prog k.w).is m Oo->RV _ (.str _) key) (λt z f=>?_) f
 refine bC λG=>?_;obtain⟨t1,c⟩:=Value.isStrOf_shape (x:=m) (v:=.str ⟨_⟩ t) f
 obtain⟨t2,e4⟩:=Value.isStrOf_shape (x:=m) (v:=key) q4
 refine G ?_;injection c with c _
 exact e4▸c▸.ss z
def Fd(r:aN σ vs acc):∀{s:List Nat},(∀i∈s,i<vs.length)->aN σ (s.map λi=>vs.getD i .none) (s.map λi=>acc.getD i Value.none):=by
 intro s
 induction s with|nil=>exactλz=>.nil|cons i s I=>exactλh=>.cons (r.getD<|h i<|.head _)<|I λj m=>h j<|.tail _ m
def wN{K:Value->Shared->Prop}(hh:A.handled=none)(r:SR k σ)(hc:qo k σ vs val)(w:vp m vs σ.H Q)(kv:KV k σ Q K):WN k A (PySem.call (.builtin "sorted") [val]) K σ.s:=by
 obtain⟨x,O,w⟩:=w;refine al<|Calls.call_function_entry kind_sorted plain_sorted entry_sorted (args_sorted1 _) ?_;unfold Builtin.«sorted»;refine da (m:=checkCount "sorted" 1 1 _)<|e5<|da<|hc _ _ _ hh λs2 acc T same l=>?_;have hz:=l.len;have M:vs.length<=sizeLine:=c0 (rh O)<|by decide
 refine da<|wpAny_newList ?_<|hz▸M;have J:(s2.heap.push<|seqObj "list" acc.toArray 0).get? s2.heap.objs.size=some (seqObj "list" acc.toArray 0):=hW _ rfl;have Vd:s2.heap.get? s2.heap.objs.size=none:=bj _;have k3:∀b o,s2.heap.get? b=some o->b≠s2.heap.objs.size/\(s2.heap.push<|seqObj "list" acc.toArray 0).get? b=some o:=λb o e=>⟨q0<|p9 e,fz _ e⟩;show wpAny _ _ _ _ _ {s2 with heap:=s2.heap.push (seqObj "list" acc.toArray 0)};generalize s2.heap.objs.size=D at*;have f:∀{s3:Shared},dQ {s2 with heap:=s2.heap.push (seqObj "list" acc.toArray 0)} D s3->∀b o,s2.heap.get? b=some o->s3.heap.get? b=some o:=λ{s3} K b o e=>K.keep b o (k3 b o e).1 (k3 b o e).2;have G:∀{s3:Shared},dQ {s2 with heap:=s2.heap.push (seqObj "list" acc.toArray 0)} D s3->aN (σ.w s3) vs acc:=λ{s3} K=>l.on ⟨sA _,λa o xs n e d N=>⟨N,f K a o e⟩⟩;refine da<|Be<|x3 slot_list_sort ⟨_,J,rfl⟩ entry_list_sort ?body<|args_list_sort _;refine B2 (s:={s2 with heap:=s2.heap.push (seqObj "list" acc.toArray 0)}) (κ:=kj vs) (r:=ng V.lt .none vs) J (hz▸O) (λY e s3 Q' I hq=>kind_sound (σ:=σ.w s3) x (G I.1) Y<|hq s3 I) (λe i j C s3 hi hj I hC=>B6 (σ:=σ.w s3) x (G I.1) hi hj<|hC s3 I) λp s3 c y has U S4=>?_;refine⟨_,rfl,e5 ⟨_,rfl,?_⟩⟩;have HK:∀b o,σ.h b=some o->s3.heap.get? b=some o:=λb o e=>f U b o<|T b o e;have H:σ.h D=none:=vN λu=>cT T D u Vd;have e3:dX σ.s s3:=same.trans<|(⟨rfl,rfl,rfl⟩:dX s2 {s2 with heap:=s2.heap.push (seqObj "list" acc.toArray 0)}).trans U.same;obtain⟨sr,u⟩:=r.step (W:=No) (H':=σ.H) (X':=λb=>σ.X b\/b=D) (s':=s3) (λb o z=>HK b o) e3 rfl (λb q=>q.elim (λq=>⟨(r.eh b q).1,cT HK b (r.eh b q).2.1,(r.eh b q).2.2⟩) λq:b=D=>q▸⟨λm=>r.bound D m H,aw S4,r.g3 H⟩) (λb q=>q.imp_right λq:b=D=>q▸H) (λb q=>q.elim) λz i p o z Y=>.inr ⟨Y,id,id⟩;have Ve:aN ⟨σ.g,σ.H,s3,λb=>σ.X b\/b=D,σ.z⟩ vs acc:=l.on ⟨sA _,λa o xs n e d N=>⟨λh=>h.elim (λh=>N<|.inl h) λh=>h.elim (λh=>N<|.inr h) (k3 a o e).1,f U a o e⟩⟩
 have Vf:aN ⟨σ.g,σ.H,s3,λb=>σ.X b\/b=D,σ.z⟩ (dG vs) (rF Value.none acc p):=by rw[hz]at y has;have e:rF V.none vs p=dG vs:=E8 x (λo z h=>su o h y has) λo z h=>su o h y has;exact e▸Fd Ve λi m=>Dw.1<|(Array.perm_iff_toList_perm.1 y).subset m
 refine MK.of (m:=m) (σ:=⟨σ.g,σ.H,s3,λb=>σ.X b\/b=D,σ.z⟩) (σ1:=σ) (D:=D) ⟨⟨sA _,λb o e z z=>HK b o e,λb h=>.inl h,λb z=>cT HK b,rfl⟩,rfl⟩ sr rfl H (λq=>(r.eh D q).2.1 H) (.of c _ S4 Vf) ((aL _ vs).length_eq▸M) w λv σ' e a l z w=>(cg (K<|.ref D) (e:σ'.s=s3)).mp<|kv v σ' _ a l w
def hJ{i:It}{K:Value->Shared->Prop}(h:aV F.env.scope.names F.ac (.sorted m i) x=true)(o:Ok k d F L σ)(u:KV k σ Q K)
 (e:∀y z,Ba F.env.scope.names F.ac i y=true->(∀vs σ1 val,Af k σ σ1->qo k σ1 vs val->vp m vs σ1.H Q->z val σ1.s)->WN k F.A (eval y F.env) z σ.s):WN k F.A (eval x F.env) K σ.s:=jb h λp Y O G h=>rg h λy h=>aI h λst s=>by
 have st:=dK st;obtain⟨M,J,N,l,D,n4,n5,n6,T⟩:=o.sr.base.ns;have H:=T ("sorted",.builtin "sorted")<|.tail _<|.tail _<|.tail _<|.head _;have U:∀x∈[y],isStar x=false:=λx j=>dt.1 j▸st;refine bc<|I9 o.fr.kind (c6 G) (Calls.loadGlobal_builtin (o.fr.glob▸o.sr.ez N) H.1 (o.fr.blt▸o.sr.ez l) H.2 ?_)<|by decide+kernel
 exact aW (P:=λzz=>True) (keywords:=[]) (by rw[bO U];rfl) (λh hh=>⟨.machine,.inr<|.inl rfl,Looks.of_pure rfl⟩)
  (ck U<|bh (e y _ s λvs σ1 val a c w=>bM ⟨trivial,wN o.rm.2.2 a.sr c w λv I x f b w=>u v I x (a.trans f) b w⟩)<|bA st _ _)
set_option tactic.hygienic true in
def oa(Y:aG k d e):aG k d (.sorted m<|.val e):=λF L σ x Q K h o w U=>hJ h o U λy M T u=>Y F L σ y _ _ T o w λv s val z c w=>by
 have J:cn<=sizeLine:=by decide
 rcases v with _|_|_|_|_|_|l|i<;>try exact w.elim
 .exact c.jQ λa n I H G j f=>u _ s _ z (lV j f H) w
 .refine c.rf λp b=>?_;obtain⟨N,w⟩:=(show wO _ _ from w);rename_i ob;have O:=z.sr.rd b N;rcases ob with l|⟨kd,dd⟩|_|_|_<;>try exact w.elim
  .obtain⟨n,I,H,_,j,f⟩:=O;exact u _ s _ z (lV j f H) w
  .exact u _ s _ z (B7 z.sr b O) w
def oe:aG k d (.sorted m<|.acc u):=λF L σ x Q K h o w z=>hJ h o z λy O H s=>aI H λl T=>rt w λv j w=>rt w λvs c w=>by obtain rfl:=d3 c;refine lz l λp f=>Ag o (dk T) f j λa n N b e Y Y I U=>al<|ow o.fr.kind b (j5 u)<|s _ σ _ o.sr.here (lV I U<|c0 e<|by decide) w
set_option tactic.hygienic true in
def kl(j:aG k d e):aG k d (.sorted m<|.items e):=λF L σ x Q K h o w f=>hJ h o f λy K' c b=>j8 c λob as pos h=>aI h λY U=>by
 obtain rfl:=mi.1 Y;refine⟨λx m=>(List.not_mem_nil m).elim,j F L σ ob _ _ U o w λv s val a N w M=>?_⟩;rcases v with _|_|_|_|_|_|_|i<;>try exact w.elim
 refine N.rf (C:=λval=>wpAny (model k.prog k.w) F.A (getMethod val _ M) _ _ _) λp H=>?_;obtain⟨l,w⟩:=(show wO _ _ from w);rename_i J;have O:=a.sr.rd H l;rcases J with _|⟨kd,dd⟩|_|_|_<;>try exact w.elim
 refine vG w λe w=>?_;obtain rfl:=dk e;have T:=O.type;refine getMethod_builtin T PySem.F.plainAttrs_dict PySem.F.slot_dict_items PySem.F.type_dict_items (oj.casesOn O λes ep z z z z I z=>MI I rfl)<|aW (P:=λz=>True) (keywords:=[]) (by rw[bO λx m=>(List.not_mem_nil m).elim];rfl) (λh hh=>⟨.machine,.inr<|.inl rfl,Looks.of_pure rfl⟩)<|ck (λx m=>(List.not_mem_nil m).elim)<|bM ⟨trivial,?_⟩;refine bC λG=>?_;obtain⟨D,Op,hl⟩:=ou k.prog O;refine G<|al<|call_meetsIn PySem.F.slot_dict_items T PySem.F.entry_dict_items (PySem.F.args_dict_items_1 _) (meets_dict_items (PySem.strKind k.prog k.w) p.1<|a.sr.en H) ⟨⟨D,Op⟩,?_⟩
 have u:=a.sr.push {cls:=.type "dict_items",data:=.fields #[.ref p.1]} s.s.toks
 exact b _ (s.w _) _ (a.trans u) (zd u.sr H (u.sr.rd H l) ⟨_,hW _ rfl,rfl,rfl⟩) w
end
end
section
variable{k:Cx}{d:Nat}{F:Fr}{L:Loc}{σ:Sg}{m:Bool}{i:It}{e:Mine.E}{c:Es}{t:List Nat}
@[elab_as_elim] theorem Ff {C:Expr->Prop} (h:aV ks ac (.comp m e t i c) x=true) (f:∀elt tg iter ifs sc p,CF ks ac e t i c elt tg iter ifs sc->C (.ListComp elt [⟨tg,iter,ifs,0⟩] sc p)):C x:=
  Mine.Nz h λy G sc p h=>rg (l:=G) h λg h=>co h λH z T u=>aI H λa A=>bG z λb s j=>aI T λY U=>aI u λD Q=>by obtain⟨tg,iter,ifs,O⟩:=g;obtain rfl:O=0:=dk a;exact f y tg iter ifs sc p ⟨.of A,b,s,dK j,Y,U,D,Q⟩
def Ap{h:Heap}{C:Addr}{m:Str->Option Value}(H:h.Ns C m)(e:h.get? C=some o):∀vs n,o.data≠ .seq vs n:=by refine bC λG=>?_;obtain⟨O,es,j,u,D,_⟩:=H;obtain rfl:=dR<|e.symm.trans u;refine G ?_;exactλvs n q=>nomatch D.symm.trans q
def CE.letGo{v:V}{x:Value}{C:Addr}(y:SR k σ)(q:CE k σ C v x σ')(s:Heap.SameBut C σ'.s.heap h'):Af k σ (σ'.w {σ'.s with heap:=h'})/\RV (σ'.w {σ'.s with heap:=h'}) v x:=by
 have r:=q.a.sr
 obtain⟨G,mv,u⟩:=r.own (W:=(·=C)) (s':={σ'.s with heap:=h'}) (λb o H e=>(s.2 b H).trans e) (λb H=>(cC (r.eh b H).2.1).elim λo e=>aw<|(s.2 b λz=>q.nC<|.inr<|z▸H).trans e) (λb H=>by
  obtain rfl:b=C:=H
  exact⟨λm=>q.nC<|.inl m,y.g3 q.hC,.inr λo e=>q.ns.elim λm N=>Ap N e⟩) ⟨rfl,rfl,rfl⟩;exact⟨⟨⟨(q.a.ex.m.wk (Ar':=(·=C)) λp h p=>h.elim).trans mv|>.wk λb h l=>l<|(h:b=C)▸q.hC,q.a.ex.X⟩,G⟩,q.rv.on u⟩
def sB{elt tg iter:Expr}{K:Value->Shared->Prop}(H:nY k d i)(u:aG k d e)(y:eO k d c)(o:Ok k d F L σ)(f:CF F.env.scope.names F.ac e t i c elt tg iter ifs sc)(w:wE (wC d) (.comp m e t i c) L σ.H Q)(z:KV k σ Q K):
 WN k F.A (eval (.ListComp elt [⟨tg,iter,ifs,0⟩] sc p) F.env) K σ.s:=by
 rw[eval_ListComp];exact sm (use:=none) H u y o f w λv x D C q w=>q.ns.imp λm N=>⟨N,λl s=>have a:=q.letGo o.sr s;z v _ _ a.1 a.2 w⟩
def B8(H:nY k d i)(u:aG k d e)(y:eO k d c):aG k d (.comp m e t i c):=λF L σ x Q K h o w z=>Ff h λl tg I s j p f=>sB H u y o f w z
def B9{gens:List Comprehension}(id:Str)(line:Nat)(env:Env):∃b,swapsWith (.ListComp elt gens sc pos) (some<|.Name id p) line env=pure b:=⟨_,rfl⟩
def Ca{v:Nat}(I:nY k d i)(a:aG k d e)(Y:eO k d c):fq k d (.asg v<|.comp m e t i c):=λF L σ x K T C G h o w U=>vz h λtg y p h=>bG h λf h2 h3=>aI f λf l=>lz f λq Q=>by
 have l:=dk l;refine Ff (C:=λy=>WN k F.A (exec (.Assign [.Name (aU v) q] y p) F.env) G σ.s) h3 λelt t' O ifs sc cp N=>?_;obtain⟨b,H⟩:=B9 (elt:=elt) (gens:=[⟨t',O,ifs,0⟩]) (sc:=sc) (pos:=cp) (p:=q) (aU v) p.line F.env;rcases b with _|_;.exact dP (sB I a Y o N w λu σ1 val A r1 w=>bw (o.on A) Q (λj=>r1) (λq=>absurd q l) λs' m u M=>U.next _ _ ((A.sx o).trans<|Sx.of m (λj h=>.inl<|FT.fa h) M) M w) H
 .rw[exec_Assign_Name_used _ _ _ _ H];refine ab<|ak<|ab ?_;show aB _ _ (do let _<-comprehension _ _ _ _ (newList []) false (eval O F.env) (some _)) _ _ σ.s;refine ab<|sm (K:=λj s'=>aB _ _ _ _ _ s') I a Y o N w λu s D C z w=>?_;show wpAny _ _ (assign (.Name (aU v) q) F.env<|.ref D) _ _ s.s;refine PyProof.Rows.assign_Name<|bw (o.on z.a) Q (λj=>z.rv) (λq=>absurd q l) λs3 (m3:Mv (FT F.env [v]) s<|s.w s3) u3 J=>?_;have nC:¬ie s C:=λh=>z.nC<|.inl h;have nF:¬FA F.env C:=λh=>(o.fr.apart C h).2.2.2 z.hC;refine z.ns.imp λmm hn=>?_;have S5:s3.heap.Ns C mm:=vF hn λo e=>m3.keep C o e nC λh=>nF<|FT.fa h;refine⟨S5,λh' hs=>ag<|ag ?_⟩
  obtain⟨o4,m4,_⟩:=J.own (W:=(·=C)) (s':={s3 with heap:=h'}) (λb o H e=>(hs.2 b H).trans e) ⟨rfl,rfl,rfl⟩ (λb H hX=>(z.nC<|.inr<|(H:b=C)▸hX).elim) λb H=>by obtain rfl:b=C:=H;exact⟨nC,o.sr.g3 z.hC,.inr λo e=>Ap S5 e,nF,λh=>(z.nC<|.inr h).elim⟩
  exact U.next _ (Sg.w (s.w s3) {s3 with heap:=h'}) (Sx.own (σ:=s.w s3) ((z.a.sx o).trans<|Sx.of m3 (λj h=>.inl<|FT.fa h) J) m4 λb H=>(H:b=C)▸z.hC) o4 w
end
section
variable{k:Cx}{d:Nat}
def Oq(b:Mine.B):jj k b:=by
 rcases b;.exact KW
 .exact Hr
 .exact Hw
 .exact EL
 .exact uj
 .exact K7
 .exact K6
 .exact K8
 .exact KU
 .exact Eu
 .exact KT
 .exact KO
 .exact KQ
def Os(b:BM):yV k b:=by
 rcases b;.exact BU
 .exact K3
 .exact K2
 .exact bm_split
 .exact Hq
def ze(k:Cx)(d:Nat)(e:Mine.E):Prop:=aG k d e/\nS k d e
def Ot(k:Cx)(d:Nat)(i:It):Prop:=nY k d i/\∀m,aG k d<|.sorted m i
def ze.of(H:yB e=false)(h:aG k d e):ze k d e:=⟨h,G1 h H⟩
def PK(h:∀L H Q,¬Pr (wC d) i L H Q):nY k d i:=λF L y x Q K z o w z=>(h _ _ _ w).elim
def PL(h:∀L H Q,¬wE (wC d) e L H Q):aG k d e:=λF L y x Q K z o w z=>(h _ _ _ w).elim
def HL(G:yP k d):∀e,ze k d e:=λe=>
 E.rec (motive_1:=ze k d) (motive_2:=eO k d) (motive_3:=Ot k d)
  (λz=>.of rfl DP) (λz=>.of rfl DQ) (λz=>.of rfl DR) (.of rfl Bp) (λz=>.of rfl Bq) (λz=>.of rfl DS) (λz=>.of rfl Br)
  (λz z z a b=>.of rfl (DU a.1 b.1)) (λz=>.of rfl DT) (λz z z a b=>G2 a.1 b.1) (λz z z z z a b c=>Bt a.1 b.1 c.1)
  (λz a=>⟨DV a.1,DW a.2⟩) (λz l=>snd_and l) (λz l=>KA l) (λz z z c a b=>.of rfl (DX c.2 a.1 b.1)) (λz l=>.of rfl (DY l.es)) (λz z l=>.of rfl (Bu l.es)) (λz z l=>.of rfl (Bw l))
  (λz z a i=>.of rfl (DZ a.1 i.1)) (λz z z a b c=>.of rfl (yO a.1 b.1 c.1)) (λz z o=>.of rfl (By o.1)) (λz z l=>.of rfl (Bz G l.es)) (λz z l=>.of rfl (Ed G l.es)) (λz z z o l=>.of rfl (BA G o.1 l.es))
  (λb z l=>.of rfl (Hb (Oq b) l.es)) (λb z z o l=>.of rfl (Hl (Os b) o.1 l.es)) (λm z h=>.of rfl (h.2 m)) (λz z z z z e i c=>.of rfl (B8 i.1 e.1 c)) (.of rfl (PL λz z z h=>h))
  trivial (λz z e r=>⟨e,r⟩)
  (λz e=>⟨wi e.1,λz=>oa e.1⟩) (λz e=>⟨qd e.1,λz=>PL λz z z h=>h⟩) (λz z a b=>⟨wH a.1 b.1,λz=>PL λz z z h=>h⟩) (λz a=>⟨sq a.1,λz=>PL λz z z h=>h⟩)
  (λz e=>⟨PK λz z z h=>h,λz=>kl e.1⟩) (λz=>⟨PK λz z z h=>h,λz=>oe⟩) e
theorem wP(h:∀e,ze k d e):∀l,eO k d l
 |.nil=>trivial|.cons e r=>⟨h e,wP h r⟩
def Fg(h:∀e,ze k d e)(i:It):nY k d i:=by
 rcases i;.exact wi (h _).1
 .exact qd (h _).1
 .exact wH (h _).1 (h _).1
 .exact sq (h _).1
 .exact PK λz z z h=>h
 .exact PK λz z z h=>h
def Cb{C:Mine.E->Prop}(h:om e=true)(f:∀m e t i c,C<|.comp m e t i c):C e:=by rcases e<;>first|exact f _ _ _ _ _|exact ff h
def Lj(h:∀e,ze k d e)(l:Ss):gw k d l:=
 have H:=wP h
 Ss.rec (motive_1:=fq k d) (motive_2:=gw k d)
  (λx e=>by
    rcases c:om e with _|_;.exact Eh (h e).1 c
    .exact Cb (C:=λe=>fq k d<|.asg x e) c λm e t i c=>Ca (Fg h i) (h e).1<|H c)
  (λz e=>BI (h e).1) (λo z e=>BG (h o).1 (h e).1) (λo z O z e=>yR (h o).1 (h O).1 (h e).1) (λo i e=>BH (h o).1 (h i).1 (h e).1) (λe=>BF (h e).1)
  (λc z z a b=>Eg (h c).2 a b) (λz i z b=>EC (Fg h i) b) (λc z b=>yT (h c).2 b) (λe=>Ef (h e).1) BD (λz=>BJ)
  (λz l=>vZ (H l).es) (λz e z l=>t7 (h e).1 (H l).es) (λz e=>t6 (h e).1) (λz e=>v3 (h e).1) BE (λF L s x K T C G z o w z=>w.elim)
  BC (λz z y u=>yQ y u) l
theorem Aq:∀d,yP k d
 |0=>BL|d+1=>BO λz c z=>Lj (HL<|Aq d) c.body
end
section
set_option maxRecDepth 100000
def zh{R:Result->Shared->Prop}(m:Γ.In A)(b:jc Γ.code)(y:Clean Γ.below)
 (h:aB M A t (λfin s'=>∃f,fin=.done f/\R (.ok f) s') (λe s'=>R (.error e) s') s) (p:Pos):Sem.wp M Γ t (Sem.finPost M Γ R) (λe z s'=>R (.error e) s') p s:=by
 refine Sem.wp_mono M Γ t (λfin l s' H=>?_) (λz z z H=>H) p s<|h Γ p m b y;obtain⟨f,rfl,x⟩:=H;exact x
def zi{prog:Program}{R:Result->Shared->Prop}(Q:s.asleep)(J:leftWithCleanup s.gens=false)
 (h:aB (model prog w) callerA t (λfin s'=>∃f,fin=.done f/\(R (.ok f) s'/\s'.gens=#[])) (λe s'=>R (.error e) s'/\s'.gens=#[]) {s with gens:=#[]}):
 ∃n r s',schedN (denote table) prog w n (.single s ⟨t,.builtin "claim.caller" {},default,[]⟩)=.halted (outcomeOf r) {s' with gens:=s.gens}/\s'.heap.life=s.heap.life/\R r s':=by
 have no:∀{G:Array GenState},G=#[]->leftWithCleanup G=false:=λe=>e▸by decide+kernel
 have u:=zh (R:=λr s'=>(R r s'/\s'.gens=#[])/\leftWithCleanup s'.gens=false) caller_in (Dn (λz z z=>rfl) (λz z z z=>rfl) (λz z z z z z=>rfl) (by decide+kernel) _) (λx k=>nomatch k)
  (ai h (λz z T=>by obtain⟨f,e,a,b⟩:=T;exact⟨f,e,⟨a,b⟩,no b⟩) λz z T=>have a:=T.1;have b:=T.2;⟨⟨a,b⟩,no b⟩) default
 refine bC λp=>?_;obtain⟨n,r,s₁,N,l,H⟩:=(wp_iff_halts (M:=model prog w) (R:=λr s'=>R r s'/\s'.gens=#[]) ..).mp u
 obtain⟨m,y,j,c⟩:=runNI_real _ _ _ N<|outcomeOf_ends r
 obtain rfl:m=s₁:=Shared.eq_of_forget_eq j H
 exact p<|⟨n,r,m,sched_gens (s:={s with gens:=#[]}) J y (outcomeOf_ends r) H rfl c Q,runN_life (s:={s with gens:=#[]}) _ _ _ y,l⟩
def has_int(h:WShape.has [] x .int=true):∃i,x=.int i:=by rcases x<;>first|exact ff h|exact⟨_,rfl⟩
def has_list(h:WShape.has [] x (.list .int)=true):∃xs,x=.list xs/\WShape.hasItems [] xs .int=true:=by rcases x<;>first|exact ff h|exact⟨_,rfl,(Bool.or_false _).symm.trans h⟩
def Fh:WShape.hasItems [] xs .int=true->∃s:List Int,xs=s.map .int:=by
 induction xs with|nil=>exactλz=>⟨[],rfl⟩|cons x xs I=>intro h;have h:=jT.1<|show(WShape.has [] x .int&&WShape.hasItems [] xs .int)=true from h;obtain⟨s,rfl⟩:=I h.2;obtain⟨i,rfl⟩:=has_int h.1;exact⟨i::s,rfl⟩
def zj{args:List WData}(h:WShape.hasAll [] args [.list .int]=true):∃s:List Int,args=[.list<|s.map .int]:=by
 rcases args with _|⟨x,r⟩;.exact ff h
 have h:=jT.1<|show(WShape.has [] x (.list .int)&&WShape.hasAll [] r [])=true from h;rcases r with _|⟨y,r⟩
 .obtain⟨u,rfl,z⟩:=has_list h.1;obtain⟨s,rfl⟩:=Fh z;exact⟨s,rfl⟩
 .exact ff h.2
section
variable{k:Cx}{σ:Sg}
def lay_ints{R:WRecords}:∀{I:List Int} {s:Shared} {r:List Value×Shared},layAllW R cl Pm ord (I.map .int) s=some r->aN σ (I.map .int) r.1/\r.2.heap=s.heap:=by
 intro I
 induction I with
 |nil=>intro s r e;obtain rfl:=dR<|show some ([],s)=some r from e;exact⟨.nil,rfl⟩
 |cons i I H=>intro s r e;obtain⟨a,q,z,y,rfl⟩:=layAllW_cons e;obtain rfl:=dR<|show some _=some a from z;obtain⟨T,x⟩:=H y;exact⟨.cons .ii T,x⟩
def zk{cl:Str->Option Addr}{m:Params}{ord:List DictEntry->List DictEntry}{i:List Int}{s s₁:Shared}{vs:List Value}(h:layAllW [] cl m ord [.list<|i.map .int] s=some (vs,s₁))(N:i.length<=63):aN (gr s₁) [.lst<|i.map .int] vs:=by obtain⟨a,q,H,y,e⟩:=layAllW_cons h;obtain rfl:=dR<|show some _=some q from y;obtain⟨rfl,rfl⟩:=Prod.mk.inj e;obtain⟨q,T,rfl⟩:=layW_list H;obtain⟨x,u⟩:=lay_ints T;refine .one<|.ll (n:=0) (vs:=q.1.toArray) (c0 (a9 (V.int)|>.symm▸N)<|by decide) (λz=>z.elim (λb=>by obtain⟨p,h,_⟩:=b;exact(List.not_mem_nil h).elim) id) (hW _ rfl) x
def Fi{s:Shared}{d:Nat}{I:List Int}(base:Base k.B k.cF k.fA)(O:∀b o,k.B.heap.get? b=some o->s.heap.get? b=some o)(e:dX k.B s)(D:d<=200){vs:List Value}(y:aN (gr s) [.lst<|I.map .int] vs)(u:wC d 0 [.lst<|I.map .int] [] λv Q=>v=.bool true):
 WN k callerA (do match<-nsGet mainNs "law"with
  |some f=>do ret (<-PySem.call f vs)
  |none=>unsupported "claim.caller:no-such-global") (λfin s'=>fin=.done (.ret<|.bool true)/\(∀b o,s.heap.get? b=some o->s'.heap.get? b=some o)/\s'.gens=s.gens/\s'.os=s.os) s:=by
 have nm:∀b,¬ie (gr s) b:=λb T=>by obtain⟨p,h,_⟩:=T;exact List.not_mem_nil h
 have G:SR k (gr s):=⟨rfl,λi p o h=>(nomatch h),λi j p q h=>(nomatch h),λb H=>(nm b H).elim,λb H=>H.elim,O,e,base⟩;refine bC λm=>?_;obtain⟨M,L,N,_,_,l,_⟩:=base.ns;have Y:(P.code 0).isSome=true:=by decide+kernel
 obtain⟨c,U⟩:=Gz.1 Y;refine m ?_;have z:=l 0 c U<|by decide+kernel
 rw[show Mx 0=("law":Str) by decide+kernel]at z;refine ao<|wpAny_nsGet (N.keeps O) ?_;rw[z];refine ab<|Aq d 0 _ (gr s) vs callerA _ _ ⟨?_,?_,rfl⟩ G y u λv J x a r q=>?_
 .show 1+claimMargin+3*d<recursionLimit;exact dS (ih (Nat.mul_le_mul_left 3 D) _)<|by decide+kernel
 .show 4+40*d+80<cLine;exact dS (He (ih (Nat.mul_le_mul_left 40 D) _) _)<|by decide+kernel
 .subst q;exact r.mJ (C:=λx=>aB _ _ (ret x) _ _ _)<|ag ⟨rfl,λb o e=>a.ex.m.keep b o e (nm b) id,a.sr.eq.gens.trans e.gens.symm,a.sr.eq.os.trans e.os.symm⟩
end
def Vg{A B C D E:Type}{X:A->B->Prop}{Y:A->B->C->D->E->Prop}{a:A}{b:B}(x:X a b){c:C}{d:D}{e:E}(y:Y a b c d e):∃a b,X a b/\∃c d e,Y a b c d e:=⟨a,b,x,c,d,e,y⟩
def law_row{l:OpenLaw}(D:l.most=some 63)(S6:l.bound=none)(hn:l.name="law")(Vh:l.writes=false)(Ra:l.row.wellSaid=true)(hb:l.prog.bare)(how:opensWell l.prog=true)
 (top:∀w,(∃s,AfterRun (opening l.prog) w s)/\∀s,AfterRun (opening l.prog) w s->∃Q,fenceModules? l.prog s=some Q/\Q.gens=#[]/\∃s₁ Y A,TopRan l.prog w Q s₁/\isTheDefsW l.prog s₁.heap l.name/\s₁.asleep/\leftWithCleanup s₁.gens=false/\Base {s₁ with gens:=#[]} Y A)
 (U:∀I:List Int,I.length<=63->∃d,d<=200/\wC d 0 [.lst<|I.map .int] [] λv y=>v=.bool true):l.row.Holds:=by
 have Rb:∀args:List WData,l.row.toRowW.claim.pre args=true->∃I:List Int,args=[.list<|I.map .int]/\I.length<=63:=λargs h=>aI h λO H=>by
  obtain⟨I,rfl⟩:=zj O;refine⟨I,rfl,pg λq=>?_⟩;have H:l.pre.holds [] {args:=[.list<|I.map .int]}=true:=H;unfold OpenLaw.pre at H;rw[D,S6]at H;have e:decide ((63:Int)<(I.map WData.int).length)=true:=eb<|by rw[a9];exact I3.2 q
  exact ff<|(cg (λd=>WTm.holds [] (.and (.not<|.lit<|.bool d)<|.lit<|.bool true) {args:=[.list<|I.map .int]}) e).symm.trans H
 have Ou:l.row.toRowW.promised:=by
  refine⟨[.list []],?_,?_⟩
  .show(WShape.hasAll [] [.list []] [.list .int]&&l.pre.holds [] {args:=[.list []]})=true;unfold OpenLaw.pre;rw[D,S6];rfl
  .show(WData.layableAll [.list []]&&(_||List.all [] _))=true;rw[show List.all ([]:List<|ExcName×WTm) _=true from rfl,Bool.or_true];rfl
 refine⟨Ra,Ou,⟨hb,how,rfl⟩,Ou.witness,λw=>⟨(top w).1,λs hs=>?_⟩⟩;refine bC λG=>?_;obtain⟨Q,O,H,s₁,Y,A,h3,h4,h5,h6,base⟩:=(top w).2 s hs;refine G<|⟨Q,O,H,s₁,h3,λn tS=>?_,λx j=>(nomatch j),λx j=>(nomatch j),?_⟩
 .obtain rfl:=dt.1<|show n∈[l.name]from tS;exact h4
 intro args hp Rd ord Re;refine bC λG=>?_;obtain⟨I,rfl,hlen⟩:=Rb args hp;obtain⟨⟨N,m⟩,f⟩:=Gz.mp<|layAllW_isSome (cl:=classAt s₁.heap) (P:=w.params) (ord:=ord) (R:=[]) (λc hc=>nomatch hc) [.list<|I.map .int] [.list .int] s₁ (pre_splitW hp).1;have keeps:=layAllW_keeps _ _ _ f;have J:=layAllW_rest _ _ _ f;obtain⟨d,hd,U⟩:=U I hlen
 have call:=Fi (k:=⟨l.prog,w,Y,A,{s₁ with gens:=#[]}⟩) (s:={m with gens:=#[]}) base keeps ⟨rfl,J.2.2.1,J.2.1⟩ hd (zk (s₁:=m) f hlen|>.on ⟨sA _,λa o N n e d hn=>⟨λz=>z.elim (λT=>by obtain⟨p,h,_⟩:=T;exact List.not_mem_nil h) id,e⟩⟩) U
 obtain⟨k,r,u,Ll,Ov,⟨rfl,hk,Vi⟩⟩:=zi (prog:=l.prog) (w:=w) (s:=m) (R:=λr u=>r=.ok (.ret<|.bool true)/\(∀b o,m.heap.get? b=some o->u.heap.get? b=some o)/\u.os=m.os)
  (Shared.asleep_of_life J.2.2.2 h5) (by rw[show m.gens=s₁.gens from J.1];exact h6)
  (ai call (λfin u T=>have q1:=T.1;have q2:=T.2.1;have q3:=T.2.2.1;have q4:=T.2.2.2;⟨_,q1,⟨rfl,q2,q4⟩,q3⟩) λy y q=>q.elim)
 obtain⟨as,Vj,-⟩:=reads_layAllW Re _ _ _ f Rd u.heap hk
 refine G ?_;have Ow:l.row.toRowW.claim.post [.list<|I.map .int] (.bool true) [.list<|I.map .int]=true:=by show(WShape.has [] (.bool true) .bool&&WTm.holds [] (.eq .res<|.lit<|.bool true) {args:=[.list<|I.map .int],res:=some<|.bool true,after:=[.list<|I.map .int]})=true;kernel_rfl
 refine Vg (a:=N) (b:=m) f (c:=k) (d:=_) (e:={u with gens:=m.gens}) ⟨(by show schedN _ _ _ _ (.single m<|callStub l.name N)=_;rw[hn];exact Ll),.inl ⟨.bool true,rfl,λcls=>rfl,⟨.bool true,[.list<|I.map .int],[],as,.bool true,Vj,Ow,λy=>⟨List.nodup_nil,λa M=>(nomatch M),λa M=>(nomatch M)⟩,λy y=>ident_freeW rfl rfl rfl _ _⟩,λi L=>(nomatch L),λb o e y y y=>.inl<|hk b o e,λi L=>(nomatch L)⟩,
  λy i x j=>?_,λq=>?_,?_,?_⟩
 .rw[<-j];exact cg (·[i]?) J.1
 .rw[show l.row.writes=l.writes from rfl,Vh]at q;exact nomatch q
 .exact cg Life.seen<|Ov.trans J.2.2.2
 .exact Shared.rest_eq<|Vi.trans J.2.2.1
end
end
noncomputable def le(n:Nat):Nat->List UInt8
 |0=>[]|s+1=>UInt8.ofNat (n%256)::le (n/256) s
noncomputable def num:List UInt8->Nat
 |[]=>0|b::r=>b.toNat+256*num r
def bD(n s:Nat):(le n s).length=s:=by induction s generalizing n with|zero=>rfl|succ s i=>exact cg (·+1)<|i _
def Fj(n s:Nat)(h:n<256^s):num (le n s)=n:=by induction s generalizing n with
 |zero=>simp at h;subst h;rfl|succ s i=>
  have H:n/256<256^s:=by rw[Nat.pow_succ]at h;exact Nat.div_lt_of_lt_mul<|by rw[Nat.mul_comm];exact h
  show(UInt8.ofNat<|n%256).toNat+256*num (le (n/256) s)=n;rw[i _ H];have:(UInt8.ofNat<|n%256).toNat=n%256:=by simp
  exact i3 (Ja [_,_,_,_] [⟨2,.v 0,.v 1⟩,⟨2,.a (.m 256<|.v 2)<|.v 1,.v 3⟩] ⟨0,.a (.v 0)<|.m 256<|.v 2,.v 3⟩ 1 [1,1] rfl this (xW (n) 256))<|Ja [_,_,_,_] [⟨3,.v 0,.v 1⟩,⟨3,.a (.m 256<|.v 2)<|.v 1,.v 3⟩] ⟨0,.v 3,.a (.v 0)<|.m 256<|.v 2⟩ 1 [1,1] rfl this (xW (n) 256)
def le_eq(n s:Nat):le n s=(List.range s).map λi=>UInt8.ofNat (n/256^i%256):=by induction s generalizing n with|zero=>rfl|succ s I=>rw[List.range_succ_eq_map,ik,gY];show UInt8.ofNat (n%256)::le (n/256) s=_;rw[I];refine congr (cg _<|by simp)<|lF λi z=>?_;show _=UInt8.ofNat (n/256^(i+1)%256);rw[Nat.div_div_eq_div_mul,Nat.pow_succ,Nat.mul_comm 256]
def le64(n:Nat)(h:n<18446744073709551616):small (n:Int)=true:=(eb h:decide (n<18446744073709551616)=true)
def p256(h:s<=8):256^s<=256^8:=Nat.pow_le_pow_right (by decide) h
def gd(h:c=true)(e:i=j):(fW c i).map V.int=some (.int j):=by subst e;rw[h];rfl
def Rf{s:Nat}(h:s<=64):decide ((0:Int)<=(s:Int)/\(s:Int)<=64)=true:=eb ⟨wX s,xt.2 h⟩
def Cd(h:a=true)(k:b=true):(a&&b)=true:=jT.2 ⟨h,k⟩
def zl(a s:Nat)(H:a<18446744073709551616)(h:s<=64):k7 .pow (.int a) (.int s)=some (.int ((a^s:Nat):Int)):=gd (Cd (le64 a H)<|Rf h) (Int.natCast_pow a s).symm
def qr(a b:Nat)(H:a<18446744073709551616)(z:b<18446744073709551616):k7 .mul (.int a) (.int b)=some (.int ((a*b:Nat):Int)):=gd (Cd (le64 a H)<|le64 b z) rfl
def wR(a b:Nat):Int.fmod (a:Int) b=((a%b:Nat):Int):=Int.fmod_eq_emod_of_nonneg _<|wX b
def wU(a b:Nat):Int.fdiv (a:Int) b=((a/b:Nat):Int):=Int.fdiv_eq_ediv_of_nonneg _<|wX b
def Lm(a s:Nat)(h:s<=64):k7 .shr (.int a) (.int s)=some (.int ((a/2^s:Nat):Int)):=gd (Rf h)<|(cg (Int.fdiv a) (Int.natCast_pow 2 s).symm).trans<|wU a<|2^s
def Lo(a s:Nat)(H:a<18446744073709551616)(h:s<=64):k7 .shl (.int a) (.int s)=some (.int ((a*2^s:Nat):Int)):=gd (Cd (le64 a H)<|Rf h)<|cg ((a:Int)*·) (Int.natCast_pow 2 s).symm
def HM(a:Nat):k7 .band (.int a) (.int 255)=some (.int ((a%256:Nat):Int)):=gd (Cd (eb<|wX a) rfl)<|wR a 256
def nz{b:Nat}(H:0<b):decide ((b:Int)≠0)=true:=eb λe=>Nat.ne_of_gt H<|mj e
def ur(a b:Nat)(H:0<b):k7 .mod (.int a) (.int b)=some (.int ((a%b:Nat):Int)):=gd (nz H)<|wR a b
def ut(a b:Nat)(H:0<b)(h:b<1073741824):k7 .div (.int a) (.int b)=some (.int ((a/b:Nat):Int)):=gd (Cd (nz H)<|eb (p:=(b:Int).natAbs<1073741824) h)<|wU a b
def add_bytes(h:a.length+b.length<=big):k7 .add (.bytes a) (.bytes b)=some (.bytes<|a++b):=er h
def add_str(h:a.length+b.length<=big):k7 .add (.str a) (.str b)=some (.str<|a++b):=er h
def cP(h:a.length+b.length<=big):k7 .add (.lst a) (.lst b)=some (.lst<|a++b):=er h
def ints_map(l:List α)(f:α->Int):rN (l.map λa=>.int<|f a)=some (l.map f):=by induction l with|nil=>rfl|cons a r i=>exact(cg (Option.map _) i).trans rfl
def Lp{α:Type}(l:List α)(f:α->Nat)(h:∀a∈l,f a<256):((l.map λa=>(f a:Int)).all λi=>decide (0<=i/\i<256))=true:=ft.2 λi m=>by exact bL m λa H=>eb ⟨wX _,I3.2<|h a H⟩
def S7(l:List α)(f:α->Nat):((l.map λa=>(f a:Int)).map λi=>UInt8.ofNat i.toNat)=l.map λa=>UInt8.ofNat (f a):=gY
def S8{n:Nat}(h:n<=1000000):-1000000<=(n:Int)/\(n:Int)<=1000000:=⟨I8 (by decide)<|wX n,xt.2 h⟩
def uu{d n s:Nat}(h:n<256^s)(z:s<=8)(k:Q (.bytes<|le n s) H):wC (d+1) 77 [.int n,.int s] H Q:=by
 have p:=p256 z;refine av rfl rfl (aY rfl (aa (zl 256 s (by decide)<|Ja [_] [⟨0,.v 0,.n 8⟩] ⟨0,.v 0,.n 64⟩ 1 [1] rfl z) ?_));refine aJ (by rw[eb<|I3.2 h];rfl) ?_;refine dT (S8<|c0 z<|by decide) ?_;refine b8 (List.range s) (λi=>.int (i:Nat)) (λi=>.int ((n/256^i%256:Nat):Int)) (λi I Q q=>?_) ?_
 .have:=Dw.1 I;refine aa (qr 8 i (by decide)<|Ja [_,_] [⟨0,.v 0,.n 8⟩,⟨1,.v 1,.v 0⟩] ⟨1,.v 1,.n 18446744073709551616⟩ 1 [1,1] rfl z this)<|aa (Lm n (8*i)<|Ja [_,_] [⟨0,.v 0,.n 8⟩,⟨1,.v 1,.v 0⟩] ⟨0,.m 8<|.v 1,.n 64⟩ 1 [8,8] rfl z this)<|aa (HM _) ?_;rw[show(256:Nat)=2^8 from rfl,<-Nat.pow_mul]at q;exact q
 .refine aa (ints_map _ _)<|aY (Lp _ _ λi y=>Nat.mod_lt _<|by decide) ?_;rw[S7,<-le_eq];exact k
def HN(l:List α)(f:α->V)(k:Nat):mD k (l.map f)=(l.zipIdx k).map λp=>.tup [.int (p.2:Nat),f p.1]:=by induction l generalizing k with|nil=>rfl|cons a r i=>exact cg _<|i<|k+1
def HO(l:List UInt8)(k:Nat)(a:Int):(((l.zipIdx k).map λp=>((p.1.toNat*2^(8*p.2):Nat):Int)).foldl (·+·) a)=a+((256^k*num l:Nat):Int):=by induction l generalizing k a with|nil=>exact(Int.add_zero a).symm|cons b r i=>show List.foldl _ (a+_) _=_;rw[i,show num (b::r)=b.toNat+256*num r from rfl,Nat.mul_add,Nat.pow_succ,Nat.mul_assoc,<-Nat.mul_comm b.toNat];show a+((b.toNat*2^(8*k):Nat):Int)+_=_;rw[Nat.pow_mul,Int.add_assoc,<-Int.natCast_add]
def km(h:l.length<=8)(k:Q (.int<|num l) H):wC (d+1) 76 [.bytes l] H Q:=by
 refine av rfl rfl ?_;show d8 _ _ _ _ none (mD 0 _) _ _;rw[HN];refine b8 _ _ (λp=>.int ((p.1.toNat*2^(8*p.2):Nat):Int)) (λp y Q q=>?_) ?_
 .have z:=(List.mem_zipIdx y).2.1;have x:=p.1.toNat_lt;exact aa (qr 8 p.2 (by decide)<|Ja [_,_] [⟨0,.v 0,.n 8⟩,⟨1,.v 1,.a (.n 0)<|.v 0⟩] ⟨1,.v 1,.n 18446744073709551616⟩ 1 [1,1] rfl h z)<|aa (Lo p.1.toNat (8*p.2) (Ja [_] [⟨1,.v 0,.n 256⟩] ⟨1,.v 0,.n 18446744073709551616⟩ 1 [1] rfl x)<|Ja [_,_] [⟨0,.v 0,.n 8⟩,⟨1,.v 1,.a (.n 0)<|.v 0⟩] ⟨0,.m 8<|.v 1,.n 64⟩ 1 [8,8] rfl h z) q
 .refine aa (ints_map l.zipIdx λp=>((p.1.toNat*2^(8*p.2):Nat):Int)) ?_;show Q (.int _) H;rw[HO l 0 0];simpa using k
section
def Tx(t:List Nat):Prop:=∀c∈t,32<=c/\c<127
noncomputable def tB(t:List Nat):List UInt8:=t.map UInt8.ofNat
def Lq(t:List Nat):List UInt8:=le (tB t).length 1++tB t
def qs(t:List Nat):(tB t).length=t.length:=a9 _
noncomputable def zs(n:Nat):List UInt8:=List.replicate n 0
def vT [Decidable p]{Q:VP}{H:Hp}(h:p)(k:Q (.bool true) H):Q (.bool<|decide p) H:=by rw[eb h];exact k
def sC(l:List α)(f:α->Bool):oT (l.map λa=>.bool<|f a)=some (l.map f):=by induction l with|nil=>rfl|cons a r I=>exact(cg (Option.map _) I).trans rfl
def Jl{α:Type}(l:List α):(l.map λz=>true).all id=true:=ft.2 λb m=>by refine bL m λ_ _=>?_;rfl
def strs_map{α:Type}(l:List α)(f:α->List Nat):strs? (l.map λa=>.str<|f a)=some (l.map f):=by induction l with|nil=>rfl|cons a r I=>exact(cg (Option.map _) I).trans rfl
def hO{d:Nat}{H:Hp}{Q:VP}(ht:Tx t)(k:Q (.bytes<|tB t) H):wC (d+1) 78 [.str t] H Q:=by
 refine av rfl rfl (b8 t (λc=>.str [c]) (λc=>.int (c:Nat)) (λc y Q q=>q) ?_);refine b8 t (λc=>.int (c:Nat)) (λz=>.bool true) (λc y Q q=>?_) ?_
 .have:=ht c y;exact dT (Ja [_] [⟨0,.n 32,.v 0⟩] ⟨8,.n 32,.v 0⟩ 1 [1] rfl this.1)<|vT (Q:=Q) (Ja [_] [⟨1,.v 0,.n 127⟩] ⟨9,.v 0,.n 127⟩ 1 [1] rfl this.2) q
 .refine aa (sC t λz=>true)<|aJ (by rw[Jl];rfl)<|aa (ints_map t _)<|aY (Lp t _ λc y=>Nat.lt_trans (ht c y).2<|by decide) ?_;rw[S7];exact k
def join_nil(t:List Nat):cM [] (t.map λc=>[c])=t:=by induction t with
 |nil=>rfl|cons c r I=>induction r using List.casesOn with|nil=>rfl|cons b r=>exact cg (c::·) I
def qt{d:Nat}{H:Hp}{Q:VP}(ht:Tx t)(L:t.length<=big)(k:Q (.str t) H):wC (d+1) 79 [.bytes<|tB t] H Q:=by
 have z:∀c∈t,(UInt8.ofNat c).toNat=c:=λc y=>by have:=ht c y;simp;exact Ja [_] [⟨1,.v 0,.n 127⟩] ⟨1,.v 0,.n 256⟩ 1 [1] rfl this.2
 have e:(tB t).map (λc=>V.int c.toNat)=t.map λc=>.int (c:Nat):=by rw[tB,gY];exact lF λc y=>cg (λn:Nat=>V.int n)<|z c y
 refine av rfl rfl ?_;show d8 _ _ _ _ none (List.map _ _) _ _;rw[e];refine b8 t (λc=>.int (c:Nat)) (λx=>.bool true) (λc y Q q=>?_) ?_
 .have:=ht c y;exact dT (Ja [_] [⟨0,.n 32,.v 0⟩] ⟨8,.n 32,.v 0⟩ 1 [1] rfl this.1)<|vT (Q:=Q) (Ja [_] [⟨1,.v 0,.n 127⟩] ⟨9,.v 0,.n 127⟩ 1 [1] rfl this.2) q
 .refine aa (sC t λx=>true)<|aJ (by rw[Jl];rfl) ?_;show d8 _ _ _ _ none (List.map _ _) _ _;rw[e];refine b8 t (λc=>.int (c:Nat)) (λc=>.str [c]) (λc y Q q=>dT ⟨xt.2 (ht c y).1,I3.2 (ht c y).2⟩ q) ?_;have j:=join_nil t;exact aa (strs_map t λc=>[c])<|dT (by rw[j];exact L)<|j.symm▸k
def toNat_sub'(a b:Nat):((a:Int)-(b:Int)).toNat=a-b:=Int.toNat_sub a b
def Jm(a b:Nat):(if(0:Int)<(a:Int)-(b:Int)then(a:Int)-(b:Int)else 0)=((a-b:Nat):Int):=by
 rcases Nat.le_total a b with h|h;.rw[Nat.sub_eq_zero_of_le h,ej<|G7.2<|Int.sub_nonpos_of_le<|xt.2 h];rfl
 .rw[Int.ofNat_sub h];by_cases e:(0:Int)<(a:Int)-(b:Int);.exact er e
  .rw[ej e];exact Int.le_antisymm (Int.sub_nonneg_of_le<|xt.2 h)<|G7.1 e
def Rg{n:Nat}(h:n<=1000000):0<=(n:Int)/\(n:Int)<=1000000:=⟨wX _,xt.2 h⟩
def Rh{a b:Nat}(h:b<=a)(A:a<=1000000):0<=(a:Int)-b/\(a:Int)-b<=1000000:=by rw[<-Int.ofNat_sub h];exact Rg<|c0 (vC a b) A
def Ce{d:Nat}{l:List UInt8}{s:Nat}{H:Hp}{Q:VP}(h:l.length<=s)(z:s<=1000000)(k:Q (.bytes<|l++zs (s-l.length)) H):wC (d+1) 75 [.bytes l,.int s] H Q:=by
 refine av rfl rfl (dF (Ja [_,_] [⟨0,.v 0,.v 1⟩] ⟨13,.v 1,.v 0⟩ 1 [1] rfl h)<|dT (Rh h z)<|aa (add_bytes ?_) ?_);.rw[ra,toNat_sub'];have:big=16777216:=rfl;exact Ja [_,_,_] [⟨0,.v 0,.n 1000000⟩,⟨2,.a (.v 1)<|.v 2,.v 0⟩] ⟨0,.a (.v 2)<|.v 1,.n 16777216⟩ 1 [1,1] rfl z (zy<|Ja [_,_] [⟨0,.v 0,.v 1⟩] ⟨0,.v 0,.v 1⟩ 1 [1] rfl h)
 .rw[toNat_sub'];exact k
def aE(H:Hp)(F:List<|Nat×Ob):Prop:=F.Pairwise (λp q=>p.1≠q.1)/\∀p∈F,H[p.1]?=some p.2
variable{H:Hp}{F G:List (Nat×Ob)}{a:Nat}{o o':Ob}
def m0{a:α}{l:List α}:a∈a::l:=.head _
def m1{a b:α}{l:List α}:a∈b::a::l:=.tail _<|.head _
def m2{a b c:α}{l:List α}:a∈b::c::a::l:=.tail _<|.tail _<|.head _
def m3{a b c d:α}{l:List α}:a∈b::c::d::a::l:=.tail _<|.tail _<|.tail _<|.head _
def aE.at(h:aE H F)(m:(a,o)∈F):H[a]?=some o:=h.2 _ m
theorem aE.rd(h:aE H F)(m:(a,o)∈F):rd H a=some o.base:=by unfold Mine.rd;rw[h.at m];rfl
def aE.lt(h:aE H F)(m:(a,o)∈F):a<H.length:=(f5.1<|h.at m).1
def aE.app(h:aE H F)(J:Hp):aE (H++J) F:=⟨h.1,λp m=>by rw[List.getElem?_append_left<|h.lt m];exact h.2 p m⟩
def aE.new(h:aE H F)(o:Ob):aE (H++[o]) ((H.length,o)::F):=
 ⟨.cons (λp m e=>Nat.lt_irrefl _<|e▸h.lt (a:=p.1) (o:=p.2) m) h.1,λp m=>by
   cases m with|head=>simp|tail _ m=>exact(h.app [o]).2 p m⟩
theorem aE.set(h:aE H<|(a,o)::F)(o':Ob):aE (H.set a o') ((a,o')::F):=by
 have p:=rj.1 h.1;refine⟨.cons (λq m=>p.1 q m) p.2,λq m=>?_⟩
 cases m with|head=>exact List.getElem?_set_self<|h.lt m0|tail _ m=>exact(List.getElem?_set_ne<|p.1 q m).trans<|h.2 q<|.tail _ m
def aE.perm(h:aE H F)(p:F.Perm G):aE H G:=⟨(p.pairwise_iff λe=>Dq e).1 h.1,λq m=>h.2 q<|p.symm.subset m⟩
def aE.sub(h:aE H F)(s:G.Sublist F):aE H G:=⟨h.1.sublist s,λq m=>h.2 q<|s.subset m⟩
def aE.tl(h:aE H<|p::F):aE H F:=h.sub<|List.sublist_cons_self _ _
theorem aE.swap(h:aE H<|p::q::F):aE H (q::p::F):=h.perm<|.swap _ _ _
def aE.lW(h:aE H<|p::(a,o)::F)(o':Ob):aE (H.set a o') (p::(a,o')::F):=(h.swap.set o').swap
noncomputable def Jn(s b:Nat)(l:List UInt8)(F:List<|Nat×Ob):List (Nat×Ob):=(s,.inst 6 [(32,.ref b)])::(b,.iy l)::F
noncomputable def HP(c:Nat)(l:List UInt8)(i:Nat)(F:List<|Nat×Ob):List (Nat×Ob):=(c,.inst 7 [(32,.bytes l),(49,.int i)])::F
variable{d:Nat}{Q:VP}{s b c:Nat}{l:List UInt8}{i:Nat}
def wV(h:aE H F)(k:∀H' b,aE H' (Jn H.length b [] F)->Q .none H'):wC (d+1) 80 [.ref H.length] (H++[.inst 6 []]) Q:=by have z:=(h.new<|.inst 6 []).new<|.iy [];exact av rfl rfl (aa (z.at m1)<|k _ _<|z.swap.set _)
def a8(h:aE H<|Jn s b l F)(N:n<256^z)(hz:z<=8)(L:l.length+z<=1000000)(k:∀H',aE H' (Jn s b (l++le n z) F)->Q .none H'):wC (d+2) 81 [.ref s,.int n,.int z] H Q:=
 av rfl rfl (aa (h.rd m0)<|aa (h.rd m1)<|uu N hz<|aa (h.at m1)<|dT (by rw[bD];exact L)<|k _<|h.lW _)
def Cf(h:aE H<|Jn s b l F)(ht:Tx t)(N:t.length<256)(L:l.length+(1+t.length)<=1000000)(k:∀H',aE H' (Jn s b (l++Lq t) F)->Q .none H'):wC (d+3) 82 [.ref s,.str t] H Q:=by
 have e:=qs t;refine av rfl rfl (hO ht<|aa (h.rd m0) ?_);refine a8 (z:=1) h (by rw[e];exact N) (by decide) (Ja [_,_] [⟨0,.a (.v 0)<|.a (.n 1)<|.v 1,.n 1000000⟩] ⟨0,.a (.v 0)<|.n 1,.n 1000000⟩ 1 [1] rfl L) λx y=>aa (y.rd m0)<|aa (y.rd m1)<|aa (y.at m1)<|dT ?_<|k _ ?_;.rw[b9,bD,e];exact Ja [_,_] [⟨0,.a (.v 0)<|.a (.n 1)<|.v 1,.n 1000000⟩] ⟨0,.a (.a (.v 0)<|.n 1)<|.v 1,.n 1000000⟩ 1 [1] rfl L
 .rw[Lq,<-ee];exact y.lW _
def qu(h:aE H<|Jn s b l F)(k:Q (.bytes l) H):wC (d+1) 83 [.ref s] H Q:=
 av rfl rfl (aa (h.rd m0)<|aa (h.rd m1) k)
def zm(h:aE H F)(k:∀H',aE H' (HP H.length l i F)->Q .none H'):wC (d+1) 84 [.ref H.length,.bytes l,.int i] (H++[.inst 7 []]) Q:=by have z:=h.new<|.inst 7 [];exact av rfl rfl (aa (z.at m0)<|aa ((z.set _).at m0)<|k _<|(z.set _).set _)
def wW(h:aE H F)(k:∀H',aE H' (HP H.length l 0 F)->Q .none H'):wC (d+1) 84 [.ref H.length,.bytes l] (H++[.inst 7 []]) Q:=by have z:=h.new<|.inst 7 [];exact av rfl rfl (aa (z.at m0)<|aa ((z.set _).at m0)<|k _<|(z.set _).set _)
def cQ(n m k:Nat):clamp n k (.int (m:Nat))=some (min m n):=by exact(ej (c:=(m:Int)<0) (t:=some ((m:Int)+n).toNat)<|Ja [_] [] ⟨13,.v 0,.n 0⟩ 1 [] rfl).trans rfl
def As{l:List UInt8}{i j:Nat}(h:i+j<=l.length):c9 (.bytes l) (.int i) (.int (i+j:Nat))=some (.bytes<|(l.drop i).take j):=by show(clamp l.length 0<|.int (i:Nat)).bind (λa=>(clamp l.length l.length<|.int (i+j:Nat)).map λb=>V.bytes<|cut l a b)=_;rw[cQ,cQ];show some (V.bytes<|cut _ _ _)=_;rw[cut,GX<|(show i<=l.length from Ja [_,_,_] [⟨0,.a (.v 0)<|.v 1,.v 2⟩] ⟨0,.v 0,.v 2⟩ 1 [1] rfl h),GX h,List.drop_take,Nat.add_sub_cancel_left]
def nh{x r:List UInt8}(h:aE H<|HP c l i F)(e:l.drop i=x++r)(I:i<=l.length)(k:∀H',aE H' (HP c l (i+x.length) F)->l.drop (i+x.length)=r->i+x.length<=l.length->Q (.bytes x) H'):wC (d+2) 86 [.ref c,.int x.length] H Q:=by
 have u:l.drop (i+x.length)=r:=by rw[<-List.drop_drop,e,List.drop_left]
 have L:i+x.length<=l.length:=by have:=cg List.length e;rw[ye,b9]at this;exact Ja [_,_,_,_,_] [⟨3,.v 0,.a (.v 1)<|.v 2⟩,⟨2,.a (.v 0)<|.v 3,.v 4⟩] ⟨0,.a (.v 3)<|.v 1,.v 4⟩ 1 [1,1] rfl this (zy<|Ja [_,_] [⟨0,.v 0,.v 1⟩] ⟨0,.v 0,.v 1⟩ 1 [1] rfl I)
 have z:=As L;rw[e,List.take_left]at z;refine av rfl rfl (aa (h.rd m0) ?_);refine av rfl rfl (aa (h.rd m0)<|aa (h.rd m0)<|dF (λq=>G7.2 (Int.le_sub_left_of_add_le<|xt.2 L) q) ?_);exact aa (h.rd m0)<|aa (h.rd m0)<|aa (h.rd m0)<|aa z<|aa (h.rd m0)<|aa (h.at m0)<|k _ (h.set _) u L
def bg(h:aE H<|HP c l i F)(e:l.drop i=le n z++r)(I:i<=l.length)(N:n<256^z)(hz:z<=8)(k:∀H',aE H' (HP c l (i+z) F)->l.drop (i+z)=r->i+z<=l.length->Q (.int n) H'):wC (d+3) 87 [.ref c,.int z] H Q:=by refine av rfl rfl (aa (h.rd m0) ?_);have t:=λQ=>@nh H F d Q c l i (le n z) r h e I;rw[bD]at t;refine t _ λH' y u j=>km (by rw[bD];exact hz) ?_;rw[Fj n z N];exact k _ y u j
def wY(h:aE H<|HP c l i F)(e:l.drop i=Lq t++r)(I:i<=l.length)(ht:Tx t)(N:t.length<256)(k:∀H' j,aE H' (HP c l j F)->l.drop j=r->j<=l.length->Q (.str t) H'):wC (d+4) 88 [.ref c] H Q:=by rw[Lq,ee]at e;refine av rfl rfl (aa (h.rd m0) ?_);refine aa (h.rd m0)<|bg (z:=1) h e I (by rw[qs];exact N) (by decide) λf y x L=>?_;exact nh y x L λY u p m=>qt ht (rh<|Nat.lt_trans N<|by decide)<|k _ _ u p m
end
section
def qv{body:Loc->Hp->LP->VP->LP->Prop}{K:LP}(I:List α->LP)
 (step:∀a r L H (F:LP),I (a::r) L H->(∀L H,I r L H->F L H)->wM (cW t (i a) L) λz=>body z H F T F)
 (fin:∀L H,I [] L H->K L H):∀l L H,I l L H->i8 body t none K T (l.map i) L H:=by
 intro l
 induction l with|nil=>exact fin|cons a r y=>exactλL H h=>step a r L H _ h y
abbrev Rw:=List Nat×Nat
noncomputable def rV(l:List Rw):List V:=l.map λr=>.tup [.str r.1,.int r.2]
def Fk(a b:List Rw):rV (a++b)=rV a++rV b:=e7
def Ri(r:Rw):Prop:=Tx r.1/\r.1.length<256/\r.2<256^8
def rB(r:Rw):List UInt8:=Lq r.1++le r.2 8
def mB(s:Nat)(l:List Rw):List UInt8:=((([]++le 1 1)++le s 4)++le l.length 2)++l.flatMap rB
noncomputable def mL(l:List Rw):Nat:=7+(l.map λr=>r.1.length+9).sum
def At(t:List Nat):(Lq t).length=t.length+1:=by simp[Lq,qs,bD,Nat.add_comm]
def Fl(r:Rw):(rB r).length=r.1.length+9:=by simp[rB,At,bD]
def uv(s:Nat)(l:List Rw):(mB s l).length=mL l:=by
 have:(l.flatMap rB).length=(l.map λr=>r.1.length+9).sum:=by rw[List.length_flatMap,lF λr z=>Fl r]
 simp[mB,mL,bD,this];exact i3 (Ja [_] [] ⟨0,.a (.n 1)<|.a (.n 4)<|.a (.n 2)<|.v 0,.a (.n 7)<|.v 0⟩ 1 [] rfl)<|Ja [_] [] ⟨0,.a (.n 7)<|.v 0,.a (.n 1)<|.a (.n 4)<|.a (.n 2)<|.v 0⟩ 1 [] rfl
variable{H:Hp}{F:List (Nat×Ob)}{d:Nat}{Q:VP}
def og(h:aE H F)(U:∀r∈l,Ri r)(O:s<256^4)(N:l.length<256^2)(x:mL l<=z)(hz:z<=1000)
 (k:∀H',aE H' F->Q (.bytes<|mB s l++zs (z-mL l)) H'):wC (d+5) 72 [.int s,.lst<|rV l,.int z] H Q:=by
 refine av rfl rfl<|wV h λH1 b u=>?_;generalize H.length=a at u⊢;refine aa (u.rd m0)<|a8 (n:=1) (z:=1) u (by decide) (by decide) (by decide) λH2 f=>aa (f.rd m0) ?_;refine a8 (z:=4) f O (by decide) (by simp[bD]) λH3 T=>aa (T.rd m0) ?_;refine a8 (n:=(rV l).length) (z:=2) T (by rw[rV,a9];exact N) (by decide) (by simp[bD]) λH4 c=>?_;have e:(rV l).length=l.length:=a9 _;rw[e]at c;refine qv (λr L H=>∃q,q++r=l/\aE H (Jn a b (((([]++le 1 1)++le s 4)++le l.length 2)++q.flatMap rB) F)/\L 114=some (.ref a)/\L 82=some (.int z)) ?_ ?_ l _ _ ⟨[],rfl,by rw[List.flatMap_nil,hE];exact c,rfl,rfl⟩
 .intro r t L M K p J;refine bC λG=>?_;obtain⟨q,e,m,A,y⟩:=p;refine G ?_;have I:r∈l:=e▸ec _ (.head _);have j:=U r I
  have Y:(((([]++le 1 1)++le s 4)++le l.length 2)++q.flatMap rB).length+(r.1.length+9)<=1000:=by
   have i:(mB s<|q++r::t).length<=1000:=by rw[uv,e];exact Ja [_,_] [⟨0,.v 0,.v 1⟩,⟨0,.v 1,.n 1000⟩] ⟨0,.v 0,.n 1000⟩ 1 [1,1] rfl x hz
   simp only[mB,xl,sZ,b9,Fl,bD]at i⊢;exact Ja [_,_,_] [⟨0,.a (.n 7)<|.a (.v 0)<|.a (.a (.v 1)<|.n 9)<|.v 2,.n 1000⟩] ⟨0,.a (.a (.n 7)<|.v 0)<|.a (.v 1)<|.n 9,.n 1000⟩ 1 [1] rfl i
  refine ae rfl (ae A<|aa (m.rd m0) ?_);refine Cf m j.1 j.2.1 (Ja [_,_] [⟨0,.a (.v 0)<|.a (.v 1)<|.n 9,.n 1000⟩] ⟨0,.a (.v 0)<|.a (.n 1)<|.v 1,.n 1000000⟩ 1 [1] rfl Y) λH6 i=>ae A<|aa (i.rd m0)<|a8 (z:=8) i j.2.2 (by decide) (by rw[b9,At];exact Ja [_,_] [⟨0,.a (.v 0)<|.a (.v 1)<|.n 9,.n 1000⟩] ⟨0,.a (.a (.v 0)<|.a (.v 1)<|.n 1)<|.n 8,.n 1000000⟩ 1 [1] rfl Y) λH7 D=>?_;refine J _ _ ⟨q++[r],by rw[<-e,ee];rfl,?_,A,y⟩;rw[xl,List.flatMap_singleton,rB,<-ee,<-ee];exact D
 .intro L M p;refine bC λG=>?_;obtain⟨q,e,m,A,y⟩:=p;refine G ?_;rw[hE]at e;subst e;have e:(mB s q).length=mL q:=uv s q;refine ae A<|aa (m.rd m0)<|qu m<|ae y<|dT (by have:_=mL q:=uv s q;exact xt.2<|this▸x)<|ae y<|Ce (e▸x) (Ja [_] [⟨0,.v 0,.n 1000⟩] ⟨0,.v 0,.n 1000000⟩ 1 [1] rfl hz) ?_;have:=k _ m.tl.tl;rw[<-e]at this;exact this
def rG(h:aE H F)(T:∀r∈l,Ri r)(N:l.length<65536)
 (k:∀H',aE H' F->Q (.lst<|rV l) H'):wC (d+6) 73 [.bytes<|mB s l++z] H Q:=by
 have b:(mB s l++z).drop 7=l.flatMap rB++z:=by rw[mB,ee];exact List.drop_left'<|by simp[bD]
 have O:c9 (.bytes<|mB s l++z) (.int 5) (.int 7)=some (.bytes<|le l.length 2):=by refine(As (i:=5) (j:=2)<|by simp[mB,bD];exact Ja [_,_] [] ⟨0,.n 7,.a (.n 1)<|.a (.n 4)<|.a (.n 2)<|.a (.v 0)<|.v 1⟩ 1 [] rfl).trans ?_;rw[mB,ee,ee,List.drop_left'<|by simp[bD],List.take_left'<|by simp[bD]]
 refine av rfl rfl<|zm (i:=7) h λH1 f=>?_;generalize H.length=a at f⊢;refine aa O<|km (by rw[bD];decide) ?_;rw[Fj _ 2<|by exact N];refine dT (S8<|c0 (rh N)<|by decide) ?_;rw[Int.toNat_natCast];refine qv (α:=Nat) (λr L H=>∃q t i,q++t=l/\t.length=r.length/\aE H (HP a (mB s l++z) i F)/\(mB s l++z).drop i=t.flatMap rB++z/\i<=(mB s l++z).length/\L 116=some (.ref a)/\L 24=some (.lst<|rV q)) ?_ ?_ (List.range l.length) _ _ ⟨[],l,7,rfl,by simp,f,b,by simp[mB,bD];exact Ja [_,_] [] ⟨0,.n 7,.a (.n 1)<|.a (.n 4)<|.a (.n 2)<|.a (.v 0)<|.v 1⟩ 1 [] rfl,rfl,rfl⟩
 .intro n r L M K y J;refine bC λG=>?_;obtain⟨q,t,i,e,U,m,I,c,A,x⟩:=y;refine G ?_
  induction t using List.casesOn with
  |nil=>injection U|cons p t=>
  have u:=T p<|e▸ec _ (.head _);rw[sZ,rB,ee,ee]at I;refine ae rfl (ae A<|aa (m.rd m0) ?_);refine wY m I c u.1 u.2.1 λH6 j Y D l6=>ae x<|ae rfl (ae A<|aa (Y.rd m0) ?_);refine bg (z:=8) Y D l6 u.2.2 (by decide) λH7 h7 b l7=>dT ?_ ?_
  .have:=cg List.length e;rw[b9]at this;rw[rV,a9];exact Ja [_,_,_] [⟨1,.v 0,.n 65536⟩,⟨2,.a (.v 1)<|.v 2,.v 0⟩] ⟨1,.v 1,.n 1000000⟩ 1 [1,1] rfl N this
  .refine J _ _ ⟨q++[p],t,j+8,by rw[<-e,ee];rfl,by simpa using U,h7,b,l7,A,?_⟩;exact cg (λl=>some<|V.lst l) (Fk q [p]).symm
 .intro L M y;refine bC λG=>?_;obtain⟨q,t,i,e,U,m,I,c,A,x⟩:=y;refine G ?_
  induction t using List.casesOn with|cons p t=>injection U|nil=>rw[hE]at e;subst e;exact ae x<|k _ m.tl
structure Z where
 (sort mode size links parent made chg:Nat)
noncomputable def zF(z:Z):List (Nat×V):=[(86,.int z.sort),(31,.int z.mode),(82,.int z.size),(81,.int z.links),(102,.int z.parent),(110,.int z.made),(84,.int z.chg)]
def zB(z:Z):List UInt8:=((((([]++le z.sort 1)++le z.mode 2)++le z.size 4)++le z.links 2)++le z.parent 4++le z.made 4)++le z.chg 4
structure iW(z:Z):Prop where
 sort:z.sort<=2
 mode:z.mode<65536
 size:z.size<4294967296
 links:z.links<65536
 parent:z.parent<4294967296
 made:z.made<4294967296
 chg:z.chg<4294967296
def Lr(z:Z):(zB z).length=21:=by simp[zB,bD]
def gx(h:aE H F)(m:(a,.inst 5<|zF z)∈F)(hz:iW z)(k:∀H',aE H' F->Q (.bytes<|zB z) H'):wC (d+4) 54 [.ref a] H Q:=by refine av rfl rfl<|wV h λs b u=>?_;generalize H.length=c at u⊢;have m2 {x y l}:(a,.inst 5<|zF z)∈Jn x y l F:=.tail _<|.tail _ m;refine aa (u.rd m0)<|aa (u.rd m2)<|a8 (z:=1) u (by have:=hz.sort;exact Ja [_] [⟨0,.v 0,.n 2⟩] ⟨1,.v 0,.n 256⟩ 1 [1] rfl this) (by decide) (by decide) λs u=>aa (u.rd m0)<|aa (u.rd m2) ?_;refine a8 (z:=2) u hz.mode (by decide) (by simp[bD]) λs u=>aa (u.rd m0)<|aa (u.rd m2) ?_;refine a8 (z:=4) u hz.size (by decide) (by simp[bD]) λs u=>aa (u.rd m0)<|aa (u.rd m2) ?_;refine a8 (z:=2) u hz.links (by decide) (by simp[bD]) λs u=>aa (u.rd m0)<|aa (u.rd m2) ?_;refine a8 (z:=4) u hz.parent (by decide) (by simp[bD]) λs u=>aa (u.rd m0)<|aa (u.rd m2) ?_;refine a8 (z:=4) u hz.made (by decide) (by simp[bD]) λs u=>aa (u.rd m0)<|aa (u.rd m2) ?_;refine a8 (z:=4) u hz.chg (by decide) (by simp[bD]) λs u=>aa (u.rd m0) ?_;exact qu u<|k _ u.tl.tl
def ip(h:aE H F)(k:∀H',aE H' ((H.length,.inst 5<|zF z)::F)->Q .none H'):wC (d+1) 53 [.ref H.length,.int z.sort,.int z.mode,.int z.size,.int z.links,.int z.parent,.int z.made,.int z.chg] (H++[.inst 5 []]) Q:=by have y:=h.new<|.inst 5 [];refine av rfl rfl (aa (y.at m0) ?_);have y:=y.set<|.inst 5 [(86,.int z.sort)];refine aa (y.at m0) ?_;have y:=y.set<|.inst 5 [(86,.int z.sort),(31,.int z.mode)];refine aa (y.at m0) ?_;have y:=y.set<|.inst 5 [(86,.int z.sort),(31,.int z.mode),(82,.int z.size)];refine aa (y.at m0) ?_;have y:=y.set<|.inst 5 [(86,.int z.sort),(31,.int z.mode),(82,.int z.size),(81,.int z.links)];refine aa (y.at m0) ?_;have y:=y.set<|.inst 5 [(86,.int z.sort),(31,.int z.mode),(82,.int z.size),(81,.int z.links),(102,.int z.parent)];refine aa (y.at m0) ?_;have y:=y.set<|.inst 5 [(86,.int z.sort),(31,.int z.mode),(82,.int z.size),(81,.int z.links),(102,.int z.parent),(110,.int z.made)];exact aa (y.at m0)<|k _<|y.set _
def wZ(h:aE H F)(hz:iW z)(k:∀H' a,aE H' ((a,.inst 5<|zF z)::F)->Q (.ref a) H'):wC (d+4) 55 [.bytes<|zB z] H Q:=by
 have G:(zB z).drop 0=le z.sort 1++(le z.mode 2++(le z.size 4++(le z.links 2++(le z.parent 4++(le z.made 4++(le z.chg 4++[])))))):=by simp[zB]
 refine av rfl rfl (nF (by rw[Lr];rfl) ?_);refine wW h λx y=>?_;generalize H.length=a at y⊢;refine aa (y.rd m0)<|bg (z:=1) y G (js _) (by have:=hz.sort;exact Ja [_] [⟨0,.v 0,.n 2⟩] ⟨1,.v 0,.n 256⟩ 1 [1] rfl this) (by decide) λx y G l=>aa (y.rd m0) ?_;refine bg (z:=2) y G l hz.mode (by decide) λx y G l=>aa (y.rd m0) ?_;refine bg (z:=4) y G l hz.size (by decide) λx y G l=>aa (y.rd m0) ?_;refine bg (z:=2) y G l hz.links (by decide) λx y G l=>aa (y.rd m0) ?_;refine bg (z:=4) y G l hz.parent (by decide) λx y G l=>aa (y.rd m0) ?_;refine bg (z:=4) y G l hz.made (by decide) λx y G l=>aa (y.rd m0) ?_;refine bg (z:=4) y G l hz.chg (by decide) λx y G l=>dF (by have:=hz.sort;exact Ja [_] [⟨0,.v 0,.n 2⟩] ⟨13,.n 2,.v 0⟩ 1 [1] rfl this) ?_;exact ip (z:=z) y.tl λH' u=>k _ _ u
end
section
section dicts
variable{k v v':V}{p q:List (V×V)}
def w3:bR (p++(k,v)::q) k=true:=by simp[bR]
def HQ(z:∀e∈p,e.1≠k):bR p k=false:=by simpa [bR]usingλa b m=>z (a,b) m
def uw(z:∀e∈p,e.1≠k):p.map (λe=>if e.1=k then(e.1,v')else e)=p:=
 (lF λe m=>ej<|z e m).trans (List.map_id _)
def Fm(z:∀e∈p,e.1≠k)(y:∀e∈q,e.1≠k):dput (p++(k,v)::q) k v'=p++(k,v')::q:=by rw[dput,w3,er rfl,e7,ik,uw z,uw y,er rfl]
def dM(z:∀e∈p,e.1≠k):dput p k v=p++[(k,v)]:=by rw[dput,HQ z];rfl
def hV(z:∀e∈p,e.1≠k):bI (p++(k,v)::q) k=some v:=by rw[bI,List.find?_append,List.find?_eq_none.2 λe m=>by simpa using z e m,List.find?_cons_of_pos<|by simp];rfl
def w4(z:∀e∈p,e.1≠k)(y:∀e∈q,e.1≠k):dV (p++(k,v)::q) k=p++q:=by rw[dV,List.filter_append,nq<|by simp,sl.2 λe m=>by simpa using z e m,sl.2 λe m=>by simpa using y e m]
end dicts
structure DN where
 (n a:Nat) (k mo:V) (blk:Nat) (bo oc:List UInt8)
structure Raw where
 (blk:Nat) (bo oc:List UInt8)
noncomputable def DN.raw(d:DN):Raw:=⟨d.blk,d.bo,d.oc⟩
noncomputable def DN.cell(d:DN):Nat×Ob:=(d.a,.inst 2 [(51,d.k),(52,.int d.blk),(55,d.mo),(53,.bytes d.bo)])
noncomputable def DN.d(d:DN):V×V:=(.int d.n,.ref d.a)
noncomputable def DN.o(d:DN):V×V:=(.int d.n,.bytes d.oc)
noncomputable def Cg:List (Nat×V):=[(58,.int 16),(59,.int 32),(60,.int 32),(61,.int 4),(46,.int 4),(62,.int 4),(63,.int 2),(64,.int 128),(65,.int 192),(66,.int 160),(67,.int 128)]
def CS(m dd oo sh top:Nat)(ds:List DN)(R:List<|Nat×Ob):List (Nat×Ob):=
 (m,.inst 0 [(45,.ref sh),(46,.ref dd),(32,.ref oo),(47,.int top)])::(dd,.dict .int<|ds.map DN.d)::(oo,.dict .int<|ds.map DN.o)::(sh,.inst 1 Cg)::(ds.map DN.cell++R)
def look(ds:List DN)(n:Nat):Option Raw:=(ds.find? λd=>d.n==n).map DN.raw
abbrev Tr:=Nat->Option Raw
noncomputable def Tr.set(τ:Tr)(n:Nat)(r:Option Raw):Tr:=λx=>if x=n then r else τ x
structure wf(top:Nat)(ds:List DN):Prop where
 ord:ds.Pairwise (·.n<·.n)
 le:∀d∈ds,d.n<=top
 len:ds.length<=top
 top:top<=1000
def MS(m top:Nat)(τ:Tr)(R:List<|Nat×Ob)(H:Hp):Prop:=∃dd oo sh s,wf top s/\τ=look s/\aE H (CS m dd oo sh top s R)
def ko{p q:List DN}{d:DN}(z:∀x∈p,x.n≠d.n)(x:Nat):look (p++d::q) x=if x=d.n then some d.raw else look (p++q) x:=by
 unfold look;rw[List.find?_append,List.find?_append,EW];by_cases e:x=d.n
 .subst e;rw[List.find?_eq_none.2 λy m=>by simpa using z y m];simp
 .rw[show(d.n==x)=false from beq_false_of_ne<|Dq e,ej e]
def aE.mid{H:Hp}{A B:List (Nat×Ob)}(h:aE H<|A++(a,o)::B)(O:Ob):aE (H.set a O) (A++(a,O)::B):=
 ((h.perm FC).set O).perm FC.symm
structure Rj(m top:Nat)(τ:Tr)(R:List (Nat×Ob))(n:Nat)(r:Raw)(dd oo sh a:Nat)(k mo:V)(p q:List DN):Prop where
 hp:∀x∈p,x.n≠n
 hq:∀x∈q,x.n≠n
 qw:∀H' k' Rl (r':Raw),aE H' (CS m dd oo sh top (p++⟨n,a,k',Rl,r'.blk,r'.bo,r'.oc⟩::q) R)->MS m top (τ.set n (some r')) R H'
 gone:∀H',aE H' (CS m dd oo sh top (p++q) R)->MS m top (τ.set n none) R H'
 len:(p++⟨n,a,k,mo,r.blk,r.bo,r.oc⟩::q).length<=1000
def MS.oB{m top n:Nat}{τ:Tr}{R:List (Nat×Ob)}{H:Hp}{r:Raw}(h:MS m top τ R H)(N:τ n=some r){B:Prop}
 (K:∀dd oo sh a k O p q,Rj m top τ R n r dd oo sh a k O p q->aE H (CS m dd oo sh top (p++⟨n,a,k,O,r.blk,r.bo,r.oc⟩::q) R)->B):B:=by
 refine bC λG=>?_;obtain⟨dd,oo,sh,U,w,e,h⟩:=h;subst e;refine Gm N λd f c=>?_;obtain⟨s,p,q,e,z⟩:=List.find?_eq_some_iff_append.1 f;have s:d.n=n:=by simpa using s
 clear N;subst s c e;refine G ?_;have z:∀x∈p,x.n≠d.n:=λx m=>by simpa using z x m
 have u:=qn.1 w.ord;have i:∀x∈q,x.n≠d.n:=λx m=>Nat.ne_of_gt<|(rj.1 u.2.1).1 x m;refine K dd oo sh d.a d.k d.mo p q ⟨z,i,λb Y L l j=>⟨dd,oo,sh,_,⟨?_,?_,?_,w.top⟩,?_,j⟩,λb j=>⟨dd,oo,sh,_,⟨?_,?_,?_,w.top⟩,?_,j⟩,c0 w.len w.top⟩ h
 .exact qn.2 ⟨u.1,rj.2 ⟨(rj.1 u.2.1).1,(rj.1 u.2.1).2⟩,λx mx y M=>by
   cases M with|head=>exact u.2.2 x mx d<|.head _|tail _ M=>exact u.2.2 x mx y<|.tail _ M⟩
 .intro x mx;rcases eu.1 mx with mx|mx;.exact w.le x<|dy _ mx
  .cases mx with|head=>exact w.le d<|ec _<|.head _|tail _ mx=>exact w.le x<|ec _<|.tail _ mx
 .have:=w.len;simpa using this
 .funext x;rw[ko (d:=⟨d.n,d.a,Y,L,l.blk,l.bo,l.oc⟩) z,Tr.set,ko z];split<;>rfl
 .exact w.ord.sublist<|List.Sublist.append_left (List.sublist_cons_self _ _) p
 .exactλx mx=>w.le x<|(List.Sublist.append_left (List.sublist_cons_self _ _) p).subset mx
 .have:=w.len;simp at this⊢;exact Ja [_,_,_] [⟨0,.a (.v 0)<|.a (.v 1)<|.n 1,.v 2⟩] ⟨0,.a (.v 0)<|.v 1,.v 2⟩ 1 [1] rfl this
 .funext x;rw[Tr.set,ko z];split
  .rename_i e;clear h;subst e;rw[look,List.find?_eq_none.2 λy m=>?_];.rfl
   .rcases eu.1 m with m|m;.simpa using z y m
    .simpa using i y m
  .rfl
variable{H:Hp}{R:List (Nat×Ob)}{d m top n dd oo sh:Nat}{Q:VP}{τ:Tr}{r:Raw}{p q:List DN}{D:DN}
def Fn{α:Type}{f:α->V×V}{g:α->Nat}{l:List α}{n:Nat}(z:∀x,(f x).1=.int (g x))(h:∀x∈l,g x≠n):∀e∈l.map f,e.1≠V.int (n:Nat):=by intro e m;refine bL m λx Y=>?_;rw[z];exactλe=>h x Y<|mj<|V.int.inj e
def eF(h:aE H<|CS m dd oo sh top (p++D::q) R)(z:∀x∈p,x.n≠D.n)(k:Q (.ref D.a) H):wC (d+1) 12 [.ref m,.int D.n] H Q:=by
 have e:(p++D::q).map DN.d=p.map DN.d++(.int D.n,.ref D.a)::q.map DN.d:=e7;refine av rfl rfl (aa (h.rd m0)<|aa (h.rd m1)<|aJ ?_<|aa (h.rd m0)<|aa (h.rd m1)<|aa (a:=V.ref D.a) ?_ k);.rw[e,w3];rfl
 .rw[e];exact hV<|Fn (λy=>rfl) z
def fP{l f c3 c:Nat×Ob}:D.cell∈l::f::c3::c::((p++D::q).map DN.cell++R):=
 .tail _ (.tail _<|.tail _<|.tail _<|dy _<|u1<|ec _<|.head _)
def MN(l:List UInt8)(many:Nat):List UInt8:=l.take many++zs (many-l.length)
def HR:c9 (.bytes l) (.int 0) (.int<|0+(j:Nat))=some (.bytes<|l.take j):=by rw[Int.zero_add];show(clamp l.length 0<|.int (0:Nat)).bind (λa=>(clamp l.length l.length<|.int (j:Nat)).map λb=>V.bytes<|cut l a b)=_;rw[cQ,cQ];show some (V.bytes<|cut l (min 0 _) _)=_;rw[cut,Nat.zero_min,List.drop_zero,<-List.take_eq_take_min]
def w5:c9 (.bytes l) .none (.int (j:Nat))=some (.bytes<|l.take j):=by show(some 0).bind (λa=>(clamp l.length l.length<|.int (j:Nat)).map λb=>V.bytes<|cut l a b)=_;rw[cQ];show some (V.bytes<|cut l 0 _)=_;rw[cut,List.drop_zero,<-List.take_eq_take_min]
def qx:c9 (.bytes l) (.int (j:Nat)) .none=some (.bytes<|l.drop j):=by
 show(clamp l.length 0<|.int (j:Nat)).bind (λa=>(some l.length).map λb=>V.bytes<|cut l a b)=_;rw[cQ];show some (V.bytes<|cut l _ l.length)=_;rw[cut,List.take_length];by_cases e:j<=l.length;.rw[GX e]
 .rw[Nat.min_eq_right<|(show l.length<=j from Ja [_,_] [⟨4,.v 0,.v 1⟩] ⟨0,.v 1,.v 0⟩ 1 [1] rfl e),List.drop_length,List.drop_eq_nil_of_le<|(show l.length<=j from Ja [_,_] [⟨4,.v 0,.v 1⟩] ⟨0,.v 1,.v 0⟩ 1 [1] rfl e)]
theorem Rj.oc{a:Nat}{k M:V}(_:Rj m top τ R n r dd oo sh a k M p q):bI ((p++(⟨n,a,k,M,r.blk,r.bo,r.oc⟩:DN)::q).map DN.o) (.int n)=some (.bytes r.oc):=by rename_i h;rw[e7];exact hV<|Fn (λz=>rfl) h.hp
def Au{many:Nat}(h:MS m top τ R H)(N:τ n=some r)(M:many<=100000)(l:r.oc.length<=100000)(k:Q (.bytes<|MN r.oc many) H):wC (d+2) 13 [.ref m,.int n,.int 0,.int many] H Q:=by
 refine h.oB N λdd oo sh a z O p q o h=>av rfl rfl (aa (h.rd m0) ?_);refine eF (D:=⟨n,a,z,O,r.blk,r.bo,r.oc⟩) h o.hp<|dF (by decide)<|dF (Ja [_] [] ⟨13,.v 0,.n 0⟩ 1 [] rfl)<|aJ rfl ?_;refine aa (h.rd m0)<|aa (h.rd m2)<|aa o.oc<|aa HR<|dT ?_<|aa (add_bytes ?_) ?_;all_goals have e:=List.length_take_le many r.oc
 .exact Rh e<|c0 M<|by decide
 .rw[ra,toNat_sub',Nat.add_sub_of_le e];exact c0 M<|by decide
 .rw[toNat_sub',List.length_take,<-Nat.sub_eq_sub_min];exact k
def zo{i:V}{F:List (Nat×Ob)}(h:aE H F)(k:∀H',aE H' ((H.length,.inst 2 [(51,i),(52,.int blk),(55,.int<|-1),(53,.bytes bo)])::F)->Q .none H'):wC (d+1) 21 [.ref H.length,i,.int blk,.bytes bo] (H++[.inst 2 []]) Q:=by have z:=h.new<|.inst 2 [];refine av rfl rfl (aa (z.at m0) ?_);have z:=z.set<|.inst 2 [(51,i)];refine aa (z.at m0) ?_;have z:=z.set<|.inst 2 [(51,i),(52,.int blk)];refine aa (z.at m0) ?_;have z:=z.set<|.inst 2 [(51,i),(52,.int blk),(55,.int<|-1)];exact aa (z.at m0)<|k _<|z.set _
def Fo{i:Int}{blk:Nat}{bo:List UInt8}{args:List V}(h:MS m top τ R H)(ht:top<1000)(f:1<=i)(b:1<=blk)
 (c:oV jI args=some (upd (upd (upd (upd (λj=>none) 44<|.ref m) 51<|.int i) 52<|.int blk) 53<|.bytes bo))
 (k:∀H',MS m (top+1) (τ.set (top+1)<|some ⟨blk,bo,[]⟩) R H'->Q (.int (top+1:Nat)) H'):wC (d+2) 14 args H Q:=by
 refine bC λG=>?_;obtain⟨dd,oo,sh,s,w,e,h⟩:=h;subst e;refine G<|av rfl c (dF (G7.2 f)<|dF (Ja [_] [⟨0,.n 1,.v 0⟩] ⟨13,.v 0,.n 1⟩ 1 [1] rfl b)<|aJ rfl (aa (h.rd m0)<|aa (h.at m0) ?_));have h:=h.set<|.inst 0 [(45,.ref sh),(46,.ref dd),(32,.ref oo),(47,.int (top+1:Nat))];refine zo h λO z=>?_;generalize(H.set m _).length=a at z⊢;have l:=w.len;have L:=w.top;have N:∀x∈s,x.n≠top+1:=λx mx=>by have:=w.le x mx;exact Ja [_,_] [⟨0,.v 0,.v 1⟩] ⟨6,.v 0,.a (.v 1)<|.n 1⟩ 1 [1] rfl this
 have u:=(z.perm<|.trans (.swap _ _ _)<|.cons _<|.swap _ _ _).lW<|.dict .int<|dput (s.map DN.d) (.int (top+1:Nat))<|.ref a;refine aa (z.rd m1)<|aa (z.rd m1)<|aa (z.at m2)<|dT (by rw[a9];exact Ja [_,_] [⟨1,.v 0,.n 1000⟩,⟨0,.v 1,.v 0⟩] ⟨1,.v 1,.n 1000000⟩ 1 [1,1] rfl ht l) ?_;refine aa (u.rd m0)<|aa (u.rd m0)<|aa (u.at m3)<|dT (by rw[a9];exact Ja [_,_] [⟨1,.v 0,.n 1000⟩,⟨0,.v 1,.v 0⟩] ⟨1,.v 1,.n 1000000⟩ 1 [1,1] rfl ht l) ?_;have T:=aE.mid (A:=[_,_,_]) u<|.dict .int<|dput (s.map DN.o) (.int (top+1:Nat))<|.bytes [];refine aa (T.rd m0)<|k _ ⟨dd,oo,sh,s++[⟨top+1,a,.int i,.int<|-1,blk,bo,[]⟩],⟨?_,?_,?_,(Ja [_] [⟨1,.v 0,.n 1000⟩] ⟨0,.a (.v 0)<|.n 1,.n 1000⟩ 1 [1] rfl ht)⟩,?_,?_⟩
 .exact qn.2 ⟨w.ord,List.pairwise_singleton _ _,λx mx y M=>by obtain rfl:=dt.1 M;have:=w.le x mx;exact Nat.lt_succ_of_le this⟩
 .intro x mx;rcases eu.1 mx with mx|mx;.exact lH<|w.le x mx
  .obtain rfl:=dt.1 mx;exact i1 _
 .rw[b9];exact ka l
 .funext x;rw[ko (d:=⟨top+1,a,.int i,.int<|-1,blk,bo,[]⟩) N,hE];rfl
 .have Y:(s++[(⟨top+1,a,.int i,.int<|-1,blk,bo,[]⟩:DN)]).map DN.d=dput (s.map DN.d) (.int (top+1:Nat)) (.ref a):=by rw[dM<|Fn (λj=>rfl) N,e7];rfl
  have U:(s++[(⟨top+1,a,.int i,.int<|-1,blk,bo,[]⟩:DN)]).map DN.o=dput (s.map DN.o) (.int (top+1:Nat)) (.bytes []):=by rw[dM<|Fn (λj=>rfl) N,e7];rfl
  have e:(s++[(⟨top+1,a,.int i,.int<|-1,blk,bo,[]⟩:DN)]).map DN.cell++R=s.map DN.cell++(a,.inst 2 [(51,.int i),(52,.int blk),(55,.int<|-1),(53,.bytes bo)])::R:=by rw[e7,ee];rfl
  rw[CS,e,Y,U];exact T.perm<|.cons _<|.cons _ (FC (l₁:=(oo,_)::(sh,_)::s.map DN.cell)).symm
def Av(h:MS m top τ R H)(N:τ n=some r)(k:∀H',MS m top (τ.set n none) R H'->Q .none H'):wC (d+2) 15 [.ref m,.int n] H Q:=by
 refine h.oB N λdd oo sh a z M p q o h=>?_;have e:(p++(⟨n,a,z,M,r.blk,r.bo,r.oc⟩:DN)::q).map DN.d=p.map DN.d++(.int n,.ref a)::q.map DN.d:=e7;have u:(p++(⟨n,a,z,M,r.blk,r.bo,r.oc⟩:DN)::q).map DN.o=p.map DN.o++(.int n,.bytes r.oc)::q.map DN.o:=e7;refine av rfl rfl (aa (h.rd m0) ?_);refine eF (D:=⟨n,a,z,M,r.blk,r.bo,r.oc⟩) h o.hp ?_;have y:=h.lW<|.dict .int<|dV ((p++(⟨n,a,z,M,r.blk,r.bo,r.oc⟩:DN)::q).map DN.d)<|.int n;refine aa (h.rd m0)<|aa (h.rd m1)<|aa (h.at m1)<|aa (a:=V.ref a) (by rw[e];exact hV<|Fn (λx=>rfl) o.hp) ?_;refine aa (y.rd m0)<|aa (y.rd m2)<|aa (y.at m2)<|aa o.oc ?_;have s:=aE.mid (A:=[_,_]) y<|.dict .int<|dV ((p++(⟨n,a,z,M,r.blk,r.bo,r.oc⟩:DN)::q).map DN.o)<|.int n;refine k _<|o.gone _ ?_
 have i:(p++q).map DN.d=dV ((p++(⟨n,a,z,M,r.blk,r.bo,r.oc⟩:DN)::q).map DN.d) (.int n):=by rw[e,w4 (Fn (λx=>rfl) o.hp)<|Fn (λx=>rfl) o.hq,e7]
 have l:(p++q).map DN.o=dV ((p++(⟨n,a,z,M,r.blk,r.bo,r.oc⟩:DN)::q).map DN.o) (.int n):=by rw[u,w4 (Fn (λx=>rfl) o.hp)<|Fn (λx=>rfl) o.hq,e7]
 rw[CS,i,l];exact s.sub<|.cons₂ _<|.cons₂ _<|.cons₂ _<|.cons₂ _<|List.Sublist.append_right ((List.Sublist.append_left (List.sublist_cons_self _ _) _).map _) _
def w6{l f c3 c:Nat×Ob}(h:aE H<|l::f::c3::c::((p++D::q).map DN.cell++R))(e:D'.a=D.a):aE (H.set D.a D'.cell.2) (l::f::c3::c::((p++D'::q).map DN.cell++R)):=by rw[e7,ee]at h⊢;have:=aE.mid (A:=l::f::c3::c::p.map DN.cell) h D'.cell.2;rw[<-e]at this⊢;exact this
def ux(h:MS m top τ R H)(N:τ n=some r)(k:∀H',MS m top (τ.set n<|some ⟨r.blk,b,r.oc⟩) R H'->Q .none H'):wC (d+2) 16 [.ref m,.int n,.bytes b] H Q:=by
 refine h.oB N λdd oo sh a z M p q o h=>av rfl rfl (aa (h.rd m0) ?_);refine eF (D:=⟨n,a,z,M,r.blk,r.bo,r.oc⟩) h o.hp<|aa (h.at fP)<|k _<|o.qw _ z M ⟨r.blk,b,r.oc⟩ ?_;have y:=w6 (D':=⟨n,a,z,M,r.blk,b,r.oc⟩) h rfl
 have e {f:DN->V×V} (e:f ⟨n,a,z,M,r.blk,r.bo,r.oc⟩=f ⟨n,a,z,M,r.blk,b,r.oc⟩):(p++(⟨n,a,z,M,r.blk,r.bo,r.oc⟩:DN)::q).map f=(p++(⟨n,a,z,M,r.blk,b,r.oc⟩:DN)::q).map f:=by rw[e7,e7,ik,ik,e]
 rw[e rfl,e rfl]at y;exact y
def pad(b:Nat)(l:List UInt8):List UInt8:=l++zs ((l.length+b-1)/b*b-l.length)
def Fp(z:0<b)(h:b<1073741824)(A:a<1000000)(k:Q (.int ((a+b-1)/b*b:Nat)) H):wC (d+1) 20 [.int a,.int b] H Q:=by have e:((a:Int)+b-1)=((a+b-1:Nat):Int):=(Int.ofNat_sub<|c0 z<|Nat.le_add_left b a).symm;refine av rfl rfl (aa (a:=V.int ((a+b-1)/b:Nat)) (by rw[e];exact ut _ _ z h)<|aa (qr _ _ ?_<|Ja [_] [⟨1,.v 0,.n 1073741824⟩] ⟨1,.v 0,.n 18446744073709551616⟩ 1 [1] rfl h) k);exact dS (Nat.div_le_self _ _)<|Ja [_,_,_] [⟨1,.v 0,.n 1073741824⟩,⟨1,.v 1,.n 1000000⟩,⟨0,.v 2,.a (.v 1)<|.v 0⟩] ⟨1,.v 2,.n 18446744073709551616⟩ 1 [1,1,1] rfl h A (vC (a+b)<|1)
def Ls{l:List UInt8}(h:MS m top τ R H)(j:τ n=some r)(x:0<r.blk)(O:r.blk<1000)(L:l.length<1000)
 (k:∀H',MS m top (τ.set n<|some ⟨r.blk,r.bo,pad r.blk l⟩) R H'->Q .none H'):wC (d+2) 17 [.ref m,.int n,.bytes l] H Q:=by
 refine h.oB j λdd oo sh a z M p q o h=>av rfl rfl (aa (h.rd m0) ?_);refine eF (D:=⟨n,a,z,M,r.blk,r.bo,r.oc⟩) h o.hp<|aa (h.rd fP)<|Fp (a:=l.length) (b:=r.blk) x (Ja [_] [⟨1,.v 0,.n 1000⟩] ⟨1,.v 0,.n 1073741824⟩ 1 [1] rfl O) (Ja [_] [⟨1,.v 0,.n 1000⟩] ⟨1,.v 0,.n 1000000⟩ 1 [1] rfl L) ?_;have y:=xW (l.length+r.blk-1) r.blk;have i:=Nat.mod_lt (l.length+r.blk-1) x;rw[Nat.mul_comm]at y;generalize f:(l.length+r.blk-1)/r.blk*r.blk=w at y⊢;have s:l.length<=w:=Ja [_,_,_,_,_] [⟨3,.a (.v 0)<|.v 1,.v 4⟩,⟨1,.v 1,.v 3⟩,⟨0,.a (.v 2)<|.v 3,.a (.v 4)<|.n 1⟩] ⟨0,.v 2,.v 0⟩ 1 [1,1,1] rfl y i (Ln.s1 _ _);have N:w<=1000000:=Ja [_,_,_,_,_] [⟨2,.a (.v 0)<|.v 1,.v 4⟩,⟨0,.v 4,.a (.v 2)<|.v 3⟩,⟨1,.v 3,.n 1000⟩,⟨1,.v 2,.n 1000⟩] ⟨0,.v 0,.n 1000000⟩ 1 [1,1,1,1] rfl y (vC _ 1) O L;refine dT (Rh s N)<|aa (add_bytes<|by rw[ra,toNat_sub',Nat.add_sub_of_le s];exact c0 N<|by decide) ?_;rw[toNat_sub'];refine aa (h.rd m0)<|aa (h.at m2)<|dT (by have:=o.len;rw[a9];exact Ja [_] [⟨0,.v 0,.n 1000⟩] ⟨1,.v 0,.n 1000000⟩ 1 [1] rfl this) ?_;have u:=aE.mid (A:=[_,_]) h<|.dict .int<|dput ((p++(⟨n,a,z,M,r.blk,r.bo,r.oc⟩:DN)::q).map DN.o) (.int n)<|.bytes<|l++zs (w-l.length);refine aa (u.rd fP)<|aa (ut w r.blk x<|Ja [_] [⟨1,.v 0,.n 1000⟩] ⟨1,.v 0,.n 1073741824⟩ 1 [1] rfl O)<|aa (u.at fP) ?_;refine k _<|o.qw _ z (.int<|(w/r.blk:Nat)-1) ⟨r.blk,r.bo,pad r.blk l⟩ ?_;have e:=w6 (D':=⟨n,a,z,.int<|(w/r.blk:Nat)-1,r.blk,r.bo,pad r.blk l⟩) u rfl
 have c:(p++(⟨n,a,z,.int<|(w/r.blk:Nat)-1,r.blk,r.bo,pad r.blk l⟩:DN)::q).map DN.d=(p++(⟨n,a,z,M,r.blk,r.bo,r.oc⟩:DN)::q).map DN.d:=by rw[e7,e7];rfl
 have Y:(p++(⟨n,a,z,.int<|(w/r.blk:Nat)-1,r.blk,r.bo,pad r.blk l⟩:DN)::q).map DN.o=dput ((p++(⟨n,a,z,M,r.blk,r.bo,r.oc⟩:DN)::q).map DN.o) (.int n) (.bytes<|l++zs (w-l.length)):=by rw[e7,e7,ik,ik,pad,f];exact(Fm (Fn (λU=>rfl) o.hp)<|Fn (λU=>rfl) o.hq).symm
 rw[CS,c,Y];exact e
end
section
variable{H:Hp}{R F:List (Nat×Ob)}{d m top n:Nat}{Q:VP}{τ:Tr}{r:Raw}
def CT(o:List UInt8)(i:Nat)(b:List UInt8):List UInt8:=(o++zs (i-o.length)).take i++b++(o++zs (i-o.length)).drop (i+b.length)
def w7(h:MS m top τ R H)(N:τ n=some r)(y:0<r.blk)(O:r.blk<1000)(I:i<100)(J:r.oc.length<=200)(L:b.length<=200)(x:0<b.length)
 (k:∀H',MS m top (τ.set n<|some ⟨r.blk,r.bo,pad r.blk<|CT r.oc i b⟩) R H'->Q .none H'):wC (d+3) 18 [.ref m,.int n,.int i,.bytes b] H Q:=by
 have f:big=16777216:=rfl;have u:=h;refine h.oB N λe c Y a s M p q o h=>av rfl rfl (aa (h.rd m0) ?_);refine eF (D:=⟨n,a,s,M,r.blk,r.bo,r.oc⟩) h o.hp<|dF (Ja [_] [] ⟨13,.v 0,.n 0⟩ 1 [] rfl)<|dT (Ja [_] [⟨1,.n 0,.v 0⟩] ⟨9,.n 0,.v 0⟩ 1 [1] rfl x)<|aa (h.rd m0)<|aa (h.rd m2)<|aa o.oc<|aa (h.rd m0)<|aa (h.rd m2)<|aa o.oc<|dT (by rw[Jm];exact Rg<|c0 (vC _ _)<|c0 (rh I)<|by decide)<|aa (add_bytes ?_) ?_;.rw[ra,Jm];exact c0 (Nat.add_le_add J<|c0 (vC i _)<|rh I)<|by decide
 rw[Jm,Int.toNat_natCast];have hz:(zs<|i-r.oc.length).length=i-r.oc.length:=ra;have ht:=List.length_take_le' i<|r.oc++zs (i-r.oc.length);have z:=ye (i:=i+b.length) (l:=r.oc++zs (i-r.oc.length));rw[b9,hz]at ht z;refine aa (h.rd m0)<|aa w5<|aa (add_bytes ?_)<|aa (qx (j:=i+b.length))<|aa (add_bytes ?_) ?_
 .show List.length (List.take i<|r.oc++zs _)+_<=_;exact Ja [_,_,_,_,_] [⟨1,.v 0,.n 100⟩,⟨0,.v 1,.n 200⟩,⟨0,.v 2,.n 200⟩,⟨0,.v 3,.a (.v 1)<|.v 4⟩,⟨0,.v 4,.v 0⟩] ⟨0,.a (.v 3)<|.v 2,.n 16777216⟩ 1 [1,1,1,1,1] rfl I J L ht (vC (i)<|r.oc.length)
 .show List.length (List.take i (r.oc++zs _)++b)+List.length (List.drop _<|r.oc++zs _)<=_;rw[b9];exact Ja [_,_,_,_,_,_,_] [⟨1,.v 0,.n 100⟩,⟨0,.v 1,.n 200⟩,⟨0,.v 2,.n 200⟩,⟨0,.v 3,.a (.v 1)<|.v 4⟩,⟨2,.v 5,.v 6⟩,⟨0,.v 4,.v 0⟩,⟨0,.v 6,.a (.v 1)<|.v 4⟩] ⟨0,.a (.a (.v 3)<|.v 2)<|.v 5,.n 16777216⟩ 1 [2,2,1,1,1,2,1] rfl I J L ht z (vC (i)<|r.oc.length) (vC (r.oc.length+(i-r.oc.length))<|i+b.length)
 .refine Ls u N y O ?_ k;rw[b9,b9];show List.length (List.take i<|r.oc++zs _)+_+List.length (List.drop _<|r.oc++zs _)<_;exact Ja [_,_,_,_,_,_,_] [⟨1,.v 0,.n 100⟩,⟨0,.v 1,.n 200⟩,⟨0,.v 2,.n 200⟩,⟨0,.v 3,.a (.v 1)<|.v 4⟩,⟨2,.v 5,.v 6⟩,⟨0,.v 4,.v 0⟩,⟨0,.v 6,.a (.v 1)<|.v 4⟩] ⟨1,.a (.a (.v 3)<|.v 2)<|.v 5,.n 1000⟩ 1 [2,2,1,1,1,2,1] rfl I J L ht z (vC (i)<|r.oc.length) (vC (r.oc.length+(i-r.oc.length))<|i+b.length)
def Ch(m top:Nat)(τ:Tr)(C:List<|Nat×Ob):Prop:=∃D O Y s,wf top s/\τ=look s/\C=CS m D O Y top s []
def Aw:CS m dd oo sh top ds R=CS m dd oo sh top ds []++R:=by simp[CS]
def MS.cells(h:MS m top τ R H){B:Prop}(k:∀C,Ch m top τ C->aE H (C++R)->B):B:=by refine bC λG=>?_;obtain⟨D,O,Y,s,w,e,h⟩:=h;exact G<|k _ ⟨D,O,Y,s,w,e,rfl⟩<|Aw▸h
def Ch.ms{C:List (Nat×Ob)}(c:Ch m top τ C)(h:aE H<|C++R):MS m top τ R H:=by refine bC λG=>?_;obtain⟨D,O,Y,s,w,e,rfl⟩:=c;exact G<|⟨D,O,Y,s,w,e,Aw▸h⟩
def MS.has(h:MS m top τ R H){B:Prop}(k:∀F,aE H F->(∀H' X,aE H' (X++F)->MS m top τ (X++R) H')->(∀c∈R,c∈F)->B):B:=by exact h.cells λC c h=>k _ h (λH' X z=>c.ms<|z.perm<|by rw[<-ee,<-ee];exact Cw.append_right _) λx=>ec _
theorem MS.rd(h:MS m top τ R H)(mem:(a,o)∈R):rd H a=some o.base:=by exact h.cells λC z h=>h.rd<|ec _ mem
theorem MS.at(h:MS m top τ R H)(mem:(a,o)∈R):H[a]?=some o:=by refine h.cells λC z h=>?_;exact h.at<|ec _ mem
def MS.iN(h:MS m top τ ((a,o)::R) H)(O:Ob):MS m top τ ((a,O)::R) (H.set a O):=by exact h.cells λC c h=>c.ms<|h.mid O
theorem MS.new(h:MS m top τ R H)(o:Ob):MS m top τ ((H.length,o)::R) (H++[o]):=by exact bC λG=>h.has λF f kF z=>G<|kF _ [_]<|f.new o
def MS.tl(h:MS m top τ (c::R) H):MS m top τ R H:=by exact h.cells λC c h=>c.ms<|h.sub<|List.Sublist.append_left (List.sublist_cons_self _ _) _
theorem MS.perm(h:MS m top τ R H)(p:R.Perm R'):MS m top τ R' H:=by exact h.cells λC c h=>c.ms<|h.perm<|p.append_left _
def cu(h:MS m top τ R H)(N:τ n=some r)(y:r.bo=zB z)(hz:iW z)(k:∀H' a,MS m top τ ((a,.inst 5<|zF z)::R) H'->Q (.ref a) H'):wC (d+5) 56 [.ref m,.int n] H Q:=by refine bC λG=>h.has λF f kF s=>h.oB N λl O Y a x M p q o h=>G<|av rfl rfl (aa (h.rd m0) ?_);refine eF (D:=⟨n,a,x,M,r.blk,r.bo,r.oc⟩) h o.hp<|aa (h.rd fP) ?_;refine(?_:wC (d+4) 55 [.bytes r.bo] H Q);rw[y];exact wZ f hz λH' a u=>k H' a<|kF H' [_] u
def fQ(h:MS m top τ R H)(N:τ n=some r)(A:(a,.inst 5<|zF z)∈R)(hz:iW z)(k:∀H',MS m top (τ.set n<|some ⟨r.blk,zB z,r.oc⟩) R H'->Q .none H'):wC (d+5) 57 [.ref m,.int n,.ref a] H Q:=by refine bC λG=>h.has λF f kF M=>h.oB N λD O Y _ s l p q o y=>G<|av rfl rfl (aa (y.rd m0) ?_);exact gx f (M _ A) hz λx u=>ux (kF x [] u) N k
end
section
variable{H:Hp}{R F:List (Nat×Ob)}{d m top n:Nat}{Q:VP}{τ:Tr}{r:Raw}{bo:List UInt8}{l:List Rw}
noncomputable def slt(n:Nat):Nat:=(n*2654435761+40503)%4294967296
def zO(n:Nat)(l:List Rw):List UInt8:=mB (slt n) l++zs (128-mL l)
def ZR(n:Nat)(bo:List UInt8)(l:List Rw):Raw:=⟨128,bo,zO n l⟩
structure Rk(l:List Rw):Prop where
 ok:∀r∈l,Ri r
 len:mL l<=128
def Rk.cv(h:Rk l):l.length<20:=by
 have z:9*l.length<=(l.map λr=>r.1.length+9).sum:=by
  clear h
  induction l with|nil=>simp|cons a t i=>simp;exact Ja [_,_,_] [⟨0,.m 9<|.v 0,.v 1⟩] ⟨0,.m 9<|.a (.v 0)<|.n 1,.a (.a (.v 2)<|.n 9)<|.v 1⟩ 1 [1] rfl i
 have:=h.len;unfold mL at this;exact Ja [_,_] [⟨0,.m 9<|.v 0,.v 1⟩,⟨0,.a (.n 7)<|.v 1,.n 128⟩] ⟨1,.v 0,.n 20⟩ 9 [1,1] rfl z this
def jn(h:Rk l):(zO n l).length=128:=by have:=h.len;rw[zO,b9,uv,zs,ra];exact i3 (Ja [_,_] [⟨2,.a (.v 0)<|.v 1,.n 128⟩] ⟨0,.a (.v 1)<|.v 0,.n 128⟩ 1 [1] rfl (zy<|Ja [_] [⟨0,.v 0,.n 128⟩] ⟨0,.v 0,.n 128⟩ 1 [1] rfl this))<|Ja [_,_] [⟨0,.n 128,.a (.v 0)<|.v 1⟩] ⟨0,.n 128,.a (.v 1)<|.v 0⟩ 1 [1] rfl (Ln.s1 (128)<|mL l)
def uy(N:n<4294967296)(k:Q (.int<|slt n) H):wC (d+1) 89 [.int n] H Q:=by refine av rfl rfl (aa (qr n 2654435761 (Ja [_] [⟨1,.v 0,.n 4294967296⟩] ⟨1,.v 0,.n 18446744073709551616⟩ 1 [1] rfl N)<|by decide)<|aa (zl 2 32 (by decide)<|by decide)<|aa (a:=V.int<|slt n) ?_ k);exact ur (n*2654435761+40503) 4294967296<|by decide
def Rm:GF (x::t) (.int 0)=some x:=by show(idx (t.length+1) 0).bind _=_;rw[show idx (t.length+1) 0=some 0 from er ⟨Int.le_refl 0,I3.2<|HX _⟩];rfl
def f9{t:List UInt8}(k:Q (.int 1) H):wC (d+1) 71 [.bytes<|1::t] H Q:=by have e:oS (.bytes<|1::t) (.int 0) H=some (.int 1):=cg (Option.map λc:UInt8=>V.int c.toNat) Rm;exact av rfl rfl (aa e<|aa (a:=false) (by rfl)<|aJ rfl (aa e k))
def kq(h:MS m top τ R H)(N:τ n=some (ZR n bo l))(L:Rk l)(k:Q (.bytes<|zO n l) H):wC (d+3) 70 [.ref m,.int n] H Q:=by
 have e:MN (ZR n bo l).oc 128=zO n l:=by have:=jn (n:=n) L;show(zO n l).take 128++zs (128-(zO n l).length)=_;rw[List.take_of_length_le<|(show(zO n l).length<=128 from Ja [_] [⟨2,.v 0,.n 128⟩] ⟨0,.v 0,.n 128⟩ 1 [1] rfl this),this];exact hE _
 refine h.oB N λx O Y a y M p q o z=>av rfl rfl (aa (z.rd m0)<|aa (z.rd m0) ?_);refine eF (D:=⟨n,a,y,M,_,_,_⟩) z o.hp<|aa (z.rd fP)<|Au (many:=128) h N (by decide) (by rw[ZR,jn L];decide) ?_;rw[e];exact k
def HS:∃t,zO n l=1::t:=⟨_,rfl⟩
def lY(h:MS m top τ R H)(L:Rk l){z:Nat}(hz:z=128)(k:∀H',MS m top τ R H'->Q (.bytes<|zO n l) H'):wC (d+5) 72 [.int<|slt n,.lst<|rV l,.int z] H Q:=by subst hz;exact h.has λF f kF M=>og (z:=128) f L.ok (Nat.mod_lt _<|by decide) (by have:=L.cv;exact Ja [_] [⟨1,.v 0,.n 20⟩] ⟨1,.v 0,.n 65536⟩ 1 [1] rfl this) L.len (by decide) λH' y=>k _<|kF _ [] y
def gb(h:MS m top τ R H)(L:Rk l)(k:∀H',MS m top τ R H'->Q (.lst<|rV l) H'):wC (d+6) 73 [.bytes<|zO n l] H Q:=by exact bC λG=>h.has λF f kF M=>G<|rG f L.ok (by have:=L.cv;exact Ja [_] [⟨1,.v 0,.n 20⟩] ⟨1,.v 0,.n 65536⟩ 1 [1] rfl this) λH' z=>k _<|kF _ [] z
def lZ{l':List Rw}{oc:List UInt8}(h:MS m top τ R H)(N:τ n=some ⟨128,bo,oc⟩)(J:oc.length<=128)(L:Rk l')(k:∀H',MS m top (τ.set n<|some<|ZR n bo l') R H'->Q .none H'):wC (d+3) 18 [.ref m,.int n,.int 0,.bytes<|zO n l'] H Q:=by
 have hz:=jn (n:=n) L;refine w7 (i:=0) h N (Nat.zero_lt_succ 127) (show 128<1000 by decide) (by decide) (by show oc.length<=200;exact Ja [_] [⟨0,.v 0,.n 128⟩] ⟨0,.v 0,.n 200⟩ 1 [1] rfl J) (Ja [_] [⟨2,.v 0,.n 128⟩] ⟨0,.v 0,.n 200⟩ 1 [1] rfl hz) (Ja [_] [⟨3,.v 0,.n 128⟩] ⟨1,.n 0,.v 0⟩ 128 [1] rfl hz) ?_
 have e:pad 128 (CT oc 0<|zO n l')=zO n l':=by rw[CT,List.drop_eq_nil_of_le<|by simp[zs];exact Ja [_,_] [⟨0,.v 0,.n 128⟩,⟨3,.v 1,.n 128⟩] ⟨0,.v 0,.v 1⟩ 1 [1,1] rfl J hz,List.take_zero,hE,List.nil_append,pad,hz];exact hE _
 show∀H',MS m top (τ.set n<|some ⟨128,bo,pad 128<|CT oc 0<|zO n l'⟩) R H'->_;rw[e];exact k
def sG(l:List V):V.cV l []=true:=by rcases l<;>rfl
def gc(l:List α)(h:∀a,V.dp (f a)<=c):V.jB (l.map f)<=c:=by induction l with|nil=>exact js _|cons a t i=>exact Nat.max_le.2 ⟨h a,i⟩
def eq_nil{l:List V}(h:V.jB l<=7):k8 .eq (.lst l) (.lst []) H=some l.isEmpty:=by show(if(V.cV l []&&decide (V.jB l+1<=8))=true then _ else _)=_;rw[sG,eb<|(show V.jB l+1<=8 from Ja [_] [⟨0,.v 0,.n 7⟩] ⟨0,.a (.v 0)<|.n 1,.n 8⟩ 1 [1] rfl h)];rcases l<;>rfl
def ne_nil{l:List V}(h:V.jB l<=7):k8 .ne (.lst l) (.lst []) H=some (! l.isEmpty):=cg (Option.map (!·))<|eq_nil (H:=H) h
def kt{b:Bool}{Q:Bool->Prop}(q:Q b):gF b (Q true) (Q false):=match b,q with|true,q=>aY rfl q|false,q=>aJ rfl q
def Fq{x:V}{t:List V}:oS (.tup<|x::t) (.int 0) H=some x:=Rm
def jo:oS (.lst<|x::t) (.int 0) H=some x:=Rm
noncomputable def zV:Option Nat->V
 |none=>.none|some n=>.int n
def dw(l:List Rw)(nm:List Nat):Option Nat:=(l.find? λr=>decide (r.1=nm)).map (·.2)
def eZ{nm:List Nat}(h:MS m top τ R H)(N:τ n=some (ZR n bo l))(L:Rk l)(k:∀H',MS m top τ R H'->Q (zV<|dw l nm) H'):wC (d+7) 68 [.ref m,.int n,.str nm] H Q:=by
 obtain⟨t,ht⟩:=HS (n:=n) (l:=l);refine av rfl rfl (kq h N L ?_);refine(?_:wC (d+6) 71 [.bytes<|zO n l] H _);rw[ht];refine f9<|dT (by decide) ?_;rw[<-ht];refine gb h L λH' z=>fZ l (λr=>.tup [.str r.1,.int r.2]) (λr=>.int r.2) (λr=>decide (r.1=nm)) (λr x=>⟨_,rfl,λQ q=>kt (Q:=λb=>Q b H') q,λy Q q=>q⟩)<|aa (ne_nil<|by exact c0 (gc _ λy=>js _)<|js _) ?_;have e:dw l nm=(l.filter λr=>decide (r.1=nm)).head?.map (·.2):=by rw[List.head?_filter];rfl
 rw[e]at k
 cases f:l.filter λr=>decide (r.1=nm)with|nil=>rw[f]at k;exact aJ rfl (k _ z)|cons a t=>rw[f]at k;exact aY rfl (aa jo<|k _ z)
def sort_map(f:α->V)(l:List α):dG (l.map f)=(bQ (λa b=>V.lt (f a)<|f b) l).map f:=by
 have e:∀x (l:List α),dE V.lt (f x) (l.map f)=(dE (λa b=>V.lt (f a)<|f b) x l).map f:=λx l=>by
  induction l with
  |nil=>rfl|cons y r i=>
   show(if _ then _ else _)=List.map f (if _ then _ else _);split;.rfl
   .exact cg _ i
 have g:∀(l c:List α),(l.map f).foldl (λc x=>dE V.lt x c) (c.map f)=(l.foldl (λc x=>dE (λa b=>V.lt (f a)<|f b) x c) c).map f:=λl=>by
  induction l with|nil=>exactλc=>rfl|cons x r i=>exactλc=>(cg (List.foldl _ · _)<|e x c).trans<|i _
 exact g l []
def bu{α:Type}{f:α->V}(l:List α)(h:∀a b,V.ord (f a) (f b)=true):sortable (l.map f)=true:=by simp[sortable,h]
noncomputable def rT(r:Rw):V:=.tup [.str r.1,.int r.2]
def sR(l:List Rw):List Rw:=bQ (λa b=>V.lt (rT a)<|rT b) l
def Ax(l:List Rw):dG (rV l)=rV (sR l):=sort_map rT l
def HT{l l':List Rw}(p:l.Perm l'):mL l=mL l':=by
 unfold mL
 induction p with|nil=>rfl|cons x _ i=>simp at i⊢;exact i3 (Ja [_,_] [⟨2,.v 0,.v 1⟩] ⟨0,.v 0,.v 1⟩ 1 [1] rfl i)<|Ja [_,_] [⟨3,.v 0,.v 1⟩] ⟨0,.v 1,.v 0⟩ 1 [1] rfl i|swap x y l=>simp;exact i3 (Ja [_,_,_] [] ⟨0,.a (.a (.v 0)<|.n 9)<|.a (.a (.v 1)<|.n 9)<|.v 2,.a (.a (.v 1)<|.n 9)<|.a (.a (.v 0)<|.n 9)<|.v 2⟩ 1 [] rfl)<|Ja [_,_,_] [] ⟨0,.a (.a (.v 0)<|.n 9)<|.a (.a (.v 1)<|.n 9)<|.v 2,.a (.a (.v 1)<|.n 9)<|.a (.a (.v 0)<|.n 9)<|.v 2⟩ 1 [] rfl|trans _ _ a b=>exact a.trans b
def Rk.perm{l l':List Rw}(h:Rk l)(p:l.Perm l'):Rk l':=⟨λr m=>h.ok r<|p.symm.subset m,HT p▸h.len⟩
theorem Rk.sR(h:Rk l):Rk (sR l):=h.perm (aL _ _).symm
def w8{nm:List Nat}{k':Nat}(ht:Tx nm)(z:0<nm.length)(y:nm.length<=28)(x:k'<256^8)(k:Q .none H):wC (d+2) 74 [.str nm,.int k'] H Q:=by refine av rfl rfl (hO ht<|dT (by rw[qs];exact Ja [_] [⟨1,.n 0,.v 0⟩] ⟨9,.n 0,.v 0⟩ 1 [1] rfl z)<|nF (by rw[qs];exact Ja [_] [⟨0,.v 0,.n 28⟩] ⟨8,.v 0,.n 28⟩ 1 [1] rfl y)<|dT (Ja [_] [] ⟨8,.n 0,.v 0⟩ 1 [] rfl) ?_);exact aa (zl 256 8 (by decide)<|by decide)<|nF (I3.2 x) k
def qy(h:MS m top τ R H)(N:τ n=some (ZR n bo l))(L:Rk l)(k:∀H',MS m top τ R H'->Q (.lst<|rV<|sR l) H'):wC (d+7) 69 [.ref m,.int n] H Q:=by obtain⟨t,ht⟩:=HS (n:=n) (l:=l);refine av rfl rfl (kq h N L ?_);refine(?_:wC (d+6) 71 [.bytes<|zO n l] H _);rw[ht];refine f9<|dT (by decide) ?_;rw[<-ht];refine gb h L λH' z=>⟨bu l λy y=>rfl,by rw[rV,a9];have:=L.cv;exact Ja [_] [⟨1,.v 0,.n 20⟩] ⟨1,.v 0,.n 64⟩ 1 [1] rfl this,?_⟩;rw[Ax];exact k _ z
def Ci{nm:List Nat}(h:dw l nm=none):l.filter (λr=>! decide (r.1=nm))=l:=by rw[sl];have:=List.find?_eq_none.1<|Option.map_eq_none_iff.1 h;simpa using this
def jq{nm:List Nat}{k':Nat}(h:MS m top τ R H)(N:τ n=some (ZR n bo l))(L:Rk l)(f:dw l nm=none)(I:Rk<|l++[(nm,k')])(u:0<nm.length)(z:nm.length<=28)(s:n<4294967296)
 (k:∀H',MS m top (τ.set n<|some<|ZR n bo<|sR<|l++[(nm,k')]) R H'->Q .none H'):wC (d+7) 66 [.ref m,.int n,.str nm,.int k'] H Q:=by
 obtain⟨t,ht⟩:=HS (n:=n) (l:=l);have y:=I.ok _<|ec _<|.head _;have c:big=16777216:=rfl;refine av rfl rfl (w8 y.1 u z y.2.2 ?_);refine kq h N L ?_;refine(?_:wC (d+6) 71 [.bytes<|zO n l] H _);rw[ht];refine f9<|nF (by decide) ?_;rw[<-ht];refine gb h L λH' j=>fZ l rT rT (λr=>!decide (r.1=nm)) (λr y=>⟨_,rfl,λQ q=>aa Fq<|kt (Q:=λb=>Q b H') q,λx Q q=>q⟩) ?_;rw[Ci f];refine aa (cP<|by have:=L.cv;rw[a9];exact c0 (ka<|rh this)<|by decide) ?_;have e:l.map rT++[.tup [.str nm,.int k']]=rV (l++[(nm,k')]):=by rw[Fk];rfl
 rw[e];refine⟨bu _ λx x=>rfl,by rw[rV,a9];have:=I.cv;exact Ja [_] [⟨1,.v 0,.n 20⟩] ⟨1,.v 0,.n 64⟩ 1 [1] rfl this,?_⟩;rw[Ax];exact uy s<|lY j I.sR (jn L) λY z=>aY rfl<|bC λG=>z.has λF U kF M=>z.oB N λD O T a J A p q o i=>G<|aa (i.rd m0)<|lZ z N (by rw[jn L];decide) I.sR k
def w9{nm:List Nat}{k':Nat}(h:MS m top τ R H)(N:τ n=some (ZR n bo l))(L:Rk l)(f:dw l nm=some k')(y:n<4294967296)
 (k:∀H',MS m top (τ.set n<|some<|ZR n bo<|l.filter λr=>! decide (r.1=nm)) R H'->Q .none H'):wC (d+8) 67 [.ref m,.int n,.str nm] H Q:=by
 obtain⟨t,ht⟩:=HS (n:=n) (l:=l)
 have I:Rk (l.filter λr=>! decide (r.1=nm)):=by
  refine⟨λr m=>L.ok r (gS.1 m).1,c0 ?_ L.len⟩;unfold mL;clear f N ht L k
  induction l with|nil=>exact i1 _|cons a t i=>rw[yv];split<;>(simp at i⊢;(first|exact Ja [_,_] [⟨0,.v 0,.v 1⟩] ⟨0,.v 0,.v 1⟩ 1 [1] rfl i|exact Ja [_,_,_] [⟨0,.v 0,.v 1⟩] ⟨0,.v 0,.a (.a (.v 2)<|.n 9)<|.v 1⟩ 1 [1] rfl i))
 refine av rfl rfl<|eZ h N L λH' z=>?_;rw[f];refine aJ rfl (kq z N L ?_);refine(?_:wC (d+7) 71 [.bytes<|zO n l] H' _);rw[ht];refine f9<|dT (by decide) ?_;rw[<-ht];exact gb z L λH' z=>fZ l rT rT (λr=>! decide (r.1=nm)) (λr s=>⟨_,rfl,λQ q=>aa Fq<|kt (Q:=λb=>Q b H') q,λj Q q=>q⟩)<|z.oB N λD O Y a e M p q o x=>aa (x.rd m0)<|uy y<|lY z I (jn L) λc u=>lZ u N (by rw[jn L];decide) I k
def gf{i:Int}(h:MS m top τ R H)(ht:top<1000)(s:1<=i)(k:∀H',MS m (top+1) (τ.set (top+1)<|some<|ZR (top+1) [] []) R H'->Q (.int (top+1:Nat)) H'):wC (d+6) 65 [.ref m,.int i] H Q:=by
 refine bC λG=>?_;obtain⟨D,O,Y,p,w,e,y⟩:=id h;refine G<|av rfl rfl (aa (y.rd m0)<|aa (y.rd m3)<|aa (y.rd m0) ?_);refine Fo (bo:=[]) (blk:=128) h ht s (by decide) rfl λb u=>?_;refine bC λG=>?_;obtain⟨D,O,Y,p,w,e,j⟩:=id u;refine G<|aa (j.rd m0)<|uy (Ja [_] [⟨1,.v 0,.n 1000⟩] ⟨1,.a (.v 0)<|.n 1,.n 4294967296⟩ 1 [1] rfl ht)<|lY (l:=[]) (z:=128) u ⟨nofun,by decide⟩ rfl λU T=>?_;refine lZ (bo:=[]) (oc:=[]) T (er rfl) (by decide) ⟨nofun,by decide⟩ λf c=>k f ?_
 have:(τ.set (top+1)<|some ⟨128,[],[]⟩).set (top+1) (some<|ZR (top+1) [] [])=τ.set (top+1) (some<|ZR (top+1) [] []):=by funext x;unfold Tr.set;split<;>rfl
 rw[<-this];exact c
end
section
variable{H:Hp}{R F:List (Nat×Ob)}{d m top n:Nat}{Q:VP}{τ:Tr}{r:Raw}{bo:List UInt8}{l:List Rw}{c:Nat}
def Nm(c:Nat):Prop:=97<=c/\c<=99
def Nm.tx(h:Nm c):Tx [c]:=λx m=>by cases dt.1 m;exact⟨by have:=h.1;exact Ja [_] [⟨0,.n 97,.v 0⟩] ⟨0,.n 32,.v 0⟩ 97 [32] rfl this,by have:=h.2;exact Ja [_] [⟨0,.v 0,.n 99⟩] ⟨1,.v 0,.n 127⟩ 1 [1] rfl this⟩
def Fs{H:Hp}(h:Nm c):k8 .isin (.str [c]) (.tup [.str [46],.str [46,46]]) H=some false:=by
 have:c≠46:=by have:=h.1;exact Ja [_] [⟨0,.n 97,.v 0⟩] ⟨7,.v 0,.n 46⟩ 97 [47] rfl this
 show some (decide (_∈_))=_;simp[this]
def qz(h:Nm c)(k:Q (.bool true) H):wC (d+1) 58 [.str [c]] H Q:=by have:=h.2;refine av rfl rfl (aY rfl (aJ rfl (aa (Fs h)<|aJ rfl (aJ rfl ?_))));refine aY rfl (dT (xt.2<|c0 (by decide) h.1)<|dT (Ja [_] [⟨0,.v 0,.n 99⟩] ⟨9,.v 0,.n 127⟩ 1 [1] rfl this)<|nT (λq=>absurd h.1<|(ig q).1▸by decide) ?_);exact aa rfl k
def gg(h:Nm c)(k:Q .none H):wC (d+2) 59 [.str [c]] H Q:=
 av rfl rfl (qz h<|aJ rfl k)
noncomputable def S9:Option Nat->V
 |none=>.none|some n=>.tup [.int (n/4:Nat),.int (n%4:Nat)]
def gh(h:MS m top τ R H)(N:τ n=some (ZR n bo l))(L:Rk l)(y:Nm c)(k:∀H',MS m top τ R H'->Q (S9<|dw l [c]) H'):wC (d+8) 60 [.ref m,.int n,.str [c]] H Q:=by
 refine av rfl rfl (qz y<|aY rfl ?_);refine eZ h N L λH' z=>?_;have k:=k H' z
 cases e:dw l [c]with|none=>rw[e]at k;exact aY rfl k|some x=>rw[e]at k;exact aJ rfl (aa (ut x 4 (by decide)<|by decide)<|aa (ur x 4<|by decide) k)
def dY{x s:Nat}(h:MS m top τ R H)(N:τ n=some (ZR n bo l))(L:Rk l)(y:Nm c)(f:dw l [c]=none)(I:Rk<|l++[([c],x*4+s)])(z:x<4294967296)(b:n<4294967296)
 (k:∀H',MS m top (τ.set n<|some<|ZR n bo<|sR<|l++[([c],x*4+s)]) R H'->Q .none H'):wC (d+8) 61 [.ref m,.int n,.str [c],.int x,.int s] H Q:=by
 refine av rfl rfl (gg y<|aa (qr x 4 (Ja [_] [⟨1,.v 0,.n 4294967296⟩] ⟨1,.v 0,.n 18446744073709551616⟩ 1 [1] rfl z)<|by decide) ?_);exact jq (k':=x*4+s) h N L f I (Nat.zero_lt_succ 0) (hS rfl) b k
def fv(h:MS m top τ R H)(N:τ n=some (ZR n bo l))(L:Rk l)(y:Nm c)(f:dw l [c]=some x)(b:n<4294967296)
 (k:∀H',MS m top (τ.set n<|some<|ZR n bo<|l.filter λr=>!decide (r.1=[c])) R H'->Q (S9<|some x) H'):wC (d+9) 62 [.ref m,.int n,.str [c]] H Q:=by
 refine av rfl rfl (gh h N L y λH' z=>?_);rw[f];exact aJ rfl<|w9 z N L f b λH' z=>k H' z
noncomputable def eV(r:Rw):V:=.tup [.str r.1,.int (r.2/4:Nat),.int (r.2%4:Nat)]
def qA(h:MS m top τ R H)(N:τ n=some (ZR n bo l))(L:Rk l)(k:∀H',MS m top τ R H'->Q (.lst<|(sR l).map eV) H'):wC (d+8) 63 [.ref m,.int n] H Q:=by refine av rfl rfl (qy h N L λH' z=>?_);exact b8 (sR l) rT eV (λr y Q q=>aa (ut r.2 4 (by decide)<|by decide)<|aa (ur r.2 4<|by decide) q)<|k H' z
def xd(h:MS m top τ R H)(N:τ n=some (ZR n bo []))(k:∀H',MS m top τ R H'->Q (.bool true) H'):wC (d+8) 64 [.ref m,.int n] H Q:=by refine av rfl rfl (qy h N ⟨nofun,by decide⟩ λH' z=>?_);exact aa (eq_nil<|js _)<|k H' z
end
section
variable{H:Hp}{R F:List (Nat×Ob)}{d m top n:Nat}{Q:VP}{τ:Tr}{r:Raw}{bo:List UInt8}{l:List Rw}{c:Nat}
def jr{test:Loc->Hp->(Bool->Hp->Prop)->Prop}{body:Loc->Hp->LP->VP->LP->Prop}{K:LP}(I:α->LP)(z:α->Nat)
 (step:∀a L H (F:LP),I a L H->(∀b L H,z b<z a->I b L H->F L H)->test L H λb y=>gF b (body L y F T F)<|K L y):
 ∀n a L H,z a<n->I a L H->Bx (i9 test body K T n L H):=λn a L H m i=>by
 refine .of ?_;revert a L H
 induction n with|zero=>exactλa L H h=>absurd h<|Nat.not_lt_zero _|succ n x=>exactλa L H h i=>step a L H _ i λb L H u=>x b L H<|ri u<|sN h
def parts(s:List Nat):List (List Nat):=(aQ 47 s).filter λx=>! decide (x=[])
noncomputable def pS(p:List Nat):List Nat:=p.flatMap λc=>[47,c]
noncomputable def pN(p:List Nat):List (List Nat):=p.map λc=>[c]
noncomputable def nV(p:List Nat):List V:=p.map λc=>.str [c]
def HU(c:Nat)(h:c≠47)(s:List Nat):aQ 47 (c::47::s)=[c]::aQ 47 s:=by show(if c=47 then _ else _)=_;rw[ej h];rfl
def sI:∀p:List Nat,(∀c∈p,c≠47)->aQ 47 (pS p)=[]::pN p:=λp=>by
 induction p with
 |nil=>exactλz=>rfl|cons c t i=>
  intro h;have e:=i λc m=>h c<|.tail _ m;have y:=h c<|.head _;show[]::aQ 47 (c::pS t)=_
  induction t using List.casesOn with|nil=>show[]::(if c=47 then _ else _)=_;rw[ej y];rfl|cons b t=>have u:aQ 47 (b::pS t)=pN (b::t):=(ig e).2;show[]::aQ 47 (c::47::b::pS t)=_;rw[HU c y,u];rfl
def xe(p:List Nat)(h:∀c∈p,c≠47):parts (pS p)=pN p:=by rw[parts,sI p h];refine(nq<|by decide).trans ?_;rw[sl];intro x m;refine bL m λc _=>?_;rfl
def zp(p:List Nat)(h:∀c∈p,c≠47):parts (cM [47]<|pN p)=pN p:=by
 induction p using List.casesOn with
 |nil=>rfl|cons c t=>
  have e:∀(t:List Nat) c,47::cM [47] (pN<|c::t)=pS (c::t):=λt=>by
   induction t with|nil=>exactλc=>rfl|cons b t i=>intro c;show 47::c::(47::cM [47] (pN<|b::t))=_;rw[i];rfl
  have:=xe (c::t) h;rw[<-e]at this;exact this
def nj(h:s.length<=1000000)(k:Q (.lst<|(parts s).map .str) H):wC (d+1) 44 [.str s] H Q:=by refine av rfl rfl (dT h ?_);exact fZ (aQ 47 s) .str .str (λx=>! decide (x=[])) (λx z=>⟨_,rfl,λQ q=>kt (Q:=λb=>Q b H) q,λz Q q=>q⟩) k
def Lu(p:List Nat):(pN p).map .str=nV p:=gY
structure Dir(τ:Tr)(n:Nat)(z:Z)(l:List Rw):Prop where
 is:τ n=some (ZR n (zB z) l)
 ok:iW z
 sort:z.sort=1
 rows:Rk l
 cv:n<1000
def eG(h:MS m top τ R H)(D:Dir τ n z l)(k:∀H',MS m top τ R H'->Q .none H'):wC (d+6) 45 [.ref m,.int n,s] H Q:=by refine av rfl rfl (cu h D.is rfl D.ok λH' a y=>aa (y.rd m0)<|nF ?_<|k H' y.tl);rw[D.sort];rfl
inductive Wk(τ:Tr):Nat->List Nat->Nat->Prop
 |nil {n:Nat}:Wk τ n [] n
 |cons {n c:Nat} {p:List Nat} {k v:Nat} {z:Z} {l:List Rw}:Dir τ n z l->Nm c->dw l [c]=some v->v%4<=1->Wk τ (v/4) p k->Wk τ n (c::p) k
def xg:c9 (.lst<|x::t) (.int 1) .none=some (.lst t):=by show(clamp (x::t).length 0<|.int (1:Nat)).bind (λi=>(some (x::t).length).map λj=>V.lst<|cut (x::t) i j)=_;rw[cQ];show some (V.lst<|cut (x::t) _ (x::t).length)=_;rw[cut,List.take_length,GX<|by simp];rfl
def Jo(p:List Nat):V.jB (nV p)<=7:=c0 (gc p λz=>js _)<|js _
def l5(h:MS m top τ R H)(w:Wk τ n p k')(j:s.length<=1000000)(i:parts s=pN p)(f:p.length<900)
 (k:∀H',MS m top τ R H'->Q (.int k') H'):wC (d+9) 46 [.ref m,.int n,.str s,.bool b] H Q:=by
 refine av rfl rfl (nj j ?_);rw[i,Lu];refine jr (α:=List Nat×Nat) (λa L H=>MS m top τ R H/\Wk τ a.2 a.1 k'/\L 103=some (.ref m)/\L 15=some (.str s)/\L 56=some (.int a.2)/\L 108=some (.lst<|nV a.1)) (λa=>a.1.length) ?_ fuel (p,n) _ _ (Nat.lt_trans f<|by decide) ⟨h,w,rfl,rfl,rfl,rfl⟩;intro e L H F T Y;refine bC λG=>?_;obtain⟨p,n⟩:=e;obtain⟨h,w,A,y,U,u⟩:=T;refine G<|ae u<|aa (ne_nil<|Jo p) ?_
 cases w with
 |nil=>exact aJ rfl (ae U<|k H h)|@cons _ c p _ v z l D x O N w=>
  refine aY rfl (ae u<|aa jo<|ae u<|aa xg<|ae A<|ae U<|ae y ?_);refine eG h D λH h=>?_;have:c≠46:=by have:=x.1;exact Ja [_] [⟨0,.n 97,.v 0⟩] ⟨7,.v 0,.n 46⟩ 97 [47] rfl this
  refine dF (by simp[this])<|dF (by simp)<|ae A<|ae U ?_;refine gh h D.is D.rows x λH h=>?_;rw[O];refine aJ rfl (aa rfl (dF (Ja [_] [⟨0,.v 0,.n 1⟩] ⟨14,.v 0,.n 2⟩ 1 [1] rfl N)<|aJ rfl (aa rfl (Y (p,v/4) _ _ (yb _) ⟨h,w,A,y,rfl,rfl⟩))))
def Wk.nm(w:Wk τ n p k):∀c∈p,Nm c:=by
 induction w with
 |nil=>exact nofun|cons _ y _ _ _ i=>intro c m;cases m with|head=>exact y|tail _ m=>exact i c m
def Nm.ne(h:Nm c):c≠47:=by have:=h.1;exact Ja [_] [⟨0,.n 97,.v 0⟩] ⟨7,.v 0,.n 47⟩ 97 [48] rfl this
def Rn(t:List V):(-1:Int)+((t.length+1:Nat):Int)=t.length:=by rw[Int.natCast_add,Int.add_comm (t.length:Int)];exact Int.neg_add_cancel_left 1 _
def qB:oS (.lst<|t++[x]) (.int<|-1) H=some x:=by
 show(idx _ _).bind _=_
 have e:idx (t++[x]).length (-1)=some t.length:=by rw[idx,b9,ej λh=>absurd h.1<|by decide,er ⟨by decide,(Rn t).symm▸wX _⟩];exact cg some<|cg Int.toNat<|Rn t
 rw[e];simp
def zq:c9 (.lst<|t++[x]) .none (.int<|-1)=some (.lst t):=by
 have e:clamp (t++[x]).length (t++[x]).length (.int<|-1)=some t.length:=by show(if(-1:Int)<0 then some ((-1:Int)+((t++[x]).length:Nat)).toNat else some (min (-1:Int).toNat (t++[x]).length))=_;rw[er<|by decide,b9];exact cg some<|cg Int.toNat<|Rn t
 show(some 0).bind (λi=>(clamp (t++[x]).length (t++[x]).length<|.int<|-1).map λj=>V.lst<|cut (t++[x]) i j)=_;rw[e];show some (V.lst<|cut _ 0 _)=_;rw[cut,List.drop_zero,List.take_left]
def xj(p:List Nat):(cM [47]<|pN p).length<=2*p.length:=by
 induction p with
 |nil=>exact i1 _|cons c t i=>induction t using List.casesOn with|nil=>exact Nat.le_succ 1|cons b t=>show(cM [47]<|pN<|b::t).length+1+1<=_;simp at i⊢;exact Ja [_,_] [⟨0,.v 0,.m 2<|.a (.v 1)<|.n 1⟩] ⟨0,.a (.a (.v 0)<|.n 1)<|.n 1,.m 2<|.a (.a (.v 1)<|.n 1)<|.n 1⟩ 1 [1] rfl i
def HV(p:List Nat):strs? (nV p)=some (pN p):=strs_map p _
def Fu(L:p.length<900):(cM [47]<|pN p).length+[47].length<=big:=by have:=xj p;show(cM [47]<|pN p).length+1<=16777216;exact Ja [_,_] [⟨1,.v 0,.n 900⟩,⟨0,.v 1,.m 2<|.v 0⟩] ⟨0,.a (.v 1)<|.n 1,.n 16777216⟩ 1 [2,1] rfl L this
def hY(h:MS m top τ R H)(w:Wk τ n p k')(D:Dir τ k' z l)(y:Nm c)(x:s.length<=1000000)(u:parts s=pN (p++[c]))(L:p.length<900)
 (k:∀H',MS m top τ R H'->Q (.tup [.int k',.str [c]]) H'):wC (d+10) 47 [.ref m,.int n,.str s] H Q:=by
 refine av rfl rfl (nj x ?_);have e:(pN<|p++[c]).map .str=nV p++[.str [c]]:=by rw[Lu,nV,e7];rfl
 have i:(nV p++[V.str [c]]).isEmpty=false:=by simp
 rw[u,e];refine aa (eq_nil<|by rw[<-e,Lu];exact Jo _)<|aJ i<|aa qB<|aa (Fs y)<|aJ rfl (aJ rfl ?_);refine aa zq<|aa (HV p)<|dT (Fu L) ?_;have:=xj p;exact l5 h w (Ja [_,_] [⟨1,.v 0,.n 900⟩,⟨0,.v 1,.m 2<|.v 0⟩] ⟨0,.v 1,.n 1000000⟩ 1 [2,1] rfl L this) (zp p λc m=>(w.nm c m).ne) L λH h=>eG h D λH h=>aa qB<|k H h
inductive HW(τ:Tr)(o:Nat):Nat->Nat->Prop
 |top {n:Nat} {z:Z} {l:List Rw}:n≠o->Dir τ n z l->z.parent=n->HW τ o n 0
 |up {n j:Nat} {z:Z} {l:List Rw}:n≠o->Dir τ n z l->z.parent≠n->HW τ o z.parent j->HW τ o n (j+1)
def uz(h:MS m top τ R H)(u:HW τ o n j)(J:j<900)(k:∀H',MS m top τ R H'->Q (.bool false) H'):wC (d+6) 48 [.ref m,.int n,.int o] H Q:=by
 refine av rfl rfl<|jr (α:=Nat×Nat) (λa L H=>MS m top τ R H/\HW τ o a.2 a.1/\L 103=some (.ref m)/\L 48=some (.int a.2)/\L 41=some (.int o)) (λa=>a.1) ?_ fuel (j,n) _ _ (Nat.lt_trans J<|by decide) ⟨h,u,rfl,rfl,rfl⟩;intro s L H F T f;refine bC λG=>?_;obtain⟨j,n⟩:=s;obtain⟨h,u,y,A,U⟩:=T;refine G<|ae A<|ae U ?_
 cases u with|top N D p=>refine nT (λe=>N<|mj e)<|ae y<|ae A<|cu h D.is rfl D.ok λH a h=>aa (h.rd m0)<|ae A<|dT (cg Int.ofNat p)<|k H h.tl|@up _ j z l N D p u=>refine nT (λe=>N<|mj e)<|ae y<|ae A<|cu h D.is rfl D.ok λH a h=>aa (h.rd m0)<|ae A<|dF (λe=>p<|mj e)<|f (j,z.parent) _ _ (yb _) ⟨h.tl,u,y,rfl,U⟩
end
section
structure TA where
 (t s o m:Nat)
noncomputable def tC(x:TA)(now:Nat)(R:List<|Nat×Ob):List (Nat×Ob):=
 (x.t,.inst 3 [(69,.ref x.m),(8,.int now),(78,.ref x.s),(79,.int 3),(80,.ref x.o)])::(x.s,.inst 4 [(103,.ref x.m),(72,.int 2)])::(x.o,.dict .int [])::R
variable{H:Hp}{R F:List (Nat×Ob)}{d top n now:Nat}{Q:VP}{τ:Tr}{r:Raw}{bo:List UInt8}{l:List Rw}{c:Nat}{x:TA}{z:Z}
def set_set{n:Nat}:(τ.set n a).set n b=τ.set n b:=by funext y;unfold Tr.set;split<;>rfl
def aA{n:Nat}:τ.set n a n=a:=er rfl
def az{n k:Nat}(h:k≠n):τ.set n a k=τ k:=ej h
noncomputable def Vm:Option Nat->V
 |none=>.none|some s=>.int s
noncomputable def iO(z:Z)(nl:Nat)(sz:Option Nat)(now:Nat):Z:=⟨z.sort,z.mode,sz.getD z.size,nl,z.parent,z.made,now⟩
def bU{args:List V}(h:MS x.m top τ (tC x now R) H)(N:τ n=some r)(y:r.bo=zB z)(hz:iW z)(L:iW<|iO z nl sz now)(u:(z.links:Int)+δ=nl)
 (A:oV eS args=some (upd (upd (upd (upd (λp=>none) 44<|.ref x.t) 48<|.int n) 81<|.int δ) 82<|Vm sz))
 (k:∀H' a,MS x.m top (τ.set n<|some ⟨r.blk,zB<|iO z nl sz now,r.oc⟩) ((a,.inst 5<|zF<|iO z nl sz now)::tC x now R) H'->Q (.ref a) H'):wC (d+6) 24 args H Q:=by
 refine av rfl A (aa (h.rd m0) ?_);refine cu h N y hz λH a h=>aa (h.rd m0) ?_;refine(?_:rO (.ref a) 81 (.int<|z.links+δ) H _);rw[u];refine aa (h.at m0) ?_;have h:=h.iN<|.inst 5<|zF ⟨z.sort,z.mode,z.size,nl,z.parent,z.made,z.chg⟩
 induction sz using Option.casesOn with|none=>refine aY rfl (aa (h.rd m0)<|aa (h.at m0) ?_);have h:=h.iN<|.inst 5<|zF ⟨z.sort,z.mode,z.size,nl,z.parent,z.made,z.chg⟩;refine aa (h.rd m1)<|aa (h.at m0) ?_;have h:=h.iN<|.inst 5<|zF<|iO z nl none now;exact aa (h.rd m1)<|fQ h N m0 L λH h=>k H a h|some s=>refine aJ rfl (aa (h.at m0) ?_);have h:=h.iN<|.inst 5<|zF ⟨z.sort,z.mode,s,nl,z.parent,z.made,z.chg⟩;refine aa (h.rd m1)<|aa (h.at m0) ?_;have h:=h.iN<|.inst 5<|zF<|iO z nl (some s) now;exact aa (h.rd m1)<|fQ h N m0 L λH h=>k H a h
def gi{md:Nat}(m:md<65536)(k:Q .none H):wC (d+1) 26 [s,.int md] H Q:=
 av rfl rfl (dT (Ja [_] [] ⟨8,.n 0,.v 0⟩ 1 [] rfl)<|nF (Ja [_] [⟨1,.v 0,.n 65536⟩] ⟨8,.v 0,.n 65535⟩ 1 [1] rfl m) k)
def oC(h:MS x.m top τ (tC x now R) H)(w:Wk τ 2 p k')(y:s.length<=1000000)(u:parts s=pN p)(L:p.length<900)
 (k:∀H',MS x.m top τ (tC x now R) H'->Q (.int k') H'):wC (d+10) 40 [.ref x.s,.str s,.bool false] H Q:=
 av rfl rfl (aa (h.rd m1)<|aa (h.rd m1)<|l5 (n:=2) h w y u L k)
def xk(h:MS x.m top τ (tC x now R) H)(w:Wk τ 2 p k')(y:s.length<=1000000)(u:parts s=pN p)(L:p.length<900)
 (k:∀H',MS x.m top τ (tC x now R) H'->Q (.int k') H'):wC (d+10) 40 [.ref x.s,.str s] H Q:=
 av rfl rfl (aa (h.rd m1)<|aa (h.rd m1)<|l5 (n:=2) h w y u L k)
def qC(h:MS x.m top τ (tC x now R) H)(w:Wk τ 2 p k')(D:Dir τ k' z l)(y:Nm c)(u:s.length<=1000000)(m:parts s=pN (p++[c]))(L:p.length<900)(f:dw l [c]=none)
 (k:∀H',MS x.m top τ (tC x now R) H'->Q (.tup [.int k',.str [c]]) H'):wC (d+11) 25 [.ref x.t,.str s] H Q:=by
 refine av rfl rfl (aa (h.rd m0)<|aa (h.rd m0)<|aa (h.rd m1) ?_);refine hY (n:=2) h w D y u m L λH h=>gg y<|aa (h.rd m0)<|gh h D.is D.rows y λH h=>?_;rw[f];exact aJ rfl (k H h)
def iW.new{s md l p:Nat}(y:s<=2)(m:md<65536)(L:l<65536)(u:p<1000)(N:now<1000):iW ⟨s,md,0,l,p,now,now⟩:=
 ⟨y,m,Nat.zero_lt_succ 4294967295,L,by show p<_;exact Ja [_] [⟨1,.v 0,.n 1000⟩] ⟨1,.v 0,.n 4294967296⟩ 1 [1] rfl u,by show now<_;exact Ja [_] [⟨1,.v 0,.n 1000⟩] ⟨1,.v 0,.n 4294967296⟩ 1 [1] rfl N,by show now<_;exact Ja [_] [⟨1,.v 0,.n 1000⟩] ⟨1,.v 0,.n 4294967296⟩ 1 [1] rfl N⟩
def iW.ch(h:iW z)(L:nl<65536)(N:now<1000):iW (iO z nl none now):=⟨h.sort,h.mode,h.size,L,h.parent,h.made,by show now<_;exact Ja [_] [⟨1,.v 0,.n 1000⟩] ⟨1,.v 0,.n 4294967296⟩ 1 [1] rfl N⟩
abbrev chg(z:Z)(now:Nat):Z:=iO z z.links none now
def Cj{p s:List Nat}(h:MS x.m top τ (tC x now R) H)(w:Wk τ 2 p k')(D:Dir τ k' z l)(m:Nm c)(Y:s.length<=1000000)(U:parts s=pN (p++[c]))(L:p.length<900)(j:dw l [c]=none)
 (M:md<65536) (ht:top<900) (N:now<1000) (i:k'<=top) (I:Rk<|l++[([c],(top+1)*4+0)])
 (k:∀H',MS x.m (top+1) ((τ.set (top+1)<|some ⟨32,zB ⟨0,md,0,1,k',now,now⟩,[]⟩).set k'<|some<|ZR k' (zB<|chg z now)<|sR<|l++[([c],(top+1)*4+0)]) (tC x now R) H'->Q (.int (top+1:Nat)) H'):wC (d+13) 28 [.ref x.t,.str s,.int md] H Q:=by
 refine av rfl rfl (aa (h.rd m0) ?_);refine av rfl rfl (aa (h.rd m0) ?_);refine gi M<|aa (h.rd m0)<|qC h w D m Y U L j λH h=>aa (h.rd m0)<|aa (h.rd m0) ?_;have T:iW ⟨0,md,0,1,k',now,now⟩:=iW.new (by decide) M (by decide) D.cv N;refine bC λG=>h.has λF f kF b=>G<|ip (z:=⟨0,md,0,1,k',now,now⟩) f λJ y=>?_;generalize H.length=a at y⊢;have y:=kF _ [_] y;refine bC λG=>?_;obtain⟨A,oo,sh,ds,w',e,u⟩:=id y;refine G<|aa (y.rd m1)<|aa (u.rd m0)<|aa (y.rd m1)<|aa (u.rd m0)<|aa (u.rd m3)<|bC λG=>y.has λF f kF b=>G<|gx f (b _ m0) T λH2 u=>Fo (kF _ [] u).tl (Ja [_] [⟨1,.v 0,.n 900⟩] ⟨1,.v 0,.n 1000⟩ 1 [1] rfl ht) (by decide) (blk:=32) (by decide) rfl λH h=>?_;have O:k'≠top+1:=(Ja [_,_] [⟨0,.v 0,.v 1⟩] ⟨6,.v 0,.a (.v 1)<|.n 1⟩ 1 [1] rfl i);refine aa (h.rd m0)<|dY (x:=top+1) (s:=0) h ((az O).trans D.is) D.rows m j I (Ja [_] [⟨1,.v 0,.n 900⟩] ⟨1,.a (.v 0)<|.n 1,.n 4294967296⟩ 1 [1] rfl ht) (Ja [_,_] [⟨1,.v 0,.n 900⟩,⟨0,.v 1,.v 0⟩] ⟨1,.v 1,.n 4294967296⟩ 1 [1,1] rfl ht i) λH h=>aa (h.rd m0)<|bU (nl:=z.links) (sz:=none) h aA rfl D.ok (D.ok.ch D.ok.links N) (Int.add_zero _) rfl λH a h=>?_;have h:=h.tl;rw[set_set]at h;exact k H h
end
section
variable{H:Hp}{R F:List (Nat×Ob)}{d top n now:Nat}{Q:VP}{τ:Tr}{r:Raw}{bo:List UInt8}{l:List Rw}{c:Nat}{x:TA}{z:Z}
def xm(h:MS x.m top τ (tC x now R) H)(w:Wk τ 2 p k')(D:Dir τ k' z l)(y:Nm c)(i:s.length<=1000000)(e:parts s=pN (p++[c]))(L:p.length<900)(f:dw l [c]=none)
 (m:md<65536) (ht:top<900) (N:now<1000) (u:k'<=top) (I:Rk<|l++[([c],(top+1)*4+1)]) (hz:z.links+1<65536)
 (k:∀H',MS x.m (top+1) ((τ.set (top+1)<|some<|ZR (top+1) (zB ⟨1,md,0,2,k',now,now⟩) []).set k'<|some<|ZR k' (zB<|iO z (z.links+1) none now)<|sR<|l++[([c],(top+1)*4+1)]) (tC x now R) H'->Q (.int (top+1:Nat)) H'):wC (d+12) 29 [.ref x.t,.str s,.int md] H Q:=by
 refine av rfl rfl (aa (h.rd m0) ?_);refine gi m<|aa (h.rd m0)<|qC h w D y i e L f λH h=>aa (h.rd m0)<|gf h (Ja [_] [⟨1,.v 0,.n 900⟩] ⟨1,.v 0,.n 1000⟩ 1 [1] rfl ht) (by decide) λH h=>?_;refine aa (h.rd m0)<|aa (h.rd m0)<|aa (h.rd m0) ?_;have T:iW ⟨1,md,0,2,k',now,now⟩:=iW.new (by decide) m (by decide) D.cv N;refine bC λG=>h.has λF b kF M=>G<|ip (z:=⟨1,md,0,2,k',now,now⟩) b λU j=>?_;generalize H.length=a at j⊢;refine fQ (kF _ [_] j) aA m0 T λH h=>?_;have h:=h.tl;rw[set_set]at h;have Y:k'≠top+1:=(Ja [_,_] [⟨0,.v 0,.v 1⟩] ⟨6,.v 0,.a (.v 1)<|.n 1⟩ 1 [1] rfl u);refine aa (h.rd m0)<|dY (x:=top+1) (s:=1) h ((az Y).trans D.is) D.rows y f I (Ja [_] [⟨1,.v 0,.n 900⟩] ⟨1,.a (.v 0)<|.n 1,.n 4294967296⟩ 1 [1] rfl ht) (Ja [_,_] [⟨1,.v 0,.n 900⟩,⟨0,.v 1,.v 0⟩] ⟨1,.v 1,.n 4294967296⟩ 1 [1,1] rfl ht u) λH h=>aa (h.rd m0)<|bU (nl:=z.links+1) (sz:=none) h aA rfl D.ok (D.ok.ch hz N) rfl rfl λH a h=>?_;have h:=h.tl;rw[set_set]at h;exact k H h
def set_comm{n k:Nat}(h:n≠k):(τ.set n a).set k b=(τ.set k b).set n a:=by
 funext y;unfold Tr.set;by_cases e:y=k;.rw[er e,ej λq=>h<|q.symm.trans e,er e]
 .rw[ej e,ej e]
structure CU(τ:Tr)(n:Nat)(z:Z)(oc:List UInt8):Prop where
 is:τ n=some ⟨32,zB z,oc⟩
 ok:iW z
 sort:z.sort=0
 cv:n<1000
def HY(h:MS x.m top τ (tC x now R) H)(w:Wk τ 2 p k')(D:Dir τ k' z l)(y:Nm c)(j:s.length<=1000000)(i:parts s=pN (p++[c]))(L:p.length<900)(u:dw l [c]=none)
 (b:Wk τ 2 q n) (U:q.length<900) (ht:t.length<=1000000) (T:parts t=pN q) (f:CU τ n zf oc) (O:zf.links+1<65536) (N:now<1000) (I:Rk<|l++[([c],n*4+0)])
 (k:∀H',MS x.m top ((τ.set n<|some ⟨32,zB<|iO zf (zf.links+1) none now,oc⟩).set k'<|some<|ZR k' (zB<|chg z now)<|sR<|l++[([c],n*4+0)]) (tC x now R) H'->Q .none H'):wC (d+12) 30 [.ref x.t,.str t,.str s] H Q:=by
 have Y:k'≠n:=λe=>by have m:=D.is;rw[e,f.is]at m;exact absurd (cg Raw.blk<|dR m)<|by show ¬(32=128);decide
 have cv:=D.cv;have M:=f.cv;refine av rfl rfl (aa (h.rd m0)<|aa (h.rd m1) ?_);refine oC h b ht T U λH h=>aa (h.rd m0)<|cu h f.is rfl f.ok λH a h=>aa (h.rd m0)<|dF (by rw[f.sort];decide) ?_;have h:=h.perm (R':=tC x now<|(a,.inst 5<|zF zf)::R)<|.trans (.swap _ _ _)<|.cons _<|.trans (.swap _ _ _)<|.cons _<|.swap _ _ _;refine aa (h.rd m0)<|qC h w D y j i L u λH h=>aa (h.rd m0)<|aa (h.rd m3) ?_;refine(?_:wC (d+11) 61 [.ref x.m,.int k',.str [c],.int n,.int zf.sort] H _);rw[f.sort];refine dY (x:=n) (s:=0) h D.is D.rows y u I (Ja [_] [⟨1,.v 0,.n 1000⟩] ⟨1,.v 0,.n 4294967296⟩ 1 [1] rfl M) (Ja [_] [⟨1,.v 0,.n 1000⟩] ⟨1,.v 0,.n 4294967296⟩ 1 [1] rfl cv) λH h=>aa (h.rd m0)<|bU (nl:=zf.links+1) (sz:=none) h ((az Y.symm).trans f.is) rfl f.ok (f.ok.ch O N) rfl rfl λH a h=>?_;have h:=h.tl;refine aa (h.rd m0)<|bU (nl:=z.links) (sz:=none) h ((az Y).trans aA) rfl D.ok (D.ok.ch D.ok.links N) (Int.add_zero _) rfl λH a h=>?_;have h:=h.tl;rw[set_comm Y,set_set]at h;have e:=h.perm<|FC (l₁:=[_,_,_]) (l₂:=R);exact k H e.tl
def zr(h:MS x.m top τ (tC x now R) H)(b:Wk τ 2 q n)(y:q.length<900)(ht:t.length<=1000000)(T:parts t=pN q)(f:CU τ n zf oc)
 (k:∀H',MS x.m top τ (tC x now R) H'->Q (.int n) H'):wC (d+11) 31 [.ref x.t,.str t] H Q:=by
 refine av rfl rfl (aa (h.rd m0)<|aa (h.rd m1) ?_);refine xk h b ht T y λH h=>aa (h.rd m0)<|cu h f.is rfl f.ok λH a h=>aa (h.rd m0)<|dF (by rw[f.sort];decide)<|k H h.tl
def Ck(h:MS x.m top τ (tC x now R) H)(p:Wk τ 2 q n)(m:q.length<900)(ht:t.length<=1000000)(T:parts t=pN q)(f:CU τ n zf oc)
 (I:i<100) (J:oc.length<=200) (y:b.length<=200) (u:0<b.length) (N:now<1000)
 (k:∀H',MS x.m top (τ.set n<|some ⟨32,zB<|iO zf zf.links (some<|if zf.size<i+b.length then i+b.length else zf.size) now,pad 32<|CT oc i b⟩) (tC x now R) H'->Q .none H'):wC (d+12) 32 [.ref x.t,.str t,.int i,.bytes b] H Q:=by
 refine av rfl rfl (aa (h.rd m0) ?_);refine zr h p m ht T f λH h=>dF (Ja [_] [] ⟨13,.v 0,.n 0⟩ 1 [] rfl)<|dF (Ja [_,_] [⟨1,.v 0,.n 100⟩,⟨0,.v 1,.n 200⟩] ⟨13,.n 4294967295,.a (.v 0)<|.v 1⟩ 1 [1,1] rfl I y)<|aJ rfl (dT (Ja [_] [⟨1,.n 0,.v 0⟩] ⟨9,.n 0,.v 0⟩ 1 [1] rfl u)<|aa (h.rd m0) ?_);refine bC λG=>?_;obtain⟨D,O,Y,U,M,e,j⟩:=id h;refine G<|aa (j.rd m0)<|w7 (i:=i) h f.is (Nat.zero_lt_succ 31) (hS rfl) I J y u λH h=>aa (h.rd m0)<|aa (h.rd m0)<|cu h aA rfl f.ok λH a h=>aa (h.rd m0) ?_;have h:=h.tl
 have s:((if(zf.size:Int)<(i:Int)+b.length then(i:Int)+b.length else zf.size))=((if zf.size<i+b.length then i+b.length else zf.size:Nat):Int):=by
  by_cases e:zf.size<i+b.length;.exact(er (c:=(zf.size:Int)<(i:Int)+(b.length:Int))<|I3.2 e).trans<|by rw[er e];rfl
  .exact(ej (c:=(zf.size:Int)<(i:Int)+(b.length:Int)) λq=>e<|I3.1 q).trans<|by rw[ej e]
 refine(?_:wC (d+11) 24 [.ref x.t,.int n,.int 0,.int<|if(zf.size:Int)<(i:Int)+b.length then(i:Int)+b.length else zf.size] H _);rw[s];have hz:=f.ok.size;refine bU (nl:=zf.links) (sz:=some _) h aA rfl f.ok ⟨f.ok.sort,f.ok.mode,?_,f.ok.links,f.ok.parent,f.ok.made,?_⟩ (Int.add_zero _) rfl λH a h=>?_
 .show(if _ then _ else _)<_;clear k s;split;.exact dS (Nat.add_le_add (rh I) y)<|hS rfl
  .exact hz
 .show now<_;exact Ja [_] [⟨1,.v 0,.n 1000⟩] ⟨1,.v 0,.n 4294967296⟩ 1 [1] rfl N
 .have h:=h.tl;rw[set_set]at h;exact k H h
def xn(h:MS x.m top τ (tC x now R) H)(b:Wk τ 2 q n)(u:q.length<900)(ht:t.length<=1000000)(T:parts t=pN q)(y:τ n=some r)(s:r.bo=zB z)(hz:iW z)(m:md<65536)(N:now<1000)
 (k:∀H',MS x.m top (τ.set n<|some ⟨r.blk,zB ⟨z.sort,md,z.size,z.links,z.parent,z.made,now⟩,r.oc⟩) (tC x now R) H'->Q .none H'):wC (d+11) 33 [.ref x.t,.str t,.int md] H Q:=by
 refine av rfl rfl (aa (h.rd m0) ?_);refine gi m<|aa (h.rd m0)<|aa (h.rd m1)<|xk h b ht T u λH h=>aa (h.rd m0)<|cu h y s hz λH a h=>aa (h.rd m1)<|aa (h.at m0) ?_;have h:=h.iN<|.inst 5<|zF ⟨z.sort,md,z.size,z.links,z.parent,z.made,z.chg⟩;refine aa (h.at m0) ?_;have h:=h.iN<|.inst 5<|zF ⟨z.sort,md,z.size,z.links,z.parent,z.made,now⟩;refine aa (h.rd m1)<|fQ h y m0 ⟨hz.sort,m,hz.size,hz.links,hz.parent,hz.made,by show now<_;exact Ja [_] [⟨1,.v 0,.n 1000⟩] ⟨1,.v 0,.n 4294967296⟩ 1 [1] rfl N⟩ λH h=>k H h.tl
end
section
variable{H:Hp}{R F:List (Nat×Ob)}{d top n now:Nat}{Q:VP}{τ:Tr}{r:Raw}{bo:List UInt8}{l:List Rw}{c v:Nat}{x:TA}{z zf:Z}{oc:List UInt8}{p s:List Nat}{k':Nat}
noncomputable def l8(l:List Rw)(c:Nat):List Rw:=l.filter λr=>! decide (r.1=[c])
def Dir.ne(D:Dir τ k' z l)(f:CU τ n zf oc):k'≠n:=λe=>by have y:=D.is;rw[e,f.is]at y;exact absurd (cg Raw.blk<|dR y)<|by show ¬(32=128);decide
def Wk.snoc(w:Wk τ j p k')(D:Dir τ k' z l)(y:Nm c)(G:dw l [c]=some v)(u:v%4<=1):Wk τ j (p++[c]) (v/4):=by
 induction w with|nil=>exact .cons D y G u .nil|cons a b m e _ i=>exact .cons a b m e<|i D
def uA(h:MS x.m top τ (tC x now R) H)(f:CU τ n zf oc)(y:1<=zf.links)(N:now<1000)
 (k:∀H',MS x.m top (τ.set n<|if 1<zf.links then some ⟨32,zB<|iO zf (zf.links-1) none now,oc⟩else none) (tC x now R) H'->Q .none H'):wC (d+7) 34 [.ref x.t,.int n] H Q:=by
 have L:=f.ok.links;refine av rfl rfl (aa (h.rd m0) ?_);refine bU (nl:=zf.links-1) (sz:=none) h f.is rfl f.ok (f.ok.ch (Ja [_,_] [⟨1,.v 0,.n 65536⟩,⟨0,.v 1,.v 0⟩] ⟨1,.v 1,.n 65536⟩ 1 [1,1] rfl L (vC (zf.links)<|1)) N) (Int.ofNat_sub y).symm rfl λH a h=>aa (h.rd m0)<|dC (λe=>?_) λe=>?_;all_goals try replace e:(0:Int)<((zf.links-1:Nat):Int):=e
 all_goals try replace e:¬(0:Int)<((zf.links-1:Nat):Int):=e
 .rw[er<|(show 1<zf.links from Ja [_,_] [⟨9,.n 0,.v 0⟩,⟨2,.a (.v 0)<|.n 1,.v 1⟩] ⟨1,.n 1,.v 1⟩ 1 [1,1] rfl e (zy<|Ja [_] [⟨0,.n 1,.v 0⟩] ⟨0,.n 1,.v 0⟩ 1 [1] rfl y))]at k;exact k H h.tl
 .rw[ej<|(show ¬1<zf.links from Ja [_,_] [⟨13,.n 0,.v 0⟩,⟨0,.v 1,.a (.v 0)<|.n 1⟩] ⟨5,.n 1,.v 1⟩ 1 [1,1] rfl e (Ln.s1 (zf.links)<|1))]at k;refine aa (h.rd m1)<|aa (h.rd m3)<|aJ rfl (aa (h.rd m1) ?_);have h:=h.tl;refine bC λG=>?_;obtain⟨D,O,Y,m,j,e,u⟩:=id h;refine G<|aa (u.rd m0)<|Av h aA λH h=>?_;rw[set_set]at h;exact k H h
def Cl(h:MS x.m top τ (tC x now R) H)(w:Wk τ 2 p k')(D:Dir τ k' z l)(y:Nm c)(u:s.length<=1000000)(m:parts s=pN (p++[c]))(L:p.length<899)(G:dw l [c]=some v)(j:v%4<=1)
 (f:CU τ (v/4) zf oc) (i:1<=zf.links) (N:now<1000)
 (k:∀H',MS x.m top ((τ.set k'<|some<|ZR k' (zB<|chg z now)<|l8 l c).set (v/4)<|if 1<zf.links then some ⟨32,zB<|iO zf (zf.links-1) none now,oc⟩else none) (tC x now R) H'->Q .none H'):wC (d+11) 35 [.ref x.t,.str s] H Q:=by
 have Y:=D.ne f;have cv:=D.cv;have e:=w.snoc D y G j;refine av rfl rfl (aa (h.rd m0)<|aa (h.rd m0)<|aa (h.rd m1) ?_);refine hY (n:=2) h w D y u m (Ja [_] [⟨1,.v 0,.n 899⟩] ⟨1,.v 0,.n 900⟩ 1 [1] rfl L) λH h=>aa (h.rd m0)<|aa (h.rd m0)<|aa (h.rd m1)<|oC h e u m (by rw[b9];show p.length+1<900;exact Ja [_] [⟨1,.v 0,.n 899⟩] ⟨1,.a (.v 0)<|.n 1,.n 900⟩ 1 [1] rfl L) λH h=>?_;refine cu h f.is rfl f.ok λH a h=>aa (h.rd m0)<|dF (by rw[f.sort];decide) ?_;have h:=h.tl;refine aa (h.rd m0)<|fv h D.is D.rows y G (Ja [_] [⟨1,.v 0,.n 1000⟩] ⟨1,.v 0,.n 4294967296⟩ 1 [1] rfl cv) λH h=>aa (h.rd m0)<|bU (nl:=z.links) (sz:=none) h aA rfl D.ok (D.ok.ch D.ok.links N) (Int.add_zero _) rfl λH a h=>?_;have h:=h.tl;rw[set_set]at h;exact aa (h.rd m0)<|uA h ⟨(az Y.symm).trans f.is,f.ok,f.sort,f.cv⟩ i N k
def rH(h:MS x.m top τ (tC x now R) H)(w:Wk τ 2 p k')(D:Dir τ k' z l)(y:Nm c)(m:s.length<=1000000)(j:parts s=pN (p++[c]))(L:p.length<899)(G:dw l [c]=some v)(f:v%4<=1)
 (u:Dir τ (v/4) zn []) (b:1<=z.links) (Y:k'≠v/4) (N:now<1000)
 (k:∀H',MS x.m top ((τ.set k'<|some<|ZR k' (zB<|iO z (z.links-1) none now)<|l8 l c).set (v/4) none) (tC x now R) H'->Q .none H'):wC (d+11) 36 [.ref x.t,.str s] H Q:=by
 have cv:=D.cv;have M:=D.ok.links;have i:=w.snoc D y G f;refine av rfl rfl (aa (h.rd m0)<|aa (h.rd m0)<|aa (h.rd m1) ?_);refine hY (n:=2) h w D y m j (Ja [_] [⟨1,.v 0,.n 899⟩] ⟨1,.v 0,.n 900⟩ 1 [1] rfl L) λH h=>aa (h.rd m0)<|aa (h.rd m1)<|oC h i m j (by rw[b9];show p.length+1<900;exact Ja [_] [⟨1,.v 0,.n 899⟩] ⟨1,.a (.v 0)<|.n 1,.n 900⟩ 1 [1] rfl L) λH h=>aa (h.rd m0) ?_;refine eG h u λH h=>aa (h.rd m0)<|xd h u.is λH h=>aJ rfl (aa (h.rd m0) ?_);refine fv h D.is D.rows y G (Ja [_] [⟨1,.v 0,.n 1000⟩] ⟨1,.v 0,.n 4294967296⟩ 1 [1] rfl cv) λH h=>aa (h.rd m0)<|bU (nl:=z.links-1) (sz:=none) h aA rfl D.ok (D.ok.ch (Ja [_,_] [⟨1,.v 0,.n 65536⟩,⟨0,.v 1,.v 0⟩] ⟨1,.v 1,.n 65536⟩ 1 [1,1] rfl M (vC (z.links)<|1)) N) (Int.ofNat_sub b).symm rfl λH a h=>?_;have h:=h.tl;rw[set_set]at h;refine aa (h.rd m0)<|bC λU=>?_;obtain⟨O,J,I,A,i,e,T⟩:=id h;exact U<|aa (T.rd m0)<|Av h ((az Y.symm).trans u.is) k
def Lv{i:Nat}(h:i<=1):(if decide ((i:Int)=1)=true then(1:Int)else 0)=i:=by
 rcases i with _|_|i;.rfl
 .rfl
 .exact absurd (Nat.le_of_succ_le_succ h)<|wQ i
noncomputable def Ox(z:Z)(p now:Nat):Z:=⟨z.sort,z.mode,z.size,z.links,p,z.made,now⟩
def xp{y k2:Nat}{u m:Raw}(h:MS x.m top τ (tC x now R) H)(j:τ n=some r)(Y:r.bo=zB zf)(hz:iW zf)(U:zf.sort<=1)(M:n≠y)(L:n≠k2)
 (O:τ y=some u) (J:u.bo=zB z1) (T:iW z1) (G:zf.sort<=z1.links) (i:τ k2=some m) (D:m.bo=zB z2) (f:iW z2) (A:z2.links+zf.sort<65536) (N:now<1000) (hk:k2<1000) (Ta:y=k2->z1=z2)
 (k:∀H' I,(y=k2->I=(τ.set n<|some ⟨r.blk,zB<|Ox zf k2 now,r.oc⟩).set y (some ⟨u.blk,zB<|chg z1 now,u.oc⟩))->
   (y≠k2->I=((τ.set n<|some ⟨r.blk,zB<|Ox zf k2 now,r.oc⟩).set y<|some ⟨u.blk,zB<|iO z1 (z1.links-zf.sort) none now,u.oc⟩).set k2 (some ⟨m.blk,zB<|iO z2 (z2.links+zf.sort) none now,m.oc⟩))->
   MS x.m top I (tC x now R) H'->Q .none H'):wC (d+7) 38 [.ref x.t,.int n,.int y,.int k2] H Q:=by
 have b:=T.links;refine av rfl rfl (aa (h.rd m0) ?_);refine cu h j Y hz λH a h=>aa (h.rd m0)<|aa (cg some<|Lv U)<|aa (h.rd m1)<|aa (h.at m0) ?_;have h:=h.iN<|.inst 5<|zF ⟨zf.sort,zf.mode,zf.size,zf.links,k2,zf.made,zf.chg⟩;refine aa (h.at m0) ?_;have h:=h.iN<|.inst 5<|zF<|Ox zf k2 now;refine aa (h.rd m1)<|fQ h j m0 ⟨hz.sort,hz.mode,hz.size,hz.links,by show k2<_;exact Ja [_] [⟨1,.v 0,.n 1000⟩] ⟨1,.v 0,.n 4294967296⟩ 1 [1] rfl hk,hz.made,by show now<_;exact Ja [_] [⟨1,.v 0,.n 1000⟩] ⟨1,.v 0,.n 4294967296⟩ 1 [1] rfl N⟩ λH h=>?_;have h:=h.tl;refine aa (h.rd m0)<|bU (nl:=z1.links-zf.sort) (sz:=none) h ((az M.symm).trans O) J T (T.ch (Ja [_,_] [⟨1,.v 0,.n 65536⟩,⟨0,.v 1,.v 0⟩] ⟨1,.v 1,.n 65536⟩ 1 [1,1] rfl b (vC (z1.links)<|zf.sort)) N) (by rw[Int.zero_sub];exact(Int.ofNat_sub G).symm) rfl λH a h=>?_;have h:=h.tl;refine aa (h.rd m0) ?_;by_cases e:y=k2
 .clear j Y hz U M L J D f A hk;subst e;have e1:=O.symm.trans i;have e2:=Ta rfl;clear O i Ta e1;subst e2;refine bU (z:=iO z1 (z1.links-zf.sort) none now) (nl:=z1.links) (sz:=none) h aA rfl (T.ch (Ja [_,_] [⟨1,.v 0,.n 65536⟩,⟨0,.v 1,.v 0⟩] ⟨1,.v 1,.n 65536⟩ 1 [1,1] rfl b (vC (z1.links)<|zf.sort)) N) (T.ch b N) (by show((z1.links-zf.sort:Nat):Int)+_=_;exact Int.le_antisymm (Ja [_,_,_] [⟨2,.a (.v 0)<|.v 1,.v 2⟩] ⟨8,.a (.v 0)<|.v 1,.v 2⟩ 1 [1] rfl (zy<|Ja [_,_] [⟨0,.v 0,.v 1⟩] ⟨0,.v 0,.v 1⟩ 1 [1] rfl G))<|Ja [_,_,_] [⟨0,.v 0,.a (.v 1)<|.v 2⟩] ⟨8,.v 0,.a (.v 1)<|.v 2⟩ 1 [1] rfl (Ln.s1 (z1.links)<|zf.sort)) rfl λH a h=>?_;have h:=h.tl;rw[set_set]at h;exact k H _ (λzz=>rfl) (λe=>absurd rfl e) h
 .exact bU (nl:=z2.links+zf.sort) (sz:=none) h ((az<|Dq e).trans<|(az L.symm).trans i) D f (f.ch A N) rfl rfl λH a h=>k H _ (λe'=>absurd e' e) (λzz=>rfl) h.tl
def sJ{y k2 j e:Nat}(h:MS x.m top τ (tC x now R) H)(w:Wk τ 2 p y)(D:Dir τ y z1 l1)(i:Nm c)(f:s.length<=1000000)(b:parts s=pN (p++[c]))(L:p.length<899)
 (G:dw l1 [c]=some v) (U:v%4<=1) (T:Wk τ 2 q k2) (u:Dir τ k2 z2 l2) (m:Nm e) (ht:t.length<=1000000) (O:parts t=pN (q++[e])) (M:q.length<899) (N:dw l2 [e]=none)
 (J:τ (v/4)=some r) (I:r.bo=zB zf) (hz:iW zf) (A:zf.sort=v%4) (hu:zf.sort=1->HW τ (v/4) k2 j) (hj:j<900) (n1:v/4≠y) (n2:v/4≠k2) (hn:v/4<1000)
 (h2:((τ.set y<|some<|ZR y (zB z1)<|l8 l1 c) k2)=some (ZR k2 (zB z2) l2')) (Rr:Rk l2') (zt:dw l2' [e]=none) (CJ:Rk<|l2'++[([e],v/4*4+v%4)])
 (k:∀H',MS x.m top ((τ.set y<|some<|ZR y (zB z1)<|l8 l1 c).set k2<|some<|ZR k2 (zB z2)<|sR<|l2'++[([e],v/4*4+v%4)]) (tC x now R) H'->wC (d+10) 38 [.ref x.t,.int (v/4:Nat),.int y,.int k2] H' λzz H'=>Q .none H'):wC (d+11) 37 [.ref x.t,.str s,.str t] H Q:=by
 have cv:=D.cv;have Rs:=u.cv;have w':=w.snoc D i G U;refine av rfl rfl (aa (h.rd m0)<|aa (h.rd m0)<|aa (h.rd m1) ?_);refine hY (n:=2) h w D i f b (Ja [_] [⟨1,.v 0,.n 899⟩] ⟨1,.v 0,.n 900⟩ 1 [1] rfl L) λH h=>aa (h.rd m0)<|aa (h.rd m1)<|oC h w' f b (by rw[b9];show p.length+1<900;exact Ja [_] [⟨1,.v 0,.n 899⟩] ⟨1,.a (.v 0)<|.n 1,.n 900⟩ 1 [1] rfl L) λH h=>aa (h.rd m0)<|aa (h.rd m0)<|aa (h.rd m1) ?_;refine hY (n:=2) h T u m ht O (Ja [_] [⟨1,.v 0,.n 899⟩] ⟨1,.v 0,.n 900⟩ 1 [1] rfl M) λH h=>gg m<|aa (h.rd m0)<|cu h J I hz λH a h=>aa (h.rd m1)<|gh h u.is u.rows m λH h=>?_;rw[N];have h:=h.perm (R':=tC x now<|(a,.inst 5<|zF zf)::R)<|.trans (.swap _ _ _)<|.cons _<|.trans (.swap _ _ _)<|.cons _<|.swap _ _ _;refine aa (h.rd m3)<|dC (λY=>aa (h.rd m0)<|uz h (hu<|mj Y) hj λH h=>aJ rfl ?_) λY=>?_
 all_goals
  refine aJ rfl (aJ rfl (aJ rfl (aJ rfl (aa (h.rd m0) ?_))))
  refine fv h D.is D.rows i G (Ja [_] [⟨1,.v 0,.n 1000⟩] ⟨1,.v 0,.n 4294967296⟩ 1 [1] rfl cv) λH h=>aa (h.rd m0)<|aa (h.rd m3) ?_
  refine(?_:wC (d+10) 61 [.ref x.m,.int k2,.str [e],.int (v/4:Nat),.int zf.sort] H _)
  rw[A]
  refine dY h h2 Rr m zt CJ (Ja [_] [⟨1,.v 0,.n 1000⟩] ⟨1,.v 0,.n 4294967296⟩ 1 [1] rfl hn) (Ja [_] [⟨1,.v 0,.n 1000⟩] ⟨1,.v 0,.n 4294967296⟩ 1 [1] rfl Rs) λH h=>aa (h.rd m0) ?_
  have h:=h.perm<|FC (l₁:=[_,_,_]) (l₂:=R)
  exact k H h.tl
end
section
variable{H:Hp}{R F:List (Nat×Ob)}{d top n now m:Nat}{Q:VP}{τ:Tr}{r:Raw}{bo:List UInt8}{l:List Rw}
def sK(h:aE H F)(k:∀H',aE H' ((H.length,.inst 1 Cg)::F)->Q .none H'):wC (d+1) 19 [.ref H.length] (H++[.inst 1 []]) Q:=by have h:=h.new<|.inst 1 [];refine av rfl rfl (aa (h.at m0) ?_);have h:=h.set<|.inst 1<|Cg.take 1;refine aa (h.at m0) ?_;have h:=h.set<|.inst 1<|Cg.take 2;refine aa (h.at m0) ?_;have h:=h.set<|.inst 1<|Cg.take 3;refine aa (h.at m0) ?_;have h:=h.set<|.inst 1<|Cg.take 4;refine aa (h.at m0) ?_;have h:=h.set<|.inst 1<|Cg.take 5;refine aa (h.at m0) ?_;have h:=h.set<|.inst 1<|Cg.take 6;refine aa (h.at m0) ?_;have h:=h.set<|.inst 1<|Cg.take 7;refine aa (h.at m0) ?_;have h:=h.set<|.inst 1<|Cg.take 8;refine aa (h.at m0) ?_;have h:=h.set<|.inst 1<|Cg.take 9;refine aa (h.at m0) ?_;have h:=h.set<|.inst 1<|Cg.take 10;exact aa (h.at m0)<|k _<|h.set _
def bV(h:aE H F)(k:∀H' a,aE H' ((a,.dict kd [])::F)->Q (.ref a) H'):rP kd [] H.length (H++[.dict kd []]) Q:=
 .of rfl rfl ((h.new _).at m0) (k _ _<|(h.new _).set _)
def Ay(h:aE H<|(sh,.inst 1 Cg)::R)(k:∀H',MS H.length 0 (λz=>none) R H'->Q .none H'):wC (d+1) 11 [.ref H.length,.ref sh] (H++[.inst 0 []]) Q:=by have h:=h.new<|.inst 0 [];refine av rfl rfl (aa (h.at m0) ?_);generalize H.length=m at h k⊢;refine bV (h.set<|.inst 0 [(45,.ref sh)]) λH D h=>aa (h.at m1) ?_;refine bV (h.swap.set<|.inst 0 [(45,.ref sh),(46,.ref D)]) λH O h=>aa (h.at m1) ?_;have h:=h.swap.set<|.inst 0 [(45,.ref sh),(46,.ref D),(32,.ref O)];refine aa (h.at m0)<|k _ ⟨D,O,sh,[],⟨.nil,nofun,i1 _,js _⟩,rfl,?_⟩;exact(h.set<|.inst 0 [(45,.ref sh),(46,.ref D),(32,.ref O),(47,.int 0)]).perm<|.cons _<|.swap _ _ _
noncomputable def xq:List Rw:=[([114,111,111,116],2),([117,110,108,105,110,107,101,100],3)]
def xr(h:MS m top τ R H)(M:τ 1=some (ZR 1 bo l))(L:Rk l)(z:dw l [114,111,111,116]=some n')(k:∀H',MS m top τ ((H.length,.inst 4 [(103,.ref m),(72,.int n')])::R) H'->Q .none H'):wC (d+8) 39 [.ref H.length,.ref m] (H++[.inst 4 []]) Q:=by have h:=h.new<|.inst 4 [];refine av rfl rfl (aa (h.at m0) ?_);generalize H.length=a at h k⊢;have h:=h.iN<|.inst 4 [(103,.ref m)];refine eZ (n:=1) h M L λH h=>?_;rw[z];exact aa (h.at m0)<|k _<|h.iN _
end
section
variable{H:Hp}{R F:List (Nat×Ob)}{d top n now m:Nat}{Q:VP}{τ:Tr}{r:Raw}{bo:List UInt8}{l:List Rw}
noncomputable def txt(t:List Nat):Bool:=t.all λc=>decide (32<=c/\c<127)
def Lw(h:txt t=true):Tx t:=λc m=>dk<|ft.1 h c m
def Jp(h:(l.all λr=>txt r.1&&decide (r.1.length<256/\r.2<256^8))=true)(L:mL l<=128):Rk l:=⟨λr m=>by
 have:=ft.1 h r m;simp only[Bool.and_eq_true,decide_eq_true_eq]at this
 exact⟨Lw this.1,this.2.1,this.2.2⟩,L⟩
def oD:Rk xq:=Jp (by decide)<|by decide
def xw:Rk [([114,111,111,116],2)]:=Jp (by decide)<|by decide
def zu:Rk []:=⟨nofun,by decide⟩
def Fv(h:MS m top τ R H)(M:τ 1=some (ZR 1 bo xq))(k:∀H' (x:TA),x.t=H.length->x.m=m->MS m top τ (tC x now R) H'->Q .none H'):wC (d+9) 23 [.ref H.length,.ref m,.int now] (H++[.inst 3 []]) Q:=by have h:=h.new<|.inst 3 [];refine av rfl rfl (aa (h.at m0) ?_);generalize H.length=a at h k⊢;have h:=h.iN<|.inst 3 [(69,.ref m)];refine aa (h.at m0) ?_;have h:=h.iN<|.inst 3 [(69,.ref m),(8,.int now)];refine xr (n':=2) h M oD rfl λH h=>aa (h.at m1) ?_;generalize List.length _=s at h⊢;have h:=(h.perm<|.swap _ _ _).iN<|.inst 3 [(69,.ref m),(8,.int now),(78,.ref s)];refine eZ (n:=1) h M oD λH h=>aa (h.at m0) ?_;have h:=h.iN<|.inst 3 [(69,.ref m),(8,.int now),(78,.ref s),(79,.int 3)];refine bC λG=>h.has λF f kF z=>G<|bV f λH o h=>?_;have h:=(kF H [_] h).perm<|.swap _ _ _;refine aa (h.at m0) ?_;have h:=h.iN<|.inst 3 [(69,.ref m),(8,.int now),(78,.ref s),(79,.int 3),(80,.ref o)];exact k _ ⟨a,s,o,m⟩ rfl rfl (h.perm<|.cons _<|.swap _ _ _)
noncomputable def z0(now:Nat):Z:=⟨1,0,0,2,2,now,now⟩
def ku(h:MS m 0 τ R H)(N:now<1000)(k:∀H' (x:TA) iq,x.m=m->iq 1=some (ZR 1 [] xq)->iq 2=some (ZR 2 (zB<|z0 now) [])->MS m 3 iq (tC x now R) H'->Q (.ref x.t) H'):wC (d+10) 22 [.ref m,.int now] H Q:=by have hz:iW (z0 now):=iW.new (by decide) (by decide) (by decide) (by decide) N;refine av rfl rfl<|gf h (by decide) (by decide) λH h=>nF rfl ?_;refine gf h (by decide) (by decide) λH h=>?_;refine bC λG=>h.has λF f kF M=>G<|ip (z:=z0 now) f λs y=>?_;generalize H.length=a at y⊢;refine fQ (n:=2) (kF _ [_] y) aA m0 hz λH h=>?_;have h:=h.tl;refine jq (n:=1) (k':=2) h rfl zu rfl xw (by decide) (by decide) (by decide) λH h=>?_;refine gf h (by decide) (by decide) λH h=>?_;refine jq (n:=1) (k':=3) h rfl xw rfl oD (by decide) (by decide) (by decide) λH h=>?_;refine Fv h rfl λH x e u h=>?_;rw[<-e];exact k H x _ u rfl rfl h
end
section
abbrev Gr:=Nat->Option (List<|Nat×Nat)
def sE(l:List<|Nat×Nat):List (Nat×Nat):=bQ (λa b=>V.lt (.str [a.1])<|.str [b.1]) l
structure Row where
 (p:List Nat) (f c t:Nat)
noncomputable def dZ(E:Gr):Nat->Nat->List Nat->List Row
 |0,_,_=>[]|n+1,f,p=>(sE<|(E f).getD []).flatMap λe=>⟨p++[e.1],f,e.1,e.2⟩::dZ E n e.2 (p++[e.1])
noncomputable def Ht(E:Gr):Nat->Nat->Prop
 |0,_=>False|n+1,t=>∀es,E t=some es->∀e∈es,Ht E n e.2
noncomputable def ob(t:Nat):Nat:=if t=1 then 2 else t+2
def dN(E:Gr)(e:Nat×Nat):Rw:=([e.1],ob e.2*4+(if(E e.2).isSome then 1 else 0))
structure xx(es:List (Nat×Nat)):Prop where
 nd:es.Pairwise λa b=>a.1≠b.1
 nm:∀e∈es,Nm e.1/\2<=e.2/\e.2<900
def MO(a b:Nat):V.lt (.str [a]) (.str [b])=decide (a<b):=by
 show(if a=b then _ else _)=_;split;.rename_i e;subst e;exact(fo<|Nat.lt_irrefl _).symm
 .rfl
def aT(l:List<|Nat×Nat):(sE l).Perm l:=aL _ _
def qD{lt lt':α->α->Bool}(h:∀y∈l,lt x y=lt' x y):dE lt x l=dE lt' x l:=by
 induction l with|nil=>rfl|cons y r i=>show(if _ then _ else _)=if _ then _ else _;rw[h y<|.head _,i λz m=>h z<|.tail _ m]
def np{lt lt':α->α->Bool}(N:l.Nodup)(h:∀x∈l,∀y∈l,x≠y->lt x y=lt' x y):bQ lt l=bQ lt' l:=by
 have g:∀(t acc:List α),(∀x∈acc++t,x∈l)->(acc++t).Nodup->t.foldl (λacc x=>dE lt x acc) acc=t.foldl (λacc x=>dE lt' x acc) acc:=λt=>by
  induction t with
  |nil=>exactλacc z z=>rfl|cons x t i=>
   intro acc M D;have p:(dE lt' x acc++t).Perm (acc++x::t):=((fH lt' x acc).append_right t).trans FC.symm
   have e:dE lt x acc=dE lt' x acc:=qD λy m=>h x (M x<|ec _<|.head _) y (M y<|dy _ m) λe=>by subst e;exact(H5.1 D).2.2 x m x (.head _) rfl
   show List.foldl _ (dE lt x acc) t=List.foldl _ (dE lt' x acc) t;rw[e];exact i _ (λy m=>M y<|p.subset m)<|p.nodup_iff.2 D
 exact g l [] (λz m=>m) N
def Az{α z:Type}{f:α->z}{l:List α}(h:l.Pairwise λa b=>f a≠f b):∀x∈l,∀y∈l,x≠y->f x≠f y:=by
 induction l with
 |nil=>exact nofun|cons a t i=>
  have p:=rj.1 h;intro x k y Y ne
  cases k with
  |head=>cases Y with
   |head=>exact absurd rfl ne|tail _ m=>exact p.1 y m
  |tail _ m=>cases Y with|head=>exact(p.1 x m).symm|tail _ M=>exact i p.2 x m y M ne
def Jq{E:Gr}{es:List (Nat×Nat)}(h:xx es):sR (es.map<|dN E)=(sE es).map (dN E):=by
 have e:=sort_map (λe=>rT<|dN E e) es;have u:=sort_map rT<|es.map<|dN E;rw[gY]at u;have i:=u.symm.trans e
 have inj:∀a b:List Rw,a.map rT=b.map rT->a=b:=λa b h=>List.map_inj_right (f:=rT) (λx y e=>by
  have:=V.tup.inj e;have z:=V.str.inj (ig this).1;have s:=mj<|V.int.inj (ig (ig this).2).1
  exact Prod.ext z s)|>.1 h;refine(inj _ _<|i.trans (gY (f:=dN E) (g:=rT)).symm).trans<|cg _ ?_;refine np (h.nd.imp λh e=>h<|cg _ e) λx k y Y c=>?_;have p:=Az h.nd x k y Y c;exact ej λe=>p (ig<|V.str.inj e).1
def Fw{es:List (Nat×Nat)}(h:es.Pairwise λa b=>a.1≠b.1):TO (λa b=>V.lt (.str [a.1])<|.str [b.1]) (·∈es):=
 ⟨λz=>(MO ..).trans<|fo<|Nat.lt_irrefl _,λz z z a b=>(MO ..).trans<|eb<|Nat.lt_trans (dk<|(MO ..).symm.trans a)<|dk<|(MO ..).symm.trans b,
  λ{x y} Y M a b=>Decidable.byContradiction λne=>Az h x Y y M ne<|i3 (pg<|si<|(MO ..).symm.trans b)<|pg<|si<|(MO ..).symm.trans a⟩
def xx.perm(h:xx es)(p:es.Perm z5):xx z5:=⟨(p.pairwise_iff λe=>Dq e).1 h.nd,λe m=>h.nm e<|p.symm.subset m⟩
theorem xx.sE(h:xx es):xx (sE es):=h.perm (aT es).symm
def Jr{E:Gr}{es:List (Nat×Nat)}(h:xx es):sR ((sE es).map<|dN E)=(sE es).map (dN E):=by rw[Jq h.sE];exact cg _<|uZ<|Fw h.nd
structure Inv(τ:Tr)(E:Gr)(zf:Nat->Z)(oc ot:Nat->List UInt8):Prop where
 CV:τ 1=some (ZR 1 [] xq)
 dir:∀f es,E f=some es->Dir τ (ob f) (zf f) ((sE es).map (dN E))/\xx es
 fy:∀f es e,E f=some es->e∈es->E e.2=none->CU τ (ob e.2) (zf e.2) (oc e.2)/\(∃k,oc e.2=ot e.2++zs k)/\(ot e.2).length=(zf e.2).size/\(oc e.2).length<=100
def Gp(p:List Nat):List Nat:=if p=[]then[47]else pS p
structure BR where
 (p:List Nat) (t f a:Nat)
def BR.v(zf:Nat->Z)(b:BR):V:=.tup [.str<|Gp b.p,.int<|ob b.t,.int<|ob b.f,.ref b.a]
def BR.cell(zf:Nat->Z)(b:BR):Nat×Ob:=(b.a,.inst 5<|zF<|zf b.t)
noncomputable def BR.r(b:BR):List Nat×Nat×Nat:=(b.p,b.t,b.f)
noncomputable def Row.r(r:Row):List Nat×Nat×Nat:=(r.p,r.t,r.f)
variable{H:Hp}{R F:List (Nat×Ob)}{d top n now m:Nat}{Q:VP}{τ:Tr}{r:Raw}{bo:List UInt8}{E:Gr}{zf:Nat->Z}{oc ot:Nat->List UInt8}
def oE(p:List Nat)(c:Nat):pS (p++[c])=pS p++[47]++[c]:=by simp[pS]
def qE(p:List Nat):(pS p).length=2*p.length:=by induction p with|nil=>rfl|cons a t i=>show(pS t).length+1+1=2*(t.length+1);exact i3 (Ja [_,_] [⟨2,.v 0,.m 2<|.v 1⟩] ⟨0,.a (.a (.v 0)<|.n 1)<|.n 1,.m 2<|.a (.v 1)<|.n 1⟩ 1 [1] rfl i)<|Ja [_,_] [⟨3,.v 0,.m 2<|.v 1⟩] ⟨0,.m 2<|.a (.v 1)<|.n 1,.a (.a (.v 0)<|.n 1)<|.n 1⟩ 1 [1] rfl i
def Rt(τ:Tr)(E:Gr)(zf:Nat->Z)(t:Nat):Prop:=(E t).isSome\/(E t=none/\∃o,CU τ (ob t) (zf t) o)
def iu{body:Loc->Hp->LP->VP->LP->Prop}{K:LP}(l:List α)(I:List α->List α->LP)
 (step:∀q a r L H (F:LP),l=q++a::r->I q (a::r) L H->(∀L H,I (q++[a]) r L H->F L H)->wM (cW t (i a) L) λz=>body z H F T F)
 (fin:∀L H,I l [] L H->K L H) (L:Loc) (H:Hp) (h:I [] l L H):i8 body t none K T (l.map i) L H:=by
 refine qv (λr L H=>∃q,l=q++r/\I q r L H) (λa r L H F b f=>by obtain⟨q,e,h⟩:=b;exact step q a r L H F e h λL H h=>f L H ⟨_,by rw[e,ee];rfl,h⟩) (λL H ⟨q,e,h⟩=>?_) l L H ⟨[],rfl,h⟩;rw[hE]at e;subst e;exact fin L H h
def qF(I:Inv τ E zf oc ot)(N:Nat×Nat->List Row)(ht:Rt τ E zf t)(h:MS m top τ R H)(j:(s,Ob.inst 4 [(103,.ref m),(72,.int 2)])∈R)(hp:p.length<900)
 (hN:((sE<|(E t).getD []).flatMap λe=>(⟨p++[e.1],t,e.1,e.2⟩:Row)::N e).length<10000)
 (rec:∀es e,E t=some es->e∈es->∀R (H:Hp) (Q:VP),MS m top τ R H->(s,Ob.inst 4 [(103,.ref m),(72,.int 2)])∈R->
   (∀(H':Hp) (X:List<|Nat×Ob) (z:List BR),MS m top τ (X++R) H'->(∀b∈z,b.cell zf∈X)->z.map BR.r=(p++[e.1],e.2,t)::(N e).map Row.r->Q (.lst<|z.map<|BR.v zf) H')->
   wC (d+8) 42 [.ref s,.str<|pS<|p++[e.1],.int<|ob e.2,.int<|ob t] H Q)
 (k:∀(H':Hp) (X:List<|Nat×Ob) (z:List BR),MS m top τ (X++R) H'->(∀b∈z,b.cell zf∈X)->z.map BR.r=(p,t,f)::(((sE<|(E t).getD []).flatMap λe=>(⟨p++[e.1],t,e.1,e.2⟩:Row)::N e).map Row.r)->Q (.lst<|z.map<|BR.v zf) H'):
 wC (d+9) 42 [.ref s,.str<|Gp p,.int<|ob t,.int<|ob f] H Q:=by
 refine av rfl rfl (aa (h.rd j) ?_);rcases ht with ht|⟨u,o,i⟩
 .obtain⟨es,u⟩:=Gz.1 ht;obtain⟨D,hn⟩:=I.dir t es u;refine cu h D.is rfl D.ok λH a h=>aa (h.rd m0)<|dT (cg Int.ofNat D.sort)<|aa (h.rd<|.tail _ j)<|qA h D.is D.rows λH h=>?_;rw[Jr hn,gY];rw[u]at k hN;refine iu (sE es) (λq zz L H=>∃(X:List<|Nat×Ob) (z:List BR),MS m top τ (X++R) H/\(∀b∈z,b.cell zf∈X)/\z.map BR.r=(p,t,f)::((q.flatMap λe=>(⟨p++[e.1],t,e.1,e.2⟩:Row)::N e).map Row.r)/\L 44=some (.ref s)/\L 15=some (.str<|Gp p)/\L 48=some (.int<|ob t)/\L 24=some (.lst<|z.map<|BR.v zf)) ?_ ?_ _ _ ⟨[(a,_)],[⟨p,t,f,a⟩],h,(λb m=>by rw[dt.1 m];exact .head _),rfl,rfl,rfl,rfl,rfl⟩
  .intro q e r L H F eq aS i;refine bC λzG=>?_;obtain⟨X,z,h,hb,U,a1,A,T,a4⟩:=aS;refine zG ?_;have me:e∈es:=(aT es).subset<|eq▸ec _ (.head _);have ev:ob e.2=(ob e.2*4+(if(E e.2).isSome then 1 else 0))/4:=by split<;>(first|exact i3 (Ja [_,_,_] [⟨3,.a (.m 4<|.v 0)<|.v 1,.a (.r (.v 2) 4)<|.n 1⟩,⟨1,.v 1,.n 4⟩] ⟨0,.v 2,.v 0⟩ 4 [1,1] rfl (xW (ob e.snd*4+1) 4) (Nat.mod_lt (ob e.snd*4+1) (y:=4)<|by decide)) (Ja [_,_,_] [⟨2,.a (.m 4<|.v 0)<|.v 1,.a (.r (.v 2) 4)<|.n 1⟩] ⟨0,.v 0,.v 2⟩ 4 [1] rfl (xW (ob e.snd*4+1) 4))|exact i3 (Ja [_,_,_] [⟨3,.a (.m 4<|.v 0)<|.v 1,.a (.r (.v 2) 4)<|.n 0⟩,⟨1,.v 1,.n 4⟩] ⟨0,.v 2,.v 0⟩ 4 [1,1] rfl (xW (ob e.snd*4+0) 4) (Nat.mod_lt (ob e.snd*4+0) (y:=4)<|by decide))<|Ja [_,_,_] [⟨2,.a (.m 4<|.v 0)<|.v 1,.a (.r (.v 2) 4)<|.n 0⟩] ⟨0,.v 0,.v 2⟩ 4 [1] rfl (xW (ob e.snd*4+0) 4))
   have hlen:z.length+((N e).length+1)<100000:=by have O:=cg List.length U;have M:((sE<|(some es).getD []).flatMap λe=>(⟨p++[e.1],t,e.1,e.2⟩:Row)::N e).length<10000:=hN;rw[show(some es).getD []=es from rfl,eq,xl,b9,sZ,b9,mc]at M;rw[a9,mc,a9]at O;exact Ja [_,_,_,_] [⟨2,.v 0,.a (.v 1)<|.n 1⟩,⟨1,.a (.v 1)<|.a (.a (.v 2)<|.n 1)<|.v 3,.n 10000⟩] ⟨1,.a (.v 0)<|.a (.v 2)<|.n 1,.n 100000⟩ 1 [1,1] rfl O M
   have hB:big=16777216:=rfl;have uT:=qE p;refine ae rfl (ae a4<|ae rfl (ae a1<|aa (h.rd<|ec _ j)<|ae A ?_));have fin:∀(H':Hp) (x:List<|Nat×Ob) (G:List BR),MS m top τ (x++(X++R)) H'->(∀b∈G,b.cell zf∈x)->G.map BR.r=(p++[e.1],e.2,t)::(N e).map Row.r->∀l,l 44=L 44->l 15=L 15->l 48=L 48->l 24=some (.lst<|z.map (BR.v zf)++G.map (BR.v zf))->
    gF (decide ((z.map<|BR.v zf).length+(G.map<|BR.v zf).length<=1000000)) (F l H') False:=λH' x G c Y J l O M e3 e4=>by
    have el:=cg List.length J;rw[a9,mc,a9]at el;refine dT (by rw[a9,a9];exact Ja [_,_,_] [⟨1,.a (.v 0)<|.a (.v 1)<|.n 1,.n 100000⟩,⟨2,.v 2,.a (.v 1)<|.n 1⟩] ⟨0,.a (.v 0)<|.v 2,.n 1000000⟩ 1 [1,1] rfl hlen el)<|i _ _ ⟨x++X,z++G,by rw[ee];exact c,λb m=>?_,?_,O.trans a1,M.trans A,e3.trans T,by rw[e7];exact e4⟩
    .rcases eu.1 m with m|m;.exact ec _<|hb b m
     .exact dy _<|Y b m
    .rw[e7,U,J,xl,e7,List.flatMap_singleton];rfl
   by_cases Tc:p=[]
   .subst Tc;refine nF rfl (aa (add_str<|hS rfl)<|ae T ?_);refine(?_:wC (d+8) 42 [.ref s,.str<|pS<|[]++[e.1],.int ((ob e.2*4+(if(E e.2).isSome then 1 else 0))/4:Nat),.int<|ob t] H _);rw[<-ev];exact rec es e u me _ H _ h (ec _ j) λH' x G c Y J=>fin H' x G c Y J _ rfl rfl rfl rfl
   .have Js:Gp p=pS p:=ej Tc;refine nT (λe=>?_)<|ae A<|aa (add_str ?_)<|aa (add_str ?_)<|ae T ?_
    .have:=cg List.length<|Js.symm.trans e;rw[uT]at this;simp at this;rcases Nat.eq_zero_or_pos p.length with q|q;.rw[q]at this;exact nomatch this
     .exact absurd (Nat.mul_le_mul_left 2 q)<|by rw[this];decide
    .rw[Js,uT];show 2*p.length+1<=big;exact Ja [_,_] [⟨1,.v 0,.n 900⟩,⟨3,.v 1,.n 16777216⟩] ⟨0,.a (.m 2<|.v 0)<|.n 1,.v 1⟩ 16777216 [33554432,1799] rfl hp hB
    .rw[Js];show(pS p++[47]).length+1<=big;rw[b9,uT];show 2*p.length+1+1<=_;exact Ja [_,_] [⟨1,.v 0,.n 900⟩,⟨3,.v 1,.n 16777216⟩] ⟨0,.a (.a (.m 2<|.v 0)<|.n 1)<|.n 1,.v 1⟩ 2097152 [4194304,225] rfl hp hB
    refine(?_:wC (d+8) 42 [.ref s,.str<|Gp p++[47]++[e.1],.int ((ob e.2*4+(if(E e.2).isSome then 1 else 0))/4:Nat),.int<|ob t] H _);rw[<-ev,Js,<-oE];exact rec es e u me _ H _ h (ec _ j) λH' x G c Y J=>fin H' x G c Y J _ rfl rfl rfl rfl
  .intro L H aS;refine bC λzG=>?_;obtain⟨X,z,h,hb,U,a1,A,T,a4⟩:=aS;exact zG<|ae a4<|k H X z h hb U
 .refine cu h i.is rfl i.ok λH a h=>aa (h.rd m0)<|dF (by rw[i.sort];decide) ?_;refine k H [(a,_)] [⟨p,t,f,a⟩] h (λb m=>by rw[dt.1 m];exact .head _)<|by rw[u];rfl
def Inv.di(I:Inv τ E zf oc ot)(h:E f=some es)(m:e∈es):Rt τ E zf e.2:=by
 cases z:E e.2 with|none=>exact .inr ⟨z,_,(I.fy f es e h m z).1⟩|some x=>exact .inl<|by rw[z];rfl
def Fy(I:Inv τ E zf oc ot):∀(n t f:Nat) (p:List Nat) (R:List<|Nat×Ob) (H:Hp) (Q:VP),Rt τ E zf t->Ht E (n+1) t->p.length+n<900->(dZ E n t p).length<10000->MS m top τ R H->(s,Ob.inst 4 [(103,.ref m),(72,.int 2)])∈R->
 (∀(H':Hp) (X:List<|Nat×Ob) (j:List BR),MS m top τ (X++R) H'->(∀b∈j,b.cell zf∈X)->j.map BR.r=(p,t,f)::(dZ E n t p).map Row.r->Q (.lst<|j.map<|BR.v zf) H')->
 wC (d+n+9) 42 [.ref s,.str<|Gp p,.int<|ob t,.int<|ob f] H Q:=by
 intro n
 induction n with
 |zero=>
  intro t f p R H Q ht y x l h z k
  have G:(sE<|(E t).getD [])=[]:=by
   cases e:E t with
   |none=>rfl|some es=>induction es using List.casesOn with|nil=>rfl|cons a r=>exact(y _ e a<|.head _).elim
  refine qF I (λY=>[]) ht h z (Ja [_] [⟨1,.a (.v 0)<|.n 0,.n 900⟩] ⟨1,.v 0,.n 900⟩ 1 [1] rfl x) (by rw[G];exact Nat.zero_lt_succ _) (λes e u m=>(y es u e m).elim) ?_;rw[G];exact k
 |succ n i=>
  intro t f p R H Q ht y x l h z k;refine qF I (λe=>dZ E n e.2<|p++[e.1]) ht h z (Ja [_,_] [⟨1,.a (.v 0)<|.a (.v 1)<|.n 1,.n 900⟩] ⟨1,.v 0,.n 900⟩ 1 [1] rfl x) l (λes e u m R H Q h z k=>?_) k
  have N:(dZ E n e.2<|p++[e.1]).length<10000:=by obtain⟨q,r,eq⟩:=List.append_of_mem<|(aT es).symm.subset m;have l:((sE<|(E t).getD []).flatMap λe=>(⟨p++[e.1],t,e.1,e.2⟩:Row)::dZ E n e.2 (p++[e.1])).length<10000:=l;rw[u,show(some es).getD []=es from rfl,eq,xl,b9,sZ,b9,mc]at l;exact Ja [_,_,_] [⟨1,.a (.v 0)<|.a (.a (.v 1)<|.n 1)<|.v 2,.n 10000⟩] ⟨1,.v 1,.n 10000⟩ 1 [1] rfl l
  have c:Gp (p++[e.1])=pS (p++[e.1]):=ej<|by simp
  rw[<-c];exact i e.2 t (p++[e.1]) R H Q (I.di u m) (y es u e m) (by rw[b9];show p.length+1+n<900;exact Ja [_,_] [⟨1,.a (.v 0)<|.a (.v 1)<|.n 1,.n 900⟩] ⟨1,.a (.a (.v 0)<|.n 1)<|.v 1,.n 900⟩ 1 [1] rfl x) N h z k
end
section
variable{H:Hp}{R F:List (Nat×Ob)}{d top n now m s:Nat}{Q:VP}{τ:Tr}{r:Raw}{bo:List UInt8}{E:Gr}{zf:Nat->Z}{oc ot:Nat->List UInt8}{z:Z}
def sM:bI (dput D k v) k'=if k'=k then some v else bI D k':=by
 by_cases h:∃e∈D,e.1=k
 .have p:bR D k=true:=by simpa [bR]using h
  rw[dput,p,er rfl];clear p
  induction D with
  |nil=>obtain⟨e,m,_⟩:=h;cases m
  |cons a t i=>
   unfold bI at i⊢;rw[ik,EW,EW];by_cases e:a.1=k
   .rw[er e];by_cases u:k'=k;.rw[eb<|by rw[e,u],er u];rfl
    .rw[fo<|by rw[e];exact Dq u,ej u];by_cases ht:∃e∈t,e.1=k;.rw[ej u]at i;exact i ht
     .rw[uw (v':=v) λe m y=>ht ⟨e,m,y⟩]
   .rw[ej e]
    have ht:∃e∈t,e.1=k:=by
     obtain⟨x,m,l⟩:=h
     cases m with|head=>exact absurd l e|tail _ m=>exact⟨x,m,l⟩
    by_cases u:a.1=k';.rw[eb u,ej<|by rw[<-u];exact e]
    .rw[fo u];exact i ht
 .have N:∀e∈D,e.1≠k:=λe m y=>h ⟨e,m,y⟩;rw[dM N];unfold bI;rw[List.find?_append];by_cases e:k'=k
  .subst e;rw[er rfl,List.find?_eq_none.2 λe m=>by simpa using N e m,List.find?_cons_of_pos<|by simp];rfl
  .rw[ej e,List.find?_cons_of_neg<|by simpa using Dq e];simp
def Cm{l:List (V×V)}{g:V->V}(h:∀e∈l,e.2=g e.1){k:V}(y:k∈l.map (·.1)):bI (l.foldl (λd e=>dput d e.1 e.2) []) k=some (g k):=by
 have g:∀(l D:List<|V×V),(∀e∈l,e.2=g e.1)->(k∈l.map (·.1)\/bI D k=some (g k))->bI (l.foldl (λd e=>dput d e.1 e.2) D) k=some (g k):=λl=>by
  induction l with
  |nil=>intro D _ h;rcases h with h|h;cases h;exact h
  |cons a t i=>
   intro D L h;refine i _ (λe m=>L e<|.tail _ m) ?_;by_cases e:k=a.1;.right;rw[sM,er e,L a<|.head _,e]
   .rcases h with h|h
    .cases h with|head=>exact absurd rfl e|tail _ m=>exact .inl m
    .right;rw[sM,ej e];exact h
 exact g l [] h<|.inl y
def Co{r:Raw}(h:MS m top τ R H)(y:(s,Ob.inst 4 [(103,.ref m),(72,.int 2)])∈R)(N:τ n=some r)(b:r.bo=zB z)(hz:iW z)(hsz:z.size<=1000)(l:r.oc.length<=1000)
 (k:∀H',MS m top τ R H'->Q (.bytes<|MN r.oc z.size) H'):wC (d+6) 41 [.ref s,.int n,.int 0,.int z.size] H Q:=by
 refine av rfl rfl (dF (by decide)<|dF (Ja [_] [] ⟨13,.v 0,.n 0⟩ 1 [] rfl)<|aJ rfl (aa (h.rd y) ?_));refine cu h N b hz λH a h=>aa (h.rd m0) ?_;have h:=h.tl;refine bC λG=>?_;obtain⟨D,O,Y,u,p,e,x⟩:=id h;refine G<|aa (h.rd y)<|aa (x.rd m0) ?_
 have e:(if(0:Int)<(if(z.size:Int)-0<(z.size:Int)then(z.size:Int)-0 else z.size)then(if(z.size:Int)-0<(z.size:Int)then(z.size:Int)-0 else z.size)else 0)=(z.size:Int):=by
  rw[Int.sub_zero,ej<|Int.lt_irrefl _];split;.rfl
  .rename_i q;exact Int.le_antisymm (wX _)<|G7.1 q
 refine(?_:wC (d+5) 13 [.ref m,.int n,.int 0,.int<|if(0:Int)<(if(z.size:Int)-0<(z.size:Int)then(z.size:Int)-0 else z.size)then(if(z.size:Int)-0<(z.size:Int)then(z.size:Int)-0 else z.size)else 0] H Q);rw[e];exact Au h N (Ja [_] [⟨0,.v 0,.n 1000⟩] ⟨0,.v 0,.n 100000⟩ 1 [1] rfl hsz) (Ja [_] [⟨0,.v 0,.n 1000⟩] ⟨0,.v 0,.n 100000⟩ 1 [1] rfl l)<|k H h
def jt(zf:Nat->Z)(t:Nat):V:=.tup [.int<|ob t,.int (zf t).made]
def PN(E:Gr)(zf:Nat->Z)(ot:Nat->List UInt8)(t:Nat):V:=.tup [.int (zf t).sort,.int (zf t).mode,match E t with|none=>.bytes<|ot t|some es=>.tup<|(sE es).map λe=>.tup [.str [e.1],jt zf e.2]]
def Fz(I:Inv τ E zf oc ot)(h:MS m top τ R H)(i:(s,Ob.inst 4 [(103,.ref m),(72,.int 2)])∈R)(A:(a,Ob.inst 5<|zF<|zf t)∈R)(Y:(wd,Ob.dict .int D)∈R)(U:∀es,E t=some es->∀x∈es,bI D (.int<|ob x.2)=some (jt zf x.2))
 (ht:(E t).isSome\/∃f es c,E f=some es/\(c,t)∈es) (k:∀H',MS m top τ R H'->Q (PN E zf ot t) H'):wC (d+9) 50 [.ref s,.int<|ob t,.ref a,.ref wd] H Q:=by
 refine av rfl rfl (aa (h.rd A) ?_)
 cases e:E t with
 |none=>
  refine bC λG=>?_;obtain⟨f,es,c,T,O⟩:=ht.resolve_left<|by rw[e];nofun
  obtain⟨u,⟨j,p⟩,l,M⟩:=I.fy f es (c,t) T O e;refine G ?_;replace p:oc t=ot t++zs j:=p;replace l:(ot t).length=(zf t).size:=l;replace M:(oc t).length<=100:=M;replace u:CU τ (ob t) (zf t) (oc t):=u;have L:(ot t).length<=(oc t).length:=by rw[p,b9];exact Ja [_,_] [] ⟨0,.v 0,.a (.v 0)<|.v 1⟩ 1 [] rfl
  refine nT (by rw[u.sort];decide)<|aa (h.rd A)<|aa (h.rd A)<|aa (h.rd i)<|aa (h.rd A) ?_;refine Co h i u.is rfl u.ok (Ja [_,_,_] [⟨3,.v 0,.v 1⟩,⟨0,.v 2,.n 100⟩,⟨0,.v 0,.v 2⟩] ⟨0,.v 1,.n 1000⟩ 1 [1,1,1] rfl l M L) (by show(oc t).length<=1000;exact Ja [_] [⟨0,.v 0,.n 100⟩] ⟨0,.v 0,.n 1000⟩ 1 [1] rfl M) λH h=>?_
  have N:MN (oc t) (zf t).size=ot t:=by rw[MN,<-l,p,List.take_left,b9,Nat.sub_eq_zero_of_le<|(show(ot t).length<=(ot t).length+(zs j).length from Ja [_,_] [] ⟨0,.v 0,.a (.v 0)<|.v 1⟩ 1 [] rfl)];exact hE _
  have k:=k H h;rw[PN,e]at k;show Q (.tup [_,_,.bytes<|MN (oc t) (zf t).size]) H;rw[N];exact k
 |some es=>
  obtain⟨b,J⟩:=I.dir t es e;refine nF (by rw[b.sort];rfl)<|aa (h.rd i) ?_;refine qA h b.is b.rows λH h=>?_;rw[Jr J,gY];refine b8 (sE es) (eV∘dN E) (λe=>.tup [.str [e.1],jt zf e.2]) (λx mx Q q=>?_)<|aa (h.rd A)<|aa (h.rd A) ?_
  .have ev:(ob x.2*4+(if(E x.2).isSome then 1 else 0))/4=ob x.2:=by split<;>(first|exact i3 (Ja [_,_,_] [⟨2,.a (.m 4<|.v 0)<|.v 1,.a (.r (.v 2) 4)<|.n 1⟩] ⟨0,.v 0,.v 2⟩ 4 [1] rfl (xW (ob x.snd*4+1) 4)) (Ja [_,_,_] [⟨3,.a (.m 4<|.v 0)<|.v 1,.a (.r (.v 2) 4)<|.n 1⟩,⟨1,.v 1,.n 4⟩] ⟨0,.v 2,.v 0⟩ 4 [1,1] rfl (xW (ob x.snd*4+1) 4) (Nat.mod_lt (ob x.snd*4+1) (y:=4)<|by decide))|exact i3 (Ja [_,_,_] [⟨2,.a (.m 4<|.v 0)<|.v 1,.a (.r (.v 2) 4)<|.n 0⟩] ⟨0,.v 0,.v 2⟩ 4 [1] rfl (xW (ob x.snd*4+0) 4))<|Ja [_,_,_] [⟨3,.a (.m 4<|.v 0)<|.v 1,.a (.r (.v 2) 4)<|.n 0⟩,⟨1,.v 1,.n 4⟩] ⟨0,.v 2,.v 0⟩ 4 [1,1] rfl (xW (ob x.snd*4+0) 4) (Nat.mod_lt (ob x.snd*4+0) (y:=4)<|by decide))
   refine aa (h.rd Y)<|aa (a:=jt zf x.2) ?_ q;show bI D (.int<|((ob x.2*4+(if(E x.2).isSome then 1 else 0))/4:Nat))=_;rw[ev];exact U es e x<|(aT es).subset mx
  .have k:=k H h;rw[PN,e]at k;exact k
def cb{n f:Nat}{r:Row}:r∈dZ E (n+1) f p↔∃es e,E f=some es/\e∈es/\(r=⟨p++[e.1],f,e.1,e.2⟩\/r∈dZ E n e.2 (p++[e.1])):=by
 refine List.mem_flatMap.trans ?_;constructor
 .intro a;refine bC λG=>?_;obtain⟨e,m,h⟩:=a;refine G ?_;have m:=(aT _).subset m
  cases y:E f with|none=>rw[y]at m;exact nomatch m|some es=>rw[y]at m;exact⟨es,e,rfl,m,lq.1 h⟩
 .intro a;refine bC λG=>?_;obtain⟨es,e,y,m,h⟩:=a;exact G<|⟨e,(aT _).symm.subset<|by rw[y];exact m,lq.2 h⟩
def iv:∀{n f:Nat} {p:List Nat} {r:Row},Ht E (n+1) f->r∈dZ E n f p->E r.t=some es->e∈es->(⟨r.p++[e.1],r.t,e.1,e.2⟩:Row)∈dZ E n f p:=λ{n}=>by
 induction n with
 |zero=>intro f p r _ h;cases h|succ n i=>
  intro f p r c b u O;obtain⟨y,x,l,k,h3⟩:=cb.1 b;have j:=c y l x k;refine cb.2 ⟨y,x,l,k,.inr ?_⟩;rcases h3 with rfl|h3
  .induction n using Nat.casesOn with|zero=>exact(j es u e O).elim|succ n=>exact cb.2 ⟨es,e,u,O,.inl rfl⟩
  .exact i j h3 u O
def uB{n f:Nat}(y:Ht E (n+1) f)(u:E f=some es)(O:e∈es):(⟨p++[e.1],f,e.1,e.2⟩:Row)∈dZ E n f p:=by
 induction n using Nat.casesOn with|zero=>exact(y es u e O).elim|succ n=>exact cb.2 ⟨es,e,u,O,.inl rfl⟩
def H0:∀{n f:Nat} {p:List Nat} {r:Row},r∈dZ E n f p->r.f=f\/∃y∈dZ E n f p,y.t=r.f:=λ{n}=>by
 induction n with
 |zero=>intro f p r h;cases h|succ n i=>
  intro f p r h;refine bC λG=>?_;obtain⟨es,e,x,u,h3⟩:=cb.1 h;refine G ?_;rcases h3 with rfl|h3;.exact .inl rfl
  .right;rcases i h3 with h4|⟨y,m,h4⟩;.exact⟨_,cb.2 ⟨es,e,x,u,.inl rfl⟩,h4.symm⟩
   .exact⟨y,cb.2 ⟨es,e,x,u,.inr m⟩,h4⟩
def MS.Lx{X:List (Nat×Ob)}(h:MS m top τ (X++R) H):MS m top τ R H:=by exact h.cells λC c h=>c.ms<|h.sub<|List.Sublist.append_left (List.sublist_append_right _ _) _
def zv:∀{n f:Nat} {p:List Nat} {r:Row},r∈dZ E n f p->∃es,E r.f=some es/\(r.c,r.t)∈es:=λ{n}=>by
 induction n with
 |zero=>intro f p r h;cases h|succ n i=>
  intro f p r h;obtain⟨es,e,y,x,h3⟩:=cb.1 h;rcases h3 with rfl|h3;.exact⟨es,y,x⟩
  .exact i h3
def Ly(E:Gr)(zf:Nat->Z)(ot:Nat->List UInt8)(r:List Nat×Nat×Nat):V:=.tup [.str<|Gp r.1,jt zf r.2.1,jt zf r.2.2,PN E zf ot r.2.1]
noncomputable def Oy(n:Nat):Nat:=if n=2 then 1 else n-2
def mh(h:1<=t):Oy (ob t)=t:=by
 unfold Oy ob;by_cases e:t=1;.subst e;rfl
 .rw[ej e,ej λq=>absurd (Nat.add_right_cancel (q:t+2=0+2))<|Nat.ne_of_gt h];rfl
def oF{k:Kd}{p:List (V×V)}(h:∀e∈p,keyOk k e.1=true)(l:p.length<=1000000):(p.all (λe=>keyOk k e.1)&&decide (p.length<=1000000))=true:=by rw[ft.2 h,eb l];rfl
def iw(l:List α)(f g:α->V):oU (l.map λa=>.tup [f a,g a])=some (l.map λa=>(f a,g a)):=by induction l with|nil=>rfl|cons a r i=>exact(cg (Option.map _) i).trans rfl
def kz{n:Nat}(I:Inv τ E zf oc ot)(h:MS m top τ R H)(y:(s,Ob.inst 4 [(103,.ref m),(72,.int 2)])∈R)(h1:(E 1).isSome)(i:Ht E (n+1) 1)(hn:n<800)(f:(dZ E n 1 []).length<10000)
 (k:∀H',MS m top τ R H'->Q (.lst<|(([],1,1)::(dZ E n 1 []).map Row.r).map<|Ly E zf ot) H'):wC (d+n+11) 51 [.ref s] H Q:=by
 refine av rfl rfl (aa (h.rd y) ?_);refine av rfl rfl (aa (h.rd y)<|aa (h.rd y)<|aa (h.rd y) ?_);refine Fy I n 1 1 [] R H _ (.inl h1) i (by show 0+n<900;exact Ja [_] [⟨1,.v 0,.n 800⟩] ⟨1,.a (.n 0)<|.v 0,.n 900⟩ 1 [1] rfl hn) f h y λH X bs h hb p=>?_;have N:=cg List.length p;rw[a9,mc,a9]at N
 have rows:∀b∈bs,b.r=([],1,1)\/∃r∈dZ E n 1 [],b.r=r.r:=λb m=>by
  have:b.r∈bs.map BR.r:=u1 m;rw[p]at this;rcases lq.1 this with h|h;.exact .inl h
  .exact oO h λr m e=>.inr ⟨r,m,e.symm⟩
 have pos:∀b∈bs,1<=b.t:=λb m=>by
  rcases rows b m with e|⟨r,m,e⟩
  .have:b.t=1:=cg (·.2.1) e;exact Ja [_] [⟨3,.v 0,.n 1⟩] ⟨0,.n 1,.v 0⟩ 1 [1] rfl this
  .obtain⟨es,u,mm⟩:=zv m;have:=((I.dir _ _ u).2.nm _ mm).2.1;have Y:b.t=r.t:=cg (·.2.1) e;exact Ja [_,_] [⟨0,.n 2,.v 0⟩,⟨3,.v 1,.v 0⟩] ⟨0,.n 1,.v 1⟩ 2 [1,1] rfl this Y
 have Jt:∃b∈bs,b.t=1:=by
  have:(([],1,1):List Nat×Nat×Nat)∈bs.map BR.r:=by rw[p];exact .head _
  exact oO this λb m e=>⟨b,m,cg (·.2.1) e⟩
 have T:∀r∈dZ E n 1 [],∃b∈bs,b.t=r.t:=λr m=>by
  have:r.r∈bs.map BR.r:=by rw[p];exact .tail _<|u1 m
  exact oO this λb m e=>⟨b,m,cg (·.2.1) e⟩
 refine b8 bs (BR.v zf) (λb=>.tup [.int<|ob b.t,jt zf b.t]) (λb M Q q=>?_) ?_
 .refine(?_:wC (d+n+10) 49 [.int<|ob b.t,.ref b.a] H _);exact av rfl rfl (aa (h.rd<|dy _<|hb b M) q)
 refine aa (iw bs (λb=>.int<|ob b.t) λb=>jt zf b.t)<|aY (oF (by intro e m;refine bL m λb _=>?_;rfl)<|by rw[a9,N];exact rh<|Nat.lt_trans (Nat.succ_lt_succ f)<|by decide) ?_
 have j:∀t,(∃b∈bs,b.t=t)->bI ((bs.map λb=>((.int (ob b.t):V),jt zf b.t)).foldl (λd e=>dput d e.1 e.2) []) (.int<|ob t)=some (jt zf t):=λt ⟨b,M,e⟩=>by
  subst e;refine(Cm (g:=λv=>jt zf<|Oy ((bx v).getD 0).toNat) (λe m=>?_) ?_).trans<|cg some ?_
  .refine bL m λb O=>?_;show jt zf b.t=jt zf (Oy (ob b.t:Int).toNat);rw[Int.toNat_natCast,mh<|pos b O]
  .rw[gY];exact nW.2 ⟨b,M,rfl⟩
  .show jt zf (Oy (ob b.t:Int).toNat)=_;rw[Int.toNat_natCast,mh<|pos b M]
 generalize(bs.map λb=>((.int (ob b.t):V),jt zf b.t)).foldl (λd e=>dput d e.1 e.2) []=D at j⊢;have h:=h.new<|.dict .int D;obtain⟨l,hwd⟩:∃l,l=H.length:=⟨_,rfl⟩;rw[<-hwd]at h;have hm:∀{c:Nat×Ob},c∈R->c∈(l,.dict .int D)::(X++R):=λm=>.tail _<|ec _ m;refine iu bs (λq zz L H=>MS m top τ ((l,.dict .int D)::(X++R)) H/\L 111=some (.ref s)/\L 112=some (.ref l)/\L 24=some (.lst<|q.map λb=>Ly E zf ot b.r)) ?_ ?_ _ _ ⟨h,rfl,hwd▸rfl,rfl⟩
 .intro q b r L H F eq J hF;refine bC λG=>?_;obtain⟨h,a1,A,U⟩:=J;refine G ?_;have M:b∈bs:=eq▸ec _ (.head _)
  have bf:∃b'∈bs,b'.t=b.f:=by
   rcases rows b M with e|⟨r,m,e⟩
   .have:b.f=1:=cg (·.2.2) e;rw[this];exact Jt
   .have Y:b.f=r.f:=cg (·.2.2) e;rw[Y];rcases H0 m with e|⟨r',O,e⟩;.rw[e];exact Jt
    .rw[<-e];exact T r' O
  refine ae rfl (ae U<|ae rfl (J1<|pa<|yu rfl (pa<|De<|yu A<|aa (h.rd m0)<|aa (j b.t ⟨b,M,rfl⟩)<|pa<|De<|yu A<|aa (h.rd m0)<|aa (j b.f bf)<|ae a1<|ae A ?_)));refine Fz I h (hm y) (.tail _<|dy _<|hb b M) m0 (λes u x mx=>j _ ?_) ?_ λH h=>dT ?_<|hF _ _ ⟨h,a1,A,?_⟩
  .rcases rows b M with e|⟨r,m,e⟩
   .have e:b.t=1:=cg (·.2.1) e;rw[e]at u;exact T _<|uB i u mx
   .have e:b.t=r.t:=cg (·.2.1) e;rw[e]at u;exact T _<|iv i m u mx
  .rcases rows b M with e|⟨r,m,e⟩
   .have e:b.t=1:=cg (·.2.1) e;rw[e];exact .inl h1
   .have e:b.t=r.t:=cg (·.2.1) e;rw[e];refine bC λG=>?_;obtain⟨es,a,b⟩:=zv m;exact G<|.inr ⟨_,es,_,a,b⟩
  .have:=cg List.length eq;rw[b9]at this;rw[a9];exact Ja [_,_,_,_] [⟨1,.v 0,.n 10000⟩,⟨2,.v 1,.a (.v 0)<|.n 1⟩,⟨3,.v 1,.a (.v 2)<|.v 3⟩] ⟨1,.v 2,.n 1000000⟩ 1 [1,1,1] rfl f N this
  .rw[e7];rfl
 .intro L H J;refine bC λG=>?_;obtain⟨h,a1,A,U⟩:=J;refine G ?_;have e:bs.map (λb=>Ly E zf ot b.r)=(([],1,1)::(dZ E n 1 []).map Row.r).map (Ly E zf ot):=by rw[<-p,gY];rfl
  rw[e]at U;exact ae U<|k H h.tl.Lx
end
section
def cU(g:Option<|Nat×Ob)(H:Hp):Prop:=∀{A:Prop},A->bz g H A
theorem cU.none:cU none H:=λk=>k
def d4(h:cU g H)(k:A):bz g H A:=h k
def e8{test:Loc->Hp->(Bool->Hp->Prop)->Prop}(G:cU g H)(l:List α)(i f:α->V)(p:α->Bool)(j:vs=l.map i)
 (step:∀a∈l,∃z,cW t (i a) L=some z/\(∀Q:Bool->Hp->Prop,Q (p a) H->test z H Q)/\(p a=true->∀Q:VP,Q (f a) H->elt z H Q))
 (k:Q ((l.filter p).map f)<|iY g H):d8 elt test t L g vs H Q:=by
 subst j
 induction l generalizing Q with
 |nil=>exact d4 G k|cons a r u=>
  refine bC λs=>?_;obtain⟨z,y,ht,m⟩:=step a<|.head _;refine s ?_;have I:=λQ=>@u Q λb y=>step b<|.tail _ y;refine d4 G ?_;rw[y];refine ht _<|b7 (λe=>m e _<|I _ ?_) λe=>I _ ?_;.rw[rZ e]at k;exact k
  .rw[nq<|by rw[e];nofun]at k;exact k
def mn{body:Loc->Hp->LP->VP->LP->Prop}{K:LP}(l:List α)(j:vs=l.map i)(I:List α->List α->LP)
 (G:∀q r L H,I q r L H->cU g H)
 (step:∀q a r L H (F:LP),l=q++a::r->I q (a::r) L H->(∀L H,I (q++[a]) r L H->F L H)->wM (cW t (i a) L) λy=>body y H F (λv z=>bz g z<|T v<|iY g z) F)
 (fin:∀L H,I l [] L H->K L (iY g H)) (L:Loc) (H:Hp) (h:I [] l L H):i8 body t g K T vs L H:=by
 subst j
 have:∀r q L H,l=q++r->I q r L H->i8 body t g K T (r.map i) L H:=λr=>by
  induction r with|nil=>intro q L H e h;rw[hE]at e;subst e;exact d4 (G _ _ _ _ h)<|fin L H h|cons a r u=>intro q L H e h;exact d4 (G _ _ _ _ h)<|step q a r L H _ e h λL H h=>u (q++[a]) L H (by rw[e,ee];rfl) h
 exact this l [] L H rfl h
noncomputable def aK(init:List Nat)(l:List Nat):List Nat:=l.foldl (λa t=>if t∈a then a else a++[t]) init
noncomputable def ofT(l:List<|Nat×V)(t:Nat):List V:=(l.filter λe=>decide (e.1=t)).map (·.2)
def sO(k:Nat->V)(init:List Nat)(l:List<|Nat×V):List (V×V):=(aK init<|l.map (·.1)).map λt=>(k t,.lst<|ofT l t)
def sP(init l:List Nat)(t:Nat):aK init (l++[t])=if t∈aK init l then aK init l else aK init l++[t]:=by rw[aK,List.foldl_append];rfl
def gj(init l:List Nat)(h:init.Nodup):(aK init l).Nodup:=by
 induction l generalizing init with
 |nil=>exact h|cons t r i=>
  refine i _ ?_;show List.Nodup<|if _ then _ else _;split;.exact h
  .rename_i e;exact H5.2 ⟨h,by simp,λa H b z u=>by obtain rfl:=dt.1 z;exact e<|u▸H⟩
def aP(init l:List Nat)(t:Nat):t∈aK init l↔t∈init\/t∈l:=by
 induction l generalizing init with
 |nil=>exact⟨.inl,λh=>h.resolve_right nofun⟩|cons a r i=>
  refine(i _).trans ?_;show t∈(if _ then _ else _)\/_↔_;split
  .rename_i e;constructor;.intro h;exact h.imp id<|.tail _
   .intro h;rcases h with h|h;.exact .inl h
    .cases h with|head=>exact .inl e|tail _ h=>exact .inr h
  .simp[or_assoc]
def Kj(k:Nat->V):Prop:=∀a b,1<=a->1<=b->k a=k b->a=b
def gk{k v:Nat->V}{l:List Nat}{x:Nat}(y:Kj k)(H:∀t∈l,1<=t)(z:1<=x):bI (l.map λt=>(k t,v t)) (k x)=if x∈l then some (v x)else none:=by
 induction l with
 |nil=>rfl|cons a r i=>
  have i:=i λt m=>H t<|.tail _ m;unfold bI at i⊢;rw[ik,EW];by_cases e:a=x;.clear y H z i;subst e;rw[eb<|by rfl,er<|.head _];rfl
  .rw[fo λh=>e<|y _ _ (H a<|.head _) z h];refine i.trans ?_;by_cases h:x∈r;.rw[er h,er<|.tail _ h]
   .rw[ej h,ej λm=>by cases m with|head=>exact e rfl|tail _ m=>exact h m]
def mu{k:V}:bR D k=(bI D k).isSome:=by
 unfold bR bI
 induction D with|nil=>rfl|cons a r i=>rw[List.any_cons,EW];by_cases h:a.1=k<;>simp[h,i]
def gm{k v v':Nat->V}{l:List Nat}{x:Nat}(y:Kj k)(H:∀t∈l,1<=t)(z:1<=x)(p:∀t∈l,t≠x->v' t=v t):
 dput (l.map λt=>(k t,v t)) (k x) (v' x)=(if x∈l then l else l++[x]).map λt=>(k t,v' t):=by
 have e:=mu (D:=l.map λt=>(k t,v t)) (k:=k x);rw[gk y H z]at e;by_cases h:x∈l
 .rw[er h]at e⊢;rw[dput,e];refine(er rfl).trans ?_;rw[gY];refine lF λt m=>?_;show(if _ then _ else _)=_;by_cases ht:t=x;.clear y H z p;subst ht;exact er rfl
  .rw[p t m ht];exact ej λh=>ht<|y _ _ (H t m) z h
 .rw[ej h]at e⊢;rw[dput,e,e7];refine(ej nofun).trans<|cg (·++_)<|lF λt m=>?_;rw[p t m λht=>h<|ht▸m]
def xy{l:List (Nat×V)}{t x:Nat}{v:V}:ofT (l++[(x,v)]) t=if t=x then ofT l t++[v]else ofT l t:=by
 unfold ofT;rw[List.filter_append,e7];by_cases e:t=x;.subst e;rw[er rfl,rZ<|by simp];rfl
 .rw[ej e,nq<|by simpa using Dq e];exact hE _
def xz{l:List (Nat×V)}(h:t∉l.map (·.1)):ofT l t=[]:=by unfold ofT;have:l.filter (λe=>decide (e.1=t))=[]:=List.filter_eq_nil_iff.2 λe m H=>h<|dk H▸u1 m;rw[this];rfl
variable{k:Nat->V}{init:List Nat}{l:List (Nat×V)}{x:Nat}{v:V}
def uC(y:Kj k)(H:∀t∈init,1<=t)(L:∀e∈l,1<=e.1)(z:1<=x):bI (sO k init l) (k x)=if x∈aK init (l.map (·.1))then some (.lst<|ofT l x)else none:=
 gk (v:=λt=>.lst<|ofT l t) y (λt m=>by
  rcases(aP _ _ _).1 m with m|m;.exact H t m
  .exact bL m λe M=>L e M) z
def kA(y:Kj k)(H:∀t∈init,1<=t)(L:∀e∈l,1<=e.1)(z:1<=x):(bI (sO k init l)<|k x).getD (.lst [])=.lst (ofT l x):=by
 rw[uC y H L z];split;.rfl
 .rename_i h;rw[xz λm=>h<|(aP _ _ _).2<|.inr m];rfl
def uD(y:Kj k)(H:∀t∈init,1<=t)(L:∀e∈l,1<=e.1)(z:1<=x):dput (sO k init l) (k x) (.lst<|ofT l x++[v])=sO k init (l++[(x,v)]):=by
 have e:=gm (v:=λt=>.lst<|ofT l t) (v':=λt=>.lst<|ofT (l++[(x,v)]) t) (l:=aK init<|l.map (·.1)) (x:=x) y (λt m=>by
  rcases(aP _ _ _).1 m with m|m;.exact H t m
  .exact bL m λe M=>L e M) z (λt u ne=>by rw[xy,ej ne]);rw[xy,er rfl]at e;refine e.trans ?_;rw[sO,e7];show _=(aK init<|List.map (λx=>x.fst) l++[x]).map _;rw[sP]
end
section
variable{H:Hp}{F:List (Nat×Ob)}{d nt a1 a2 a3:Nat}{Q:VP}
structure cy where
 (path nm:List Nat) (t f:Nat)
noncomputable def c7(w:Nat->Nat×Nat)(t:Nat):V:=.tup [.int (w t).1,.int (w t).2]
def PO(w:Nat->Nat×Nat)(st:Nat->List V)(r:cy):V:=.tup [.str r.path,c7 w r.t,c7 w r.f,.tup<|st r.t]
def FD(w:Nat->Nat×Nat)(r:cy):V:=.tup [c7 w r.f,.str r.nm,c7 w r.t]
def nk(w:Nat->Nat×Nat)(r:cy):V×V:=(FD w r,.str r.path)
noncomputable def rI(r:cy):Nat×V:=(r.t,.str r.path)
structure Tb(w:Nat->Nat×Nat)(l:List cy):Prop where
 inj:Kj (c7 w)
 pos:∀r∈l,1<=r.t/\1<=r.f
 sp:∀r∈l,∃q,aQ 47 r.path=q++[r.nm]
 pl:∀r∈l,r.path.length<=1000000
 len:l.length<20
 key:l.Pairwise λa b=>¬(a.f=b.f/\a.nm=b.nm/\a.t=b.t)
def Ju(nt a1 a2 a3:Nat)(w:Nat->Nat×Nat)(st:Nat->List V)(l:List cy)(F:List<|Nat×Ob):List (Nat×Ob):=
 (nt,.inst 8 [(13,.ref a1),(137,.ref a2),(35,.ref a3)])::(a1,.dict .AU<|l.map<|nk w)::(a2,.dict .oP<|sO (c7 w) []<|l.map rI)::(a3,.dict .oP<|(aK []<|l.map (·.t)).map λt=>(c7 w t,.tup<|st t))::F
def uE{w:Nat->Nat×Nat}(y:Kj<|c7 w)(A:1<=a.t/\1<=a.f)(z:1<=b.t/\1<=b.f)(e:FD w a=FD w b):a.f=b.f/\a.nm=b.nm/\a.t=b.t:=by have e:=V.tup.inj e;have x:=(ig e).1;have u:=(ig (ig e).2).1;have i:=(ig (ig (ig e).2).2).1;exact⟨y _ _ A.2 z.2 x,V.str.inj u,y _ _ A.1 z.1 i⟩
def dg(init l:List Nat):(aK init l).length<=init.length+l.length:=by
 induction l generalizing init with
 |nil=>exact i1 _|cons a r i=>
  refine c0 (i _) ?_;show(if _ then _ else _:List Nat).length+_<=_+(r.length+1);split;.exact Ja [_,_] [] ⟨0,.a (.v 0)<|.v 1,.a (.v 0)<|.a (.v 1)<|.n 1⟩ 1 [] rfl
  .rw[b9];show _+1+_<=_;exact Ja [_,_] [] ⟨0,.a (.a (.v 0)<|.n 1)<|.v 1,.a (.v 0)<|.a (.v 1)<|.n 1⟩ 1 [] rfl
variable{w:Nat->Nat×Nat}{st:Nat->List V}{l l':List cy}
def sQ(T:Tb w l)(h:aE H F)(k:∀H' a1 a2 a3,aE H' (Ju H.length a1 a2 a3 w st l F)->Q .none H'):wC (d+1) 90 [.ref H.length,.lst<|l.map<|PO w st] (H++[.inst 8 []]) Q:=by
 have h:=h.new<|.inst 8 [];refine av rfl rfl ?_;generalize H.length=nt at h k⊢;refine bV h λH a1 h=>aa (h.at m1) ?_;refine bV (h.swap.set<|.inst 8 [(13,.ref a1)]) λH a2 h=>aa (h.at m1) ?_;refine bV (h.swap.set<|.inst 8 [(13,.ref a1),(137,.ref a2)]) λH a3 h=>aa (h.at m1) ?_;have h:=h.swap.set<|.inst 8 [(13,.ref a1),(137,.ref a2),(35,.ref a3)];refine iu l (λq i L H=>aE H (Ju nt a1 a2 a3 w st q F)/\L 44=some (.ref nt)) ?_ (λL H J=>have h:=J.1;k H a1 a2 a3 h) _ _ ⟨h.perm<|.cons _<|.trans (.cons _<|.swap _ _ _)<|.trans (.swap _ _ _)<|.cons _<|.swap _ _ _,rfl⟩;intro q r t L H K e I D;refine bC λG=>?_;obtain⟨h,y⟩:=I;refine G<|bC λG=>?_;clear k;subst e;have u:r∈q++r::t:=ec _<|.head _;have s:=T.pos r u;have f:∀x∈q,1<=x.t/\1<=x.f:=λx m=>T.pos x<|dy _ m;have N:=T.len;rw[b9,mc]at N;obtain⟨pre,c⟩:=T.sp r u;refine G ?_;have es:(aQ 47 r.path).map V.str=pre.map .str++[.str r.nm]:=by rw[c,e7];rfl
 refine ae rfl (ae y<|aa (h.rd m0)<|dT (T.pl r u)<|aa (a:=V.str r.nm) (by rw[es];exact qB)<|aa (h.at m1)<|dT (by rw[a9];exact Ja [_,_] [⟨1,.a (.v 0)<|.a (.v 1)<|.n 1,.n 20⟩] ⟨1,.v 0,.n 1000000⟩ 1 [1] rfl N) ?_);have z:=h.lW<|.dict .AU<|dput (q.map<|nk w) (FD w r)<|.str r.path;have b:∀e∈q.map rI,1<=e.1:=λe m=>by obtain⟨x,M,rfl⟩:=nW.1 m;exact(f x M).1
 have p:=dg []<|q.map (·.t);rw[a9]at p;refine ae y<|aa (z.rd m0)<|aa (z.rd m2)<|aa (z.at m2)<|aa (cg some<|kA T.inj nofun b s.1)<|aa (cP ?_) ?_
 .have:(ofT (q.map rI) r.t).length<=(q.map rI).length:=by rw[ofT,a9];exact fe _ _
  rw[a9]at this;show _+1<=big;have hB:big=16777216:=rfl;exact Ja [_,_,_,_] [⟨1,.a (.v 0)<|.a (.v 1)<|.n 1,.n 20⟩,⟨0,.v 2,.v 0⟩,⟨3,.v 3,.n 16777216⟩] ⟨0,.a (.v 2)<|.n 1,.v 3⟩ 16777216 [16777216,16777216,19] rfl N this hB
 refine ae y<|aa (z.rd m0)<|aa (z.at m2)<|dT ?_ ?_
 .rw[sO,a9,gY];show(aK []<|q.map (·.t)).length<_;simp at p;exact Ja [_,_,_] [⟨1,.a (.v 0)<|.a (.v 1)<|.n 1,.n 20⟩,⟨0,.v 2,.v 0⟩] ⟨1,.v 2,.n 1000000⟩ 1 [1,1] rfl N p
 have j:=aE.mid (A:=[_,_]) z<|.dict .oP<|dput (sO (c7 w) []<|q.map rI) (c7 w r.t)<|.lst<|ofT (q.map rI) r.t++[.str r.path];refine ae y<|aa (j.rd m0)<|aa (j.at m3)<|dT ?_ ?_
 .rw[a9];simp at p;exact Ja [_,_,_] [⟨1,.a (.v 0)<|.a (.v 1)<|.n 1,.n 20⟩,⟨0,.v 2,.v 0⟩] ⟨1,.v 2,.n 1000000⟩ 1 [1,1] rfl N p
 have Y:=aE.mid (A:=[_,_,_]) j<|.dict .oP<|dput ((aK []<|q.map (·.t)).map λt=>(c7 w t,.tup<|st t)) (c7 w r.t)<|.tup<|st r.t;refine D _ _ ⟨?_,y⟩
 have U:(q++[r]).map (nk w)=dput (q.map<|nk w) (FD w r) (.str r.path):=by
  rw[dM λe m he=>?_,e7];.rfl
  .clear h Y j p b z es pre c N u y;obtain⟨x,M,rfl⟩:=nW.1 m;exact(qn.1 T.key).2.2 x M r (.head _)<|uE T.inj (f x M) s he
 have O:sO (c7 w) [] ((q++[r]).map rI)=dput (sO (c7 w) []<|q.map rI) (c7 w r.t) (.lst<|ofT (q.map rI) r.t++[.str r.path]):=by rw[uD (init:=[]) T.inj (λi m=>nomatch m) b s.1,e7];rfl
 have e3:(aK []<|(q++[r]).map (·.t)).map (λt=>(c7 w t,.tup<|st t))=dput ((aK []<|q.map (·.t)).map λt=>(c7 w t,.tup<|st t)) (c7 w r.t) (.tup<|st r.t):=by
  rw[gm T.inj (λt m=>?_) s.1 λi i i=>rfl,e7];.exact cg _<|sP _ _ _
  .rcases(aP _ _ _).1 m with m|m;.exact nomatch m
   .clear T h O U Y j p b z es pre c N s u y;exact bL m λx M=>(f x M).1
 rw[Ju,U,O,e3];exact Y
end
section
variable{H:Hp}{F G:List (Nat×Ob)}{d nt a1 a2 a3 H8 b1 b2 b3:Nat}{Q:VP}{w:Nat->Nat×Nat}{l l':List cy}
def FE{H:Hp}{Q:List V->Hp->Prop}(x:cU g H)(l:List α)(i f:α->V)(j:vs=l.map i)
 (step:∀a∈l,∃z,cW t (i a) L=some z/\∀Q:VP,Q (f a) H->elt z H Q) (k:Q (l.map f)<|iY g H):d8 elt (re Φ .nil) t L g vs H Q:=
 e8 x l i f (λy=>true) j (λa m=>have⟨z,e,h⟩:=step a m;⟨z,e,λy q=>q,λy=>h⟩) (by rw[sl.2 λy y=>rfl];exact k)
def aE.out(m:(a,o)∈F):∃G,F.Perm ((a,o)::G):=by obtain⟨A,B,e⟩:=List.append_of_mem m;exact⟨A++B,e▸FC⟩
def aE.Gu{X:List (Nat×Ob)}(h:aE H<|X++(a,.ro o)::G)(p:F.Perm<|(a,o)::G)(m:c∈F):Mine.rd H c.1=some c.2.base:=by
 cases p.subset m with|head=>exact h.rd (o:=.ro o)<|ec _<|.head _|tail _ m=>exact h.rd<|ec _<|.tail _ m
noncomputable def x9(l:List cy)(r:cy):Bool:=l.any λx=>decide (x.f=r.f/\x.nm=r.nm/\x.t=r.t)
def fR(l l':List cy):List (Nat×V):=(l.filter λr=>! x9 l' r).map rI
def H9(T:Tb w l)(z:1<=r.t/\1<=r.f):bR (l.map<|nk w) (FD w r)=x9 l r:=by
 have p:=T.pos;have i:=T.inj;clear T;unfold bR x9
 induction l with
 |nil=>rfl|cons a t I=>
  rw[ik,List.any_cons,List.any_cons,I λx m=>p x<|.tail _ m];refine cg (·||_) ?_;show decide (FD w a=FD w r)=_;by_cases e:a.f=r.f/\a.nm=r.nm/\a.t=r.t;.rw[eb e,eb<|by unfold FD;rw[e.1,e.2.1,e.2.2]]
  .rw[fo e,fo λh=>e<|uE i (p a<|.head _) z h]
def Ia(T:Tb w<|q++r::t):bI ((q++r::t).map<|nk w) (FD w r)=some (.str r.path):=by rw[e7];refine hV λe m u=>?_;obtain⟨x,M,rfl⟩:=nW.1 m;exact(qn.1 T.key).2.2 x M r (.head _)<|uE T.inj (T.pos x<|dy _ M) (T.pos r<|ec _<|.head _) u
def zw{k v:Nat->V}{l:List Nat}(y:Kj k)(L:∀t∈l,1<=t)(N:l.Nodup):(l.map λt=>(k t,v t)).foldl (λd e=>dput d e.1 e.2) []=l.map λt=>(k t,v t):=by
 have:∀(t q:List Nat),(∀x∈q++t,1<=x)->(q++t).Nodup->(t.map λt=>(k t,v t)).foldl (λd e=>dput d e.1 e.2) (q.map λt=>(k t,v t))=(q++t).map λt=>(k t,v t):=λt=>by
  induction t with
  |nil=>intro q _ _;rw[hE];rfl|cons a r i=>
   intro q h n;show List.foldl _ (dput _ (k a)<|v a) _=_
   rw[gm y (λt m=>h t<|dy _ m) (h a<|ec _<|.head _) λz z z=>rfl,ej λm=>(H5.1 n).2.2 a m a (.head _) rfl,
    i (q++[a]) (by rw[ee];exact h) (by rw[ee];exact n),ee];rfl
 exact this l [] L N
def zx(w:Nat->Nat×Nat)(l:List<|Nat×V):List (V×V):=(aK []<|l.map (·.1)).map λt=>(c7 w t,.lst<|dG<|ofT l t)
def go{l:List V}(h:∀x∈l,∃s,x=.str s):sortable l=true:=by unfold sortable;rw[ft];intro x Y;rw[ft];intro y M;obtain⟨s,rfl⟩:=h x Y;obtain⟨s,rfl⟩:=h y M;rfl
def AA(T:Tb w l)(qL:Tb w l')(h:aE H F)(hn:(nt,.inst 8 [(13,.ref a1),(137,.ref x),(35,.ref y)])∈F)(h1:(a1,.dict .AU<|l.map<|nk w)∈F)
 (tS:(H8,.inst 8 [(13,.ref b1),(137,.ref x'),(35,.ref y')])∈F) (NL:(b1,.dict .AU<|l'.map<|nk w)∈F)
 (k:∀H' a,aE H' ((a,.dict .oP<|zx w<|fR l l')::F)->Q (.ref a) H'):wC (d+1) 91 [.ref nt,.ref H8] H Q:=by
 obtain⟨G,p⟩:=aE.out h1;refine av rfl rfl<|bV h λH D h=>aa (h.rd<|.tail _ hn) ?_;have h:=h.perm<|.trans (.cons _ p)<|.swap _ _ _;refine aa (h.at m0) ?_
 have pos:∀q:List cy,(∀r∈q,r∈l)->∀e∈(q.filter λr=>! x9 l' r).map rI,1<=e.1:=λq j e m=>by exact bL m λr M=>(T.pos r<|j r (gS.1 M).1).1
 refine mn (g:=some (a1,.dict .AU<|l.map<|nk w)) l (i:=FD w) (gY (f:=nk w) (g:=(·.1))) (λq z L H=>aE H ((D,.dict .oP<|sO (c7 w) []<|(q.filter λr=>! x9 l' r).map rI)::(a1,.ro<|.dict .AU<|l.map<|nk w)::G)/\L 44=some (.ref nt)/\L 41=some (.ref H8)/\L 24=some (.ref D)) (λz z z z h A k=>⟨h.1.at m1,k⟩) ?_ ?_ _ _ ⟨(h.set _).swap,rfl,rfl,rfl⟩
 .intro q r t L H K e I hK;refine bC λzG=>?_;obtain⟨h,Y,U,u⟩:=I;refine zG ?_;have mr:r∈l:=e▸ec _ (.head _);have hr:=T.pos r mr;have j:∀x∈q,x∈l:=λx m=>e▸dy _ m;have N:=T.len;rw[e,b9,mc]at N;have Gu:=λ{c:Nat×Ob} (m:c∈F)=>h.Gu (X:=[_]) p m;have J:(q.filter λr=>! x9 l' r).length<=q.length:=fe _ _;refine ae rfl (ae U<|aa (Gu tS)<|aa (Gu NL) ?_);refine b7 (λO=>?_) λO=>?_;all_goals rw[H9 qL hr]at O
  .refine ae u<|aa (h.rd m0)<|aa rfl (aa (h.at m0)<|aa (cg some<|kA T.inj (λz m=>nomatch m) (pos q j) hr.1)<|ae Y<|aa (Gu hn)<|aa (Gu h1)<|aa (a:=V.str r.path) (by subst e;exact Ia T)<|aa (cP ?_) ?_)
   .have:(ofT ((q.filter λr=>! x9 l' r).map rI) r.t).length<=((q.filter λr=>! x9 l' r).map rI).length:=by rw[ofT,a9];exact fe _ _
    rw[a9]at this;have hB:big=16777216:=rfl;show _+1<=big;exact Ja [_,_,_,_,_] [⟨1,.a (.v 0)<|.a (.v 1)<|.n 1,.n 20⟩,⟨0,.v 2,.v 0⟩,⟨0,.v 3,.v 2⟩,⟨3,.v 4,.n 16777216⟩] ⟨0,.a (.v 3)<|.n 1,.v 4⟩ 16777216 [16777216,16777216,16777216,19] rfl N J this hB
   refine ae u<|aa rfl (aa (h.at m0)<|dT ?_<|hK _ _ ⟨?_,Y,U,u⟩)
   .have s:=dg []<|((q.filter λr=>! x9 l' r).map rI).map (·.1);rw[a9,a9]at s;rw[sO,a9];simp at s⊢;exact Ja [_,_,_,_] [⟨1,.a (.v 0)<|.a (.v 1)<|.n 1,.n 20⟩,⟨0,.v 2,.v 0⟩,⟨0,.v 3,.v 2⟩] ⟨1,.v 3,.n 1000000⟩ 1 [1,1,1] rfl N J s
   .rw[List.filter_append,rZ (p:=λr=>! x9 l' r) O,e7];refine(?_:aE _<|(D,.dict .oP<|sO (c7 w) []<|_++[(r.t,.str r.path)])::_);rw[<-uD (init:=[]) T.inj (λz m=>nomatch m) (pos q j) hr.1];exact h.set _
  .refine hK _ _ ⟨?_,Y,U,u⟩;rw[List.filter_append,nq (p:=λr=>! x9 l' r) (λhx=>nomatch O.symm.trans hx),List.filter_nil,hE];exact h
 .intro L H I;refine bC λzG=>?_;obtain⟨h,Y,U,u⟩:=I;refine zG ?_;have h:=(h.lW<|.dict .AU<|l.map<|nk w).perm<|.cons _ p.symm;refine ae u<|aa (h.at m0) ?_;have J:(l.filter λr=>! x9 l' r).length<=l.length:=fe _ _;have N:=T.len;have s:(aK []<|(fR l l').map (·.1)).length<=l.length:=c0 (dg _ _)<|by rw[a9,fR,a9,List.length_nil,Dp];exact J
  refine FE (g:=some (D,.dict .oP<|sO (c7 w) []<|fR l l')) (λk=>⟨(h.set _).at m0,k⟩) (aK []<|(fR l l').map (·.1)) (c7 w) (λt=>.tup [c7 w t,.lst<|dG<|ofT (fR l l') t]) (gY (f:=λt=>(c7 w t,V.lst<|ofT (fR l l') t)) (g:=(·.1))) (λt m=>⟨_,rfl,λQ q=>?_⟩) ?_
  .have ht:1<=t:=by
    rcases(aP _ _ _).1 m with m|m;.exact nomatch m
    .exact bL m λe M=>pos l (λz m=>m) e M
   refine ae u<|aa ((h.set _).rd m0)<|aa (a:=V.lst<|ofT (fR l l') t) ((uC (init:=[]) T.inj (λz m=>nomatch m) (pos l λz m=>m) ht).trans<|er m) ⟨go λx m=>?_,?_,q⟩
   .exact bL m λe m1=>bL ((gS.1 m1).1) λr m2=>⟨_,rfl⟩
   .have:(ofT (fR l l') t).length<=(fR l l').length:=by rw[ofT,a9];exact fe _ _
    rw[fR,a9]at this;exact dS (c0 this J)<|Nat.lt_trans N<|by decide
  .have hp:∀t∈aK [] ((fR l l').map (·.1)),1<=t:=λt m=>by
    rcases(aP _ _ _).1 m with m|m;.exact nomatch m
    .exact bL m λe M=>pos l (λz m=>m) e M
   have hd:((aK []<|(fR l l').map (·.1)).map λt=>(c7 w t,V.lst<|dG<|ofT (fR l l') t)).foldl (λd e=>dput d e.1 e.2) []=zx w (fR l l'):=by rw[zw T.inj hp<|gj _ _ .nil];rfl
   refine aa (iw _ (c7 w) λt=>.lst<|dG<|ofT (fR l l') t)<|aY (oF (by intro e m;refine bL m λb _=>?_;rfl) ?_) ?_;.rw[a9];exact Ja [_,_] [⟨1,.v 0,.n 20⟩,⟨0,.v 1,.v 0⟩] ⟨0,.v 1,.n 1000000⟩ 1 [1,1] rfl N s
   .rw[hd];exact k _ _<|(h.set _).set _|>.tl.new _
end
section
variable{H:Hp}{F G:List (Nat×Ob)}{d nt a1 a2 a3 H8 b1 b2 b3:Nat}{Q:VP}{w:Nat->Nat×Nat}{l l':List cy}{st eK:Nat->List V}
abbrev T3:=List Nat×List Nat×List Nat
noncomputable def sT(r:T3):V:=.tup [.str r.1,.str r.2.1,.str r.2.2]
noncomputable def Ib(a b:List<|List Nat):List T3:=(a.zip b).map (λp=>(p.1,[82],p.2))++(a.drop<|min a.length b.length).map (λp=>(p,[45],[]))++(b.drop<|min a.length b.length).map λp=>(p,[43],[])
def FF(a:List α)(b:List β)(f:α->V)(g:β->V):uX (a.map f) (b.map g)=(a.zip b).map λp=>.tup [f p.1,g p.2]:=by
 induction a generalizing b with
 |nil=>rfl|cons x t i=>induction b using List.casesOn with|nil=>rfl|cons y u=>exact cg _<|i u
def xA{l:List V}(h:j<=l.length):c9 (.lst l) (.int (j:Nat)) .none=some (.lst<|l.drop j):=by show(clamp l.length 0<|.int (j:Nat)).bind (λa=>(some l.length).map λb=>V.lst<|cut l a b)=_;rw[cQ];show some (V.lst<|cut l _ l.length)=_;rw[cut,List.take_length,GX h]
def FG(a b:Nat):(if(b:Int)<(a:Int)then(b:Int)else a)=((min a b:Nat):Int):=by
 rcases Nat.lt_or_ge b a with h|h;.rw[er<|I3.2 h,Nat.min_eq_right<|rh h]
 .rw[ej<|G7.2<|xt.2 h,GX h]
def uF(A:a.length<1000)(y:b.length<1000)(k:Q (.lst<|(Ib a b).map sT) H):wC (d+1) 92 [.lst<|a.map .str,.lst<|b.map .str] H Q:=by
 have f:big=16777216:=rfl;have J:(a.map V.str).length=a.length:=a9 _;have I:(b.map V.str).length=b.length:=a9 _;refine av rfl rfl ?_;refine(?_:d8 _ _ [4,41] _ none (uX (a.map .str)<|b.map .str) _ _);rw[FF];refine b8 (a.zip b) (λp=>.tup [.str p.1,.str p.2]) (λp=>sT (p.1,[82],p.2)) (λp z Q q=>q) ?_;have e:=FG a.length b.length;rw[<-J,<-I]at e;have x:min (a.map V.str).length (b.map V.str).length<=(a.map V.str).length:=Nat.min_le_left _ _;have u:min (a.map V.str).length (b.map V.str).length<=(b.map V.str).length:=Nat.min_le_right _ _;have em:min (a.map V.str).length (b.map V.str).length=min a.length b.length:=by rw[J,I]
 refine aa (a:=V.lst<|(a.drop<|min a.length b.length).map .str) (by rw[e,xA x,em,List.map_drop]) ?_;refine b8 (a.drop _) .str (λp=>sT (p,[45],[])) (λp z Q q=>q)<|aa (cP ?_) ?_;.rw[a9,a9,List.length_zip,ye];exact Ja [_,_,_] [⟨1,.v 0,.n 1000⟩,⟨2,.a (.v 1)<|.v 2,.v 0⟩] ⟨0,.a (.v 2)<|.v 1,.n 16777216⟩ 1 [1,1] rfl A (zy<|Ja [_,_] [⟨0,.v 0,.v 1⟩] ⟨0,.v 0,.v 1⟩ 1 [1] rfl (Nat.min_le_left (a.length)<|b.length))
 refine aa (a:=V.lst<|(b.drop<|min a.length b.length).map .str) (by rw[e,xA u,em,List.map_drop]) ?_;refine b8 (b.drop _) .str (λp=>sT (p,[43],[])) (λp z Q q=>q)<|aa (cP ?_) ?_;.rw[b9,a9,a9,a9,List.length_zip,ye,ye];exact Ja [_,_,_,_,_] [⟨1,.v 0,.n 1000⟩,⟨1,.v 1,.n 1000⟩,⟨0,.v 2,.v 1⟩,⟨2,.a (.v 3)<|.v 4,.v 0⟩] ⟨0,.a (.a (.v 4)<|.v 3)<|.v 2,.n 16777216⟩ 1 [1,1,1,1] rfl A y (vC (b.length)<|min a.length b.length) (zy<|Ja [_,_] [⟨0,.v 0,.v 1⟩] ⟨0,.v 0,.v 1⟩ 1 [1] rfl (Nat.min_le_left (a.length)<|b.length))
 rw[Ib,e7,e7,gY,gY,gY]at k;exact k
noncomputable def gC(l:List cy)(t:Nat):List (List Nat):=(l.filter λr=>decide (r.t=t)).map (·.path)
def oG(l:List<|List Nat):List (List Nat):=bQ (λa b=>V.lt (.str a)<|.str b) l
def kC(l:List cy)(t:Nat):ofT (l.map rI) t=(gC l t).map .str:=by unfold ofT gC;rw[List.filter_map,gY,gY];rfl
def mw(l:List<|List Nat):dG (l.map .str)=(oG l).map .str:=sort_map .str l
def Ic(l l':List cy)(st eK:Nat->List V):List T3:=(((aK []<|l'.map (·.t)).filter λt=>decide (t∈aK [] (l.map (·.t)))).filter λt=>! decide (st t=eK t)).map λt=>((oG<|gC l' t).headD [],[77],[])
def Lk(st eK:Nat->List V)(l l':List cy):Prop:=∀t,t∈l.map (·.t)->t∈l'.map (·.t)->V.cV (st t) (eK t)=true/\V.jB (st t)<=7
def Cq(T:Tb w l)(L:Tb w l')(Y:Lk st eK l l')(h:aE H F)(p:∀c∈Ju nt a1 a2 a3 w st l [],c∈F)(z:∀c∈Ju H8 b1 b2 b3 w eK l' [],c∈F)
 (k:∀H' a,aE H' ((a,.list<|(Ic l l' st eK).map sT)::F)->Q (.ref a) H'):wC (d+1) 93 [.ref nt,.ref H8] H Q:=by
 have u:∀{l:List cy},Tb w l->∀t∈aK [] (l.map (·.t)),1<=t:=λT t m=>by
  rcases(aP _ _ _).1 m with m|m;.exact nomatch m
  .clear L Y h p z k;obtain⟨r,y,rfl⟩:=nW.1 m;exact(T.pos r y).1
 have D:∀{l:List cy} {st:Nat->List V},Tb w l->∀t,1<=t->bI ((aK []<|l.map (·.t)).map λt=>(c7 w t,.tup<|st t)) (c7 w t)=if t∈aK [] (l.map (·.t))then some (.tup<|st t)else none:=λ{_ st} T t ht=>gk (v:=λt=>.tup<|st t) T.inj (u T) ht;obtain⟨G,j⟩:=aE.out<|z _<|.tail _<|.tail _<|.tail _<|.head _;have N:=h.perm j;refine av rfl rfl (aa (h.rd<|z _<|.head _)<|aa (N.at m0) ?_);have i:=N.set<|.ro<|.dict .oP<|(aK []<|l'.map (·.t)).map λt=>(c7 w t,.tup<|eK t);have Gu:=λ{c:Nat×Ob} (m:c∈F)=>i.Gu (X:=[]) j m;refine e8 (g:=some (b3,.dict .oP<|(aK []<|l'.map (·.t)).map λt=>(c7 w t,.tup<|eK t))) (λk=>⟨i.at m0,k⟩) (aK []<|l'.map (·.t)) (c7 w) (c7 w) (λt=>decide (t∈aK [] (l.map (·.t)))) (gY (f:=λt=>(c7 w t,V.tup<|eK t)) (g:=(·.1))) ?_ ?_
 .refineλt mt=>⟨_,rfl,λQ q=>?_,λJ Q q=>?_⟩
  .refine aa (Gu<|p _<|.head _)<|aa (Gu<|p _<|.tail _<|.tail _<|.tail _<|.head _)<|kt (Q:=λb=>Q b _) ?_;rw[mu,D T t<|u L t mt];by_cases e:t∈aK [] (l.map (·.t));.rw[er e];rw[eb e]at q;exact q
   .rw[ej e];rw[fo e]at q;exact q
  .exact q
 have h2:=(i.set<|.dict .oP<|(aK []<|l'.map (·.t)).map λt=>(c7 w t,.tup<|eK t)).perm j.symm;have I:=h2.new<|.list<|((aK []<|l'.map (·.t)).filter λt=>decide (t∈aK [] (l.map (·.t)))).map<|c7 w;refine aa (I.at m0) ?_;have hz:=I.set<|.ro<|.list<|((aK []<|l'.map (·.t)).filter λt=>decide (t∈aK [] (l.map (·.t)))).map<|c7 w;refine e8 (g:=some (_,.list<|((aK []<|l'.map (·.t)).filter λt=>decide (t∈aK [] (l.map (·.t)))).map<|c7 w)) (λk=>⟨hz.at m0,k⟩) ((aK []<|l'.map (·.t)).filter λt=>decide (t∈aK [] (l.map (·.t)))) (c7 w) (λt=>sT ((oG<|gC l' t).headD [],[77],[])) (λt=>! decide (st t=eK t)) rfl ?_ ?_
 .intro t mt;have M:=(gS.1 mt).1;have U:=dk (gS.1 mt).2;have ht:=u L t M;have A:=((aP _ _ _).1 M).resolve_left nofun;have O:=Y t (((aP _ _ _).1 U).resolve_left nofun) A
  have ne:∃x r,oG (gC l' t)=x::r:=by
   cases e:oG<|gC l' t with|cons x r=>exact⟨x,r,rfl⟩|nil=>have pp:=aL (λa b=>V.lt (.str a)<|.str b)<|gC l' t;rw[show bQ (λa b=>V.lt (.str a)<|.str b) (gC l' t)=[]from e]at pp;clear T L Y h p z k O ht U M;obtain⟨r,mr,rfl⟩:=nW.1 A;have:=pp.symm.subset<|u1 (f:=(·.path))<|gS.2 ⟨mr,eb rfl⟩;cases this
  obtain⟨x,r,e⟩:=ne;refine⟨_,rfl,λQ q=>?_,λJ Q q=>?_⟩
  .refine aa (hz.rd<|.tail _<|p _<|.head _)<|aa (hz.rd<|.tail _<|p _<|.tail _<|.tail _<|.tail _<|.head _)<|aa ((D T t ht).trans<|er U)<|aa (hz.rd<|.tail _<|z _<|.head _)<|aa (hz.rd<|.tail _<|z _<|.tail _<|.tail _<|.tail _<|.head _)<|aa ((D L t ht).trans<|er M)<|aa (a:=! decide (st t=eK t)) ?_<|kt (Q:=λb=>Q b _) q;show Option.map (!·) (if(V.cV (st t) (eK t)&&decide (V.jB (st t)+1<=8))=true then some (decide (V.tup (st t)=V.tup (eK t)))else none)=_;rw[O.1,eb<|ka O.2];exact cg (λb=>some ! b)<|nX.2 ⟨V.tup.inj,cg _⟩
  .refine aa (hz.rd<|.tail _<|z _<|.head _)<|aa (hz.rd<|.tail _<|z _<|.tail _<|.tail _<|.head _)<|aa (a:=V.lst<|ofT (l'.map rI) t) ((uC (init:=[]) L.inj (λJ m=>nomatch m) (λe m=>?_) ht).trans<|er ?_) ⟨go λx m=>?_,?_,?_⟩;.clear T Y h p z k;exact bL m λr y=>(L.pos r y).1
   .rw[gY];exact M
   .rw[kC]at m;clear T L Y h p z;exact bL m λs _=>⟨s,rfl⟩
   .rw[kC,a9,gC,a9];exact dS (fe _ _)<|Nat.lt_trans L.len<|by decide
   .refine aa (a:=V.str x) ?_ ?_;.rw[kC,mw,e];exact jo
    .rw[e]at q;exact q
 have k:=k;rw[Ic,gY]at k;exact k _ _<|(hz.set<|.list<|((aK [] (l'.map λr:cy=>r.t)).filter λt=>decide (t∈aK [] (l.map λr:cy=>r.t))).map<|c7 w).tl.new _
end
section
variable{H:Hp}{F G:List (Nat×Ob)}{d nt a1 a2 a3 H8 b1 b2 b3:Nat}{Q:VP}{w:Nat->Nat×Nat}{l l':List cy}{st eK:Nat->List V}
def xB{k v:Nat->V}(y:Kj k):∀(l q:List Nat),(∀t∈q++l,1<=t)->(l.map λt=>(k t,v t)).foldl (λd e=>dput d e.1 e.2) (q.map λt=>(k t,v t))=(aK q l).map λt=>(k t,v t):=λl=>by
 induction l with
 |nil=>exactλq z=>rfl|cons a r i=>
  intro q h;show List.foldl _ (dput _ (k a)<|v a) _=_;rw[gm y (λt m=>h t<|dy _ m) (h a<|ec _<|.head _) λz z z=>rfl];refine i _ λt m=>h t ?_;rcases eu.1 m with m|m
  .split at m;.exact dy _ m
   .rcases eu.1 m with m|m;.exact dy _ m
    .obtain rfl:=dt.1 m;exact ec _<|.head _
  .exact ec _<|.tail _ m
def fB(l l':List cy):List cy:=l.filter λr=>! x9 l' r
def ya(l l':List cy)(t:Nat):List T3:=Ib (oG<|gC (fB l l') t)<|oG<|gC (fB l' l) t
def sU(y:Kj<|c7 w)(Y:∀r∈L,1<=r.t)(ht:1<=t):(bI (zx w<|L.map rI)<|c7 w t).getD (.lst [])=.lst ((oG<|gC L t).map .str):=by
 have e:=gk (v:=λt=>.lst<|dG<|ofT (L.map rI) t) (l:=aK []<|(L.map rI).map (·.1)) y (λt m=>by
  rcases(aP _ _ _).1 m with m|m;.cases m
  .rw[gY]at m
   exact bL m λr M=>Y r M) ht;rw[kC,mw]at e;rw[zx,e];split;.rfl
 .rename_i h;have:ofT (L.map rI) t=[]:=xz λm=>h<|(aP _ _ _).2<|.inr m;rw[kC]at this;rw[List.map_eq_nil_iff.1 this];rfl
def zA{US:List Nat}(N:US.Nodup)(L:List cy):(US.map λt=>(gC L t).length).sum<=L.length:=by
 induction L with
 |nil=>
  clear N
  induction US with|nil=>exact i1 _|cons t r i=>simpa [gC]using i
 |cons a L i=>
  have:(US.map λt=>(gC (a::L) t).length).sum<=(US.map λt=>(gC L t).length).sum+1:=by
   clear i
   have g:∀US:List Nat,US.Nodup->(US.map λt=>(gC (a::L) t).length).sum<=(US.map λt=>(gC L t).length).sum+(if a.t∈US then 1 else 0):=λUS=>by
    induction US with
    |nil=>exactλz=>js _|cons t r i=>
     intro N;have N:=EV.1 N;have i:=i N.2;rw[ik,ik,List.sum_cons,List.sum_cons]
     have e:(gC (a::L) t).length=(gC L t).length+if a.t=t then 1 else 0:=by
      unfold gC;rw[yv];by_cases e:a.t=t;.rw[er<|eb e,er e];rfl
      .rw[ej<|by simpa using e,ej e];rfl
     rw[e];by_cases e:a.t=t
     .rw[ej<|by rw[e];exact N.1]at i;rw[er e,er<|by rw[e];exact .head _];exact Ja [_,_,_] [⟨0,.v 0,.a (.v 1)<|.n 0⟩] ⟨0,.a (.a (.v 2)<|.n 1)<|.v 0,.a (.a (.v 2)<|.v 1)<|.n 1⟩ 1 [1] rfl i
     .rw[ej e];by_cases h:a.t∈r;.rw[er h]at i;rw[er<|.tail _ h];exact Ja [_,_,_] [⟨0,.v 0,.a (.v 1)<|.n 1⟩] ⟨0,.a (.a (.v 2)<|.n 0)<|.v 0,.a (.a (.v 2)<|.v 1)<|.n 1⟩ 1 [1] rfl i
      .rw[ej h]at i;exact Ja [_,_,_,_] [⟨0,.v 0,.a (.v 1)<|.n 0⟩] ⟨0,.a (.a (.v 2)<|.n 0)<|.v 0,.a (.a (.v 2)<|.v 1)<|.v 3⟩ 1 [1] rfl i
   refine c0 (g US N)<|ih ?_ _;split<;>decide
  exact c0 this<|ka i
def uG(a b:List<|List Nat):(Ib a b).length<=a.length+b.length:=by rw[Ib,b9,b9,a9,a9,a9,List.length_zip,ye,ye];exact Ja [_,_,_,_,_] [⟨0,.v 0,.v 1⟩,⟨2,.a (.v 2)<|.v 3,.v 4⟩] ⟨0,.a (.a (.v 3)<|.v 2)<|.v 0,.a (.v 4)<|.v 1⟩ 1 [1,1] rfl (vC (b.length)<|min a.length b.length) (zy<|Ja [_,_] [⟨0,.v 0,.v 1⟩] ⟨0,.v 0,.v 1⟩ 1 [1] rfl (Nat.min_le_left (a.length)<|b.length))
def fb(a:List<|List Nat):(oG a).length=a.length:=(aL _ _).length_eq
def Id{US:List Nat}(N:US.Nodup):(US.flatMap<|ya l l').length<=l.length+l'.length:=by
 have z:=zA N<|fB l l';have y:=zA N<|fB l' l
 have T:(US.flatMap<|ya l l').length<=(US.map λt=>(gC (fB l l') t).length).sum+(US.map λt=>(gC (fB l' l) t).length).sum:=by
  clear N z y
  induction US with|nil=>exact js _|cons t r i=>have:=uG (oG<|gC (fB l l') t)<|oG<|gC (fB l' l) t;rw[fb,fb]at this;rw[sZ,b9,ik,ik,List.sum_cons,List.sum_cons,ya];exact Ja [_,_,_,_,_,_] [⟨0,.v 0,.a (.v 1)<|.v 2⟩,⟨0,.v 3,.a (.v 4)<|.v 5⟩] ⟨0,.a (.v 3)<|.v 0,.a (.a (.v 4)<|.v 1)<|.a (.v 5)<|.v 2⟩ 1 [1,1] rfl i this
 have x:(fB l l').length<=l.length:=fe _ _;have m:(fB l' l).length<=l'.length:=fe _ _;exact Ja [_,_,_,_,_,_,_] [⟨0,.v 0,.v 1⟩,⟨0,.v 2,.v 3⟩,⟨0,.v 4,.a (.v 0)<|.v 2⟩,⟨0,.v 1,.v 5⟩,⟨0,.v 3,.v 6⟩] ⟨0,.v 4,.a (.v 5)<|.v 6⟩ 1 [1,1,1,1,1] rfl z y T x m
def s3(l:List T3):List T3:=bQ (λa b=>V.lt (sT a)<|sT b) l
def Jw(w:Nat->Nat×Nat)(l l':List cy):List Nat:=bQ (λa b=>V.lt (c7 w a)<|c7 w b)<|aK []<|aK [] ((fR l l').map (·.1))++aK [] ((fR l' l).map (·.1))
def FH(w:Nat->Nat×Nat)(l l':List cy)(st eK:Nat->List V):List T3:=Ic l l' st eK++(Jw w l l').flatMap (ya l l')
def Ie(T:Tb w l)(y:Tb w l')(hL:Lk st eK l l')(h:aE H F)(p:∀c∈Ju nt a1 a2 a3 w st l [],c∈F)(u:∀c∈Ju H8 b1 b2 b3 w eK l' [],c∈F)
 (k:∀H',aE H' F->Q (.lst<|(s3<|FH w l l' st eK).map sT) H'):wC (d+2) 94 [.ref nt,.ref H8] H Q:=by
 have hB:big=16777216:=rfl;have mt:=λ{c:Nat×Ob} (x:Nat×Ob) (m:c∈F)=>List.mem_cons_of_mem x m;refine av rfl rfl (aa (h.rd<|p _<|.head _) ?_);refine AA T y h (p _<|.head _) (p _<|.tail _<|.head _) (u _<|.head _) (u _<|.tail _<|.head _) λH a h=>aa (h.rd<|mt _<|u _<|.head _)<|AA y T h (mt _<|u _<|.head _) (mt _<|u _<|.tail _<|.head _) (mt _<|p _<|.head _) (mt _<|p _<|.tail _<|.head _) λH b h=>Cq T y hL h (λc m=>.tail _<|.tail _<|p c m) (λc m=>.tail _<|.tail _<|u c m) λH c h=>?_;have s:∀L:List<|Nat×V,(zx w L).map (·.1)=(aK []<|L.map (·.1)).map (c7 w):=λL=>gY;have J:∀{l l':List cy},Tb w l->∀r∈fB l l',1<=r.t:=λT r m=>(T.pos r (gS.1 m).1).1
 have N:∀{l l':List cy},Tb w l->∀t∈aK [] ((fR l l').map (·.1)),1<=t:=λ{l l'} T t m=>by
  rcases(aP _ _ _).1 m with m|m;.cases m
  .exact bL m λe m'=>bL m' λr m2=>J (l':=l') T r m2
 have I:∀{l l':List cy},Tb w l->(aK []<|(fR l l').map (·.1)).length<20:=λ{l l'} T=>dS (dg _ _) (by
  rw[a9,fR,a9,List.length_nil,Dp]
  exact dS (fe _ _) T.len);have D:∀t∈aK [] ((fR l l').map (·.1))++aK [] ((fR l' l).map (·.1)),1<=t:=λt m=>(eu.1 m).elim (N T t)<|N y t;have j:=I (l':=l') T;have i:=I (l':=l) y;refine aa (h.rd m2)<|aa (h.rd m1)<|aa (cP ?_) ?_;.rw[s,s,a9,a9];exact Ja [_,_] [⟨1,.v 0,.n 20⟩,⟨1,.v 1,.n 20⟩] ⟨0,.a (.v 0)<|.v 1,.n 16777216⟩ 1 [1,1] rfl j i
 refine e8 (g:=none) cU.none (aK [] ((fR l l').map (·.1))++aK [] ((fR l' l).map (·.1))) (c7 w) (λt=>.tup [c7 w t,.int 0]) (λz=>true) (by rw[s,s,e7]) (λt z=>⟨_,rfl,λz q=>q,λz z q=>q⟩) ?_;rw[sl.2 λz z=>rfl];have hU:=dg []<|aK [] ((fR l l').map (·.1))++aK [] ((fR l' l).map (·.1));rw[b9,List.length_nil,Dp]at hU;refine aa (iw _ (c7 w) λt=>.int 0)<|aY (oF (by intro e m;refine bL m λb _=>?_;rfl) ?_) ?_;.rw[a9,b9];exact Ja [_,_] [⟨1,.v 0,.n 20⟩,⟨1,.v 1,.n 20⟩] ⟨0,.a (.v 0)<|.v 1,.n 1000000⟩ 1 [1,1] rfl j i
 have hd:((aK [] ((fR l l').map (·.1))++aK [] ((fR l' l).map (·.1))).map λt=>(c7 w t,V.int 0)).foldl (λd e=>dput d e.1 e.2) []=(aK []<|aK [] ((fR l l').map (·.1))++aK [] ((fR l' l).map (·.1))).map λt=>(c7 w t,.int 0):=xB (v:=λz=>.int 0) T.inj _ [] D;rw[hd];have h:=h.new<|.dict .oP<|(aK []<|aK [] ((fR l l').map (·.1))++aK [] ((fR l' l).map (·.1))).map λt=>(c7 w t,.int 0);have f:((aK []<|aK [] ((fR l l').map (·.1))++aK [] ((fR l' l).map (·.1))).map λt=>(c7 w t,V.int 0)).map (·.1)=(aK []<|aK [] ((fR l l').map (·.1))++aK [] ((fR l' l).map (·.1))).map (c7 w):=gY;refine aa (h.rd m0) ⟨?_,?_,?_⟩;.rw[f];exact bu _ λz z=>rfl
 .rw[f,a9];exact Ja [_,_,_] [⟨1,.v 0,.n 20⟩,⟨1,.v 1,.n 20⟩,⟨0,.v 2,.a (.v 0)<|.v 1⟩] ⟨1,.v 2,.n 64⟩ 1 [1,1,1] rfl j i hU
 have h:=h.tl;have hn:(Jw w l l').Nodup:=(aL _ _).nodup_iff.2<|gj _ _ .nil;have ml:=λq t (e:Jw w l l'=q++t)=>Id (l:=l) (l':=l') (US:=q) (H5.1<|e▸hn).1;have Y:=T.len;have U:=y.len
 have Tf:(Ic l l' st eK).length<=l'.length:=by rw[Ic,a9];refine c0 (fe _ _)<|c0 (fe _ _)<|c0 (dg _ _) ?_;rw[a9,List.length_nil,Dp];exact i1 _
 refine mn (g:=none) (Jw w l l') (by rw[f];exact sort_map _ _) (λq z L H=>aE H ((c,.list<|(Ic l l' st eK++q.flatMap (ya l l')).map sT)::(b,.dict .oP<|zx w<|fR l' l)::(a,.dict .oP<|zx w<|fR l l')::F)/\L 24=some (.ref c)/\L 39=some (.ref a)/\L 43=some (.ref b)) (λz z z z z=>cU.none) ?_ ?_ _ _ ⟨by rw[List.flatMap_nil,hE];exact h,rfl,rfl,rfl⟩
 .intro q t r L H K e A hK;refine bC λO=>?_;obtain⟨h,a1,a2,a3⟩:=A;refine O ?_;have mt:t∈Jw w l l':=e▸ec _ (.head _)
  have ht:1<=t:=by
   rcases(aP _ _ _).1<|(aL _ _).subset mt with m|m;.cases m
   .exact D t m
  refine ae rfl (ae a1<|aa (h.rd m0)<|ae a2<|aa (h.rd m2)<|aa (h.at m2)<|aa (cg some<|sU T.inj (J T) ht)<|ae a3<|aa (h.rd m1)<|aa (h.at m1)<|aa (cg some<|sU T.inj (J y) ht) ?_)
  have PH:(oG<|gC (fB l l') t).length<20:=by rw[fb,gC,a9];exact dS (fe _ _)<|dS (fe _ _) Y
  have PI:(oG<|gC (fB l' l) t).length<20:=by rw[fb,gC,a9];exact dS (fe _ _)<|dS (fe _ _) U
  refine uF (Ja [_] [⟨1,.v 0,.n 20⟩] ⟨1,.v 0,.n 1000⟩ 1 [1] rfl PH) (Ja [_] [⟨1,.v 0,.n 20⟩] ⟨1,.v 0,.n 1000⟩ 1 [1] rfl PI) ?_;have M:=ml q (t::r) e;have nl:=uG (oG<|gC (fB l l') t)<|oG<|gC (fB l' l) t;refine aa (h.at m0)<|dT ?_<|hK _ _ ⟨?_,a1,a2,a3⟩;.rw[a9,a9,b9];exact Ja [_,_,_,_,_,_,_,_] [⟨3,.v 0,.n 16777216⟩,⟨1,.v 1,.n 20⟩,⟨1,.v 2,.n 20⟩,⟨0,.v 3,.v 2⟩,⟨1,.v 4,.n 20⟩,⟨1,.v 5,.n 20⟩,⟨0,.v 6,.a (.v 1)<|.v 2⟩,⟨0,.v 7,.a (.v 4)<|.v 5⟩] ⟨0,.a (.a (.v 3)<|.v 6)<|.v 7,.v 0⟩ 16777216 [95,16777216,33554432,16777216,16777216,16777216,16777216,16777216] rfl hB Y U Tf PH PI M nl
  .rw[xl,List.flatMap_singleton,<-ee,show((Ic l l' st eK++q.flatMap (ya l l'))++ya l l' t).map sT=(Ic l l' st eK++q.flatMap (ya l l')).map sT++(ya l l' t).map sT from e7];exact h.set _
 .intro L H A;refine bC λO=>?_;obtain⟨h,a1,a2,a3⟩:=A;refine O ?_;have M:=ml (Jw w l l') [] (hE _).symm;refine ae a1<|aa (h.rd m0) ⟨bu _ λz z=>rfl,?_,?_⟩;.rw[a9,b9];exact Ja [_,_,_,_] [⟨1,.v 0,.n 20⟩,⟨1,.v 1,.n 20⟩,⟨0,.v 2,.v 1⟩,⟨0,.v 3,.a (.v 0)<|.v 1⟩] ⟨1,.a (.v 2)<|.v 3,.n 64⟩ 1 [1,2,1,1] rfl Y U Tf M
  .rw[sort_map];exact k H h.tl.tl.tl
noncomputable def fV(r:T3):V:=if r.2.1=[82]then .tup [.str r.2.1,.str r.1,.str r.2.2]else .tup [.str r.2.1,.str r.1]
def oh(T:Tb w l)(L:Tb w l')(Y:Lk st eK l l')(h:aE H F)(k:∀H',aE H' F->Q (.lst<|(s3<|FH w l l' st eK).map fV) H'):wC (d+3) 95 [.lst<|l.map<|PO w st,.lst<|l'.map<|PO w eK] H Q:=by
 refine av rfl rfl<|sQ T h λH a1 a2 a3 z=>sQ L z λH' b1 b2 b3 y=>Ie (a1:=a1) (a2:=a2) (a3:=a3) (b1:=b1) (b2:=b2) (b3:=b3) T L Y y (λc m=>.tail _<|.tail _<|.tail _<|.tail _<|dy F m) (λc m=>dy (Ju _ a1 a2 a3 w st l F) m) λH h=>b8 (s3<|FH w l l' st eK) sT fV (λr x Q q=>?_)<|k H h.tl.tl.tl.tl.tl.tl.tl.tl;unfold fV at q;refine b7 (λe=>?_) λe=>?_;.rw[er<|dk e]at q;exact q
 .rw[ej<|si e]at q;exact q
end
section
structure WA where
 (w fa sa:Nat) (ad:Nat->Nat)
structure Wo where
 (fl:List Nat) (el:List (Nat×Nat×Nat)) (st:List (Nat×Nat×List UInt8)) (last:Nat)
noncomputable def Wo.es(W:Wo)(f:Nat):List (Nat×Nat):=(W.el.filter λe=>decide (e.1=f)).map (·.2)
noncomputable def Wo.E(W:Wo):Gr:=λf=>if f∈W.fl then some (W.es f)else none
noncomputable def eD(es:List<|Nat×Nat):List (V×V):=es.map λe=>(.str [e.1],.int e.2)
noncomputable def sF:List Nat:=[102,111,108,100,101,114,115]
noncomputable def sS:List Nat:=[115,116,97,116,101,115]
noncomputable def sL:List Nat:=[108,97,115,116]
noncomputable def xE(st:List<|Nat×Nat×List UInt8):List (V×V):=st.map λs=>(.int s.1,.tup [.int s.2.1,.bytes s.2.2])
def wL(A:WA)(W:Wo):List (Nat×Ob):=
 (A.w,.dict .str [(.str sF,.ref A.fa),(.str sS,.ref A.sa),(.str sL,.int W.last)])::(A.fa,.dict .int (W.fl.map λf:Nat=>((.int f:V),V.ref<|A.ad f)))::(A.sa,.dict .int<|xE W.st)::W.fl.map λf:Nat=>(A.ad f,.dict .str<|eD<|W.es f)
def zC(r:Row):V:=.tup [.str<|pS r.p,.int r.f,.str [r.c],.int r.t]
variable{H:Hp}{F:List (Nat×Ob)}{d n f:Nat}{Q:VP}{A:WA}{W:Wo}
def Wd(A:WA)(W:Wo)(F:List<|Nat×Ob):Prop:=∀c∈wL A W,c∈F
def cG(m:f∈W.fl):(A.ad f,Ob.dict .str<|eD<|W.es f)∈wL A W:=.tail _<|.tail _<|.tail _<|nW.2 ⟨f,m,rfl⟩
def uH:Kj λt:Nat=>.int t:=λa b z z h=>mj<|V.int.inj h
def cJ{L:List Nat}{v:Nat->V}{t:Nat}:bI (L.map λf:Nat=>((.int f:V),v f)) (.int t)=if t∈L then some (v t)else none:=by
 induction L with
 |nil=>rfl|cons a r i=>
  unfold bI at i⊢;rw[ik,EW];by_cases e:a=t;.subst e;rw[eb rfl,er<|.head _];rfl
  .rw[fo<|show ¬(((.int a:V),v a).1=.int t)fromλh=>e<|mj<|V.int.inj h];refine i.trans ?_;by_cases h:t∈r;.rw[er h,er<|.tail _ h]
   .rw[ej h,ej λm=>by cases m with|head=>exact e rfl|tail _ m=>exact h m]
def fc{L:List Nat}{v:Nat->V}{t:Nat}:bR (L.map λf:Nat=>((.int f:V),v f)) (.int t)=decide (t∈L):=by
 rw[mu,cJ];by_cases h:t∈L;.rw[er h,eb h];rfl
 .rw[ej h,fo h];rfl
def uI(h:es.Pairwise λa b=>a.1≠b.1)(m:e∈es):bI (eD es) (.str [e.1])=some (.int e.2):=by obtain⟨q,r,rfl⟩:=List.append_of_mem m;rw[eD,e7];refine hV λx Y k=>?_;obtain⟨y,M,rfl⟩:=nW.1 Y;exact(qn.1 h).2.2 y M e (.head _) (ig<|V.str.inj k).1
structure Oz(W:Wo):Prop where
 nm:∀f∈W.fl,xx (W.es f)
 len:W.el.length<16
def ju(W:Wo)(f:Nat):(W.es f).length<=W.el.length:=by unfold Wo.es;rw[a9];exact fe _ _
def Ig(es:List<|Nat×Nat):dG ((eD es).map (·.1))=(sE es).map λe=>.str [e.1]:=by have e:(eD es).map (·.1)=es.map λe=>V.str [e.1]:=gY;rw[e];exact sort_map _ es
def qG(g:Oz W)(D:Wd A W F)(h:aE H F){p:List Nat}(N:Nat×Nat->List Row)(u:f∈W.fl)(J:p.length<900)
 (s:((sE<|W.es f).flatMap λe=>(⟨p++[e.1],f,e.1,e.2⟩:Row)::N e).length<10000) (Vq:∀e∈W.es f,e.2∉W.fl->N e=[])
 (rec:∀e∈W.es f,e.2∈W.fl->∀Q:VP,Q (.lst<|(N e).map zC) H->wC d 3 [.ref A.w,.int e.2,.str<|pS<|p++[e.1]] H Q)
 (k:Q (.lst<|((sE<|W.es f).flatMap λe=>(⟨p++[e.1],f,e.1,e.2⟩:Row)::N e).map zC) H):wC (d+1) 3 [.ref A.w,.int f,.str<|pS p] H Q:=by
 have I:big=16777216:=rfl;have G:=qE p;have nd:=g.nm f u;have hlen:=dS (ju W f) g.len;have c:=h.rd<|D _<|.head _;have j:=h.rd<|D _<|.tail _<|.head _;have c3:=h.rd<|D _<|cG u;have df:=(cJ (v:=λf=>.ref<|A.ad f) (t:=f)).trans<|er u;refine av rfl rfl (aa c<|aa rfl (aa j<|aa df<|aa c3 ⟨?_,?_,?_⟩));.exact go λx m=>by refine bL m λe m'=>?_;exact bL m' λe _=>⟨_,rfl⟩
 .rw[a9,eD,a9];exact Ja [_] [⟨1,.v 0,.n 16⟩] ⟨1,.v 0,.n 64⟩ 1 [1] rfl hlen
 refine mn (g:=none) (sE<|W.es f) (i:=λe=>.str [e.1]) (Ig _) (λq z L b=>b=H/\L 3=some (.ref A.w)/\L 11=some (.int f)/\L 15=some (.str<|pS p)/\L 24=some (.lst<|(q.flatMap λe=>(⟨p++[e.1],f,e.1,e.2⟩:Row)::N e).map zC)) (λz z z z z=>cU.none) ?_ (λL b bT=>have e:=bT.1;have Y:=bT.2.2.2.2;ae Y (e▸k)) _ _ ⟨rfl,rfl,rfl,rfl,rfl⟩;intro q e r L b K eq aS hK;refine bC λzG=>?_;obtain⟨eH,a,y,U,Y⟩:=aS;refine zG ?_;subst eH;have O:e∈W.es f:=(aT _).subset<|eq▸ec _ (.head _);have La:∀x,(pS p++[47]).length+([x]:List Nat).length<=big:=λx=>by rw[b9,G];show 2*p.length+1+1<=_;exact Ja [_,_] [⟨1,.v 0,.n 900⟩,⟨3,.v 1,.n 16777216⟩] ⟨0,.a (.a (.m 2<|.v 0)<|.n 1)<|.n 1,.v 1⟩ 2097152 [4194304,225] rfl J I
 have Th:(pS p).length+([47]:List Nat).length<=big:=by rw[G];show 2*p.length+1<=_;exact Ja [_,_] [⟨1,.v 0,.n 900⟩,⟨3,.v 1,.n 16777216⟩] ⟨0,.a (.m 2<|.v 0)<|.n 1,.v 1⟩ 16777216 [33554432,1799] rfl J I
 have T:pS p++[47]++[e.1]=pS (p++[e.1]):=(oE p e.1).symm;rw[eq,xl,b9,sZ,b9,mc]at s;refine ae rfl (ae a<|aa c<|aa rfl (ae y<|aa j<|aa df<|aa c3<|aa (uI nd.nd O) ?_));refine ae Y<|ae rfl (ae U<|aa (add_str Th)<|aa (add_str<|La e.1)<|ae y<|dT ?_ ?_);.rw[a9];exact Ja [_,_,_] [⟨1,.a (.v 0)<|.a (.a (.v 1)<|.n 1)<|.v 2,.n 10000⟩] ⟨1,.v 0,.n 1000000⟩ 1 [1] rfl s
 refine ae a<|aa c<|aa rfl (aa j ?_);refine b7 (λM=>?_) λM=>?_;all_goals rw[fc]at M
 .have M:=dk M;refine ae a<|ae U<|aa (add_str Th)<|aa (add_str<|La e.1) ?_;rw[T];refine rec e O M _<|dT ?_<|hK _ _ ⟨rfl,a,y,U,?_⟩;.rw[b9,a9,a9];show _+1+_<=_;exact Ja [_,_,_] [⟨1,.a (.v 0)<|.a (.a (.v 1)<|.n 1)<|.v 2,.n 10000⟩] ⟨0,.a (.a (.v 0)<|.n 1)<|.v 1,.n 1000000⟩ 1 [1] rfl s
  .rw[xl,e7,List.flatMap_singleton,ik,zC,<-T];exact cg (λl=>some<|V.lst l)<|ee _ [V.tup [.str<|pS p++[47]++[e.1],.int f,.str [e.1],.int e.2]] _
 .refine hK _ _ ⟨rfl,a,y,U,?_⟩;rw[xl,e7,List.flatMap_singleton,Vq e O<|si M];exact cg (λx=>some<|V.lst<|_++[V.tup [.str x,_,_,_]]) T
def kD(g:Oz W)(D:Wd A W F)(h:aE H F):∀(n f:Nat) (p:List Nat) (Q:VP),f∈W.fl->Ht W.E (n+1) f->(dZ W.E n f p).length<10000->p.length+n<900->Q (.lst<|(dZ W.E n f p).map zC) H->
 wC (d+n+1) 3 [.ref A.w,.int f,.str<|pS p] H Q:=by
 have u:∀f,f∈W.fl->W.E f=some (W.es f):=λf m=>er m;have j:∀f,f∉W.fl->W.E f=none:=λf m=>ej m
 have nil:∀n f p,f∉W.fl->dZ W.E n f p=[]:=λn f p m=>by
  induction n using Nat.casesOn with|zero=>rfl|succ n=>rw[dZ,j f m];rfl
 intro n
 induction n with
 |zero=>
  intro f p Q z s l y k
  have G:W.es f=[]:=by
   cases e:W.es f with|nil=>rfl|cons a r=>exact(s _ (u f z) a<|e▸.head _).elim
  refine qG g D h (λx=>[]) z y (by rw[G];exact Nat.zero_lt_succ _) (λx x x=>rfl) (λe m=>by rw[G]at m;exact nomatch m) ?_;rw[G];exact k
 |succ n i=>intro f p Q z s l y k;rw[dZ,u f z]at l k;refine qG g D h (λe=>dZ W.E n e.2<|p++[e.1]) z (Ja [_,_] [⟨1,.a (.v 0)<|.a (.v 1)<|.n 1,.n 900⟩] ⟨1,.v 0,.n 900⟩ 1 [1] rfl y) l (λe x m=>nil _ _ _ m) (λe m M Q k=>?_) k;refine i e.2 (p++[e.1]) Q M (s _ (u f z) e m) ?_ (by rw[b9];show p.length+1+n<900;exact Ja [_,_] [⟨1,.a (.v 0)<|.a (.v 1)<|.n 1,.n 900⟩] ⟨1,.a (.a (.v 0)<|.n 1)<|.v 1,.n 900⟩ 1 [1] rfl y) k;obtain⟨q,r,eq⟩:=List.append_of_mem<|(aT _).symm.subset m;rw[show(some<|W.es f).getD []=W.es f from rfl,eq,xl,b9,sZ,b9,mc]at l;exact Ja [_,_,_] [⟨1,.a (.v 0)<|.a (.a (.v 1)<|.n 1)<|.v 2,.n 10000⟩] ⟨1,.v 1,.n 10000⟩ 1 [1] rfl l
def rws(n:Nat)(W:Wo):List Row:=dZ W.E n 1 []
structure sV(W:Wo)(n:Nat):Prop where
 g:Oz W
 one:1∈W.fl
 ht:Ht W.E (n+1) 1
 lt:n<100
 cv:(rws n W).length<16
def jv(g:sV W n)(l:Wd A W F)(h:aE H F)(k:Q (.lst<|(rws n W).map zC) H):wC (d+n+1) 3 [.ref A.w,.int 1,.str []] H Q:=
 kD g.g l h n 1 [] Q g.one g.ht (Nat.lt_trans g.cv<|by decide) (by show 0+n<900;have:=g.lt;exact Ja [_] [⟨1,.v 0,.n 100⟩] ⟨1,.a (.n 0)<|.v 0,.n 900⟩ 1 [1] rfl this) k
def nr(g:sV W n)(D:Wd A W F)(h:aE H F)(z:f=1\/∃r∈rws n W,r.t=f)(k:∀p,(f=1/\p=[])\/(∃r∈rws n W,r.t=f/\r.p=p)->Q (.str<|pS p) H):wC (d+n+2) 4 [.ref A.w,.int f] H Q:=by
 refine av rfl rfl (jv g D h ?_);refine fZ (rws n W) zC (λr=>.str<|pS r.p) (λr=>decide (((r.t:Nat):Int)=(f:Int))) (λr y=>⟨_,rfl,λQ q=>kt (Q:=λb=>Q b H) q,λy Q q=>q⟩)<|dC (λe=>k []<|.inl ⟨mj e,rfl⟩) λe=>?_;obtain⟨r,m,u⟩:=z.resolve_left λh=>e<|cg Int.ofNat h;have M:r∈(rws n W).filter λr=>decide (((r.t:Nat):Int)=(f:Int)):=gS.2 ⟨m,eb<|cg Int.ofNat u⟩
 cases l:(rws n W).filter λr=>decide (((r.t:Nat):Int)=(f:Int))with
 |nil=>rw[l]at M;exact nomatch M|cons x t=>
  have Y:x∈(rws n W).filter λr=>decide (((r.t:Nat):Int)=(f:Int)):=by rw[l];exact .head _
  have Y:=gS.1 Y;exact aa jo<|k x.p<|.inr ⟨x,Y.1,mj<|dk Y.2,rfl⟩
def OA(n:Nat)(W:Wo)(f:Nat):List Nat:=f::((dZ W.E n f []).filter λr=>decide (r.t∈W.fl)).map (·.t)
def uJ(g:Oz W)(l:Wd A W F)(h:aE H F)(z:f∈W.fl)(y:Ht W.E (n+1) f)(N:n<100)(L:(dZ W.E n f []).length<10000)(k:Q (.lst ((OA n W f).map λt:Nat=>.int t)) H):wC (d+n+2) 5 [.ref A.w,.int f] H Q:=by
 refine av rfl rfl (kD g l h n f [] _ z y L (by show 0+n<900;exact Ja [_] [⟨1,.v 0,.n 100⟩] ⟨1,.a (.n 0)<|.v 0,.n 900⟩ 1 [1] rfl N) ?_);refine fZ (dZ W.E n f []) zC (λr=>.int r.t) (λr=>decide (r.t∈W.fl)) (λr x=>⟨_,rfl,λQ q=>aa (h.rd<|l _<|.head _)<|aa rfl (aa (h.rd<|l _<|.tail _<|.head _)<|kt (Q:=λb=>Q b H)<|by rw[fc];exact q),λx Q q=>q⟩)<|aa (cP ?_) ?_
 .have:=fe (λr:Row=>decide (r.t∈W.fl))<|dZ W.E n f [];have u:big=16777216:=rfl;rw[a9];show 1+_<=_;exact Ja [_,_] [⟨1,.v 0,.n 10000⟩,⟨0,.v 1,.v 0⟩] ⟨0,.a (.n 1)<|.v 1,.n 16777216⟩ 1 [1,1] rfl L this
 .rw[OA,ik,gY]at k;exact k
end
section
variable{H:Hp}{F:List (Nat×Ob)}{d n f:Nat}{Q:VP}{A:WA}{W:Wo}
def zD{f:Nat×Nat->V}(h:es.Pairwise λa b=>a.1≠b.1)(z:∀a b,a.1≠b.1->V.lt (f a) (f b)=V.lt (.str [a.1]) (.str [b.1])):dG (es.map f)=(sE es).map f:=
 (sort_map f es).trans (cg _<|np (h.imp λh e=>h<|cg _ e) λx k y Y ne=>z x y<|Az h x k y Y ne)
noncomputable def iV(e:Nat×Nat):V:=.tup [.str [e.1],.int e.2]
def sW(r:Row):V:=.tup [.tup [.int r.f,.str [r.c]],.str<|pS r.p]
def rJ(n:Nat)(W:Wo):List (V×V):=sO (λt=>.int t) [1]<|(rws n W).map λr=>(r.t,sW r)
noncomputable def d0(W:Wo)(t:Nat):Nat×List UInt8:=((W.st.find? λs=>decide (s.1=t)).map (·.2)).getD (0,[])
def gG(W:Wo)(t:Nat):V:=.tup [.tup [.int (d0 W t).1,.bytes (d0 W t).2],.lst<|(sE<|(W.E t).getD []).map iV]
def di(n:Nat)(W:Wo):List Nat:=aK [1]<|(rws n W).map (·.t)
def uU(n:Nat)(W:Wo):List (V×V):=(di n W).map λt:Nat=>((.int t:V),gG W t)
def Ti(n:Nat)(W:Wo):Prop:=∀t∈di n W,∃s∈W.st,s.1=t
def AB{st:List (Nat×Nat×List UInt8)}(h:∃s∈st,s.1=t):∃s,st.find? (λs=>decide (s.1=t))=some s/\bI (xE st) (.int t)=some (.tup [.int s.2.1,.bytes s.2.2]):=by
 induction st with
 |nil=>obtain⟨_,m,_⟩:=h;cases m
 |cons a r i=>
  unfold bI xE at i⊢;rw[ik,EW,EW];by_cases e:a.1=t;.clear h;subst e;rw[eb rfl,eb rfl];exact⟨a,rfl,rfl⟩
  .rw[fo e,fo<|show ¬(V.int (a.1:Nat)=.int t)fromλh=>e<|mj<|V.int.inj h];refine bC λG=>?_;obtain⟨s,m,z⟩:=h
   refine G ?_;cases m with|head=>exact absurd z e|tail _ m=>exact i ⟨s,m,z⟩
def FI(h:r∈rws n W):∃es,W.E r.f=some es/\(r.c,r.t)∈es:=zv h
def sV.pos(g:sV W n)(h:r∈rws n W):2<=r.t:=by
 obtain⟨es,u,m⟩:=FI h;unfold Wo.E at u;split at u
 .rename_i z;obtain rfl:=dR u;exact((g.g.nm _ z).nm _ m).2.1
 .injection u
def AD(g:sV W n)(h:t∈di n W):1<=t:=by
 rcases(aP _ _ _).1 h with h|h;.obtain rfl:=dt.1 h;decide
 .refine bL h λr m=>?_;have:=g.pos m;exact Ja [_] [⟨0,.n 2,.v 0⟩] ⟨0,.n 1,.v 0⟩ 2 [1] rfl this
def uK(g:sV W n):(di n W).length<17:=by have:=dg [1]<|(rws n W).map (·.t);rw[a9]at this;have h:=g.cv;exact dS this<|by show 1+_<_;exact Ja [_] [⟨1,.v 0,.n 16⟩] ⟨1,.a (.n 1)<|.v 0,.n 17⟩ 1 [1] rfl h
def AE(g:sV W n)(gs:Ti n W)(wd:Wd A W F)(h:aE H F)(k:∀H' a b,aE H' ((b,.dict .int<|uU n W)::(a,.dict .int<|rJ n W)::F)->Q (.tup [.ref a,.ref b]) H'):wC (d+n+2) 9 [.ref A.w] H Q:=by
 have hB:big=16777216:=rfl;have cv:=g.cv;refine av rfl rfl<|bC λG=>?_;obtain⟨a,ha⟩:∃a,a=H.length:=⟨_,rfl⟩;refine G ?_;have j:=h.new<|.dict .int [];rw[<-ha]at j;refine rP.of rfl rfl (ha▸j.at m0) ?_;have j:=j.set<|.dict .int<|sO (λt=>.int t) [1] [];rw[<-ha];refine bV j λH b j=>jv g (λc m=>.tail _<|.tail _<|wd c m) j<|mn (g:=none) (rws n W) rfl (λq u L H=>aE H ((b,.dict .int [])::(a,.dict .int<|sO (λt=>.int t) [1]<|q.map λr=>(r.t,sW r))::F)/\L 3=some (.ref A.w)/\L 13=some (.ref a)/\L 35=some (.ref b)) (λu u u u u=>cU.none) ?_ ?_ _ _ ⟨j,rfl,rfl,rfl⟩
 .intro q r t L H K e N hK;refine bC λG=>?_;obtain⟨h,Y,p,U⟩:=N;refine G ?_;have mq:∀x∈q,x∈rws n W:=λx m=>e▸dy _ m;have mr:r∈rws n W:=e▸ec _ (.head _);have T:=cg List.length e;rw[b9]at T;have ht:1<=r.t:=by have:=g.pos mr;exact Ja [_] [⟨0,.n 2,.v 0⟩] ⟨0,.n 1,.v 0⟩ 2 [1] rfl this
  have hq:∀e∈q.map λr=>(r.t,sW r),1<=e.1:=λe m=>by obtain⟨x,m',rfl⟩:=nW.1 m;have:=g.pos<|mq x m';exact c0 (by decide) this
  have hi:∀t∈[1],1<=t:=λt m=>by obtain rfl:=dt.1 m;decide
  have ho:(ofT (q.map λr=>(r.t,sW r)) r.t).length<=q.length:=by rw[ofT,a9];exact c0 (fe _ _)<|by rw[a9];exact i1 _
  refine ae rfl (ae p<|aa (h.rd m1)<|aa (h.at m1)<|aa (cg some<|kA uH hi hq ht)<|aa (cP<|by show _+1<=_;exact Ja [_,_,_,_] [⟨1,.v 0,.n 16⟩,⟨3,.v 0,.a (.v 1)<|.v 2⟩,⟨0,.v 3,.v 1⟩] ⟨0,.a (.v 3)<|.n 1,.n 16777216⟩ 1 [1,1,1] rfl cv T ho)<|ae p<|aa (h.at m1)<|dT ?_<|hK _ _ ⟨?_,Y,p,U⟩)
  .have:=dg [1]<|(q.map λr=>(r.t,sW r)).map (·.1);rw[a9,a9]at this;rw[sO,a9];exact dS this<|by show 1+_<_;exact Ja [_,_,_] [⟨1,.v 0,.n 16⟩,⟨3,.v 0,.a (.v 1)<|.v 2⟩] ⟨1,.a (.n 1)<|.v 1,.n 1000000⟩ 1 [1,1] rfl cv T
  .have e2:=uD (v:=sW r) uH hi hq ht;rw[e7];exact e2▸h.lW _
 .intro L H N;refine bC λG=>?_;obtain⟨h,Y,p,U⟩:=N;refine G ?_;have nd:(di n W).Nodup:=gj _ _<|by simp
  have tl:=uK g;have h2:=h.swap.set<|.ro<|.dict .int<|rJ n W;have el:(aK [1]<|((rws n W).map λr=>(r.t,sW r)).map (·.1))=di n W:=by rw[di,gY];rfl
  refine ae p<|aa (h.at m1) ?_;refine mn (g:=some (a,.dict .int<|rJ n W)) (di n W) (i:=λt:Nat=>.int t) (by rw[sO,gY,el];rfl) (λq u L H=>aE H ((a,.ro<|.dict .int<|rJ n W)::(b,.dict .int (q.map λt:Nat=>((.int t:V),gG W t)))::F)/\L 3=some (.ref A.w)/\L 13=some (.ref a)/\L 35=some (.ref b)) (λu u u u h u k=>⟨h.1.at m0,k⟩) ?_ (λL H I=>have h:=I.1;have Y:=I.2.1;have p:=I.2.2.1;have U:=I.2.2.2;ae p (ae U<|k _ a b (h.set<|.dict .int<|rJ n W).swap)) _ _ ⟨h2,Y,p,U⟩;intro q t r L H K e N hK;refine bC λG=>?_;obtain⟨h,Y,p,U⟩:=N;refine G ?_;have mt:t∈di n W:=e▸ec _ (.head _);refine bC λG=>?_;obtain⟨s,es,hs⟩:=AB<|gs t mt;refine G ?_;have T:=cg List.length e;rw[b9]at T;have nt:t∉q:=λm=>(H5.1<|e▸nd).2.2 t m t (.head _) rfl;have D:∀{x y:Nat×Ob},∀c∈wL A W,c∈x::y::F:=λc m=>.tail _<|.tail _<|wd c m;have c1:=h.rd<|D _<|.head _;refine ae rfl (ae Y<|aa c1<|aa rfl (aa (h.rd<|D _<|.tail _<|.tail _<|.head _)<|aa hs<|ae Y<|aa c1<|aa rfl (aa (h.rd<|D _<|.tail _<|.head _) ?_)));refine bV h λH' Vr M=>aa (M.at<|.tail _<|D _<|.tail _<|.head _) ?_
  have fin:∀l:List<|Nat×Nat,W.E t=some l\/(W.E t=none/\l=[])->(l.Pairwise λa b=>a.1≠b.1)->l.length<16->(sortable (l.map iV)=true/\(l.map iV).length<64/\wM (L 35) λx=>Da x (.int t) (.tup [.tup [.int s.2.1,.bytes s.2.2],.lst<|dG<|l.map iV]) H' λH4=>K (upd L 17<|.int t) H4):=λl J hp hn=>by
   refine⟨bu _ λu u=>rfl,by rw[a9];exact Ja [_] [⟨1,.v 0,.n 16⟩] ⟨1,.v 0,.n 64⟩ 1 [1] rfl hn,ae U<|aa (M.at m2)<|dT (by rw[a9];exact Ja [_,_,_] [⟨1,.v 0,.n 17⟩,⟨3,.v 0,.a (.v 1)<|.v 2⟩] ⟨1,.v 1,.n 1000000⟩ 1 [1,1] rfl tl T)<|hK _ _ ⟨?_,Y,p,U⟩⟩
   have ev:(V.tup [.tup [.int s.2.1,.bytes s.2.2],.lst<|dG<|l.map iV])=gG W t:=by
    have e1:d0 W t=s.2:=by rw[d0,es];rfl
    have e2:(W.E t).getD []=l:=by
     rcases J with J|⟨J,rfl⟩;.rw[J];rfl
     .rw[J];rfl
    rw[gG,e1,e2,zD hp λa b ne=>?_];exact ej λe=>ne (ig<|V.str.inj e).1
   rw[ev]
   have e3:dput (q.map λt:Nat=>((.int t:V),gG W t)) (.int t) (gG W t)=(q++[t]).map λt:Nat=>((.int t:V),gG W t):=by
    rw[dM λe m he=>?_,e7];.rfl
    .obtain⟨x,m',rfl⟩:=nW.1 m;exact nt<|mj (V.int.inj he)▸m'
   exact e3▸M.tl.lW _
  by_cases O:t∈W.fl
  .refine aa (a:=V.ref<|A.ad t) (by rw[cJ,er O];rfl)<|aa (M.rd<|.tail _<|D _<|cG O) ?_;have em:(eD<|W.es t).map (λe=>V.tup [e.1,e.2])=(W.es t).map iV:=gY;exact Eq.mpr (cg (λz=>vp false z H' _) em)<|fin (W.es t) (.inl<|er O) (g.g.nm t O).nd<|dS (ju W t) g.g.len
  .exact aa (a:=V.ref Vr) (by rw[cJ,ej O];rfl)<|aa (M.rd m0)<|fin [] (.inr ⟨ej O,rfl⟩) .nil<|by decide
end
section
variable{H:Hp}{F:List (Nat×Ob)}{d n n' f:Nat}{Q:VP}{W W':Wo}
noncomputable def nu(R:List Row)(t:Nat):List Row:=R.filter λr=>decide (r.t=t)
noncomputable def Jx(R:List Row)(r:Row):Bool:=R.any λx=>decide (x.f=r.f/\x.c=r.c)
def qM(R R':List Row)(t:Nat):List (List Nat):=((nu R t).filter λr=>! Jx (nu R' t) r).map λr=>pS r.p
def FJ(R R':List Row)(t:Nat):List T3:=Ib (oG<|qM R R' t)<|oG<|qM R' R t
def PQ:List (List Nat)->List Nat
 |[]=>[]|x::r=>dj x r
def xF(R:List Row)(t:Nat):List (List Nat):=(nu R t).map (λr=>pS r.p)++if t=1 then[[47]]else[]
def CX(n n':Nat)(W W':Wo)(t:Nat):List T3:=if t∈di n W/\t∈di n' W'/\gG W t≠gG W' t then[(PQ<|xF (rws n' W') t,[77],[])]else[]
def Ih(n n':Nat)(W W':Wo)(t:Nat):List T3:=FJ (rws n W) (rws n' W') t++CX n n' W W' t
noncomputable def kE(r:T3):V:=if r.2.1=[82]then .tup [.str r.1,.str r.2.1,.str r.2.2]else .tup [.str r.1,.str r.2.1]
def CY(n n':Nat)(W W':Wo):List Nat:=bQ (λa b=>V.lt (.int (a:Nat))<|.int (b:Nat))<|aK []<|di n W++di n' W'
def CZ(n n':Nat)(W W':Wo):List T3:=(CY n n' W W').flatMap<|Ih n n' W W'
def LA(R:List Row)(t:Nat):ofT (R.map λr=>(r.t,sW r)) t=(nu R t).map sW:=by unfold ofT nu;rw[List.filter_map,gY];rfl
noncomputable def Ii(r:Row):V:=.tup [.int r.f,.str [r.c]]
def Ij(R:List Row)(r:Row):k8 .c8 (Ii r) (.lst<|R.map Ii) H=some (! Jx R r):=by
 have z:(R.map Ii).all (λv=>V.fU v<|Ii r)=true:=ft.2 λv m=>by refine bL m λx _=>?_;rfl
 have y:V.jB (R.map Ii)<=8:=c0 (gc (c:=1) R λu=>i1 _)<|by decide
 show Option.map _ (if _ then _ else _)=_;rw[z,eb y];refine cg (λb=>some ! b) ?_;rw[Jx,Bool.eq_iff_iff,decide_eq_true_iff,Hg];constructor
 .intro m;refine oO m λx Y e=>?_;have e:=V.tup.inj e;exact⟨x,Y,eb ⟨mj<|V.int.inj (ig e).1,(ig<|V.str.inj (ig (ig e).2).1).1⟩⟩
 .intro p;obtain⟨x,Y,e⟩:=p;have e:=dk e;refine nW.2 ⟨x,Y,?_⟩;rw[Ii,Ii,e.1,e.2]
def zE(h:rd H a=some (.list l))(L:V.jB l<=8):k8 .ne (.ref a) (.lst []) H=some (! l.isEmpty):=by show Option.map _ (Option.bind (rd H a) _)=_;rw[h];show Option.map _ (if _ then _ else _)=_;rw[sG,eb L];rcases l<;>rfl
def AF(l:List<|List Nat):strs? (l.map .str)=some l:=(strs_map l λs=>s).trans<|cg some<|List.map_id'' (λz=>rfl) _
def AG{z:cY}{y:Nat}{L:Loc}{l l':List Row}{Q:List V->Hp->Prop}(Y:y≠40/\y≠15)(a:L y=some (.lst<|l'.map sW))(k:Q (((l.filter λr=>! Jx l' r).map λr=>pS r.p).map .str) H):
 d8 (wE z<|.var 15) (re z<|.cons (.cmp .c8 (.var 40)<|.comp false (.var 41) [41,42] (.val<|.var y) .nil) .nil) [40,15] L none (l.map sW) H Q:=by
 rw[gY]at k;refine fZ l sW (λr=>.str<|pS r.p) (λr=>! Jx l' r) (λr u=>⟨_,rfl,λQ q=>?_,λu Q q=>q⟩) k
 have A:(upd (upd L 40<|Ii r) 15<|.str<|pS r.p) y=some (.lst<|l'.map sW):=by show(if y=15 then _ else if y=40 then _ else _)=_;rw[ej Y.2,ej Y.1,a]
 exact ae A<|b8 l' sW Ii (λx u Q q=>q)<|aa (Ij l' r)<|kt (Q:=λb=>Q b H) q
def OB(R:List Row)(t:Nat):(nu R t).length<=R.length:=fe _ _
def OC(R R':List Row)(t:Nat):(qM R R' t).length<=R.length:=by rw[qM,a9];exact c0 (fe _ _)<|OB R t
def FK{H:Hp}{Q:VP}(L:l.length<64)(h:aE H F)(k:∀H' a,aE H' ((a,.list<|(oG l).map .str)::F)->Q (.ref a) H'):vp true (l.map .str) H Q:=
 ⟨bu _ λz z=>rfl,by rw[a9];exact L,by rw[mw];exact k _ _<|h.new _⟩
def Ik(l l':List<|Nat×Nat):V.cV (l.map iV) (l'.map iV)=true:=by
 induction l generalizing l' with
 |nil=>rfl|cons a r i=>induction l' using List.casesOn with|nil=>rfl|cons b u=>show(true&&V.cV (r.map iV) (u.map iV))=true;rw[i];rfl
def LB(t:Nat):k8 .ne (gG W t) (gG W' t) H=some (! decide (gG W t=gG W' t)):=by
 have z:V.fU (gG W t) (gG W' t)=true:=by show(true&&(V.cV (List.map iV _) (List.map iV _)&&true))=true;rw[Ik];rfl
 have y:V.dp (gG W t)<=8:=by have:=gc (f:=iV) (c:=1) (sE<|(W.E t).getD []) λx=>i1 _;show Nat.max 1 (Nat.max (V.jB (List.map iV _)+1) 0)+1<=8;exact ka<|Nat.max_le.2 ⟨by decide,Nat.max_le.2 ⟨c0 (ka this)<|by decide,js _⟩⟩
 show Option.map _ (if(V.fU (gG W t) (gG W' t)&&decide (V.dp (gG W t)<=8))=true then _ else _)=_;rw[z,eb y];rfl
noncomputable def Ss.tl:Ss->Ss
 |.cons _ r=>r|.nil=>.nil
def OD:Ss:=match i5.body with|.cons _ (.cons (.dU _ _ b) _)=>b|_=>.nil
def FL(hd:sV W n)(tO:sV W' n'){a0 b0 a1 b1 D j:Nat}(c:(b0,.dict .int<|uU n W)∈F)(i:(b1,.dict .int<|uU n' W')∈F)
 {t:Nat} {L:Loc} {Φ:cY} {K C:LP} {T:VP} {x y:List (List Nat)} (h:aE H<|(j,.list<|y.map .str)::(D,.list<|x.map .str)::F) (Y:L 6=some (.tup [.ref a0,.ref b0])) (U:L 9=some (.tup [.ref a1,.ref b1]))
 (I:L 17=some (.int t)) (OE:L 38=some (.lst<|(nu (rws n' W') t).map sW)) (LG:L 39=some (.ref D)) (Jy:L 43=some (.ref j)) {pre:List T3} (OF:L 36=some (.lst<|pre.map kE)) (G:pre.length+x.length+y.length<10000)
 (k:∀l H',aE H' F->l 6=L 6->l 9=L 9->l 36=some (.lst<|(pre++(x.map (λp=>(p,[45],[]))++y.map λp=>(p,[43],[]))++CX n n' W W' t).map kE)->K l H'):
 wSs Φ OD.tl.tl.tl.tl L H K T C:=by
 have b:big=16777216:=rfl;refine ae OF<|ae rfl (ae LG<|aa (h.at m1) ?_);refine e8 (g:=some (D,.list<|x.map .str)) (λk=>⟨((h.lW _)).at m1,k⟩) x .str (λp=>kE (p,[45],[])) (λu=>true) rfl ?_ ?_;.exactλp u=>⟨_,rfl,λu q=>q,λu u q=>q⟩
 rw[sl.2 λu u=>rfl];have h:=(h.lW<|.ro<|.list<|x.map .str).lW<|.list<|x.map .str;refine ae Jy<|aa (h.at m0) ?_;refine e8 (g:=some (j,.list<|y.map .str)) (λk=>⟨((h.set _)).at m0,k⟩) y .str (λp=>kE (p,[43],[])) (λu=>true) rfl ?_ ?_;.exactλp u=>⟨_,rfl,λu q=>q,λu u q=>q⟩
 rw[sl.2 λu u=>rfl];have h:=((h.set<|.ro<|.list<|y.map .str).set<|.list<|y.map .str).tl.tl;refine aa (cP<|by rw[a9,a9];exact Ja [_,_,_,_] [⟨1,.a (.a (.v 0)<|.v 1)<|.v 2,.n 10000⟩,⟨3,.v 3,.n 16777216⟩] ⟨0,.a (.v 1)<|.v 2,.v 3⟩ 16777216 [16777216,9999] rfl G b)<|dT (by rw[b9,a9,a9,a9];exact Ja [_,_,_] [⟨1,.a (.a (.v 0)<|.v 1)<|.v 2,.n 10000⟩] ⟨0,.a (.v 0)<|.a (.v 1)<|.v 2,.n 1000000⟩ 1 [1] rfl G) ?_
 have O:(pre++(x.map (λp=>((p,[45],[]):T3))++y.map λp=>(p,[43],[]))).map kE=pre.map kE++(x.map (λp=>kE (p,[45],[]))++y.map λp=>kE (p,[43],[])):=by rw[e7,e7,gY,gY];rfl
 have N:∀(n:Nat) (W:Wo),bR (uU n W) (.int t)=decide (t∈di n W):=λn W=>fc;have M:∀(n:Nat) (W:Wo),t∈di n W->bI (uU n W) (.int t)=some (gG W t):=λn W m=>cJ.trans<|er m
 have no:¬(t∈di n W/\t∈di n' W'/\gG W t≠gG W' t)->∀l,l 6=L 6->l 9=L 9->l 36=some (.lst<|pre.map kE++(x.map (λp=>kE (p,[45],[]))++y.map λp=>kE (p,[43],[])))->K l _:=λhn l J A e3=>by rw[CX,ej hn,hE,O]at k;exact k l _ h J A e3
 refine ae I<|ae Y<|aa rfl (aa (h.rd c)<|b7 (λe=>?_) λe=>aJ rfl (no (λs=>?_) _ rfl rfl rfl));all_goals rw[N]at e
 .have m1:=dk e;refine ae I<|ae U<|aa rfl (aa (h.rd i)<|b7 (λe=>?_) λe=>aJ rfl (no (λs=>?_) _ rfl rfl rfl));all_goals rw[N]at e
  .have m2:=dk e;refine ae Y<|aa rfl (ae I<|aa (h.rd c)<|aa (M n W m1)<|ae U<|aa rfl (ae I<|aa (h.rd i)<|aa (M n' W' m2)<|aa (LB t) ?_));by_cases m3:gG W t=gG W' t;.exact aJ (by rw[eb m3];rfl)<|aJ rfl (no (λs=>s.2.2 m3) _ rfl rfl rfl)
   refine aY (by rw[fo m3];rfl)<|aY rfl ?_;rw[CX,er ⟨m1,m2,m3⟩]at k
   have ne:∃a r,xF (rws n' W') t=a::r:=by
    cases e:xF (rws n' W') t with
    |cons a r=>exact⟨a,r,rfl⟩|nil=>
     have e:=List.append_eq_nil_iff.1 e;rcases(aP _ _ _).1 m2 with m|m;.rw[er<|dt.1 m]at e;exact nomatch e.2
     .clear hd tO c i h Y U I OE LG Jy OF G k m3 m2 m1 no M N O b;obtain⟨r,mr,rfl⟩:=nW.1 m;have:pS r.p∈(nu (rws n' W') r.t).map λr=>pS r.p:=u1<|gS.2 ⟨mr,eb rfl⟩;rw[e.1]at this;exact nomatch this
   refine bC λzG=>?_;obtain⟨a,r,ea⟩:=ne
   refine zG ?_;have fin:∀l,l 6=L 6->l 9=L 9->l 36=some (.lst<|pre.map kE++(x.map (λp=>kE (p,[45],[]))++y.map λp=>kE (p,[43],[]))++[.tup [.str<|dj a r,.str [77]]])->K l _:=λl J A e3=>by refine k l _ h J A ?_;rw[ea,e7,O];exact e3
   have fr:=OB (rws n' W') t;have few':=tO.cv;refine ae OE<|b8 (nu (rws n' W') t) sW (λr=>.str<|pS r.p) (λr u Q q=>q)<|ae I ?_
   have es:∀z:List<|List Nat,(if t=1 then[[47]]else[])=z->(((nu (rws n' W') t).map λr=>V.str<|pS r.p)++z.map .str)=((a::r).map .str):=λz hz=>by rw[<-ea,xF,hz,e7,gY];rfl
   refine dC (λe=>?_) λe=>?_
   .refine aa (cP<|by rw[a9];show _+1<=_;exact Ja [_,_,_] [⟨3,.v 0,.n 16777216⟩,⟨0,.v 1,.v 2⟩,⟨1,.v 2,.n 16⟩] ⟨0,.a (.v 1)<|.n 1,.v 0⟩ 1048576 [1,1048576,1048576] rfl b fr few')<|aa (a:=a::r) ?_<|dT ?_<|fin _ rfl rfl rfl;.exact(cg strs?<|es [[47]]<|er<|mj e).trans<|AF<|a::r
    .rw[b9,b9,a9,a9,a9];exact Ja [_,_,_] [⟨1,.a (.a (.v 0)<|.v 1)<|.v 2,.n 10000⟩] ⟨1,.a (.v 0)<|.a (.v 1)<|.v 2,.n 1000000⟩ 1 [1] rfl G
   .refine aa (cP<|by rw[a9];show _+0<=_;exact Ja [_,_,_] [⟨3,.v 0,.n 16777216⟩,⟨0,.v 1,.v 2⟩,⟨1,.v 2,.n 16⟩] ⟨0,.a (.v 1)<|.n 0,.v 0⟩ 16777216 [15,16777216,16777216] rfl b fr few')<|aa (a:=a::r) ?_<|dT ?_<|fin _ rfl rfl rfl;.exact(cg strs?<|es []<|ej λh=>e<|cg Int.ofNat h).trans<|AF<|a::r
    .rw[b9,b9,a9,a9,a9];exact Ja [_,_,_] [⟨1,.a (.a (.v 0)<|.v 1)<|.v 2,.n 10000⟩] ⟨1,.a (.v 0)<|.a (.v 1)<|.v 2,.n 1000000⟩ 1 [1] rfl G
  .exact si e s.2.1
 .exact si e s.1
def FM(D:sV W n)(O:sV W' n'){a0 b0 a1 b1:Nat}(c1:(a0,.dict .int<|rJ n W)∈F)(c2:(b0,.dict .int<|uU n W)∈F)(c3:(a1,.dict .int<|rJ n' W')∈F)(c4:(b1,.dict .int<|uU n' W')∈F)
 {t:Nat} (ht:1<=t) {L:Loc} {K C:LP} (h:aE H F) (l6:L 6=some (.tup [.ref a0,.ref b0])) (l9:L 9=some (.tup [.ref a1,.ref b1])) (Vs:L 36=some (.lst<|acc.map kE)) (xG:acc.length<1000)
 (k:∀z H',aE H' F->z 6=L 6->z 9=L 9->z 36=some (.lst<|(acc++Ih n n' W W' t).map kE)->K z H'):
 ∀b,(match i5.body with|.cons _ (.cons (.dU _ _ b') _)=>some b'|_=>none)=some b->wSs Φ b (upd L 17<|.int t) H K T C:=by
 intro b hb;obtain rfl:=dR hb;have hB:big=16777216:=rfl;have cv:=D.cv;have few':=O.cv;have hi:∀t∈[1],1<=t:=λt m=>by obtain rfl:=dt.1 m;decide
 have hq:∀{n:Nat} {W:Wo},sV W n->∀e∈(rws n W).map λr=>(r.t,sW r),1<=e.1:=λg e m=>by exact bL m λx m'=>c0 (by decide)<|g.pos m'
 have gd:∀{n:Nat} {W:Wo},sV W n->some ((bI (rJ n W)<|.int t).getD<|.lst [])=some (V.lst<|(nu (rws n W) t).map sW):=λg=>cg some<|(kA uH hi (hq g) ht).trans<|cg V.lst<|LA _ _;refine ae l6<|aa rfl (aa (h.rd c1)<|aa (h.at c1)<|aa (gd D)<|ae l9<|aa rfl (aa (h.rd c3)<|aa (h.at c3)<|aa (gd O) ?_));have j:=OC (rws n W) (rws n' W') t;have w2:=OC (rws n' W') (rws n W) t;refine AG (y:=38) ⟨by decide,by decide⟩ rfl ?_;refine FK (l:=qM (rws n W) (rws n' W') t) (Ja [_,_] [⟨1,.v 0,.n 16⟩,⟨0,.v 1,.v 0⟩] ⟨1,.v 1,.n 64⟩ 1 [1,1] rfl cv j) h λH N h=>AG (y:=37) ⟨by decide,by decide⟩ rfl ?_;refine FK (l:=qM (rws n' W') (rws n W) t) (Ja [_,_] [⟨1,.v 0,.n 16⟩,⟨0,.v 1,.v 0⟩] ⟨1,.v 1,.n 64⟩ 1 [1,1] rfl few' w2) h λH M h=>?_;have s1:=fb<|qM (rws n W) (rws n' W') t;have s2:=fb<|qM (rws n' W') (rws n W) t;have Rv:Ih n n' W W' t=FJ (rws n W) (rws n' W') t++CX n n' W W' t:=rfl;rw[Rv,FJ,Ib]at k;generalize oG (qM (rws n W) (rws n' W') t)=x0 at*;generalize oG (qM (rws n' W') (rws n W) t)=y0 at*;generalize Y:min x0.length y0.length=k0 at*;have dp:∀l:List<|List Nat,V.jB (l.map .str)<=8:=λl=>c0 (gc (c:=0) l λzz=>i1 _)<|js _;refine jr (α:=List (List Nat)×List (List Nat)) (λa z H=>∃pre:List T3,aE H ((M,.list<|a.2.map .str)::(N,.list<|a.1.map .str)::F)/\z 6=L 6/\z 9=L 9/\z 17=some (.int t)/\z 38=some (.lst<|(nu (rws n' W') t).map sW)/\z 39=some (.ref N)/\z 43=some (.ref M)/\z 36=some (.lst<|pre.map kE)/\pre++(a.1.zip a.2).map (λp=>(p.1,[82],p.2))=acc++(x0.zip y0).map (λp=>(p.1,[82],p.2))/\a.1.drop (min a.1.length a.2.length)=x0.drop k0/\a.2.drop (min a.1.length a.2.length)=y0.drop k0) (λa=>a.1.length) ?_ fuel (x0,y0) _ _ (by show x0.length<1000;exact Ja [_,_,_] [⟨1,.v 0,.n 16⟩,⟨0,.v 1,.v 0⟩,⟨2,.v 2,.v 1⟩] ⟨1,.v 2,.n 1000⟩ 1 [1,1,1] rfl cv j s1) ⟨acc,h,rfl,rfl,rfl,rfl,rfl,rfl,Vs,rfl,by rw[Y],by rw[Y]⟩;intro aS z H G Ft hG;refine bC λzG=>?_;obtain⟨x,y⟩:=aS;obtain⟨pre,h,I,A,Il,OE,U,J,OF,u,s,i⟩:=Ft;refine zG ?_;replace h:aE H ((M,.list<|y.map .str)::(N,.list<|x.map .str)::F):=h;refine ae U<|aa (zE (h.rd m1)<|dp x) ?_
 have tail:x=[]\/y=[]->wSs Φ OD.tl.tl.tl.tl z H K T C:=λTj=>by
  have hz:min x.length y.length=0:=by rcases Tj with rfl|rfl<;>simp
  have Rx:x.zip y=[]:=by rcases Tj with rfl|rfl<;>simp
  replace u:pre++(x.zip y).map (λp=>(p.1,[82],p.2))=acc++(x0.zip y0).map (λp=>(p.1,[82],p.2)):=u;replace s:x.drop (min x.length y.length)=x0.drop k0:=s;replace i:y.drop (min x.length y.length)=y0.drop k0:=i;rw[Rx,List.map_nil,hE]at u;rw[hz,List.drop_zero]at s i;have l1:=cg List.length u;have l2:=cg List.length s;have l3:=cg List.length i;rw[b9,a9,List.length_zip]at l1;rw[ye]at l2 l3;refine FL D O c2 c4 h (I.trans l6) (A.trans l9) Il OE U J OF (Ja [_,_,_,_,_,_,_,_,_,_,_,_,_,_] [⟨1,.v 0,.n 1000⟩,⟨1,.v 1,.n 16⟩,⟨1,.v 2,.n 16⟩,⟨0,.v 3,.v 1⟩,⟨0,.v 4,.v 2⟩,⟨2,.v 5,.v 3⟩,⟨2,.v 6,.v 4⟩,⟨2,.v 7,.v 8⟩,⟨2,.v 9,.a (.v 0)<|.v 7⟩,⟨2,.v 10,.v 11⟩,⟨2,.v 12,.v 13⟩,⟨0,.v 13,.v 6⟩,⟨2,.a (.v 11)<|.v 8,.v 5⟩] ⟨1,.a (.a (.v 9)<|.v 10)<|.v 12,.n 10000⟩ 1 [1,1,1,1,1,1,1,1,1,1,1,1,1] rfl xG cv few' j w2 s1 s2 Y l1 l2 l3 (vC (y0.length)<|k0) (zy<|Ja [_,_,_] [⟨3,.v 0,.v 1⟩,⟨0,.v 0,.v 2⟩] ⟨0,.v 1,.v 2⟩ 1 [1,1] rfl Y (Nat.min_le_left (x0.length)<|y0.length))) λVt H' h' d6 d9 Vu=>k Vt H' h' (d6.trans I) (d9.trans A) ?_;rw[Vu,u,s,i,<-ee,<-ee,<-ee,<-ee]
 induction x using List.casesOn with
 |nil=>exact aJ rfl (aJ rfl (tail<|.inl rfl))|cons a x=>induction y using List.casesOn with
  |nil=>exact aY rfl (ae J<|aa (zE (h.rd m0)<|dp [])<|aJ rfl (aJ rfl (tail<|.inr rfl)))|cons b y=>
   refine aY rfl (ae J<|aa (zE (h.rd m0)<|dp<|b::y)<|aY rfl (aY rfl ?_));refine ae OF<|ae rfl (ae U<|aa (h.rd m1)<|aa (h.at m1) ?_);have h:=h.lW<|.list<|x.map .str;refine ae J<|aa (h.rd m0)<|aa (h.at m0)<|dT ?_<|hG (x,y) _ _ (yb _) ⟨pre++[(a,[82],b)],h.set _,I,A,Il,OE,U,J,?_,?_,?_,?_⟩
   .have:=cg List.length u;rw[b9,b9,a9,a9,List.length_zip,List.length_zip]at this;rw[a9];exact Ja [_,_,_,_,_,_,_] [⟨1,.v 0,.n 1000⟩,⟨1,.v 1,.n 16⟩,⟨0,.v 2,.v 1⟩,⟨2,.v 3,.v 2⟩,⟨2,.a (.v 4)<|.v 5,.a (.v 0)<|.v 6⟩,⟨0,.v 6,.v 3⟩] ⟨1,.v 4,.n 1000000⟩ 1 [1,1,1,1,1,1] rfl xG cv j s1 this (Nat.min_le_left (x0.length)<|y0.length)
   .rw[e7];rfl
   .rw[ee];exact u
   .refine Eq.trans ?_ s;show _=List.drop (min (x.length+1)<|y.length+1) (a::x);rw[Nat.succ_min_succ];rfl
   .refine Eq.trans ?_ i;show _=List.drop (min (x.length+1)<|y.length+1) (b::y);rw[Nat.succ_min_succ];rfl
end
section
variable{H:Hp}{F:List (Nat×Ob)}{d n n' f:Nat}{Q:VP}{W W':Wo}
def AH{US:List Nat}(N:US.Nodup)(L:List Row):(US.map λt=>(nu L t).length).sum<=L.length:=by have:=zA N<|L.map λr=>(⟨[],[],r.t,0⟩:cy);rw[a9]at this;refine c0 (rn<|cg List.sum<|lF λt z=>?_) this;rw[nu,gC,List.filter_map,a9,a9];rfl
def Im(t:Nat):(Ih n n' W W' t).length<=(nu (rws n W) t).length+(nu (rws n' W') t).length+1:=by
 have z:(qM (rws n W) (rws n' W') t).length<=(nu (rws n W) t).length:=by rw[qM,a9];exact fe _ _
 have y:(qM (rws n' W') (rws n W) t).length<=(nu (rws n' W') t).length:=by rw[qM,a9];exact fe _ _
 have T:=uG (oG<|qM (rws n W) (rws n' W') t)<|oG<|qM (rws n' W') (rws n W) t;rw[fb,fb]at T;have x:(CX n n' W W' t).length<=1:=by unfold CX;split<;>simp
 rw[Ih,b9,FJ];exact Ja [_,_,_,_,_,_] [⟨0,.v 0,.v 1⟩,⟨0,.v 2,.v 3⟩,⟨0,.v 4,.a (.v 0)<|.v 2⟩,⟨0,.v 5,.n 1⟩] ⟨0,.a (.v 4)<|.v 5,.a (.a (.v 1)<|.v 3)<|.n 1⟩ 1 [1,1,1,1] rfl z y T x
def AI(D:sV W n)(O:sV W' n'){US:List Nat}(N:US.Nodup):(US.flatMap<|Ih n n' W W').length<=30+US.length:=by
 have z:=AH N<|rws n W;have y:=AH N<|rws n' W'
 have T:(US.flatMap<|Ih n n' W W').length<=(US.map λt=>(nu (rws n W) t).length).sum+(US.map λt=>(nu (rws n' W') t).length).sum+US.length:=by
  clear N z y
  induction US with|nil=>exact js _|cons t r i=>have:=Im (n:=n) (n':=n') (W:=W) (W':=W') t;rw[sZ,b9,ik,ik,List.sum_cons,List.sum_cons,mc];exact Ja [_,_,_,_,_,_,_] [⟨0,.v 0,.a (.a (.v 1)<|.v 2)<|.v 3⟩,⟨0,.v 4,.a (.a (.v 5)<|.v 6)<|.n 1⟩] ⟨0,.a (.v 4)<|.v 0,.a (.a (.a (.v 5)<|.v 1)<|.a (.v 6)<|.v 2)<|.a (.v 3)<|.n 1⟩ 1 [1,1] rfl i this
 have x:=D.cv;have m:=O.cv;exact Ja [_,_,_,_,_,_] [⟨0,.v 0,.v 1⟩,⟨0,.v 2,.v 3⟩,⟨0,.v 4,.a (.a (.v 0)<|.v 2)<|.v 5⟩,⟨1,.v 1,.n 16⟩,⟨1,.v 3,.n 16⟩] ⟨0,.v 4,.a (.n 30)<|.v 5⟩ 1 [1,1,1,1,1] rfl z y T x m
def s2(l:List T3):List T3:=bQ (λa b=>V.lt (kE a)<|kE b) l
def kG:(rJ n W).map (·.1)=(di n W).map λt:Nat=>.int t:=by
 have c:(aK [1]<|((rws n W).map λr=>(r.t,sW r)).map (·.1))=di n W:=by rw[di,gY];rfl
 rw[rJ,sO,gY,c];rfl
def Io(a b:T3):V.ord (kE a) (kE b)=true:=by unfold kE;split<;>split<;>rfl
def FN(D:sV W n)(O:sV W' n')(c:(a0,.dict .int<|rJ n W)∈F)(T:(b0,.dict .int<|uU n W)∈F)(c3:(a1,.dict .int<|rJ n' W')∈F)(M:(b1,.dict .int<|uU n' W')∈F)
 (h:aE H F) (k:∀H',aE H' F->Q (.lst<|(s2<|CZ n n' W W').map fV) H'):wC (d+1) 10 [.tup [.ref a0,.ref b0],.tup [.ref a1,.ref b1]] H Q:=by
 have J:big=16777216:=rfl;have l:=uK D;have y:=uK O;have u:∀t∈di n W++di n' W',1<=t:=λt m=>(eu.1 m).elim (AD D)<|AD O;refine av rfl rfl (aa rfl (aa (h.rd c)<|aa rfl (aa (h.rd c3)<|aa (cP ?_) ?_)));.rw[kG,kG,a9,a9];exact Ja [_,_,_] [⟨3,.v 0,.n 16777216⟩,⟨1,.v 1,.n 17⟩,⟨1,.v 2,.n 17⟩] ⟨0,.a (.v 1)<|.v 2,.v 0⟩ 524288 [1,524288,524288] rfl J l y
 refine e8 (g:=none) cU.none (di n W++di n' W') (λt:Nat=>.int t) (λt=>.tup [.int t,.int 0]) (λz=>true) (by rw[kG,kG,e7]) ?_ ?_;.exactλt z=>⟨_,rfl,λz q=>q,λz z q=>q⟩
 rw[sl.2 λz z=>rfl];have U:=dg []<|di n W++di n' W';rw[b9,List.length_nil,Dp]at U;refine aa (iw _ (λt:Nat=>.int t) λt=>.int 0)<|aY (oF (by intro e m;refine bL m λb _=>?_;rfl) ?_) ?_;.rw[a9,b9];exact Ja [_,_] [⟨1,.v 0,.n 17⟩,⟨1,.v 1,.n 17⟩] ⟨0,.a (.v 0)<|.v 1,.n 1000000⟩ 1 [1,1] rfl l y
 have I:((di n W++di n' W').map λt:Nat=>((.int t:V),V.int 0)).foldl (λd e=>dput d e.1 e.2) []=(aK []<|di n W++di n' W').map λt:Nat=>((.int t:V),.int 0):=xB (v:=λz=>.int 0) uH _ [] u;rw[I];have h:=h.new<|.dict .int ((aK []<|di n W++di n' W').map λt:Nat=>((.int t:V),.int 0));have x:((aK []<|di n W++di n' W').map λt:Nat=>((.int t:V),V.int 0)).map (·.1)=(aK []<|di n W++di n' W').map λt:Nat=>V.int t:=gY;refine aa (h.rd m0) ⟨?_,?_,?_⟩;.rw[x];exact bu _ λz z=>rfl
 .rw[x,a9];exact Ja [_,_,_] [⟨1,.v 0,.n 17⟩,⟨1,.v 1,.n 17⟩,⟨0,.v 2,.a (.v 0)<|.v 1⟩] ⟨1,.v 2,.n 64⟩ 1 [1,1,1] rfl l y U
 have h:=h.tl;have N:(CY n n' W W').Nodup:=(aL _ _).nodup_iff.2<|gj _ _ .nil;have s:(CY n n' W W').length=(aK []<|di n W++di n' W').length:=(aL _ _).length_eq;refine mn (g:=none) (CY n n' W W') (i:=λt:Nat=>.int t) (by rw[x];exact sort_map _ _) (λq z L H=>aE H F/\L 6=some (.tup [.ref a0,.ref b0])/\L 9=some (.tup [.ref a1,.ref b1])/\L 36=some (.lst<|(q.flatMap<|Ih n n' W W').map kE)) (λz z z z z=>cU.none) ?_ ?_ _ _ ⟨h,rfl,rfl,rfl⟩
 .intro q t r L H K e p hK;refine bC λG=>?_;obtain⟨h,A,a,Y⟩:=p;refine G ?_;have mt:t∈CY n n' W W':=e▸ec _ (.head _)
  have ht:1<=t:=by
   rcases(aP _ _ _).1<|(aL _ _).subset mt with m|m;.cases m
   .exact u t m
  have j:=cg List.length e;rw[b9]at j;have dl:=AI D O (H5.1<|e▸N).1;refine ae rfl (FM D O c T c3 M ht h A a Y (Ja [_,_,_,_,_,_,_] [⟨1,.v 0,.n 17⟩,⟨1,.v 1,.n 17⟩,⟨0,.v 2,.a (.v 0)<|.v 1⟩,⟨2,.v 3,.v 2⟩,⟨3,.v 3,.a (.v 4)<|.v 5⟩,⟨0,.v 6,.a (.n 30)<|.v 4⟩] ⟨1,.v 6,.n 1000⟩ 1 [1,1,1,1,1,1] rfl l y U s j dl) (λL' H' h' e6 e9 Rv=>hK L' H' ⟨h',e6.trans A,e9.trans a,?_⟩) _ rfl);rw[Rv,xl,List.flatMap_singleton]
 .intro L H p;refine bC λG=>?_;obtain⟨h,A,a,Y⟩:=p;refine G ?_;have dl:=AI D O N;refine ae Y ⟨bu _ Io,?_,?_⟩
  .rw[a9];show(CZ n n' W W').length<64;rw[CZ];exact Ja [_,_,_,_,_] [⟨1,.v 0,.n 17⟩,⟨1,.v 1,.n 17⟩,⟨0,.v 2,.a (.v 0)<|.v 1⟩,⟨2,.v 3,.v 2⟩,⟨0,.v 4,.a (.n 30)<|.v 3⟩] ⟨1,.v 4,.n 64⟩ 1 [1,1,1,1,1] rfl l y U s dl
  refine e8 (g:=none) cU.none (s2<|CZ n n' W W') kE fV (λz=>true) (sort_map _ _) ?_ ?_
  .intro r _;refine⟨_,rfl,λz q=>q,λz Q q=>ae rfl ?_⟩;unfold fV at q;by_cases e:r.2.1=[82]
   .rw[er e]at q;rw[show kE r=.tup [.str r.1,.str r.2.1,.str r.2.2]from er e];exact aa rfl (ae rfl (aa rfl (ae rfl (aa rfl (aa rfl q)))))
   .rw[ej e]at q;rw[show kE r=.tup [.str r.1,.str r.2.1]from ej e];exact aa rfl (ae rfl (aa rfl (ae rfl (aa rfl (aa rfl q)))))
  .rw[sl.2 λz z=>rfl];exact k H h
end
section
variable{n:Nat}{W:Wo}
structure Gw(W:Wo):Prop where
 one:1∈W.fl
 nd:W.fl.Nodup
 el:∀e∈W.el,e.1∈W.fl/\Nm e.2.1/\2<=e.2.2/\e.2.2<=W.last
 nm:W.el.Pairwise λa b=>¬(a.1=b.1/\a.2.1=b.2.1)
 uq:∀a∈W.el,∀b∈W.el,a.2.2=b.2.2->a.2.2∈W.fl->a=b
 par:∀f∈W.fl,f≠1->∃e∈W.el,e.2.2=f
 pos:∀f∈W.fl,1<=f/\f<=W.last
 cv:W.el.length<=12
 last:W.last<=13
structure Od(W:Wo)(ord:List Nat):Prop where
 all:∀f∈W.fl,f∈ord
 len:ord.length<=14
 ir:∀e∈W.el,e.1≠e.2.2
 ord:ord.Pairwise λa b=>∀e∈W.el,¬(e.1=a/\e.2.2=b)
def aZ:e∈W.es f↔(f,e.1,e.2)∈W.el:=by
 unfold Wo.es;rw[nW];constructor
 .intro p;obtain⟨x,m,h⟩:=p;have m:=gS.1 m;have H:=dk m.2;subst h;rw[<-H];exact m.1
 .intro m;exact⟨(f,e.1,e.2),gS.2 ⟨m,eb rfl⟩,rfl⟩
def hZ(h:W.E f=some es):f∈W.fl/\es=W.es f:=by
 unfold Wo.E at h;split at h;.rename_i m;exact⟨m,(dR h).symm⟩
 .exact nomatch h
theorem Gw.g(g:Gw W):Oz W:=by
 refine⟨λf x=>⟨?_,λe m=>?_⟩,dS g.cv<|by decide⟩
 .unfold Wo.es;rw[List.pairwise_map];refine((g.nm.sublist rl).imp_of_mem ?_);intro a b M z h e;have H:=dk (gS.1 M).2;have y:=dk (gS.1 z).2;exact h ⟨H.trans y.symm,e⟩
 .have h:=g.el _<|aZ.1 m;exact⟨h.2.1,h.2.2.1,dS (c0 h.2.2.2 g.last)<|by decide⟩
def AJ{E:Gr}:∀{n t:Nat},Ht E n t->Ht E (n+1) t:=λ{n}=>by
 induction n with|zero=>intro t h;exact h.elim|succ n i=>intro t h es u e m;exact i<|h es u e m
def OG{E:Gr}{n m t:Nat}(h:Ht E n t)(l:n<=m):Ht E m t:=by
 induction l with|refl=>exact h|step _ i=>exact AJ i
def Od.ht{ord:List Nat}(o:Od W ord):∀f∈W.fl,Ht W.E 15 f:=by
 have u:∀y pre:List Nat,ord.reverse=pre++y->∀f∈y,Ht W.E (y.length+1) f:=λy=>by
  induction y with
  |nil=>intro _ _ f m;cases m|cons g s i=>
   intro pre e f m;have i:=i (pre++[g])<|by rw[e,ee];rfl
   cases m with
   |tail _ m=>exact AJ<|i f m|head=>
    intro es p x Y;obtain⟨H,rfl⟩:=hZ p;have Y:=aZ.1 Y;by_cases k:x.2∈W.fl
    .have z:=List.pairwise_reverse.2 o.ord;rw[e]at z;have hm:x.2∈pre++g::s:=by rw[<-e];exact List.mem_reverse.2<|o.all _ k
     rcases eu.1 hm with hm|hm;.exact absurd ⟨rfl,rfl⟩<|(qn.1 z).2.2 _ hm g (.head _) _ Y
     .cases hm with|head=>exact absurd rfl (o.ir _ Y)|tail _ hm=>exact i _ hm
    .intro j l;exact absurd (hZ l).1 k
 intro f H;refine OG (u ord.reverse [] rfl f (List.mem_reverse.2<|o.all f H)) ?_;rw[List.length_reverse];exact ka o.len
def Od.reach{ord:List Nat}(g:Gw W)(o:Od W ord):∀f∈W.fl,f≠1->∃r∈rws 14 W,r.t=f:=by
 have k:W.E 1=some (W.es 1):=er g.one
 have j:∀b pre:List Nat,ord=pre++b->∀f∈b,f∈W.fl->f≠1->∃r∈rws 14 W,r.t=f:=λb=>by
  induction b with
  |nil=>intro _ _ f m;cases m|cons x s i=>
   intro pre e f m H c;have i:=i (pre++[x])<|by rw[e,ee];rfl
   cases m with
   |tail _ m=>exact i f m H c|head=>
    obtain⟨y,M,Y⟩:=g.par x H c;have p:=(g.el y M).1;have u:(y.2.1,x)∈W.es y.1:=aZ.2<|by show(y.1,y.2.1,x)∈_;rw[<-Y];exact M
    have z:=o.ord;rw[e]at z;have hm:y.1∈pre++x::s:=by rw[<-e];exact o.all _ p
    rcases eu.1 hm with hm|hm;.exact absurd ⟨rfl,Y⟩<|(qn.1 z).2.2 _ hm x (.head _) y M
    .have a:y.1∈s:=by
      rcases lq.1 hm with h|h;.exact absurd (h.trans Y.symm)<|o.ir y M
      .exact h
     by_cases l:y.1=1
     .rw[l]at u;exact⟨_,uB (o.ht 1 g.one) k u,rfl⟩
     .obtain⟨r,U,z⟩:=i y.1 a p l;exact⟨_,iv (o.ht 1 g.one) U (by rw[z];exact er p) u,rfl⟩
 exactλf H=>j ord [] rfl f (o.all f H) H
def kI{E:Gr}:∀{n f:Nat} {p:List Nat} {r:Row},r∈dZ E n f p->∃q,r.p=q++[r.c]/\((q=p/\r.f=f)\/∃z∈dZ E n f p,z.p=q/\z.t=r.f):=λ{n}=>by
 induction n with
 |zero=>intro f p r h;cases h|succ n i=>
  intro f p r h;refine bC λG=>?_;obtain⟨es,e,y,x,h3⟩:=cb.1 h;refine G ?_;rcases h3 with rfl|h3;.exact⟨p,rfl,.inl ⟨rfl,rfl⟩⟩
  .obtain⟨q,u,s⟩:=i h3;refine⟨q,u,.inr ?_⟩;rcases s with⟨rfl,H⟩|⟨z,m,H⟩;.exact⟨_,cb.2 ⟨es,e,y,x,.inl rfl⟩,rfl,H.symm⟩
   .exact⟨z,cb.2 ⟨es,e,y,x,.inr m⟩,H⟩
def oH{E:Gr}:∀{n f:Nat} {p:List Nat} {r:Row},r∈dZ E n f p->∃c s,r.p=p++c::s:=λ{n}=>by
 induction n with
 |zero=>intro f p r h;cases h|succ n i=>
  intro f p r h;obtain⟨es,e,H,y,h3⟩:=cb.1 h;rcases h3 with rfl|h3;.exact⟨e.1,[],rfl⟩
  .obtain⟨c,s,z⟩:=i h3;exact⟨e.1,c::s,by rw[z,ee];rfl⟩
def oJ{E:Gr}:∀{n f:Nat} {p:List Nat} {r:Row},r∈dZ E n f p->r.p.length<=p.length+n:=λ{n}=>by
 induction n with
 |zero=>intro f p r h;cases h|succ n i=>
  intro f p r h;obtain⟨es,e,H,z,h3⟩:=cb.1 h;rcases h3 with rfl|h3;.rw[b9];exact ih (ka<|js n) _
  .have:=i h3;rw[b9]at this;show _<=p.length+(n+1);exact c0 this<|by show p.length+1+n<=_;exact Ja [_,_] [] ⟨0,.a (.a (.v 0)<|.n 1)<|.v 1,.a (.v 0)<|.a (.v 1)<|.n 1⟩ 1 [] rfl
def FP{E:Gr}(H:∀f es,E f=some es->es.Pairwise λa b=>a.1≠b.1):∀(n f:Nat) (p:List Nat),(dZ E n f p).Pairwise λa b=>a.p≠b.p:=λn=>by
 induction n with
 |zero=>exactλz z=>.nil|succ n i=>
  intro f p;rw[dZ,List.pairwise_flatMap]
  have u:(sE<|(E f).getD []).Pairwise λa b=>a.1≠b.1:=by
   cases h:E f with|none=>exact .nil|some es=>exact((aT es).pairwise_iff λh=>Dq h).2<|H f es h
  have pre:∀(e:Nat×Nat) (r:Row),r∈(⟨p++[e.1],f,e.1,e.2⟩:Row)::dZ E n e.2 (p++[e.1])->∃s,r.p=p++e.1::s:=λe r m=>by
   cases m with|head=>exact⟨[],rfl⟩|tail _ m=>obtain⟨c,s,h⟩:=oH m;exact⟨c::s,by rw[h,ee];rfl⟩
  refine⟨λe z=>rj.2 ⟨λr m h=>?_,i _ _⟩,u.imp λ{a b} ne x Y y M h=>?_⟩
  .obtain⟨c,s,l⟩:=oH m;have:=cg List.length<|h.trans l;simp at this
  .obtain⟨s,k⟩:=pre a x Y;obtain⟨t,j⟩:=pre b y M;rw[k,j]at h;exact ne (ig<|List.append_cancel_left h).1
def aX(h:r∈rws n W):(r.f,r.c,r.t)∈W.el/\r.f∈W.fl:=by refine bC λG=>?_;obtain⟨es,u,m⟩:=FI h;obtain⟨H,rfl⟩:=hZ u;exact G<|⟨aZ.1 m,H⟩
def Gw.path(g:Gw W):∀(k:Nat) (a b:Row),a∈rws n W->b∈rws n W->a.p.length<=k->a.f=b.f->a.c=b.c->a.p=b.p:=λk=>by
 induction k with
 |zero=>intro a b m _ h;obtain⟨c,s,e⟩:=oH m;rw[e]at h;simp at h
 |succ k i=>
  intro a b m j h f U;obtain⟨Q,p,A⟩:=kI m;obtain⟨qb,T,H⟩:=kI j
  have no:∀x∈dZ W.E n 1 [],x.t≠1:=λx Y e=>by have:=(g.el _ (aX Y).1).2.2.1;have:2<=x.t:=this;exact wQ 0<|Ja [_] [⟨2,.v 0,.n 1⟩,⟨0,.n 2,.v 0⟩] ⟨0,.n 1,.n 0⟩ 1 [1,1] rfl e this
  have:Q=qb:=by
   rcases A with⟨rfl,A⟩|⟨x,Y,l,z⟩
   .rcases H with⟨rfl,_⟩|⟨y,M,_,u⟩;.rfl
    .exact absurd (u.trans<|f.symm.trans A)<|no y M
   .rcases H with⟨rfl,H⟩|⟨y,M,O,u⟩;.exact absurd (z.trans<|f.trans H)<|no x Y
    .have e:=g.uq _ (aX (n:=n) Y).1 _ (aX (n:=n) M).1 (z.trans<|f.trans u.symm)<|by show x.t∈W.fl;rw[z];exact(aX m).2
     have N:=cg (·.1) e;have L:=cg (·.2.1) e;have:=i x y Y M (by rw[l];rw[p,b9]at h;exact Nat.le_of_succ_le_succ h) N L;rw[<-l,<-O,this]
  rw[p,T,this,U]
def Gw.rows(g:Gw W):(rws n W).Pairwise λa b=>¬(a.f=b.f/\a.c=b.c):=
 (FP (λf es h=>by obtain⟨H,rfl⟩:=hZ h;exact(g.g.nm f H).nd) n 1 []).imp_of_mem λm M h e=>h<|g.path _ _ _ m M (i1 _) e.1 e.2
def Gw.gn(g:Gw W)(o:Od W ord):sV W 14 where
 g:=g.g
 one:=g.one
 ht:=o.ht 1 g.one
 lt:=by decide
 cv:=by
  have H:((rws 14 W).map λr=>(r.f,r.c,r.t)).Nodup:=by unfold List.Nodup;rw[List.pairwise_map];exact g.rows.imp λh e=>h ⟨cg (·.1) e,cg (·.2.1) e⟩
  have z:=H.length_le_of_subset (l₂:=W.el) λx m=>by exact bL m λr u=>(aX u).1
  rw[a9]at z;exact dS (c0 z g.cv)<|by decide
end
section
def LH(x y:T3)(e:sT x=sT y):x=y:=by have z:=ig<|V.tup.inj e;have u:=ig z.2;exact Prod.ext (V.str.inj z.1)<|Prod.ext (V.str.inj u.1)<|V.str.inj (ig u.2).1
def OH(T:T3->Prop):TO (λa b=>V.lt (sT a)<|sT b) T:=
 TO.M2.pull (λx=>⟨_,rfl,λc m=>by
  rcases lq.1 m with rfl|m;.rfl
  rcases lq.1 m with rfl|m;.rfl
  obtain rfl:=dt.1 m
  rfl⟩) LH T
def sY [DecidableEq α]{xs ys zs s:List α}(h:x=y->gJ lt xs ys=gJ lt zs s):gJ lt (x::xs) (y::ys)=gJ lt (x::zs) (y::s):=by
 show(if _ then _ else _)=(if _ then _ else _:Bool);by_cases e:x=y;.rw[er e,er e,h e]
 .rw[ej e,ej e]
def Cn(r:T3):Prop:=r.2.1=[82]\/r.2.2=[]
def LJ(H:Cn a)(p:Cn b):V.lt (kE a) (kE b)=V.lt (sT a) (sT b):=by
 unfold kE;have st:∀{x y:List Nat},V.str x=.str y->x=y:=V.str.inj;by_cases z:a.2.1=[82]<;>by_cases u:b.2.1=[82];.rw[er z,er u];rfl
 .rw[er z,ej u];exact sY λs=>(sY λe=>absurd ((st e).symm.trans z) u:gJ V.gy [_,_] [_]=_)
 .rw[ej z,er u];exact sY λs=>(sY λe=>absurd ((st e).trans u) z:gJ V.gy [_] [_,_]=_)
 .rw[ej z,ej u];refine sY λs=>sY λs=>?_;rw[H.resolve_left z,p.resolve_left u];exact(er rfl).symm
def LK(a b:List<|List Nat):∀r∈Ib a b,Cn r:=by
 intro r m;unfold Ib at m;rcases eu.1 m with m|m
 .rcases eu.1 m with m|m;.exact bL m λx _=>.inl rfl
  .exact bL m λx _=>.inr rfl
 .exact bL m λx _=>.inr rfl
variable{n n':Nat}{W W':Wo}
def FQ:∀r∈CZ n n' W W',Cn r:=by
 intro r m;obtain⟨t,_,m⟩:=List.mem_flatMap.1 m;rcases eu.1 m with m|m;.exact LK _ _ r m
 .unfold CX at m;split at m;.obtain rfl:=dt.1 m;exact .inr rfl
  .exact nomatch m
def xH{lt lt':α->α->Bool}(h:∀x∈l,∀y∈l,lt x y=lt' x y):bQ lt l=bQ lt' l:=by
 have g:∀(t acc:List α),(∀x∈acc++t,x∈l)->t.foldl (λacc x=>dE lt x acc) acc=t.foldl (λacc x=>dE lt' x acc) acc:=λt=>by
  induction t with
  |nil=>exactλacc z=>rfl|cons x t i=>
   intro acc H;have e:dE lt x acc=dE lt' x acc:=qD λy m=>h x (H x<|ec _<|.head _) y<|H y<|dy _ m;show List.foldl _ (dE lt x acc) t=List.foldl _ (dE lt' x acc) t;rw[e];refine i _ λy m=>H y ?_;rcases eu.1 m with m|m
   .cases(fH lt' x acc).subset m with|head=>exact ec _<|.head _|tail _ m=>exact dy _ m
   .exact ec _<|.tail _ m
 exact g l [] λz m=>m
def xI(p:D.Perm<|CZ n n' W W'):s3 D=s2 (CZ n n' W W'):=
 (jD (OH _) p).trans (xH λx Y y M=>(LJ (FQ x Y)<|FQ y M).symm)
def FS(l:List<|List Nat):(oG l).headD []=PQ l:=by
 have g:∀(r:List<|List Nat) m t,∃t',r.foldl (λc x=>dE (λa b=>V.lt (.str a)<|.str b) x c) (m::t)=dj m r::t':=λr=>by
  induction r with
  |nil=>exactλm t=>⟨t,rfl⟩|cons x r i=>
   intro m t;show∃t',List.foldl _ (if ltNats x m=true then _ else _) r=dj (if ltNats x m=true then _ else _) r::t';by_cases h:ltNats x m=true;.rw[er h,er h];exact i _ _
   .rw[ej h,ej h];exact i _ _
 induction l using List.casesOn with|nil=>rfl|cons x r=>obtain⟨t',e⟩:=g r x [];exact cg (List.headD · []) e
end
section
variable{n n':Nat}{W W':Wo}{w:Nat->Nat×Nat}{st eK:Nat->List V}
def LL(r:Row):cy:=⟨pS r.p,[r.c],r.t,r.f⟩
noncomputable def AK:cy:=⟨[47],[],1,1⟩
def jw(n:Nat)(W:Wo):List cy:=AK::(rws n W).map LL
def oK:aK [] ((jw n W).map (·.t))=di n W:=by rw[jw,ik,gY];rfl
noncomputable def HK(R:List Row)(r:Row):Bool:=R.any λx=>decide (x.f=r.f/\x.c=r.c/\x.t=r.t)
def LM(r:Row):x9 (jw n W) (LL r)=HK (rws n W) r:=by rw[x9,jw,List.any_cons,List.any_map,fo λh=>by injection h.2.1];exact(Bool.false_or _).trans<|cg (List.any _)<|funext λx=>nX.2 ⟨λh=>⟨h.1,(ig h.2.1).1,h.2.2⟩,λh=>⟨h.1,cg (λc=>[c]) h.2.1,h.2.2⟩⟩
def qH:fB (jw n W) (jw n' W')=((rws n W).filter λr=>!HK (rws n' W') r).map LL:=by have h:x9 (jw n' W') AK=true:=Hg.2 ⟨AK,.head _,eb ⟨rfl,rfl,rfl⟩⟩;rw[fB,show jw n W=AK::(rws n W).map LL from rfl,nq<|by rw[h];nofun,List.filter_map];exact cg (λp=>List.map LL<|List.filter p<|rws n W)<|funext λr=>cg (!·)<|LM r
def kJ(t:Nat):gC (fB (jw n W)<|jw n' W') t=qM (rws n W) (rws n' W') t:=by
 rw[qH,gC,qM,List.filter_map,gY,List.filter_filter,show nu (rws n W) t=(rws n W).filter (λr=>decide (r.t=t))from rfl,List.filter_filter];refine cg (List.map λr:Row=>pS r.p)<|I0 λr z=>?_;show(decide (r.t=t)&&!HK _ r)=(!Jx (nu _ t) r&&decide (r.t=t));by_cases e:r.t=t
 .rw[eb e,Bool.true_and,Bool.and_true];refine cg (!·) ?_;rw[HK,Jx,nu,List.any_filter];refine cg (List.any _)<|funext λx=>?_;by_cases u:x.t=t
  .rw[eb u,Bool.true_and];exact nX.2 ⟨λh=>⟨h.1,h.2.1⟩,λh=>⟨h.1,h.2,u.trans e.symm⟩⟩
  .rw[fo u,Bool.false_and];exact fo λh=>u<|h.2.2.trans e
 .rw[fo e,Bool.false_and,Bool.and_false]
def Ip(t:Nat):ya (jw n W) (jw n' W') t=FJ (rws n W) (rws n' W') t:=by rw[ya,FJ,kJ,kJ]
def RB(g:Gw W):nu (rws n W) 1=[]:=List.filter_eq_nil_iff.2 λr m h=>by have h:=dk h;have:2<=r.t:=(g.el _ (aX m).1).2.2.1;exact wQ 0<|Ja [_] [⟨2,.v 0,.n 1⟩,⟨0,.n 2,.v 0⟩] ⟨0,.n 1,.n 0⟩ 1 [1,1] rfl h this
def Iq(g:Gw W)(t:Nat):gC (jw n W) t=xF (rws n W) t:=by
 have e:((rws n W).map LL).filter (λr=>decide (r.t=t))=(nu (rws n W) t).map LL:=List.filter_map;rw[gC,jw,yv,xF,e];by_cases h:t=1
 .subst h;rw[er<|eb<|by rfl,er rfl,RB g];rfl
 .rw[ej λe=>h (dk e).symm,ej h,hE,gY];rfl
def xJ(l:List α)(f g:α->List β):(l.flatMap λa=>f a++g a).Perm (l.flatMap f++l.flatMap g):=by
 induction l with|nil=>exact .refl _|cons a t i=>rw[sZ,sZ,sZ,ee,ee];exact .append_left _<|((i.append_left<|g a).trans<|by rw[<-ee,<-ee];exact Cw.append_right _)
def qI(l:List α)(f:α->List β):l.flatMap f=(l.filter λa=>!(f a).isEmpty).flatMap f:=by
 induction l with
 |nil=>rfl|cons a t i=>
  rw[sZ,yv];by_cases e:(f a).isEmpty=true;.rw[ej<|by rw[e];nofun,mi.1 e];exact i
  .rw[er<|by rw[tq.2 e];rfl,sZ,i]
def nv{l l':List Nat}(h:l.Nodup)(H:l'.Nodup)(e:∀a,(a∈l/\p a=true)↔(a∈l'/\p' a=true)):(l.filter p).Perm (l'.filter p'):=
 (List.perm_ext_iff_of_nodup (h.sublist rl)<|H.sublist rl).2 λa=>by rw[gS,gS];exact e a
def FU(G:Gw W')(s:∀t∈di n W,t∈di n' W'->(st t=eK t↔gG W t=gG W' t)):(FH w (jw n W) (jw n' W') st eK).Perm (CZ n n' W W'):=by
 have N:(CY n n' W W').Nodup:=(aL _ _).nodup_iff.2<|gj _ _ .nil;have D:(Jw w (jw n W)<|jw n' W').Nodup:=(aL _ _).nodup_iff.2<|gj _ _ .nil
 have M:∀t,t∈CY n n' W W'↔t∈di n W\/t∈di n' W':=λt=>by refine(aL _ _).mem_iff.trans<|(aP _ _ _).trans ?_;rw[eu];exact⟨λh=>h.resolve_left nofun,.inr⟩
 have T:∀{n:Nat} {W:Wo},∀r∈rws n W,r.t∈di n W:=λr m=>(aP _ _ _).2<|.inr<|u1 m;refine .trans ?_ (xJ (CY n n' W W') (FJ (rws n W)<|rws n' W')<|CX n n' W W').symm;refine Cw.trans<|.append ?_ ?_
 .rw[show ya (jw n W) (jw n' W')=FJ (rws n W) (rws n' W')from funext Ip,qI<|Jw _ _ _,qI<|CY _ _ _ _];refine List.Perm.flatMap_right _<|nv D N λt=>?_
  have k:(!(FJ (rws n W) (rws n' W') t).isEmpty)=true->(∃r∈fB (jw n W) (jw n' W'),r.t=t)\/∃r∈fB (jw n' W') (jw n W),r.t=t:=λh=>by
   by_cases H:qM (rws n W) (rws n' W') t=[]
   .by_cases z:qM (rws n' W') (rws n W) t=[];.rw[FJ,H,z]at h;exact nomatch h
    .right;rw[<-kJ]at z;obtain⟨x,Y⟩:=List.exists_mem_of_ne_nil _ z;exact oO Y λr u _=>⟨r,(gS.1 u).1,dk (gS.1 u).2⟩
   .left;rw[<-kJ]at H;refine bC λy=>?_;obtain⟨x,Y⟩:=List.exists_mem_of_ne_nil _ H;exact oO Y λr u _=>y<|⟨r,(gS.1 u).1,dk (gS.1 u).2⟩
  constructor
  .intro p;obtain⟨_,h⟩:=p;refine⟨(M t).2 ?_,h⟩;rcases k h with⟨r,m,rfl⟩|⟨r,m,rfl⟩
   .rw[qH]at m;clear G s h k M D N;exact bL m λx Y=>.inl<|T x (gS.1 Y).1
   .rw[qH]at m;clear G s h k M D N;exact bL m λx Y=>.inr<|T x (gS.1 Y).1
  .intro p;obtain⟨_,h⟩:=p;refine⟨(aL _ _).symm.subset<|(aP _ _ _).2<|.inr<|eu.2 ?_,h⟩
   have on:∀l j:List cy,∀r∈fB l j,r.t∈aK [] ((fR l j).map (·.1)):=λl j r m=>(aP _ _ _).2 (.inr (by rw[fR,gY];exact nW.2 ⟨r,m,rfl⟩));rcases k h with⟨r,m,rfl⟩|⟨r,m,rfl⟩;.exact .inl<|on _ _ r m
   .exact .inr<|on _ _ r m
 .have f:(CY n n' W W').flatMap (CX n n' W W')=((CY n n' W W').filter λt=>decide (t∈di n W/\t∈di n' W'/\gG W t≠gG W' t)).map λt=>(PQ<|xF (rws n' W') t,[77],[]):=by
   generalize CY n n' W W'=l
   induction l with
   |nil=>rfl|cons t r I=>
    rw[sZ,yv,CX,I];by_cases h:t∈di n W/\t∈di n' W'/\gG W t≠gG W' t;.rw[er h,er<|eb h];rfl
    .rw[ej h,ej<|by simpa using h];rfl
  rw[f,Ic,oK,oK,List.filter_filter];have c:(λt=>((oG<|gC (jw n' W') t).headD [],[77],[]))=λt=>((PQ<|xF (rws n' W') t,[77],[]):T3):=funext λt=>by rw[FS,Iq G]
  rw[c];refine(nv (gj _ _<|by simp) N λt=>?_).map _;rw[M];constructor
  .intro p;obtain⟨H,z⟩:=p;rw[Bool.and_eq_true]at z;have i:=dk z.2;refine⟨.inr H,eb ⟨i,H,λe=>?_⟩⟩;rw[eb<|(s t i H).2 e]at z;exact nomatch z.1
  .intro p;refine bC λy=>?_;obtain⟨_,z⟩:=p;refine y ?_;have z:=dk z;refine⟨z.2.1,?_⟩;rw[eb z.1,fo λe=>z.2.2<|(s t z.1 z.2.1).1 e];rfl
def tells(G:Gw W')(s:∀t∈di n W,t∈di n' W'->(st t=eK t↔gG W t=gG W' t)):s3 (FH w (jw n W) (jw n' W') st eK)=s2 (CZ n n' W W'):=xI<|FU G s
def FV:CZ n n W W=[]:=by
 rw[CZ,List.flatMap_eq_nil_iff];intro t _
 have e:qM (rws n W) (rws n W) t=[]:=by rw[qM,List.map_eq_nil_iff,List.filter_eq_nil_iff];intro r m h;have:Jx (nu (rws n W) t) r=true:=Hg.2 ⟨r,m,eb ⟨rfl,rfl⟩⟩;rw[this]at h;injection h
 rw[Ih,FJ,e,CX,ej λh=>h.2.2 rfl];rfl
end
section
variable{n:Nat}{W W':Wo}{τ iq:Tr}{z z':Nat->Z}{oc ot nx kM:Nat->List UInt8}{mk:Nat->Nat}
def Tg(W:Wo)(t:Nat):Prop:=t∈W.fl\/∃e∈W.el,e.2.2=t
noncomputable def subs(W:Wo)(f:Nat):Nat:=((W.es f).filter λe=>decide (e.2∈W.fl)).length
noncomputable def cnt(W:Wo)(t:Nat):Nat:=(W.el.filter λe=>decide (e.2.2=t)).length
structure Rp(τ:Tr)(W:Wo)(z:Nat->Z)(oc ot:Nat->List UInt8)(mk:Nat->Nat):Prop where
 inv:Inv τ W.E z oc ot
 made:∀t,Tg W t->(z t).made=mk t
 mode:∀t,Tg W t->(z t).mode=(d0 W t).1
 fy:∀t,Tg W t->t∉W.fl->ot t=(d0 W t).2/\(z t).links=cnt W t
 dir:∀t∈W.fl,(d0 W t).2=[]/\(z t).links=2+subs W t
 par:∀e∈W.el,e.2.2∈W.fl->(z e.2.2).parent=ob e.1
 top:(z 1).parent=2
def uL(g:Gw W)(h:t∈di n W):Tg W t:=by
 rcases(aP _ _ _).1 h with h|h;.obtain rfl:=dt.1 h;exact .inl g.one
 .exact bL h λr m=>.inr ⟨_,(aX m).1,rfl⟩
def gp{t:Nat}(h:t∉W.fl):W.E t=none:=ej h
def kO{t:Nat}(h:t∈W.fl):W.E t=some (W.es t):=er h
def Jz(E:Gr)(zf:Nat->Z)(ot:Nat->List UInt8)(t:Nat):List V:=[.int (zf t).sort,.int (zf t).mode,match E t with|.none=>.bytes<|ot t|some es=>.tup<|(sE es).map λe=>.tup [.str [e.1],jt zf e.2]]
def LN{E:Gr}(y:∀f es,E f=some es->∀e∈es,Nm e.1):∀{n f:Nat} {p:List Nat} {r:Row},r∈dZ E n f p->∀c∈r.p,c∈p\/Nm c:=λ{n}=>by
 induction n with
 |zero=>intro f p r h;cases h|succ n i=>
  intro f p r h c M;obtain⟨es,e,H,x,h3⟩:=cb.1 h
  have D:c∈p++[e.1]->c∈p\/Nm c:=λm=>by
   rcases eu.1 m with m|m;.exact .inl m
   .obtain rfl:=dt.1 m;exact .inr<|y f es H e x
  rcases h3 with rfl|h3;.exact D M
  .rcases i h3 c M with m|m;.exact D m
   .exact .inr m
def Gw.names(g:Gw W)(h:r∈rws n W):∀c∈r.p,Nm c:=λc m=>
 (LN (λf es u e O=>by obtain⟨H,rfl⟩:=hZ u;exact(g.el _<|aZ.1 O).2.1) h c m).resolve_left nofun
def FW(h:r∈rws n W):∃q,r.p=q++[r.c]:=by obtain⟨q,e,_⟩:=kI h;exact⟨q,e⟩
def Gv(mk:Nat->Nat)(t:Nat):Nat×Nat:=(ob t,mk t)
def AL:Kj (c7<|Gv mk):=λa b H y h=>by have h:=V.tup.inj h;have h:=mj<|V.int.inj (ig h).1;have h:ob a=ob b:=h;rw[<-mh H,<-mh y,h]
def FX(g:Gw W)(o:Od W ord):Tb (Gv mk) (jw 14 W) where
 inj:=AL
 pos:=λr m=>by
  cases m with|head=>exact⟨i1 1,i1 1⟩|tail _ m=>obtain⟨x,Y,rfl⟩:=nW.1 m;have H:2<=x.t:=(g.el _ (aX Y).1).2.2.1;exact⟨HZ H,(g.pos _ (aX Y).2).1⟩
 sp:=λr m=>by
  cases m with|head=>exact⟨[[]],rfl⟩|tail _ m=>obtain⟨x,Y,rfl⟩:=nW.1 m;obtain⟨q,e⟩:=FW Y;refine⟨[]::pN q,?_⟩;show aQ 47 (pS x.p)=_;rw[sI _ λc m=>(g.names Y c m).ne,e,pN,e7];rfl
 pl:=λr m=>by
  cases m with|head=>exact hS rfl|tail _ m=>obtain⟨x,Y,rfl⟩:=nW.1 m;have:=oJ Y;show(pS x.p).length<=_;rw[qE];exact c0 (Nat.mul_le_mul_left 2 this) (by decide)
 len:=by rw[jw,mc,a9];have:=(g.gn o).cv;exact Ja [_] [⟨1,.v 0,.n 16⟩] ⟨1,.a (.v 0)<|.n 1,.n 20⟩ 1 [1] rfl this
 key:=by
  refine rj.2 ⟨λr m h=>?_,?_⟩
  .obtain⟨x,Y,rfl⟩:=nW.1 m;injection h.2.1
  .rw[List.pairwise_map];exact g.rows.imp λh e=>h ⟨e.1,(ig e.2.1).1⟩
def Rp.FY(R:Rp τ W z oc ot mk)(h:t∈W.fl):(z t).sort=1:=(R.inv.dir t _<|kO h).1.sort
def Rp.file(R:Rp τ W z oc ot mk)(g:Gw W)(h:Tg W t)(H:t∉W.fl):CU τ (ob t) (z t) (oc t)/\(∃k,oc t=ot t++zs k)/\(ot t).length=(z t).size/\(oc t).length<=100:=by obtain⟨e,m,rfl⟩:=h.resolve_left H;exact R.inv.fy e.1 _ (e.2.1,e.2.2) (kO (g.el e m).1) (aZ.2 m)<|gp H
def xK(g:Gw W)(h:e∈W.es f):Tg W e.2:=.inr ⟨_,aZ.1 h,rfl⟩
def LO(g:Gw W)(G:Gw W')(R:Rp τ W z oc ot mk)(R':Rp iq W' z' nx kM mk)(h:Tg W t)(u:Tg W' t)(k:t∈W.fl↔t∈W'.fl):
 (Jz W.E z ot t=Jz W'.E z' kM t↔gG W t=gG W' t)/\V.cV (Jz W.E z ot t) (Jz W'.E z' kM t)=true/\V.jB (Jz W.E z ot t)<=7:=by
 have m1:=R.mode t h;have m2:=R'.mode t u;by_cases H:t∈W.fl
 .have T:=k.1 H;have s1:=R.FY H;have s2:=R'.FY T;unfold Jz gG;rw[kO H,kO T,s1,s2,m1,m2,(R.dir t H).1,(R'.dir t T).1]
  have j:∀e∈sE (W.es t),jt z e.2=c7 (Gv mk) e.2:=λe m=>by rw[jt,R.made _<|xK g<|(aT _).subset m];rfl
  have Y:∀e∈sE (W'.es t),jt z' e.2=c7 (Gv mk) e.2:=λe m=>by rw[jt,R'.made _<|xK G<|(aT _).subset m];rfl
  have U:∀e∈sE (W.es t),1<=e.2:=λe m=>HZ (g.el _<|aZ.1<|(aT _).subset m).2.2.1;have Q:∀e∈sE (W'.es t),1<=e.2:=λe m=>HZ (G.el _<|aZ.1<|(aT _).subset m).2.2.1;show([_,_,V.tup<|(sE<|W.es t).map _]=[_,_,V.tup<|(sE<|W'.es t).map _]↔V.tup [V.tup [_,_],V.lst<|(sE<|W.es t).map iV]=V.tup [V.tup [_,_],V.lst<|(sE<|W'.es t).map iV])/\(true&&(true&&(V.cV ((sE<|W.es t).map _) ((sE<|W'.es t).map _)&&true)))=true/\Nat.max 0 (Nat.max 0<|Nat.max (V.jB ((sE<|W.es t).map _)+1) 0)<=7;refine⟨?_,?_,?_⟩
  .have N:((sE<|W.es t).map λe=>V.tup [.str [e.1],jt z e.2])=((sE<|W'.es t).map λe=>V.tup [.str [e.1],jt z' e.2])↔(sE<|W.es t).map iV=(sE<|W'.es t).map iV:=by
    rw[lF λe m=>by rw[j e m],lF (l:=sE<|W'.es t) λe m=>by rw[Y e m]];clear j Y;generalize sE (W.es t)=a at*;generalize sE (W'.es t)=b at*
    induction a generalizing b with
    |nil=>induction b using List.casesOn with
     |nil=>exact Gy|cons=>exact⟨nofun,nofun⟩
    |cons x a i=>induction b using List.casesOn with
     |nil=>exact⟨nofun,nofun⟩|cons y b=>
      have i:=i (λe m=>U e<|.tail _ m) b λe m=>Q e<|.tail _ m;rw[ik,ik,ik,ik,List.cons.injEq,List.cons.injEq,i];refine and_congr_left λO=>?_;constructor
      .intro e;have e:=V.tup.inj e;have s:=(ig<|V.str.inj (ig e).1).1;have p:=AL _ _ (U x<|.head _) (Q y<|.head _) (ig (ig e).2).1;rw[iV,iV,s,p]
      .intro e;have e:=V.tup.inj e;have s:=(ig<|V.str.inj (ig e).1).1;have p:=mj<|V.int.inj (ig (ig e).2).1;rw[s,p]
   rw[List.cons.injEq,List.cons.injEq,List.cons.injEq,V.tup.injEq,V.tup.injEq,List.cons.injEq,List.cons.injEq,V.tup.injEq,V.lst.injEq,N];simp
  .have:∀a b:List<|Nat×Nat,V.cV (a.map λe=>V.tup [.str [e.1],jt z e.2]) (b.map λe=>V.tup [.str [e.1],jt z' e.2])=true:=λa=>by
    induction a with
    |nil=>exactλO=>rfl|cons x a i=>intro b;induction b using List.casesOn with|nil=>rfl|cons y b=>show(true&&V.cV _ _)=true;rw[i b];rfl
   rw[this];rfl
  .have:=gc (f:=λe:Nat×Nat=>V.tup [.str [e.1],jt z e.2]) (c:=2) (sE<|W.es t) λO=>i1 _;exact Nat.max_le.2 ⟨js _,Nat.max_le.2 ⟨js _,Nat.max_le.2 ⟨c0 (ka this)<|by decide,js _⟩⟩⟩
 .have T:t∉W'.fl:=λm=>H<|k.2 m;have s1:=(R.file g h H).1.sort;have s2:=(R'.file G u T).1.sort;unfold Jz gG;rw[gp H,gp T,s1,s2,m1,m2,(R.fy t h H).1,(R'.fy t u T).1];exact⟨by simp,rfl,js _⟩
end
section
variable{H:Hp}{F:List (Nat×Ob)}{d:Nat}{Q:VP}{W W':Wo}{τ iq:Tr}{z z':Nat->Z}{oc ot nx kM:Nat->List UInt8}{mk:Nat->Nat}
def xL(g:Gw W)(R:Rp τ W z oc ot mk):(([],1,1)::(rws 14 W).map Row.r).map (Ly W.E z ot)=(jw 14 W).map (PO (Gv mk)<|Jz W.E z ot):=by
 have j:∀t,Tg W t->jt z t=c7 (Gv mk) t:=λt h=>by rw[jt,R.made t h];rfl
 have u:=j 1<|.inl g.one;rw[jw,ik,ik,gY,gY];refine congr (cg List.cons ?_)<|lF λr m=>?_
 .show V.tup [_,jt z 1,jt z 1,_]=V.tup [_,c7 (Gv mk) 1,c7 (Gv mk) 1,_];rw[u];rfl
 .have y:=j r.t<|.inr ⟨_,(aX m).1,rfl⟩;have x:=j r.f<|.inl (aX m).2;obtain⟨q,e⟩:=FW m;have i:Gp r.p=pS r.p:=ej<|by rw[e];simp
  show V.tup [.str<|Gp r.p,jt z r.t,jt z r.f,_]=V.tup [.str<|pS r.p,c7 (Gv mk) r.t,c7 (Gv mk) r.f,_];rw[y,x,i];rfl
def dz{ord I:List Nat}(g:Gw W)(o:Od W ord)(G:Gw W')(O:Od W' I)(R:Rp τ W z oc ot mk)(R':Rp iq W' z' nx kM mk)(f:∀t,Tg W t->Tg W' t->(t∈W.fl↔t∈W'.fl))
 {m p l J s s':Nat} {C c:List (Nat×Ob)} (M:Ch m p τ C) (y:Ch l J iq c) (h:aE H<|C++(c++F)) (e:(s,Ob.inst 4 [(103,.ref m),(72,.int 2)])∈F) (Y:(s',Ob.inst 4 [(103,.ref l),(72,.int 2)])∈F)
 (k:∀H' C c,Ch m p τ C->Ch l J iq c->aE H' (C++(c++F))->Q (.lst<|(s2<|CZ 14 14 W W').map fV) H'):wC (d+14+12) 52 [.ref s,.ref s'] H Q:=by
 have N:=g.gn o;have u:=G.gn O;have lt:∀{W:Wo},sV W 14->(dZ W.E 14 1 []).length<10000:=λn=>Nat.lt_trans n.cv<|by decide
 have i:∀{W:Wo},Gw W->(W.E 1).isSome:=λg=>by rw[kO g.one];rfl
 refine av rfl rfl<|kz (n:=14) R.inv (M.ms h) (ec _ e) (i g) N.ht (by decide) (lt N) λH h=>?_;refine bC λx=>h.cells λC M h=>?_
 refine x ?_;have j:∀{A B F:List (Nat×Ob)},(A++(B++F)).Perm (B++(A++F)):=by intro A B F;rw[<-ee,<-ee];exact Cw.append_right _
 refine kz (n:=14) R'.inv (y.ms<|h.perm j) (ec _ Y) (i G) u.ht (by decide) (lt u) λH h=>?_;refine bC λx=>h.cells λc y h=>x ?_;refine(?_:wC (d+14+11) 95 [.lst<|(([],1,1)::(rws 14 W).map Row.r).map<|Ly W.E z ot,.lst<|(([],1,1)::(rws 14 W').map Row.r).map<|Ly W'.E z' kM] H _);rw[xL g R,xL G R'];have st:=λt (a:t∈di 14 W) (b:t∈di 14 W')=>LO g G R R' (uL g a) (uL G b)<|f t (uL g a)<|uL G b;refine oh (FX g o) (FX G O) (λt a b=>?_) h λH' U=>?_
 .have T:t∈di 14 W:=by rw[<-oK];exact(aP _ _ _).2<|.inr a
  have L:t∈di 14 W':=by rw[<-oK];exact(aP _ _ _).2<|.inr b
  exact(st t T L).2
 .rw[tells G λt a b=>(st t a b).1];exact k H' C c M y<|U.perm j
end
section
variable{W:Wo}{ord:List Nat}{f c t f' c':Nat}
noncomputable def Wo.new(W:Wo)(b:Bool)(f c:Nat):Wo:=⟨if b then W.fl++[W.last+1]else W.fl,W.el++[(f,c,W.last+1)],W.st++[(W.last+1,5,[])],W.last+1⟩
noncomputable def Wo.add(W:Wo)(f c t:Nat):Wo:=⟨W.fl,W.el++[(f,c,t)],W.st,W.last⟩
noncomputable def Wo.del(W:Wo)(f c:Nat):Wo:=⟨W.fl,W.el.filter λe=>! decide (e.1=f/\e.2.1=c),W.st,W.last⟩
noncomputable def Wo.out(W:Wo)(t:Nat):Wo:=⟨W.fl.filter λx=>! decide (x=t),W.el,W.st,W.last⟩
noncomputable def Wo.put(W:Wo)(t:Nat)(s:Nat×List UInt8):Wo:=⟨W.fl,W.el,W.st.map λx=>if x.1=t then(x.1,s)else x,W.last⟩
def Gx(W:Wo)(f c:Nat):Prop:=∀e∈W.el,¬(e.1=f/\e.2.1=c)
structure Or(W:Wo)(ord:List Nat):Prop where
 all:∀f,f∈ord↔f∈W.fl
 len:ord.length<=W.last
 ir:∀e∈W.el,e.1≠e.2.2
 ord:ord.Pairwise λa b=>∀e∈W.el,¬(e.1=a/\e.2.2=b)
def Or.od(o:Or W ord)(g:Gw W):Od W ord:=⟨λf m=>(o.all f).2 m,c0 o.len<|c0 g.last<|by decide,o.ir,o.ord⟩
theorem Gw.new(g:Gw W)(H:f∈W.fl)(y:Nm c)(u:Gx W f c)(l:W.el.length<12)(I:W.last<13):Gw (W.new b f c):=by
 have sub:∀x∈W.fl,x∈(W.new b f c).fl:=λx m=>by
  obtain⟨⟩:=b;.exact m
  .exact dy _ m
 have i:∀x∈(W.new b f c).fl,x∈W.fl\/x=W.last+1:=λx m=>by
  obtain⟨⟩:=b;.exact .inl m
  .exact(eu.1 m).imp id dt.1
 have lt:∀e∈W.el,e.2.2≠W.last+1:=λe m=>by have:=(g.el e m).2.2.2;exact Ja [_,_] [⟨0,.v 0,.v 1⟩] ⟨6,.v 0,.a (.v 1)<|.n 1⟩ 1 [1] rfl this
 have s:(W.new b f c).el=W.el++[(f,c,W.last+1)]:=rfl;refine⟨sub 1 g.one,?_,λe m=>?_,?_,λa ma z mb h M=>?_,λx m k=>?_,λx m=>?_,?_,I⟩
 .obtain⟨⟩:=b;.exact g.nd
  .exact H5.2 ⟨g.nd,by simp,λa ma b mb e=>by
    obtain rfl:=dt.1 mb;have:=(g.pos a ma).2
    exact wQ 0<|Ja [_,_] [⟨3,.v 0,.a (.v 1)<|.n 1⟩,⟨0,.v 0,.v 1⟩] ⟨0,.n 1,.n 0⟩ 1 [1,1] rfl e this⟩
 .rcases eu.1 m with m|m
  .have h:=g.el e m;exact⟨sub _ h.1,h.2.1,h.2.2.1,lH h.2.2.2⟩
  .obtain rfl:=dt.1 m;have:=(g.pos f H);exact⟨sub _ H,y,by show 2<=W.last+1;exact Ja [_,_] [⟨0,.n 1,.v 0⟩,⟨0,.v 0,.v 1⟩] ⟨0,.n 2,.a (.v 1)<|.n 1⟩ 1 [1,1] rfl this.1 this.2,i1 _⟩
 .exact qn.2 ⟨g.nm,List.pairwise_singleton _ _,λa ma b mb h=>by obtain rfl:=dt.1 mb;exact u a ma h⟩
 .rcases eu.1 ma with ma|ma
  .rcases eu.1 mb with mb|mb;.exact g.uq a ma z mb h<|(i _ M).resolve_right<|lt a ma
   .obtain rfl:=dt.1 mb;exact absurd h<|lt a ma
  .obtain rfl:=dt.1 ma;rcases eu.1 mb with mb|mb;.exact absurd h.symm<|lt z mb
   .obtain rfl:=dt.1 mb;rfl
 .rcases i x m with m|rfl
  .obtain⟨e,O,h⟩:=g.par x m k;exact⟨e,dy _ O,h⟩
  .exact⟨_,ec _<|.head _,rfl⟩
 .show 1<=x/\x<=W.last+1;rcases i x m with m|rfl;.have:=g.pos x m;exact⟨Ja [_] [⟨0,.n 1,.v 0⟩] ⟨0,.n 1,.v 0⟩ 1 [1] rfl this.1,Ja [_,_] [⟨0,.v 0,.v 1⟩] ⟨0,.v 0,.a (.v 1)<|.n 1⟩ 1 [1] rfl this.2⟩
  .exact⟨Ja [_] [] ⟨0,.n 1,.a (.v 0)<|.n 1⟩ 1 [] rfl,Ja [_] [] ⟨0,.a (.v 0)<|.n 1,.a (.v 0)<|.n 1⟩ 1 [] rfl⟩
 .rw[s,b9];exact l
theorem Or.new(o:Or W ord)(g:Gw W)(H:f∈W.fl):Or (W.new b f c) (if b then(W.last+1)::ord else ord):=by
 have no:W.last+1∉W.fl:=λm=>by have:=(g.pos _ m).2;exact wQ 0<|Ja [_] [⟨0,.a (.v 0)<|.n 1,.v 0⟩] ⟨0,.n 1,.n 0⟩ 1 [1] rfl this
 have J:=(g.pos f H).2
 have ir:∀e∈W.el++[(f,c,W.last+1)],e.1≠e.2.2:=λe m=>by
  rcases eu.1 m with m|m;.exact o.ir e m
  .obtain rfl:=dt.1 m;show f≠W.last+1;exact Ja [_,_] [⟨0,.v 0,.v 1⟩] ⟨6,.v 0,.a (.v 1)<|.n 1⟩ 1 [1] rfl J
 have od:ord.Pairwise λa b=>∀e∈W.el++[(f,c,W.last+1)],¬(e.1=a/\e.2.2=b):=o.ord.imp_of_mem λ{a b} A M h e m=>by
  rcases eu.1 m with m|m;.exact h e m
  .obtain rfl:=dt.1 m;intro p;refine bC λG=>?_;obtain⟨_,h⟩:=p;exact G<|no<|(o.all _).1<|(show W.last+1=_ from h)▸M
 obtain⟨⟩:=b;.exact⟨o.all,lH o.len,ir,od⟩
 .refine⟨λx=>?_,ka o.len,ir,rj.2 ⟨λb M e m h=>?_,od⟩⟩
  .show x∈(W.last+1)::ord↔x∈W.fl++[W.last+1];rw[lq,eu,dt,o.all,or_comm]
  .rcases eu.1 m with m|m;.exact no<|h.1▸(g.el e m).1
   .obtain rfl:=dt.1 m;exact absurd h.1<|by show f≠W.last+1;exact Ja [_,_] [⟨0,.v 0,.v 1⟩] ⟨6,.v 0,.a (.v 1)<|.n 1⟩ 1 [1] rfl J
def uM{l:List (Nat×Nat×Nat)}(h:l.Pairwise λa b=>¬(a.1=b.1/\a.2.1=b.2.1))(Y:x∈l)(M:y∈l)(ne:x≠y):¬(x.1=y.1/\x.2.1=y.2.1):=λe=>
 Az (f:=λe:Nat×Nat×Nat=>(e.1,e.2.1)) (h.imp λh e=>h ⟨cg (·.1) e,cg (·.2) e⟩) x Y y M ne (Prod.ext e.1 e.2)
theorem Gw.add(g:Gw W)(z:f∈W.fl)(y:Nm c)(u:Gx W f c)(l:W.el.length<12)(ht:Tg W t)(H:t∉W.fl):Gw (W.add f c t):=by
 have T:2<=t/\t<=W.last:=by obtain⟨e,m,rfl⟩:=ht.resolve_left H;exact(g.el e m).2.2
 refine⟨g.one,g.nd,λe m=>?_,?_,λa ma b mb h M=>?_,λx m k=>?_,g.pos,?_,g.last⟩
 .rcases eu.1 m with m|m;.exact g.el e m
  .obtain rfl:=dt.1 m;exact⟨z,y,T.1,T.2⟩
 .exact qn.2 ⟨g.nm,List.pairwise_singleton _ _,λa ma b mb h=>by obtain rfl:=dt.1 mb;exact u a ma h⟩
 .rcases eu.1 ma with ma|ma
  .rcases eu.1 mb with mb|mb;.exact g.uq a ma b mb h M
   .obtain rfl:=dt.1 mb;exact absurd (show t∈W.fl from(show a.2.2=t from h)▸M) H
  .obtain rfl:=dt.1 ma;exact absurd M H
 .obtain⟨e,O,h⟩:=g.par x m k;exact⟨e,dy _ O,h⟩
 .show(W.el++[_]).length<=12;rw[b9];exact l
theorem Or.add(o:Or W ord)(z:f∈W.fl)(H:t∉W.fl):Or (W.add f c t) ord:=by
 refine⟨o.all,o.len,λe m=>?_,o.ord.imp_of_mem λ{a b} A M h e m=>?_⟩
 .rcases eu.1 m with m|m;.exact o.ir e m
  .obtain rfl:=dt.1 m;exactλe=>H<|(show f=t from e)▸z
 .rcases eu.1 m with m|m;.exact h e m
  .obtain rfl:=dt.1 m;intro p;obtain⟨_,h⟩:=p;exact H<|(show t=b from h)▸(o.all b).1 M
def aF:e∈(W.del f c).el↔e∈W.el/\¬(e.1=f/\e.2.1=c):=by rw[Wo.del,gS,tc,ly]
def cw:x∈(W.out t).fl↔x∈W.fl/\x≠t:=by rw[Wo.out,gS,tc,ly]
theorem Gw.del(g:Gw W)(O:(f,c,t)∈W.el)(H:t∉W.fl):Gw (W.del f c):=by
 refine⟨g.one,g.nd,λe m=>g.el e (aF.1 m).1,g.nm.sublist rl,λa M b z=>g.uq a (aF.1 M).1 b (aF.1 z).1,λx m k=>?_,g.pos,c0 (fe _ _) g.cv,g.last⟩;obtain⟨e,l,h⟩:=g.par x m k;refine⟨e,aF.2 ⟨l,λu=>?_⟩,h⟩;have:=g.nm
 have s:e=(f,c,t):=by
  by_cases y:e=(f,c,t);.exact y
  .exact absurd u<|uM this l O y
 subst s;exact H<|(show t=x from h)▸m
theorem Or.del(o:Or W ord):Or (W.del f c) ord:=
 ⟨o.all,o.len,λe m=>o.ir e (aF.1 m).1,o.ord.imp λh e m=>h e (aF.1 m).1⟩
theorem Gw.out(g:Gw W)(O:(f,c,t)∈W.el)(ht:t∈W.fl)(H:∀e∈W.el,e.1≠t):Gw ((W.del f c).out t):=by
 have T:2<=t:=(g.el _ O).2.2.1;refine⟨cw.2 ⟨g.one,(Ja [_] [⟨0,.n 2,.v 0⟩] ⟨6,.n 1,.v 0⟩ 1 [1] rfl T)⟩,g.nd.sublist rl,λe m=>?_,g.nm.sublist rl,λa M b z h u=>g.uq a (aF.1 M).1 b (aF.1 z).1 h (cw.1 u).1,λx m k=>?_,λx m=>g.pos x (cw.1 m).1,c0 (fe _ _) g.cv,g.last⟩
 .have h:=g.el e (aF.1 m).1;exact⟨cw.2 ⟨h.1,H e (aF.1 m).1⟩,h.2⟩
 .have m:=cw.1 m;obtain⟨e,l,h⟩:=g.par x m.1 k;refine⟨e,aF.2 ⟨l,λs=>?_⟩,h⟩;by_cases y:e=(f,c,t);.subst y;exact m.2<|show x=t from(show t=x from h).symm
  .exact uM g.nm l O y s
theorem Or.out(o:Or W ord)(g:Gw W)(ht:t∈W.fl):Or ((W.del f c).out t) (ord.filter λx=>!decide (x=t)):=by refine⟨λx=>?_,c0 (fe _ _) o.len,λe m=>o.ir e (aF.1 m).1,(o.ord.imp λh e m=>h e (aF.1 m).1).sublist rl⟩;rw[gS,tc,ly,o.all];exact cw.symm
def Gw.mv(g:Gw W)(O:(f,c,t)∈W.el)(u:f'∈W.fl)(s:Nm c')(p:Gx W f' c'):Gw ((W.del f c).add f' c' t):=by
 have ht:=(g.el _ O).2.2;have k:((W.del f c).add f' c' t).el=(W.del f c).el++[(f',c',t)]:=rfl
 have l:∀e∈(W.del f c).el,e.2.2=t->t∉W.fl:=λe m h ht=>by
  have m:=aF.1 m;have:=g.uq e m.1 _ O h<|by rw[h];exact ht
  subst this;exact m.2 ⟨rfl,rfl⟩
 refine⟨g.one,g.nd,λe m=>?_,?_,λa ma b mb h H=>?_,λx m j=>?_,g.pos,?_,g.last⟩
 .rcases eu.1 m with m|m;.exact g.el e (aF.1 m).1
  .obtain rfl:=dt.1 m;exact⟨u,s,ht⟩
 .exact qn.2 ⟨g.nm.sublist rl,List.pairwise_singleton _ _,λa ma b mb h=>by obtain rfl:=dt.1 mb;exact p a (aF.1 ma).1 h⟩
 .rcases eu.1 ma with ma|ma
  .rcases eu.1 mb with mb|mb;.exact g.uq a (aF.1 ma).1 b (aF.1 mb).1 h H
   .obtain rfl:=dt.1 mb;have h:a.2.2=t:=h;exact absurd (h▸H)<|l a ma h
  .obtain rfl:=dt.1 ma;rcases eu.1 mb with mb|mb;.exact absurd H<|l b mb h.symm
   .obtain rfl:=dt.1 mb;rfl
 .obtain⟨e,M,h⟩:=g.par x m j;by_cases z:e.1=f/\e.2.1=c
  .refine⟨_,ec _<|.head _,?_⟩;by_cases y:e=(f,c,t);.subst y;exact h
   .exact absurd z<|uM g.nm M O y
  .exact⟨e,dy _<|aF.2 ⟨M,z⟩,h⟩
 .have:(W.del f c).el.length<W.el.length:=List.length_filter_lt_length_iff_exists.2 ⟨_,O,by simp⟩;rw[k,b9];exact c0 this g.cv
def Or.Vv(o:Or W ord)(H:f'∈W.fl)(N:t∉W.fl):Or ((W.del f c).add f' c' t) ord:=o.del.add H N
structure OK(W:Wo)(t:Nat)(B:List Nat):Prop where
 self:t∈B
 sub:∀e∈W.el,e.1∈B->e.2.2∈W.fl->e.2.2∈B
def Or.Vw(o:Or W ord){B:List Nat}(H:OK W t B)(u:f'∈W.fl)(N:f'∉B):Or ((W.del f c).add f' c' t) (ord.filter (λx=>decide (x∈B))++ord.filter λx=>! decide (x∈B)):=by
 have ne:f'≠t:=λe=>N<|e▸H.self;refine⟨λx=>?_,?_,λe m=>?_,qn.2 ⟨?_,?_,λa A b M e m h=>?_⟩⟩
 .refine .trans ?_<|o.all x;rw[eu,gS,gS,decide_eq_true_iff,tc,ly];by_cases h:x∈B<;>simp[h]
 .refine c0 (rn ?_) o.len;rw[b9];clear o H u N
  induction ord with|nil=>rfl|cons a r i=>rw[yv,yv];by_cases h:a∈B<;>simp[h]<;>(first|exact i3 (Ja [_,_,_] [⟨2,.a (.v 0)<|.v 1,.v 2⟩] ⟨0,.a (.a (.v 0)<|.n 1)<|.v 1,.a (.v 2)<|.n 1⟩ 1 [1] rfl i) (Ja [_,_,_] [⟨3,.a (.v 0)<|.v 1,.v 2⟩] ⟨0,.a (.v 2)<|.n 1,.a (.a (.v 0)<|.n 1)<|.v 1⟩ 1 [1] rfl i)|exact i3 (Ja [_,_,_] [⟨2,.a (.v 0)<|.v 1,.v 2⟩] ⟨0,.a (.v 0)<|.a (.v 1)<|.n 1,.a (.v 2)<|.n 1⟩ 1 [1] rfl i)<|Ja [_,_,_] [⟨3,.a (.v 0)<|.v 1,.v 2⟩] ⟨0,.a (.v 2)<|.n 1,.a (.v 0)<|.a (.v 1)<|.n 1⟩ 1 [1] rfl i)
 .rcases eu.1 m with m|m;.exact o.ir e (aF.1 m).1
  .obtain rfl:=dt.1 m;exact ne
 .refine(o.ord.sublist rl).imp_of_mem λ{a b} A M h e m=>?_;rcases eu.1 m with m|m;.exact h e (aF.1 m).1
  .cases dt.1 m;intro⟨h,_⟩;exact N<|(show f'=a from h)▸dk (gS.1 A).2
 .refine(o.ord.sublist rl).imp_of_mem λ{a b} A M h e m=>?_;rcases eu.1 m with m|m;.exact h e (aF.1 m).1
  .cases dt.1 m;intro⟨_,h⟩;have:=(gS.1 M).2;rw[tc,ly]at this;exact this<|(show t=b from h)▸H.self
 .have A:=gS.1 A;have M:=gS.1 M;have z:=M.2;rw[tc,ly]at z;have y:=dk A.2;rcases eu.1 m with m|m
  .have:=H.sub e (aF.1 m).1 (h.1▸y)<|by rw[h.2];exact(o.all b).1 M.1
   rw[h.2]at this;exact z this
  .obtain rfl:=dt.1 m;exact N<|(show f'=a from h.1)▸y
theorem Gw.put(g:Gw W)(s:Nat×List UInt8):Gw (W.put t s):=⟨g.one,g.nd,g.el,g.nm,g.uq,g.par,g.pos,g.cv,g.last⟩
theorem Or.put(o:Or W ord)(s:Nat×List UInt8):Or (W.put t s) ord:=⟨o.all,o.len,o.ir,o.ord⟩
def LQ(g:Gw W)(o:Or W ord)(ht:t∈W.fl):OK W t (OA 14 W t):=by
 refine⟨.head _,λe m h y=>?_⟩;have O:(e.2.1,e.2.2)∈W.es e.1:=aZ.2 m;have z:=(o.od g).ht t ht;have fin:∀r∈dZ W.E 14 t [],r.t=e.2.2->e.2.2∈OA 14 W t:=λr m H=>.tail _<|nW.2 ⟨r,gS.2 ⟨m,eb<|by rw[H];exact y⟩,H⟩;rcases lq.1 h with h|h
 .rw[h]at O;exact fin _ (uB z (kO ht) O) rfl
 .refine oO h λr u H=>?_;have u:=(gS.1 u).1;rw[<-H]at O;exact fin _ (iv z u (kO<|by rw[H];exact(g.el e m).1) O) rfl
end
section
variable{W W':Wo}{ord:List Nat}{f c t:Nat}{τ iq:Tr}{z z':Nat->Z}{oc ot nx kM:Nat->List UInt8}{mk:Nat->Nat}
structure LR(τ:Tr)(W:Wo)(z:Nat->Z)(mk:Nat->Nat)(t:Nat):Prop where
 dir:Dir τ (ob t) (z t) ((sE (W.es t)).map (dN W.E))
 made:(z t).made=mk t
 mode:(z t).mode=(d0 W t).1
 oct:(d0 W t).2=[]
 links:(z t).links=2+subs W t
 par:∀e∈W.el,e.2.2=t->(z t).parent=ob e.1
structure JA(τ:Tr)(W:Wo)(z:Nat->Z)(oc ot:Nat->List UInt8)(mk:Nat->Nat)(t:Nat):Prop where
 fy:CU τ (ob t) (z t) (oc t)
 pad:∃k,oc t=ot t++zs k
 size:(ot t).length=(z t).size
 len:(oc t).length<=32
 made:(z t).made=mk t
 mode:(z t).mode=(d0 W t).1
 oct:ot t=(d0 W t).2
 links:(z t).links=cnt W t
structure Ts(τ:Tr)(W:Wo)(z:Nat->Z)(oc ot:Nat->List UInt8)(mk:Nat->Nat):Prop where
 CV:τ 1=some (ZR 1 [] xq)
 top:(z 1).parent=2
 d:∀t∈W.fl,LR τ W z mk t
 f:∀e∈W.el,e.2.2∉W.fl->JA τ W z oc ot mk e.2.2
def Ts.rp(T:Ts τ W z oc ot mk)(g:Gw W):Rp τ W z oc ot mk where
 inv:=⟨T.CV,λf es h=>by obtain⟨H,rfl⟩:=hZ h;exact⟨(T.d f H).dir,g.g.nm f H⟩,λf es e h m N=>by
  obtain⟨H,rfl⟩:=hZ h;have h:=T.f _ (aZ.1 m) λm=>by rw[kO m]at N;injection N
  exact⟨h.fy,h.pad,h.size,c0 h.len<|by decide⟩⟩
 made:=λt h=>by
  by_cases H:t∈W.fl;.exact(T.d t H).made
  .obtain⟨e,m,rfl⟩:=h.resolve_left H;exact(T.f e m H).made
 mode:=λt h=>by
  by_cases H:t∈W.fl;.exact(T.d t H).mode
  .obtain⟨e,m,rfl⟩:=h.resolve_left H;exact(T.f e m H).mode
 fy:=λt h H=>by obtain⟨e,m,rfl⟩:=h.resolve_left H;exact⟨(T.f e m H).oct,(T.f e m H).links⟩
 dir:=λt H=>⟨(T.d t H).oct,(T.d t H).links⟩
 par:=λe m H=>(T.d _ H).par e m rfl
 top:=T.top
def ia(h:∀e∈W.es t,(e.2∈W'.fl↔e.2∈W.fl)):(sE<|W.es t).map (dN W'.E)=(sE<|W.es t).map (dN W.E):=lF λe m=>by
 have h:=h e<|(aT _).subset m;unfold dN;by_cases H:e.2∈W.fl;.rw[kO H,kO<|h.2 H];rfl
 .rw[gp H,gp λm=>H<|h.1 m]
def LR.tr(T:LR τ W z mk t)(s:iq (ob t)=τ (ob t))(H:z' t=z t)(y:W'.es t=W.es t)(x:∀e∈W.es t,(e.2∈W'.fl↔e.2∈W.fl))(u:d0 W' t=d0 W t)(i:∀e∈W'.el,e.2.2=t->e∈W.el):LR iq W' z' mk t where
 dir:=by rw[H,y,ia x];exact⟨s.trans T.dir.is,T.dir.ok,T.dir.sort,T.dir.rows,T.dir.cv⟩
 made:=by rw[H];exact T.made
 mode:=by rw[H,u];exact T.mode
 oct:=by rw[u];exact T.oct
 links:=by rw[H,T.links,subs,subs,y];exact cg (λl=>2+List.length l) (I0 λe m=>nX.2 (x e m).symm)
 par:=λe m h=>by rw[H];exact T.par e (i e m h) h
def JA.tr(T:JA τ W z oc ot mk t)(u:iq (ob t)=τ (ob t))(H:z' t=z t)(y:nx t=oc t)(x:kM t=ot t)(m:d0 W' t=d0 W t)(i:cnt W' t=cnt W t):JA iq W' z' nx kM mk t where
 fy:=by rw[H,y];exact⟨u.trans T.fy.is,T.fy.ok,T.fy.sort,T.fy.cv⟩
 pad:=by rw[y,x];exact T.pad
 size:=by rw[H,x];exact T.size
 len:=by rw[y];exact T.len
 made:=by rw[H];exact T.made
 mode:=by rw[H,m];exact T.mode
 oct:=by rw[x,m];exact T.oct
 links:=by rw[H,i];exact T.links
def FZ(h:xx es)(L:es.length<=12){E:Gr}:Rk (es.map<|dN E):=by
 refine⟨λr m=>?_,?_⟩
 .refine bL m λe O=>?_;have H:=h.nm e O;refine⟨H.1.tx,hS rfl,?_⟩;show ob e.2*4+(if _ then 1 else 0)<256^8;have:ob e.2<=e.2+2:=by unfold ob;split<;>(first|exact Ja [_] [] ⟨0,.n 2,.a (.v 0)<|.n 2⟩ 1 [] rfl|exact Ja [_] [] ⟨0,.a (.v 0)<|.n 2,.a (.v 0)<|.n 2⟩ 1 [] rfl)
  split<;>(first|exact Ja [_,_] [⟨1,.v 0,.n 900⟩,⟨0,.v 1,.a (.v 0)<|.n 2⟩] ⟨1,.a (.r (.v 1) 4)<|.n 1,.n 18446744073709551616⟩ 1 [4,4] rfl H.2.2 this|exact Ja [_,_] [⟨1,.v 0,.n 900⟩,⟨0,.v 1,.a (.v 0)<|.n 2⟩] ⟨1,.a (.r (.v 1) 4)<|.n 0,.n 18446744073709551616⟩ 1 [4,4] rfl H.2.2 this)
 .have:∀l:List<|Nat×Nat,((l.map<|dN E).map λr=>r.1.length+9).sum=10*l.length:=λl=>by
   induction l with|nil=>rfl|cons a t i=>rw[ik,ik,List.sum_cons,i,mc];show 1+9+_=_;exact i3 (Ja [_] [] ⟨0,.a (.a (.n 1)<|.n 9)<|.m 10<|.v 0,.m 10<|.a (.v 0)<|.n 1⟩ 1 [] rfl)<|Ja [_] [] ⟨0,.m 10<|.a (.v 0)<|.n 1,.a (.a (.n 1)<|.n 9)<|.m 10<|.v 0⟩ 1 [] rfl
  rw[mL,this];exact Ja [_] [⟨0,.v 0,.n 12⟩] ⟨0,.a (.n 7)<|.m 10<|.v 0,.n 128⟩ 1 [10] rfl L
def Ir(h:xx es){E:Gr}(m:e∈es):dw (es.map<|dN E) [e.1]=some (dN E e).2:=by
 obtain⟨q,r,rfl⟩:=List.append_of_mem m;rw[dw,e7,List.find?_append,List.find?_eq_none.2 λx Y=>?_,ik,List.find?_cons_of_pos (p:=λr:Rw=>decide (r.1=[e.1]))<|eb<|show(dN E e).1=[e.1]from rfl];.rfl
 .refine bL Y λy M=>?_;intro k;have k:=dk k;exact(qn.1 h.nd).2.2 y M e (.head _) (ig k).1
def xM{es:List (Nat×Nat)}{E:Gr}(h:∀e∈es,e.1≠c):dw (es.map<|dN E) [c]=none:=by
 rw[dw,List.find?_eq_none.2 λx Y=>?_];.rfl
 .refine bL Y λy M=>?_;intro k;exact h y M (ig<|dk k).1
def LS(E:Gr)(e:Nat×Nat):(dN E e).2/4=ob e.2/\(dN E e).2%4=if(E e.2).isSome then 1 else 0:=by show(ob e.2*4+(if _ then 1 else 0))/4=_/\(ob e.2*4+(if _ then 1 else 0))%4=_;split<;>exact(Nat.div_mod_unique<|by decide).2 ⟨by rw[Nat.mul_comm,Nat.add_comm],by decide⟩
def LU{E:Gr}(h:xx<|es++[e]):sR ((sE es).map (dN E)++[dN E e])=(sE<|es++[e]).map (dN E):=by
 have p:(sE es++[e]).Perm (es++[e]):=(aT es).append_right _;have y:(sE es).map (dN E)++[dN E e]=(sE es++[e]).map (dN E):=by rw[e7];rfl
 rw[y,Jq<|h.perm p.symm];exact cg _<|jD ((Fw h.nd).sub λx m=>p.subset m) p
def LV{E:Gr}(h:xx es):l8 ((sE es).map<|dN E) c=(sE<|es.filter λe=>! decide (e.1=c)).map (dN E):=by rw[l8,List.filter_map];have T:=Fw h.nd;have y:((λr:Rw=>! decide (r.1=[c]))∘dN E)=λe:Nat×Nat=>! decide (e.1=c):=funext λe=>cg (!·)<|nX.2 ⟨λh=>(ig h).1,λh=>cg (λc=>[c]) h⟩;rw[y];refine cg _ ?_;have s:((sE es).filter λe=>! decide (e.1=c)).Pairwise λa b=>V.lt (.str [b.1]) (.str [a.1])=false:=(fX T λu m=>m).sublist rl;exact(AZ (T.sub λx m=>(aT es).subset (gS.1 m).1) s).symm.trans<|jD (T.sub λx m=>(aT es).subset (gS.1 m).1)<|(aT es).filter _
end
section
variable{W W':Wo}{ord:List Nat}{f c t now:Nat}{τ iq:Tr}{z z':Nat->Z}{oc ot nx kM:Nat->List UInt8}{mk:Nat->Nat}
noncomputable def mz{α:Type}(g:Nat->α)(t:Nat)(v:α):Nat->α:=λx=>if x=t then v else g x
def ah:mz g t v t=v:=er rfl
def aH(h:x≠t):mz g t v x=g x:=ej h
def bk(H:1<=a)(y:1<=b)(h:a≠b):ob a≠ob b:=λe=>h<|by rw[<-mh H,<-mh y,e]
def kP(a:Nat):ob a<=a+2:=by unfold ob;split<;>(first|exact Ja [_] [] ⟨0,.n 2,.a (.v 0)<|.n 2⟩ 1 [] rfl|exact Ja [_] [] ⟨0,.a (.v 0)<|.n 2,.a (.v 0)<|.n 2⟩ 1 [] rfl)
def gq:(((el++[(f,c,t)]).filter λe=>decide (e.1=x)).map (·.2))=(el.filter λe=>decide (e.1=x)).map (·.2)++if f=x then[(c,t)]else[]:=by
 rw[List.filter_append,e7];refine cg (_++·) ?_;by_cases h:f=x;.rw[er h,rZ (p:=λe:Nat×Nat×Nat=>decide (e.1=x))<|eb h];rfl
 .rw[ej h,nq (p:=λe:Nat×Nat×Nat=>decide (e.1=x))<|by simpa using h];rfl
def dA(x:Nat):(W.del f c).es x=if x=f then(W.es x).filter λe=>!decide (e.1=c)else W.es x:=by
 unfold Wo.es Wo.del;rw[List.filter_filter,List.filter_map,List.filter_filter];by_cases h:x=f
 .subst h;rw[er rfl];refine cg _<|I0 λe y=>?_;show(decide (e.1=x)&&!decide (e.1=x/\e.2.1=c))=(!decide (e.2.1=c)&&decide (e.1=x));by_cases H:e.1=x<;>by_cases u:e.2.1=c<;>simp[H,u]
 .rw[ej h];refine cg _<|I0 λe y=>?_;by_cases H:e.1=x;.rw[eb H,fo λs=>h<|H.symm.trans s.1];rfl
  .rw[fo H];rfl
def oL(x:Nat):((el++[(f,c,t)]).filter λe=>decide (e.2.2=x)).length=(el.filter λe=>decide (e.2.2=x)).length+if t=x then 1 else 0:=by
 rw[List.filter_append,b9];refine cg (_+·) ?_;by_cases h:t=x;.rw[er h,rZ (p:=λe:Nat×Nat×Nat=>decide (e.2.2=x))<|eb h];rfl
 .rw[ej h,nq (p:=λe:Nat×Nat×Nat=>decide (e.2.2=x))<|by simpa using h];rfl
def uN(g:Gw W)(O:(f,c,t)∈W.el)(x:Nat):cnt W x=cnt (W.del f c) x+if t=x then 1 else 0:=by
 have u:∀el:List<|Nat×Nat×Nat,el.Pairwise (λa b=>¬(a.1=b.1/\a.2.1=b.2.1))->(f,c,t)∈el->(el.filter λe=>decide (e.2.2=x)).length=((el.filter λe=>! decide (e.1=f/\e.2.1=c)).filter λe=>decide (e.2.2=x)).length+if t=x then 1 else 0:=λel=>by
  induction el with
  |nil=>intro _ m;cases m|cons a r i=>
   intro p m;have p:=rj.1 p;by_cases h:a.1=f/\a.2.1=c
   .have A:a=(f,c,t):=by
     cases m with|head=>rfl|tail _ m=>exact absurd h<|p.1 _ m
    subst A
    have y:(r.filter λe=>! decide (e.1=f/\e.2.1=c))=r:=sl.2 λe m=>by rw[fo λh=>p.1 e m ⟨h.1.symm,h.2.symm⟩];rfl
    rw[nq (p:=λe:Nat×Nat×Nat=>! decide (e.1=f/\e.2.1=c))<|by simp,y,yv];by_cases k:t=x;.rw[er<|eb k,er k];rfl
    .rw[ej<|by simpa using k,ej k];rfl
   .have m:(f,c,t)∈r:=by
     cases m with|head=>exact absurd ⟨rfl,rfl⟩ h|tail _ m=>exact m
    have i:=i p.2 m;rw[rZ (p:=λe:Nat×Nat×Nat=>! decide (e.1=f/\e.2.1=c))<|by rw[fo h];rfl,yv,yv];by_cases k:a.2.2=x;.rw[er<|eb k,er<|eb k,mc,mc,i];exact i3 (Ja [_,_] [] ⟨0,.a (.a (.v 0)<|.v 1)<|.n 1,.a (.a (.v 0)<|.n 1)<|.v 1⟩ 1 [] rfl)<|Ja [_,_] [] ⟨0,.a (.a (.v 0)<|.n 1)<|.v 1,.a (.a (.v 0)<|.v 1)<|.n 1⟩ 1 [] rfl
    .rw[ej<|by simpa using k,ej<|by simpa using k,i]
 exact u W.el g.nm O
def AM(x:Nat)(g:Gw W):(W.es x).length<=12:=c0 (ju W x) g.cv
def LR.up{nl:Nat}(T:LR τ W z mk f)(G:Gw W')(u:f∈W'.fl)(s:iq (ob f)=some (ZR (ob f) (zB<|iO (z f) nl none now)<|(sE<|W'.es f).map<|dN W'.E))(H:z' f=iO (z f) nl none now)(y:nl=2+subs W' f)
 (x:d0 W' f=d0 W f) (i:∀e∈W'.el,e.2.2=f->e∈W.el) (p:now<1000):LR iq W' z' mk f:=by
 have l:=AM f G;have N:=G.g.nm f u;have k:subs W' f<=(W'.es f).length:=fe _ _;refine⟨⟨by rw[H];exact s,?_,?_,FZ N.sE ?_,T.dir.cv⟩,?_,?_,?_,?_,?_⟩;.rw[H];exact T.dir.ok.ch (Ja [_,_,_] [⟨2,.v 0,.a (.n 2)<|.v 1⟩,⟨0,.v 2,.n 12⟩,⟨0,.v 1,.v 2⟩] ⟨1,.v 0,.n 65536⟩ 1 [1,1,1] rfl y l k) p
 .rw[H];exact T.dir.sort
 .rw[(aT _).length_eq];exact l
 .rw[H];exact T.made
 .rw[H,x];exact T.mode
 .rw[x];exact T.oct
 .rw[H];exact y
 .intro e m h;rw[H];exact T.par e (i e m h) h
def kQ(G:Gw W')(H:f∈W'.fl)(h:W'.es f=W.es f++[(c,x)])(y:∀e∈W.es f,(e.2∈W'.fl↔e.2∈W.fl)):
 sR ((sE<|W.es f).map (dN W.E)++[([c],ob x*4+if(W'.E x).isSome then 1 else 0)])=(sE<|W'.es f).map (dN W'.E):=by
 rw[<-ia y,h];exact LU (e:=(c,x))<|h▸G.g.nm f H
def fS(g:Gw W)(H:f∈W.fl)(h:W'.es f=(W.es f).filter λe=>!decide (e.1=c))(x:∀e∈W.es f,e.1≠c->(e.2∈W'.fl↔e.2∈W.fl)):
 l8 ((sE<|W.es f).map<|dN W.E) c=(sE<|W'.es f).map (dN W'.E):=by
 rw[LV<|g.g.nm f H,h];refine lF λe m=>?_;have m:=gS.1<|(aT _).subset m;have m2:=m.2;rw[tc,ly]at m2;have h:=x e m.1 m2;unfold dN;by_cases H:e.2∈W.fl;.rw[kO H,kO<|h.2 H];rfl
 .rw[gp H,gp λm=>H<|h.1 m]
def Cr(x:Nat):(W.E x).isSome=decide (x∈W.fl):=by
 by_cases h:x∈W.fl;.rw[kO h,eb h];rfl
 .rw[gp h,fo h];rfl
def kR(h:W'.es f=W.es f++[(c,x)])(H:∀e∈W.es f,(e.2∈W'.fl↔e.2∈W.fl)):subs W' f=subs W f+if(W'.E x).isSome then 1 else 0:=by
 rw[subs,h,List.filter_append,b9,Cr];refine congr (cg _<|cg _<|I0 λe m=>nX.2<|H e m) ?_;by_cases k:x∈W'.fl;.rw[rZ (p:=λe:Nat×Nat=>decide (e.2∈W'.fl))<|eb k,er<|eb k];rfl
 .rw[nq (p:=λe:Nat×Nat=>decide (e.2∈W'.fl))<|by simpa using k,ej<|by simpa using k];rfl
structure Gs(W:Wo):Prop where
 le:∀s∈W.st,1<=s.1/\s.1<=W.last
 all:∀t,1<=t->t<=W.last->∃s∈W.st,s.1=t
 len:W.st.length<=W.last
 oct:∀s∈W.st,s.2.2.length<=2
def Gs.so(s:Gs W)(t:Nat):(d0 W t).2.length<=2:=by
 unfold d0
 cases h:W.st.find? λs=>decide (s.1=t)with|none=>exact js _|some x=>exact s.oct x<|List.mem_of_find?_eq_some h
def uO(s:Gs W)(x:Nat):d0 (W.new b f c) x=if x=W.last+1 then(5,[])else d0 W x:=by
 have e:(W.new b f c).st=W.st++[(W.last+1,5,[])]:=rfl;rw[d0,d0,e,List.find?_append];by_cases h:x=W.last+1
 .subst h;rw[er rfl,List.find?_eq_none.2 λy m=>by have:=(s.le y m).2;simp;exact Ja [_,_] [⟨0,.v 0,.v 1⟩] ⟨6,.v 0,.a (.v 1)<|.n 1⟩ 1 [1] rfl this];simp
 .rw[ej h,List.find?_cons_of_neg<|by simpa using Dq h];simp
theorem Gs.new(s:Gs W):Gs (W.new b f c):=by
 refine⟨λx m=>?_,λt y H=>?_,by
  show(W.st++[_]).length<=W.last+1;rw[b9];exact ka s.len,λx m=>by
  rcases eu.1 m with m|m;.exact s.oct x m
  .obtain rfl:=dt.1 m;exact js _⟩
 .show 1<=x.1/\x.1<=W.last+1;rcases eu.1 m with m|m;.have:=s.le x m;exact⟨Ja [_] [⟨0,.n 1,.v 0⟩] ⟨0,.n 1,.v 0⟩ 1 [1] rfl this.1,Ja [_,_] [⟨0,.v 0,.v 1⟩] ⟨0,.v 0,.a (.v 1)<|.n 1⟩ 1 [1] rfl this.2⟩
  .obtain rfl:=dt.1 m;exact⟨ka<|js _,i1 _⟩
 .by_cases h:t=W.last+1;.exact⟨_,ec _<|.head _,h.symm⟩
  .have H:t<=W.last+1:=H;obtain⟨x,m,h⟩:=s.all t y<|Ja [_,_] [⟨1,.v 0,.a (.v 1)<|.n 1⟩] ⟨0,.v 0,.v 1⟩ 1 [1] rfl (Nat.lt_of_le_of_ne (Ja [_,_] [⟨0,.v 0,.a (.v 1)<|.n 1⟩] ⟨0,.v 0,.a (.v 1)<|.n 1⟩ 1 [1] rfl H) h);exact⟨x,dy _ m,h⟩
def bW(g:Gw W)(m:e∈W.el):1<=e.2.2:=HZ (g.el e m).2.2.1
theorem Ts.new(T:Ts τ W z oc ot mk)(g:Gw W)(s:Gs W)(H:f∈W.fl)(G:Gw<|W.new b f c)(M:mk (W.last+1)=now)(u:now<1000):
 ∃z' nx kM,Ts ((τ.set (ob<|W.last+1)<|some<|if b then ZR (ob<|W.last+1) (zB ⟨1,5,0,2,ob f,now,now⟩) []else⟨32,zB ⟨0,5,0,1,ob f,now,now⟩,[]⟩).set (ob f)
  (some<|ZR (ob f) (zB<|iO (z f) ((z f).links+if b then 1 else 0) none now)<|sR<|(sE<|W.es f).map (dN W.E)++[([c],ob (W.last+1)*4+if b then 1 else 0)])) (W.new b f c) z' nx kM mk:=by
 have p:=g.pos f H;have l:1<=W.last+1:=(Ja [_] [] ⟨0,.n 1,.a (.v 0)<|.n 1⟩ 1 [] rfl);have j:W.last+1≠f:=(Ja [_,_] [⟨0,.v 0,.v 1⟩] ⟨7,.a (.v 1)<|.n 1,.v 0⟩ 1 [1] rfl p.2)
 have i:∀x∈(W.new b f c).fl,x∈W.fl\/(x=W.last+1/\b=true):=λx m=>by
  obtain⟨⟩:=b;.exact .inl m
  .exact(eu.1 m).imp id λh=>⟨dt.1 h,rfl⟩
 have sub:∀x∈W.fl,x∈(W.new b f c).fl:=λx m=>by
  obtain⟨⟩:=b;.exact m
  .exact dy _ m
 have L:∀x,x≠W.last+1->(x∈(W.new b f c).fl↔x∈W.fl):=λx h=>⟨λm=>(i x m).resolve_right λh'=>h h'.1,sub x⟩;have ch:∀y,∀e∈W.es y,(e.2∈(W.new b f c).fl↔e.2∈W.fl):=λy e m=>L _ (by have:=(g.el _<|aZ.1 m).2.2.2;have h:e.2<=W.last:=this;exact Ja [_,_] [⟨0,.v 0,.v 1⟩] ⟨6,.v 0,.a (.v 1)<|.n 1⟩ 1 [1] rfl this);have es:∀x,(W.new b f c).es x=W.es x++if f=x then[(c,W.last+1)]else[]:=λx=>gq;have a:(W.new b f c).es f=W.es f++[(c,W.last+1)]:=by rw[es,er rfl]
 have Y:((W.new b f c).E<|W.last+1).isSome=b:=by
  rw[Cr];have no:W.last+1∉W.fl:=λm=>by have:=(g.pos _ m).2;exact wQ 0<|Ja [_] [⟨0,.a (.v 0)<|.n 1,.v 0⟩] ⟨0,.n 1,.n 0⟩ 1 [1] rfl this
  obtain⟨⟩:=b;.exact fo no
  .exact eb<|ec _<|.head _
 have D:∀x,x≠W.last+1->∀e∈(W.new b f c).el,e.2.2=x->e∈W.el:=λx k e m h=>by
  rcases eu.1 m with m|m;.exact m
  .clear T g s H G M u Y a es ch L sub i j l p;obtain rfl:=dt.1 m;exact absurd (show W.last+1=x from h).symm k
 have U:d0 (W.new b f c) (W.last+1)=(5,[]):=(uO s _).trans<|er rfl
 have O:∀x,1<=x->x≠W.last+1->x≠f->((τ.set (ob<|W.last+1)<|some<|if b then ZR (ob<|W.last+1) (zB ⟨1,5,0,2,ob f,now,now⟩) []else⟨32,zB ⟨0,5,0,1,ob f,now,now⟩,[]⟩).set (ob f)
  (some<|ZR (ob f) (zB<|iO (z f) ((z f).links+if b then 1 else 0) none now)<|sR<|(sE<|W.es f).map (dN W.E)++[([c],ob (W.last+1)*4+if b then 1 else 0)])) (ob x)=τ (ob x):=λx h1 h2 h3=>by
  rw[az<|bk h1 p.1 h3,az<|bk h1 l h2]
 refine⟨mz (mz z f<|iO (z f) ((z f).links+if b then 1 else 0) none now) (W.last+1)<|if b then⟨1,5,0,2,ob f,now,now⟩else⟨0,5,0,1,ob f,now,now⟩,mz oc (W.last+1) [],mz ot (W.last+1) [],?_,?_,λx k=>?_,λe m k=>?_⟩;.rw[az<|by unfold ob;split<;>(first|exact Ja [] [] ⟨6,.n 1,.n 2⟩ 1 [] rfl|exact Ja [_] [] ⟨6,.n 1,.a (.v 0)<|.n 2⟩ 1 [] rfl),az<|by unfold ob;split<;>(first|exact Ja [] [] ⟨6,.n 1,.n 2⟩ 1 [] rfl|exact Ja [_] [] ⟨6,.n 1,.a (.a (.v 0)<|.n 1)<|.n 2⟩ 1 [] rfl)];exact T.CV
 .rw[aH<|(show 1≠W.last+1 from Ja [_,_] [⟨0,.n 1,.v 0⟩,⟨0,.v 0,.v 1⟩] ⟨6,.n 1,.a (.v 1)<|.n 1⟩ 1 [1,1] rfl p.1 p.2)];by_cases h:1=f;.clear p j i sub L ch es a Y D U O G H;clear g s M u l;subst h;rw[ah];exact T.top
  .rw[aH h];exact T.top
 .by_cases N:x=W.last+1
  .rw[N]at k⊢;clear T s H G N
   have A:b=true:=by
    rcases i _ k with h|h;.exact absurd (g.pos _ h).2<|Nat.not_succ_le_self _
    .exact h.2
   clear i sub L ch Y D O a;subst A
   have J:(W.new true f c).es (W.last+1)=[]:=by rw[es,ej<|Dq j,hE];refine List.eq_nil_iff_forall_not_mem.2 λe m=>?_;have:=(g.pos _ (g.el _<|aZ.1 m).1).2;have h:W.last+1<=W.last:=this;exact wQ 0<|Ja [_] [⟨0,.a (.v 0)<|.n 1,.v 0⟩] ⟨0,.n 1,.n 0⟩ 1 [1] rfl h
   refine⟨⟨?_,?_,?_,?_,?_⟩,?_,?_,?_,?_,λe m h=>?_⟩;.rw[ah,J,az<|bk l p.1 j,aA];rfl
   .rw[ah];have Q:=kP f;exact iW.new (by decide) (by decide) (by decide) (by have:=g.last;exact Ja [_,_,_] [⟨0,.v 0,.v 1⟩,⟨0,.v 2,.a (.v 0)<|.n 2⟩,⟨0,.v 1,.n 13⟩] ⟨1,.v 2,.n 1000⟩ 1 [1,1,1] rfl p.2 Q this) u
   .rw[ah];rfl
   .rw[J];exact zu
   .have Q:=kP<|W.last+1;have:=g.last;exact Ja [_,_] [⟨0,.v 0,.a (.a (.v 1)<|.n 1)<|.n 2⟩,⟨0,.v 1,.n 13⟩] ⟨1,.v 0,.n 1000⟩ 1 [1,1] rfl Q this
   .rw[ah];exact M.symm
   .rw[ah,U];rfl
   .rw[U]
   .rw[ah,subs,J];rfl
   .rw[ah];rcases eu.1 m with m|m;.exact absurd (h▸(g.el e m).2.2.2)<|Nat.not_succ_le_self _
    .clear g M u J U es h j l p;obtain rfl:=dt.1 m;rfl
  .have Tl:=(L x N).1 k;have px:=(g.pos x Tl).1;by_cases I:x=f
   .rw[I]at k N⊢;refine(T.d f H).up (now:=now) (nl:=(z f).links+if b then 1 else 0) G k ?_ (by rw[aH N,ah]) ?_ (by rw[uO s,ej N]) (D f N) u
    .have:=kQ G k a<|ch f;rw[Y]at this;rw[aA,this]
    .have:=kR a<|ch f;rw[Y]at this;rw[this,(T.d f H).links,Nat.add_assoc]
   .exact(T.d x Tl).tr (O x px N I) (by rw[aH N,aH I]) (by rw[es,ej<|Dq I,hE]) (ch x) (by rw[uO s,ej N])<|D x N
 .by_cases N:e.2.2=W.last+1
  .have em:e=(f,c,W.last+1):=by
    rcases eu.1 m with m|m;.exact absurd (N▸(g.el e m).2.2.2)<|Nat.not_succ_le_self _
    .exact dt.1 m
   clear T s H G N O D Y a es ch L sub i;subst em
   have A:b=false:=by
    cases b;.rfl
    .exact absurd (ec _<|.head _) k
   subst A
   have Vx:(W.el.filter λe=>decide (e.2.2=W.last+1)).length=0:=by rw[List.filter_eq_nil_iff.2 λe m h=>by have Q:=(g.el e m).2.2.2;have:=dk h;exact wQ 0<|Ja [_,_] [⟨0,.v 0,.v 1⟩,⟨3,.v 0,.a (.v 1)<|.n 1⟩] ⟨0,.n 1,.n 0⟩ 1 [1,1] rfl Q this];rfl
   refine⟨⟨?_,?_,?_,?_⟩,?_,?_,?_,?_,?_,?_,?_⟩;.rw[ah,ah,az<|bk l p.1 j,aA];rfl
   .rw[ah];have Q:=kP f;exact iW.new (by decide) (by decide) (by decide) (by have:=g.last;exact Ja [_,_,_] [⟨0,.v 0,.v 1⟩,⟨0,.v 2,.a (.v 0)<|.n 2⟩,⟨0,.v 1,.n 13⟩] ⟨1,.v 2,.n 1000⟩ 1 [1,1,1] rfl p.2 Q this) u
   .rw[ah];rfl
   .have Q:=kP<|W.last+1;have:=g.last;show ob (W.last+1)<1000;exact Ja [_,_] [⟨0,.v 0,.a (.a (.v 1)<|.n 1)<|.n 2⟩,⟨0,.v 1,.n 13⟩] ⟨1,.v 0,.n 1000⟩ 1 [1,1] rfl Q this
   .exact⟨0,by rw[ah,ah];rfl⟩
   .rw[ah,ah];rfl
   .rw[ah];exact js _
   .rw[ah];exact M.symm
   .rw[ah,U];rfl
   .rw[ah,U]
   .rw[ah];show 1=cnt _ (W.last+1);refine Eq.trans ?_ (oL<|W.last+1).symm;rw[Vx,er rfl]
  .have mW:=D _ N e m rfl;have Tm:e.2.2∉W.fl:=λh=>k<|sub _ h;have ne:e.2.2≠f:=λh=>Tm<|h▸H;refine(T.f e mW Tm).tr (O _ (bW g mW) N ne) (by rw[aH N,aH ne]) (aH N) (aH N) (by rw[uO s,ej N]) ?_;refine(oL e.2.2).trans ?_;rw[ej<|Dq N];rfl
end
section
variable{W W':Wo}{ord:List Nat}{f c t now:Nat}{τ iq:Tr}{z z':Nat->Z}{oc ot nx kM:Nat->List UInt8}{mk:Nat->Nat}
def eI(x:Nat):1≠ob x:=by unfold ob;split<;>(first|exact Ja [] [] ⟨6,.n 1,.n 2⟩ 1 [] rfl|exact Ja [_] [] ⟨6,.n 1,.a (.v 0)<|.n 2⟩ 1 [] rfl)
def mC(T:Ts τ W z oc ot mk)(h:x=1->v.parent=(z 1).parent):(mz z x v 1).parent=2:=by
 by_cases e:1=x;.subst e;rw[ah,h rfl];exact T.top
 .rw[aH e];exact T.top
def Ts.RE(T:Ts τ W z oc ot mk)(g:Gw W)(O:(f,c,t)∈W.el)(N:t∉W.fl)(i:now<1000):
 ∃z' nx kM,Ts ((τ.set (ob f)<|some<|ZR (ob f) (zB<|chg (z f) now)<|l8 ((sE<|W.es f).map<|dN W.E) c).set (ob t)<|if 1<(z t).links then some ⟨32,zB<|iO (z t) ((z t).links-1) none now,oc t⟩else none) (W.del f c) z' nx kM mk:=by
 have H:=(g.el _ O).1;have b:=(g.pos f H).1;have pt:1<=t:=bW g O;have ne:f≠t:=λe=>N<|e▸H;have G:=g.del O N;have y:JA τ W z oc ot mk t:=T.f _ O N;have a:=(dA (W:=W) (f:=f) (c:=c) f).trans<|er rfl;refine⟨mz (mz z f<|chg (z f) now) t<|iO (z t) ((z t).links-1) none now,oc,ot,?_,?_,λx k=>?_,λe m k=>?_⟩;.rw[az<|eI _,az<|eI _];exact T.CV
 .rw[aH (by have:=(g.el _ O).2.2.1;show 1≠t;have:2<=t:=this;exact Ja [_] [⟨0,.n 2,.v 0⟩] ⟨6,.n 1,.v 0⟩ 1 [1] rfl this)];exact mC T λe=>by subst e;rfl
 .have j:=(g.pos x k).1;have p:x≠t:=λe=>N<|e▸k;by_cases I:x=f
  .subst I;refine(T.d x H).up (now:=now) (nl:=(z x).links) G k ?_ (by rw[aH p,ah]) ?_ rfl (λe m u=>(aF.1 m).1) i;.rw[az<|bk j pt p,aA,fS g H a λu u u=>Gy]
   .rw[(T.d x H).links,subs,subs,a,List.filter_filter];refine cg (λl=>2+List.length l)<|I0 λe m=>?_;by_cases Y:e.1=c
    .have:e.2=t:=by
      by_cases U:(x,e.1,e.2)=(x,c,t);.exact cg (·.2.2) U
      .exact absurd ⟨rfl,Y⟩<|uM g.nm (aZ.1 m) O U
     have J:decide (e.2∈W.fl)=false:=fo<|by rw[this];exact N
     show decide (e.2∈W.fl)=(decide (e.2∈W.fl)&&_);rw[J];rfl
    .rw[fo Y];exact(Bool.and_true _).symm
  .refine(T.d x k).tr ?_ (by rw[aH p,aH I]) ((dA x).trans<|ej I) (λu u=>Gy) rfl λe m u=>(aF.1 m).1;rw[az<|bk j pt p,az<|bk j b I]
 .have M:=(aF.1 m).1;have k:e.2.2∉W.fl:=k;have Q:e.2.2≠f:=λh=>k<|h▸H;have D:=uN g O e.2.2;by_cases s:e.2.2=t
  .rw[s];rw[s,er rfl]at D;have pos:1<=cnt (W.del f c) t:=List.length_pos_of_mem<|gS.2 ⟨m,eb s⟩;have L:=y.links;have lt:1<(z t).links:=by rw[L,D];exact Ja [_] [⟨0,.n 1,.v 0⟩] ⟨1,.n 1,.a (.v 0)<|.n 1⟩ 1 [1] rfl pos
   refine⟨⟨?_,?_,?_,y.fy.cv⟩,y.pad,?_,y.len,?_,?_,y.oct,?_⟩;.rw[ah,aA,er lt]
   .rw[ah];have:=y.fy.ok.links;exact y.fy.ok.ch (Ja [_,_] [⟨1,.v 0,.n 65536⟩,⟨0,.v 1,.v 0⟩] ⟨1,.v 1,.n 65536⟩ 1 [1,1] rfl this (vC ((z t).links)<|1)) i
   .rw[ah];exact y.fy.sort
   .rw[ah];exact y.size
   .rw[ah];exact y.made
   .rw[ah];exact y.mode
   .rw[ah];show(z t).links-1=_;rw[L,D];rfl
  .rw[ej<|Dq s]at D;refine(T.f e M k).tr ?_ (by rw[aH s,aH Q]) rfl rfl rfl D.symm;rw[az<|bk (bW g M) pt s,az<|bk (bW g M) b Q]
theorem Ts.out(T:Ts τ W z oc ot mk)(g:Gw W)(O:(f,c,t)∈W.el)(ht:t∈W.fl)(Y:∀e∈W.el,e.1≠t)(cH:now<1000):
 1<=(z f).links/\∃z' nx kM,Ts ((τ.set (ob f)<|some<|ZR (ob f) (zB<|iO (z f) ((z f).links-1) none now)<|l8 ((sE<|W.es f).map<|dN W.E) c).set (ob t) none) ((W.del f c).out t) z' nx kM mk:=by
 have H:=(g.el _ O).1;have U:=(g.pos f H).1;have pt:1<=t:=bW g O;have ne:f≠t:=Y _ O;have g':=g.out O ht Y;have es:∀x,((W.del f c).out t).es x=if x=f then(W.es x).filter λe=>!decide (e.1=c)else W.es x:=λx=>dA x;have u:∀e∈W.el,e.2.2=t->e=(f,c,t):=λe m h=>g.uq e m _ O h<|by rw[h];exact ht
 have L:=(T.d f H).links;refine⟨(Ja [_,_] [⟨3,.v 0,.a (.n 2)<|.v 1⟩] ⟨0,.n 1,.v 0⟩ 2 [1] rfl L),mz z f<|iO (z f) ((z f).links-1) none now,oc,ot,?_,mC T λe=>by subst e;rfl,λx k=>?_,λe m k=>?_⟩;.rw[az<|eI _,az<|eI _];exact T.CV
 .have Q:=cw.1 k;have N:x∈W.fl:=Q.1;have j:=(g.pos x N).1;by_cases I:x=f
  .clear Y N Q U;subst I
   have ch:∀e∈W.es x,e.1≠c->(e.2∈((W.del x c).out t).fl↔e.2∈W.fl):=λe m y=>by refine cw.trans ⟨λh=>h.1,λh=>⟨h,λJ=>y ?_⟩⟩;exact cg (·.2.1)<|u _ (aZ.1 m) J
   have G:=(es x).trans<|er rfl;refine(T.d x H).up (now:=now) (nl:=(z x).links-1) g' k ?_ ah ?_ rfl (λe m zz=>(aF.1 m).1) cH;.rw[az<|bk j pt ne,aA,fS g H G ch]
   .rw[L,subs,subs,G,List.filter_filter];have key:∀l:List<|Nat×Nat,(l.Pairwise λa b=>a.1≠b.1)->(c,t)∈l->(∀e∈l,e.1≠c->(e.2∈((W.del x c).out t).fl↔e.2∈W.fl))->
     (l.filter λe=>decide (e.2∈W.fl)).length=(l.filter λe=>decide (e.2∈((W.del x c).out t).fl)&&!decide (e.1=c)).length+1:=λl=>by
     induction l with
     |nil=>intro _ m;cases m|cons a r i=>
      intro p m D;have p:=rj.1 p;by_cases A:a.1=c
      .have ea:a=(c,t):=by
        cases m with|head=>rfl|tail _ m=>exact absurd A<|p.1 _ m
       clear T g O cH A G ch j L u es g' ne pt H;subst ea;rw[rZ (p:=λe:Nat×Nat=>decide (e.2∈W.fl))<|eb ht,nq<|by simp];refine cg (·+1)<|cg List.length<|I0 λe m=>?_;have y:e.1≠c:=λh=>p.1 e m h.symm;rw[fo y];exact(nX.2 (D e (.tail _ m) y).symm).trans (Bool.and_true _).symm
      .have m:(c,t)∈r:=by
        cases m with|head=>exact absurd rfl A|tail _ m=>exact m
       have i:=i p.2 m λe m=>D e<|.tail _ m
       have e1:(decide (a.2∈((W.del x c).out t).fl)&&!decide (a.1=c))=decide (a.2∈W.fl):=by rw[fo A];exact(Bool.and_true _).trans<|nX.2<|D a (.head _) A
       rw[yv,yv,e1];by_cases s:decide (a.2∈W.fl)=true;.rw[er s,er s,mc,mc,i]
       .rw[ej s,ej s,i]
    rw[key _ (g.g.nm x H).nd (aZ.2 O) ch];rfl
  .refine(T.d x N).tr ?_ (aH I) ((es x).trans<|ej I) (λe m=>cw.trans ⟨λh=>h.1,λh=>⟨h,λJ=>I ?_⟩⟩) rfl λe m zz=>(aF.1 m).1;.rw[az<|bk j pt Q.2,az<|bk j U I]
   .exact cg (·.1)<|u _ (aZ.1 m) J
 .have M:=aF.1 m;have het:e.2.2≠t:=λh=>M.2<|by rw[u e M.1 h];exact⟨rfl,rfl⟩
  have k:e.2.2∉W.fl:=λh=>k<|cw.2 ⟨h,het⟩;have ef:e.2.2≠f:=λh=>k<|h▸H;have cd:=uN g O e.2.2;rw[ej<|Dq het]at cd;refine(T.f e M.1 k).tr ?_ (aH ef) rfl rfl rfl cd.symm;rw[az<|bk (bW g M.1) pt het,az<|bk (bW g M.1) U ef]
theorem Ts.add(T:Ts τ W z oc ot mk)(g:Gw W)(u:f∈W.fl)(ht:Tg W t)(H:t∉W.fl)(G:Gw<|W.add f c t)(l:now<1000):
 ∃z' nx kM,Ts ((τ.set (ob t)<|some ⟨32,zB<|iO (z t) ((z t).links+1) none now,oc t⟩).set (ob f)<|some<|ZR (ob f) (zB<|chg (z f) now)<|sR<|(sE<|W.es f).map (dN W.E)++[([c],ob t*4+0)]) (W.add f c t) z' nx kM mk:=by
 obtain⟨L,m0,rfl⟩:=ht.resolve_left H;generalize j:L.2.2=t at*;have i:=(g.pos f u).1;have pt:1<=t:=j▸bW g m0;have J:2<=t:=j▸(g.el _ m0).2.2.1;have y:=j▸T.f _ m0 (j.symm▸H);have es:∀x,(W.add f c t).es x=W.es x++if f=x then[(c,t)]else[]:=λx=>gq;have Q:(W.add f c t).es f=W.es f++[(c,t)]:=by rw[es,er rfl]
 have Y:((W.add f c t).E t).isSome=false:=by rw[Cr];exact fo H
 have O:∀x∈W.fl,∀e∈(W.add f c t).el,e.2.2=x->e∈W.el:=λx k e m h=>by
  rcases eu.1 m with m|m;.exact m
  .clear T g u ht G l Y;obtain rfl:=dt.1 m;exact absurd ((show t=x from h)▸k) H
 refine⟨mz (mz z f<|chg (z f) now) t<|iO (z t) ((z t).links+1) none now,oc,ot,?_,?_,λx k=>?_,λe m k=>?_⟩;.rw[az<|eI _,az<|eI _];exact T.CV
 .rw[aH<|(show 1≠t from Ja [_] [⟨0,.n 2,.v 0⟩] ⟨6,.n 1,.v 0⟩ 1 [1] rfl J)];exact mC T λe=>by subst e;rfl
 .have k:x∈W.fl:=k;have b:=(g.pos x k).1;have a:x≠t:=λe=>H<|e▸k;by_cases I:x=f
  .clear g ht H b es;subst I;refine(T.d x u).up (now:=now) (nl:=(z x).links) G k ?_ (by rw[aH a,ah]) ?_ rfl (O x k) l
   .have:=kQ (W':=W.add x c t) G k Q λp p=>Gy;rw[Y]at this;rw[aA,<-this];rfl
   .have:=kR (W':=W.add x c t) Q λp p=>Gy;rw[Y]at this;rw[this,(T.d x u).links];rfl
  .refine(T.d x k).tr ?_ (by rw[aH a,aH I]) (by rw[es,ej<|Dq I,hE]) (λp p=>Gy) rfl (O x k);rw[az<|bk b i I,az<|bk b pt a]
 .have k:e.2.2∉W.fl:=k;have U:e.2.2≠f:=λh=>k<|h▸u;have N:t≠f:=λh=>H<|h▸u;have D:cnt (W.add f c t) e.2.2=cnt W e.2.2+if t=e.2.2 then 1 else 0:=oL e.2.2;by_cases s:e.2.2=t
  .rw[s];rw[s,er rfl]at D;refine⟨⟨?_,?_,?_,y.fy.cv⟩,y.pad,?_,y.len,?_,?_,y.oct,?_⟩;.rw[ah,az<|bk pt i N,aA]
   .rw[ah];refine y.fy.ok.ch ?_ l;rw[y.links];exact dS (ka<|c0 (fe _ _) g.cv)<|by decide
   .rw[ah];exact y.fy.sort
   .rw[ah];exact y.size
   .rw[ah];exact y.made
   .rw[ah];exact y.mode
   .rw[ah,D,<-y.links];rfl
  .rw[ej<|Dq s]at D
   have M:e∈W.el:=by
    rcases eu.1 m with m|m;.exact m
    .clear T g u ht H G l D N U;obtain rfl:=dt.1 m;exact absurd rfl s
   refine(T.f e M k).tr ?_ (by rw[aH s,aH U]) rfl rfl rfl D;rw[az<|bk (bW g M) i U,az<|bk (bW g M) pt s]
end
section
variable{W W':Wo}{ord:List Nat}{f c t f' c' now:Nat}{τ iq:Tr}{z z':Nat->Z}{oc ot nx kM:Nat->List UInt8}{mk mk':Nat->Nat}
def Ts.To(T:Ts τ W z oc ot mk)(g:Gw W)(h:∀t,1<=t->t<=W.last->mk t=mk' t):Ts τ W z oc ot mk':=
 ⟨T.CV,T.top,λt m=>have a:=T.d t m;⟨a.dir,a.made.trans<|h t (g.pos t m).1 (g.pos t m).2,a.mode,a.oct,a.links,a.par⟩,
   λe m n=>have a:=T.f e m n;⟨a.fy,a.pad,a.size,a.len,a.made.trans<|h _ (bW g m) (g.el e m).2.2.2,a.mode,a.oct,a.links⟩⟩
def F1(s:Gs W)(u:1<=t)(p:t<=W.last)(v:Nat×List UInt8)(x:Nat):d0 (W.put t v) x=if x=t then v else d0 W x:=by
 have b:(W.put t v).st=W.st.map λx=>if x.1=t then(x.1,v)else x:=rfl
 have e:∀l:List<|Nat×Nat×List UInt8,(x=t->∃s∈l,s.1=t)->(((l.map λx=>if x.1=t then(x.1,v)else x).find? λs=>decide (s.1=x)).map (·.2)).getD (0,[])=if x=t then v else((l.find? λs=>decide (s.1=x)).map (·.2)).getD (0,[]):=λl=>by
  induction l with
  |nil=>intro h;by_cases k:x=t;.obtain⟨_,m,_⟩:=h k;cases m
        .rw[ej k];rfl
  |cons a r i=>
   intro h;rw[ik,EW,EW];by_cases H:a.1=t
   .rw[er H];by_cases k:x=t;.rw[eb<|show a.1=x from H.trans k.symm,er k];rfl
    .have i:=i λh=>absurd h k;rw[ej k]at i⊢;rw[fo<|show ¬a.1=x fromλh=>k<|h.symm.trans H];exact i
   .rw[ej H];by_cases k:a.1=x;.rw[eb k,ej λh=>H<|k.trans h]
    .rw[fo k];refine i λj=>?_;obtain⟨s,m,y⟩:=h j
     cases m with|head=>exact absurd y H|tail _ m=>exact⟨s,m,y⟩
 exact e W.st λY=>s.all t u p
theorem Gs.put(s:Gs W)(v:Nat×List UInt8)(p:v.2.length<=2):Gs (W.put t v):=by
 refine⟨λx m=>?_,λx H u=>?_,by
  show(W.st.map _).length<=W.last;rw[a9];exact s.len,λx m=>by
  refine bL m λy l=>?_;split;.exact p
  .exact s.oct y l⟩
 .refine bL m λy l=>?_;have:=s.le y l;split<;>exact this
 .obtain⟨y,m,h⟩:=s.all x H u;refine⟨_,u1 m,?_⟩;split<;>exact h
def Ts.mode(T:Ts τ W z oc ot mk)(g:Gw W)(s:Gs W)(ht:Tg W t)(H:τ (ob t)=some r)(M:md<65536)(p:now<1000):
 ∃z' nx kM,Ts (τ.set (ob t)<|some ⟨r.blk,zB ⟨(z t).sort,md,(z t).size,(z t).links,(z t).parent,(z t).made,now⟩,r.oc⟩) (W.put t (md,(d0 W t).2)) z' nx kM mk:=by
 have pt:1<=t/\t<=W.last:=by
  rcases ht with h|⟨e,m,rfl⟩;.exact g.pos t h
  .exact⟨bW g m,(g.el e m).2.2.2⟩
 have so:=F1 s pt.1 pt.2 (md,(d0 W t).2);have u:∀{z:Z},iW z->iW ⟨z.sort,md,z.size,z.links,z.parent,z.made,now⟩:=λh=>⟨h.sort,M,h.size,h.links,h.parent,h.made,by show now<_;exact Ja [_] [⟨1,.v 0,.n 1000⟩] ⟨1,.v 0,.n 4294967296⟩ 1 [1] rfl p⟩;refine⟨mz z t ⟨(z t).sort,md,(z t).size,(z t).links,(z t).parent,(z t).made,now⟩,oc,ot,?_,mC T λe=>by subst e;rfl,λx k=>?_,λe m k=>?_⟩;.rw[az<|eI _];exact T.CV
 .have k:x∈W.fl:=k;by_cases h:x=t
  .clear g s ht M p pt;subst h;have a:=T.d x k;have y:=dR<|H.symm.trans a.dir.is;clear T H k;subst y;refine⟨⟨?_,?_,?_,a.dir.rows,a.dir.cv⟩,?_,?_,?_,?_,λe m h=>?_⟩;.rw[aA,ah];rfl
   .rw[ah];exact u a.dir.ok
   .rw[ah];exact a.dir.sort
   .rw[ah];exact a.made
   .rw[ah,so,er rfl]
   .rw[so,er rfl];exact a.oct
   .rw[ah];exact a.links
   .rw[ah];exact a.par e m h
  .exact(T.d x k).tr (az<|bk (g.pos x k).1 pt.1 h) (aH h) rfl (λl l=>Gy) ((so x).trans<|ej h) λe m l=>m
 .have k:e.2.2∉W.fl:=k;have m:e∈W.el:=m;by_cases h:e.2.2=t
  .have a:=T.f e m k;rw[h]at a⊢;have y:=dR<|H.symm.trans a.fy.is;clear T g s ht H M p h m k pt;subst y;refine⟨⟨?_,?_,?_,a.fy.cv⟩,a.pad,?_,a.len,?_,?_,?_,?_⟩;.rw[aA,ah]
   .rw[ah];exact u a.fy.ok
   .rw[ah];exact a.fy.sort
   .rw[ah];exact a.size
   .rw[ah];exact a.made
   .rw[ah,so,er rfl]
   .rw[so,er rfl];exact a.oct
   .rw[ah];exact a.links
  .exact(T.f e m k).tr (az<|bk (bW g m) pt.1 h) (aH h) rfl rfl ((so _).trans<|ej h) rfl
def F2(o:List UInt8)(i:Nat)(b:UInt8):List UInt8:=o.take i++zs (i-o.length)++[b]++o.drop (i+1)
def F3(a b:Nat):zs a++zs b=zs (a+b):=List.replicate_append_replicate
def OL(o:List UInt8)(k i:Nat)(b:UInt8):∃k',CT (o++zs k) i [b]=F2 o i b++zs k':=by
 have J:i-o.length<=k+(i-(o++zs k).length):=by rw[b9,zs,ra,<-Nat.sub_sub,Nat.add_comm];exact Ln.s1 _ _
 rw[CT,ee o,F3];generalize k+(i-(o++zs k).length)=K at J;refine⟨K-(i+1-o.length),?_⟩;rw[List.take_append,List.drop_append,F2,zs,List.take_replicate,List.drop_replicate,GX J];simp[zs]
def F4(o:List UInt8)(i:Nat)(b:UInt8):(F2 o i b).length=if o.length<i+1 then i+1 else o.length:=by
 rw[F2,b9,b9,b9,List.length_take,ye,zs,ra];show _+_+1+_=_;split
 .rename_i h;have h:=sN h;rw[Nat.min_eq_right h,Nat.add_sub_of_le h,Nat.sub_eq_zero_of_le<|lH h]
 .rename_i h;have h:=pg h;rw[GX<|HZ h,Nat.sub_eq_zero_of_le<|HZ h];exact Nat.add_sub_of_le h
def Vy{i B:Nat}(I:i<=1)(H:B<=32):min i (B+(i-B))+1+(B+(i-B)-(i+1))<=32:=by
 have H:B+(i-B)<=32:=by
  rcases Nat.le_total B i with h|h;.rw[Nat.add_sub_of_le h];exact c0 I<|by decide
  .rw[Nat.sub_eq_zero_of_le h];exact H
 generalize B+(i-B)=B at H;rcases Nat.lt_or_ge i B with h|h;.rw[GX<|rh h,Nat.add_sub_of_le h];exact H
 .rw[Nat.sub_eq_zero_of_le<|lH h];exact c0 (ka<|c0 (Nat.min_le_left _ _) I)<|by decide
def Ts.write(T:Ts τ W z oc ot mk)(g:Gw W)(s:Gs W)(ht:Tg W t)(N:t∉W.fl)(I:i<=1)(j:now<1000):
 ∃z' nx kM,Ts (τ.set (ob t)<|some ⟨32,zB<|iO (z t) (z t).links (some<|if(z t).size<i+[b].length then i+[b].length else(z t).size) now,pad 32<|CT (oc t) i [b]⟩) (W.put t ((d0 W t).1,F2 (d0 W t).2 i b)) z' nx kM mk:=by
 obtain⟨G,m0,u⟩:=ht.resolve_left N;have pt:1<=t/\t<=W.last:=u▸⟨bW g m0,(g.el G m0).2.2.2⟩;have a:JA τ W z oc ot mk t:=u▸T.f G m0 (u.symm▸N);have so:=F1 s pt.1 pt.2 ((d0 W t).1,F2 (d0 W t).2 i b);obtain⟨k,Y⟩:=a.pad;obtain⟨D,U⟩:=OL (ot t) k i b;have L:=F4 (ot t) i b;refine⟨mz z t<|iO (z t) (z t).links (some<|if(z t).size<i+[b].length then i+[b].length else(z t).size) now,mz oc t<|pad 32<|CT (oc t) i [b],mz ot t<|F2 (ot t) i b,?_,mC T λe=>by subst e;rfl,λx H=>?_,λe m H=>?_⟩;.rw[az<|eI _];exact T.CV
 .have H:x∈W.fl:=H;have h:x≠t:=λe=>N<|e▸H;exact(T.d x H).tr (az<|bk (g.pos x H).1 pt.1 h) (aH h) rfl (λp p=>Gy) ((so x).trans<|ej h) λe m p=>m
 .have H:e.2.2∉W.fl:=H;have m:e∈W.el:=m;by_cases h:e.2.2=t
  .rw[h];have Q:=a.size;have O:=a.len
   have l:(CT (oc t) i [b]).length<=32:=by rw[CT,b9,b9,List.length_take,ye,b9,zs,ra];exact Vy I O
   refine⟨⟨?_,?_,?_,a.fy.cv⟩,?_,?_,?_,?_,?_,?_,?_⟩;.rw[aA,ah,ah]
   .rw[ah];refine⟨a.fy.ok.sort,a.fy.ok.mode,?_,a.fy.ok.links,a.fy.ok.parent,a.fy.ok.made,by show now<_;exact Ja [_] [⟨1,.v 0,.n 1000⟩] ⟨1,.v 0,.n 4294967296⟩ 1 [1] rfl j⟩;have:=a.fy.ok.size;show(if(z t).size<i+1 then i+1 else(z t).size)<4294967296;split;.exact dS (ka I)<|by decide
    .exact this
   .rw[ah];exact a.fy.sort
   .rw[ah,ah,Y,U,pad,ee,F3];exact⟨_,rfl⟩
   .rw[ah,ah,L,Q];rfl
   .rw[ah,pad,b9,zs,ra];generalize(CT (oc t) i [b]).length=q at l;have M:(q+32-1)/32<=1:=(Ja [_,_,_,_] [⟨0,.v 0,.n 32⟩,⟨2,.a (.m 32<|.v 1)<|.v 2,.v 3⟩,⟨2,.a (.v 3)<|.n 1,.a (.v 0)<|.n 32⟩] ⟨0,.v 1,.n 1⟩ 32 [1,1,1] rfl l (xW (q+32-1) 32) (zy<|Ja [_] [] ⟨0,.n 1,.a (.v 0)<|.n 32⟩ 1 [] rfl));have J:(q+32-1)/32*32<=32:=(Ja [_] [⟨0,.v 0,.n 1⟩] ⟨0,.r (.v 0) 32,.n 32⟩ 1 [32] rfl M);exact Ja [_,_,_] [⟨0,.r (.v 0) 32,.n 32⟩,⟨2,.a (.v 1)<|.v 2,.r (.v 0) 32⟩] ⟨0,.a (.v 2)<|.v 1,.n 32⟩ 1 [1,1] rfl J (zy<|Ja [_,_,_,_] [⟨3,.a (.m 32<|.v 0)<|.v 1,.v 2⟩,⟨1,.v 1,.n 32⟩,⟨0,.a (.v 3)<|.n 32,.a (.v 2)<|.n 1⟩] ⟨0,.v 3,.r (.v 0) 32⟩ 1 [1,1,1] rfl (xW (q+32-1) 32) (Nat.mod_lt (q+32-1) (y:=32)<|by decide) (Ln.s1 (q+32)<|1))
   .rw[ah];exact a.made
   .rw[ah,so,er rfl];exact a.mode
   .rw[ah,so,er rfl,a.oct]
   .rw[ah];exact a.links
  .exact(T.f e m H).tr (az<|bk (bW g m) pt.1 h) (aH h) (aH h) (aH h) ((so _).trans<|ej h) rfl
end
section
variable{W W':Wo}{ord:List Nat}{f c t f' c' now:Nat}{τ iq:Tr}{z z':Nat->Z}{oc ot nx kM:Nat->List UInt8}{mk mk':Nat->Nat}
def F5{l:List (Nat×Nat)}(p:l.Pairwise λa b=>a.1≠b.1)(m:(c,t)∈l):l.Perm ((c,t)::l.filter λe=>!decide (e.1=c)):=by
 induction l with
 |nil=>cases m|cons a r i=>
  have p:=rj.1 p;by_cases H:a.1=c
  .have A:a=(c,t):=by
    cases m with|head=>rfl|tail _ m=>exact absurd H<|p.1 _ m
   subst A;rw[nq<|by simp,sl.2 λe m=>by rw[fo λh=>p.1 e m h.symm];rfl]
  .have m:(c,t)∈r:=by
    cases m with|head=>exact absurd rfl H|tail _ m=>exact m
   rw[rZ (p:=λe:Nat×Nat=>!decide (e.1=c))<|by rw[fo H];rfl];exact((i p.2 m).cons a).trans<|.swap _ _ _
def xN(g:Gw W)(H:f∈W.fl)(O:(f,c,t)∈W.el):subs W f=(((W.es f).filter λe=>! decide (e.1=c)).filter λe=>decide (e.2∈W.fl)).length+if(W.E t).isSome then 1 else 0:=by
 have p:=((F5 (g.g.nm f H).nd<|aZ.2 O).filter λe=>decide (e.2∈W.fl)).length_eq;rw[subs,p,yv,Cr];by_cases h:t∈W.fl;.rw[er<|eb h,er<|eb h];rfl
 .rw[ej<|by simpa using h,ej<|by simpa using h];rfl
def OM(g:Gw W){f:Nat}(H:f∈W.fl):ob f<4294967296:=dS (kP f)<|dS (He (c0 (g.pos f H).2 g.last) 2)<|by decide
def Ts.mv(T:Ts τ W z oc ot mk)(g:Gw W)(O:(f,c,t)∈W.el)(U:f'∈W.fl)(J:t≠f)(I:t≠f')(Q:Gw<|(W.del f c).add f' c' t)(cH:now<1000)(hr:τ (ob t)=some r)
 (i:iq (ob t)=some ⟨r.blk,zB<|Ox (z t) (ob f') now,r.oc⟩) (H:∀x,x≠ob t->x≠ob f->x≠ob f'->iq x=τ x)
 (h3:f=f'->iq (ob f)=some (ZR (ob f) (zB<|chg (z f) now)<|sR<|l8 ((sE<|W.es f).map<|dN W.E) c++[([c'],ob t*4+if(W.E t).isSome then 1 else 0)]))
 (N:f≠f'->iq (ob f)=some (ZR (ob f) (zB<|iO (z f) ((z f).links-if(W.E t).isSome then 1 else 0) none now)<|l8 ((sE<|W.es f).map<|dN W.E) c)/\
   iq (ob f')=some (ZR (ob f') (zB<|iO (z f') ((z f').links+if(W.E t).isSome then 1 else 0) none now)<|sR<|(sE<|W.es f').map (dN W.E)++[([c'],ob t*4+if(W.E t).isSome then 1 else 0)])):
 ∃z' nx kM,Ts iq ((W.del f c).add f' c' t) z' nx kM mk:=by
 have b:f∈W.fl:=(g.el _ O).1;have M:=(g.pos f b).1;have L:=(g.pos f' U).1;have pt:1<=t:=bW g O;have t2:2<=t:=(g.el _ O).2.2.1;have G:∀x,(W.del f c).es x=if x=f then(W.es x).filter λe=>! decide (e.1=c)else W.es x:=λx=>dA x;have es:∀x,((W.del f c).add f' c' t).es x=(W.del f c).es x++if f'=x then[(c',t)]else[]:=λx=>gq;have uq:∀e∈W.el,e.2.2=t->t∈W.fl->e=(f,c,t):=λe m h ht=>g.uq e m _ O h<|by rw[h];exact ht
 have D:∀x,x≠t->∀e∈((W.del f c).add f' c' t).el,e.2.2=x->e∈W.el:=λx k e m h=>by
  rcases eu.1 m with m|m;.exact(aF.1 m).1
  .obtain rfl:=dt.1 m;exact absurd (show t=x from h).symm k
 have PS:∀x,cnt ((W.del f c).add f' c' t) x=cnt W x:=λx=>by have i:=uN g O x;have H:cnt ((W.del f c).add f' c' t) x=cnt (W.del f c) x+if t=x then 1 else 0:=oL x;rw[H,i]
 have EE:∀x,(((W.del f c).add f' c' t).E x).isSome=(W.E x).isSome:=λx=>by rw[Cr,Cr];rfl
 have JC:=(T.d f b).links;have lkf':=(T.d f' U).links;have sc:=xN g b O;refine⟨mz (mz (mz z f<|iO (z f) (2+subs ((W.del f c).add f' c' t) f) none now) f'<|iO (z f') (2+subs ((W.del f c).add f' c' t) f') none now) t<|Ox (z t) (ob f') now,oc,ot,?_,?_,λx k=>?_,λe m k=>?_⟩;.rw[H 1 (eI _) (eI _)<|eI _];exact T.CV
 .rw[aH<|(show 1≠t from Ja [_] [⟨0,.n 2,.v 0⟩] ⟨6,.n 1,.v 0⟩ 1 [1] rfl t2)];by_cases Y:1=f';.clear i H h3 N hr uq PS O J I EE JC lkf' sc es G D t2 pt M L Q;subst Y;rw[ah];exact T.top
  .rw[aH Y];exact mC T λe=>by subst e;rfl
 .have k:x∈W.fl:=k;have j:=(g.pos x k).1;by_cases p:x=t
  .rw[p]at k⊢;have a:=T.d t k;have Y:=dR<|hr.symm.trans a.dir.is;subst Y;have s:((W.del f c).add f' c' t).es t=W.es t:=by rw[es,G,ej J,ej<|Dq I,hE]
   refine⟨⟨?_,?_,?_,?_,a.dir.cv⟩,?_,?_,a.oct,?_,λe m h=>?_⟩;.rw[i,ah,s,ia (W:=W) (W':=(W.del f c).add f' c' t) (t:=t) λy y=>Gy];rfl
   .rw[ah];have o:=a.dir.ok;exact⟨o.sort,o.mode,o.size,o.links,OM g U,o.made,by show now<_;exact Ja [_] [⟨1,.v 0,.n 1000⟩] ⟨1,.v 0,.n 4294967296⟩ 1 [1] rfl cH⟩
   .rw[ah];exact a.dir.sort
   .rw[s,ia (W:=W) (W':=(W.del f c).add f' c' t) (t:=t) λy y=>Gy];exact a.dir.rows
   .rw[ah];exact a.made
   .rw[ah];exact a.mode
   .rw[ah,subs,s];exact a.links
   .rw[ah];rcases eu.1 m with m|m
    .have m:=aF.1 m;have:=uq e m.1 h k;subst this;exact absurd ⟨rfl,rfl⟩ m.2
    .obtain rfl:=dt.1 m;rfl
  .by_cases u:x=f'
   .rw[u]at k p⊢;clear i H hr uq PS O J I t2 pt M L j u;refine(T.d f' k).up (now:=now) (nl:=2+subs ((W.del f c).add f' c' t) f') Q k ?_ (by rw[aH p,ah]) rfl rfl (D f' p) cH;by_cases e:f=f'
    .clear N lkf';subst e;have s:((W.del f c).add f c' t).es f=((W.es f).filter λe=>! decide (e.1=c))++[(c',t)]:=by rw[es,G,er rfl,er rfl]
     have ad:=kQ (W:=W.del f c) (W':=(W.del f c).add f c' t) Q k ((es f).trans<|by rw[er rfl]) λy y=>Gy;have ct:=fS (W':=W.del f c) g b ((G f).trans<|er rfl) λy y y=>Gy;have A:=kR (W:=W.del f c) (W':=(W.del f c).add f c' t) ((es f).trans<|by rw[er rfl]) λy y=>Gy;have sD:subs (W.del f c) f=(((W.es f).filter λe=>! decide (e.1=c)).filter λe=>decide (e.2∈W.fl)).length:=by rw[subs,G,er rfl];rfl
     rw[EE]at ad A;have:2+subs ((W.del f c).add f c' t) f=(z f).links:=by rw[A,sD,JC,sc]
     rw[h3 rfl,ct,ad,this]
    .have ad:=kQ (W:=W) (W':=(W.del f c).add f' c' t) Q k ((es f').trans<|by rw[G,ej<|Dq e,er rfl]) λy y=>Gy;have A:=kR (W:=W) (W':=(W.del f c).add f' c' t) ((es f').trans<|by rw[G,ej<|Dq e,er rfl]) λy y=>Gy;rw[EE]at ad A;rw[(N e).2,ad,A,lkf',Nat.add_assoc]
   .by_cases l:x=f
    .rw[l]at k p u⊢;refine(T.d f k).up (now:=now) (nl:=2+subs ((W.del f c).add f' c' t) f) Q k ?_ (by rw[aH p,aH u,ah]) rfl rfl (D f p) cH;have s:((W.del f c).add f' c' t).es f=(W.es f).filter λe=>! decide (e.1=c):=by rw[es,G,er rfl,ej<|Dq u,hE]
     have ct:=fS (W':=(W.del f c).add f' c' t) g b s λy y y=>Gy;have sD:subs ((W.del f c).add f' c' t) f=(((W.es f).filter λe=>! decide (e.1=c)).filter λe=>decide (e.2∈W.fl)).length:=by rw[subs,s];rfl
     rw[(N u).1,ct,sD,JC,sc,<-Nat.add_assoc,Nat.add_sub_cancel]
    .refine(T.d x k).tr (H _ (bk j pt p) (bk j M l)<|bk j L u) (by rw[aH p,aH u,aH l]) (by rw[es,G,ej l,ej<|Dq u,hE]) (λy y=>Gy) rfl (D x p)
 .have k:e.2.2∉W.fl:=k;by_cases p:e.2.2=t
  .rw[p]at k⊢;have a:JA τ W z oc ot mk t:=T.f _ O k;have Y:=dR<|hr.symm.trans a.fy.is;clear H h3 N uq D es G EE JC lkf' sc M L pt t2 J I O;subst Y;refine⟨⟨?_,?_,?_,a.fy.cv⟩,a.pad,?_,a.len,?_,?_,a.oct,?_⟩;.rw[i,ah]
   .rw[ah];have o:=a.fy.ok;exact⟨o.sort,o.mode,o.size,o.links,OM g U,o.made,by show now<_;exact Ja [_] [⟨1,.v 0,.n 1000⟩] ⟨1,.v 0,.n 4294967296⟩ 1 [1] rfl cH⟩
   .rw[ah];exact a.fy.sort
   .rw[ah];exact a.size
   .rw[ah];exact a.made
   .rw[ah];exact a.mode
   .rw[ah,PS];exact a.links
  .have mW:=D _ p e m rfl;have l:e.2.2≠f:=λh=>k<|h▸b;have u:e.2.2≠f':=λh=>k<|h▸U;have j:=bW g mW;exact(T.f e mW k).tr (H _ (bk j pt p) (bk j M l)<|bk j L u) (by rw[aH p,aH u,aH l]) rfl rfl rfl (PS _)
end
section
variable{W W':Wo}{f c t f' c':Nat}{τ iq:Tr}{z z':Nat->Z}{oc ot nx kM:Nat->List UInt8}{mk:Nat->Nat}{H:Hp}{G C:List (Nat×Ob)}{Q:VP}{d:Nat}{p:List Nat}
structure TX where
 (x:TA) (now:Nat) (mf:Nat->Nat)
def ib(X:TX)(W:Wo)(C:List<|Nat×Ob):Prop:=∃y τ z oc ot,Ch X.x.m (W.last+2) τ y/\Ts τ W z oc ot X.mf/\C=y++tC X.x X.now []
variable{X:TX}
def ib.oB(h:ib X W C)(s:aE H<|C++G){B:Prop}(k:∀τ z oc ot,Ts τ W z oc ot X.mf->MS X.x.m (W.last+2) τ (tC X.x X.now G) H->B):B:=by refine bC λy=>?_;obtain⟨x,τ,z,oc,ot,M,T,rfl⟩:=h;exact y<|k τ z oc ot T<|M.ms<|by rw[ee]at s;exact s
def ib.qw(h:MS X.x.m (W.last+2) τ (tC X.x X.now G) H)(T:∃z oc ot,Ts τ W z oc ot X.mf){B:Prop}(k:∀C,ib X W C->aE H (C++G)->B):B:=by refine bC λy=>h.cells λx M h=>?_;obtain⟨z,oc,ot,T⟩:=T;exact y<|k _ ⟨x,τ,z,oc,ot,M,T,rfl⟩<|by rw[ee];exact h
def jx(W:Wo)(f:Nat)(p:List Nat):Prop:=(f=1/\p=[])\/∃r∈rws 14 W,r.t=f/\r.p=p
def Ts.zg(T:Ts τ W z oc ot mk)(g:Gw W)(m:(f,c,t)∈W.el){B:Prop}(k:Dir τ (ob f) (z f) ((sE<|W.es f).map<|dN W.E)->∀v,dw ((sE<|W.es f).map<|dN W.E) [c]=some v->v/4=ob t->v%4=(if(W.E t).isSome then 1 else 0)->v%4<=1->B):B:=by have x:=(g.el _ m).1;have h:=Ir (E:=W.E) (g.g.nm f x).sE<|(aT _).symm.subset<|aZ (e:=(c,t)).2 m;have y:=LS W.E (c,t);exact k (T.d f x).dir _ h y.1 y.2<|by rw[y.2];split<;>decide
def Ts.wk(T:Ts τ W z oc ot mk)(g:Gw W):∀(k:Nat) (r:Row),r∈rws 14 W->r.p.length<=k->Wk τ 2 r.p (ob r.t)/\∃q,r.p=q++[r.c]/\Wk τ 2 q (ob r.f):=λk=>by
 induction k with
 |zero=>intro r m h;obtain⟨c,s,e⟩:=oH m;rw[e]at h;simp at h
 |succ k i=>
  intro r m h;refine bC λx=>?_;obtain⟨q,e,u⟩:=kI m
  have w:Wk τ 2 q (ob r.f):=by
   rcases u with⟨rfl,l⟩|⟨j,M,y,b⟩;.rw[l];exact .nil
   .rw[<-y,<-b];rw[e,b9]at h;exact(i j M<|by rw[y];exact Nat.le_of_succ_le_succ h).1
  refine T.zg g (aX m).1 λD v a Y O U=>x ?_;have nm:=(g.el _ (aX m).1).2.1;rw[e];exact⟨Y▸w.snoc D nm a U,q,rfl,w⟩
def Ts.pt(T:Ts τ W z oc ot mk)(g:Gw W)(h:jx W f p):Wk τ 2 p (ob f)/\p.length<=14/\∀c∈p,Nm c:=by
 rcases h with⟨rfl,rfl⟩|⟨r,m,rfl,rfl⟩;.exact⟨.nil,js _,nofun⟩
 .exact⟨(T.wk g _ r m<|i1 _).1,by have:=oJ m;simpa using this,g.names m⟩
def Iu{p:List Nat}(l:p.length<=15)(y:∀c∈p,Nm c):(pS p).length<=1000000/\parts (pS p)=pN p:=
 ⟨by rw[qE];exact c0 (Nat.mul_le_mul_left 2 l)<|by decide,xe p λc m=>(y c m).ne⟩
def oM{p:List Nat}(l:p.length<=14)(y:∀c∈p,Nm c)(u:Nm c):(pS<|p++[c]).length<=1000000/\parts (pS<|p++[c])=pN (p++[c]):=
 Iu (by rw[b9];exact ka l) λx m=>(eu.1 m).elim (y x) λm=>by obtain rfl:=dt.1 m;exact u
def d5(y:Gx W f c):dw ((sE<|W.es f).map<|dN W.E) [c]=none:=xM λe m h=>y _ (aZ.1<|(aT _).subset m) ⟨rfl,h⟩
def LX(h:1<=W.last):ob (W.last+1)=W.last+2+1:=by unfold ob;rw[ej<|(show ¬W.last+1=1 from Ja [_] [⟨0,.n 1,.v 0⟩] ⟨7,.a (.v 0)<|.n 1,.n 1⟩ 1 [1] rfl h)]
def uP(N:xx<|W.es f)(L:(W.es f).length<12)(y:Nm c)(k:x<900)(u:b<=1):Rk ((sE<|W.es f).map (dN W.E)++[([c],x*4+b)]):=by
 have h:=FZ (E:=W.E) N.sE<|by rw[(aT _).length_eq];exact Ja [_] [⟨1,.v 0,.n 12⟩] ⟨0,.v 0,.n 12⟩ 1 [1] rfl L
 refine⟨λr m=>?_,?_⟩
 .rcases eu.1 m with m|m;.exact h.ok r m
  .obtain rfl:=dt.1 m;exact⟨y.tx,hS rfl,by show x*4+b<256^8;exact Ja [_,_] [⟨1,.v 0,.n 900⟩,⟨0,.v 1,.n 1⟩] ⟨1,.a (.r (.v 0) 4)<|.v 1,.n 18446744073709551616⟩ 1 [4,1] rfl k u⟩
 .have:∀l:List<|Nat×Nat,((l.map<|dN W.E).map λr=>r.1.length+9).sum=10*l.length:=λl=>by
   induction l with|nil=>rfl|cons a t i=>rw[ik,ik,List.sum_cons,i,mc];show 1+9+_=_;exact i3 (Ja [_] [] ⟨0,.a (.a (.n 1)<|.n 9)<|.m 10<|.v 0,.m 10<|.a (.v 0)<|.n 1⟩ 1 [] rfl)<|Ja [_] [] ⟨0,.m 10<|.a (.v 0)<|.n 1,.a (.a (.n 1)<|.n 9)<|.m 10<|.v 0⟩ 1 [] rfl
  rw[mL,e7,List.sum_append,this,(aT _).length_eq];show 7+(_+(1+9+0))<=128;exact Ja [_] [⟨1,.v 0,.n 12⟩] ⟨0,.a (.n 7)<|.a (.m 10<|.v 0)<|.a (.a (.n 1)<|.n 9)<|.n 0,.n 128⟩ 1 [10] rfl L
def Iv(b:Bool)(h:ib X W C)(U:aE H<|C++G)(g:Gw W)(s:Gs W)(y:f∈W.fl)(J:jx W f p)(x:Nm c)(m:Gx W f c)(L:W.el.length<12)(I:W.last<13)(D:X.mf (W.last+1)=X.now)(N:X.now<1000)
 (k:∀H' u v,ib X (W.new b f c) u->aE H' (u++G)->Q v H'):wC (d+13) (if b then 29 else 28) [.ref X.x.t,.str<|pS<|p++[c],.int 5] H Q:=by
 refine h.oB U λτ z oc ot T M=>?_;have A:Gw (W.new b f c):=g.new y x m L I;obtain⟨w,l,pn⟩:=T.pt g J;obtain⟨s1,s2⟩:=oM l pn x;have l1:1<=W.last:=c0 (g.pos 1 g.one).1 (g.pos 1 g.one).2;have rU:=LX l1;have e:=kP f;have Y:=g.pos f y;have j:=T.new (c:=c) (b:=b) g s y A D N;have O:=dS (ju W f) L;have lk:=(T.d f y).dir.ok.links;have Vz:=(T.d f y).links;have sb:subs W f<=(W.es f).length:=fe _ _;rw[rU]at j;obtain⟨⟩:=b
 .refine Cj (md:=5) M w (T.d f y).dir x s1 s2 (Ja [_] [⟨0,.v 0,.n 14⟩] ⟨1,.v 0,.n 900⟩ 1 [1] rfl l) (d5 m) (by decide) (Ja [_] [⟨1,.v 0,.n 13⟩] ⟨1,.a (.v 0)<|.n 2,.n 900⟩ 1 [1] rfl I) N (Ja [_,_,_] [⟨0,.v 0,.a (.v 1)<|.n 2⟩,⟨0,.v 1,.v 2⟩] ⟨0,.v 0,.a (.v 2)<|.n 2⟩ 1 [1,1] rfl e Y.2) (uP (g.g.nm f y) O x (Ja [_] [⟨1,.v 0,.n 13⟩] ⟨1,.a (.a (.v 0)<|.n 2)<|.n 1,.n 900⟩ 1 [1] rfl I)<|by decide) λH' i=>?_;exact ib.qw (W:=W.new false f c) i j λu a b=>k H' u _ a b
 .refine xm (d:=d+1) (md:=5) M w (T.d f y).dir x s1 s2 (Ja [_] [⟨0,.v 0,.n 14⟩] ⟨1,.v 0,.n 900⟩ 1 [1] rfl l) (d5 m) (by decide) (Ja [_] [⟨1,.v 0,.n 13⟩] ⟨1,.a (.v 0)<|.n 2,.n 900⟩ 1 [1] rfl I) N (Ja [_,_,_] [⟨0,.v 0,.a (.v 1)<|.n 2⟩,⟨0,.v 1,.v 2⟩] ⟨0,.v 0,.a (.v 2)<|.n 2⟩ 1 [1,1] rfl e Y.2) (uP (g.g.nm f y) O x (Ja [_] [⟨1,.v 0,.n 13⟩] ⟨1,.a (.a (.v 0)<|.n 2)<|.n 1,.n 900⟩ 1 [1] rfl I)<|by decide) (Ja [_,_,_] [⟨1,.v 0,.n 12⟩,⟨1,.v 1,.n 65536⟩,⟨2,.v 1,.a (.n 2)<|.v 2⟩,⟨0,.v 2,.v 0⟩] ⟨1,.a (.v 1)<|.n 1,.n 65536⟩ 65522 [1,65521,1,1] rfl O lk Vz sb) λH' i=>?_;exact ib.qw (W:=W.new true f c) i j λu a b=>k H' u _ a b
end
section
variable{W W':Wo}{f c t f' c':Nat}{τ iq:Tr}{z z':Nat->Z}{oc ot nx kM:Nat->List UInt8}{mk:Nat->Nat}{H:Hp}{G C:List (Nat×Ob)}{Q:VP}{d:Nat}{p:List Nat}{X:TX}{r:Row}
def Ts.row(T:Ts τ W z oc ot mk)(g:Gw W)(m:r∈rws 14 W){B:Prop}(k:∀q,r.p=q++[r.c]->Wk τ 2 q (ob r.f)->q.length<=13->(∀c∈q,Nm c)->Nm r.c->(pS r.p).length<=1000000->parts (pS r.p)=pN (q++[r.c])->r.p.length<=14->B):B:=by
 refine bC λx=>?_;obtain⟨w,q,e,b⟩:=T.wk g _ r m<|i1 _;have l:=oJ m;have n:=g.names m;rw[e]at l n;rw[b9]at l;have l:q.length<=13:=Nat.le_of_succ_le_succ<|by simpa using l
 have N:=λc M=>n c<|dy _ M;have y:=n r.c<|ec _<|.head _;obtain⟨s1,s2⟩:=oM (lH l) N y;exact x<|k q e b l N y (e▸s1) (e▸s2)<|by rw[e,b9];exact ka l
def LY(h:ib X W C)(s:aE H<|C++G)(g:Gw W)(m:r∈rws 14 W)(N:r.t∉W.fl)(now:X.now<1000)
 (k:∀H' y,ib X (W.del r.f r.c) y->aE H' (y++G)->Q .none H'):wC (d+11) 35 [.ref X.x.t,.str<|pS r.p] H Q:=by
 refine bC λj=>h.oB s λτ z oc ot T M=>T.row g m λq e w l i Y s1 s2 i=>?_;have O:=(aX m).1;refine T.zg g O λD v U x I L=>j ?_;have a:=T.f _ O N;have J:CU τ (v/4) (z r.t) (oc r.t):=x.symm▸a.fy
 have pos:1<=(z r.t).links:=by have:(z r.t).links=_:=a.links;rw[this];exact List.length_pos_of_mem<|gS.2 ⟨O,eb<|by rfl⟩
 refine Cl M w D Y s1 s2 (Ja [_] [⟨0,.v 0,.n 13⟩] ⟨1,.v 0,.n 899⟩ 1 [1] rfl l) U L J pos now λH' u=>?_;rw[x]at u;exact ib.qw (W:=W.del r.f r.c) u (T.RE g O N now) λy a b=>k H' y a b
def LZ(h:ib X W C)(j:aE H<|C++G)(g:Gw W)(m:r∈rws 14 W)(ht:r.t∈W.fl)(x:∀e∈W.el,e.1≠r.t)(now:X.now<1000)
 (k:∀H' y,ib X ((W.del r.f r.c).out r.t) y->aE H' (y++G)->Q .none H'):wC (d+11) 36 [.ref X.x.t,.str<|pS r.p] H Q:=by
 refine bC λi=>h.oB j λτ z oc ot T M=>T.row g m λq e w l Y N s1 s2 Y=>?_;have O:=(aX m).1;refine T.zg g O λD v U u h3 L=>?_;have a:=T.d _ ht;have J:W.es r.t=[]:=List.eq_nil_iff_forall_not_mem.2 λe O=>x _ (aZ.1 O) rfl;have I:Dir τ (v/4) (z r.t) []:=by have:=a.dir;rw[J]at this;exact u.symm▸this
 obtain⟨A,tn⟩:=T.out g O ht x now;refine i<|rH M w D N s1 s2 (Ja [_] [⟨0,.v 0,.n 13⟩] ⟨1,.v 0,.n 899⟩ 1 [1] rfl l) U L I A ?_ now λH' s=>?_;.rw[u];exact bk (g.pos _ (aX m).2).1 (bW g O)<|x _ O
 .rw[u]at s;exact ib.qw (W:=(W.del r.f r.c).out r.t) s tn λy a b=>k H' y a b
def Iw(h:ib X W C)(i:aE H<|C++G)(g:Gw W)(m:r∈rws 14 W)(N:r.t∉W.fl)(y:f∈W.fl)(Y:jx W f p)(x:Nm c)(s:Gx W f c)(l:W.el.length<12)(now:X.now<1000)
 (k:∀H' u,ib X (W.add f c r.t) u->aE H' (u++G)->Q .none H'):wC (d+12) 30 [.ref X.x.t,.str<|pS r.p,.str<|pS<|p++[c]] H Q:=by
 refine bC λU=>h.oB i λτ z oc ot T M=>T.row g m λq e j j j nc s1 s2 J=>?_;have w:=(T.wk g _ r m<|i1 _).1;have O:=(aX m).1;have a:=T.f _ O N;obtain⟨I,L,D⟩:=T.pt g Y;obtain⟨A,t2⟩:=oM L D x;refine U ?_;have g':=g.add y x s l (.inr ⟨_,O,rfl⟩) N;have tn:=T.add g y (.inr ⟨_,O,rfl⟩) N g' now;have OO:=dS (ju W f) l;have:cnt W r.t<=W.el.length:=fe _ _;have cv:=g.cv;have OP:=kP r.t;have tl:r.t<=W.last:=(g.el _ O).2.2.2;have wl:=g.last;have lk:(z r.t).links=cnt W r.t:=a.links;refine HY M I (T.d f y).dir x A t2 (Ja [_] [⟨0,.v 0,.n 14⟩] ⟨1,.v 0,.n 900⟩ 1 [1] rfl L) (d5 s) w (Ja [_] [⟨0,.v 0,.n 14⟩] ⟨1,.v 0,.n 900⟩ 1 [1] rfl J) s1 (e▸s2) a.fy (by show(z r.t).links+1<_;rw[lk];exact Ja [_,_] [⟨1,.v 0,.n 12⟩,⟨0,.v 1,.v 0⟩] ⟨1,.a (.v 1)<|.n 1,.n 65536⟩ 1 [1,1] rfl l this) now (uP (g.g.nm f y) OO x (Ja [_,_,_] [⟨0,.v 0,.a (.v 1)<|.n 2⟩,⟨0,.v 1,.v 2⟩,⟨0,.v 2,.n 13⟩] ⟨1,.v 0,.n 900⟩ 1 [1,1,1] rfl OP tl wl)<|by decide) λH' h'=>?_;exact ib.qw (W:=W.add f c r.t) h' tn λu a b=>k H' u a b
def F6(h:ib X W C)(u:aE H<|C++G)(g:Gw W)(s:Gs W)(m:r∈rws 14 W)(N:r.t∉W.fl)(I:i<=1)(now:X.now<1000)
 (k:∀H' y,ib X (W.put r.t ((d0 W r.t).1,F2 (d0 W r.t).2 i b)) y->aE H' (y++G)->Q .none H'):wC (d+12) 32 [.ref X.x.t,.str<|pS r.p,.int i,.bytes [b]] H Q:=by
 refine bC λl=>h.oB u λτ z oc ot T M=>T.row g m λq e x x x Y s1 s2 L=>l ?_;have w:=(T.wk g _ r m<|i1 _).1;have O:=(aX m).1;have a:JA τ W z oc ot X.mf r.t:=T.f _ O N;have ln:=a.len;exact Ck M w (Ja [_] [⟨0,.v 0,.n 14⟩] ⟨1,.v 0,.n 900⟩ 1 [1] rfl L) s1 (e▸s2) a.fy (Ja [_] [⟨0,.v 0,.n 1⟩] ⟨1,.v 0,.n 100⟩ 1 [1] rfl I) (Ja [_] [⟨0,.v 0,.n 32⟩] ⟨0,.v 0,.n 200⟩ 1 [1] rfl ln) (hS rfl) (Nat.zero_lt_succ 0) now λH' j=>ib.qw (W:=W.put r.t ((d0 W r.t).1,F2 (d0 W r.t).2 i b)) j (T.write g s (.inr ⟨_,O,rfl⟩) N I now) λy a b=>k H' y a b
def Ix(h:ib X W C)(l:aE H<|C++G)(g:Gw W)(s:Gs W)(m:r∈rws 14 W)(M:md<65536)(now:X.now<1000)
 (k:∀H' y,ib X (W.put r.t (md,(d0 W r.t).2)) y->aE H' (y++G)->Q .none H'):wC (d+11) 33 [.ref X.x.t,.str<|pS r.p,.int md] H Q:=by
 refine bC λj=>h.oB l λτ z oc ot T i=>T.row g m λq e x x x N s1 s2 L=>j ?_;have w:=(T.wk g _ r m<|i1 _).1;have O:=(aX m).1
 have fin:∀rr:Raw,τ (ob r.t)=some rr->rr.bo=zB (z r.t)->iW (z r.t)->wC (d+11) 33 [.ref X.x.t,.str<|pS r.p,.int md] H Q:=λrr u Y hz=>by exact xn i w (Ja [_] [⟨0,.v 0,.n 14⟩] ⟨1,.v 0,.n 900⟩ 1 [1] rfl L) s1 (e▸s2) u Y hz M now λH' U=>ib.qw (W:=W.put r.t (md,(d0 W r.t).2)) U (T.mode g s (.inr ⟨_,O,rfl⟩) u M now) λy a b=>k H' y a b
 by_cases ht:r.t∈W.fl;.have a:=(T.d _ ht).dir;exact fin _ a.is rfl a.ok
 .have a:=(T.f _ O ht).fy;exact fin _ a.is rfl a.ok
theorem Ts.up(T:Ts τ W z oc ot mk)(g:Gw W){ord:List Nat}(o:Or W ord){B:List Nat}(U:OK W t B)(D:2<=t)(l:f∈W.fl)(N:f∉B):∃j,j<=14/\HW τ (ob t) (ob f) j:=by
 have A:∀b pre:List Nat,ord=pre++b->∀f∈b,f∈W.fl->f∉B->∃j,j<=b.length/\HW τ (ob t) (ob f) j:=λb=>by
  induction b with
  |nil=>intro _ _ f m;cases m|cons x s i=>
   intro pre e f m l N;have i:=i (pre++[x])<|by rw[e,ee];rfl
   have O:=(g.pos f l).1;have ne:ob f≠ob t:=bk O (Ja [_] [⟨0,.n 2,.v 0⟩] ⟨0,.n 1,.v 0⟩ 2 [1] rfl D) λe=>N<|e▸U.self;have a:=T.d f l
   cases m with
   |tail _ m=>obtain⟨j,h,u⟩:=i f m l N;exact⟨j,lH h,u⟩
   |head=>
    by_cases L:x=1
    .subst L;exact⟨0,js _,.top ne a.dir T.top⟩
    .refine bC λzG=>?_;obtain⟨y,M,Y⟩:=g.par x l L;have k:=(g.el y M).1;have I:=o.ord;rw[e]at I;have hm:y.1∈pre++x::s:=by rw[<-e];exact(o.all _).2 k
     have hs:y.1∈s:=by
      rcases eu.1 hm with hm|hm;.exact absurd ⟨rfl,Y⟩<|(qn.1 I).2.2 _ hm x (.head _) y M
      .rcases lq.1 hm with h|h;.exact absurd (h.trans Y.symm)<|o.ir y M
       .exact h
     have par:=a.par y M Y;obtain⟨j,J,u⟩:=i y.1 hs k λhb=>N<|Y▸U.sub y M hb (by rw[Y];exact l);refine zG<|⟨j+1,ka J,.up ne a.dir ?_<|par▸u⟩;rw[par];exact bk (g.pos _ k).1 O λh=>o.ir y M<|h.trans Y.symm
 obtain⟨j,J,u⟩:=A ord [] rfl f ((o.all f).2 l) l N;exact⟨j,c0 J<|c0 o.len<|lH g.last,u⟩
def ib.JD{P:Prop}(h:MS X.x.m (W.last+2) τ (tC X.x X.now G) H)(T:∃z oc ot,Ts τ W z oc ot X.mf)(k:∀C,ib X W C->aE H (C++G)->P):P:=
 ib.qw h T k
def OQ(h:ib X W C)(hH:aE H<|C++G)(g:Gw W)(o:Or W ord)(m:r∈rws 14 W)(i:f∈W.fl)(hp:jx W f p)(L:Nm c)(J:Gx W f c)(U:r.t∈W.fl->∃B,OK W r.t B/\f∉B)(now:X.now<1000)
 (k:∀H' D,ib X ((W.del r.f r.c).add f c r.t) D->aE H' (D++G)->Q .none H'):wC (d+11) 37 [.ref X.x.t,.str<|pS r.p,.str<|pS<|p++[c]] H Q:=by
 refine bC λzG=>h.oB hH λτ z oc ot T hM=>T.row g m λq e w l y nc s1 s2 l2=>?_;have O:=(aX m).1;have A:=(aX m).2;obtain⟨w2,pl,pn⟩:=T.pt g hp;obtain⟨t1,t2⟩:=oM pl pn L;refine T.zg g O λhd v h1 s h3 M=>?_;have g':=g.mv O i L J;have JB:r.t≠r.f:=(o.ir _ O).symm
 have xO:r.t≠f:=λe=>by
  by_cases ht:r.t∈W.fl;.obtain⟨B,U,hn⟩:=U ht;exact hn<|e▸U.self
  .exact ht<|e▸i
 have pt:=bW g O;have tl:2<=r.t/\r.t<=W.last:=(g.el _ O).2.2;have wl:=g.last;have OP:=kP r.t;have pf:=g.pos f i;have RG:=g.pos _ A;have N:=bk pt RG.1 JB;have n2:=bk pt pf.1 xO;have Tq:=kP f
 obtain⟨rr,hr,hb,hz,Y,hu⟩:∃rr,τ (ob r.t)=some rr/\rr.bo=zB (z r.t)/\iW (z r.t)/\(z r.t).sort=v%4/\∃j,j<900/\((z r.t).sort=1->HW τ (v/4) (ob f) j):=by
  rw[s,h3];by_cases ht:r.t∈W.fl
  .have a:=(T.d _ ht).dir;refine bC λzG=>?_;obtain⟨B,U,hn⟩:=U ht;obtain⟨j,hj,u⟩:=T.up g o U tl.1 i hn;exact zG<|⟨_,a.is,rfl,a.ok,by rw[kO ht];exact a.sort,j,(Ja [_] [⟨0,.v 0,.n 14⟩] ⟨1,.v 0,.n 900⟩ 1 [1] rfl hj),λy=>u⟩
  .have a:=(T.f _ O ht).fy;exact⟨_,a.is,rfl,a.ok,by rw[gp ht];exact a.sort,0,by decide,λe=>absurd (e.symm.trans a.sort)<|by decide⟩
 obtain⟨j,hj,hu⟩:=hu
 refine zG ?_;have RH:Rk (l8 ((sE<|W.es r.f).map<|dN W.E) r.c):=by
  have:=fS (W':=W.del r.f r.c) g A ((dA r.f).trans<|er rfl) λy y y=>Gy;rw[this];have nd:=g.g.nm _ A;refine FZ (xx.sE ?_) ?_;.rw[dA,er rfl];exact⟨nd.nd.sublist rl,λe m=>nd.nm e (gS.1 m).1⟩
  .rw[(aT _).length_eq,dA,er rfl];exact c0 (fe _ _)<|AM _ g
 have L0:=AM f g'
 have Cs:((W.del r.f r.c).add f c r.t).es f=(W.del r.f r.c).es f++[(c,r.t)]:=by have:((W.del r.f r.c).add f c r.t).es f=(W.del r.f r.c).es f++if f=f then[(c,r.t)]else[]:=gq;rw[this,er rfl]
 rw[Cs,b9]at L0;have hv:v/4*4+v%4=ob r.t*4+if(W.E r.t).isSome then 1 else 0:=by rw[s,h3]
 have Tu:xx ((W.del r.f r.c).es f):=by have:=g'.g.nm f i;rw[Cs]at this;exact⟨(qn.1 this.nd).1,λe m=>this.nm e<|dy _ m⟩
 have Tv:∀{b:Nat},b<=1->Rk ((sE<|(W.del r.f r.c).es f).map (dN (W.del r.f r.c).E)++[([c],ob r.t*4+b)]):=uP (W:=W.del r.f r.c) Tu (Nat.lt_of_succ_le L0) L<|Ja [_,_,_] [⟨0,.v 0,.v 1⟩,⟨0,.v 1,.n 13⟩,⟨0,.v 2,.a (.v 0)<|.n 2⟩] ⟨1,.v 2,.n 900⟩ 1 [1,1,1] rfl tl.2 wl OP;have OR:(if(W.E r.t).isSome then 1 else 0)<=1:=by split<;>decide
 have JC:=(T.d _ A).links;have lkf':=(T.d f i).links;have sc:=xN g A O;have sb:subs W f<=(W.es f).length:=fe _ _;have lf:=AM f g;have gB:(z r.t).sort=if(W.E r.t).isSome then 1 else 0:=Y.trans h3;have lv:14*2<900:=by decide
 have dc:=fS (W':=W.del r.f r.c) g A ((dA r.f).trans<|er rfl) λy y y=>Gy;by_cases ef:r.f=f
 .clear hH o hp U lv lkf' Tu Cs L0;subst ef;have VA:∀e∈sE ((W.del r.f r.c).es r.f),e.1≠c:=λe m h=>J _ (aF.1<|aZ.1<|(aT _).subset m).1 ⟨rfl,h⟩;refine sJ (zf:=z r.t) (l2':=l8 ((sE<|W.es r.f).map<|dN W.E) r.c) hM w hd nc s1 s2 (Ja [_] [⟨0,.v 0,.n 13⟩] ⟨1,.v 0,.n 899⟩ 1 [1] rfl l) h1 M w2 hd L t1 t2 (Ja [_] [⟨0,.v 0,.n 14⟩] ⟨1,.v 0,.n 899⟩ 1 [1] rfl pl) (d5 J) (s.symm▸hr) hb hz Y hu hj (s.symm▸N) (s.symm▸n2) (Ja [_,_,_,_,_,_] [⟨3,.v 0,.v 1⟩,⟨0,.v 2,.v 3⟩,⟨0,.v 3,.n 13⟩,⟨0,.v 4,.a (.v 2)<|.n 2⟩,⟨2,.a (.r (.v 5) 4)<|.v 0,.a (.r (.v 4) 4)<|.v 1⟩] ⟨1,.v 5,.n 1000⟩ 4 [1,4,4,4,1] rfl h3 tl.2 wl OP hv) aA RH ?_ ?_ λH' h'=>?_;.rw[dc];exact xM VA
  .rw[hv,dc];exact Tv OR
  rw[hv,set_set]at h';rw[s];refine xp (r:=rr) (zf:=z r.t) h' (by rw[az N];exact hr) hb hz (Ja [_,_] [⟨0,.v 0,.n 1⟩,⟨2,.v 1,.v 0⟩] ⟨0,.v 1,.n 1⟩ 1 [1,1] rfl M Y) N N aA rfl hd.ok (Ja [_,_,_,_,_,_] [⟨0,.v 0,.n 1⟩,⟨2,.v 1,.v 0⟩,⟨3,.v 2,.a (.n 2)<|.v 3⟩,⟨3,.v 3,.a (.v 4)<|.v 5⟩,⟨2,.v 1,.v 5⟩] ⟨0,.v 1,.v 2⟩ 3 [2,2,1,1,1] rfl M Y JC sc gB) aA rfl hd.ok (Ja [_,_,_,_,_] [⟨0,.v 0,.n 1⟩,⟨2,.v 1,.v 0⟩,⟨2,.v 2,.a (.n 2)<|.v 3⟩,⟨0,.v 3,.v 4⟩,⟨0,.v 4,.n 12⟩] ⟨1,.a (.v 2)<|.v 1,.n 65536⟩ 1 [1,1,1,1,1] rfl M Y JC sb lf) now (Ja [_,_,_] [⟨0,.v 0,.n 13⟩,⟨0,.v 1,.v 0⟩,⟨0,.v 2,.a (.v 1)<|.n 2⟩] ⟨1,.v 2,.n 1000⟩ 1 [1,1,1] rfl wl RG.2 Tq) (λy=>rfl) λRI iq I y M3=>?_;have I:=I rfl;clear m L J;subst I;refine ib.JD (W:=(W.del r.f r.c).add r.f c r.t) M3 (T.mv g O i JB xO g' now hr ?_ ?_ ?_ ?_) λD a b=>k RI D a b;.rw[az N,aA]
  .intro x a b _;rw[az b,az a,az b]
  .intro _;rw[aA];rfl
  .exactλh=>absurd rfl h
 .have OS:=bk RG.1 pf.1 ef;have VB:(W.del r.f r.c).es f=W.es f:=(dA f).trans<|ej<|Dq ef;have hd2:=(T.d f i).dir;have Tw:=Tv OR;rw[VB,ia (W:=W) (W':=W.del r.f r.c) (t:=f) λy y=>Gy]at Tw;refine sJ (zf:=z r.t) (l2':=(sE<|W.es f).map<|dN W.E) hM w hd nc s1 s2 (Ja [_] [⟨0,.v 0,.n 13⟩] ⟨1,.v 0,.n 899⟩ 1 [1] rfl l) h1 M w2 hd2 L t1 t2 (Ja [_] [⟨0,.v 0,.n 14⟩] ⟨1,.v 0,.n 899⟩ 1 [1] rfl pl) (d5 J) (s.symm▸hr) hb hz Y hu hj (s.symm▸N) (s.symm▸n2) (Ja [_,_,_,_,_,_] [⟨3,.v 0,.v 1⟩,⟨0,.v 2,.v 3⟩,⟨0,.v 3,.n 13⟩,⟨0,.v 4,.a (.v 2)<|.n 2⟩,⟨2,.a (.r (.v 5) 4)<|.v 0,.a (.r (.v 4) 4)<|.v 1⟩] ⟨1,.v 5,.n 1000⟩ 4 [1,4,4,4,1] rfl h3 tl.2 wl OP hv) ((az OS.symm).trans hd2.is) hd2.rows (d5 J) ?_ λH' h'=>?_;.rw[hv];exact Tw
  rw[hv]at h';rw[s];refine xp (r:=rr) (zf:=z r.t) h' (by rw[az n2,az N];exact hr) hb hz (Ja [_,_] [⟨0,.v 0,.n 1⟩,⟨2,.v 1,.v 0⟩] ⟨0,.v 1,.n 1⟩ 1 [1,1] rfl M Y) N n2 ((az OS).trans aA) rfl hd.ok (Ja [_,_,_,_,_,_] [⟨0,.v 0,.n 1⟩,⟨2,.v 1,.v 0⟩,⟨3,.v 2,.a (.n 2)<|.v 3⟩,⟨3,.v 3,.a (.v 4)<|.v 5⟩,⟨2,.v 1,.v 5⟩] ⟨0,.v 1,.v 2⟩ 3 [2,2,1,1,1] rfl M Y JC sc gB) aA rfl hd2.ok (Ja [_,_,_,_,_] [⟨0,.v 0,.n 1⟩,⟨2,.v 1,.v 0⟩,⟨2,.v 2,.a (.n 2)<|.v 3⟩,⟨0,.v 3,.v 4⟩,⟨0,.v 4,.n 12⟩] ⟨1,.a (.v 2)<|.v 1,.n 65536⟩ 1 [1,1,1,1,1] rfl M Y lkf' sb lf) now (Ja [_,_,_] [⟨0,.v 0,.n 13⟩,⟨0,.v 1,.v 0⟩,⟨0,.v 2,.a (.v 1)<|.n 2⟩] ⟨1,.v 2,.n 1000⟩ 1 [1,1,1] rfl wl pf.2 Tq) (λe=>absurd e OS) λRI iq y I M3=>?_;have I:=I OS;refine bC λzG=>?_;clear hH o m hp L J U;subst I;refine zG<|ib.JD (W:=(W.del r.f r.c).add f c r.t) M3 (T.mv g O i JB xO g' now hr ?_ ?_ ?_ ?_) λD a b=>k RI D a b;.rw[az n2,az N,aA]
  .intro x a b c;rw[az c,az b,az a,az c,az b]
  .exactλh=>absurd h ef
  .intro _;refine⟨?_,?_⟩;.rw[az OS,aA,gB];rfl
   .rw[aA,gB];rfl
end
section
variable{W W':Wo}{f c t:Nat}{H:Hp}{R F:List (Nat×Ob)}{Q:VP}{d:Nat}{A:WA}{o:Nat}
def Iy(N:0<n)(b:n<1073741824)(h:aE H<|(o,.list [.int x])::F)(k:∀H' y r,r<n->aE H' ((o,.list [.int y])::F)->Q (.int (r:Nat)) H'):wC (d+1) 2 [.ref o,.int n] H Q:=by
 have z:0<=x.fmod n:=Int.fmod_nonneg_of_pos _<|Ja [_] [⟨1,.n 0,.v 0⟩] ⟨9,.n 0,.v 0⟩ 1 [1] rfl N;have u:x.fmod n<n:=Int.fmod_lt_of_pos _<|Ja [_] [⟨1,.n 0,.v 0⟩] ⟨9,.n 0,.v 0⟩ 1 [1] rfl N;have e:x.fmod n=(((x.fmod n).toNat:Nat):Int):=(Int.toNat_of_nonneg z).symm;have m:k7 .mod (.int x) (.int n)=some (.int (((x.fmod n).toNat:Nat):Int)):=gd (nz N) e;have D:k7 .div (.int x) (.int n)=some (.int<|x.fdiv n):=gd (Cd (nz N)<|eb (p:=(n:Int).natAbs<1073741824) b) rfl;refine av rfl rfl (aa (h.rd m0)<|aa rfl (aa m<|aa (h.rd m0)<|aa rfl (aa D<|aa (h.at m0)<|dT ?_ ?_)));.exact⟨Int.le_refl _,show(0:Int)<((1:Nat):Int) by decide⟩
 .exact k _ (x.fdiv n) _ ((Int.toNat_lt z).2 u)<|h.set _
def L2(n:Nat)(h:aE H<|wL A W++R):aE (H.set A.w<|.dict .str [(.str sF,.ref A.fa),(.str sS,.ref A.sa),(.str sL,.int n)]) (wL A ⟨W.fl,W.el,W.st,n⟩++R):=aE.set (F:=_::_::(_++R)) h _
def Iz(N:W.fl.Nodup)(z:f∈W.fl)(u:∀x,x≠f->(⟨W.fl,el,W.st,W.last⟩:Wo).es x=W.es x)(h:aE H<|wL A W++R):
 aE (H.set (A.ad f)<|.dict .str<|eD<|(⟨W.fl,el,W.st,W.last⟩:Wo).es f) (wL A ⟨W.fl,el,W.st,W.last⟩++R):=by
 refine bC λy=>?_;obtain⟨q,s,e⟩:=List.append_of_mem z;refine y ?_;rw[e]at N;have N:=H5.1 N;have p:∀x∈q,x≠f:=λx m=>N.2.2 x m f<|.head _;have k:∀x∈s,x≠f:=λx m e=>(EV.1 N.2.1).1<|e▸m;have split:∀g:Nat->Nat×Ob,W.fl.map g=q.map g++g f::s.map g:=λg=>by rw[e,e7];rfl
 have G:∀l:List Nat,(∀x∈l,x≠f)->(l.map λx=>(A.ad x,Ob.dict .str<|eD<|(⟨W.fl,el,W.st,W.last⟩:Wo).es x))=l.map λx=>(A.ad x,Ob.dict .str<|eD<|W.es x):=λl L=>lF λx m=>by rw[u x<|L x m]
 have j:wL A W++R=((A.w,.dict .str [(.str sF,.ref A.fa),(.str sS,.ref A.sa),(.str sL,.int W.last)])::(A.fa,.dict .int (W.fl.map λf:Nat=>((.int f:V),V.ref<|A.ad f)))::(A.sa,.dict .int<|xE W.st)::(q.map λx=>(A.ad x,Ob.dict .str<|eD<|W.es x)))++(A.ad f,.dict .str<|eD<|W.es f)::((s.map λx=>(A.ad x,Ob.dict .str<|eD<|W.es x))++R):=by rw[wL,split];simp
 have i:wL A ⟨W.fl,el,W.st,W.last⟩++R=((A.w,.dict .str [(.str sF,.ref A.fa),(.str sS,.ref A.sa),(.str sL,.int W.last)])::(A.fa,.dict .int (W.fl.map λf:Nat=>((.int f:V),V.ref<|A.ad f)))::(A.sa,.dict .int<|xE W.st)::(q.map λx=>(A.ad x,Ob.dict .str<|eD<|W.es x)))++(A.ad f,.dict .str<|eD<|(⟨W.fl,el,W.st,W.last⟩:Wo).es f)::((s.map λx=>(A.ad x,Ob.dict .str<|eD<|W.es x))++R):=by rw[wL];show(_::_::_::W.fl.map _)++R=_;rw[split,G q p,G s k];simp
 rw[j]at h;rw[i];exact h.mid _
def OT(st:List<|Nat×Nat×List UInt8)(h:aE H<|wL A W++R):aE (H.set A.sa<|.dict .int<|xE st) (wL A ⟨W.fl,W.el,st,W.last⟩++R):=aE.mid (A:=[_,_]) (B:=_++R) h _
def RJ(s:N∉W.fl)(u:W.es N=[])(h:aE H<|wL A W++((a,.dict .str [])::R)):
 aE (H.set A.fa<|.dict .int<|dput (W.fl.map λf:Nat=>((.int f:V),V.ref<|A.ad f)) (.int N)<|.ref a) (wL ⟨A.w,A.fa,A.sa,mz A.ad N a⟩ ⟨W.fl++[N],W.el,W.st,W.last⟩++R):=by
 have ad:∀x∈W.fl,mz A.ad N a x=A.ad x:=λx m=>aH λe=>s<|e▸m
 have z:dput (W.fl.map λf:Nat=>((.int f:V),V.ref<|A.ad f)) (.int N) (.ref a)=(W.fl++[N]).map λf:Nat=>((.int f:V),V.ref<|mz A.ad N a f):=by
  have eq:(W.fl.map λf:Nat=>((.int f:V),V.ref<|mz A.ad N a f))=W.fl.map λf:Nat=>((.int f:V),V.ref<|A.ad f):=lF λx m=>by rw[ad x m]
  rw[dM λe m u=>?_,e7,eq];.rw[ik,ah];rfl
  .obtain⟨x,l,rfl⟩:=nW.1 m;exact s<|mj (V.int.inj u)▸l
 have y:(W.fl++[N]).map (λf:Nat=>(mz A.ad N a f,Ob.dict .str<|eD<|(⟨W.fl++[N],W.el,W.st,W.last⟩:Wo).es f))=(W.fl.map λf:Nat=>(A.ad f,Ob.dict .str<|eD<|W.es f))++[(a,.dict .str [])]:=by
  have eq:(W.fl.map λf:Nat=>(mz A.ad N a f,Ob.dict .str<|eD<|W.es f))=W.fl.map λf:Nat=>(A.ad f,Ob.dict .str<|eD<|W.es f):=lF λx m=>by rw[ad x m]
  rw[e7];refine congr (cg _ eq) ?_;rw[ik,ah];show[(a,Ob.dict .str<|eD<|W.es N)]=_;rw[u];rfl
 rw[wL,y,z];have:=aE.mid (A:=[_]) (B:=_) h<|.dict .int ((W.fl++[N]).map λf:Nat=>((.int f:V),V.ref<|mz A.ad N a f));refine this.perm<|.cons _<|.cons _<|.cons _ ?_;show List.Perm (_++_::R)<|(_++[_])++R;rw[ee];exact .refl _
def OU(h:aE H<|wL A W++R):aE (H.set A.fa<|.dict .int<|dV (W.fl.map λf:Nat=>((.int f:V),V.ref<|A.ad f))<|.int t) (wL A (W.out t)++R):=by
 have e:dV (W.fl.map λf:Nat=>((.int f:V),V.ref<|A.ad f)) (.int t)=(W.out t).fl.map λf:Nat=>((.int f:V),V.ref<|A.ad f):=by rw[dV,List.filter_map];exact cg (List.map _)<|I0 λx z=>cg (!·)<|nX.2 ⟨λh=>mj<|V.int.inj h,λh=>cg (λn:Nat=>V.int n) h⟩
 rw[e];have:=aE.mid (A:=[_]) (B:=_) h<|.dict .int ((W.out t).fl.map λf:Nat=>((.int f:V),V.ref<|A.ad f));exact this.sub<|.cons_cons _<|.cons_cons _<|.cons_cons _<|List.Sublist.append_right (List.Sublist.map _ rl) _
def F7(h:∀e∈es,e.1≠c):dput (eD es) (.str [c]) (.int t)=eD (es++[(c,t)]):=by
 rw[dM λe m u=>?_,eD,eD,e7];.rfl
 .obtain⟨x,l,rfl⟩:=nW.1 m;exact h x l (ig<|V.str.inj u).1
def F8:dV (eD es) (.str [c])=eD (es.filter λe=>! decide (e.1=c)):=by rw[dV,eD,List.filter_map];exact cg (List.map _)<|I0 λx z=>cg (!·)<|nX.2 ⟨λh=>(ig<|V.str.inj h).1,λh=>cg (λn=>V.str [n]) h⟩
def F9:bR (eD es) (.str [c])=es.any λe=>decide (e.1=c):=by rw[bR,eD,List.any_map];exact cg (List.any _)<|funext λx=>nX.2 ⟨λh=>(ig<|V.str.inj h).1,λh=>cg (λn=>V.str [n]) h⟩
end
section
variable{W W':Wo}{f c t:Nat}{H:Hp}{R F:List (Nat×Ob)}{Q:VP}{d:Nat}{A:WA}{xs:List TX}{k:Nat}
noncomputable def jy:List TX->Wo->List (Nat×Ob)->Prop
 |[],_,C=>C=[]|X::xs,W,C=>∃z y,ib X W z/\jy xs W y/\C=z++y
def jy.snoc{X:TX}{C D:List (Nat×Ob)}(h:jy xs W D)(z:ib X W C):jy (xs++[X]) W (D++C):=by
 induction xs generalizing D with
 |nil=>obtain rfl:=h;exact⟨C,[],z,rfl,(hE _).symm⟩
 |cons Y s i=>obtain⟨y,x,a,b,rfl⟩:=h;exact⟨y,_,a,i b,ee _ _ _⟩
def dB{K:LP}
 (i:∀X∈xs,∀(l:Loc) (H:Hp) (C G:List<|Nat×Ob),(∀y,y≠20->l y=L y)->l 20=some (.ref X.x.t)->ib X W C->aE H (C++G)->(∀c∈F,c∈G)->∀Q:VP,(∀H' z v,ib X W' z->aE H' (z++G)->Q v H')->wE Φ e l H Q)
 (k:∀(l:Loc) (H':Hp) (z:List<|Nat×Ob),(∀y,y≠20->l y=L y)->jy xs W' z->aE H' (z++F)->K l H')
 {C:List (Nat×Ob)} (t:jy xs W C) (h:aE H<|C++F):i8 (wSs Φ<|.cons (.expr e) .nil) [20] none K T (xs.map λX=>.ref X.x.t) L H:=by
 have U:∀(r q:List TX) (C D:List<|Nat×Ob) (l:Loc) (H:Hp),xs=q++r->jy r W C->jy q W' D->aE H (C++(D++F))->(∀y,y≠20->l y=L y)->i8 (wSs Φ<|.cons (.expr e) .nil) [20] none K T (r.map λX=>.ref X.x.t) l H:=λr=>by
  induction r with
  |nil=>intro q C D l H eq t u h Y;rw[hE]at eq;subst eq t;exact k l H D Y u h|cons X r I=>
   intro q C D l H eq t u h Y;refine bC λO=>?_;obtain⟨N,x,a,b,rfl⟩:=t;refine O ?_;have s:∀y,y≠20->(upd l 20<|.ref X.x.t) y=L y:=λy p=>(ej p).trans<|Y y p;rw[ee]at h;refine ae rfl (i X (eq▸ec _ (.head _)) (upd l 20<|.ref X.x.t) H N _ s rfl a h (λc m=>ec _<|ec _ m) _ λH' z v M J=>?_);refine I (q++[X]) x (D++z) _ H' (by rw[eq,ee];rfl) b (u.snoc M) (J.perm ?_) s
   have:(z++(x++(D++F))).Perm (x++(D++(z++F))):=by
    have j:(z++(x++(D++F))).Perm ((x++D)++(z++F)):=by rw[<-ee x,<-ee z,<-ee (x++D)];exact Cw.append_right _
    rw[ee]at j;exact j
   rw[ee D];exact this
 exact U xs [] C [] L H rfl t rfl h λzz zz=>rfl
structure Gd(k:Nat)(W:Wo):Prop where
 g:Gw W
 o:∃ord,Or W ord
 s:Gs W
 el:W.el.length<=k
 last:W.last<=k+1
structure Sp(W W':Wo):Prop where
 last:W.last<=W'.last
 tg:∀t,t<=W.last->Tg W' t->Tg W t/\(t∈W.fl↔t∈W'.fl)
def Sp.tQ:Sp W W:=⟨i1 _,λz z h=>⟨h,Gy⟩⟩
theorem Sp.trans(a:Sp W W1)(b:Sp W1 W'):Sp W W':=⟨c0 a.last b.last,λt l h=>by
 obtain⟨z,e⟩:=b.tg t (c0 l a.last) h;obtain⟨y,u⟩:=a.tg t l z
 exact⟨y,u.trans e⟩⟩
def Gd.up(g:Gd k W):Gd (k+1) W:=⟨g.g,g.o,g.s,lH g.el,lH g.last⟩
def qN(A:WA)(W:Wo)(xs:List TX)(F:List<|Nat×Ob)(H:Hp):Prop:=∃C,jy xs W C/\aE H (wL A W++(C++F))
def Mk(xs:List TX)(n:Nat):Prop:=∀X∈xs,X.now<1000/\∀t,n<t->X.mf t=X.now
noncomputable def refs(xs:List TX):V:=.lst<|xs.map λX=>.ref X.x.t
theorem Gd.reach(g:Gd k W)(z:f∈W.fl):f=1\/∃r∈rws 14 W,r.t=f:=by
 obtain⟨ord,o⟩:=g.o;by_cases h:f=1;.exact .inl h
 .exact .inr<|(o.od g.g).reach g.g f z h
def Gd.n(g:Gd k W):sV W 14:=by obtain⟨ord,o⟩:=g.o;exact g.g.gn<|o.od g.g
def JE(h:(W.es f).any (λe=>decide (e.1=c))=false):Gx W f c:=λe m z=>by
 have:=List.any_eq_false.1 h (e.2.1,e.2.2)<|aZ.2<|by rw[<-z.1];exact m
 exact this<|eb z.2
def xP(z:jx W f p):(pS p).length<=28:=by
 rw[qE];rcases z with⟨_,rfl⟩|⟨r,m,_,rfl⟩;.decide
 .have:=oJ m;exact Nat.mul_le_mul_left 2<|by simpa using this
def xQ(g:Gd k W)(J:k<12)(O:Mk xs n0)(hn:n0<=W.last)(y:f∈W.fl)(D:Nm c)(h:qN A W xs F H)
 (q:∀H' A' W',A'.w=A.w->Gd (k+1) W'->Sp W W'->qN A' W' xs F H'->Q .none H'):wC (d+17) 6 [.ref A.w,refs xs,.int f,.str [c],.bool b] H Q:=by
 obtain⟨C,Ct,s⟩:=h;have hB:big=16777216:=rfl;obtain⟨ord,o⟩:=g.o;have gn:=g.n;have wd:∀{G:List (Nat×Ob)},∀x∈wL A W,x∈wL A W++G:=λx m=>dy _ m;have c1:=s.rd<|wd _<|.head _;have c2:=s.rd<|wd _<|.tail _<|.head _;have c3:=s.rd<|wd _<|cG y;have df:=(cJ (v:=λf=>.ref<|A.ad f) (t:=f)).trans<|er y;refine av rfl rfl (aa c1<|aa rfl (aa c2<|aa df<|aa c3<|b7 (λzz=>q H A W rfl g.up Sp.tQ ⟨C,Ct,s⟩) λe=>?_));rw[F9]at e;have fr:=JE e;refine nr (n:=14) gn (λx m=>wd x m) s (g.reach y) λp hp=>?_;have pl:=xP hp;refine aa (add_str<|by show _+1<=_;exact Ja [_,_] [⟨3,.v 0,.n 16777216⟩,⟨0,.v 1,.n 28⟩] ⟨0,.a (.v 1)<|.n 1,.v 0⟩ 16777216 [29,16777216] rfl hB pl)<|aa (add_str<|by rw[b9];show _+1+1<=_;exact Ja [_,_] [⟨3,.v 0,.n 16777216⟩,⟨0,.v 1,.n 28⟩] ⟨0,.a (.a (.v 1)<|.n 1)<|.n 1,.v 0⟩ 8388608 [15,8388608] rfl hB pl) ?_;rw[<-oE];have hl:W.el.length<12:=dS g.el J;have I:W.last<13:=by have:=g.last;exact Ja [_,_] [⟨1,.v 0,.n 12⟩,⟨0,.v 1,.a (.v 0)<|.n 1⟩] ⟨1,.v 1,.n 13⟩ 1 [1,1] rfl J this
 have g':Gw (W.new b f c):=g.g.new y D fr hl I;have l1:=g.g.pos f y;have no:W.last+1∉W.fl:=λm=>by have:=(g.g.pos _ m).2;exact wQ 0<|Ja [_] [⟨0,.a (.v 0)<|.n 1,.v 0⟩] ⟨0,.n 1,.n 0⟩ 1 [1] rfl this
 have sw:∀{A B F:List (Nat×Ob)},(A++(B++F)).Perm (B++(A++F)):=by intro A B F;rw[<-ee,<-ee];exact Cw.append_right _
 refine dB (W':=W.new b f c) (λX mX L' H C G Y Cu tr hh zz Q qq=>?_) (λL' H u Y tr hh=>?_) Ct<|s.perm sw
 .refine bC λzG=>?_;obtain⟨cH,VC⟩:=O X mX;have AN:=Y 15<|by decide
  have op:=λk'=>Iv (d:=d+3) b tr hh g.g g.s y hp D fr hl I (VC _<|Ja [_,_] [⟨0,.v 0,.v 1⟩] ⟨1,.v 0,.a (.v 1)<|.n 1⟩ 1 [1] rfl hn) cH k' (Q:=Q);refine tr.oB hh λτ z oc ot T hM=>zG<|ae (Y 25<|by decide) ?_;obtain⟨⟩:=b;.exact aJ rfl (ae Cu<|aa (hM.rd m0)<|ae AN<|op λH' u v a b=>qq H' u v a b)
  .exact aY rfl (ae Cu<|aa (hM.rd m0)<|ae AN<|op λH' u v a b=>qq H' u v a b)
 .have M:=hh.perm sw
  have gn':Gd (k+1) (W.new b f c):=⟨g',⟨_,o.new g.g y⟩,g.s.new,by
   show(W.el++[_]).length<=_
   rw[b9];exact ka g.el,ka g.last⟩
  have sp:Sp W (W.new b f c):=⟨Nat.le_succ _,λt l h=>by
   have e1:t≠W.last+1:=(Ja [_,_] [⟨0,.v 0,.v 1⟩] ⟨6,.v 0,.a (.v 1)<|.n 1⟩ 1 [1] rfl l)
   have fl:t∈W.fl↔t∈(W.new b f c).fl:=by
    obtain⟨⟩:=b;.exact Gy
    .exact⟨λm=>dy _ m,λm=>(eu.1 m).resolve_right λm=>e1<|dt.1 m⟩
   refine⟨?_,fl⟩;rcases h with h|⟨e,m,he⟩;.exact .inl<|fl.2 h
   .rcases eu.1 m with m|m;.exact .inr ⟨e,m,he⟩
    .clear g J O hn y D q fl gn' M sw no l1 g' I hl;obtain rfl:=dt.1 m;exact absurd he.symm e1⟩;have lst:=g.s.len;have L:=Y 3<|by decide
  have JF:=ju W f;refine ae L<|aa (M.rd<|.head _)<|aa rfl (ae L<|aa (M.at<|.head _)<|dT (hS rfl) ?_);have j:=L2 (W.last+1) M;refine ae L<|aa (j.rd<|.head _)<|aa rfl (ae L<|aa (j.rd<|.head _)<|aa rfl (ae (Y 11<|by decide)<|aa (j.rd<|.tail _<|.head _)<|aa df<|ae (Y 12<|by decide)<|aa (j.at<|dy _<|cG (W:=⟨W.fl,W.el,W.st,W.last+1⟩) y)<|dT ?_ ?_));.rw[eD,a9];exact dS JF<|Ja [_] [⟨1,.v 0,.n 12⟩] ⟨1,.v 0,.n 1000000⟩ 1 [1] rfl hl
  have e2:dput (eD<|(⟨W.fl,W.el,W.st,W.last+1⟩:Wo).es f) (.str [c]) (.int (W.last+1:Nat))=eD ((⟨W.fl,W.el++[(f,c,W.last+1)],W.st,W.last+1⟩:Wo).es f):=by refine(F7 (es:=W.es f) λe m h=>fr _ (aZ.1 m) ⟨rfl,h⟩).trans<|cg eD ?_;have:(⟨W.fl,W.el++[(f,c,W.last+1)],W.st,W.last+1⟩:Wo).es f=W.es f++if f=f then[(c,W.last+1)]else[]:=gq;rw[this,er rfl]
  have i:=Iz (W:=⟨W.fl,W.el,W.st,W.last+1⟩) (el:=W.el++[(f,c,W.last+1)]) g.g.nd y (λx O=>by
   have:(⟨W.fl,W.el++[(f,c,W.last+1)],W.st,W.last+1⟩:Wo).es x=W.es x++if f=x then[(c,W.last+1)]else[]:=gq;refine this.trans ?_
   rw[ej<|Dq O,hE];rfl) j;rw[<-e2]at i;refine ae L<|aa (i.rd<|.head _)<|aa rfl (ae L<|aa (i.rd<|.head _)<|aa rfl (aa (i.at<|.tail _<|.tail _<|.head _)<|dT ?_ ?_));.rw[xE,a9];show W.st.length<_;exact Ja [_,_] [⟨1,.v 0,.n 13⟩,⟨0,.v 1,.v 0⟩] ⟨1,.v 1,.n 1000000⟩ 1 [1,1] rfl I lst
  have e3:dput (xE W.st) (.int (W.last+1:Nat)) (.tup [.int (5:Nat),.bytes []])=xE (W.st++[(W.last+1,5,[])]):=by
   rw[dM λe m he=>?_,xE,xE,e7];.rfl
   .clear J O hn y D q i e2 j JF L lst sp gn' M sw no l1;obtain⟨x,m',rfl⟩:=nW.1 m;exact Nat.not_succ_le_self _<|(mj (V.int.inj he):x.1=W.last+1)▸(g.s.le x m').2
  have h3:=OT (W:=⟨W.fl,W.el++[(f,c,W.last+1)],W.st,W.last+1⟩) (W.st++[(W.last+1,5,[])]) i;rw[<-e3]at h3;obtain⟨⟩:=b;.exact ae (Y 25<|by decide)<|aJ rfl (q _ A _ rfl gn' sp ⟨u,tr,e3▸h3⟩)
  .refine ae (Y 25<|by decide)<|aY rfl ?_;refine bV h3 λH a U=>?_;have U:=U.perm FC.symm;refine ae L<|aa (U.rd<|.head _)<|aa rfl (ae L<|aa (U.rd<|.head _)<|aa rfl (aa (U.at<|.tail _<|.head _)<|dT ?_ ?_))
   .rw[a9];have:W.fl.length<=(List.range 14).length:=g.g.nd.length_le_of_subset λx m=>Dw.2<|by have:=(g.g.pos x m).2;exact Ja [_,_] [⟨1,.v 0,.n 13⟩,⟨0,.v 1,.v 0⟩] ⟨1,.v 1,.n 14⟩ 1 [1,1] rfl I this
    rw[List.length_range]at this;show W.fl.length<_;exact Ja [_] [⟨0,.v 0,.n 14⟩] ⟨1,.v 0,.n 1000000⟩ 1 [1] rfl this
   have h5:=RJ (N:=W.last+1) (W:=⟨W.fl,W.el++[(f,c,W.last+1)],W.st++[(W.last+1,5,[])],W.last+1⟩) no (by
    have:(⟨W.fl,W.el++[(f,c,W.last+1)],W.st++[(W.last+1,5,[])],W.last+1⟩:Wo).es (W.last+1)=W.es (W.last+1)++if f=W.last+1 then[(c,W.last+1)]else[]:=gq;rw[this,ej<|(show ¬f=W.last+1 from Ja [_,_] [⟨0,.v 0,.v 1⟩] ⟨6,.v 0,.a (.v 1)<|.n 1⟩ 1 [1] rfl l1.2),hE]
    exact List.eq_nil_iff_forall_not_mem.2 λe m=>no (g.g.el _<|aZ.1 m).1) U;exact q _ ⟨A.w,A.fa,A.sa,mz A.ad (W.last+1) a⟩ (W.new true f c) rfl gn' sp ⟨u,tr,h5⟩
end
section
variable{W W':Wo}{f c t:Nat}{H:Hp}{R F:List (Nat×Ob)}{Q:VP}{d:Nat}{A:WA}{xs:List TX}{k:Nat}{r:Row}
def Ga(h:rd H a=some (.dict .str D))(z:rd H b=some (.dict .str [])):k8 .ne (.ref a) (.ref b) H=some (!D.isEmpty):=by show Option.map _ (Option.bind (rd H a) _)=_;rw[h];show Option.map _ (Option.bind (rd H b) _)=_;rw[z];rfl
def fT{A B F:List (Nat×Ob)}:(A++(B++F)).Perm (B++(A++F)):=by rw[<-ee,<-ee];exact Cw.append_right _
def Gb(h:W.es t=[]):∀e∈W.el,e.1≠t:=λe m u=>by
 have:(e.2.1,e.2.2)∈W.es t:=aZ.2<|by rw[<-u];exact m
 rw[h]at this;cases this
def L3(g:Gw W)(O:(f,c,t)∈W.el):Sp W (W.del f c):=⟨i1 _,λx z h=>⟨h.imp id λT=>by obtain⟨e,m,u⟩:=T;exact⟨e,(aF.1 m).1,u⟩,Gy⟩⟩
def L5(g:Gw W)(O:(f,c,t)∈W.el)(ht:t∈W.fl):Sp W ((W.del f c).out t):=⟨i1 _,λx y h=>by
 have z:x≠t:=λe=>by
  subst e;rcases h with h|⟨e,m,he⟩;.exact(cw.1 h).2 rfl
  .have m:=aF.1 m;have:=g.uq e m.1 _ O he<|by rw[he];exact ht
   subst this;exact m.2 ⟨rfl,rfl⟩
 refine⟨?_,λm=>cw.2 ⟨m,z⟩,λm=>(cw.1 m).1⟩;rcases h with h|⟨e,m,he⟩;.exact .inl (cw.1 h).1
 .exact .inr ⟨e,(aF.1 m).1,he⟩⟩
def xR(g:Gd k W)(J:Mk xs n0)(m:r∈rws 14 W)(h:qN A W xs F H)
 (q:∀H' D W',D.w=A.w->Gd (k+1) W'->Sp W W'->qN D W' xs F H'->Q .none H'):wC (d+17) 7 [.ref A.w,refs xs,zC r] H Q:=by
 refine bC λs=>?_;obtain⟨C,Ct,i⟩:=h;obtain⟨ord,o⟩:=g.o;refine s ?_;have O:=(aX m).1;have M:=(aX m).2;have df:=(cJ (v:=λf=>.ref<|A.ad f) (t:=r.f)).trans<|er M;refine av rfl rfl<|aa (i.rd<|dy _<|.head _)<|aa rfl (aa (i.rd<|dy _<|.tail _<|.head _) ?_);refine bV i λH1 N y=>?_;have Ty:∀x∈wL A W,x∈(N,Ob.dict .str [])::(wL A W++(C++F)):=λx m=>.tail _<|dy _ m;refine aa (y.at<|Ty _<|.tail _<|.head _) ?_;have e0:r.t∉W.fl->W.es r.t=[]:=λh=>List.eq_nil_iff_forall_not_mem.2 λe m=>h (g.g.el _<|aZ.1 m).1
 refine bC λs=>?_;obtain⟨a,ha,mem⟩:∃a,(bI (W.fl.map λf:Nat=>((.int f:V),V.ref<|A.ad f))<|.int r.t).getD (.ref N)=.ref a/\(a,Ob.dict .str<|eD<|W.es r.t)∈(N,Ob.dict .str [])::(wL A W++(C++F)):=by
  by_cases ht:r.t∈W.fl;.exact⟨A.ad r.t,by rw[cJ,er ht];rfl,Ty _<|cG ht⟩
  .exact⟨N,by rw[cJ,ej ht];rfl,by rw[e0 ht];exact .head _⟩
 refine s<|aa (cg some ha)<|bV y λH2 t2 L=>aa (Ga (L.rd<|.tail _ mem)<|L.rd m0)<|b7 (λzz=>q _ A W rfl g.up Sp.tQ ⟨C,Ct,L.tl.tl⟩) λe=>?_;have i:=L.tl.tl
 have Tz:W.es r.t=[]:=by
  cases h:W.es r.t with|nil=>rfl|cons x l=>rw[h]at e;injection e
 refine bC λs=>?_;obtain⟨W',u,gd',sp',hp⟩:∃W',W'=(if r.t∈W.fl then(W.del r.f r.c).out r.t else W.del r.f r.c)/\Gd (k+1) W'/\Sp W W'/\True:=by
  refine⟨_,rfl,?_,?_,trivial⟩
  .split
   .rename_i ht;exact⟨g.g.out O ht<|Gb Tz,⟨_,o.out g.g ht⟩,⟨g.s.le,g.s.all,g.s.len,g.s.oct⟩,c0 (fe _ _)<|lH g.el,lH g.last⟩
   .rename_i ht;exact⟨g.g.del O ht,⟨_,o.del⟩,⟨g.s.le,g.s.all,g.s.len,g.s.oct⟩,c0 (fe _ _)<|lH g.el,lH g.last⟩
  .split;.rename_i ht;exact L5 g.g O ht
   .exact L3 g.g O
 refine s<|dB (W':=W') (F:=wL A W++F) (λX mX L' H C G Y Cu tr p hG Q qq=>?_) (λL' H j Y tr p=>?_) Ct<|i.perm fT
 .refine bC λs=>?_;obtain⟨cH,_⟩:=J X mX;have AN:=Y 15<|by decide
  have wG:∀x∈wL A W,x∈C++G:=λx m=>ec _<|hG x<|dy _ m;refine tr.oB p λτ z oc ot T hM=>s<|ae (Y 17<|by decide)<|ae (Y 3<|by decide)<|aa (p.rd<|wG _<|.head _)<|aa rfl (aa (p.rd<|wG _<|.tail _<|.head _) ?_);refine b7 (λe=>?_) λe=>?_;all_goals rw[fc]at e
  .have ht:=dk e;rw[er ht]at u;refine ae Cu<|aa (hM.rd m0)<|ae AN<|LZ (d:=d+5) tr p g.g m ht (Gb Tz) cH λH' j a b=>qq H' j _ (u▸a) b
  .have ht:=si e;rw[ej ht]at u;refine ae Cu<|aa (hM.rd m0)<|ae AN<|LY (d:=d+5) tr p g.g m ht cH λH' j a b=>qq H' j _ (u▸a) b
 .have U:=p.perm fT;have I:=Y 3<|by decide
  have jg:=uI (g.g.g.nm r.f M).nd (aZ.2 O:(r.c,r.t)∈W.es r.f);refine ae I<|aa (U.rd<|dy _<|.head _)<|aa rfl (ae (Y 16<|by decide)<|aa (U.rd<|dy _<|.tail _<|.head _)<|aa df<|aa (U.rd<|dy _<|cG M)<|ae (Y 12<|by decide)<|aa (U.at<|dy _<|cG M)<|aa jg ?_);have e2:dV (eD<|W.es r.f) (.str [r.c])=eD ((W.del r.f r.c).es r.f):=by rw[F8,dA,er rfl]
  have y:=Iz (el:=(W.del r.f r.c).el) g.g.nd M (λx J=>(dA x).trans<|ej J) U;have y:aE (H.set (A.ad r.f)<|.dict .str<|dV (eD<|W.es r.f)<|.str [r.c]) (wL A (W.del r.f r.c)++(j++F)):=by rw[e2];exact y
  refine ae (Y 17<|by decide)<|ae I<|aa (y.rd<|dy _<|.head _)<|aa rfl (aa (y.rd<|dy _<|.tail _<|.head _) ?_);refine b7 (λe=>?_) λe=>?_;all_goals rw[fc]at e
  .have ht:r.t∈W.fl:=dk e;rw[er ht]at u;subst u;refine ae I<|aa (y.rd<|dy _<|.head _)<|aa rfl (aa (y.rd<|dy _<|.tail _<|.head _)<|ae (Y 17<|by decide)<|aa (y.at<|dy _<|.tail _<|.head _)<|aa (cJ.trans<|er ht) ?_);exact q _ A _ rfl gd' sp' ⟨j,tr,OU y⟩
  .have ht:r.t∉W.fl:=si e;rw[ej ht]at u;subst u;exact q _ A _ rfl gd' sp' ⟨j,tr,y⟩
end
section
variable{W W':Wo}{f c t:Nat}{H:Hp}{R F C P:List (Nat×Ob)}{Q:VP}{d o:Nat}{A:WA}{xs:List TX}{k:Nat}{r:Row}
def ix(N:0<n)(b:n<1073741824)(h:aE H<|P++(C++(o,.list [.int x])::F))(k:∀H' y r,r<n->aE H' (P++(C++(o,.list [.int y])::F))->Q (.int (r:Nat)) H'):wC (d+1) 2 [.ref o,.int n] H Q:=by
 have e:∀x:Int,(P++(C++(o,Ob.list [.int x])::F)).Perm ((o,Ob.list [.int x])::(P++(C++F))):=λx=>by rw[<-ee,<-ee];exact FC
 exact Iy N b (h.perm<|e x) λH' y r z u=>k H' y r z<|u.perm (e y).symm
def IA(s:Gs W)(z:1<=t)(y:t<=W.last)(m:Nat)(o:List UInt8):dput (xE W.st) (.int t) (.tup [.int m,.bytes o])=xE (W.put t (m,o)).st:=by
 have i:∀x:Nat×Nat×List UInt8,((V.int x.1:V)=.int t)↔x.1=t:=λx=>⟨λh=>mj<|V.int.inj h,λh=>cg (λn:Nat=>V.int n) h⟩
 have D:bR (xE W.st) (.int t)=true:=by obtain⟨s,m,e⟩:=s.all t z y;exact Hg.2 ⟨_,u1 m,eb<|(i s).2 e⟩
 rw[dput,D];refine(er rfl).trans ?_;rw[xE,xE,gY];show _=(W.st.map _).map _;rw[gY];refine lF λx u=>?_;show(if V.int x.1=V.int t then _ else _)=(λs:Nat×Nat×List UInt8=>((V.int s.1:V),V.tup [.int s.2.1,.bytes s.2.2])) (if x.1=t then _ else _);by_cases h:x.1=t;.rw[er<|(i x).2 h,er h]
 .rw[ej λe=>h<|(i x).1 e,ej h]
theorem Gd.put(g:Gd k W)(v:Nat×List UInt8)(p:v.2.length<=2):Gd (k+1) (W.put t v):=by obtain⟨ord,o⟩:=g.o;exact⟨g.g.put v,⟨ord,o.put v⟩,g.s.put v p,lH g.el,lH g.last⟩
def L6(v:Nat×List UInt8):Sp W (W.put t v):=⟨i1 _,λz z h=>⟨h,Gy⟩⟩
def s4(g:Gd k W)(ht:Tg W t){K Cc:LP}(l:L 3=some (.ref A.w))(z:L 17=some (.int t))(y:L 31=some (.int md))(x:L 32=some (.bytes ov))
 (tr:jy xs (W.put t (md,ov)) C) (h:aE H<|wL A W++(C++F)) (q:∀u H',qN A (W.put t (md,ov)) xs F H'->K u H'):wSs Φ dJ.body.tl.tl.tl L H K T Cc:=by
 have pt:1<=t/\t<=W.last:=by
  rcases ht with h|⟨e,m,rfl⟩;.exact g.g.pos t h
  .exact⟨bW g.g m,(g.g.el e m).2.2.2⟩
 refine ae y<|ae x<|ae l<|aa (h.rd<|dy _<|.head _)<|aa rfl (ae z<|aa (h.at<|dy _<|.tail _<|.tail _<|.head _)<|dT ?_<|q _ _ ⟨C,tr,?_⟩)
 .rw[xE,a9];exact dS g.s.len<|dS g.g.last<|by decide
 .rw[IA g.s pt.1 pt.2];exact OT _ h
def JG(b:Bool):Ss:=match dJ.body with|.cons _ (.cons _<|.cons (.cI _ a e) _)=>if b then a else e|_=>.nil
def s5{x:Nat}(g:Gd k W){N:Nat}(p:Mk xs N)(m:r∈rws 14 W)(j:x<4){K Cc:LP}(i:L 2=some (refs xs))(e:L 3=some (.ref A.w))(U:L 15=some (.str<|pS r.p))(O:L 17=some (.int r.t))(J:L 30=some (.int x))(M:L 32=some (.bytes (d0 W r.t).2))
 (I:jy xs W C) (h:aE H<|wL A W++(C++F)) (q:∀l H' v,v.2.length<=2->qN A (W.put r.t v) xs F H'->K l H'):wSs (wC<|d+16) (JG false) L H (λD H1=>wSs (wC<|d+16) dJ.body.tl.tl.tl D H1 K T Cc) T Cc:=by
 have me:=(aX m).1;refine ae J<|ae i<|dB (W':=W.put r.t (x,(d0 W r.t).2)) (F:=wL A W++F) (λX mX l H C G Y Cu tr y hG Q qq=>?_) (λl H' u Y tr y=>?_) I<|h.perm fT
 .exact bC λzG=>tr.oB y λτ z oc ot T hM=>zG<|ae Cu<|aa (hM.rd m0)<|ae ((Y 15<|by decide).trans U)<|ae ((Y 30<|by decide).trans J)<|Ix (d:=d+5) tr y g.g g.s m (Ja [_] [⟨1,.v 0,.n 4⟩] ⟨1,.v 0,.n 65536⟩ 1 [1] rfl j) (p X mX).1 λH' u a b=>qq H' u _ a b
 .exact s4 g (.inr ⟨_,me,rfl⟩) ((Y 3<|by decide).trans e) ((Y 17<|by decide).trans O) (Y 31<|by decide) ((Y 32<|by decide).trans M) tr (y.perm fT) λl H' s=>q l H' (x,(d0 W r.t).2) (g.s.so r.t) s
def Cv{x:Nat}(g:Gd k W){n0:Nat}(hx:Mk xs n0)(m:r∈rws 14 W)(hn:r.t∉W.fl){K Cc:LP}(l2:L 2=some (refs xs))(l3:L 3=some (.ref A.w))(AN:L 15=some (.str<|pS r.p))(zH:L 17=some (.int r.t))(J:L 30=some (.int x))(L8:x<4)(RK:L 31=some (.int (d0 W r.t).1))(e:L 32=some (.bytes (d0 W r.t).2))
 (Ct:jy xs W C) (h:aE H<|wL A W++(C++F)) (q:∀l H' v,v.2.length<=2->qN A (W.put r.t v) xs F H'->K l H'):wSs (wC<|d+16) (JG true) L H (λL1 H1=>wSs (wC<|d+16) dJ.body.tl.tl.tl L1 H1 K T Cc) T Cc:=by
 have hB:big=16777216:=rfl;have me:=(aX m).1;have u:=ur x 2<|by decide
 have I:x%2<=1:=(Ja [_] [⟨1,.v 0,.n 2⟩] ⟨0,.v 0,.n 1⟩ 1 [1] rfl (Nat.mod_lt (x) (y:=2)<|by decide));have O:=g.s.so r.t;have N:([((65+x:Nat):Int)].all λi=>decide (0<=i/\i<256))=true:=Lp [x] (λx=>65+x) λa m=>by cases dt.1 m;exact Ja [_] [⟨1,.v 0,.n 4⟩] ⟨1,.a (.n 65)<|.v 0,.n 256⟩ 1 [1] rfl L8
 refine ae e<|ae J<|aa u<|aa w5<|ae J<|aa u<|ae e<|dT ?_<|aa (add_bytes ?_)<|ae J<|aa rfl (aY N<|aa (add_bytes ?_)<|ae e<|ae J<|aa u<|aa (qx (j:=x%2+1))<|aa (add_bytes ?_) ?_);.rw[Jm];exact Rg<|c0 (vC _ _)<|c0 I<|by decide
 all_goals have U:=Nat.add_le_add (List.length_take_le (x%2) (d0 W r.t).2)<|vC (x%2) (d0 W r.t).2.length
 .rw[ra,Jm];exact c0 U<|c0 (Nat.add_le_add I I)<|by decide
 .rw[b9,ra,Jm];exact ka<|c0 U<|c0 (Nat.add_le_add I I)<|by decide
 .rw[b9,b9,ra,ye,Jm];exact c0 (Nat.add_le_add (ka<|c0 U<|Nat.add_le_add I I)<|c0 (vC _ _) O)<|by decide
 rw[Jm,Int.toNat_natCast];refine ae l2<|dB (W':=W.put r.t ((d0 W r.t).1,F2 (d0 W r.t).2 (x%2)<|UInt8.ofNat<|65+x)) (F:=wL A W++F) (λX mX l H C G Y Cu tr p hG Q qq=>?_) (λl H' M Y tr p=>?_) Ct<|h.perm fT
 .refine bC λzG=>tr.oB p λτ z oc ot T hM=>zG ?_;have D:=(Y 30<|by decide).trans J;exact ae Cu<|aa (hM.rd m0)<|ae ((Y 15<|by decide).trans AN)<|ae D<|aa u<|ae D<|aa rfl (aY N<|F6 (d:=d+4) tr p g.g g.s m hn I (hx X mX).1 λH' M a b=>qq H' M _ a b)
 .exact s4 g (.inr ⟨_,me,rfl⟩) ((Y 3<|by decide).trans l3) ((Y 17<|by decide).trans zH) ((Y 31<|by decide).trans RK) (Y 32<|by decide) tr (p.perm fT) λl H' s=>q l H' _ (by
   show(F2 _ _ _).length<=2;have:=g.s.so r.t
   rw[F4];split<;>(first|exact Ja [_] [⟨0,.v 0,.n 1⟩] ⟨0,.a (.v 0)<|.n 1,.n 2⟩ 1 [1] rfl I|exact Ja [_] [⟨0,.v 0,.n 2⟩] ⟨0,.v 0,.n 2⟩ 1 [1] rfl O)) s
def xS{x:Int}(g:Gd k W)(u:Mk xs n0)(m:r∈rws 14 W)(h:qN A W xs ((o,.list [.int x])::F) H)
 (q:∀H' D W' y,D.w=A.w->Gd (k+1) W'->Sp W W'->qN D W' xs ((o,.list [.int y])::F) H'->Q .none H'):wC (d+17) 8 [.ref A.w,refs xs,zC r,.ref o] H Q:=by
 refine bC λG=>?_;obtain⟨C,I,z⟩:=h;refine G ?_;have O:=(aX m).1;have tl:2<=r.t/\r.t<=W.last:=(g.g.el _ O).2.2;refine av rfl rfl (aa rfl (aa rfl ?_));refine ix (n:=2) (by decide) (by decide) z λH y w Y z=>?_;refine ix (n:=4) (by decide) (by decide) z λH y x j z=>?_;refine bC λG=>?_;obtain⟨s,b,l⟩:=AB<|g.s.all r.t (Ja [_] [⟨0,.n 2,.v 0⟩] ⟨0,.n 1,.v 0⟩ 2 [1] rfl tl.1) tl.2;refine G ?_;have so:d0 W r.t=s.2:=by rw[d0,b];rfl
 rw[<-so]at l;have i:=z.rd<|dy _<|.head _;have fin:∀v (H':Hp),v.2.length<=2->qN A (W.put r.t v) xs ((o,.list [.int y])::F) H'->Q .none H':=λv H' p s=>q H' A _ y rfl (g.put v p) (L6 v) s;refine aa i<|aa rfl (aa (z.rd<|dy _<|.tail _<|.tail _<|.head _)<|aa l ?_);refine dC (λa=>aa i<|aa rfl (aa (z.rd<|dy _<|.tail _<|.head _)<|b7 (λe=>aY rfl ?_) λe=>aJ rfl ?_)) λa=>aJ rfl ?_
 .rw[fc,tc,ly]at e;exact Cv g u m e rfl rfl rfl rfl rfl j rfl rfl I z λL H' v p s=>fin v H' p s
 .exact s5 g u m j rfl rfl rfl rfl rfl rfl I z λL H' v p s=>fin v H' p s
 .exact s5 g u m j rfl rfl rfl rfl rfl rfl I z λL H' v p s=>fin v H' p s
end
section
variable{W W':Wo}{f c t:Nat}{H:Hp}{R F C P:List (Nat×Ob)}{Q:VP}{d o:Nat}{A:WA}{xs:List TX}{k:Nat}{r:Row}
def L9{E:Gr}:∀(n t:Nat) (p q:List Nat),(dZ E n t p).length=(dZ E n t q).length:=λn=>by
 induction n with|zero=>exactλz z z=>rfl|succ n i=>intro t p q;rw[dZ,dZ,List.length_flatMap,List.length_flatMap];refine cg List.sum<|lF λe z=>?_;rw[mc,mc,i e.2 (p++[e.1])<|q++[e.1]]
def IB{E:Gr}(z:Ht E (N+1) 1):∀(n t:Nat) (p:List Nat),(∃r∈dZ E N 1 [],r.t=t/\r.p=p)->∀x∈dZ E n t p,x∈dZ E N 1 []:=λn=>by
 induction n with
 |zero=>intro _ _ _ x m;cases m|succ n i=>
  intro t p a x m;obtain⟨r,u,y,s⟩:=a;obtain⟨es,e,l,O,h⟩:=cb.1 m;subst y s;have M:=iv z u l O;rcases h with rfl|h;.exact M
  .exact i e.2 _ ⟨_,M,rfl,rfl⟩ x h
def IC(g:Gd k W)(ht:t∈W.fl):(dZ W.E 14 t []).length<16:=by
 have gn:=g.n;rcases g.reach ht with rfl|⟨r,mr,rfl⟩;.exact gn.cv
 .rw[L9 14 r.t [] r.p];refine dS (List.Nodup.length_le_of_subset ?_ λx m=>IB gn.ht 14 r.t r.p ⟨r,mr,rfl,rfl⟩ x m) gn.cv;exact(FP (λf es h=>by obtain⟨z,rfl⟩:=hZ h;exact(g.g.g.nm f z).nd) 14 r.t r.p).imp λh e=>h<|cg _ e
def AO{l:List V}(h:i<l.length):oS (.lst l) (.int i) H=some l[i]:=by
 show(idx l.length i).bind _=_;rw[idx,er ⟨(Ja [_] [] ⟨8,.n 0,.v 0⟩ 1 [] rfl),(Ja [_,_] [⟨1,.v 0,.v 1⟩] ⟨9,.v 0,.v 1⟩ 1 [1] rfl h)⟩]
 show l[(i:Int).toNat]?=_
 rw[Int.toNat_natCast,h8 h]
def VD{i:Nat}(h:i<3):oS (.str [97,98,99]) (.int i) H=some (.str [97+i]):=by
 match i,h with|0,_=>rfl|1,_=>rfl|2,_=>rfl
def zI{l:List Nat}{x:Nat}:k8 .c8 (.int x) (.lst (l.map λt:Nat=>.int t)) H=some (!decide (x∈l)):=by
 have z:(l.map λt:Nat=>V.int t).all (λv=>V.fU v<|.int x)=true:=ft.2 λv m=>by refine bL m λy _=>?_;rfl
 have u:V.jB (l.map λt:Nat=>V.int t)<=8:=c0 (gc (c:=0) l λs=>i1 _)<|by decide
 show Option.map _ (if _ then _ else _)=_;rw[z,eb u];refine cg (λb=>some !b)<|nX.2 ⟨λm=>?_,λm=>nW.2 ⟨x,m,rfl⟩⟩;refine oO m λy M e=>?_;rw[<-mj (V.int.inj e)];exact M
def xT(N:W.fl.Nodup)(cv:W.el.length<=12)(z:f∈W.fl)(y:Gx W f c){K Cc:LP}(l:L 3=some (.ref A.w))(M:L 11=some (.int f))(p:L 12=some (.str [c]))(u:L 17=some (.int t))(h:aE H<|wL A W++R)
 (q:∀H',aE H' (wL A (W.add f c t)++R)->K L H'):wS Φ (.fg (.sub (.sub (.var 3)<|.str sF)<|.var 11) (.var 12)<|.var 17) L H K T Cc:=by
 have D:=(cJ (v:=λf=>.ref<|A.ad f) (t:=f)).trans<|er z;refine ae u<|ae l<|aa (h.rd<|dy _<|.head _)<|aa rfl (ae M<|aa (h.rd<|dy _<|.tail _<|.head _)<|aa D<|ae p<|aa (h.at<|dy _<|cG z)<|dT ?_<|q _ ?_);.rw[eD,a9];have:=c0 (ju W f) cv;exact Ja [_] [⟨0,.v 0,.n 12⟩] ⟨1,.v 0,.n 1000000⟩ 1 [1] rfl this
 .have s:dput (eD<|W.es f) (.str [c]) (.int t)=eD ((W.add f c t).es f):=by refine(F7 λe m h=>y _ (aZ.1 m) ⟨rfl,h⟩).trans<|cg eD ?_;have:(W.add f c t).es f=W.es f++if f=f then[(c,t)]else[]:=gq;rw[this,er rfl]
  have:=Iz (el:=(W.add f c t).el) N z (λx j=>by
   have:(W.add f c t).es x=W.es x++if f=x then[(c,t)]else[]:=gq;refine this.trans ?_
   rw[ej<|Dq j,hE]) h;exact s▸this
end
section
variable{W W':Wo}{f c t:Nat}{H:Hp}{R F C P:List (Nat×Ob)}{Q:VP}{d o:Nat}{A:WA}{xs:List TX}{k:Nat}{r:Row}
def VE(A:WA)(W:Wo)(xs:List TX)(k o:Nat)(F:List<|Nat×Ob)(Q:VP):Prop:=∀z D W' y,D.w=A.w->Gd (k+1) W'->Sp W W'->qN D W' xs ((o,.list [.int y])::F) z->Q .none z
def xU(h:bR (eD<|W.es f) (.str [c])=false):Gx W f c:=JE<|by rw[<-F9];exact h
def Mb(ht:Tg W t):Sp W (W.add f c t):=⟨i1 _,λx z h=>⟨by
 rcases h with h|⟨e,m,he⟩;.exact .inl h
 .rcases eu.1 m with m|m;.exact .inr ⟨e,m,he⟩
  .obtain rfl:=dt.1 m;exact(show t=x from he)▸ht,Gy⟩⟩
def OV(O:(f,c,t)∈W.el):Sp W ((W.del f c).add f' c' t):=⟨i1 _,λx z h=>⟨by
 rcases h with h|⟨e,m,he⟩;.exact .inl h
 .rcases eu.1 m with m|m;.exact .inr ⟨e,(aF.1 m).1,he⟩
  .obtain rfl:=dt.1 m;exact .inr ⟨_,O,he⟩,Gy⟩⟩
def AP:Ss:=mG.body.tl.tl.tl.tl.tl.tl.tl
noncomputable def Ss.ID:Ss->Ss
 |.cons (.cI _ _ b) _=>b|_=>.nil
def IE(g:Gd k W)(hk:k<12)(I:Mk xs n0)(s:f∈W.fl)(hc:Nm c)(m:r∈rws 14 W)(hp:jx W f p){K Cc:LP}(l2:L 2=some (refs xs))(D:L 3=some (.ref A.w))(l6:L 6=some (.str [r.c]))(MQ:L 10=some (.int w))(Ma:L 11=some (.int f))(MP:L 12=some (.str [c]))
 (AN:L 15=some (.str<|pS r.p)) (RL:L 16=some (.int r.f)) (zH:L 17=some (.int r.t)) (PT:L 18=some (.bool<|!bR (eD<|W.es f) (.str [c]))) (PU:L 19=some (.str<|pS<|p++[c]))
 (tC:jy xs W C) (h:aE H<|wL A W++(C++(o,.list [.int y])::F)) (q:∀l H' A' W' y,A'.w=A.w->Gd (k+1) W'->Sp W W'->qN A' W' xs ((o,.list [.int y])::F) H'->K l H'):wSs (wC<|d+17) AP.ID.ID.ID L H K T Cc:=by
 have me:=(aX m).1;have M:=(aX m).2;have st:qN A W xs ((o,.list [.int y])::F) H:=⟨C,tC,h⟩;obtain⟨ord,od⟩:=g.o;have c1:=h.rd<|dy _<|.head _;have c2:=h.rd<|dy _<|.tail _<|.head _;have skip:∀l,K l H:=λl=>q l H A W y rfl g.up Sp.tQ st
 have TC:bR (eD<|W.es f) (.str [c])=false->(r.t∈W.fl->∃B,OK W r.t B/\f∉B)->wSs (wC<|d+17) (match AP.ID.ID.ID with|.cons (.cI _ a _) _=>a|_=>.nil) L H K T Cc:=λe O=>by
  have fr:=xU e;have g':=g.g.mv me s hc fr;refine ae l2<|dB (W':=(W.del r.f r.c).add f c r.t) (F:=wL A W++(o,Ob.list [.int y])::F) (λX mX l H C G Y Cu tr N hG Q qq=>?_) (λl H J Y tr N=>?_) tC<|h.perm fT
  .exact bC λzG=>tr.oB N λτ z oc ot T hM=>zG<|ae Cu<|aa (hM.rd m0)<|ae ((Y 15<|by decide).trans AN)<|ae ((Y 19<|by decide).trans PU)<|OQ (d:=d+6) tr N g.g od m s hp hc fr O (I X mX).1 λH' J a b=>qq H' J _ a b
  .have j:=N.perm fT;have df:=(cJ (v:=λf=>.ref<|A.ad f) (t:=r.f)).trans<|er M;have jg:=uI (g.g.g.nm r.f M).nd (aZ.2 me:(r.c,r.t)∈W.es r.f);have l3':=(Y 3<|by decide).trans D;refine ae l3'<|aa (j.rd<|dy _<|.head _)<|aa rfl (ae ((Y 16<|by decide).trans RL)<|aa (j.rd<|dy _<|.tail _<|.head _)<|aa df<|aa (j.rd<|dy _<|cG M)<|ae ((Y 6<|by decide).trans l6)<|aa (j.at<|dy _<|cG M)<|aa jg ?_);have u:dV (eD<|W.es r.f) (.str [r.c])=eD ((W.del r.f r.c).es r.f):=by rw[F8,dA,er rfl]
   have h1:=Iz (el:=(W.del r.f r.c).el) g.g.nd M (λx I=>(dA x).trans<|ej I) j;have h1:aE (H.set (A.ad r.f)<|.dict .str<|dV (eD<|W.es r.f)<|.str [r.c]) (wL A (W.del r.f r.c)++(J++(o,Ob.list [.int y])::F)):=by rw[u];exact h1
   refine xT (Cc:=Cc) (T:=T) (W:=W.del r.f r.c) (t:=r.t) g.g.nd (c0 (fe _ _) g.g.cv) s (λe m=>fr e (aF.1 m).1) l3' ((Y 11<|by decide).trans Ma) ((Y 12<|by decide).trans MP) ((Y 17<|by decide).trans zH) h1 λH' h2=>?_
   have gd:Gd (k+1) ((W.del r.f r.c).add f c r.t):=by
    refine⟨g',?_,⟨g.s.le,g.s.all,g.s.len,g.s.oct⟩,?_,lH g.last⟩
    .by_cases ht:r.t∈W.fl;.obtain⟨B,O,hn⟩:=O ht;exact⟨_,od.Vw O s hn⟩
     .exact⟨_,od.Vv s ht⟩
    .show((W.del r.f r.c).el++[_]).length<=_;rw[b9];exact ka<|c0 (fe _ _) g.el
   exact q _ H' A _ y rfl gd (OV me) ⟨J,tr,h2⟩
 refine ae MQ<|dC (λe=>?_) λe=>aJ rfl (skip _);refine ae PT<|b7 (λu=>?_) λu=>aJ rfl (skip _)
 have u:bR (eD<|W.es f) (.str [c])=false:=by cases hd:bR (eD<|W.es f)<|.str [c]with|false=>rfl|true=>rw[hd]at u;injection u
 refine ae zH<|ae D<|aa c1<|aa rfl (aa c2<|b7 (λi=>?_) λi=>?_);all_goals rw[fc]at i
 .have hn:r.t∉W.fl:=by rw[tc,ly]at i;exact i
  exact aY rfl (aY rfl (TC u λh=>absurd h hn))
 .have ht:r.t∈W.fl:=by rw[Bool.not_eq_false',decide_eq_true_iff]at i;exact i
  refine ae Ma<|ae D<|ae zH<|uJ (n:=14) g.g.g (λx m=>dy _ m) h ht ((od.od g.g).ht r.t ht) (by decide) (Nat.lt_trans (IC g ht)<|by decide)<|aa zI<|b7 (λU=>?_) λU=>?_
  .have U:f∉OA 14 W r.t:=by rw[tc,ly]at U;exact U
   exact aY rfl (aY rfl (TC u λzz=>⟨_,LQ g.g od ht,U⟩))
  .exact aJ rfl (aJ rfl (skip _))
def RM{H:Hp}{F:SF}{K Cc:LP}(k:F (upd (upd L x a) y b) H K T Cc):kH H (Pq (wEs Φ .nil) L'<|mI (Db<|zR L [x,y]<|kF F K T Cc) a) b:=k
def RN{H:Hp}{F:SF}{K Cc:LP}(k:F (upd (upd L x a) y b) H K T Cc):wEs Φ .nil L' H (mI (mI (Db<|zR L [x,y]<|kF F K T Cc) a) b):=k
def Gc(g:Gd k W)(hk:k<12)(i:Mk xs n0)(x:f∈W.fl)(N:Nm c)(m:r∈rws 14 W)(hp:jx W f p){K Cc:LP}(U:L 2=some (refs xs))(u:L 3=some (.ref A.w))(l4:L 4=some (.ref o))(TD:L 14=some (zC r))(l6:L 6=some (.str [r.c]))(M:L 10=some (.int w))(Ma:L 11=some (.int f))(MP:L 12=some (.str [c]))
 (AN:L 15=some (.str<|pS r.p)) (RL:L 16=some (.int r.f)) (J:L 17=some (.int r.t)) (PT:L 18=some (.bool<|! bR (eD<|W.es f) (.str [c]))) (PU:L 19=some (.str<|pS<|p++[c]))
 (tC:jy xs W C) (h:aE H<|wL A W++(C++(o,.list [.int y])::F)) (q:∀l H' D W' y,D.w=A.w->Gd (k+1) W'->Sp W W'->qN D W' xs ((o,.list [.int y])::F) H'->K l H'):wSs (wC<|d+17) AP L H K T Cc:=by
 have me:=(aX m).1;have mf:=(aX m).2;have st:qN A W xs ((o,.list [.int y])::F) H:=⟨C,tC,h⟩;obtain⟨ord,od⟩:=g.o;have c1:=h.rd<|dy _<|.head _;have c2:=h.rd<|dy _<|.tail _<|.head _;have skip:∀l,K l H:=λl=>q l H A W y rfl g.up Sp.tQ st;refine ae M<|dC (λe=>?_) λe=>ae M<|dC (λe=>?_) λe=>ae M ?_;.exact ae u<|ae U<|ae TD<|ae l4<|xS g i m st λH' D W' y I s s' eK=>q _ H' D W' y I s s' eK
 .exact ae u<|ae U<|ae TD<|xR g i m st λH' D W' I s s' eK=>q _ H' D W' y I s s' eK
 have ya:wSs (wC<|d+17) AP.ID.ID.ID L H K T Cc:=IE g hk i x N m hp U u l6 M Ma MP AN RL J PT PU tC h q;refine dC (λe4=>?_) λe4=>aJ rfl ya;refine ae J<|ae u<|aa c1<|aa rfl (aa c2<|b7 (λe3=>?_) λe3=>aJ rfl ya);have hn:r.t∉W.fl:=by rw[fc,tc,ly]at e3;exact e3
 refine ae PT<|b7 (λj=>aY rfl ?_) λj=>aJ rfl ya
 have j:bR (eD<|W.es f) (.str [c])=false:=by cases hd:bR (eD<|W.es f)<|.str [c]with|false=>rfl|true=>rw[hd]at j;injection j
 have fr:=xU j;have hl:W.el.length<12:=dS g.el hk;have tg:Tg W r.t:=.inr ⟨_,me,rfl⟩;have s:=g.g.add x N fr hl tg hn;refine ae U<|dB (W':=W.add f c r.t) (F:=wL A W++(o,Ob.list [.int y])::F) (λX mX l H C G Y Cu tr O hG Q qq=>?_) (λl H C' Y tr O=>?_) tC<|h.perm fT
 .exact bC λzG=>tr.oB O λτ z oc ot T hM=>zG<|ae Cu<|aa (hM.rd m0)<|ae ((Y 15<|by decide).trans AN)<|ae ((Y 19<|by decide).trans PU)<|Iw (d:=d+5) tr O g.g m hn x hp N fr hl (i X mX).1 λH' C' a b=>qq H' C' _ a b
 .refine xT (Cc:=Cc) (T:=T) (t:=r.t) g.g.nd g.g.cv x fr ((Y 3<|by decide).trans u) ((Y 11<|by decide).trans Ma) ((Y 12<|by decide).trans MP) ((Y 17<|by decide).trans J) (O.perm fT) λH' h2=>?_;refine q _ H' A _ y rfl ⟨s,⟨_,od.add x hn⟩,⟨g.s.le,g.s.all,g.s.len,g.s.oct⟩,?_,lH g.last⟩ (Mb tg) ⟨C',tr,h2⟩;show(W.el++[_]).length<=_;rw[b9];exact ka g.el
def xV(g:Gd k W)(I:k<12)(hx:Mk xs n0)(hn:n0<=W.last)(h:qN A W xs ((o,.list [.int x])::F) H)(q:VE A W xs k o F Q):wC (d+18) 1 [.ref A.w,refs xs,.ref o] H Q:=by
 obtain⟨C,tC,s⟩:=h;have hB:big=16777216:=rfl;have gn:=g.n;have z:=s.rd<|dy _<|.head _;have u:=s.rd<|dy _<|.tail _<|.head _
 have OW:W.fl.length<=14:=by
  have:W.fl.length<=(List.range 14).length:=g.g.nd.length_le_of_subset λx m=>Dw.2<|by have q1:=(g.g.pos x m).2;have:=g.g.last;exact Ja [_,_] [⟨0,.v 0,.v 1⟩,⟨0,.v 1,.n 13⟩] ⟨1,.v 0,.n 14⟩ 1 [1,1] rfl q1 this
  rw[List.length_range]at this;exact this
 have ek:(W.fl.map λf:Nat=>((.int f:V),V.ref<|A.ad f)).map (·.1)=W.fl.map λf:Nat=>V.int f:=gY;refine av rfl rfl (ix (n:=8) (by decide) (by decide) s λH y w hw s=>?_);have z:=s.rd<|dy _<|.head _;have u:=s.rd<|dy _<|.tail _<|.head _;refine aa z<|aa rfl (aa u ⟨?_,?_,?_⟩);.rw[ek];exact bu _ λY Y=>rfl
 .rw[a9,a9];exact Ja [_] [⟨0,.v 0,.n 14⟩] ⟨1,.v 0,.n 64⟩ 1 [1] rfl OW
 refine aa z<|aa rfl (aa u ?_);have pos:0<W.fl.length:=List.length_pos_of_mem g.g.one;refine ix (n:=(W.fl.map λf:Nat=>((.int f:V),V.ref<|A.ad f)).length) (by rw[a9];exact pos) (by rw[a9];exact Ja [_] [⟨0,.v 0,.n 14⟩] ⟨1,.v 0,.n 1073741824⟩ 1 [1] rfl OW) s λH y i hi s=>?_;rw[a9]at hi
 refine bC λzG=>?_;obtain⟨f,U,MF⟩:∃f,f∈W.fl/\oS (.lst<|dG<|(W.fl.map λf:Nat=>((.int f:V),V.ref<|A.ad f)).map (·.1)) (.int i) H=some (.int f):=by
  have e:dG (W.fl.map λf:Nat=>V.int f)=(bQ (λa b:Nat=>V.lt (.int a)<|.int b) W.fl).map λf:Nat=>V.int f:=sort_map _ _;have L:=(aL (λa b:Nat=>V.lt (.int a)<|.int b) W.fl);have Pw:i<(bQ (λa b:Nat=>V.lt (.int a)<|.int b) W.fl).length:=by rw[L.length_eq];exact hi
  refine⟨(bQ (λa b:Nat=>V.lt (.int a)<|.int b) W.fl)[i],L.subset<|List.getElem_mem Pw,?_⟩;rw[ek,e,AO<|by rw[a9];exact Pw,List.getElem_map]
 refine zG<|aa MF<|ix (n:=3) (by decide) (by decide) s λH y c TE s=>aa (VD TE) ?_;have hc:Nm (97+c):=⟨(Ja [_] [] ⟨0,.n 97,.a (.n 97)<|.v 0⟩ 1 [] rfl),(Ja [_] [⟨1,.v 0,.n 3⟩] ⟨0,.a (.n 97)<|.v 0,.n 99⟩ 1 [1] rfl TE)⟩;have st:qN A W xs ((o,.list [.int y])::F) H:=⟨C,tC,s⟩;refine dC (λY=>?_) λY=>?_;.exact xQ (d:=d) g I hx hn U hc st λT D W' O G N M=>q T D W' y O G N M
 refine jv (n:=14) gn (λx m=>dy _ m) s ?_;have cv:=gn.cv;refine aa (eq_nil<|c0 (gc (c:=1) _ λY=>i1 _)<|by decide)<|b7 (λY=>q H A W y rfl g.up Sp.tQ st) λe=>?_
 have rp:0<((rws 14 W).map zC).length:=by
  cases h:(rws 14 W).map zC with|nil=>rw[h]at e;injection e|cons a l=>exact Nat.zero_lt_succ _
 refine ix (n:=((rws 14 W).map zC).length) rp (by rw[a9];exact Ja [_] [⟨1,.v 0,.n 16⟩] ⟨1,.v 0,.n 1073741824⟩ 1 [1] rfl cv) s λH y j J s=>?_;rw[a9]at J;have mr:(rws 14 W)[j]∈rws 14 W:=List.getElem_mem J;generalize hr:(rws 14 W)[j]=r at mr;refine aa (a:=zC r) (by rw[AO<|by rw[a9];exact J,List.getElem_map,hr]) ?_;have z:=s.rd<|dy _<|.head _;have u:=s.rd<|dy _<|.tail _<|.head _;have df:=(cJ (v:=λf=>.ref<|A.ad f) (t:=f)).trans<|er U;refine aa z<|aa rfl (aa u<|aa df<|aa (s.rd<|dy _<|cG U) ?_);refine nr (n:=14) gn (λx m=>dy _ m) s (g.reach U) λp hp=>?_;have L:=xP hp;refine aa (add_str<|by show _+1<=_;exact Ja [_,_] [⟨3,.v 0,.n 16777216⟩,⟨0,.v 1,.n 28⟩] ⟨0,.a (.v 1)<|.n 1,.v 0⟩ 16777216 [29,16777216] rfl hB L)<|aa (add_str<|by rw[b9];show _+1+1<=_;exact Ja [_,_] [⟨3,.v 0,.n 16777216⟩,⟨0,.v 1,.n 28⟩] ⟨0,.a (.a (.v 1)<|.n 1)<|.n 1,.v 0⟩ 8388608 [15,8388608] rfl hB L) ?_;rw[<-oE];exact RM<|Gc (y:=y) g I hx U hc mr hp rfl rfl rfl rfl rfl rfl rfl rfl rfl rfl rfl rfl rfl tC s λL' T D W' y O G N M=>q T D W' y O G N M
end
section
variable{H:Hp}{R F:List (Nat×Ob)}{Q:VP}{d:Nat}
noncomputable def W0:Wo:=⟨[1],[],[(1,0,[])],1⟩
def OX:Gd 0 W0:=by refine⟨⟨.head _,by simp[W0],nofun,.nil,nofun,λf m h=>absurd (dt.1 m) h,λf m=>by obtain rfl:=dt.1 m;decide,by decide,by decide⟩,⟨[1],λf=>Gy,by decide,nofun,List.pairwise_singleton _ _⟩,⟨λs m=>by obtain rfl:=dt.1 m;decide,λt z y=>⟨_,.head _,(i3 y z).symm⟩,by decide,λs m=>by obtain rfl:=dt.1 m;decide⟩,by decide,by decide⟩
def OY(y:τ 1=some (ZR 1 [] xq))(x:τ 2=some (ZR 2 (zB<|z0 1) [])):Ts τ W0 (λz=>z0 1) (λz=>[]) (λz=>[]) λz=>1:=by refine⟨y,rfl,λt m=>?_,nofun⟩;obtain rfl:=dt.1 m;exact⟨⟨x,iW.new (by decide) (by decide) (by decide) (by decide)<|by decide,rfl,zu,by decide⟩,rfl,rfl,rfl,rfl,nofun⟩
def JI{C:List (Nat×Ob)}(M:Ch x0.m 3 τ C)(z:τ 1=some (ZR 1 [] xq))(y:τ 2=some (ZR 2 (zB<|z0 1) [])):ib ⟨x0,1,λx=>1⟩ W0 (C++tC x0 1 []):=
 ⟨C,τ,_,_,_,M,OY z y,rfl⟩
def TG(H:Hp)(A:WA)(x m:TA):Prop:=qN A W0 [⟨x,1,λz=>1⟩,⟨m,1,λz=>1⟩] [] H
def Mc:Ss:=IW.body.tl.tl.tl
def Cy{s:List Int}(N:s.length<=63)(k:∀(L:Loc) (H:Hp) (A:WA) (x m:TA),TG H A x m->L 0=some (.lst<|s.map .int)->L 1=some (.lst [.ref x.m,.ref m.m])->L 2=some (.lst [.ref x.t,.ref m.t])->L 3=some (.ref A.w)->wSs (wC<|d+10) Mc L H (λp H'=>Q .none H') Q (λp p=>False)):wC (d+11) 0 [.lst<|s.map .int] [] Q:=by
 have l:c9 (.lst<|s.map .int) .none (.int 63)=some (.lst<|s.map .int):=by show(some 0).bind (λa=>(clamp (s.map V.int).length (s.map V.int).length<|.int (63:Nat)).map λb=>V.lst<|cut (s.map .int) a b)=_;rw[cQ];show some (V.lst<|cut (s.map V.int) 0 _)=_;rw[cut,List.drop_zero,a9,Nat.min_eq_right N,<-List.map_take,List.take_length]
 refine av rfl rfl (aa l ?_);have h:aE [] []:=⟨.nil,nofun⟩;refine sK h λH h=>Ay h λH h=>bC λG=>h.cells λy M h=>G<|sK h λH h=>Ay h λH h=>bC λG=>h.cells λz j h=>G<|aY rfl<|ku (now:=1) (M.ms<|h.perm fT) (by decide) λH x JJ l u J h=>?_;refine h.cells λy M h=>?_;have I:=JI (l.symm▸M) u J;refine aY rfl ?_
 have h:aE H (z++(y++tC x 1 [])):=h.perm (by
  show(y++(_::_::_::(z++[]))).Perm _;rw[hE]
  exact((Cw (l₁:=[_,_,_]) (l₂:=z)).append_left y).trans fT);refine ku (now:=1) (j.ms h) (by decide) λH m GA i D b2 h=>?_;refine bC λG=>?_;refine h.cells λz j h=>?_;refine G ?_;have T1:=JI (i.symm▸j) D b2
 have h:aE H ((y++tC x 1 [])++((z++tC m 1 [])++[])):=h.perm (by
  rw[hE];show(z++([_,_,_]++(y++tC x 1 []))).Perm _;rw[<-ee]
  exact Cw);have f:jy [⟨x,1,λp=>1⟩,⟨m,1,λp=>1⟩] W0 ((y++tC x 1 [])++((z++tC m 1 [])++[])):=⟨_,_,I,⟨_,_,T1,rfl,rfl⟩,rfl⟩;generalize(y++tC x 1 [])++((z++tC m 1 [])++[])=C at h f;have h:=h.new<|.dict .str [];have hf:=h.new<|.dict .int [];refine bV hf λY u U=>?_;refine rP.of rfl rfl (U.at m1) ?_;have h2:=U.lW<|.dict .int [(.int (1:Nat),.ref u)];have T:=h2.new<|.dict .int [];refine rP.of rfl rfl (T.at m0) ?_;have O:=T.set<|.dict .int [(.int (1:Nat),.tup [.int (0:Nat),.bytes []])];refine rP.of rfl rfl (O.at m3) ?_;have h5:=aE.mid (A:=[_,_,_]) O<|.dict .str [(.str sF,.ref (H++[Ob.dict .str []]).length),(.str sS,.ref (List.set Y (H++[Ob.dict .str []]).length<|.dict .int [(.int (1:Nat),.ref u)]).length),(.str sL,.int (1:Nat))]
 have h6:aE _ (wL ⟨H.length,(H++[Ob.dict .str []]).length,(List.set Y (H++[Ob.dict .str []]).length<|.dict .int [(.int (1:Nat),.ref u)]).length,λp=>u⟩ W0++(C++[])):=h5.perm (by
  rw[hE];have e:∀a b c d:Nat×Ob,List.Perm [a,b,c,d] [d,c,a,b]:=λa b c d=>(List.reverse_perm [d,c,b,a]).trans<|.cons _<|.cons _<|.swap _ _ _
  exact(e _ _ _ _).append_right C);refine ae rfl ?_;refine RN<|k _ _ _ x m ⟨C,f,h6⟩ ?_ ?_ ?_ ?_;.rfl
 .rw[l,i];rfl
 .rfl
 .rfl
end
section
variable{H:Hp}{R F:List (Nat×Ob)}{Q:VP}{d w:Nat}{A:WA}{W W1:Wo}{xs:List TX}{k0 n0:Nat}
def pc{l l':List (Nat×Ob)}(h:∀[DecidableEq<|Nat×Ob] x,l.count x=l'.count x):l.Perm l':=
 have:DecidableEq (Nat×Ob):=λa b=>Classical.propDecidable (a=b)
 List.perm_iff_count.2 h
def Gd.le(g:Gd k W)(h:k<=k'):Gd k' W:=⟨g.g,g.o,g.s,c0 g.el h,c0 g.last<|ka h⟩
def JK{body:Loc->Hp->LP->VP->LP->Prop}{K:LP}(i:Mk xs n0)(j:List Int)(f:k0+j.length<=12)
 (b:∀(l:Loc) (H':Hp) (x:Int) (k:LP),(∀y,y≠5->l y=L y)->l 5=some (.int x)->wC (d+18) 1 [.ref w,refs xs,.ref H'.length] (H'++[.list [.int x]]) (λs O=>k l O)->body l H' k T k)
 (g:Gd k0 W1) (N:n0<=W1.last) (st:qN A W1 xs F H) (M:A.w=w)
 (fin:∀l H' D W',(∀y,y≠5->l y=L y)->D.w=w->Gd (k0+j.length) W'->Sp W1 W'->qN D W' xs F H'->K l H'):i8 body [5] none K T (j.map .int) L H:=by
 refine iu j (λq s l H=>∃A W,(∀y,y≠5->l y=L y)/\A.w=w/\Gd (k0+q.length) W/\Sp W1 W/\qN A W xs F H) ?_ (λl H J=>by obtain⟨A,W,z,a,U,u,I⟩:=J;exact fin l H A W z a U u I) L H ⟨A,W1,λs s=>rfl,M,g,Sp.tQ,st⟩;intro q x r l H k e G hK;refine bC λzG=>?_;obtain⟨A,W,z,a,U,u,⟨C,tC,h⟩⟩:=G;refine zG ?_;subst a;have m:=cg List.length e;rw[b9,mc]at m;have h1:=h.new<|.list [.int x]
 have p:∀c:Nat×Ob,(c::(wL A W++(C++F))).Perm (wL A W++(C++c::F)):=λc=>by rw[<-ee,<-ee];exact FC.symm
 refine ae rfl (b _ H x k (λy Y=>(ej Y).trans<|z y Y) rfl ?_);refine xV (d:=d) U (Ja [_,_,_,_] [⟨0,.a (.v 0)<|.v 1,.n 12⟩,⟨3,.v 1,.a (.v 2)<|.a (.v 3)<|.n 1⟩] ⟨1,.a (.v 0)<|.v 2,.n 12⟩ 1 [1,1] rfl f m) i (c0 N u.last) ⟨C,tC,h1.perm<|p _⟩ λH' D W' y e1 g' s' ⟨C',t',h'⟩=>hK _ _ ⟨D,W',λy Y=>(ej Y).trans<|z y Y,e1,?_,u.trans s',C',t',?_⟩;.rw[b9];exact g'
 .exact h'.sub<|(List.Sublist.refl _).append<|(List.Sublist.refl _).append<|List.sublist_cons_self _ _
def TH(g:Gw W)(s:Gs W):Ti 14 W:=λt h=>by
 rcases(aP _ _ _).1 h with h|h;.obtain rfl:=dt.1 h;exact s.all 1 (i1 _)<|c0 (g.pos 1 g.one).1 (g.pos 1 g.one).2
 .refine bL h λr m=>?_;have:=(g.el _ (aX m).1).2.2;have z:2<=r.t/\r.t<=W.last:=this;exact s.all _ (Ja [_] [⟨0,.n 2,.v 0⟩] ⟨0,.n 1,.v 0⟩ 2 [1] rfl this.1) z.2
def s7{C:List (Nat×Ob)}(M:Ch m top τ C)(y:τ 1=some (ZR 1 [] xq))(h:aE H<|C++R)
 (k:∀H' c v,v=H.length->Ch m top τ c->aE H' (c++((v,.inst 4 [(103,.ref m),(72,.int (2:Nat))])::R))->Q .none H'):wC (d+8) 39 [.ref H.length,.ref m] (H++[.inst 4 []]) Q:=
 xr (n':=2) (M.ms h) y oD rfl λH' z=>z.cells λc x z=>k H' c _ rfl x z
def zJ(l:List α)(f:α->V)(h:∀a,V.fU (f a) (f a)=true):V.cV (l.map f) (l.map f)=true:=by
 induction l with|nil=>rfl|cons a r i=>show(V.fU (f a) (f a)&&V.cV (r.map f) (r.map f))=true;rw[h,i];rfl
def JL(l:List T3):k8 .eq (.lst<|l.map fV) (.lst<|l.map fV) H=some true:=by
 have z:V.fU (.lst<|l.map fV) (.lst<|l.map fV)=true:=zJ l fV λa=>by unfold fV;split<;>rfl
 have y:V.dp (.lst<|l.map fV)<=8:=c0 (ka<|gc (c:=2) l λa=>by unfold fV;split<;>exact hS rfl)<|by decide
 show(if _ then _ else _)=_;rw[z,eb y];exact(er rfl).trans<|cg some<|eb rfl
def IF(s:List Int):c9 (.lst<|s.map .int) .none (.int 6)=some (.lst<|(s.take 6).map .int):=by show(some 0).bind (λa=>(clamp (s.map V.int).length (s.map V.int).length<|.int (6:Nat)).map λb=>V.lst<|cut (s.map .int) a b)=_;rw[cQ];show some (V.lst<|cut (s.map V.int) 0 _)=_;rw[cut,List.drop_zero,<-List.take_eq_take_min,List.map_take]
def Cz(s:List Int):c9 (.lst<|s.map .int) (.int 6) (.int 12)=some (.lst<|((s.take 12).drop<|min 6 s.length).map .int):=by show(clamp (s.map V.int).length 0<|.int (6:Nat)).bind (λa=>(clamp (s.map V.int).length (s.map V.int).length<|.int (12:Nat)).map λb=>V.lst<|cut (s.map .int) a b)=_;rw[cQ,cQ];show some (V.lst<|cut (s.map V.int) _ _)=_;rw[cut,<-List.take_eq_take_min,List.map_drop,List.map_take,a9]
end
section
def RP{H:Hp}{F:SF}{K Cc:LP}(k:F (upd (upd L x a) y<|.lst [p,q]) H K T Cc):bz none H (mI (mI (Dc false<|Pq (wEs Φ .nil) L'<|mI (Db<|zR L [x,y]<|kF F K T Cc) a) p) q []<|iY none H):=k
variable{H:Hp}{R F:List (Nat×Ob)}{Q:VP}{d w:Nat}{A:WA}{W W1:Wo}{xs:List TX}{k0 n0:Nat}
structure OZ(H:Hp)(A:WA)(x0 x1:TA)(W:Wo)(D0 D1:List (Nat×Ob))(JJ GA:Tr)(now a b v0 v1:Nat):Prop where
 m0:Ch x0.m (W.last+2) JJ D0
 m1:Ch x1.m (W.last+2) GA D1
 t0:∃z oc ot,Ts JJ W z oc ot λzz=>1
 t1:∃z oc ot,Ts GA W z oc ot λzz=>1
 has:aE H (D0++(D1++(tC x1 now []++(tC x0 1 []++((v0,.inst 4 [(103,.ref x0.m),(72,.int (2:Nat))])::(v1,.inst 4 [(103,.ref x1.m),(72,.int (2:Nat))])::(b,.dict .int (uU 14 W))::(a,.dict .int (rJ 14 W))::wL A W)))))
def O0:Ss:=Mc.tl.tl
def CA{I:List Int}{z u:TA}(B:TG H A z u)(l0:L 0=some (.lst<|I.map .int))(l1:L 1=some (.lst [.ref z.m,.ref u.m]))(l2:L 2=some (.lst [.ref z.t,.ref u.t]))(N:L 3=some (.ref A.w)){K Cc:LP}
 (k:∀l H' D W s p J e a b j f,(∀y,y<=4->l y=L y)->D.w=A.w->Gd 6 W->OZ H' D z u W s p J e 1 a b j f->l 6=some (.tup [.ref a,.ref b])->l 7=some (.lst [.ref j,.ref f])->wSs (wC<|d+40) O0 l H' K T Cc):
 wSs (wC<|d+40) Mc L H K T Cc:=by
 refine ae l0<|aa (IF I) ?_
 have hx:Mk [⟨z,1,λi=>1⟩,⟨u,1,λi=>1⟩] 0:=λX m=>by
  cases m with|head=>exact⟨(by decide:1<1000),λi i=>rfl⟩|tail _ m=>obtain rfl:=dt.1 m;exact⟨(by decide:1<1000),λi i=>rfl⟩
 have hj:(I.take 6).length<=6:=by rw[List.length_take];exact Ja [_] [⟨0,.v 0,.n 6⟩] ⟨0,.v 0,.n 6⟩ 1 [1] rfl (Nat.min_le_left (6)<|I.length)
 refine JK (d:=d+22) (k0:=0) hx (I.take 6) (Ja [_] [⟨0,.v 0,.n 6⟩] ⟨0,.a (.n 0)<|.v 0,.n 12⟩ 1 [1] rfl hj) (λl H' x Kk Y U hc=>ae ((Y 3<|by decide).trans N)<|ae ((Y 2<|by decide).trans l2)<|ae U hc) OX (by decide) B rfl λl H D W Y hA g i st=>?_;refine bC λzG=>?_;obtain⟨C,⟨C0,_,t0,⟨C1,_,t1,rfl,rfl⟩,rfl⟩,h⟩:=st;obtain⟨s,J,z0,VF,VG,M,T0,rfl⟩:=t0;obtain⟨p,e,z1,RQ,RR,O,T1,rfl⟩:=t1;refine zG ?_;have g:Gd 6 W:=g.le<|Ja [_] [⟨0,.v 0,.n 6⟩] ⟨0,.a (.n 0)<|.v 0,.n 6⟩ 1 [1] rfl hj;have l3':=(Y 3<|by decide).trans N;rw[<-hA]at l3';refine ae l3'<|AE (n:=14) g.n (TH g.g g.s) (λc m=>dy _ m) h λH a b h=>ae ((Y 1<|by decide).trans l1)<|aY rfl ?_
 have h1:aE H (s++(p++(tC u 1 []++(tC z 1 []++((b,.dict .int<|uU 14 W)::(a,.dict .int<|rJ 14 W)::wL D W))))):=h.perm (pc λ{_} x=>by simp only[List.count_append,List.count_cons,List.count_nil];exact i3 (Ja [_,_,_,_,_,_,_] [] ⟨0,.a (.a (.a (.v 0)<|.a (.a (.a (.v 1)<|.v 2)<|.a (.a (.v 3)<|.v 4)<|.n 0)<|.n 0)<|.v 5)<|.v 6,.a (.v 1)<|.a (.v 3)<|.a (.v 4)<|.a (.v 2)<|.a (.a (.v 0)<|.v 5)<|.v 6⟩ 1 [] rfl)<|Ja [_,_,_,_,_,_,_] [] ⟨0,.a (.v 0)<|.a (.v 1)<|.a (.v 2)<|.a (.v 3)<|.a (.a (.v 4)<|.v 5)<|.v 6,.a (.a (.a (.v 4)<|.a (.a (.a (.v 0)<|.v 3)<|.a (.a (.v 1)<|.v 2)<|.n 0)<|.n 0)<|.v 5)<|.v 6⟩ 1 [] rfl);refine s7 M T0.CV h1 λH s j e0 M h2=>?_
 have h3:aE H (p++(s++(tC u 1 []++(tC z 1 []++((j,.inst 4 [(103,.ref z.m),(72,.int (2:Nat))])::(b,.dict .int<|uU 14 W)::(a,.dict .int<|rJ 14 W)::wL D W))))):=h2.perm (pc λ{_} x=>by simp only[List.count_append,List.count_cons];exact i3 (Ja [_,_,_,_,_,_,_,_] [] ⟨0,.a (.v 0)<|.a (.a (.v 1)<|.a (.v 2)<|.a (.v 3)<|.a (.a (.v 4)<|.v 5)<|.v 6)<|.v 7,.a (.v 1)<|.a (.v 0)<|.a (.v 2)<|.a (.v 3)<|.a (.a (.a (.v 4)<|.v 5)<|.v 6)<|.v 7⟩ 1 [] rfl)<|Ja [_,_,_,_,_,_,_,_] [] ⟨0,.a (.v 0)<|.a (.v 1)<|.a (.v 2)<|.a (.v 3)<|.a (.a (.a (.v 4)<|.v 5)<|.v 6)<|.v 7,.a (.v 1)<|.a (.a (.v 0)<|.a (.v 2)<|.a (.v 3)<|.a (.a (.v 4)<|.v 5)<|.v 6)<|.v 7⟩ 1 [] rfl);refine aY rfl (s7 O T1.CV h3 λH p f e1 O h4=>?_)
 have U:=h4.perm (G:=s++(p++(tC u 1 []++(tC z 1 []++((j,.inst 4 [(103,.ref z.m),(72,.int (2:Nat))])::(f,.inst 4 [(103,.ref u.m),(72,.int (2:Nat))])::(b,.dict .int<|uU 14 W)::(a,.dict .int<|rJ 14 W)::wL D W))))) (pc λ{_} x=>by simp only[List.count_append,List.count_cons];exact i3 (Ja [_,_,_,_,_,_,_,_,_] [] ⟨0,.a (.v 0)<|.a (.a (.v 1)<|.a (.v 2)<|.a (.v 3)<|.a (.a (.a (.v 4)<|.v 5)<|.v 6)<|.v 7)<|.v 8,.a (.v 1)<|.a (.v 0)<|.a (.v 2)<|.a (.v 3)<|.a (.a (.a (.a (.v 4)<|.v 5)<|.v 6)<|.v 8)<|.v 7⟩ 1 [] rfl)<|Ja [_,_,_,_,_,_,_,_,_] [] ⟨0,.a (.v 0)<|.a (.v 1)<|.a (.v 2)<|.a (.v 3)<|.a (.a (.a (.a (.v 4)<|.v 5)<|.v 6)<|.v 7)<|.v 8,.a (.v 1)<|.a (.a (.v 0)<|.a (.v 2)<|.a (.v 3)<|.a (.a (.a (.v 4)<|.v 5)<|.v 6)<|.v 8)<|.v 7⟩ 1 [] rfl);refine d4 (g:=none) (H:=H) cU.none<|d4 (g:=none) (H:=H) cU.none<|ae rfl<|RP<|k _ H D W s p J e a b j f (λy hy=>?_) hA g ⟨M,O,⟨_,_,_,T0⟩,⟨_,_,_,T1⟩,U⟩ ?_ ?_
 .match y,hy with|0,_=>exact Y 0<|by decide|1,_=>exact Y 1<|by decide|2,_=>exact Y 2<|by decide|3,_=>exact Y 3<|by decide|4,_=>exact Y 4<|by decide
 .rfl
 .rw[e0,e1];rfl
def O1(g:Gw W)(s:Sp W W1)(t:Nat)(h:Tg W t)(z:Tg W1 t):t∈W.fl↔t∈W1.fl:=by
 refine(s.tg t ?_ z).2;rcases h with h|⟨e,m,rfl⟩;.exact(g.pos t h).2
 .exact(g.el e m).2.2.2
def d6(l:List Int):((l.take 12).drop<|min 6 l.length).length<=6:=by
 rw[ye,List.length_take];rcases Nat.le_total 6 l.length with h|h;.rw[GX h];exact Nat.sub_le_sub_right (Nat.min_le_left 12 _) 6
 .rw[Nat.min_eq_right h];exact c0 (Nat.sub_le_sub_right (Nat.min_le_right 12 _) _)<|c0 (rn<|Nat.sub_self _)<|js 6
def Ge{i:List Int}{y z:TA}{L:Loc}{K Cc:LP}(g:Gd 6 W)(M:OZ H A y z W s p JJ D 1 a b v0 v1)(l0:L 0=some (.lst<|i.map .int))(l2:L 2=some (.lst [.ref y.t,.ref z.t]))(l3:L 3=some (.ref A.w))
 (l6:L 6=some (.tup [.ref a,.ref b])) (O:L 7=some (.lst [.ref v0,.ref v1])) (q:∀H',Q (.bool true) H'):wSs (wC<|d+40) O0 L H K Q Cc:=by
 refine bC λN=>?_;obtain⟨VH,VI,⟨V8,VF,VG,T0⟩,⟨VJ,RQ,RR,T⟩,h⟩:=M;obtain⟨ord,o⟩:=g.o;refine N ?_;have mf:=λt (J:1<=t) (I:t<=W.last)=>((er I).symm:(1:Nat)=if t<=W.last then 1 else 2);have k:=T0.rp g.g;have f:=T.rp g.g;refine ae O<|aa jo<|ae O<|aa rfl<|dz (d:=d+14) g.g (o.od g.g) g.g (o.od g.g) k f (λzz zz zz=>Gy) VH VI h (ec _<|ec _<|.head _) (ec _<|ec _<|.tail _<|.head _) λH s p e j h=>?_;rw[FV];refine aa (ne_nil<|js _)<|aJ rfl ?_
 have J:aE H ((z.t,.inst 3 [(69,.ref z.m),(8,.int (1:Nat)),(78,.ref z.s),(79,.int 3),(80,.ref z.o)])::(z.s,.inst 4 [(103,.ref z.m),(72,.int 2)])::(z.o,.dict .int [])::(s++(p++(tC y 1 []++((v0,.inst 4 [(103,.ref y.m),(72,.int (2:Nat))])::(v1,.inst 4 [(103,.ref z.m),(72,.int (2:Nat))])::(b,.dict .int<|uU 14 W)::(a,.dict .int<|rJ 14 W)::wL A W))))):=h.perm (pc λ{_} x=>by simp only[tC,List.count_append,List.count_cons,List.count_nil];exact i3 (Ja [_,_,_,_,_,_,_,_,_,_,_,_,_] [] ⟨0,.a (.v 0)<|.a (.v 1)<|.a (.a (.a (.a (.n 0)<|.v 2)<|.v 3)<|.v 4)<|.a (.a (.a (.a (.n 0)<|.v 5)<|.v 6)<|.v 7)<|.a (.a (.a (.a (.v 8)<|.v 9)<|.v 10)<|.v 11)<|.v 12,.a (.a (.a (.a (.v 0)<|.a (.v 1)<|.a (.a (.a (.a (.n 0)<|.v 5)<|.v 6)<|.v 7)<|.a (.a (.a (.a (.v 8)<|.v 9)<|.v 10)<|.v 11)<|.v 12)<|.v 2)<|.v 3)<|.v 4⟩ 1 [] rfl)<|Ja [_,_,_,_,_,_,_,_,_,_,_,_,_] [] ⟨0,.a (.a (.a (.a (.v 0)<|.a (.v 1)<|.a (.a (.a (.a (.n 0)<|.v 2)<|.v 3)<|.v 4)<|.a (.a (.a (.a (.v 5)<|.v 6)<|.v 7)<|.v 8)<|.v 9)<|.v 10)<|.v 11)<|.v 12,.a (.v 0)<|.a (.v 1)<|.a (.a (.a (.a (.n 0)<|.v 10)<|.v 11)<|.v 12)<|.a (.a (.a (.a (.n 0)<|.v 2)<|.v 3)<|.v 4)<|.a (.a (.a (.a (.v 5)<|.v 6)<|.v 7)<|.v 8)<|.v 9⟩ 1 [] rfl);refine ae l2<|aa rfl (aa (J.at m0) ?_);have I:=J.set<|.inst 3 [(69,.ref z.m),(8,.int (2:Nat)),(78,.ref z.s),(79,.int 3),(80,.ref z.o)]
 have h3:aE _ (wL A W++(((p++tC z 2 [])++[])++((v0,.inst 4 [(103,.ref y.m),(72,.int (2:Nat))])::(v1,.inst 4 [(103,.ref z.m),(72,.int (2:Nat))])::(b,.dict .int<|uU 14 W)::(a,.dict .int<|rJ 14 W)::(s++tC y 1 [])))):=I.perm (pc λ{_} x=>by
  simp only[tC,List.count_append,List.count_cons,List.count_nil];exact i3 (Ja [_,_,_,_,_,_,_,_,_,_,_,_,_] [] ⟨0,.a (.a (.a (.a (.v 0)<|.a (.v 1)<|.a (.a (.a (.a (.n 0)<|.v 2)<|.v 3)<|.v 4)<|.a (.a (.a (.a (.v 5)<|.v 6)<|.v 7)<|.v 8)<|.v 9)<|.v 10)<|.v 11)<|.v 12,.a (.v 5)<|.a (.a (.a (.v 1)<|.a (.a (.a (.n 0)<|.v 10)<|.v 11)<|.v 12)<|.n 0)<|.a (.a (.a (.a (.a (.v 0)<|.a (.a (.a (.n 0)<|.v 2)<|.v 3)<|.v 4)<|.v 6)<|.v 7)<|.v 8)<|.v 9⟩ 1 [] rfl)<|Ja [_,_,_,_,_,_,_,_,_,_,_,_,_] [] ⟨0,.a (.v 0)<|.a (.a (.a (.v 1)<|.a (.a (.a (.n 0)<|.v 2)<|.v 3)<|.v 4)<|.n 0)<|.a (.a (.a (.a (.a (.v 5)<|.a (.a (.a (.n 0)<|.v 6)<|.v 7)<|.v 8)<|.v 9)<|.v 10)<|.v 11)<|.v 12,.a (.a (.a (.a (.v 5)<|.a (.v 1)<|.a (.a (.a (.a (.n 0)<|.v 6)<|.v 7)<|.v 8)<|.a (.a (.a (.a (.v 0)<|.v 9)<|.v 10)<|.v 11)<|.v 12)<|.v 2)<|.v 3)<|.v 4⟩ 1 [] rfl);have st:qN A W [⟨z,2,λt=>if t<=W.last then 1 else 2⟩] ((v0,.inst 4 [(103,.ref y.m),(72,.int (2:Nat))])::(v1,.inst 4 [(103,.ref z.m),(72,.int (2:Nat))])::(b,.dict .int<|uU 14 W)::(a,.dict .int<|rJ 14 W)::(s++tC y 1 [])) _:=
  ⟨_,⟨_,_,⟨p,D,VJ,RQ,RR,j,T.To g.g mf,rfl⟩,rfl,rfl⟩,h3⟩
 have hx:Mk [⟨z,2,λt=>if t<=W.last then 1 else 2⟩] W.last:=λX m=>by obtain rfl:=dt.1 m;exact⟨(by decide:2<1000),λt h=>ej<|Nat.not_le.2 h⟩
 have hj:((i.take 12).drop<|min 6 i.length).length<=6:=by exact d6 i
 refine ae l0<|aa (Cz i)<|JK (d:=d+22) (k0:=6) hx _ (Ja [_] [⟨0,.v 0,.n 6⟩] ⟨0,.a (.n 6)<|.v 0,.n 12⟩ 1 [1] rfl hj) (λL' H' x Kk Y h5 hc=>ae ((Y 3<|by decide).trans l3)<|ae ((Y 2<|by decide).trans l2)<|aa xg<|ae h5 hc) g (i1 _) st rfl λL' H A' W' Y hA G sp st=>?_;have G:Gd 12 W':=G.le<|Ja [_] [⟨0,.v 0,.n 6⟩] ⟨0,.a (.n 6)<|.v 0,.n 12⟩ 1 [1] rfl hj;refine bC λN=>?_;obtain⟨C,⟨C1,_,t1,rfl,rfl⟩,h⟩:=st;obtain⟨p,D,z1,RQ,RR,j,T,rfl⟩:=t1;obtain⟨OI,o'⟩:=G.o;refine N ?_;have l3':=(Y 3<|by decide).trans l3;rw[<-hA]at l3';refine ae l3'<|AE (n:=14) G.n (TH G.g G.s) (λc m=>dy _ m) h λH a' b' h=>?_;have k:=(T0.To g.g mf).rp g.g;have f:=T.rp G.g;have U:=(Y 7<|by decide).trans O;have l6':=(Y 6<|by decide).trans l6
 have l:aE H (s++(p++((v0,.inst 4 [(103,.ref y.m),(72,.int (2:Nat))])::(v1,.inst 4 [(103,.ref z.m),(72,.int (2:Nat))])::(b,.dict .int<|uU 14 W)::(a,.dict .int<|rJ 14 W)::(b',.dict .int<|uU 14 W')::(a',.dict .int<|rJ 14 W')::(tC y 1 []++(tC z 2 []++wL A' W'))))):=h.perm (pc λ{_} x=>by simp only[List.count_append,List.count_cons,List.count_nil];exact i3 (Ja [_,_,_,_,_,_,_,_,_,_,_] [] ⟨0,.a (.a (.a (.v 0)<|.a (.a (.a (.v 1)<|.v 2)<|.n 0)<|.a (.a (.a (.a (.a (.v 3)<|.v 4)<|.v 5)<|.v 6)<|.v 7)<|.v 8)<|.v 9)<|.v 10,.a (.v 3)<|.a (.v 1)<|.a (.a (.a (.a (.a (.a (.a (.v 4)<|.a (.v 2)<|.v 0)<|.v 9)<|.v 10)<|.v 5)<|.v 6)<|.v 7)<|.v 8⟩ 1 [] rfl)<|Ja [_,_,_,_,_,_,_,_,_,_,_] [] ⟨0,.a (.v 0)<|.a (.v 1)<|.a (.a (.a (.a (.a (.a (.a (.v 2)<|.a (.v 3)<|.v 4)<|.v 5)<|.v 6)<|.v 7)<|.v 8)<|.v 9)<|.v 10,.a (.a (.a (.v 4)<|.a (.a (.a (.v 1)<|.v 3)<|.n 0)<|.a (.a (.a (.a (.a (.v 0)<|.v 2)<|.v 7)<|.v 8)<|.v 9)<|.v 10)<|.v 5)<|.v 6⟩ 1 [] rfl);have hk:=O1 g.g sp;refine ae U<|aa jo<|ae U<|aa rfl<|dz (d:=d+14) g.g (o.od g.g) G.g (o'.od G.g) k f hk e j l (.head _) (.tail _<|.head _) λH s p e j l=>?_;have u:=λ{c:Nat×Ob} {F:List (Nat×Ob)} (m:c∈F)=>ec s<|ec p m;refine ae l6'<|FN (d:=d+39) g.n G.n (u<|.tail _<|.tail _<|.tail _<|.head _) (u<|.tail _<|.tail _<|.head _) (u<|.tail _<|.tail _<|.tail _<|.tail _<|.tail _<|.head _) (u<|.tail _<|.tail _<|.tail _<|.tail _<|.head _) l λH l=>aa (JL _)<|aY rfl<|ae U<|aa rfl (ae U<|aa jo ?_);refine dz (d:=d+14) G.g (o'.od G.g) g.g (o.od g.g) f k (λt h h'=>(hk t h' h).symm) j e (l.perm fT) (.tail _<|.head _) (.head _) λH p s j e l=>?_;have u:=λ{c:Nat×Ob} {F:List (Nat×Ob)} (m:c∈F)=>ec p<|ec s m;exact ae l6'<|FN (d:=d+39) G.n g.n (u<|.tail _<|.tail _<|.tail _<|.tail _<|.tail _<|.head _) (u<|.tail _<|.tail _<|.tail _<|.tail _<|.head _) (u<|.tail _<|.tail _<|.tail _<|.head _) (u<|.tail _<|.tail _<|.head _) l λH l=>aa (JL _)<|aY rfl (q _)
def law_true(s:List Int)(y:s.length<=63):wC 41 0 [.lst<|s.map .int] [] λv z=>v=.bool true:=
 Cy (d:=30) y λz z z z z B l x m L=>CA (d:=0) B l x m L λz z z z z z z z z z z z Y a g M u O=>
  Ge g M ((Y 0<|by decide).trans l) ((Y 2<|by decide).trans m) (((Y 3<|by decide).trans L).trans<|by rw[a]) u O λz=>rfl
end
section
open PySem PySem.W PyProof.Rows
def TJ(k:Value)(n:Str):Bool:=match k with|.str s _=>cq s n|_=>false
def Md(k:Value)(n:Str):k.isStr n=TJ k n:=by cases k<;>first|rfl|exact Bool.eq_iff_iff.2 ⟨λh=>beq_iff_eq.1 h▸cZ,λh=>beq_iff_eq.2<|cj h⟩
def s8(l:List DictEntry)(n:Str):Option Value:=(l.find? λe=>TJ e.key n).map (·.val)
def Gf(l:List DictEntry)(n:Str):nsFind ⟨l⟩ n=s8 l n:=by unfold nsFind findBy;rw[List.find?_toArray];exact cg (λf=>(l.find? f).map (·.val))<|funext λe=>Md e.key n
noncomputable def O2(v:Value):Bool:=match v with|.str _ _=>true|_=>false
def IG(h:O2 v=true):∃n t,v=.str n t:=by cases v<;>first|exact⟨_,_,rfl⟩|exact ff h
def xX(l:List DictEntry):Bool:=l.all λe=>O2 e.key
def AQ{h:Heap}{a:Addr}(e:h.get? a=some o)(d:o.data=.dict ⟨l⟩ n)(k:xX l=true):h.Ns a (s8 l):=
 ⟨o,⟨l⟩,n,e,d,λx H=>IG<|ft.1 k x<|Array.mem_toList_iff.2 H,Gf l⟩
noncomputable def TK(a:Nat)(v:Value):Bool:=match v with|.ref b=>Nat.beq a b|_=>false
def isRef(a:Nat)(o:Option Value):Bool:=o.any<|TK a
def Me{a:Nat}(h:TK a v=true):v=.ref a:=by cases v<;>first|exact ff h|exact cg Value.ref (Nat.eq_of_beq_eq_true h).symm
def kS{a:Nat}(h:isRef a o=true):o=some (.ref a):=let⟨_,e,h⟩:=any_some h;e.trans (cg some<|Me h)
noncomputable def IH(v:Value):Nat:=match v with|.ref a=>a|_=>0
noncomputable def PV(v:Value):Tok:=match v with|.int _ t=>t|.str _ t=>t|.bytes _ t=>t|_=>0
noncomputable def VK(d:Data):FuncData:=match d with|.func f=>f|_=>default
noncomputable def VL(d:Data):ClassData:=match d with|.cls f=>f|_=>default
noncomputable def O3(d:Data):List DictEntry:=match d with|.dict l _=>l.toList|_=>[]
noncomputable def TL(d:Data):Nat:=match d with|.dict _ n=>n|.seq _ n=>n|_=>0
noncomputable def PW(d:Data):List Value:=match d with|.seq l _=>l.toList|.fields l=>l.toList|_=>[]
noncomputable def RS(o:Obj):Bool:=match o.data with|.freed=>false|_=>true
def xY(h:RS o=true):alive o=some o:=by obtain⟨c,d,D,N⟩:=o;cases D<;>first|rfl|exact ff h
noncomputable def PX(v:V)(t:Tok):Value:=match v with|.bool b=>.bool b|.int i=>.int i t|.str l=>.str ⟨l.toArray⟩ t|.bytes l=>.bytes l.toArray t|_=>.none
noncomputable def O4(v:V):Bool:=match v with|.str l=>Nat.ble l.length 1000|.bytes l=>Nat.ble l.length 1000|.tup _=>false|.lst _=>false|.ref _=>false|_=>true
def ny(h:Nat.ble n 1000=true):n<=sizeLine:=xf▸c0 (hS h) (by decide)
def Gg(h:O4 v=true):RV σ v (PX v t):=by
 cases v with|none=>exact .nn|bool=>exact .bb|int=>exact .ii|str l=>exact .ss<|ny h|bytes l=>exact .yy<|ny h|tup=>exact ff h|lst=>exact ff h|ref=>exact ff h
noncomputable def Mf:List V->List Value->List Value
 |[],_=>[]|v::l,s=>PX v (PV<|s.headD .none)::Mf l s.tail
theorem AR:∀(l:List V) (xs:List Value),l.all O4=true->aN σ l (Mf l xs)
 |[],_,_=>.nil|v::l,xs,h=>aI h λH z=>.cons (Gg H)<|AR l _ z
noncomputable def inR(lo H a:Nat):Bool:=Nat.ble lo a&&Nat.blt a H
def Seen(h:Heap)(g:Nat->Obj)(lo H:Nat):Prop:=∀i,inR lo H i=true->h.get? i=alive (g i)
def JM(g:Nat->Obj)(lo H a:Nat):Bool:=inR lo H a&&RS (g a)
section
variable{h:Heap}{B:Shared}{g:Nat->Obj}{lo hi a:Nat}{fA cF:Nat->Addr}{f:Nat}{c:Code}
def Seen.at(s:Seen h g lo hi)(e:JM g lo hi a=true):h.get? a=some (g a):=aI e λz u=>(s a z).trans<|xY u
def xZ(g:Nat->Obj)(a:Nat):FuncData:=VK (g a).data
noncomputable def RT(b:FuncBody):List Stmt:=match b with|.stmts b=>b|_=>[]
noncomputable def RU(l:List V)(t:Nat):Value:=l.casesOn .none λz z=>.ref t
def II(d:FuncData)(l:List V):FuncData:={d with body:=.stmts<|RT d.body,globals:=mainGlobals,builtins:=builtinsNs,closure:=[],code:=.ref<|IH d.code,defaults:=RU l (IH d.defaults)}
def RW(o:Obj)(q:Str):Obj:={o with data:=.fields ⟨(PW o.data).headD .none::.str q (PV<|(PW o.data).tail.headD .none)::(PW o.data).tail.tail⟩}
def O5(o:Obj)(l:List V):Obj:={o with data:=.seq ⟨Mf l<|PW o.data⟩ (TL o.data)}
def RX(g:Nat->Obj)(a:Nat):Obj×Obj×Obj:=(g a,g<|IH (xZ g a).code,g<|IH (xZ g a).defaults)
def RY(g:Nat->Obj)(a:Nat)(c:Code):Obj×Obj×Obj:=
 (⟨.type "function",(g a).dict,.func<|II (xZ g a) c.jz,(g a).slots⟩,RW (g<|IH (xZ g a).code) (xZ g a).qualname,c.jz.casesOn (g<|IH (xZ g a).defaults) λz z=>O5 (g<|IH (xZ g a).defaults) c.jz)
def RZ(g:Nat->Obj)(lo hi a:Nat)(c:Code):Bool:=
 JM g lo hi a&&JM g lo hi (IH (xZ g a).code)&&(c.jz.isEmpty||JM g lo hi (IH (xZ g a).defaults))&&c.jz.all O4&&encC c (xZ g a).params (RT (xZ g a).body) (xZ g a).scope
def R2(s:Seen B.heap g lo hi)(e:g t=l.casesOn (g t) λz z=>O5 (g t) l)(b:(l.isEmpty||JM g lo hi t)=true)(k:l.all O4=true):
 (RU l t=.none/\l=[])\/∃T od vs n,RU l t=.ref T/\B.heap.get? T=some od/\od.data=.seq vs n/\aN (gr B) l vs.toList:=by
 cases l with|nil=>exact .inl ⟨rfl,rfl⟩|cons v l=>exact .inr ⟨t,g t,_,_,rfl,s.at b,cg Obj.data e,AR _ _ k⟩
def R3(s:Seen B.heap g lo hi)(e:RX g a=RY g a c)(b:RZ g lo hi a c=true):Kh B a c:=
 aI b λb y=>co b λu p m l=>
 have z:=cg Prod.fst e
 have k:=cg (λx=>Obj.data x.2.1) e
 .of (g a) (II (xZ g a) c.jz) _ (s.at u) (cg Obj.cls z) (cg Obj.data z) ⟨_,_,_,_,rfl,s.at p,k,rfl⟩ rfl rfl rfl rfl y (R2 s (cg (·.2.2) e) m l)
def C3(g:Nat->Obj)(a:Nat):ClassData:=VL (g a).data
noncomputable def O6(o:Obj)(i:Nat):Option Value:=(o.slots.toList[i]?).getD none
def TM(g:Nat->Obj)(a:Nat):Obj×Data:=(g a,(g (C3 g a).ns).data)
def TN(g:Nat->Obj)(a:Nat):Obj×Data:=
 (excClassObj (C3 g a).name (C3 g a).qualname a (C3 g a).ns (C3 g a).bases [.type "object"] true (C3 g a).slotNames (C3 g a).subclasses false (C3 g a).collection (g a).dict (O6 (g a) 0) (O6 (g a) 1) (O6 (g a) 2) (O6 (g a) 3) (O6 (g a) 5) "object.__new__",
  .dict ⟨O3 (g (C3 g a).ns).data⟩ (TL (g (C3 g a).ns).data))
def Mg(fA:Nat->Addr)(es:List DictEntry)(c:Nat):Bool:=
 xX es&&(s8 es "__getattribute__").isNone&&(s8 es "__getattr__").isNone&&(s8 es "__setattr__").isNone&&
  (((fK[c]?).all λf=>isRef (fA f)<|s8 es "__init__")&&((mH[c]?).all λl=>l.all λx=>isRef (fA x.2)<|s8 es<|aU x.1)&&((o9[c]?).all λl=>l.all λx=>(s8 es<|aU x).isNone))
def TP(g:Nat->Obj)(fA:Nat->Addr)(lo hi a c:Nat):Bool:=JM g lo hi a&&JM g lo hi (C3 g a).ns&&Mg fA (O3 (g (C3 g a).ns).data) c
def uQ(h:o.all p=true)(e:o=some x):p x=true:=by rw[e]at h;exact h
def none_of(h:o.isNone=true):o=none:=Option.isNone_iff_eq_none.1 h
def O7{c:Nat}(s:Seen B.heap g lo hi)(e:TM g a=TN g a)(b:TP g fA lo hi a c=true):Ds B fA a c:=
 bG b λz y b=>aI b λb u=>co b λk k2 k3 p=>bG u λj i T=>
 .of _ _ _ _ _ _ _ _ _ _ _ _ _ _ ((s.at z).trans<|cg (λx=>some x.1) e) (AQ (s.at y) (cg Prod.snd e) k) (none_of k2) (none_of k3) (none_of p)
  (λf H=>by have q:=uQ j H;exact kS q)
  (λm f H=>by obtain⟨l,e,q⟩:=j7 H;have q:=ft.1 (uQ i e:) _ q;exact kS q)
  (λx Y=>by obtain⟨l,e,q⟩:=pT Y;have q:=ft.1 (uQ T e:) _ q;exact none_of q)
end
noncomputable def so(s:String)(t:Nat):Value:=.str (Str.ofString s) t
def gL:List (String×Nat×Value):=[("_wall",193,.ref 21),("CAME",197,so "+" 196),("WENT",199,so "-" 198),("TURNED",201,so "M" 200),("MOVED",203,so "R" 202),("NameTable",244,.ref 43),("name_rows",250,.ref 52),
 ("turned_rows",256,.ref 57),("diff_rows",262,.ref 62),("rows_changed",268,.ref 67),("PoolFault",299,.ref 84),("Corrupt",315,.ref 97),("NoSpace",331,.ref 109),("Missing",347,.ref 121),("Exists",363,.ref 133),
 ("Misused",379,.ref 145),("InvalidName",395,.ref 157),("InvalidPath",411,.ref 169),("NotFolder",427,.ref 181),("IsFolder",443,.ref 193),("NotEmpty",459,.ref 205),("Loops",475,.ref 217),("number_of",483,.ref 224),
 ("octets_of",489,.ref 229),("text_octets",495,.ref 234),("octets_text",501,.ref 239),("Sink",562,.ref 284),("Cursor",625,.ref 334),("padded",633,.ref 345),("BITS",637,.int (32) 636),("zap_hash",647,.ref 352),
 ("first_bits",655,.ref 359),("salt_of",662,.ref 366),("MICRO",666,.int (1) 665),("FAT",668,.int (2) 667),("LEAF",670,.int (3) 669),("MICRO_HEAD",672,.int (7) 671),("FAT_HEAD",674,.int (18) 673),
 ("LEAF_HEAD",676,.int (8) 675),("NUMBER",678,.int (8) 677),("PLACE",680,.int (4) 679),("CHAINS",682,.int (4) 681),("LINK",684,.int (2) 683),("ENTRY",686,.int (15) 685),("LONGEST",688,.int (28) 687),
 ("want_row",696,.ref 373),("micro_octets",709,.ref 380),("micro_rows",720,.ref 387),("FatHead",765,.ref 411),("fat_head",777,.ref 422),("sort_of",784,.ref 429),("leaf_octets",790,.ref 434),
 ("want_leaf",797,.ref 441),("entry_at",809,.ref 448),("leaf_find",824,.ref 455),("leaf_rows",838,.ref 462),("leaf_bits",845,.ref 469),("first_block",855,.ref 476),("block_at",865,.ref 483),
 ("table_entry",876,.ref 490),("table_of",882,.ref 495),("zap_find",888,.ref 500),("zap_all",900,.ref 507),("Shape",962,.ref 525),("round_up",970,.ref 536),("many_of",978,.ref 543),("MOST_BITS",982,.int (16) 981),
 ("new_zap",992,.ref 550),("zap_put",998,.ref 555),("zap_take",1004,.ref 560),("make_fat",1016,.ref 567),("put_head",1025,.ref 574),("leaf_for",1036,.ref 581),("put_leaf",1051,.ref 588),("put_fat",1057,.ref 593),
 ("grow_table",1063,.ref 598),("part_leaf",1069,.ref 603),("SORTS",1073,.int (4) 1072),("MOST_SIGNS",1075,.int (28) 1074),("is_entry_name",1081,.ref 608),("want_entry_name",1088,.ref 615),("look_up",1098,.ref 622),
 ("put_entry",1109,.ref 629),("take_entry",1119,.ref 636),("entries",1125,.ref 641),("is_empty",1133,.ref 648),("FILE_SORT",1137,.int (0) 1136),("FOLDER_SORT",1139,.int (1) 1138),("LINK_SORT",1141,.int (2) 1140),
 ("ZNODE",1155,.int (21) 1154),("Znode",1203,.ref 672),("znode_octets",1211,.ref 683),("znode_of",1226,.ref 690),("load_znode",1234,.ref 697),("store_znode",1243,.ref 704),("who_is",1253,.ref 711),
 ("state_of",1259,.ref 716),("file_rows",1265,.ref 721),("names_changed",1273,.ref 728),("MOST_LINKS",1277,.int (8) 1276),("parts_of",1283,.ref 733),("link_target",1289,.ref 738),("want_folder",1298,.ref 745),
 ("start_of",1307,.ref 752),("walked",1323,.ref 759),("ahead_of",1334,.ref 766),("is_within",1344,.ref 773),("MASTER_OBJECT",1348,.int (1) 1347),("ROOT_NAME",1350,so "root" 1349),("FileView",1464,.ref 853),
 ("FILE",1466,.int (8) 1465),("FOLDER",1468,.int (9) 1467),("MASTER",1470,.int (14) 1469),("UNLINKED",1472,.int (15) 1471),("UNLINKED_NAME",1476,so "unlinked" 1475),("MOST_MODE",1478,.int (65535) 1477),
 ("MOST_SIZE",1484,.int (4294967295) 1483),("make_tree",1493,.ref 864),("FileTree",1746,.ref 1029),("MemDnode",1782,.ref 1050),("MemSet",1915,.ref 1149),("_law_pick",1926,.ref 1160),("_law_names",1938,.ref 1167),
 ("_law_path",1944,.ref 1172),("_law_below",1950,.ref 1177),("_law_make",1963,.ref 1184),("_law_take",1977,.ref 1191),("_law_turn",1994,.ref 1198),("_law_deed",2015,.ref 1205),("_law_told",2028,.ref 1212),
 ("_law_due",2034,.ref 1217),("law",2040,.ref 1222)]
noncomputable def VM:List (Nat×Nat):=[(1,20),(9,27),(26,51),(30,56),(33,61),(38,66),(42,73),(47,93),(49,105),(51,117),(53,129),(55,141),(57,153),(59,165),(61,177),(63,189),(65,201),(67,213),(70,223),(72,228),(76,233),
 (81,238),(85,245),(103,294),(124,344),(130,351),(137,358),(139,365),(154,372),(159,379),(169,386),(175,393),(187,421),(194,428),(198,433),(212,440),(215,447),(221,454),(233,461),(241,468),(245,475),(247,482),
 (249,489),(251,494),(254,499),(263,506),(272,513),(286,535),(288,542),(292,549),(297,554),(311,559),(325,566),(332,573),(334,580),(336,587),(343,592),(358,597),(368,602),(385,607),(389,614),(392,621),
 (395,628),(398,635),(404,640),(406,647),(413,654),(426,682),(436,689),(445,696),(447,703),(450,710),(452,715),(457,720),(464,727),(468,732),(470,737),(473,744),(476,751),(478,758),(500,765),(507,772),
 (517,779),(574,863),(582,870),(739,1039),(746,1060),(809,1159),(813,1166),(821,1171),(824,1176),(826,1183),(837,1190),(846,1197),(858,1204),(882,1211),(889,1216),(901,1221)]
def ent(Q:Params)(s:String)(t:Nat)(v:Value):DictEntry:=⟨PyData.keyHash Q<|Str.ofString s,so s t,v⟩
noncomputable def pick:List (Nat×Obj)->(Nat->Obj)->Nat->Obj
 |[],r,i=>r i|(a,o)::l,r,i=>match Nat.beq a i with|true=>o|false=>pick l r i
noncomputable def MR(f:Nat->Obj)(n:Nat):Nat->Nat->Nat->BT
 |0,_,_=>.nil|k+1,a,b=>match Nat.blt b n with|true=>.node (f b) (MR f n k (2*a)<|a+b)<|MR f n k (2*a)<|2*a+b|false=>.nil
def gD(Q:Params)(nm:String)(t k:Nat):Obj:=⟨.type "dict",none,.dict ⟨ent Q "__name__" 165 (so nm t)::ent Q "__doc__" 166 .none::ent Q "__package__" 167 .none::
 ent Q "__loader__" 168 (.builtin "__main__.__loader__#opaque")::ent Q "__spec__" 169 .none::ent Q "__annotations__" 170 (.ref 6)::ent Q "__builtins__" 171 (.ref 4)::
 ent Q "__file__" 173 (so "/claim/cut.py" 172)::ent Q "__cached__" 174 .none::(gL.take k).map λx=>ent Q x.1 x.2.1 x.2.2⟩ (k+9),#[]⟩
def cD(k:Nat):Obj:=⟨.none,none,.fields ⟨(VM.take k).flatMap λx=>[.int x.1 0,.int 0 0,.ref x.2]⟩,#[]⟩
def sD(Q:Params):Nat->Obj
 |0=>⟨.none,none,.dict #[] 0,#[]⟩|_=>⟨.none,none,.dict #[ent Q "type.__subclasses__.Exception.0" 296 (.int 84 0),ent Q "type.__subclasses__.Exception.n" 297<|.int 1 0] 2,#[]⟩
def fD(k:Nat):Obj:=⟨.type "type",none,.cls {name:=Str.ofString "PoolFault",bases:=[.type "Exception"],mro:=[.ref 84,.type "Exception",.type "BaseException",.type "object"],ns:=83,qualname:=Str.ofString "PoolFault",subclasses:=([Value.ref 97,.ref 109,.ref 121,.ref 133,.ref 145,.ref 157,.ref 169,.ref 181,.ref 193,.ref 205,.ref 217]:List Value).take k},#[some (.ref 68),none,some<|so "PoolFault" 271,some<|so "PoolFault" 279,some<|.builtin "Exception.__new__",some<|.bool true]⟩
def nD(Q:Params):Obj:=⟨.type "dict",none,.dict #[ent Q "__module__" 278 (so "treepool.faults" 269),ent Q "__firstlineno__" 282<|.int 42 281,ent Q "__init__" 290<|.ref 81,ent Q "__static_attributes__" 292<|.ref 82,ent Q "__weakref__" 294<|.ref 85,ent Q "__doc__" 295 .none] 3,#[]⟩
def VN(q f:Nat)(l:List Nat):Obj:=⟨.type "code",none,.fields #[so "<module>" (q+1),so "<module>"<|q+2,so "/claim/cut.py"<|q+3,.int 1 0,.int 0 0,.int 0 0,.int 0 0,.int 0 0,.ref f,.bool false,.int q 0,.ref<|f+1,.none,.none,.none,.none,
 .int (q+4) 0,.int 1 0,so "/claim/cut.py"<|q+5],#[]⟩
def VO(c:Nat):Obj:=⟨.type "frame",none,.plain,#[some (.ref c),some<|.ref 3,some<|.ref 3,none,some<|so "__main__" 164,none,some<|.ref 0]⟩
def lits(Q:Params)(nm:String)(t g c x:Nat):List (Nat×Obj):=
 [(3,gD Q nm t g),(12,cD c),(0,boot_o_0 Q),(14,VO 13),(13,VN 181 11 []),(2,sD Q x),(1,boot_o_1 Q),(4,boot_o_4 Q),(5,boot_o_5 Q),(6,boot_o_6 Q),(7,boot_o_7 Q),(8,boot_o_8 Q),(9,boot_o_9 Q),(10,boot_o_10 Q),(11,boot_o_7 Q)]++
   match x with|0=>[]|_=>[(84,fD x),(83,nD Q)]
noncomputable def eX:Env:={scope:=PySem.Challenge.pw_np0224_01.main.scope,locals:=mainNs,globals:=mainNs,cells:=[],code:=.ref 13,frame:=some 14}
noncomputable def bX:List Stmt:=behindTheImports PySem.Challenge.pw_np0224_01
def VQ(w:World)(os:OsState)(r:Nat->Obj)(nm:String)(t g c x n k:Nat):SharedT:=⟨MR (pick (lits w.params nm t g c x) r) n 11 1 0,n,(boot_heap w.params).life,Array.mk [],boot_drawn,k,os⟩
noncomputable def VR(o:Option<|Flow×SharedT×PySem.Code×Pos)(i:Nat):Obj:=o.casesOn default λs=>(s.2.1.tree.get i).getD default
noncomputable def TQ(o:Option<|Flow×SharedT×PySem.Code×Pos):Option (Flow×SharedT×PySem.Code×Pos):=o.casesOn none some
noncomputable def CB(n:Nat)(r z:Nat->Obj)(i:Nat):Obj:=cond (Nat.blt i n) (r i)<|z i
noncomputable abbrev pX:Program:=PySem.Challenge.pw_np0224_01
noncomputable abbrev qX:Pos:=⟨0,0,0,0⟩
noncomputable def VS:List Nat:=[1222,1205,1160,1167,1172,1177,1184,1191,1198,1212,1217,1068,1089,1103,1111,1118,1125,1132,1139,522,536,1047,864,878,886,893,900,907,914,921,935,942,949,963,970,977,984,998,1005,787,795,810,836,843,733,745,759,766,773,711,716,721,728,662,683,690,697,704,608,615,622,629,636,641,648,550,555,560,500,507,476,429,380,387,373,345,224,229,234,239,253,260,274,281,303,310,317,324,331,366,35,40,52,57,62,67]
noncomputable def VT:List Nat:=[1149,525,1050,1029,853,672,284,334,43]
def C4(f:Nat):Addr:=VS[f]?.getD 0
def Mh(c:Nat):Addr:=VT[c]?.getD 0
noncomputable def iL:List Nat:=[0,14,18,22,30,54,81,113,132,134,142,148]
noncomputable def jL:List Nat:=[14,4,4,8,24,27,32,19,2,8,6]
noncomputable def nL:List Nat:=[15,100,148,196,289,416,582,734,865,1034,1185,1223]
noncomputable def TR:List Nat:=[884,852,852,889,969,967,989,856,960,979,205]
noncomputable def pL:List Pos:=[⟨0,0,0,0⟩,⟨47,0,48,8⟩,⟨55,0,56,8⟩,⟨63,0,64,8⟩,⟨85,0,102,33⟩,⟨175,0,186,82⟩,⟨334,0,335,104⟩,⟨468,0,469,59⟩,⟨574,0,581,32⟩,⟨738,0,738,8⟩,⟨826,0,836,44⟩,⟨901,0,914,126⟩]
noncomputable def R4:List (String×Nat×Nat×Nat×Nat×Nat):=[("__main__",164,0,0,0,187),("treepool.faults",269,12,8,1,316),("treepool.faults",269,16,12,5,380),("treepool.faults",269,20,16,9,444),("treepool.octets",476,27,23,11,563),("treepool.zapform",663,49,32,11,766),("treepool.zaps",979,73,55,11,1037),("treepool.pathwalk",1274,101,76,11,1284),("treepool.files",1473,118,84,11,1494),("treepool.memset",1747,119,85,11,1749),("law_np0224_01",1916,126,92,11,1964),("law_np0224_01",1916,132,98,11,2041)]
noncomputable def fL:List (List Nat):=[[90,91,92,93,94,95],[],[],[76,77,78,79,80,81,82,83],[72,73,74,75,84,85,86,87,88,89],[19,20,65,66,67,68,69,70,71],[44,49,50,51,52,53,54,55,56,57,58,59,60,61,62,63,64],[22,39,40,41,42,43,45,46,47,48],[23,24,25,26,27,28,29,30,31,32,33,34,35,36,37,38],[2,3,4,5,6,11,12,13,14,15,16,17,18,21],[0,1,7,8,9,10]]
noncomputable def PY:List (List Nat):=[[8],[],[],[6],[7],[1],[5],[4],[3],[0,2],[]]
noncomputable def dO(l:List Nat)(k:Nat):Nat:=(l[k]?).getD 0
noncomputable def IJ(l:List<|List Nat)(k:Nat):List Nat:=(l[k]?).getD []
def R5(k:Nat):Pos:=(pL[k]?).getD qX
def MT(k:Nat):String×Nat×Nat×Nat×Nat×Nat:=(R4[k]?).getD ("",0,0,0,0,0)
section
variable(w:World)(os:OsState)(r:Nat->Obj)
def ST(k:Nat):SharedT:=VQ w os r (MT k).1 (MT k).2.1 (MT k).2.2.1 (MT k).2.2.2.1 (MT k).2.2.2.2.1 (dO nL k) (MT k).2.2.2.2.2
def run(k:Nat):Option (Flow×SharedT×PySem.Code×Pos):=
 PySem.W.Fast.tw10110043849684766642 PySem.W.Fast.tw14364793385576792824 pX w 11 (some<|.ref 6) 1 (dO TR k+1) (ST w os r k) (piecesOf ((bX.drop<|dO iL k).take<|dO jL k) eX (.body bX eX) (R5 k) [topFrame qX])
def gR(k i:Nat):Obj:=VR (run w os r k) i
def Mi(k:Nat):Nat:=match k with|0=>83|k+1=>dO nL<|k+2
def MU(f:Nat):Code:=(gQ[f]?).getD ⟨[],[],none,.nil⟩
def oN(k:Nat):Prop:=(TQ<|run w os r k,(IJ fL k).map λf=>RX (gR w os r k)<|C4 f,(IJ fL k).all λf=>RZ (gR w os r k) (dO nL k) (Mi k) (C4 f)<|MU f,(IJ PY k).map λc=>TM (gR w os r k)<|Mh c,
    (IJ PY k).all λc=>TP (gR w os r k) C4 (dO nL k) (Mi k) (Mh c) c)=
 (some (.next,ST w os (CB (dO nL k) r<|gR w os r k)<|k+1,.body bX eX,R5<|k+1),(IJ fL k).map λf=>RY (gR w os r k) (C4 f)<|MU f,true,(IJ PY k).map λc=>TN (gR w os r k)<|Mh c,true)
def R6:oN w os r 0:=by unfold oN;kernel_rfl
def R7:oN w os r 1:=by unfold oN;kernel_rfl
def R8:oN w os r 2:=by unfold oN;kernel_rfl
def R9:oN w os r 3:=by unfold oN;kernel_rfl
def Sa:oN w os r 4:=by unfold oN;kernel_rfl
def Sb:oN w os r 5:=by unfold oN;kernel_rfl
def Sc:oN w os r 6:=by unfold oN;kernel_rfl
def Sd:oN w os r 7:=by unfold oN;kernel_rfl
def Se:oN w os r 8:=by unfold oN;kernel_rfl
def Sf:oN w os r 9:=by unfold oN;kernel_rfl
def O8:oN w os r 10:=by unfold oN;kernel_rfl
end
noncomputable def O9(d:FuncData):Str×Str×Arguments×FuncBody×Scope×Value×Value:=(d.name,d.qualname,d.params,d.body,d.scope,d.defaults,d.kwdefaults)
noncomputable def Pa(o:Option<|Arguments×List Stmt×Scope):Str×Str×Arguments×FuncBody×Scope×Value×Value:=o.casesOn (default,default,default,default,default,.none,.none) λx=>(Str.ofString "law",Str.ofString "law",x.1,.stmts x.2.1,x.2.2,.none,.none)
def Sh(w:World)(os:OsState)(r:Nat->Obj):O9 (xZ (gR w os r 10) 1222)=Pa (PySem.W.Fast.tw10235530238920679567 pX<|Str.ofString "law"):=by kernel_rfl
def VU{P:Nat->Prop}(k:Nat)(h:k<0):P k:=absurd h<|Nat.not_lt_zero k
def Gh{P:Nat->Prop}(a:∀k,k<n->P k)(b:P n)(k:Nat)(h:k<n+1):P k:=(Nat.lt_or_eq_of_le<|sN h).elim (a k) λe=>e▸b
def Si:∀k,k<11->∀w os r,oN w os r k:=Gh (P:=λk=>∀w os r,oN w os r k) (Gh (Gh (Gh (Gh (Gh (Gh (Gh (Gh (Gh (Gh VU R6) R7) R8) R9) Sa) Sb) Sc) Sd) Se) Sf) O8
def Mj(h:TQ x=y):x=y:=by rw[<-h];cases x<;>rfl
def tabI:∀k,k<11->dO iL k+dO jL k=dO iL (k+1):=by decide
def Pb:∀k,k<11->15<=dO nL k/\Mi k<=dO nL (k+1)/\dO nL k<=dO nL (k+1)/\Mi k<=1223/\(Mi k<=83\/85<=dO nL k):=by decide
section
variable(w:World)(os:OsState)
noncomputable def rr:Nat->Nat->Obj
 |0=>λz=>default|k+1=>CB (dO nL k) (rr k)<|gR w os (rr k) k
abbrev tR(N:Nat)(s:Shared)(k:Nat)(z:Shared):Prop:=topRun treeTable pX w 11 (some<|.ref 6) N s (restOf (bX.drop<|dO iL k) eX (.body bX eX) (R5 k) [topFrame qX])=some z
def Pc(h:k<11)(c:tR w N (ST w os (rr w os<|k+1)<|k+1).abs (k+1) z):tR w (dO TR k+1+N) (ST w os (rr w os k) k).abs k z:=by have q:=Mj<|cg Prod.fst<|Si k h w os<|rr w os k;unfold run at q;rw[<-PySem.W.Fast.te10110043849684766642,<-PySem.W.Fast.te14364793385576792824]at q;unfold tR;rw[<-List.take_append_drop (dO jL k) (bX.drop<|dO iL k),List.drop_drop,tabI k h];exact piece_app (segRun_of q) c
theorem TS:∀j k,k+j=11->∃M,tR w M (ST w os (rr w os k) k).abs k (ST w os (rr w os 11) 11).abs
 |0,k,e=>by obtain rfl:k=11:=e;refine⟨2,?_⟩;unfold tR;rw[show bX.drop (dO iL 11)=[] by kernel_rfl];exact piece_nil<|by generalize(ST w os (rr w os 11) 11).abs=s;obtain⟨h,g,d,t,o⟩:=s;kernel_rfl
 |j+1,k,e=>have⟨M,h⟩:=TS j (k+1) ((Nat.add_assoc k 1 j).trans<|Nat.add_comm 1 j▸e);⟨_,Pc w os (e▸Nat.lt_add_of_pos_right (Nat.zero_lt_succ j)) h⟩
def Pd(n:Nat)(s:Shared)(t:Thread):Option (Shared×Thread):=PySem.W.Fast.tw15667345088766844465 PySem.W.Fast.tw14364793385576792824 pX w 11 (some<|.ref 6) n s t
def Sj:Pd w 12 ⟨boot_heap w.params,Array.mk [],boot_drawn,boot_toks,os⟩ (topStub pX)=some ((ST w os (rr w os 0) 0).abs,⟨PySem.W.Fast.tw11892475500146522536 PySem.W.Fast.tw14364793385576792824<|.body bX eX,.body bX eX,qX,[topFrame qX]⟩):=by kernel_rfl
def Ml(s:Shared):segRun treeTable pX w 11 (some<|.ref 6) 1 1 s (blockOf bX eX (.body bX eX) qX [topFrame qX])=some (.next,s,.body bX eX,qX):=by obtain⟨h,g,d,t,o⟩:=s;kernel_rfl
abbrev sX:Shared:=(ST w os (rr w os 11) 11).abs
abbrev hX:Heap:=(sX w os).heap
def Mm:∃M,topRun treeTable pX w 11 (some<|.ref 6) M ⟨boot_heap w.params,Array.mk [],boot_drawn,boot_toks,os⟩ (topStub pX)=some (sX w os):=by have h:=Sj w os;unfold Pd at h;rw[<-PySem.W.Fast.te15667345088766844465,<-PySem.W.Fast.te11892475500146522536,<-PySem.W.Fast.te14364793385576792824]at h;obtain⟨M,k⟩:=TS w os 11 0 rfl;exact⟨_,go_top h<|piece_block (b:=bX) (Ml w _) k⟩
end
def par(i:Nat)(h:i≠0):(i%2=1/\i=2*(i/2)+1)\/(¬i%2=1/\i=2*(i/2-1)+2):=
 have d:=xW i 2
 (Nat.mod_two_eq_zero_or_one i).elim (λm=>.inr ⟨λe=>(nomatch m.symm.trans e),by
   rw[m]at d
   cases e:i/2 with|zero=>exact absurd (d.symm.trans<|cg (2*·+0) e) h|succ j=>rw[e]at d;exact d.symm⟩) λm=>.inl ⟨m,(d.symm.trans<|cg (2*(i/2)+·) m)⟩
def VV(a j b:Nat):2*a*j+(a+b)=a*(2*j+1)+b:=by rw[Nat.mul_comm 2 a,Nat.mul_assoc,Nat.mul_add,Nat.mul_one,Nat.add_assoc]
def VW(a j b:Nat):2*a*j+(2*a+b)=a*(2*j+2)+b:=by rw[Nat.mul_comm 2 a,Nat.mul_assoc,Nat.mul_add,Nat.add_assoc]
def VX(e:i=2*j+1)(h:i+2<=p*2):j+2<=p:=Ja [_,_,_] [⟨3,.v 0,.a (.m 2<|.v 1)<|.n 1⟩,⟨0,.a (.v 0)<|.n 2,.r (.v 2) 2⟩] ⟨0,.a (.v 1)<|.n 2,.v 2⟩ 2 [1,1] rfl e h
def VY(e:i=2*j+2)(h:i+2<=p*2):j+2<=p:=Ja [_,_,_] [⟨3,.v 0,.a (.m 2<|.v 1)<|.n 2⟩,⟨0,.a (.v 0)<|.n 2,.r (.v 2) 2⟩] ⟨0,.a (.v 1)<|.n 2,.v 2⟩ 2 [1,1] rfl e h
theorem uR(f:Nat->Obj)(n:Nat):∀k a b i,a*i+b<n->i+2<=2^k->(MR f n k a b).get i=some (f<|a*i+b)
 |0,a,b,i,_,h=>absurd (c0 (Nat.le_add_left 2 i) h)<|by decide|k+1,a,b,i,z,y=>by
  show(match Nat.blt b n with|true=>BT.node (f b) (MR f n k (2*a)<|a+b) (MR f n k (2*a)<|2*a+b)|false=>.nil).get i=_;rw[show Nat.blt b n=true from Nat.ble_eq_true_of_le<|dS (Nat.le_add_left _ _) z];refine(BT.get_node ..).trans ?_;by_cases H:i=0;.rw[er H,H,Nat.mul_zero,Dp]
  .rw[ej H];refine(par i H).elim (λp=>?_) λp=>?_
   .have e:=(VV a (i/2) b).trans<|cg (a*·+b) p.2.symm;rw[er p.1,uR f n k (2*a) (a+b) (i/2) (e▸z)<|VX (p:=2^k) p.2 y,e]
   .have e:=(VW a (i/2-1) b).trans<|cg (a*·+b) p.2.symm;rw[ej p.1,uR f n k (2*a) (2*a+b) (i/2-1) (e▸z)<|VY (p:=2^k) p.2 y,e]
def IK(h:i<n):CB n r r' i=r i:=by unfold CB;rw[show Nat.blt i n=true from Nat.ble_eq_true_of_le h];rfl
def IL(h:n<=i):CB n r r' i=r' i:=by unfold CB;rw[show Nat.blt i n=false from tq.2 λe=>Nat.not_le_of_lt (hS e) h];rfl
theorem s9(r:Nat->Obj)(i:Nat):∀l:List<|Nat×Obj,(∀a∈l.map (·.1),a≠i)->pick l r i=r i
 |[],_=>rfl|(a,o)::l,h=>by show(match Nat.beq a i with|true=>o|false=>pick l r i)=_;rw[show Nat.beq a i=false from tq.2 λe=>h a (.head _)<|Nat.eq_of_beq_eq_true e];exact s9 r i l λb H=>h b<|.tail _ H
section
variable(w:World)(os:OsState)
abbrev Mn:List (Nat×Obj):=lits w.params "law_np0224_01" 1916 132 98 11
def AS(h:i<1223):(hX w os).get? i=alive (pick (Mn w) (rr w os 11) i):=by
 have e:=uR (pick (Mn w)<|rr w os 11) 1223 11 1 0 i ((Nat.one_mul i).symm▸h)<|c0 (He (rh h) 2)<|by decide
 rw[Nat.one_mul,Nat.add_zero]at e;exact abs_get h e
def Sk:∀a∈[3,12,0,14,13,2,1,4,5,6,7,8,9,10,11,84,83],a<15\/a=83\/a=84:=by decide
theorem TT(h:i<dO nL k):∀d,k+d<=11->i<dO nL (k+d)/\rr w os (k+d) i=rr w os k i
 |0,_=>⟨h,rfl⟩|d+1,l=>have I:=TT h d (HZ l);⟨ri I.1 (Pb _ l).2.2.1,(IK I.1).trans I.2⟩
def seen(h:k<11):Seen (hX w os) (gR w os (rr w os k) k) (dO nL k) (Mi k):=λi H=>aI H λlo H=>by
 have lo:=hS lo;have H:=hS H;have t:=Pb k h;rw[AS w os<|ri H t.2.2.2.1,s9 _ _ _ λa A e=>?_]
 .have q:=(TT w os (ri H t.2.1) (11-(k+1))<|rn<|Nat.add_sub_cancel' h).2;rw[Nat.add_sub_cancel' h]at q;exact cg alive<|q.trans<|IL lo
 .subst e;refine(Sk a A).elim (λq=>Nat.not_le_of_lt q<|c0 t.1 lo) λq=>t.2.2.2.2.elim (λu=>?_) λu=>?_;.exact Nat.not_le_of_lt (ri H u)<|q.elim (·▸i1 _) (·▸by decide)
  .exact Nat.not_le_of_lt (ri (q.elim (·▸by decide) (·▸by decide):a<85) u) lo
end
def Pe(h:((List.range n).all λf=>(List.range 11).any λk=>(IJ L k).contains f)=true)(H:f<n):∃k,k<11/\f∈IJ L k:=by obtain⟨k,y,e⟩:=Hg.1<|ft.1 h f<|Dw.2 H;exact⟨k,Dw.1 y,List.contains_iff_mem.1 e⟩
def Gi(h:P.code f=some c):f<96:=(by decide+kernel:gQ.length=96)▸(f5.1 (show gQ[f]?=some c from h)).1
def Gj(h:P.init c=some f):c<9:=(by decide+kernel:fK.length=9)▸(f5.1 (show fK[c]?=some f from h)).1
abbrev Sl(w:World)(os:OsState):Shared:={sX w os with gens:=#[]}
def TU(w:World)(os:OsState)(y:k<11)(H:f∈IJ fL k):RX (gR w os (rr w os k) k) (C4 f)=RY (gR w os (rr w os k) k) (C4 f) (MU f)/\RZ (gR w os (rr w os k) k) (dO nL k) (Mi k) (C4 f) (MU f)=true:=by have q:=Si k y w os<|rr w os k;exact⟨List.map_inj_left.1 (cg (·.2.1) q) f H,ft.1 (cg (·.2.2.1) q) f H⟩
def Sm(w:World)(os:OsState)(f:Nat)(c:Code)(y:P.code f=some c):Kh (Sl w os) (C4 f) c:=by
 obtain⟨k,H,z⟩:=Pe (L:=fL) (by decide+kernel)<|Gi y;have e:=TU w os H z
 have U:MU f=c:=by unfold MU;rw[show gQ[f]?=some c from y];rfl
 rw[U]at e
 exact R3 (seen w os H) e.1 e.2
def Sn(w:World)(os:OsState)(c f:Nat)(z:P.init c=some f):Ds (Sl w os) C4 (Mh c) c:=by obtain⟨k,y,H⟩:=Pe (L:=PY) (by decide+kernel)<|Gj z;have q:=Si k y w os<|rr w os k;have b:=ft.1 (cg (·.2.2.2.2) q) c H;exact O7 (seen w os y) (List.map_inj_left.1 (cg (·.2.2.2.1) q) c H) b
def gE(Q:Params):List DictEntry:=O3 (gD Q "law_np0224_01" 1916 132).data
def bE(Q:Params):List DictEntry:=O3 (boot_o_0 Q).data
def TV(Q:Params):List DictEntry:=O3 (sD Q 11).data
section
variable(w:World)(os:OsState)
def Gk(h:i<1223)(e:pick (Mn w) (rr w os 11) i=o)(H:RS o=true):(hX w os).get? i=some o:=by rw[AS w os h,e,xY H]
def So:(hX w os).get? builtinsNs=some (boot_o_0 w.params):=Gk (i:=0) w os (by decide) rfl (by kernel_rfl)
def VZ:(hX w os).get? sysModules=some (boot_o_1 w.params):=Gk (i:=1) w os (by decide) rfl (by kernel_rfl)
def PZ:(hX w os).get? cStatics=some (sD w.params 11):=Gk (i:=2) w os (by decide) rfl (by kernel_rfl)
def Pf:(hX w os).get? mainGlobals=some (gD w.params "law_np0224_01" 1916 132):=Gk (i:=3) w os (by decide) rfl (by kernel_rfl)
def V0:(hX w os).get? 4=some (boot_o_4 w.params):=Gk w os (by decide) rfl (by kernel_rfl)
end
def Ph(Q:Params):(xX (gE Q)&&xX (bE Q)&&xX (TV Q))=true:=by kernel_rfl
def JN(Q:Params):(gD Q "law_np0224_01" 1916 132).data=.dict ⟨gE Q⟩ 141:=by kernel_rfl
def Pi(Q:Params):(boot_o_0 Q).data=.dict ⟨bE Q⟩ 159:=by kernel_rfl
def Pj(Q:Params):(sD Q 11).data=.dict ⟨TV Q⟩ 2:=by kernel_rfl
def MV:List (Str×Value):=[B.len,.list,.dict .AU,.bytes,.bytearray,.sum,.all,.min,.max,.tuple,.int,.ord,.chr].map λb=>(My b,Bg b)
noncomputable def V1(b:B):Nat:=b.casesOn 0 1 (λz=>2) 3 4 5 6 7 8 9 10 11 12
def Mo(b:B):MV[V1 b]?=some (My b,Bg b):=by cases b<;>rfl
def Sq(Q:Params):(globT.all (λx=>O4 x.2)&&((List.range 96).all λf=>!isFree f||isRef (C4 f) (s8 (gE Q)<|Mx f))&&((List.range 9).all λc=>isRef (Mh c)<|s8 (gE Q)<|Nw c)&&((MV++rS).all λp=>(s8 (gE Q) p.1).isNone))=true:=by kernel_rfl
def Pk(Q:Params):(globT.map λx=>s8 (gE Q)<|aU x.1,(MV++rS).map λp=>s8 (bE Q) p.1)=(globT.map λx=>some<|PX x.2<|PV<|(s8 (gE Q)<|aU x.1).getD .none,(MV++rS).map λp=>some p.2):=by kernel_rfl
theorem nA:∀{l:List (Nat×V)},l.lookup g=some v->(g,v)∈l
 |(a,b)::l,h=>by
  rw[wh]at h
  cases e:g==a with
  |true=>rw[e]at h;obtain rfl:=dR h;obtain rfl:=beq_iff_eq.1 e;exact .head _
  |false=>rw[e]at h;exact .tail _<|nA h
def Pl(w:World)(os:OsState):Base (Sl w os) Mh C4:=
 bG (Ph w.params) λk k2 k3=>co (Sq w.params) λs j c3 z=>
 have e:∀x∈globT,s8 (gE w.params) (aU x.1)=some (PX x.2<|PV<|(s8 (gE w.params)<|aU x.1).getD .none):=List.map_inj_left.1<|cg Prod.fst<|Pk w.params
 have u:∀p∈MV++rS,s8 (bE w.params) p.1=some p.2:=List.map_inj_left.1 (cg Prod.snd<|Pk w.params)
 {big:=aw (VZ w os)
  lim:=⟨_,AQ (PZ w os) (Pj _) k3,by kernel_rfl⟩
  ns:=.of _ _ (AQ (Pf w os) (JN _) k) (AQ (So w os) (Pi _) k2)
   (λg v H=>have m:=nA (l:=globT) H;⟨_,e _ m,Gg (ft.1 s _ m:)⟩)
   (λf c y i=>by have h:=ft.1 j f<|Dw.2<|Gi y;rw[i]at h;exact kS h)
   (λc f y=>by have h:=ft.1 c3 c<|Dw.2<|Gj y;exact kS h)
   (λb=>have m:=dy rS<|nf<|Mo b;⟨none_of (ft.1 z _ m:),u _ m⟩)
   (λp a=>have m:=ec MV a;⟨none_of (ft.1 z _ m:),u _ m⟩)
  fns:=Sm w os
  cls:=Sn w os}
section
variable(w:World)(os:OsState)
def uS{h:Heap}(e:h.get? a=some o)(k:(match o.data with|.dict es _=>es.all (λe=>match e.key with|.str _ _=>true|_=>false)|_=>false)=true):h.isNs a=true:=by unfold Heap.isNs;rw[e];exact k
def P0:(hX w os).isNs mainGlobals=true:=uS (Pf w os)<|by kernel_rfl
def TW:(hX w os).isNs builtinsNs=true:=uS (So w os)<|by kernel_rfl
def TY:(hX w os).isNs cStatics=true:=uS (PZ w os)<|by kernel_rfl
def IM:staticsOk [] (boot_heap w.params) (hX w os)=true:=by unfold staticsOk;rw[TY w os];unfold Heap.nsKeys Heap.nsMap;rw[show(hX w os).get? cStatics=_ from PZ w os];kernel_rfl
def Mp:(hX w os).accountedOkI []=true:=by unfold Heap.accountedOkI;rw[TY w os];unfold Heap.nsKeys Heap.nsMap;rw[show(hX w os).get? cStatics=_ from PZ w os];kernel_rfl
def IN:laidKept (boot_heap w.params) (hX w os)=true:=by unfold laidKept;rw[P0 w os];unfold Heap.nsMap;rw[show(hX w os).get? mainGlobals=_ from Pf w os];kernel_rfl
def Mq:(hX w os).bltView=bltViewBooted:=by unfold Heap.bltView Heap.nsPairs;rw[show(hX w os).get? builtinsNs=_ from So w os];kernel_rfl
def Gl:namesBound pX (hX w os)=true:=by unfold namesBound;rw[P0 w os];unfold Heap.nsKeys;rw[show(hX w os).get? mainGlobals=_ from Pf w os];kernel_rfl
end
def zK:opening pX=plainProg pX.main.scope.names:=by kernel_rfl
def AT:importedModules pX.main.body=[]:=by kernel_rfl
def x7(s:Shared):fenceModules? pX s=some s:=by kernel_rfl
def how_ok:opensWell pX=true:=by kernel_rfl
def bare_ok:pX.bare:=by refine⟨rfl,rfl,rfl,rfl,rfl,?_⟩;kernel_rfl
def Mr:(PySem.W.Fast.tw10235530238920679567 pX<|Str.ofString "law").map (λx=>(x.1.defaults.length,x.1.kwonlyargs.length,x.1.kw_defaults.length))=some (0,0,0):=by kernel_rfl
def JO(w:World):s8 (gE w.params) (Str.ofString "law")=some (.ref 1222)/\s8 (gE w.params) (Str.ofString "__builtins__")=some (.ref 4):=by constructor<;>kernel_rfl
def TZ(w:World)(os:OsState)(h:s8 (gE w.params) n=some v):globalOf (hX w os) n=some v:=by refine(Pin.globalOf_eq (P0 w os) n).trans ?_;unfold Heap.nsMap;rw[show(hX w os).get? mainGlobals=_ from Pf w os];show(match(gD w.params "law_np0224_01" 1916 132).data with|.dict es _=>nsFind es _|_=>none)=_;rw[JN];exact(Gf _ _).trans h
def IO{lo i:Nat}(s:Seen h g lo i)(e:g 1222=⟨.type "function",(g 1222).dict,.func<|II (xZ g 1222) [],(g 1222).slots⟩)(b:JM g lo i 1222=true)(J:globalOf h (Str.ofString "law")=some (.ref 1222))
 (H:O9 (xZ g 1222)=Pa (PySem.W.Fast.tw10235530238920679567 pX<|Str.ofString "law")):isTheDefsW pX h (Str.ofString "law"):=by
 refine Gm Mr λ⟨a,z,f⟩ ht D=>?_;rw[ht]at H;rw[<-PySem.W.Fast.te10235530238920679567]at ht;have u:=cg Prod.snd H;refine⟨1222,_,II (xZ g 1222) [],a,z,f,J,s.at b,cg Obj.data e,ht,cg Prod.fst H,cg (·.1) u,cg (·.2.1) u,cg (λx:Str×Arguments×FuncBody×Scope×Value×Value=>FuncBody.stmts<|RT x.2.2.1) u,cg (·.2.2.2.1) u,rfl,rfl,rfl,.inl ⟨List.length_eq_zero_iff.1<|cg (·.1) D,rfl⟩,[],?_,.inl ⟨rfl,cg (·.2.2.2.2.2) u⟩⟩;rw[List.length_eq_zero_iff.1<|cg (·.2.1) D,List.length_eq_zero_iff.1<|cg (·.2.2) D];rfl
def IP(w:World)(os:OsState):isTheDefsW pX (hX w os) (Str.ofString "law"):=
 have e:=TU w os (k:=10) (f:=0) (by decide) (.head _)
 bG e.2 λb z z=>bG b λb z z=>IO (seen w os (by decide:10<11)) (cg Prod.fst e.1) b (TZ w os (JO w).1)<|Sh w os<|rr w os 10
def Sr(w:World):globalOf (boot_heap w.params) "__annotations__"=some (.ref 6):=by kernel_rfl
def top_ok(w:World):(∃s,AfterRun (opening pX) w s)/\∀s,AfterRun (opening pX) w s->∃qp,fenceModules? pX s=some qp/\qp.gens=#[]/\∃s₁ Y fA,TopRan pX w qp s₁/\isTheDefsW pX s₁.heap (Str.ofString "law")/\s₁.asleep/\leftWithCleanup s₁.gens=false/\Base {s₁ with gens:=#[]} Y fA:=by
 have h:=boot_open (p:=pX) (N:=600) zK rfl x7 w;rw[<-table_eq_tree]at h;refine Gm h λqp e H=>zL e λs c m=>?_;have A:=AfterImport.of_importEnds c;refine⟨⟨s,A⟩,λy G=>?_⟩;obtain rfl:=AfterImport.unique G A;obtain rfl:y=qp:=dR<|(x7 y).symm.trans m;have z:=A.life;obtain⟨h,O,d,k,os⟩:=y;obtain⟨rfl,H⟩:=Prod.mk.inj H;obtain⟨rfl,H⟩:=Prod.mk.inj H;obtain⟨rfl,rfl⟩:=Prod.mk.inj H;obtain⟨M,j⟩:=Mm w os;rw[<-table_eq_tree]at j;have i:(Shared.mk (boot_heap w.params) (Array.mk []) boot_drawn boot_toks os).asleep:=z;obtain⟨a,l,o,U⟩:=topRun_spec _ _ _ _ i j
 refine⟨_,m,rfl,sX w os,Mh,C4,⟨a,l,Shared.rest_eq o,λb ob f u=>U b ob (p9 f) (λq=>u<|.inl q) (λq=>u<|.inr<|.inl q) (λq=>u<|.inr<|.inr<|(Sr w).trans q) f,
  ?_,?_,Pin.keysAreStrs_of<|P0 w os,λx T=>(Pin.builtinOf_eq (TW w os) x).trans<|Heap.of_bltView (TW w os) (Mq w os) x T,?_,λg Q=>?_,names_of_bound<|Gl w os,laid_of_kept<|IN w os⟩,IP w os,Shared.asleep_of_life l i,by kernel_rfl,Pl w os⟩;.rw[AT];exact Heap.accountedI_of_ok<|Mp w os
 .rw[AT];exact statics_of_ok<|IM w os
 .exact⟨4,_,TZ w os (JO w).2,V0 w os,by kernel_rfl,by kernel_rfl⟩
 .exact(nomatch Array.mem_toList_iff.2 Q)
noncomputable abbrev lX:OpenLaw:=PySem.Challenge.rw_np0224_01
def V2:lX.row.wellSaid=true:=(congrFun PySem.W.Fast.te17960256430627541270 _).trans<|by kernel_rfl
def wsL:lX.wellSaid=true:=by
 unfold OpenLaw.wellSaid;iterate 18 (refine look_both ?_<|by kernel_rfl)
 exact V2
end
end
end Mine
open PySem PySem.W
theorem PySem.Challenge.cw_np0224_01_holds : PySem.Challenge.rw_np0224_01.Holds :=
  holds_law Mine.wsL fun said => Mine.law_row rfl rfl rfl rfl said Mine.bare_ok Mine.how_ok Mine.top_ok (fun is hl => ⟨41, by decide, Mine.law_true is hl⟩)
