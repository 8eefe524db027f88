import PyProof.Rows.All
import Wide.All
import OpenK.AllK
import Wide.FinOn
import KE.KSetDisp
import KE.KDictSum
import Lean
import PySem.Challenge.RW_xm0194_01
set_option bootstrap.genMatcherCode false
set_option genSizeOf false
set_option genInjectivity false
set_option linter.all false
set_option Elab.async false
set_option maxRecDepth 1000000
set_option maxHeartbeats 0
open PySem PySem.W PySem.Calls PyProof.Rows PySem.Spec
namespace Mine
noncomputable section
theorem aV:type_of% @Option.some.inj:=@Option.some.inj
theorem aW{α:Type _}{p:α→Prop}{a:α}{l:List α}:p a∧(∀x∈l,p x)→∀x∈a::l,p x:=List.forall_mem_cons.mpr
theorem aX:type_of% @Heap.get?_push_of_some:=@Heap.get?_push_of_some
theorem aY:type_of% @Nat.eq_of_beq_eq_true:=@Nat.eq_of_beq_eq_true
theorem aZ{α:Type _}{l:List α}{i:Nat}{a:α}:l[i]? =some a→∃h:i<l.length,l[i]=a:=List.getElem?_eq_some_iff.mp
theorem a0:type_of% @List.mem_of_getElem?:=@List.mem_of_getElem?
theorem a_{α:Type _}{a b:α}:a∈[b]→a=b:=List.mem_singleton.mp
theorem bc:type_of% @List.getElem?_take_of_lt:=@List.getElem?_take_of_lt
theorem bf:type_of% @Heap.get?_push_size:=@Heap.get?_push_size
theorem bg{α:Type _}{a:α}{s t:List α}:a∈s++t→a∈s∨a∈t:=List.mem_append.mp
theorem bh{α:Type _}{p:α→Bool}{l:List α}:l.all p=true→∀x∈l,p x=true:=List.all_eq_true.mp
theorem bj:type_of% @List.getElem?_eq_getElem:=@List.getElem?_eq_getElem
theorem bk:type_of% @List.mem_cons_of_mem:=@List.mem_cons_of_mem
theorem bo:type_of% @List.mem_cons_self:=@List.mem_cons_self
theorem bp:type_of% @List.getElem?_append_left:=@List.getElem?_append_left
theorem bw:type_of% @Nat.le_of_ble_eq_true:=@Nat.le_of_ble_eq_true
theorem bx:type_of% @Nat.ne_of_lt:=@Nat.ne_of_lt
theorem bz:type_of% @List.not_mem_nil:=@List.not_mem_nil
theorem bB:type_of% @List.getElem?_append_right:=@List.getElem?_append_right
theorem bC:type_of% @wpAny_bind:=@wpAny_bind
theorem bD:type_of% @wpAny_pure:=@wpAny_pure
theorem cF{P:Prop}(h:false=true):P:=Bool.noConfusion h
theorem zz{P:Prop}(h:∀G:Prop,(P→G)→G):P:=h P id
inductive J where
 |none|bool (b:Bool)|int (i:Int)|str (x:Str)
 |tup (l:List J)|lst (l:List J)|fB (l:List (Str×J))|obj (c:Addr) (l:List (Str×J))
 |loc (i:Nat)|dC (a:Addr)|typ (n:String)|blt (n:String)|exc (k:Int)|ip
inductive MO where
 |lst (l:List J)|lr (l:List (Str×J))|ins (c:Addr) (d:Nat)|lS (l:List (Str×J))|fr (k:Nat) (l:List (Option J))|fg (v:Option J)
 |tab (cc:Addr) (l:List (Nat×Nat))
 |pair
 |dead
 |Jp
 |iI (ds:List (Nat×Nat))
 |lu
structure Cx where
 prog:Program
 w:World
 h0:Heap
 os:OsState
 dE:Nat→List Str
 cT:Addr
 lT:Addr→Str
 d9:List Addr:=[]
 lu:Obj:=default
noncomputable def Cx.bare(c:Cx):Cx:={c with d9:=[]}
noncomputable def nf(o:Obj):Bool:=match o.data with|.fields _=>false|_=>true
noncomputable def j4(o:Obj):Bool:=match o.data with|.fields _=>(match o.cls with|.type n=>n !="traceback"|.none=>true|_=>false)|_=>true
theorem HY{o:Obj}(h:nf o=true):j4 o=true:=by
 obtain⟨cl,d,dt,sl⟩:=o
 cases dt<;>first|rfl|cases h
noncomputable def mC(o:Obj):Bool:=match o.cls with|.type n=>n=="frame"|_=>false
def im(o:Obj):Bool:=j4 o&&!mC o
theorem aob{o:Obj}{C:Addr}(h:o.cls=.ref C):mC o=false:=by unfold mC;rw[h]
theorem D5{o:Obj}(h:o.cls=.type "dict"):mC o=false:=by unfold mC;rw[h];decide
theorem vx{o:Obj}(h:j4 o=true)(hf:mC o=false):im o=true:=by unfold im;rw[h,hf];rfl
theorem Px{o:Obj}(h:nf o=true)(hf:mC o=false):im o=true:=vx (HY h) hf
theorem RZ{o:Obj}(h:mC o=true):im o=false:=by unfold im;rw[h];simp
theorem aop{o:Obj}(h:im o=true):j4 o=true:=by unfold im at h;exact(Bool.and_eq_true_iff.mp h).1
theorem Rq{o:Obj}(h:j4 o=false):im o=false:=by unfold im;rw[h];rfl
theorem OT{o o':Obj}(h1:o'.cls=o.cls)(h2:o'.data=o.data):j4 o'=j4 o:=by unfold j4;rw[h1,h2]
theorem an8{o o':Obj}(h1:o'.cls=o.cls):mC o'=mC o:=by unfold mC;rw[h1]
noncomputable def dY(c:Cx)(ρ:List Addr)(a:Addr):Prop:=a∉ρ∧a∉c.d9
structure Sm(o o':Obj):Prop where
 cls:o'.cls=o.cls
 dict:o'.dict=o.dict
 im:im o=true→o'=o
 nf:nf o'=nf o
 data:j4 o=true→o'.data=o.data
theorem Sm.refl(o:Obj):Sm o o:=⟨rfl,rfl,fun Z=>rfl,rfl,fun Z=>rfl⟩
theorem Sm.Rr{o o':Obj}(x:Sm o o')(h:∀k,o.data≠.cls k)(k:ClassData):o'.data≠.cls k:=by
 cases q:Mine.j4 o with
 |true=>rw[x.data q];exact h k
 |false=>
  have h1:Mine.nf o=false:=by
   cases h2:Mine.nf o with
   |false=>rfl
   |true=>rw[HY h2]at q;cases q
  have h3:=x.nf
  rw[h1]at h3
  intro h4
  unfold Mine.nf at h3
  rw[h4]at h3;cases h3
theorem Sm.trans{o o1 o2:Obj}(x:Sm o o1)(y:Sm o1 o2):Sm o o2:=by
 refine⟨y.cls.trans x.cls,y.dict.trans x.dict,fun q=>?_,y.nf.trans x.nf,fun q=>?_⟩
 ·have e:=x.im q
  subst e
  exact y.im q
 ·have e:=x.data q
  exact(y.data (by rw[OT x.cls e];exact q)).trans e
noncomputable def gS(Vs:List Value)(n:Nat):Obj:={cls:=.type "tuple",data:=.seq Vs.toArray n}
noncomputable def gm(Vs:List Value)(n:Nat):Obj:={cls:=.type "list",data:=.seq Vs.toArray n}
noncomputable def j5(a b m:Int):Int×Int×Int:=match decide (a>0)with
 |true=>(a.fmod m,a.fdiv m,b)
 |false=>(((((b*39373+7).fmod 2147483647)*((b*39373+7).fmod 2147483647)).fmod 2147483629).fdiv 32|>.fmod m,a,(b*39373+7).fmod 2147483647)
noncomputable def rA:Int→Int→List (Nat×Nat)→Prop
 |_,_,[]=>True
 |x,y,(m,r)::ds=>0<m∧m<1073741824∧(j5 x y (.ofNat m)).1=.ofNat r∧rA (j5 x y (.ofNat m)).2.1 (j5 x y (.ofNat m)).2.2 ds
noncomputable def n6(l:List (Nat×Nat))(x y:Nat):Bool:=@List.rec (Nat×Nat) (fun Z=>Bool) false (fun p Z ih=>@Bool.rec (fun Z=>Bool) ih true (Nat.beq p.1 x&&Nat.beq p.2 y)) l
noncomputable def iS(c:Cx):KeyKind c.prog c.w Str:=strKind c.prog c.w
noncomputable def band(a b:Bool):Bool:=@Bool.rec (fun Z=>Bool) false b a
theorem yT(a b:Bool):band a b=(a&&b):=by cases a<;>rfl
theorem ew{a b:Bool}(h:band a b=true):a=true∧b=true:=by rw[yT]at h;exact Bool.and_eq_true_iff.mp h
def ef(n:Nat)(v:J):Bool:=@J.rec (fun Z=>Bool) (fun Z=>Bool) (fun Z=>Bool) (fun Z=>Bool) true (fun Z=>true) (fun Z=>true) (fun Z=>true) (fun Z ih=>ih) (fun Z ih=>ih) (fun Z ih=>ih) (fun Z Z Z=>true) (fun i=>Nat.blt i n) (fun Z=>true) (fun Z=>true) (fun Z=>true) (fun Z=>true) true
 true (fun Z Z a b=>band a b) true (fun Z Z a b=>band a b) (fun Z Z a=>a) v
def ek(n:Nat)(l:List J):Bool:=@J.rec_1 (fun Z=>Bool) (fun Z=>Bool) (fun Z=>Bool) (fun Z=>Bool) true (fun Z=>true) (fun Z=>true) (fun Z=>true) (fun Z ih=>ih) (fun Z ih=>ih) (fun Z ih=>ih) (fun Z Z Z=>true) (fun i=>Nat.blt i n) (fun Z=>true) (fun Z=>true) (fun Z=>true) (fun Z=>true) true
 true (fun Z Z a b=>band a b) true (fun Z Z a b=>band a b) (fun Z Z a=>a) l
def mW(n:Nat)(l:List (Str×J)):Bool:=@J.rec_2 (fun Z=>Bool) (fun Z=>Bool) (fun Z=>Bool) (fun Z=>Bool) true (fun Z=>true) (fun Z=>true) (fun Z=>true) (fun Z ih=>ih) (fun Z ih=>ih) (fun Z ih=>ih) (fun Z Z Z=>true) (fun i=>Nat.blt i n) (fun Z=>true) (fun Z=>true) (fun Z=>true) (fun Z=>true) true
 true (fun Z Z a b=>band a b) true (fun Z Z a b=>band a b) (fun Z Z a=>a) l
theorem Ar{n:Nat}{v:J}{l:List J}(h:ek n (v::l)=true):ef n v=true∧ek n l=true:=ew h
theorem yF{n:Nat}{k:Str}{v:J}{l:List (Str×J)}(h:mW n ((k,v)::l)=true):ef n v=true∧mW n l=true:=ew h
theorem QC{n i:Nat}(h:ef n (.loc i)=true):i<n:=by
 have h:Nat.blt i n=true:=h
 simpa [Nat.blt_eq]using h
mutual
inductive cI(c:Cx)(ρ:List Addr)(h:Heap):J→Value→Prop
 |none:cI c ρ h .none .none
 |bool (b:Bool):cI c ρ h (.bool b) (.bool b)
 |int (i:Int) (t:Tok):cI c ρ h (.int i) (.int i t)
 |str (x:Str) (t:Tok):cI c ρ h (.str x) (.str x t)
 |tup {l:List J} {a:Addr} {n:Nat} {Vs:List Value}:h.get? a=some (gS Vs n)→dY c ρ a→dh c ρ h l Vs→cI c ρ h (.tup l) (.ref a)
 |lst {l:List J} {a:Addr} {n:Nat} {Vs:List Value}:h.get? a=some (gm Vs n)→dY c ρ a→dh c ρ h l Vs→cI c ρ h (.lst l) (.ref a)
 |fB {l:List (Str×J)} {L:List (Str×Value)} {a:Addr}:h.DictOf (iS c) a L→a≠sysModules→dY c ρ a→eI c ρ h l L→cI c ρ h (.fB l) (.ref a)
 |obj {C a d:Addr} {o:Obj} {l:List (Str×J)} {L:List (Str×Value)} {m:Str→Option Value}:h.get? a=some o→o.cls=.ref C→o.dict=some d→(∀k,o.data≠.cls k)→d≠a→h.Ns1 d m→h.ExactDictFk d→(∀y,m y=valueAt L y)→
  dY c ρ a→dY c ρ d→eI c ρ h l L→mW 0 l=true→cI c ρ h (.obj C l) (.ref a)
 |loc {i:Nat} {a:Addr}:ρ[i]? =some a→cI c ρ h (.loc i) (.ref a)
 |dC (a:Addr):cI c ρ h (.dC a) (.ref a)
 |typ (n:String):cI c ρ h (.typ n) (.type n)
 |blt (n:String):cI c ρ h (.blt n) (.builtin n)
 |exc {k:Int} {e d:Addr} {oe od:Obj} {m:Str→Option Value} {t:Tok} {vs:Array Value}:h.get? e=some oe→oe.cls=.ref c.cT→oe.dict=some d→oe.data=.fields vs→h.get? d=some od→nf od=true→od.cls=.type "dict"→h.Ns d m→m "spot"=some (.int k t)→
  dY c ρ e→dY c ρ d→c.h0.get? e=Option.none→c.h0.get? d=Option.none→cI c ρ h (.exc k) (.ref e)
 |ip (V:Value):cI c ρ h .ip V
inductive dh(c:Cx)(ρ:List Addr)(h:Heap):List J→List Value→Prop
 |nil:dh c ρ h [] []
 |cons {v:J} {V:Value} {l:List J} {L:List Value}:cI c ρ h v V→dh c ρ h l L→dh c ρ h (v::l) (V::L)
inductive eI(c:Cx)(ρ:List Addr)(h:Heap):List (Str×J)→List (Str×Value)→Prop
 |nil:eI c ρ h [] []
 |cons {k:Str} {v:J} {V:Value} {l:List (Str×J)} {L:List (Str×Value)}:cI c ρ h v V→eI c ρ h l L→eI c ρ h ((k,v)::l) ((k,V)::L)
end
structure Ext(ρ:List Addr)(h:Heap)(cC:List Addr)(h':Heap):Prop where
 pre:∃new,cC=ρ++new∧∀a∈new,h.get? a=Option.none
 same:∀b o,h.get? b=some o→b∉ρ→∃o',h'.get? b=some o'∧Sm o o'
 live:∀b o,h.get? b=some o→∃o',h'.get? b=some o'∧o'.cls=o.cls∧nf o'=nf o
noncomputable def isIt(o:Obj):Bool:=match o.cls with
 |.type n=>n=="list_iterator"||n=="tuple_iterator"||n=="range_iterator"||n=="enumerate"||n=="zip"||n=="dict_keyiterator"
 |_=>false
structure kT(ρ:List Addr)(h:Heap)(cC:List Addr)(h':Heap):Prop where
 pre:∃new,cC=ρ++new∧∀a∈new,h.get? a=Option.none
 same:∀b o,h.get? b=some o→b∉ρ→isIt o=false→∃o',h'.get? b=some o'∧Sm o o'
theorem Ext.weak{ρ cC:List Addr}{h h':Heap}(x:Ext ρ h cC h'):kT ρ h cC h':=⟨x.pre,fun b o e hn Z=>x.same b o e hn⟩
theorem kT.AZ{ρ cC:List Addr}{h h':Heap}(x:kT ρ h cC h'){a:Addr}{o:Obj}(ha:a∉ρ)(e:h.get? a=some o):a∉cC:=by
 obtain⟨n,rfl,f⟩:=x.pre
 intro hm
 rcases bg hm with hm|hm
 ·exact ha hm
 ·rw[f a hm]at e;cases e
theorem kT.exact{ρ cC:List Addr}{h h':Heap}(x:kT ρ h cC h'){a:Addr}{o:Obj}(e:h.get? a=some o)(ha:a∉ρ)(q:im o=true)(z:isIt o=false):h'.get? a=some o:=by
 obtain⟨o',e',k⟩:=x.same a o e ha z
 rw[e',k.im q]
theorem kT.out{c:Cx}{ρ cC:List Addr}{h h':Heap}(x:kT ρ h cC h'){a:Addr}{o:Obj}(ha:dY c ρ a)(e:h.get? a=some o):dY c cC a:=⟨x.AZ ha.1 e,ha.2⟩
theorem kT.get{ρ cC:List Addr}{h h':Heap}(x:kT ρ h cC h'){i:Nat}{a:Addr}(e:ρ[i]? =some a):cC[i]? =some a:=by
 obtain⟨n,rfl,f⟩:=x.pre
 rw[List.getElem?_append_left (List.getElem?_eq_some_iff.mp e).1];exact e
theorem Ext.refl(ρ:List Addr)(h:Heap):Ext ρ h ρ h:=
 ⟨⟨[],by simp,fun Z ha=>nomatch ha⟩,fun Z o e Z=>⟨o,e,Sm.refl o⟩,fun Z o e=>⟨o,e,rfl,rfl⟩⟩
theorem an9{o o':Obj}(h:o'.data=o.data):nf o'=nf o:=by unfold nf;rw[h]
theorem Ext.trans{ρ cW ρ₂:List Addr}{h gL jR:Heap}(x:Ext ρ h cW gL)(y:Ext cW gL ρ₂ jR):Ext ρ h ρ₂ jR:=by
 refine zz fun GG KK=>?_
 obtain⟨n1,e1,f1⟩:=x.pre
 obtain⟨n2,e2,f2⟩:=y.pre
 refine KK ?_
 refine⟨⟨n1++n2,by rw[e2,e1,List.append_assoc],fun a ha=>?_⟩,fun b o hb hn=>?_,fun b o hb=>?_⟩
 ·rcases bg ha with ha|ha
  ·exact f1 a ha
  ·cases q:h.get? a with
   |none=>rfl
   |some o=>obtain⟨o',e',_⟩:=x.live a o q;rw[f2 a ha]at e';cases e'
 ·refine zz fun GG KK=>?_
  obtain⟨o1,g1,k1⟩:=x.same b o hb hn
  have Kh:b∉cW:=by
   rw[e1]
   intro hm
   rcases bg hm with hm|hm
   ·exact hn hm
   ·rw[f1 b hm]at hb;cases hb
  obtain⟨o2,g2,k2⟩:=y.same b o1 g1 Kh
  refine KK ?_
  exact⟨o2,g2,k1.trans k2⟩
 ·refine zz fun GG KK=>?_
  obtain⟨o1,g1,l1,k1⟩:=x.live b o hb
  obtain⟨o2,g2,l2,k2⟩:=y.live b o1 g1
  refine KK ?_
  exact⟨o2,g2,l2.trans l1,k2.trans k1⟩
theorem Ext.AZ{ρ cC:List Addr}{h h':Heap}(x:Ext ρ h cC h'){a:Addr}{o:Obj}(ha:a∉ρ)(e:h.get? a=some o):a∉cC:=by
 obtain⟨n,rfl,f⟩:=x.pre
 intro hm
 rcases bg hm with hm|hm
 ·exact ha hm
 ·rw[f a hm]at e;cases e
theorem Ext.exact{ρ cC:List Addr}{h h':Heap}(x:Ext ρ h cC h'){a:Addr}{o:Obj}(e:h.get? a=some o)(ha:a∉ρ)(q:im o=true):h'.get? a=some o:=by
 obtain⟨o',e',k⟩:=x.same a o e ha
 rw[e',k.im q]
theorem Ext.out{c:Cx}{ρ cC:List Addr}{h h':Heap}(x:Ext ρ h cC h'){a:Addr}{o:Obj}(ha:dY c ρ a)(e:h.get? a=some o):dY c cC a:=⟨x.AZ ha.1 e,ha.2⟩
theorem Ext.get{ρ cC:List Addr}{h h':Heap}(x:Ext ρ h cC h'){i:Nat}{a:Addr}(e:ρ[i]? =some a):cC[i]? =some a:=by
 obtain⟨n,rfl,_⟩:=x.pre
 rw[List.getElem?_append_left (List.getElem?_eq_some_iff.mp e).1];exact e
theorem HQ{h h':Heap}{a:Addr}{o o':Obj}{m:Str→Option Value}(hn:h.Ns a m)(e:h.get? a=some o)(e':h'.get? a=some o')(hd:o'.data=o.data):h'.Ns a m:=by
 refine zz fun GG KK=>?_
 obtain⟨o1,es,ep,e1,d1,r⟩:=hn
 rw[e]at e1;cases e1
 refine KK ?_
 exact⟨o',es,ep,e',hd.trans d1,r⟩
theorem N_{h h':Heap}{a:Addr}{o o':Obj}{m:Str→Option Value}(hn:h.Ns1 a m)(e:h.get? a=some o)(e':h'.get? a=some o')(hd:o'.data=o.data):h'.Ns1 a m:=by
 refine zz fun GG KK=>?_
 obtain⟨o1,es,ep,e1,d1,r⟩:=hn
 rw[e]at e1;cases e1
 refine KK ?_
 exact⟨o',es,ep,e',hd.trans d1,r⟩
theorem AD{h:Heap}{a:Addr}{m:Str→Option Value}(hn:h.Ns1 a m):∃o,h.get? a=some o∧nf o=true:=by
 refine zz fun GG KK=>?_
 obtain⟨o,es,ep,e,d,_⟩:=hn
 refine KK ?_
 exact⟨o,e,by unfold nf;rw[d]⟩
theorem Ao{c:Cx}{h:Heap}{a:Addr}{L:List (Str×Value)}(hn:h.DictOf (iS c) a L):∃o,h.get? a=some o∧nf o=true:=by
 refine zz fun GG KK=>?_
 obtain⟨o,es,ep,e,_,d,_⟩:=hn
 refine KK ?_
 exact⟨o,e,by unfold nf;rw[d]⟩
theorem Y2{c:Cx}{h h':Heap}{a:Addr}{o:Obj}{L:List (Str×Value)}(hn:h.DictOf (iS c) a L)(e:h.get? a=some o)(e':h'.get? a=some o):h'.DictOf (iS c) a L:=by
 refine zz fun GG KK=>?_
 obtain⟨o1,es,ep,e1,r⟩:=hn
 rw[e]at e1;cases e1
 refine KK ?_
 exact⟨o,es,ep,e',r⟩
theorem Py{o:Obj}{C:Addr}(h:o.cls=.ref C):isIt o=false:=by unfold isIt;rw[h]
theorem aa2{o:Obj}(h:o.cls=.type "dict"):isIt o=false:=by unfold isIt;rw[h];rfl
noncomputable def Cx.hide(c:Cx)(φ:List Addr):Cx:={c with d9:=φ}
structure lx(c:Cx)(φ ρ:List Addr)(h:Heap)(cC:List Addr)(h':Heap)(p:Prop)(m:Nat):Prop where
 out:∀a o,h.get? a=some o→dY c ρ a→dY (c.hide φ) cC a
 same:∀a o,h.get? a=some o→o.cls≠.none→dY c ρ a→isIt o=false→∃o',h'.get? a=some o'∧Sm o o'
 loc:∀i a,p∨i<m→ρ[i]? =some a→cC[i]? =some a
inductive kU(c:Cx)(ρ:List Addr)(h:Heap)(f:List Value→Nat→Obj)(l:List J):Value→Prop
 |mk {a:Addr} {n:Nat} {Vs:List Value}:h.get? a=some (f Vs n)→dY c ρ a→dh c ρ h l Vs→kU c ρ h f l (.ref a)
inductive sV(c:Cx)(ρ:List Addr)(h:Heap)(l:List (Str×J)):Value→Prop
 |mk {L:List (Str×Value)} {a:Addr}:h.DictOf (iS c) a L→a≠sysModules→dY c ρ a→eI c ρ h l L→sV c ρ h l (.ref a)
inductive Fp(c:Cx)(ρ:List Addr)(h:Heap)(C:Addr)(l:List (Str×J)):Value→Prop
 |mk {a d:Addr} {o:Obj} {L:List (Str×Value)} {m:Str→Option Value}:h.get? a=some o→o.cls=.ref C→o.dict=some d→(∀k,o.data≠.cls k)→d≠a→h.Ns1 d m→h.ExactDictFk d→(∀y,m y=valueAt L y)→
  dY c ρ a→dY c ρ d→eI c ρ h l L→mW 0 l=true→Fp c ρ h C l (.ref a)
inductive Fq(c:Cx)(ρ:List Addr)(h:Heap)(k:Int):Value→Prop
 |mk {e d:Addr} {oe od:Obj} {m:Str→Option Value} {t:Tok} {vs:Array Value}:h.get? e=some oe→oe.cls=.ref c.cT→oe.dict=some d→oe.data=.fields vs→h.get? d=some od→nf od=true→od.cls=.type "dict"→h.Ns d m→m "spot"=some (.int k t)→
  dY c ρ e→dY c ρ d→c.h0.get? e=Option.none→c.h0.get? d=Option.none→Fq c ρ h k (.ref e)
def SY(c:Cx)(ρ:List Addr)(h:Heap)(v:J):Value→Prop:=@J.casesOn (fun Z=>Value→Prop) v (fun V=>V=.none) (fun b V=>V=.bool b) (fun i V=>∃t,V=.int i t) (fun x V=>∃t,V=.str x t) (fun l=>kU c ρ h gS l) (fun l=>kU c ρ h gm l) (fun l=>sV c ρ h l) (fun C l=>Fp c ρ h C l)
 (fun i V=>∃a,V=.ref a∧ρ[i]? =some a) (fun a V=>V=.ref a) (fun n V=>V=.type n) (fun n V=>V=.builtin n) (fun k=>Fq c ρ h k) (fun Z=>True)
section
variable{c:Cx}{φ ρ cC:List Addr}{h h':Heap}{p:Prop}{m:Nat}
theorem cI.inv{v:J}{V:Value}(r:cI c ρ h v V):SY c ρ h v V:=
 @cI.casesOn c ρ h (fun v V Z=>SY c ρ h v V) v V r rfl (fun Z=>rfl) (fun Z t=>⟨t,rfl⟩) (fun Z t=>⟨t,rfl⟩) (fun a b c=>.mk a b c) (fun a b c=>.mk a b c) (fun a b c d=>.mk a b c d) (fun a b c d e f g h i j k l=>.mk a b c d e f g h i j k l) (fun e=>⟨_,rfl,e⟩) (fun Z=>rfl) (fun Z=>rfl) (fun Z=>rfl) (fun a b c d e f g h i j k l m=>.mk a b c d e f g h i j k l m) (fun Z=>trivial)
theorem dh.i9{L:List Value}(r:dh c ρ h [] L):L=[]:=@dh.casesOn c ρ h (fun l L Z=>@List.casesOn J (fun Z=>Prop) l (L=[]) (fun Z Z=>True)) [] L r rfl (fun Z Z=>trivial)
theorem dh.gr{v:J}{l:List J}{L:List Value}(r:dh c ρ h (v::l) L):∃V L',L=V::L'∧cI c ρ h v V∧dh c ρ h l L':=
 @dh.casesOn c ρ h (fun l L Z=>@List.casesOn J (fun Z=>Prop) l True (fun v l=>∃V L',L=V::L'∧cI c ρ h v V∧dh c ρ h l L')) (v::l) L r trivial (fun a b=>⟨_,_,rfl,a,b⟩)
theorem eI.i9{L:List (Str×Value)}(r:eI c ρ h [] L):L=[]:=@eI.casesOn c ρ h (fun l L Z=>@List.casesOn (Str×J) (fun Z=>Prop) l (L=[]) (fun Z Z=>True)) [] L r rfl (fun Z Z=>trivial)
theorem eI.gr{k:Str×J}{l:List (Str×J)}{L:List (Str×Value)}(r:eI c ρ h (k::l) L):∃V L',L=(k.1,V)::L'∧cI c ρ h k.2 V∧eI c ρ h l L':=
 @eI.casesOn c ρ h (fun l L Z=>@List.casesOn (Str×J) (fun Z=>Prop) l True (fun k l=>∃V L',L=(k.1,V)::L'∧cI c ρ h k.2 V∧eI c ρ h l L')) (k::l) L r trivial (fun a b=>⟨_,_,rfl,a,b⟩)
theorem dh.ints{c':Cx}:∀{l:List Int} {L:List Value},dh c ρ h (l.map .int) L→dh c' cC h' (l.map .int) L
 |[],_,r=>r.i9▸.nil
 |i::l,_,r=>by
  refine zz fun GG KK=>?_
  obtain⟨V,L',rfl,r1,r2⟩:=r.gr
  obtain⟨t,rfl⟩:=r1.inv
  refine KK ?_
  exact .cons (.int i t) (dh.ints r2)
theorem lx.exact(T:lx c φ ρ h cC h' p m){a:Addr}{o:Obj}(e:h.get? a=some o)(n:dY c ρ a)(hc:o.cls≠.none)(q:im o=true)(z:isIt o=false):h'.get? a=some o:=by
 obtain⟨o',e',k⟩:=T.same a o e hc n z
 rw[e',k.im q]
theorem lx.dict(T:lx c φ ρ h cC h' p m){a:Addr}{o:Obj}(e:h.get? a=some o)(n:dY c ρ a)(hc:o.cls=.type "dict")(q:nf o=true):h'.get? a=some o:=
 T.exact e n (by rw[hc];exact(fun q=>nomatch q)) (Px q (D5 hc)) (aa2 hc)
theorem lx.fB(T:lx c φ ρ h cC h' p m){a:Addr}{L:List (Str×Value)}:h.DictOf (iS c) a L→dY c ρ a→h'.DictOf (iS c) a L∧dY (c.hide φ) cC a:=
 fun⟨o,es,ep,e,ex,d,r⟩ n=>⟨⟨o,es,ep,T.dict e n ex.1 (by unfold nf;rw[d]),ex,d,r⟩,T.out a o e n⟩
theorem lx.obj(T:lx c φ ρ h cC h' p m){C a d:Addr}{o:Obj}{l:List (Str×J)}{L:List (Str×Value)}{m:Str→Option Value}(e:h.get? a=some o)(c1:o.cls=.ref C)(d1:o.dict=some d)(dt:∀k,o.data≠.cls k)(ne:d≠a)(ns:h.Ns1 d m)(ex:h.ExactDictFk d)(hv:∀y,m y=valueAt L y)
  (n1:dY c ρ a) (n2:dY c ρ d) (r:eI (c.hide φ) cC h' l L) (cl:mW 0 l=true):cI (c.hide φ) cC h' (.obj C l) (.ref a):=by
 refine zz fun GG KK=>?_
 obtain⟨o',e',z⟩:=T.same _ _ e (by rw[c1];exact(fun q=>nomatch q)) n1 (Py c1)
 obtain⟨od,ed,qd⟩:=AD ns
 obtain⟨uv,U_,cd,dd⟩:=id ex
 rw[ed]at U_;cases U_
 have e2:=T.dict ed n2 cd qd
 refine KK ?_
 exact .obj e' (z.cls.trans c1) (z.dict.trans d1) (z.Rr dt) ne (N_ ns ed e2 rfl) ⟨_,e2,cd,dd⟩ hv (T.out _ _ e n1) (T.out _ _ ed n2) r cl
theorem ZQ{o o':Obj}{vs:Array Value}(f1:o.data=.fields vs)(k:nf o'=nf o):∃Vc,o'.data=.fields Vc:=by
 have q:nf o=false:=by unfold nf;rw[f1]
 rw[q]at k
 unfold nf at k
 split at k
 ·rename_i h;exact⟨_,h⟩
 ·cases k
theorem lx.exc(T:lx c φ ρ h cC h' p m){k:Int}{e d:Addr}{oe od:Obj}{m:Str→Option Value}{t:Tok}{vs:Array Value}(g:h.get? e=some oe)(c1:oe.cls=.ref c.cT)(d1:oe.dict=some d)(f1:oe.data=.fields vs)(ed:h.get? d=some od)(nd:nf od=true)(cd:od.cls=.type "dict")(ns:h.Ns d m)
  (hs:m "spot"=some (.int k t)) (n1:dY c ρ e) (n2:dY c ρ d) (z1:c.h0.get? e=Option.none) (z2:c.h0.get? d=Option.none):cI (c.hide φ) cC h' (.exc k) (.ref e):=by
 obtain⟨o',e',z⟩:=T.same _ _ g (by rw[c1];exact(fun q=>nomatch q)) n1 (Py c1)
 obtain⟨Vc,hv⟩:=ZQ f1 z.nf
 have e2:=T.dict ed n2 cd nd
 exact .exc e' (z.cls.trans c1) (z.dict.trans d1) hv e2 nd cd (HQ ns ed e2 rfl) hs (T.out _ _ g n1) (T.out _ _ ed n2) z1 z2
theorem cI.map(T:lx c φ ρ h cC h' p m){v:J}{V:Value}(r:cI c ρ h v V):p∨ef m v=true→cI (c.hide φ) cC h' v V:=
 @cI.rec c ρ h (fun v V Z=>∀b,b≤m→p∨ef b v=true→cI (c.hide φ) cC h' v V) (fun l L Z=>∀b,b≤m→p∨ek b l=true→dh (c.hide φ) cC h' l L) (fun l L Z=>∀b,b≤m→p∨mW b l=true→eI (c.hide φ) cC h' l L)
  (fun Z Z Z=>.none) (fun b Z Z Z=>.bool b) (fun i t Z Z Z=>.int i t) (fun x t Z Z Z=>.str x t)
  (fun e n Z ih b hb q=>.tup (T.exact e n (fun q=>nomatch q) rfl rfl) (T.out _ _ e n) (ih b hb q)) (fun e n Z ih b hb q=>.lst (T.exact e n (fun q=>nomatch q) rfl rfl) (T.out _ _ e n) (ih b hb q))
  (fun hd hm n Z ih b hb q=>.fB (T.fB hd n).1 hm (T.fB hd n).2 (ih b hb q)) (fun e c1 d1 dt ne ns ex hv n1 n2 Z cl ih Z Z Z=>T.obj e c1 d1 dt ne ns ex hv n1 n2 (ih 0 (Nat.zero_le _) (.inr cl)) cl)
  (fun e b hb q=>.loc (T.loc _ _ (q.imp id fun q=>Nat.lt_of_lt_of_le (QC q) hb) e)) (fun a Z Z Z=>.dC a) (fun a Z Z Z=>.typ a) (fun a Z Z Z=>.blt a) (fun g c1 d1 f1 ed nd cd ns hs n1 n2 z1 z2 Z Z Z=>T.exc g c1 d1 f1 ed nd cd ns hs n1 n2 z1 z2) (fun V Z Z Z=>.ip V)
  (fun Z Z Z=>.nil) (fun Z Z BM BN b hb q=>.cons (BM b hb (q.imp id fun q=>(Ar q).1)) (BN b hb (q.imp id fun q=>(Ar q).2)))
  (fun Z Z Z=>.nil) (fun Z Z BM BN b hb q=>.cons (BM b hb (q.imp id fun q=>(yF q).1)) (BN b hb (q.imp id fun q=>(yF q).2))) v V r m (Nat.le_refl m)
theorem dh.map(T:lx c φ ρ h cC h' p m):∀{l:List J} {L:List Value},dh c ρ h l L→p∨ek m l=true→dh (c.hide φ) cC h' l L
 |[],_,r,_=>r.i9▸.nil
 |v::l,_,r,q=>by
  refine zz fun GG KK=>?_
  obtain⟨V,L',rfl,r1,r2⟩:=r.gr
  refine KK ?_
  exact .cons (r1.map T (q.imp id fun q=>(Ar q).1)) (dh.map T r2 (q.imp id fun q=>(Ar q).2))
theorem eI.map(T:lx c φ ρ h cC h' p m):∀{l:List (Str×J)} {L:List (Str×Value)},eI c ρ h l L→p∨mW m l=true→eI (c.hide φ) cC h' l L
 |[],_,r,_=>r.i9▸.nil
 |(k,v)::l,_,r,q=>by
  refine zz fun GG KK=>?_
  obtain⟨V,L',rfl,r1,r2⟩:=r.gr
  refine KK ?_
  exact .cons (r1.map T (q.imp id fun q=>(yF q).1)) (eI.map T r2 (q.imp id fun q=>(yF q).2))
theorem kT.tr(x:kT ρ h cC h'):lx c c.d9 ρ h cC h' True 0:=⟨fun Z Z e n=>x.out n e,fun a o e Z n z=>x.same a o e n.1 z,fun Z Z Z e=>x.get e⟩
theorem cI.l7(x:kT ρ h cC h'){v:J}{V:Value}(r:cI c ρ h v V):cI c cC h' v V:=r.map x.tr (.inl trivial)
theorem dh.l7(x:kT ρ h cC h'){l:List J}{L:List Value}(r:dh c ρ h l L):dh c cC h' l L:=r.map x.tr (.inl trivial)
theorem eI.l7(x:kT ρ h cC h'){l:List (Str×J)}{L:List (Str×Value)}(r:eI c ρ h l L):eI c cC h' l L:=r.map x.tr (.inl trivial)
end
theorem cI.mono{c:Cx}{ρ cC:List Addr}{h h':Heap}{v:J}{V:Value}(r:cI c ρ h v V)(x:Ext ρ h cC h'):cI c cC h' v V:=r.l7 x.weak
theorem dh.mono{c:Cx}{ρ cC:List Addr}{h h':Heap}{l:List J}{L:List Value}(r:dh c ρ h l L)(x:Ext ρ h cC h'):dh c cC h' l L:=r.l7 x.weak
theorem eI.mono{c:Cx}{ρ cC:List Addr}{h h':Heap}{l:List (Str×J)}{L:List (Str×Value)}(r:eI c ρ h l L)(x:Ext ρ h cC h'):eI c cC h' l L:=r.l7 x.weak
noncomputable def kW(c:Cx)(ρ:List Addr)(h:Heap)(P:Option J)(V:Option Value):Prop:=@Option.casesOn J (fun Z=>Prop) P (@Option.casesOn Value (fun Z=>Prop) V True (fun Z=>False)) fun v=>@Option.casesOn Value (fun Z=>Prop) V False fun V=>cI c ρ h v V
inductive kK(h:Heap)(c':Addr)(q:Str):Prop
 |mk {oc:Obj} {vs:Array Value} {t:Tok}:h.get? c'=some oc→oc.cls=.type "code"→oc.data=.fields vs→vs[1]? =some (.str q t)→kK h c' q
inductive sN(c:Cx)(ρ:List Addr)(h:Heap)(cc:Addr):Option Value→Prop
 |mk {c':Addr}:kK h c' (c.lT cc)→dY c ρ c'→sN c ρ h cc (some (.ref c'))
def eQ(c:Cx)(ρ:List Addr)(h:Heap)(a:Addr):MO→Prop
 |.lst l=>∃Vs n,h.get? a=some (gm Vs n)∧dh c ρ h l Vs
 |.lr kvs=>∃L,h.DictOf (iS c) a L∧a≠sysModules∧eI c ρ h kvs L
 |.ins C d=>∃o da,h.get? a=some o∧o.cls=.ref C∧o.dict=some da∧(∀k,o.data≠.cls k)∧da≠a∧ρ[d]? =some da
 |.lS kvs=>∃L m,h.Ns1 a m∧h.ExactDictFk a∧(∀y,m y=valueAt L y)∧eI c ρ h kvs L
 |.fr k l=>∃m,h.Ns a m∧l.length=(c.dE k).length∧∀(i:Nat) (x:Str) (p:Option J),(c.dE k)[i]? =some x→l[i]? =some p→kW c ρ h p (m x)
 |.fg v=>∃V,h.IsCell a V∧kW c ρ h v V
 |.tab cc l=>CodeHd c.h0 cc a∧∃ps,h.get? a=some (tabObj ps)∧TriplesOk ps.toList∧∀pos:Pos,(n6 l pos.line pos.col=false→codeAmong pos ps.toList=none)∧(n6 l pos.line pos.col=true→sN c ρ h cc (codeAmong pos ps.toList))
 |.pair=>∃A B:Value,h.get? a=some {cls:=.type "tuple",data:=.seq #[A,B]}
 |.dead=>∃o,h.get? a=some o
 |.Jp=>∃V,h.IsCell a V
 |.iI ds=>∃x y Vs n,h.get? a=some (gm Vs n)∧dh c ρ h [.int x,.int y] Vs∧rA x y ds
 |.lu=>h.get? a=some c.lu∧∃(l:List Int) (Vs:List Value) (n:Nat),c.lu=gm Vs n∧dh c ρ h (l.map .int) Vs∧l.length≤63
structure Old(h₀ h:Heap):Prop extends OldK h₀ h where
 sW:∀o,h₀.get? cStatics=some o→h.get? cStatics=some o
theorem Old.step_keeps{h₀ h h':Heap}(K:Old h₀ h)(k:∀b o,h.get? b=some o→h'.get? b=some o):Old h₀ h':=⟨K.toOldK.step_keeps k,fun o e=>k _ _ (K.sW o e)⟩
structure SR(c:Cx)(ρ:List Addr)(σ:List MO)(s:Shared):Prop where
 gens:s.gens=#[]
 os:s.os=c.os
 len:ρ.length=σ.length
 nodup:ρ.Nodup
 fresh:∀a∈ρ,c.h0.get? a=Option.none
 old:Old c.h0 s.heap
 d9:∀a∈c.d9,c.h0.get? a=Option.none∧a∉ρ∧∃o,s.heap.get? a=some o
 obj:∀(i:Nat) (a:Addr) (mo:MO),ρ[i]? =some a→σ[i]? =some mo→eQ c ρ s.heap a mo
inductive Res(β:Type)where
 |ok (b:β)
 |fo (k:Int)
noncomputable abbrev Out(β:Type):=Option (Res β×List MO)
def dk{β γ:Type}(x:Out β)(k:β→List MO→Out γ):Out γ:=@Option.rec (Res β×List MO) (fun Z=>Out γ) Option.none (fun y=>@Prod.rec (Res β) (List MO) (fun Z=>Out γ) (fun r σ=>@Res.rec β (fun Z=>Out γ) (fun b=>k b σ) (fun e=>some (.fo e,σ)) r) y) x
theorem sI{β γ:Type}(b:β)(σ:List MO)(k:β→List MO→Out γ):dk (some (.ok b,σ)) k=k b σ:=rfl
def S4(c:Cx)(ρ:List Addr)(h:Heap)(e:Addr)(may:Bool):Prop:=∃oe vs,h.get? e=some oe∧oe.data=.fields vs∧1<vs.size∧((may=true∧vs[1]? =some .none)∨
 ∃T oT ts,vs[1]? =some (.ref T)∧T≠e∧h.get? T=some oT∧oT.cls=.type "traceback"∧oT.data=.fields ts∧3<ts.size∧dY c ρ T∧c.h0.get? T=none)
def ly(c:Cx)(ρ:List Addr)(h:Heap)(k:Int)(X:Value):Prop:=cI c ρ h (.exc k) X∧∃e,X=.ref e∧S4 c ρ h e true
def mX(c:Cx)(ρ:List Addr)(h:Heap)(k:Int)(X:Value):Prop:=cI c ρ h (.exc k) X∧∃e,X=.ref e∧S4 c ρ h e false
structure iT(c:Cx){α β:Type}(Rel:List Addr→Heap→β→α→Prop)(ρ:List Addr)(h:Heap)(r:Res β)(cG:List MO)(Q:α→Shared→Prop)(E:Value→Shared→Prop):Prop where
 ok:∀b V cC s',r=.ok b→Ext ρ h cC s'.heap→SR c cC cG s'→Rel cC s'.heap b V→Q V s'
 fo:∀k X cC s',r=.fo k→Ext ρ h cC s'.heap→SR c cC cG s'→ly c cC s'.heap k X→E X s'
structure Den(c:Cx)(A:Around){α β:Type}(Rel:List Addr→Heap→β→α→Prop)(ρ:List Addr)(s:Shared)(t:Sem α)(x:Out β):Prop where
 run:∀r cG,x=some (r,cG)→∀(Q:α→Shared→Prop) (E:Value→Shared→Prop),iT c Rel ρ s.heap r cG Q E→wpAny (model c.prog c.w) A t Q E s
section
variable{c:Cx}{A:Around}{α pH β γ:Type}{Rel:List Addr→Heap→β→α→Prop}{Rel':List Addr→Heap→γ→pH→Prop}{ρ:List Addr}{σ cG:List MO}{s:Shared}
 {r:Res γ} {Q':pH→Shared→Prop} {E:Value→Shared→Prop}
theorem iT.ext{cW:List Addr}{h gL:Heap}(P:iT c Rel' ρ h r cG Q' E)(e:Ext ρ h cW gL):iT c Rel' cW gL r cG Q' E:=
 ⟨fun b V cC s' hr e2 sr rel=>P.ok b V cC s' hr (e.trans e2) sr rel,fun k X cC s' hr e2 sr fl=>P.fo k X cC s' hr (e.trans e2) sr fl⟩
theorem iT.here{b:γ}{V:pH}(P:iT c Rel' ρ s.heap (.ok b) cG Q' E)(sr:SR c ρ cG s)(rel:Rel' ρ s.heap b V):Q' V s:=P.ok b V ρ s rfl (Ext.refl _ _) sr rel
theorem Den.step{t:Sem α}{x:Out β}{k:β→List MO→Out γ}{Q:α→Shared→Prop}(h1:Den c A Rel ρ s t x)(he:dk x k=some (r,cG))(P:iT c Rel' ρ s.heap r cG Q' E)
  (hQ:∀b V cW σ₁ cD,Ext ρ s.heap cW cD.heap→SR c cW σ₁ cD→Rel cW cD.heap b V→k b σ₁=some (r,cG)→iT c Rel' cW cD.heap r cG Q' E→Q V cD):wpAny (model c.prog c.w) A t Q E s:=by
 cases x with
 |none=>cases he
 |some y=>
  obtain⟨r1,σ1⟩:=y
  cases r1 with
  |ok b=>exact h1.run _ _ rfl _ _ ⟨fun b' V Ki s1 hb ext sr rel=>by cases hb;exact hQ b V Ki σ1 s1 ext sr rel he (P.ext ext),(fun Z Z Z Z q=>nomatch q)⟩
  |fo e=>
   cases he
   exact h1.run _ _ rfl _ _ ⟨(fun Z Z Z Z q=>nomatch q),fun k' X Ki s1 hk ext sr fl=>by cases hk;exact P.fo _ X Ki s1 rfl ext sr fl⟩
theorem Den.last{t:Sem α}{x:Out β}{r:Res β}{Q:α→Shared→Prop}(h1:Den c A Rel ρ s t x)(he:x=some (r,cG))(P:iT c Rel ρ s.heap r cG Q E):wpAny (model c.prog c.w) A t Q E s:=h1.run _ _ he _ _ P
theorem Den.bind{t:Sem α}{f:α→Sem pH}{x:Out β}{k:β→List MO→Out γ}(h1:Den c A Rel ρ s t x)
  (h2:∀b V cW σ₁ cD,Ext ρ s.heap cW cD.heap→SR c cW σ₁ cD→Rel cW cD.heap b V→Den c A Rel' cW cD (f V) (k b σ₁)):Den c A Rel' ρ s (t>>=f) (dk x k):=
 ⟨fun Z Z he Z Z P=>bC (h1.step he P fun b V cW σ₁ cD ext sr rel nL P'=>(h2 b V cW σ₁ cD ext sr rel).run _ _ nL _ _ P')⟩
theorem Den.pure{b:β}{V:α}(sr:SR c ρ σ s)(rel:Rel ρ s.heap b V):Den c A Rel ρ s (Pure.pure V) (some (.ok b,σ)):=by
 refine⟨fun r cG he Q E P=>?_⟩
 cases he
 exact bD (P.here sr rel)
theorem Den.holding{vs:List Value}{t:Sem α}{x:Out β}(h:Den c A Rel ρ s t x):Den c A Rel ρ s (holding vs t) x:=
 ⟨fun r cG he Q E P=>wpAny_holding (h.run r cG he Q E P)⟩
theorem Den.aoE{p:Pos}{f:Unit→Sem α}{x:Out β}(h:Den c A Rel ρ s (f ()) x):Den c A Rel ρ s (standAt p>>=f) x:=
 ⟨fun r cG he Q E P=>bC (wpAny_standAt (h.run r cG he Q E P))⟩
theorem Den.none{t:Sem α}:Den c A Rel ρ s t (Option.none:Out β):=⟨fun Z Z he=>nomatch he⟩
end
theorem SR.toks{c:Cx}{ρ:List Addr}{σ:List MO}{s:Shared}(sr:SR c ρ σ s)(t:Nat):SR c ρ σ {s with toks:=t}:=
 ⟨sr.gens,sr.os,sr.len,sr.nodup,sr.fresh,sr.old,sr.d9,sr.obj⟩
theorem kW.l7{c:Cx}{ρ cC:List Addr}{h h':Heap}(x:kT ρ h cC h'){P:Option J}{V:Option Value}(r:kW c ρ h P V):kW c cC h' P V:=by
 cases P<;>cases V<;>first|exact r|exact cI.l7 x r
theorem kW.mono{c:Cx}{ρ cC:List Addr}{h h':Heap}(x:Ext ρ h cC h'){P:Option J}{V:Option Value}(r:kW c ρ h P V):kW c cC h' P V:=r.l7 x.weak
theorem AN{h:Heap}{a:Addr}{m:Str→Option Value}(hn:h.Ns a m):∃o,h.get? a=some o∧nf o=true:=by
 refine zz fun GG KK=>?_
 obtain⟨o,es,ep,e,d,_⟩:=hn
 refine KK ?_
 exact⟨o,e,by unfold nf;rw[d]⟩
noncomputable def EG(a:Addr)(h h':Heap):Prop:=∀o,h.get? a=some o→h'.get? a=some o
noncomputable def i_(n:Nat):Option J→Bool
 |some v=>ef n v
 |none=>true
noncomputable def fF(n:Nat):MO→Bool
 |.lst l=>ek n l
 |.lr l=>mW n l
 |.ins _ d=>Nat.blt d n
 |.lS l=>mW n l
 |.fr _ l=>l.all (i_ n)
 |.fg v=>i_ n v
 |.tab _ _=>true
 |.pair=>true
 |.dead=>true
 |.Jp=>true
 |.iI _=>true
 |.lu=>true
noncomputable def oQ(a:Addr)(h h':Heap):Prop:=∀o,h.get? a=some o→∃o',h'.get? a=some o'∧Sm o o'
section
variable{c:Cx}{φ ρ cC:List Addr}{h h':Heap}{p:Prop}{m:Nat}{a:Addr}
theorem EG.sm(k:EG a h h'):oQ a h h':=fun o e=>⟨o,k o e,.refl o⟩
theorem oQ.im(k:oQ a h h'){o:Obj}(e:h.get? a=some o)(q:Mine.im o=true):h'.get? a=some o:=by
 obtain⟨o',e',z⟩:=k o e
 rw[e',z.im q]
theorem oQ.lr(k:oQ a h h'){L:List (Str×Value)}(e:h.DictOf (iS c) a L):h'.DictOf (iS c) a L:=by
 obtain⟨o,es,ep,eo,ec,hd,_⟩:=id e
 exact Y2 e eo (k.im eo (vx (by unfold j4;rw[hd]) (D5 ec.1)))
theorem oQ.ns(k:oQ a h h'){mm:Str→Option Value}(ns:h.Ns a mm):h'.Ns a mm:=by
 obtain⟨o,eo,q⟩:=AN ns
 obtain⟨o',e',z⟩:=k o eo
 exact HQ ns eo e' (z.data (HY q))
theorem oQ.lS(k:oQ a h h'){mm:Str→Option Value}(e:h.Ns1 a mm)(ec:h.ExactDictFk a):h'.Ns1 a mm∧h'.ExactDictFk a:=by
 obtain⟨o,eo,q⟩:=AD e
 obtain⟨x1,y1,y2,y3⟩:=id ec
 rw[eo]at y1;cases y1
 have ge:=k.im eo (Px q (D5 y2))
 exact⟨N_ e eo ge rfl,o,ge,y2,y3⟩
theorem oQ.fg(k:oQ a h h'){V:Option Value}(hc:h.IsCell a V):h'.IsCell a V:=by
 obtain⟨o,e,d⟩:=hc
 obtain⟨o',e',z⟩:=k o e
 exact⟨o',e',(z.data (by unfold j4;rw[d])).trans d⟩
theorem kW.map(T:lx c φ ρ h cC h' p m):∀{P:Option J} {V:Option Value},kW c ρ h P V→p∨i_ m P=true→kW (c.hide φ) cC h' P V
 |none,none,_,_=>trivial
 |none,some _,r,_=>r.elim
 |some _,none,r,_=>r.elim
 |some _,some _,r,q=>cI.map T r q
theorem kK.map(T:lx c φ ρ h cC h' p m){c':Addr}{q:Str}(r:kK h c' q)(o:dY c ρ c'):kK h' c' q∧dY (c.hide φ) cC c':=
 @kK.casesOn h c' q (fun Z=>kK h' c' q∧dY (c.hide φ) cC c') r fun a2 a3 a4 a5=>
  ⟨.mk (T.exact a2 o (by rw[a3];exact fun q=>nomatch q) (vx (by unfold j4;rw[a4,a3];rfl) (by unfold mC;rw[a3];rfl)) (by unfold isIt;rw[a3];rfl)) a3 a4 a5,T.out _ _ a2 o⟩
theorem sN.map(T:lx c φ ρ h cC h' p m){cc:Addr}{v:Option Value}(r:sN c ρ h cc v):sN (c.hide φ) cC h' cc v:=
 @sN.casesOn c ρ h cc (fun v Z=>sN (c.hide φ) cC h' cc v) v r fun a o=>let⟨a,o⟩:=a.map T o;.mk a o
theorem eQ.map(T:lx c φ ρ h cC h' p m)(k:oQ a h h'){mo:MO}:p∨fF m mo=true→eQ c ρ h a mo→eQ (c.hide φ) cC h' a mo:=
 @MO.casesOn (fun mo=>p∨fF m mo=true→eQ c ρ h a mo→eQ (c.hide φ) cC h' a mo) mo (fun l q ⟨Vs,n,e,r⟩=>⟨Vs,n,k.im e rfl,r.map T q⟩) (fun l q ⟨L,e,hm,r⟩=>⟨L,k.lr e,hm,r.map T q⟩) (fun C d q ⟨o,da,e,c1,d1,dt,ne,r⟩=>let⟨o',e',z⟩:=k o e;⟨o',da,e',z.cls.trans c1,z.dict.trans d1,z.Rr dt,ne,T.loc d da (q.imp id fun q=>bw q) r⟩) (fun l q ⟨L,mm,e,ec,hv,r⟩=>let⟨e,ec⟩:=k.lS e ec;⟨L,mm,e,ec,hv,r.map T q⟩) (fun kk l q ⟨mm,ns,hl,r⟩=>⟨mm,k.ns ns,hl,fun i y p q1 q2=>(r i y p q1 q2).map T (q.imp id fun q=>bh q p (a0 q2))⟩) (fun v q ⟨V,hc,r⟩=>⟨V,k.fg hc,r.map T q⟩) (fun cc l q ⟨hd,ps,e,tr,hp⟩=>⟨hd,ps,k.im e rfl,tr,fun pos=>⟨(hp pos).1,fun hq=>((hp pos).2 hq).map T⟩⟩) (fun q ⟨A,B,e⟩=>⟨A,B,k.im e rfl⟩) (fun q ⟨o,e⟩=>let⟨o',e',_⟩:=k o e;⟨o',e'⟩) (fun q ⟨V,hc⟩=>⟨V,k.fg hc⟩) (fun ds q ⟨x',y,Vs,n,e,r,z⟩=>⟨x',y,Vs,n,k.im e rfl,r.ints (l:=[x',y]),z⟩) (fun q ⟨e,l,Vs,n,hs,r,z⟩=>⟨by rw[show(c.hide φ).lu=c.lu from rfl];rw[hs]at e⊢;exact k.im e rfl,l,Vs,n,hs,r.ints,z⟩)
end
theorem eQ.EZ{c:Cx}{ρ cC:List Addr}{h h':Heap}{a:Addr}{mo:MO}(x:kT ρ h cC h')(k:EG a h h')(m:eQ c ρ h a mo):eQ c cC h' a mo:=eQ.map x.tr k.sm (.inl trivial) m
theorem eQ.keep{c:Cx}{ρ cC:List Addr}{h h':Heap}{a:Addr}{mo:MO}(x:Ext ρ h cC h')(k:EG a h h')(m:eQ c ρ h a mo):eQ c cC h' a mo:=m.EZ x.weak k
theorem Ax{h₀ h h':Heap}(K:Old h₀ h)(e:∀b o,h₀.get? b=some o→h'.get? b=h.get? b):Old h₀ h':=by
 refine⟨⟨fun b o q=>?_,fun b o q=>let⟨o',qw⟩:=K.there b o q;⟨o',(e b o q).trans qw⟩⟩,fun o q=>(e _ o q).trans (K.sW o q)⟩
 refine zz fun GG KK=>?_
 rcases K.old b o q with x|⟨t,hc,vs,more,hv,x⟩|⟨rfl,hc,⟨o',es,n,qw,r⟩,z⟩
 ·refine KK ?_
  exact .inl ((e b o q).trans x)
 ·refine KK ?_
  exact .inr (.inl ⟨t,hc,vs,more,hv,(e b o q).trans x⟩)
 ·refine KK ?_
  exact .inr (.inr ⟨rfl,hc,⟨o',es,n,(e _ o q).trans qw,r⟩,fun key=>by rw[OldK.staticOf_congr (e _ o q) key];exact z key⟩)
theorem eQ.there{c:Cx}{ρ:List Addr}{h:Heap}{a:Addr}{mo:MO}(m:eQ c ρ h a mo):∃o,h.get? a=some o:=by
 cases mo with
 |lst l=>exact let⟨_,_,e,_⟩:=m;⟨_,e⟩
 |lr l=>exact let⟨_,e,_⟩:=m;let⟨o,e,_⟩:=Ao e;⟨o,e⟩
 |ins l=>exact let⟨o,_,e,_⟩:=m;⟨o,e⟩
 |lS l=>exact let⟨_,_,e,_⟩:=m;let⟨o,e,_⟩:=AD e;⟨o,e⟩
 |fr l=>exact let⟨_,e,_⟩:=m;let⟨o,e,_⟩:=AN e;⟨o,e⟩
 |fg l=>exact let⟨_,⟨o,e,_⟩,_⟩:=m;⟨o,e⟩
 |tab cc l=>exact let⟨_,_,e,_⟩:=m;⟨_,e⟩
 |pair=>exact let⟨_,_,e⟩:=m;⟨_,e⟩
 |dead=>exact m
 |Jp=>exact let⟨_,o,e,_⟩:=m;⟨o,e⟩
 |iI ds=>exact let⟨_,_,_,_,e,_⟩:=m;⟨_,e⟩
 |lu=>exact let⟨e,_⟩:=m;⟨_,e⟩
section
variable{c:Cx}{ρ:List Addr}{σ:List MO}{s:Shared}
theorem SR.at(sr:SR c ρ σ s){i:Nat}{mo:MO}(e:σ[i]? =some mo):∃a,ρ[i]? =some a∧eQ c ρ s.heap a mo:=by
 have hi:i<ρ.length:=by rw[sr.len];exact(aZ e).1
 exact⟨ρ[i],bj hi,sr.obj i _ mo (bj hi) e⟩
theorem SR.live(sr:SR c ρ σ s){a:Addr}(ha:a∈ρ):∃o,s.heap.get? a=some o:=by
 obtain⟨i,hi,rfl⟩:=List.getElem_of_mem ha
 have hs:i<σ.length:=by rw[←sr.len];exact hi
 exact(sr.obj i ρ[i] σ[i] (bj hi) (bj hs)).there
theorem Ext.push{ρ:List Addr}{h:Heap}(o:Obj):Ext ρ h ρ (h.push o):=
 ⟨⟨[],by simp,fun Z ha=>nomatch ha⟩,fun Z o' e Z=>⟨o',aX _ e,Sm.refl _⟩,fun Z o' e=>⟨o',aX _ e,rfl,rfl⟩⟩
theorem kS(h:Heap):h.get? h.objs.size=none:=by
 cases q:h.get? h.objs.size with
 |none=>rfl
 |some o=>exact absurd (Heap.lt_size q) (Nat.lt_irrefl _)
theorem Ext.oG{ρ:List Addr}{h:Heap}(o:Obj):Ext ρ h (ρ++[h.objs.size]) (h.push o):=
 ⟨⟨[h.objs.size],rfl,fun a ha=>by rw[List.mem_singleton.mp ha];exact kS h⟩,fun Z o' e Z=>⟨o',aX _ e,Sm.refl _⟩,fun Z o' e=>⟨o',aX _ e,rfl,rfl⟩⟩
theorem Ext.keeps{ρ:List Addr}{h h':Heap}(k:∀b o,h.get? b=some o→h'.get? b=some o):Ext ρ h ρ h':=
 ⟨⟨[],by simp,fun Z ha=>nomatch ha⟩,fun Z o' e Z=>⟨o',k _ _ e,Sm.refl _⟩,fun Z o' e=>⟨o',k _ _ e,rfl,rfl⟩⟩
theorem SR.keeps(sr:SR c ρ σ s){h':Heap}{t:Nat}(k:∀b o,s.heap.get? b=some o→h'.get? b=some o):SR c ρ σ {s with heap:=h',toks:=t}:=
 ⟨sr.gens,sr.os,sr.len,sr.nodup,sr.fresh,sr.old.step_keeps k,fun a ha=>let⟨q1,qn,o,q2⟩:=sr.d9 a ha;⟨q1,qn,o,k a o q2⟩,fun i a mo e1 e2=>(sr.obj i a mo e1 e2).keep (Ext.keeps k) (fun o=>k a o)⟩
theorem SR.push(sr:SR c ρ σ s)(o:Obj):SR c ρ σ {s with heap:=s.heap.push o}:=sr.keeps (t:=s.toks) fun Z Z e=>aX _ e
theorem Dd(sr:SR c ρ σ s){a:Addr}(e:s.heap.get? a=none):a∉ρ:=fun hm=>by
 obtain⟨o,q⟩:=sr.live hm
 rw[e]at q;cases q
theorem lM(sr:SR c ρ σ s){a:Addr}(e:s.heap.get? a=none):dY c ρ a:=⟨Dd sr e,fun hm=>by
 obtain⟨_,_,o,q⟩:=sr.d9 a hm
 rw[e]at q;cases q⟩
theorem SR.t5(sr:SR c ρ σ s):c.h0.get? s.heap.objs.size=none:=by
 cases q:c.h0.get? s.heap.objs.size with
 |none=>rfl
 |some o=>
  obtain⟨o',e⟩:=sr.old.there _ _ q
  exact absurd (Heap.lt_size e) (Nat.lt_irrefl _)
theorem SR.oG(sr:SR c ρ σ s){o:Obj}{mo:MO}(m:eQ c (ρ++[s.heap.objs.size]) (s.heap.push o) s.heap.objs.size mo):
  SR c (ρ++[s.heap.objs.size]) (σ++[mo]) {s with heap:=s.heap.push o}:=by
 refine⟨sr.gens,sr.os,by simp[sr.len],?_,?_,sr.old.step_keeps fun Z Z e=>aX _ e,fun a ha=>let⟨q1,qn,o,q2⟩:=sr.d9 a ha;⟨q1,(fun hm=>(bg hm).elim qn fun hm=>by rw[List.mem_singleton.mp hm,kS]at q2;cases q2),o,aX _ q2⟩,?_⟩
 ·rw[List.nodup_append]
  refine⟨sr.nodup,by simp,fun a ha b wi=>?_⟩
  rw[List.mem_singleton.mp wi]
  rintro rfl
  exact Dd sr (kS _) ha
 ·intro a ha
  rcases bg ha with ha|ha
  ·exact sr.fresh a ha
  ·rw[List.mem_singleton.mp ha];exact sr.t5
 ·intro i a mo' e1 e2
  by_cases hi:i<ρ.length
  ·rw[List.getElem?_append_left hi]at e1
   rw[List.getElem?_append_left (by rw[←sr.len];exact hi)]at e2
   exact(sr.obj i a mo' e1 e2).keep (Ext.oG o) (fun o' q=>aX _ q)
  ·have qx:i=ρ.length:=by
    have:=(aZ e1).1
    simp at this;omega
   subst qx
   rw[List.getElem?_append_right (Nat.le_refl _)]at e1
   rw[sr.len,List.getElem?_append_right (Nat.le_refl _)]at e2
   simp at e1 e2
   subst e1 e2
   exact m
theorem Ext.uc{ρ:List Addr}{h h':Heap}{a:Addr}(ha:a∈ρ)(k:∀b o,b≠a→h.get? b=some o→h'.get? b=some o){o':Obj}(e':h'.get? a=some o')(hn:∀o,h.get? a=some o→o'.cls=o.cls∧nf o'=nf o):Ext ρ h ρ h':=
 ⟨⟨[],by simp,fun Z ha=>nomatch ha⟩,fun b o e hb=>⟨o,k b o (fun q=>hb (q▸ha)) e,Sm.refl _⟩,fun b o e=>by
  by_cases q:b=a
  ·subst q;exact⟨o',e',hn o e⟩
  ·exact⟨o,k b o q e,rfl,rfl⟩⟩
theorem SR.uc(sr:SR c ρ σ s){i:Nat}{a:Addr}{mo:MO}{h':Heap}{t:Nat}{o':Obj}(hi:ρ[i]? =some a)(k:∀b o,b≠a→s.heap.get? b=some o→h'.get? b=some o)(e':h'.get? a=some o')(hn:∀o,s.heap.get? a=some o→o'.cls=o.cls∧nf o'=nf o)(m:eQ c ρ h' a mo):
  SR c ρ (σ.set i mo) {s with heap:=h',toks:=t}:=by
 have ha:a∈ρ:=a0 hi
 refine⟨sr.gens,sr.os,by rw[List.length_set];exact sr.len,sr.nodup,sr.fresh,Ax sr.old fun b o e=>?_,fun b hb=>?_,fun j b mo' e1 e2=>?_⟩
 ·have:b≠a:=fun z=>by rw[z,sr.fresh a ha]at e;cases e
  obtain⟨o1,g1⟩:=sr.old.there b o e
  exact(k b o1 this g1).trans g1.symm
 ·obtain⟨q1,qn,o,q2⟩:=sr.d9 b hb
  exact⟨q1,qn,o,k b o (fun q=>qn (q▸ha)) q2⟩
 ·by_cases hj:j=i
  ·subst hj
   rw[hi]at e1;cases e1
   have hl:j<σ.length:=by rw[←sr.len];exact(aZ hi).1
   rw[List.getElem?_set_self hl]at e2
   cases e2
   exact m
  ·rw[List.getElem?_set_ne (Ne.symm hj)]at e2
   have hb:b≠a:=fun z=>by
    subst z
    obtain⟨l1,g1⟩:=aZ e1
    obtain⟨l2,g2⟩:=aZ hi
    exact hj ((List.getElem_inj sr.nodup).mp (g1.trans g2.symm))
   exact(sr.obj j b mo' e1 e2).keep (Ext.uc ha k e' hn) fun o q=>k b o hb q
theorem Ext.turn{ρ:List Addr}{h h':Heap}{a:Addr}(ha:a∈ρ)(hs:Heap.SameBut a h h'){o':Obj}(e':h'.get? a=some o')(hn:∀o,h.get? a=some o→o'.cls=o.cls∧nf o'=nf o):Ext ρ h ρ h':=
 Ext.uc ha (fun b Z q e=>(hs.2 b q).trans e) e' hn
theorem SR.turn(sr:SR c ρ σ s){i:Nat}{a:Addr}{mo:MO}{h':Heap}{t:Nat}{o':Obj}(hi:ρ[i]? =some a)(hs:Heap.SameBut a s.heap h')(e':h'.get? a=some o')(hn:∀o,s.heap.get? a=some o→o'.cls=o.cls∧nf o'=nf o)(m:eQ c ρ h' a mo):
 SR c ρ (σ.set i mo) {s with heap:=h',toks:=t}:=sr.uc hi (fun b Z q e=>(hs.2 b q).trans e) e' hn m
theorem SR.wr(sr:SR c ρ σ s){wr:List Addr}{h':Heap}{t:Nat}(k:∀b o,b∉wr→s.heap.get? b=some o→h'.get? b=some o)(hw:∀b∈wr,dY c ρ b∧c.h0.get? b=none∧∃o,s.heap.get? b=some o∧isIt o=true):
  SR c ρ σ {s with heap:=h',toks:=t}:=by
 have ext:kT ρ s.heap ρ h':=⟨⟨[],by simp,fun Z ha=>nomatch ha⟩,fun b o e Z hi=>⟨o,k b o (fun hm=>by obtain⟨_,_,o',e',qx⟩:=hw b hm;rw[e]at e';cases e';rw[hi]at qx;cases qx) e,Sm.refl _⟩⟩
 refine⟨sr.gens,sr.os,sr.len,sr.nodup,sr.fresh,Ax sr.old fun b o e=>?_,fun a ha=>let⟨q1,qn,o,q2⟩:=sr.d9 a ha;⟨q1,qn,o,k a o (fun hm=>(hw a hm).1.2 ha) q2⟩,fun i a mo e1 e2=>(sr.obj i a mo e1 e2).EZ ext fun o e=>k a o (fun hm=>(hw a hm).1.1 (a0 e1)) e⟩
 have hb:b∉wr:=fun hm=>by rw[(hw b hm).2.1]at e;cases e
 obtain⟨o',e'⟩:=sr.old.there b o e
 exact(k b o' hb e').trans e'.symm
theorem cI.wr{h h':Heap}{wr:List Addr}{v:J}{V:Value}(r:cI c ρ h v V)(k:∀b o,b∉wr→h.get? b=some o→h'.get? b=some o)(hw:∀b∈wr,∃o,h.get? b=some o∧isIt o=true):cI c ρ h' v V:=
 r.l7 ⟨⟨[],by simp,fun Z ha=>nomatch ha⟩,fun b o e Z hi=>⟨o,k b o (fun hm=>by obtain⟨o',e',qx⟩:=hw b hm;rw[e]at e';cases e';rw[hi]at qx;cases qx) e,Sm.refl _⟩⟩
theorem Ext.after{ρ cW:List Addr}{h₀ h h':Heap}{wr:List Addr}(x:Ext ρ h₀ cW h)(k:∀b o,b∉wr→h.get? b=some o→h'.get? b=some o)(hw:∀b∈wr,h₀.get? b=none):Ext ρ h₀ cW h':=
 ⟨x.pre,fun b o e hb=>by
  obtain⟨o',e',r⟩:=x.same b o e hb
  exact⟨o',k b o' (fun hm=>by rw[hw b hm]at e;cases e) e',r⟩,fun b o e=>by
  obtain⟨o',e',r⟩:=x.live b o e
  exact⟨o',k b o' (fun hm=>by rw[hw b hm]at e;cases e) e',r⟩⟩
end
structure FC where
 k:Nat
 scope:Scope
 cn:List Str
 code:Option Addr:=none
structure Fr where
 fr:Nat
 cs:List Nat
structure Frs(c:Cx)(A:Around)(h:Heap):Prop where
 ex:∃fs,A.frames=some fs∧∀e∈fs,e.scope.kind≠.module∧∃L o,e.frame=some L∧c.h0.get? L=Option.none∧h.get? L=some o∧o.cls=.type "frame"∧nf o=true
theorem Frs.mono{c:Cx}{A:Around}{ρ cC:List Addr}{h h':Heap}(x:Frs c A h)(e:Ext ρ h cC h'):Frs c A h':=by
 obtain⟨fs,h1,h2⟩:=x.ex
 refine⟨fs,h1,fun v hv=>?_⟩
 refine zz fun GG KK=>?_
 obtain⟨k,L,o,l1,l2,l3,l4,l5⟩:=h2 v hv
 obtain⟨o',m1,m2,m3⟩:=e.live L o l3
 refine KK ?_
 exact⟨k,L,o',l1,l2,m1,m2.trans l4,m3.trans l5⟩
structure fW(c:Cx)(g:FC)(A:Around)(env:Env)(f:Fr)(ρ:List Addr)(h:Heap):Prop where
 scope:env.scope=g.scope
 kind:g.scope.kind=.function
 loc:ρ[f.fr]? =some env.locals
 glob:env.globals=mainGlobals
 blt:env.builtins=builtinsNs
 cell:∀(j:Nat) (x:Str) (i:Nat),g.cn[j]? =some x→f.cs[j]? =some i→∃a,env.cells.lookup x=some a∧ρ[i]? =some a
 here:∃L e0 outer,env.frame=some L∧A.frames=some (e0::outer)∧e0.frame=some L
 nM:Frs c A h
 code:∀cc,g.code=some cc→env.code=.ref cc∧env.qual++"<lambda>"=c.lT cc
theorem fW.mono{c:Cx}{g:FC}{A:Around}{env:Env}{f:Fr}{ρ cC:List Addr}{h h':Heap}(x:fW c g A env f ρ h)(e:Ext ρ h cC h'):fW c g A env f cC h':=
 ⟨x.scope,x.kind,e.get x.loc,x.glob,x.blt,fun j y i h1 h2=>let⟨a,q1,q2⟩:=x.cell j y i h1 h2;⟨a,q1,e.get q2⟩,x.here,x.nM.mono e,x.code⟩
structure g0(A:Around)(n:Nat):Prop where
 calm:A.handled=none
 depth:A.depth+n<recursionLimit
 units:A.units+100+8*n<cLine
theorem g0.mono{A:Around}{n m:Nat}(h:g0 A n)(hm:m≤n):g0 A m:=⟨h.calm,Nat.lt_of_le_of_lt (Nat.add_le_add_left hm _) h.depth,Nat.lt_of_le_of_lt (Nat.add_le_add_left (Nat.mul_le_mul_left 8 hm) _) h.units⟩
abbrev J.sW(v:J):Bool:=ef 0 v
abbrev J.stats(l:List J):Bool:=ek 0 l
structure Facts(c:Cx)(gl:Str→Option J)(gz:Str→Bool):Prop where
 g:∃o mg,c.h0.get? mainGlobals=some o∧o.cls≠.none∧c.h0.Ns mainGlobals mg∧(∀x v,gl x=some v→v.sW=true∧∃V,mg x=some V∧cI c.bare [] c.h0 v V)∧∀x,gz x=true→mg x=none
 b:∃o mb,c.h0.get? builtinsNs=some o∧o.cls≠.none∧c.h0.Ns builtinsNs mb∧∀x:Str,gz x=true→mb x=bootBuiltins x
 nolimit:c.h0.NoLimit
 S5:∃o,c.h0.get? sysModules=some o
noncomputable def DE(c:Cx)(g:FC)(n:Nat)(e:Expr)(x:Fr→List MO→Out J):Prop:=
 ∀A env f ρ σ s,g0 A n→fW c g A env f ρ s.heap→SR c ρ σ s→Den c A (cI c) ρ s (eval e env) (x f σ)
section
variable{c:Cx}{g:FC}{n:Nat}{A:Around}{env:Env}{f:Fr}{ρ:List Addr}{σ:List MO}{s:Shared}
theorem SR.AZ(sr:SR c ρ σ s){a:Addr}{o:Obj}(e:c.h0.get? a=some o):a∉ρ:=fun h=>by rw[sr.fresh a h]at e;cases e
theorem SR.out(sr:SR c ρ σ s){a:Addr}{o:Obj}(e:c.h0.get? a=some o):dY c ρ a:=⟨sr.AZ e,fun h=>by rw[(sr.d9 a h).1]at e;cases e⟩
theorem SR.jr(sr:SR c ρ σ s){a:Addr}{o:Obj}(e:c.h0.get? a=some o)(hc:o.cls≠.none):s.heap.get? a=some o:=sr.old.get_of_cls e hc
theorem qY{h:Heap}{a:Addr}{m:Str→Option Value}(hn:h.Ns a m){h':Heap}(k:∀o,h.get? a=some o→h'.get? a=some o):h'.Ns a m:=by
 obtain⟨o,e,_⟩:=AN hn
 exact HQ hn e (k o e) rfl
theorem SR.tr(sr:SR c ρ σ s):lx c.bare c.d9 [] c.h0 ρ s.heap False 0:=⟨fun Z Z e Z=>sr.out e,fun Z o e n Z Z=>⟨o,sr.jr e n,Sm.refl o⟩,fun Z Z Z e=>by simp at e⟩
theorem cI.old(sr:SR c ρ σ s){v:J}{V:Value}(hs:v.sW=true)(r:cI c.bare [] c.h0 v V):cI c ρ s.heap v V:=r.map sr.tr (.inr hs)
theorem dh.old(sr:SR c ρ σ s){l:List J}{L:List Value}(hs:J.stats l=true)(r:dh c.bare [] c.h0 l L):dh c ρ s.heap l L:=r.map sr.tr (.inr hs)
noncomputable def d7{α:Type}(l:List α):Nat→Option α:=List.rec (motive:=fun Z=>Nat→Option α) (fun Z=>none) (fun x Z ih i=>Nat.rec (motive:=fun Z=>Option α) (some x) (fun j Z=>ih j) i) l
theorem il{α:Type}:∀(l:List α) (i:Nat),d7 l i=l[i]?
 |[],_=>rfl
 |_::_,0=>rfl
 |_::l,i+1=>by rw[List.getElem?_cons_succ];exact il l i
theorem cw{α:Type}{r:α}{P:Prop}(h:none=some r):P:=nomatch h
noncomputable def gd{α:Type}(b:Bool)(x:Option α):Option α:=@Bool.rec (fun Z=>Option α) none x b
theorem gK{α:Type}{b:Bool}{x:Option α}{r:α}:gd b x=some r→b=true∧x=some r:=@Bool.rec (fun b=>gd b x=some r→b=true∧x=some r) (fun h=>cw h) (fun h=>⟨rfl,h⟩) b
noncomputable def ej{α β:Type}(o:Option α)(k:α→Option β):Option β:=@Option.rec α (fun Z=>Option β) none k o
theorem eP{α β:Type}{o:Option α}{k:α→Option β}{r:β}:ej o k=some r→∃x,o=some x∧k x=some r:=@Option.rec α (fun o=>ej o k=some r→∃x,o=some x∧k x=some r) (fun h=>cw h) (fun x h=>⟨x,rfl,h⟩) o
theorem iA{α β:Type}{a c:α}{b d:β}(h:some (a,b)=some (c,d)):c=a∧d=b:=⟨congrArg Prod.fst (aV h).symm,congrArg Prod.snd (aV h).symm⟩
noncomputable def oB{α:Type}(x:Option α)(p:α→Bool):Bool:=@Option.casesOn α (fun Z=>Bool) x false p
theorem l8{α:Type}{x:Option α}{p:α→Bool}:oB x p=true→∃a,x=some a∧p a=true:=@Option.casesOn α (fun x=>oB x p=true→∃a,x=some a∧p a=true) x (fun h=>cF h) fun a h=>⟨a,rfl,h⟩
def tF{α:Type}(σ:List MO)(i:Nat)(k:Nat→List (Option J)→Option α):Option α:=ej (d7 σ i) fun m=>@MO.casesOn (fun Z=>Option α) m (fun Z=>none) (fun Z=>none) (fun Z Z=>none) (fun Z=>none) k (fun Z=>none) (fun Z Z=>none) none none none (fun Z=>none) none
theorem Ig{α:Type}{σ:List MO}{i:Nat}{k:Nat→List (Option J)→Option α}{r:α}(h:tF σ i k=some r):∃k' l,d7 σ i=some (.fr k' l)∧k k' l=some r:=
 (eP h).elim fun m y=>@MO.casesOn (fun m=>d7 σ i=some m→@MO.casesOn (fun Z=>Option α) m (fun Z=>none) (fun Z=>none) (fun Z Z=>none) (fun Z=>none) k (fun Z=>none) (fun Z Z=>none) none none none (fun Z=>none) none=some r→∃k' l,d7 σ i=some (.fr k' l)∧k k' l=some r) m (fun Z Z h=>cw h) (fun Z Z h=>cw h) (fun Z Z Z h=>cw h) (fun Z Z h=>cw h) (fun k' l q h=>⟨k',l,q,h⟩) (fun Z Z h=>cw h) (fun Z Z Z h=>cw h) (fun Z h=>cw h) (fun Z h=>cw h) (fun Z h=>cw h) (fun Z Z h=>cw h) (fun Z h=>cw h) y.1 y.2
def tC{α:Type}(σ:List MO)(i:Nat)(k:Option J→Option α):Option α:=ej (d7 σ i) fun m=>@MO.casesOn (fun Z=>Option α) m (fun Z=>none) (fun Z=>none) (fun Z Z=>none) (fun Z=>none) (fun Z Z=>none) k (fun Z Z=>none) none none none (fun Z=>none) none
theorem ack{α:Type}{σ:List MO}{i:Nat}{k:Option J→Option α}{r:α}(h:tC σ i k=some r):∃v,d7 σ i=some (.fg v)∧k v=some r:=
 (eP h).elim fun m y=>@MO.casesOn (fun m=>d7 σ i=some m→@MO.casesOn (fun Z=>Option α) m (fun Z=>none) (fun Z=>none) (fun Z Z=>none) (fun Z=>none) (fun Z Z=>none) k (fun Z Z=>none) none none none (fun Z=>none) none=some r→∃v,d7 σ i=some (.fg v)∧k v=some r) m (fun Z Z h=>cw h) (fun Z Z h=>cw h) (fun Z Z Z h=>cw h) (fun Z Z h=>cw h) (fun Z Z Z h=>cw h) (fun v q h=>⟨v,q,h⟩) (fun Z Z Z h=>cw h) (fun Z h=>cw h) (fun Z h=>cw h) (fun Z h=>cw h) (fun Z Z h=>cw h) (fun Z h=>cw h) y.1 y.2
def bY(k i:Nat)(f:Fr)(σ:List MO):Out J:=tF σ f.fr fun k' l=>gd (Nat.beq k' k) (ej (d7 l i) fun o=>ej o fun v=>some (.ok v,σ))
def dX(j:Nat)(f:Fr)(σ:List MO):Out J:=ej (d7 f.cs j) fun i=>tC σ i fun o=>ej o fun v=>some (.ok v,σ)
theorem abz{k i:Nat}{f:Fr}{σ:List MO}{r:Res J}{cG:List MO}(h:bY k i f σ=some (r,cG)):∃l v,σ[f.fr]? =some (.fr k l)∧l[i]? =some (some v)∧r=.ok v∧cG=σ:=by
 refine zz fun GG KK=>?_
 obtain⟨k',l,h1,h⟩:=Ig h
 obtain⟨hb,h⟩:=gK h
 obtain⟨o,h2,h⟩:=eP h
 obtain⟨v,rfl,h⟩:=eP h
 exact KK ⟨l,v,aY hb▸(il _ _).symm.trans h1,(il _ _).symm.trans h2,iA h⟩
theorem Pz{j:Nat}{f:Fr}{σ:List MO}{r:Res J}{cG:List MO}(h:dX j f σ=some (r,cG)):∃i v,f.cs[j]? =some i∧σ[i]? =some (.fg (some v))∧r=.ok v∧cG=σ:=by
 refine zz fun GG KK=>?_
 obtain⟨i,h1,h⟩:=eP h
 obtain⟨o,h2,h⟩:=ack h
 obtain⟨v,rfl,h⟩:=eP h
 exact KK ⟨i,v,(il _ _).symm.trans h1,(il _ _).symm.trans h2,iA h⟩
theorem iT.kA{β α:Type}{R:List Addr→Heap→β→α→Prop}{b:β}{r:Res β}{cG:List MO}{Q:α→Shared→Prop}{E:Value→Shared→Prop}{V:α}(P:iT c R ρ s.heap r cG Q E)(hx:some (Res.ok b,σ)=some (r,cG))(sr:SR c ρ σ s)(rel:R ρ s.heap b V):Q V s:=
 (iA hx).2▸P|>fun P=>P.ok b V ρ s (iA hx).1 (Ext.refl _ _) sr rel
theorem DE.lv{x:Str}{i:Nat}{pos:Pos}(hi:(c.dE g.k)[i]? =some x)(hk:g.scope.names.lookup x=some .local)(hd:(x==("__debug__":Str))=false):DE c g n (.Name x pos) (bY g.k i):=by
 intro A env f ρ σ s hr he sr
 refine⟨fun r cG hx Q E P=>?_⟩
 refine zz fun GG KK=>?_
 obtain⟨l,v,h1,h2,rfl,rfl⟩:=abz hx
 obtain⟨a,ha,m,ns,hl,hv⟩:=sr.at h1
 have Bn:=he.loc
 rw[ha]at Bn;cases Bn
 have:=hv i x _ hi h2
 refine KK ?_
 cases hm:m x with
 |none=>rw[hm]at this;exact this.elim
 |some V=>
  rw[hm]at this
  refine wpAny_Name (wpAny_loadName_local (by rw[he.scope];exact he.kind) (by unfold Env.kindOf;rw[he.scope];exact hk) ns hm (P.here sr this)) hd
theorem aq{x:Str}{j:Nat}{pos:Pos}(hj:g.cn[j]? =some x:=by kernel_rfl)(hk:g.scope.names.lookup x=some .cell:=by kernel_rfl)(hd:(x==("__debug__":Str))=false:=by kernel_rfl):DE c g n (.Name x pos) (dX j):=by
 intro A env f ρ σ s hr he sr
 refine⟨fun r cG hx Q E P=>?_⟩
 refine zz fun GG KK=>?_
 obtain⟨i,v,h1,h2,rfl,rfl⟩:=Pz hx
 obtain⟨a,ha,V,hc,hv⟩:=sr.at h2
 obtain⟨a',q1,q2⟩:=he.cell j x i hj h1
 rw[ha]at q2;cases q2
 refine KK ?_
 cases V with
 |none=>exact hv.elim
 |some V=>exact wpAny_Name (wpAny_loadName_cell (by rw[he.scope];exact he.kind) (by unfold Env.kindOf;rw[he.scope];exact hk) q1 hc (P.here sr hv)) hd
theorem DE.fv{x:Str}{j:Nat}{pos:Pos}(hj:g.cn[j]? =some x:=by kernel_rfl)(hk:g.scope.names.lookup x=some .free:=by kernel_rfl)(hd:(x==("__debug__":Str))=false:=by kernel_rfl)(hn:(x==("__classdict__":Str))=false:=by kernel_rfl):DE c g n (.Name x pos) (dX j):=by
 intro A env f ρ σ s hr he sr
 refine⟨fun r cG hx Q E P=>?_⟩
 refine zz fun GG KK=>?_
 obtain⟨i,v,h1,h2,rfl,rfl⟩:=Pz hx
 obtain⟨a,ha,V,hc,hv⟩:=sr.at h2
 obtain⟨a',q1,q2⟩:=he.cell j x i hj h1
 rw[ha]at q2;cases q2
 refine KK ?_
 cases V with
 |none=>exact hv.elim
 |some V=>exact wpAny_Name (wpAny_loadName_free (by rw[he.scope];exact he.kind) (by unfold Env.kindOf;rw[he.scope];exact hk) q1 hc (P.here sr hv) hn) hd
noncomputable def af_(v:J)(_:Fr)(σ:List MO):Out J:=some (.ok v,σ)
variable{gl:Str→Option J}{gz:Str→Bool}
theorem Facts.global(F:Facts c gl gz)(sr:SR c ρ σ s)(he:fW c g A env f ρ s.heap){x:Str}{v:J}{pos:Pos}(hv:gl x=some v)(hk:g.scope.names.lookup x=some .globalImplicit)(hd:(x==("__debug__":Str))=false)
  {Q:Value→Shared→Prop} {E:Value→Shared→Prop} (h:∀V,cI c ρ s.heap v V→Q V s):wpAny (model c.prog c.w) A (eval (.Name x pos) env) Q E s:=by
 refine zz fun GG KK=>?_
 obtain⟨o,mg,ho,hc,ns,hg,_⟩:=F.g
 obtain⟨hs,V,hm,rel⟩:=hg x v hv
 refine KK ?_
 refine Name_function_global (by rw[he.scope];exact he.kind) (by unfold Env.kindOf;rw[he.scope];exact hk) (loadGlobal_global ?_ hm (h V (rel.old sr hs))) hd
 rw[he.glob]
 exact qY ns fun o' e=>by rw[ho]at e;cases e;exact sr.jr ho hc
theorem DE.gv(F:Facts c gl gz){x:Str}{v:J}{pos:Pos}(hv:gl x=some v)(hk:g.scope.names.lookup x=some .globalImplicit)(hd:(x==("__debug__":Str))=false):DE c g n (.Name x pos) (af_ v):=by
 intro A env f ρ σ s hr he sr
 refine⟨fun r cG hx Q E P=>?_⟩
 cases hx
 exact F.global sr he hv hk hd fun V rel=>P.here sr rel
theorem Facts.builtin(F:Facts c gl gz)(sr:SR c ρ σ s)(he:fW c g A env f ρ s.heap){x:Str}{V:Value}{pos:Pos}(hn:gz x=true)(hb:bootBuiltins x=some V)(hk:g.scope.names.lookup x=some .globalImplicit)(hd:(x==("__debug__":Str))=false)
  {Q:Value→Shared→Prop} {E:Value→Shared→Prop} (h:Q V s):wpAny (model c.prog c.w) A (eval (.Name x pos) env) Q E s:=by
 refine zz fun GG KK=>?_
 obtain⟨o,mg,ho,hc,ns,_,hg⟩:=F.g
 obtain⟨o1,mb,F3,uw,nb,Kj⟩:=F.b
 refine KK ?_
 refine Name_function_global (by rw[he.scope];exact he.kind) (by unfold Env.kindOf;rw[he.scope];exact hk) (loadGlobal_builtin (mg:=mg) (mb:=mb) ?_ (hg x hn) ?_ ((Kj x hn).trans hb) h) hd
 ·rw[he.glob]
  exact qY ns fun o' e=>by rw[ho]at e;cases e;exact sr.jr ho hc
 ·rw[he.blt]
  exact qY nb fun o' e=>by rw[F3]at e;cases e;exact sr.jr F3 uw
noncomputable def ret(v:J)(_:Fr)(σ:List MO):Out J:=some (.ok v,σ)
theorem aJ{k:Nat}{pos:Pos}:DE c g n (.Constant .none k pos) (ret .none):=by
 intro A env f ρ σ s _ _ sr
 refine⟨fun r cG hx Q E P=>?_⟩
 cases hx;exact wpAny_Constant_none (P.here sr .none)
theorem ar{b:Bool}{k:Nat}{pos:Pos}:DE c g n (.Constant (.bool b) k pos) (ret (.bool b)):=fun A env f ρ σ s Z Z sr=>⟨fun r cG hx Q E P=>wpAny_Constant_bool (P.kA hx sr (.bool b))⟩
theorem Ext.toks(ρ:List Addr)(s:Shared)(t:Nat):Ext ρ s.heap ρ ({s with toks:=t}:Shared).heap:=Ext.refl _ _
theorem ak{i:Int}{k:Nat}{pos:Pos}:DE c g n (.Constant (.int i) k pos) (ret (.int i)):=fun A env f ρ σ s Z Z sr=>⟨fun r cG hx Q E P=>wpAny_Constant_int (iT.kA (s:={s with toks:=s.toks+1}) P hx (sr.toks _) (.int i _))⟩
theorem DE.str{x:Str}{k:Nat}{pos:Pos}:DE c g n (.Constant (.str x) k pos) (ret (.str x)):=fun A env f ρ σ s Z Z sr=>⟨fun r cG hx Q E P=>wpAny_Constant_str (iT.kA (s:={s with toks:=s.toks+1}) P hx (sr.toks _) (.str x _))⟩
end
noncomputable def ok{β:Type}(b:β)(σ:List MO):Out β:=some (.ok b,σ)
theorem iT.got{c:Cx}{α β:Type}{R:List Addr→Heap→β→α→Prop}{ρ:List Addr}{h:Heap}{r:Res β}{σ cG:List MO}{b:β}{Q:α→Shared→Prop}{E:Value→Shared→Prop}(P:iT c R ρ h r cG Q E)(hx:Mine.ok b σ=some (r,cG)):iT c R ρ h (.ok b) σ Q E:=by cases hx;exact P
def m1(m:J→List MO→Out J)(x:Fr→List MO→Out J)(f:Fr)(σ:List MO):Out J:=dk (x f σ) m
structure bV(c:Cx)(g:FC)(n:Nat)(es:List Expr)(xs:Fr→List MO→Out (List J)):Prop where
 pl:es.all kdsPlain=true
 run:∀A env f ρ σ s pos,g0 A n→fW c g A env f ρ s.heap→SR c ρ σ s→Den c A (dh c) ρ s (spliced (backTo pos (starEach es env))) (xs f σ)
noncomputable abbrev jf(e:Expr):Bool:=kdsPlain e
theorem o_{e:Expr}{es:List Expr}(h:(e::es).all jf=true)(env:Env):starEach (e::es) env=(false,eval e env)::starEach es env:=
 (kds_star (env:=env) (e::es) h).trans (congrArg ((false,eval e env)::·) (kds_star (env:=env) es (Bool.and_eq_true_iff.mp ((List.all_cons (f:=jf)).symm.trans h)).2).symm)
section
variable{c:Cx}{g:FC}{n:Nat}{A:Around}{env:Env}{f:Fr}{ρ:List Addr}{σ:List MO}{s:Shared}
def cm(_:Fr)(σ:List MO):Out (List J):=ok [] σ
def bZ(x:Fr→List MO→Out J)(xs:Fr→List MO→Out (List J))(f:Fr)(σ:List MO):Out (List J):=dk (x f σ) fun v σ=>dk (xs f σ) fun l σ=>ok (v::l) σ
theorem af:bV c g n [] cm:=⟨rfl,fun A env f ρ σ s pos Z Z sr=>⟨fun r cG hx Q E P=>spliced_nil (P.kA hx sr .nil)⟩⟩
theorem ae{e:Expr}{es:List Expr}{x:Fr→List MO→Out J}{xs:Fr→List MO→Out (List J)}(h1:DE c g n e x)(h2:bV c g n es xs)(hu:jf e=true:=by exact rfl):bV c g n (e::es) (bZ x xs):=by
 have pl:(e::es).all kdsPlain=true:=(List.all_cons (f:=jf)).trans (Bool.and_eq_true_iff.mpr ⟨hu,h2.pl⟩)
 refine⟨pl,fun A env f ρ σ s pos hr he sr=>⟨fun r cG hx Q E P=>?_⟩⟩
 rw[o_ pl]
 exact spliced_cons ((h1 A env f ρ σ s hr he sr).step hx P fun v V cW σ₁ cD e1 cY rv dB P1=>
  (h2.run A env f cW σ₁ cD pos hr (he.mono e1) cY).step dB P1 fun l L ρ₂ fU fu e2 fh rl fC P2=>P2.kA fC fh (.cons (rv.mono e2) rl))
theorem dh.length{h:Heap}:∀{l:List J} {L:List Value},dh c ρ h l L→L.length=l.length
 |[],_,r=>by obtain rfl:=r.i9;rfl
 |_::_,_,r=>by obtain⟨_,_,rfl,_,b⟩:=r.gr;exact congrArg Nat.succ b.length
noncomputable def short{α:Type}(l:List α):Bool:=Nat.ble l.length 4000
theorem qj{α:Type}{l:List α}(h:short l=true):l.length≤sizeLine:=by
 have:=bw h
 rw[sizeLine_eq];omega
def dq(xs:Fr→List MO→Out (List J))(f:Fr)(σ:List MO):Out J:=dk (xs f σ) fun l σ=>gd (short l) (ok (.tup l) σ)
def gw(xs:Fr→List MO→Out (List J))(f:Fr)(σ:List MO):Out J:=dk (xs f σ) fun l σ=>gd (short l) (ok (.lst l) σ)
def Bo(xs:Fr→List MO→Out (List J))(f:Fr)(σ:List MO):Out J:=dk (xs f σ) fun l σ=>gd (short l) (ok (.loc σ.length) (σ++[.lst l]))
theorem SR.vp(sr:SR c ρ σ s){l:List J}{L:List Value}(r:dh c ρ s.heap l L){t:Nat}:
  SR c ρ σ {s with heap:=s.heap.push {cls:=.type "tuple",data:=.seq L.toArray},toks:=t}∧cI c ρ (s.heap.push {cls:=.type "tuple",data:=.seq L.toArray}) (.tup l) (.ref s.heap.objs.size):=
 ⟨sr.keeps fun Z Z e=>aX _ e,.tup (n:=0) (bf _ rfl) (lM sr (kS _)) (r.mono (Ext.push _))⟩
theorem SR.En(sr:SR c ρ σ s){l:List J}{L:List Value}(r:dh c ρ s.heap l L){t:Nat}:
  SR c ρ σ {s with heap:=s.heap.push {cls:=.type "list",data:=.seq L.toArray},toks:=t}∧cI c ρ (s.heap.push {cls:=.type "list",data:=.seq L.toArray}) (.lst l) (.ref s.heap.objs.size):=
 ⟨sr.keeps fun Z Z e=>aX _ e,.lst (n:=0) (bf _ rfl) (lM sr (kS _)) (r.mono (Ext.push _))⟩
theorem aj{es:List Expr}{k:Nat}{pos:Pos}{xs:Fr→List MO→Out (List J)}(h:bV c g n es xs):DE c g n (.Tuple es k pos) (dq xs):=fun A env f ρ σ s hr he sr=>⟨fun Z Z hx Z Z P=>
 wpAny_Tuple ((h.run A env f ρ σ s pos hr he sr).step hx P fun l L cW σ₁ cD e1 cY rl dB P1=>⟨by rw[rl.length];exact qj (gK dB).1,(P1.got (gK dB).2).ok _ _ cW _ rfl (Ext.push _) (cY.vp rl).1 (cY.vp (t:=0) rl).2⟩)⟩
theorem au{es:List Expr}{pos:Pos}{xs:Fr→List MO→Out (List J)}(h:bV c g n es xs):DE c g n (.List es pos) (gw xs):=fun A env f ρ σ s hr he sr=>⟨fun Z Z hx Z Z P=>
 wpAny_List ((h.run A env f ρ σ s pos hr he sr).step hx P fun l L cW σ₁ cD e1 cY rl dB P1=>⟨by rw[rl.length];exact qj (gK dB).1,(P1.got (gK dB).2).ok _ _ cW _ rfl (Ext.push _) (cY.En rl).1 (cY.En (t:=0) rl).2⟩)⟩
theorem DE.new{es:List Expr}{pos:Pos}{xs:Fr→List MO→Out (List J)}(h:bV c g n es xs):DE c g n (.List es pos) (Bo xs):=fun A env f ρ σ s hr he sr=>⟨fun Z Z hx Z Z P=>
 wpAny_List ((h.run A env f ρ σ s pos hr he sr).step hx P fun l L cW σ₁ cD e1 cY rl dB P1=>⟨by rw[rl.length];exact qj (gK dB).1,
  (P1.got (gK dB).2).ok _ _ _ _ rfl (Ext.oG _) (cY.oG (o:={cls:=.type "list",data:=.seq L.toArray}) (mo:=.lst l) ⟨L,0,bf _ rfl,rl.mono (Ext.oG _)⟩) (.loc (by rw[←cY.len];simp))⟩)⟩
def J.data(v:J):Option PyData:=@J.rec (fun Z=>Option PyData) (fun Z=>Option (List PyData)) (fun Z=>Unit) (fun Z=>Unit) (some .none) (fun b=>some (.bool b)) (fun i=>some (.int i)) (fun x=>some (.str x)) (fun Z ih=>ej ih fun ds=>some (.tuple ds)) (fun Z ih=>ej ih fun ds=>some (.list ds))
 (fun Z Z=>Option.none) (fun Z Z Z=>Option.none) (fun Z=>Option.none) (fun Z=>Option.none) (fun Z=>Option.none) (fun Z=>Option.none) (fun Z=>Option.none) Option.none (some []) (fun Z Z d ds=>ej d fun d=>ej ds fun ds=>some (d::ds)) () (fun Z Z Z Z=>()) (fun Z Z Z=>()) v
def J.my(l:List J):Option (List PyData):=@List.rec J (fun Z=>Option (List PyData)) (some []) (fun v Z ds=>ej v.data fun d=>ej ds fun ds=>some (d::ds)) l
theorem J.PA(l:List J):@J.rec_1 (fun Z=>Option PyData) (fun Z=>Option (List PyData)) (fun Z=>Unit) (fun Z=>Unit) (some .none) (fun b=>some (.bool b)) (fun i=>some (.int i)) (fun x=>some (.str x)) (fun Z ih=>ej ih fun ds=>some (.tuple ds)) (fun Z ih=>ej ih fun ds=>some (.list ds))
 (fun Z Z=>Option.none) (fun Z Z Z=>Option.none) (fun Z=>Option.none) (fun Z=>Option.none) (fun Z=>Option.none) (fun Z=>Option.none) (fun Z=>Option.none) Option.none (some []) (fun Z Z d ds=>ej d fun d=>ej ds fun ds=>some (d::ds)) () (fun Z Z Z Z=>()) (fun Z Z Z=>()) l=J.my l:=by
 induction l with
 |nil=>rfl
 |cons v l ih=>exact congrArg (fun x=>ej v.data fun d=>ej x fun ds=>some (d::ds)) ih
theorem n4(l:List J):J.data (.tup l)=ej (J.my l) fun ds=>some (.tuple ds):=by rw[←J.PA];rfl
theorem n5(l:List J):J.data (.lst l)=ej (J.my l) fun ds=>some (.list ds):=by rw[←J.PA];rfl
theorem cI.reads{h:Heap}{v:J}{V:Value}{d:PyData}(r:cI c ρ h v V):v.data=some d→∃as,Reads h V d as:=
 @cI.rec c ρ h (fun v V Z=>∀d,v.data=some d→∃as,Reads h V d as) (fun l L Z=>∀ds,J.my l=some ds→∃as,ReadsAll h L ds as) (fun Z Z Z=>True)
  (fun Z q=>aV q▸⟨_,.none⟩) (fun b Z q=>aV q▸⟨_,.bool b⟩) (fun i t Z q=>aV q▸⟨_,.int i t⟩) (fun x t Z q=>aV q▸⟨_,.str x t⟩)
  (fun{l _ _ Vs} e _ _ ih _ q=>let⟨ds,h1,h2⟩:=eP ((n4 l).symm.trans q);let⟨as,ra⟩:=ih ds h1;aV h2▸⟨_,.tuple e rfl rfl (by simpa using ra)⟩)
  (fun{l _ _ Vs} e _ _ ih _ q=>let⟨ds,h1,h2⟩:=eP ((n5 l).symm.trans q);let⟨as,ra⟩:=ih ds h1;aV h2▸⟨_,.list e rfl rfl (by simpa using ra)⟩)
  (fun Z Z Z Z Z Z q=>cw q) (fun Z Z Z Z Z Z Z Z Z Z Z Z Z Z q=>cw q) (fun Z Z q=>cw q) (fun Z Z q=>cw q) (fun Z Z q=>cw q) (fun Z Z q=>cw q) (fun Z Z Z Z Z Z Z Z Z Z Z Z Z Z q=>cw q) (fun Z Z q=>cw q)
  (fun Z q=>aV q▸⟨_,.nil⟩) (fun Z Z BM BN Z q=>let⟨d,h1,h⟩:=eP q;let⟨ds,h2,h3⟩:=eP h;let⟨as,ra⟩:=BM d h1;let⟨bs,rb⟩:=BN ds h2;aV h3▸⟨_,.cons ra rb⟩)
  trivial (fun Z Z Z Z=>trivial) v V r d
theorem dh.reads{h:Heap}:∀{l:List J} {L:List Value} {ds:List PyData},dh c ρ h l L→J.my l=some ds→∃as,ReadsAll h L ds as
 |[],_,_,r,q=>by obtain rfl:=r.i9;exact aV q▸⟨_,.nil⟩
 |v::l,_,_,r,q=>by
  refine zz fun GG KK=>?_
  obtain⟨_,_,rfl,a,b⟩:=r.gr
  obtain⟨d,h1,h⟩:=eP q
  obtain⟨ds,h2,h3⟩:=eP h
  obtain⟨as,ra⟩:=a.reads h1
  obtain⟨bs,rb⟩:=dh.reads b h2
  refine KK ?_
  exact aV h3▸⟨_,.cons ra rb⟩
end
noncomputable def vI{α:Type}(v:J)(k:Int→Option α):Option α:=@J.casesOn (fun Z=>Option α) v none (fun Z=>none) k (fun Z=>none) (fun Z=>none) (fun Z=>none) (fun Z=>none) (fun Z Z=>none) (fun Z=>none) (fun Z=>none) (fun Z=>none) (fun Z=>none) (fun Z=>none) none
theorem t8{α:Type}{v:J}{k:Int→Option α}{r:α}:vI v k=some r→∃x,v=.int x∧k x=some r:=
 @J.casesOn (fun v=>vI v k=some r→∃x,v=.int x∧k x=some r) v (fun h=>cw h) (fun Z h=>cw h) (fun x h=>⟨x,rfl,h⟩) (fun Z h=>cw h) (fun Z h=>cw h) (fun Z h=>cw h) (fun Z h=>cw h) (fun Z Z h=>cw h) (fun Z h=>cw h) (fun Z h=>cw h) (fun Z h=>cw h) (fun Z h=>cw h) (fun Z h=>cw h) (fun h=>cw h)
noncomputable def vS{α:Type}(v:J)(k:Str→Option α):Option α:=@J.casesOn (fun Z=>Option α) v none (fun Z=>none) (fun Z=>none) k (fun Z=>none) (fun Z=>none) (fun Z=>none) (fun Z Z=>none) (fun Z=>none) (fun Z=>none) (fun Z=>none) (fun Z=>none) (fun Z=>none) none
theorem Ih{α:Type}{v:J}{k:Str→Option α}{r:α}:vS v k=some r→∃x,v=.str x∧k x=some r:=
 @J.casesOn (fun v=>vS v k=some r→∃x,v=.str x∧k x=some r) v (fun h=>cw h) (fun Z h=>cw h) (fun Z h=>cw h) (fun x h=>⟨x,rfl,h⟩) (fun Z h=>cw h) (fun Z h=>cw h) (fun Z h=>cw h) (fun Z Z h=>cw h) (fun Z h=>cw h) (fun Z h=>cw h) (fun Z h=>cw h) (fun Z h=>cw h) (fun Z h=>cw h) (fun h=>cw h)
noncomputable def vT{α:Type}(v:J)(k:List J→Option α):Option α:=@J.casesOn (fun Z=>Option α) v none (fun Z=>none) (fun Z=>none) (fun Z=>none) k (fun Z=>none) (fun Z=>none) (fun Z Z=>none) (fun Z=>none) (fun Z=>none) (fun Z=>none) (fun Z=>none) (fun Z=>none) none
theorem Ii{α:Type}{v:J}{k:List J→Option α}{r:α}:vT v k=some r→∃x,v=.tup x∧k x=some r:=
 @J.casesOn (fun v=>vT v k=some r→∃x,v=.tup x∧k x=some r) v (fun h=>cw h) (fun Z h=>cw h) (fun Z h=>cw h) (fun Z h=>cw h) (fun x h=>⟨x,rfl,h⟩) (fun Z h=>cw h) (fun Z h=>cw h) (fun Z Z h=>cw h) (fun Z h=>cw h) (fun Z h=>cw h) (fun Z h=>cw h) (fun Z h=>cw h) (fun Z h=>cw h) (fun h=>cw h)
noncomputable def vL{α:Type}(v:J)(k:List J→Option α):Option α:=@J.casesOn (fun Z=>Option α) v none (fun Z=>none) (fun Z=>none) (fun Z=>none) (fun Z=>none) k (fun Z=>none) (fun Z Z=>none) (fun Z=>none) (fun Z=>none) (fun Z=>none) (fun Z=>none) (fun Z=>none) none
theorem QD{α:Type}{v:J}{k:List J→Option α}{r:α}:vL v k=some r→∃x,v=.lst x∧k x=some r:=
 @J.casesOn (fun v=>vL v k=some r→∃x,v=.lst x∧k x=some r) v (fun h=>cw h) (fun Z h=>cw h) (fun Z h=>cw h) (fun Z h=>cw h) (fun Z h=>cw h) (fun x h=>⟨x,rfl,h⟩) (fun Z h=>cw h) (fun Z Z h=>cw h) (fun Z h=>cw h) (fun Z h=>cw h) (fun Z h=>cw h) (fun Z h=>cw h) (fun Z h=>cw h) (fun h=>cw h)
noncomputable def vD{α:Type}(v:J)(k:List (Str×J)→Option α):Option α:=@J.casesOn (fun Z=>Option α) v none (fun Z=>none) (fun Z=>none) (fun Z=>none) (fun Z=>none) (fun Z=>none) k (fun Z Z=>none) (fun Z=>none) (fun Z=>none) (fun Z=>none) (fun Z=>none) (fun Z=>none) none
theorem Ij{α:Type}{v:J}{k:List (Str×J)→Option α}{r:α}:vD v k=some r→∃x,v=.fB x∧k x=some r:=
 @J.casesOn (fun v=>vD v k=some r→∃x,v=.fB x∧k x=some r) v (fun h=>cw h) (fun Z h=>cw h) (fun Z h=>cw h) (fun Z h=>cw h) (fun Z h=>cw h) (fun Z h=>cw h) (fun x h=>⟨x,rfl,h⟩) (fun Z Z h=>cw h) (fun Z h=>cw h) (fun Z h=>cw h) (fun Z h=>cw h) (fun Z h=>cw h) (fun Z h=>cw h) (fun h=>cw h)
noncomputable def vR{α:Type}(v:J)(k:Nat→Option α):Option α:=@J.casesOn (fun Z=>Option α) v none (fun Z=>none) (fun Z=>none) (fun Z=>none) (fun Z=>none) (fun Z=>none) (fun Z=>none) (fun Z Z=>none) k (fun Z=>none) (fun Z=>none) (fun Z=>none) (fun Z=>none) none
theorem Eo{α:Type}{v:J}{k:Nat→Option α}{r:α}:vR v k=some r→∃x,v=.loc x∧k x=some r:=
 @J.casesOn (fun v=>vR v k=some r→∃x,v=.loc x∧k x=some r) v (fun h=>cw h) (fun Z h=>cw h) (fun Z h=>cw h) (fun Z h=>cw h) (fun Z h=>cw h) (fun Z h=>cw h) (fun Z h=>cw h) (fun Z Z h=>cw h) (fun x h=>⟨x,rfl,h⟩) (fun Z h=>cw h) (fun Z h=>cw h) (fun Z h=>cw h) (fun Z h=>cw h) (fun h=>cw h)
noncomputable def vB{α:Type}(v:J)(k:Bool→Option α):Option α:=@J.casesOn (fun Z=>Option α) v none k (fun Z=>none) (fun Z=>none) (fun Z=>none) (fun Z=>none) (fun Z=>none) (fun Z Z=>none) (fun Z=>none) (fun Z=>none) (fun Z=>none) (fun Z=>none) (fun Z=>none) none
theorem AE{α:Type}{v:J}{k:Bool→Option α}{r:α}:vB v k=some r→∃x,v=.bool x∧k x=some r:=
 @J.casesOn (fun v=>vB v k=some r→∃x,v=.bool x∧k x=some r) v (fun h=>cw h) (fun x h=>⟨x,rfl,h⟩) (fun Z h=>cw h) (fun Z h=>cw h) (fun Z h=>cw h) (fun Z h=>cw h) (fun Z h=>cw h) (fun Z Z h=>cw h) (fun Z h=>cw h) (fun Z h=>cw h) (fun Z h=>cw h) (fun Z h=>cw h) (fun Z h=>cw h) (fun h=>cw h)
noncomputable def vA{α:Type}(v:J)(k:Addr→Option α):Option α:=@J.casesOn (fun Z=>Option α) v none (fun Z=>none) (fun Z=>none) (fun Z=>none) (fun Z=>none) (fun Z=>none) (fun Z=>none) (fun Z Z=>none) (fun Z=>none) k (fun Z=>none) (fun Z=>none) (fun Z=>none) none
theorem Ep{α:Type}{v:J}{k:Addr→Option α}{r:α}:vA v k=some r→∃x,v=.dC x∧k x=some r:=
 @J.casesOn (fun v=>vA v k=some r→∃x,v=.dC x∧k x=some r) v (fun h=>cw h) (fun Z h=>cw h) (fun Z h=>cw h) (fun Z h=>cw h) (fun Z h=>cw h) (fun Z h=>cw h) (fun Z h=>cw h) (fun Z Z h=>cw h) (fun Z h=>cw h) (fun x h=>⟨x,rfl,h⟩) (fun Z h=>cw h) (fun Z h=>cw h) (fun Z h=>cw h) (fun h=>cw h)
section
variable{c:Cx}{A:Around}{α β:Type}{R:List Addr→Heap→β→α→Prop}{ρ:List Addr}{σ:List MO}{s:Shared}{t:Sem α}{b:β}
theorem Den.now(H:∀Q E,iT c R ρ s.heap (.ok b) σ Q E→wpAny (model c.prog c.w) A t Q E s):Den c A R ρ s t (ok b σ):=
 ⟨fun r cG hx Q E P=>@Eq.rec (Option (Res β×List MO)) (some (.ok b,σ)) (fun y Z=>iT c R ρ s.heap (y.elim r Prod.fst) (y.elim cG Prod.snd) Q E→wpAny (model c.prog c.w) A t Q E s) (H Q E) _ hx P⟩
theorem Den.gd{g:Bool}{x:Out β}(H:g=true→Den c A R ρ s t x):Den c A R ρ s t (gd g x):=⟨fun r cG hx Q E P=>(H (gK hx).1).run r cG (gK hx).2 Q E P⟩
theorem Den.ej{γ:Type}{o:Option γ}{k:γ→Out β}(H:∀x,o=some x→Den c A R ρ s t (k x)):Den c A R ρ s t (ej o k):=@Option.rec γ (fun o=>(∀x,o=some x→Den c A R ρ s t (k x))→Den c A R ρ s t (Mine.ej o k)) (fun Z=>Den.none) (fun x H=>H x rfl) o H
theorem Den.vI{T:Value→Sem α}{v:J}{V:Value}{k:Int→Out β}(r:cI c ρ s.heap v V)(H:∀x t,Den c A R ρ s (T (.int x t)) (k x)):Den c A R ρ s (T V) (vI v k):=
 @J.casesOn (fun v=>cI c ρ s.heap v V→Den c A R ρ s (T V) (Mine.vI v k)) v (fun Z=>Den.none) (fun Z Z=>Den.none) (fun x r=>let⟨t,e⟩:=r.inv;e▸H x t) (fun Z Z=>Den.none) (fun Z Z=>Den.none) (fun Z Z=>Den.none) (fun Z Z=>Den.none) (fun Z Z Z=>Den.none) (fun Z Z=>Den.none) (fun Z Z=>Den.none) (fun Z Z=>Den.none) (fun Z Z=>Den.none) (fun Z Z=>Den.none) (fun Z=>Den.none) r
theorem Den.vS{T:Value→Sem α}{v:J}{V:Value}{k:Str→Out β}(r:cI c ρ s.heap v V)(H:∀x t,Den c A R ρ s (T (.str x t)) (k x)):Den c A R ρ s (T V) (vS v k):=
 @J.casesOn (fun v=>cI c ρ s.heap v V→Den c A R ρ s (T V) (Mine.vS v k)) v (fun Z=>Den.none) (fun Z Z=>Den.none) (fun Z Z=>Den.none) (fun x r=>let⟨t,e⟩:=r.inv;e▸H x t) (fun Z Z=>Den.none) (fun Z Z=>Den.none) (fun Z Z=>Den.none) (fun Z Z Z=>Den.none) (fun Z Z=>Den.none) (fun Z Z=>Den.none) (fun Z Z=>Den.none) (fun Z Z=>Den.none) (fun Z Z=>Den.none) (fun Z=>Den.none) r
theorem Den.vT{T:Value→Sem α}{v:J}{V:Value}{k:List J→Out β}(r:cI c ρ s.heap v V)(H:∀l a n Vs,s.heap.get? a=some (gS Vs n)→dY c ρ a→dh c ρ s.heap l Vs→Den c A R ρ s (T (.ref a)) (k l)):Den c A R ρ s (T V) (vT v k):=
 @J.casesOn (fun v=>cI c ρ s.heap v V→Den c A R ρ s (T V) (Mine.vT v k)) v (fun Z=>Den.none) (fun Z Z=>Den.none) (fun Z Z=>Den.none) (fun Z Z=>Den.none) (fun l r=>@kU.rec c ρ s.heap gS l (fun V Z=>Den c A R ρ s (T V) (k l)) (fun e n r=>H l _ _ _ e n r) V r.inv) (fun Z Z=>Den.none) (fun Z Z=>Den.none) (fun Z Z Z=>Den.none) (fun Z Z=>Den.none) (fun Z Z=>Den.none) (fun Z Z=>Den.none) (fun Z Z=>Den.none) (fun Z Z=>Den.none) (fun Z=>Den.none) r
theorem Den.vL{T:Value→Sem α}{v:J}{V:Value}{k:List J→Out β}(r:cI c ρ s.heap v V)(H:∀l a n Vs,s.heap.get? a=some (gm Vs n)→dY c ρ a→dh c ρ s.heap l Vs→Den c A R ρ s (T (.ref a)) (k l)):Den c A R ρ s (T V) (vL v k):=
 @J.casesOn (fun v=>cI c ρ s.heap v V→Den c A R ρ s (T V) (Mine.vL v k)) v (fun Z=>Den.none) (fun Z Z=>Den.none) (fun Z Z=>Den.none) (fun Z Z=>Den.none) (fun Z Z=>Den.none) (fun l r=>@kU.rec c ρ s.heap gm l (fun V Z=>Den c A R ρ s (T V) (k l)) (fun e n r=>H l _ _ _ e n r) V r.inv) (fun Z Z=>Den.none) (fun Z Z Z=>Den.none) (fun Z Z=>Den.none) (fun Z Z=>Den.none) (fun Z Z=>Den.none) (fun Z Z=>Den.none) (fun Z Z=>Den.none) (fun Z=>Den.none) r
theorem Den.vD{T:Value→Sem α}{v:J}{V:Value}{k:List (Str×J)→Out β}(r:cI c ρ s.heap v V)(H:∀l a L,s.heap.DictOf (iS c) a L→a≠sysModules→dY c ρ a→eI c ρ s.heap l L→Den c A R ρ s (T (.ref a)) (k l)):Den c A R ρ s (T V) (vD v k):=
 @J.casesOn (fun v=>cI c ρ s.heap v V→Den c A R ρ s (T V) (Mine.vD v k)) v (fun Z=>Den.none) (fun Z Z=>Den.none) (fun Z Z=>Den.none) (fun Z Z=>Den.none) (fun Z Z=>Den.none) (fun Z Z=>Den.none) (fun l r=>@sV.rec c ρ s.heap l (fun V Z=>Den c A R ρ s (T V) (k l)) (fun e m n r=>H l _ _ e m n r) V r.inv) (fun Z Z Z=>Den.none) (fun Z Z=>Den.none) (fun Z Z=>Den.none) (fun Z Z=>Den.none) (fun Z Z=>Den.none) (fun Z Z=>Den.none) (fun Z=>Den.none) r
theorem Den.vR{T:Value→Sem α}{v:J}{V:Value}{k:Nat→Out β}(r:cI c ρ s.heap v V)(H:∀i a,ρ[i]? =some a→Den c A R ρ s (T (.ref a)) (k i)):Den c A R ρ s (T V) (vR v k):=
 @J.casesOn (fun v=>cI c ρ s.heap v V→Den c A R ρ s (T V) (Mine.vR v k)) v (fun Z=>Den.none) (fun Z Z=>Den.none) (fun Z Z=>Den.none) (fun Z Z=>Den.none) (fun Z Z=>Den.none) (fun Z Z=>Den.none) (fun Z Z=>Den.none) (fun Z Z Z=>Den.none) (fun i r=>let⟨a,e,q⟩:=r.inv;e▸H i a q) (fun Z Z=>Den.none) (fun Z Z=>Den.none) (fun Z Z=>Den.none) (fun Z Z=>Den.none) (fun Z=>Den.none) r
def tL{α:Type}(σ:List MO)(i:Nat)(k:List J→Option α):Option α:=Mine.ej (d7 σ i) fun m=>@MO.casesOn (fun Z=>Option α) m k (fun Z=>none) (fun Z Z=>none) (fun Z=>none) (fun Z Z=>none) (fun Z=>none) (fun Z Z=>none) none none none (fun Z=>none) none
def tD{α:Type}(σ:List MO)(i:Nat)(k:List (Str×J)→Option α):Option α:=Mine.ej (d7 σ i) fun m=>@MO.casesOn (fun Z=>Option α) m (fun Z=>none) k (fun Z Z=>none) (fun Z=>none) (fun Z Z=>none) (fun Z=>none) (fun Z Z=>none) none none none (fun Z=>none) none
def tI{α:Type}(σ:List MO)(i:Nat)(k:List (Str×J)→Option α):Option α:=Mine.ej (d7 σ i) fun m=>@MO.casesOn (fun Z=>Option α) m (fun Z=>none) (fun Z=>none) (fun Z Z=>none) k (fun Z Z=>none) (fun Z=>none) (fun Z Z=>none) none none none (fun Z=>none) none
theorem Den.tL{i:Nat}{a:Addr}{k:List J→Out β}(sr:SR c ρ σ s)(e:ρ[i]? =some a)(H:∀l Vs n,d7 σ i=some (.lst l)→s.heap.get? a=some (gm Vs n)→dh c ρ s.heap l Vs→Den c A R ρ s t (k l)):Den c A R ρ s t (tL σ i k):=
 Den.ej fun m=>@MO.casesOn (fun m=>d7 σ i=some m→eQ c ρ s.heap a m→Den c A R ρ s t (@MO.casesOn (fun Z=>Out β) m k (fun Z=>Option.none) (fun Z Z=>Option.none) (fun Z=>Option.none) (fun Z Z=>Option.none) (fun Z=>Option.none) (fun Z Z=>Option.none) Option.none Option.none Option.none (fun Z=>Option.none) Option.none)) m (fun l q y=>let⟨Vs,n,e,r⟩:=y;H l Vs n q e r) (fun Z Z Z=>Den.none) (fun Z Z Z Z=>Den.none) (fun Z Z Z=>Den.none) (fun Z Z Z Z=>Den.none) (fun Z Z Z=>Den.none) (fun Z Z Z Z=>Den.none) (fun Z Z=>Den.none) (fun Z Z=>Den.none) (fun Z Z=>Den.none) (fun Z Z Z=>Den.none) (fun Z Z=>Den.none)|>fun F q=>F q (sr.obj i a m e ((il σ i).symm.trans q))
theorem Den.tD{i:Nat}{a:Addr}{k:List (Str×J)→Out β}(sr:SR c ρ σ s)(e:ρ[i]? =some a)(H:∀l L,d7 σ i=some (.lr l)→s.heap.DictOf (iS c) a L→a≠sysModules→eI c ρ s.heap l L→Den c A R ρ s t (k l)):Den c A R ρ s t (tD σ i k):=
 Den.ej fun m=>@MO.casesOn (fun m=>d7 σ i=some m→eQ c ρ s.heap a m→Den c A R ρ s t (@MO.casesOn (fun Z=>Out β) m (fun Z=>Option.none) k (fun Z Z=>Option.none) (fun Z=>Option.none) (fun Z Z=>Option.none) (fun Z=>Option.none) (fun Z Z=>Option.none) Option.none Option.none Option.none (fun Z=>Option.none) Option.none)) m (fun Z Z Z=>Den.none) (fun l q y=>let⟨L,d,m,r⟩:=y;H l L q d m r) (fun Z Z Z Z=>Den.none) (fun Z Z Z=>Den.none) (fun Z Z Z Z=>Den.none) (fun Z Z Z=>Den.none) (fun Z Z Z Z=>Den.none) (fun Z Z=>Den.none) (fun Z Z=>Den.none) (fun Z Z=>Den.none) (fun Z Z Z=>Den.none) (fun Z Z=>Den.none)|>fun F q=>F q (sr.obj i a m e ((il σ i).symm.trans q))
def tN{α:Type}(σ:List MO)(i:Nat)(k:Addr→Nat→Option α):Option α:=Mine.ej (d7 σ i) fun m=>@MO.casesOn (fun Z=>Option α) m (fun Z=>none) (fun Z=>none) k (fun Z=>none) (fun Z Z=>none) (fun Z=>none) (fun Z Z=>none) none none none (fun Z=>none) none
theorem Den.tN{i:Nat}{a:Addr}{k:Addr→Nat→Out β}(sr:SR c ρ σ s)(e:ρ[i]? =some a)(H:∀C d da o,d7 σ i=some (.ins C d)→s.heap.get? a=some o→o.cls=.ref C→o.dict=some da→(∀k,o.data≠.cls k)→da≠a→ρ[d]? =some da→Den c A R ρ s t (k C d)):Den c A R ρ s t (tN σ i k):=
 Den.ej fun m=>@MO.casesOn (fun m=>d7 σ i=some m→eQ c ρ s.heap a m→Den c A R ρ s t (@MO.casesOn (fun Z=>Out β) m (fun Z=>Option.none) (fun Z=>Option.none) k (fun Z=>Option.none) (fun Z Z=>Option.none) (fun Z=>Option.none) (fun Z Z=>Option.none) Option.none Option.none Option.none (fun Z=>Option.none) Option.none)) m (fun Z Z Z=>Den.none) (fun Z Z Z=>Den.none) (fun C d q y=>let⟨o,da,e,c1,d1,dt,ne,r⟩:=y;H C d da o q e c1 d1 dt ne r) (fun Z Z Z=>Den.none) (fun Z Z Z Z=>Den.none) (fun Z Z Z=>Den.none) (fun Z Z Z Z=>Den.none) (fun Z Z=>Den.none) (fun Z Z=>Den.none) (fun Z Z=>Den.none) (fun Z Z Z=>Den.none) (fun Z Z=>Den.none)|>fun F q=>F q (sr.obj i a m e ((il σ i).symm.trans q))
theorem Den.tI{i:Nat}{a:Addr}{k:List (Str×J)→Out β}(sr:SR c ρ σ s)(e:ρ[i]? =some a)(H:∀l L m,d7 σ i=some (.lS l)→s.heap.Ns1 a m→s.heap.ExactDictFk a→(∀y,m y=valueAt L y)→eI c ρ s.heap l L→Den c A R ρ s t (k l)):Den c A R ρ s t (tI σ i k):=
 Den.ej fun m=>@MO.casesOn (fun m=>d7 σ i=some m→eQ c ρ s.heap a m→Den c A R ρ s t (@MO.casesOn (fun Z=>Out β) m (fun Z=>Option.none) (fun Z=>Option.none) (fun Z Z=>Option.none) k (fun Z Z=>Option.none) (fun Z=>Option.none) (fun Z Z=>Option.none) Option.none Option.none Option.none (fun Z=>Option.none) Option.none)) m (fun Z Z Z=>Den.none) (fun Z Z Z=>Den.none) (fun Z Z Z Z=>Den.none) (fun l q y=>let⟨L,m,ns,ex,hv,r⟩:=y;H l L m q ns ex hv r) (fun Z Z Z Z=>Den.none) (fun Z Z Z=>Den.none) (fun Z Z Z Z=>Den.none) (fun Z Z=>Den.none) (fun Z Z=>Den.none) (fun Z Z=>Den.none) (fun Z Z Z=>Den.none) (fun Z Z=>Den.none)|>fun F q=>F q (sr.obj i a m e ((il σ i).symm.trans q))
theorem acm{α:Type}{σ:List MO}{i:Nat}{k:List J→Option α}{r:α}(h:tL σ i k=some r):∃l,d7 σ i=some (.lst l)∧k l=some r:=
 let⟨m,q,h⟩:=eP h
 @MO.casesOn (fun m=>d7 σ i=some m→@MO.casesOn (fun Z=>Option α) m k (fun Z=>none) (fun Z Z=>none) (fun Z=>none) (fun Z Z=>none) (fun Z=>none) (fun Z Z=>none) none none none (fun Z=>none) none=some r→∃l,d7 σ i=some (.lst l)∧k l=some r) m (fun l q h=>⟨l,q,h⟩) (fun Z Z h=>cw h) (fun Z Z Z h=>cw h) (fun Z Z h=>cw h) (fun Z Z Z h=>cw h) (fun Z Z h=>cw h) (fun Z Z Z h=>cw h) (fun Z h=>cw h) (fun Z h=>cw h) (fun Z h=>cw h) (fun Z Z h=>cw h) (fun Z h=>cw h) q h
theorem acn{α:Type}{σ:List MO}{i:Nat}{k:Addr→Nat→Option α}{r:α}(h:tN σ i k=some r):∃C d,d7 σ i=some (.ins C d)∧k C d=some r:=
 let⟨m,q,h⟩:=eP h
 @MO.casesOn (fun m=>d7 σ i=some m→@MO.casesOn (fun Z=>Option α) m (fun Z=>none) (fun Z=>none) k (fun Z=>none) (fun Z Z=>none) (fun Z=>none) (fun Z Z=>none) none none none (fun Z=>none) none=some r→∃C d,d7 σ i=some (.ins C d)∧k C d=some r) m (fun Z Z h=>cw h) (fun Z Z h=>cw h) (fun C d q h=>⟨C,d,q,h⟩) (fun Z Z h=>cw h) (fun Z Z Z h=>cw h) (fun Z Z h=>cw h) (fun Z Z Z h=>cw h) (fun Z h=>cw h) (fun Z h=>cw h) (fun Z h=>cw h) (fun Z Z h=>cw h) (fun Z h=>cw h) q h
theorem QF{α:Type}{σ:List MO}{i:Nat}{k:List (Str×J)→Option α}{r:α}(h:tI σ i k=some r):∃l,d7 σ i=some (.lS l)∧k l=some r:=
 let⟨m,q,h⟩:=eP h
 @MO.casesOn (fun m=>d7 σ i=some m→@MO.casesOn (fun Z=>Option α) m (fun Z=>none) (fun Z=>none) (fun Z Z=>none) k (fun Z Z=>none) (fun Z=>none) (fun Z Z=>none) none none none (fun Z=>none) none=some r→∃l,d7 σ i=some (.lS l)∧k l=some r) m (fun Z Z h=>cw h) (fun Z Z h=>cw h) (fun Z Z Z h=>cw h) (fun l q h=>⟨l,q,h⟩) (fun Z Z Z h=>cw h) (fun Z Z h=>cw h) (fun Z Z Z h=>cw h) (fun Z h=>cw h) (fun Z h=>cw h) (fun Z h=>cw h) (fun Z Z h=>cw h) (fun Z h=>cw h) q h
noncomputable def l1{α:Type}(l:List J)(k:J→Option α):Option α:=@List.casesOn J (fun Z=>Option α) l none fun u l=>@List.casesOn J (fun Z=>Option α) l (k u) fun Z Z=>none
theorem AF{α:Type}{l:List J}{k:J→Option α}{r:α}:l1 l k=some r→∃u,l=[u]∧k u=some r:=
 @List.casesOn J (fun l=>l1 l k=some r→∃u,l=[u]∧k u=some r) l (fun h=>cw h) fun u l=>@List.casesOn J (fun l=>l1 (u::l) k=some r→∃u',u::l=[u']∧k u'=some r) l (fun h=>⟨u,rfl,h⟩) fun Z Z h=>cw h
noncomputable def l2{α:Type}(l:List J)(k:J→J→Option α):Option α:=@List.casesOn J (fun Z=>Option α) l none fun u l=>@List.casesOn J (fun Z=>Option α) l none fun v l=>@List.casesOn J (fun Z=>Option α) l (k u v) fun Z Z=>none
theorem Ik{α:Type}{l:List J}{k:J→J→Option α}{r:α}:l2 l k=some r→∃u v,l=[u,v]∧k u v=some r:=
 @List.casesOn J (fun l=>l2 l k=some r→∃u v,l=[u,v]∧k u v=some r) l (fun h=>cw h) fun u l=>@List.casesOn J (fun l=>l2 (u::l) k=some r→∃u' v,u::l=[u',v]∧k u' v=some r) l (fun h=>cw h) fun v l=>
  @List.casesOn J (fun l=>l2 (u::v::l) k=some r→∃u' v',u::v::l=[u',v']∧k u' v'=some r) l (fun h=>⟨u,v,rfl,h⟩) fun Z Z h=>cw h
theorem Den.l1{T:List Value→Sem α}{l:List J}{L:List Value}{k:J→Out β}(rl:dh c ρ s.heap l L)(H:∀u U,cI c ρ s.heap u U→Den c A R ρ s (T [U]) (k u)):Den c A R ρ s (T L) (Mine.l1 l k):=
 ⟨fun r cG hx=>(AF hx).elim fun u y=>(y.1▸rl).gr.elim fun U z=>z.elim fun L' z=>z.1▸z.2.2.i9▸(H u U z.2.1).run r cG y.2⟩
theorem Den.l2{T:List Value→Sem α}{l:List J}{L:List Value}{k:J→J→Out β}(rl:dh c ρ s.heap l L)(H:∀u v U V,cI c ρ s.heap u U→cI c ρ s.heap v V→Den c A R ρ s (T [U,V]) (k u v)):Den c A R ρ s (T L) (Mine.l2 l k):=
 ⟨fun r cG hx=>(Ik hx).elim fun u y=>y.elim fun v y=>(y.1▸rl).gr.elim fun U z=>z.elim fun L' z=>z.2.2.gr.elim fun V w=>w.elim fun L'' w=>z.1▸w.1▸w.2.2.i9▸(H u v U V z.2.1 w.2.1).run r cG y.2⟩
noncomputable def vY{α:Type}(v:J)(k:String→Option α):Option α:=@J.casesOn (fun Z=>Option α) v none (fun Z=>none) (fun Z=>none) (fun Z=>none) (fun Z=>none) (fun Z=>none) (fun Z=>none) (fun Z Z=>none) (fun Z=>none) (fun Z=>none) k (fun Z=>none) (fun Z=>none) none
theorem Den.vY{T:Value→Sem α}{v:J}{V:Value}{k:String→Out β}(r:cI c ρ s.heap v V)(H:∀n,Den c A R ρ s (T (.type n)) (k n)):Den c A R ρ s (T V) (vY v k):=
 @J.casesOn (fun v=>cI c ρ s.heap v V→Den c A R ρ s (T V) (Mine.vY v k)) v (fun Z=>Den.none) (fun Z Z=>Den.none) (fun Z Z=>Den.none) (fun Z Z=>Den.none) (fun Z Z=>Den.none) (fun Z Z=>Den.none) (fun Z Z=>Den.none) (fun Z Z Z=>Den.none) (fun Z Z=>Den.none) (fun Z Z=>Den.none) (fun n r=>(show V=.type n from r.inv)▸H n) (fun Z Z=>Den.none) (fun Z Z=>Den.none) (fun Z=>Den.none) r
theorem Den.ite{p:Prop} [Decidable p]{x y:Out β}(h1:p→Den c A R ρ s t x)(h2:Den c A R ρ s t y):Den c A R ρ s t (if p then x else y):=by
 split
 ·exact h1 ‹_›
 ·exact h2
noncomputable def oh{α:Type}(v:J)(kt kl:List J→Option α)(kr:Nat→Option α):Option α:=@J.casesOn (fun Z=>Option α) v none (fun Z=>none) (fun Z=>none) (fun Z=>none) kt kl (fun Z=>none) (fun Z Z=>none) kr (fun Z=>none) (fun Z=>none) (fun Z=>none) (fun Z=>none) none
theorem Den.oh{T:Value→Sem α}{v:J}{V:Value}{kt kl:List J→Out β}{kr:Nat→Out β}(r:cI c ρ s.heap v V)(Ht:∀l a n Vs,s.heap.get? a=some (gS Vs n)→dY c ρ a→dh c ρ s.heap l Vs→Den c A R ρ s (T (.ref a)) (kt l))
  (Hl:∀l a n Vs,s.heap.get? a=some (gm Vs n)→dY c ρ a→dh c ρ s.heap l Vs→Den c A R ρ s (T (.ref a)) (kl l)) (Hr:∀i a,ρ[i]? =some a→Den c A R ρ s (T (.ref a)) (kr i)):Den c A R ρ s (T V) (oh v kt kl kr):=
 @J.casesOn (fun v=>cI c ρ s.heap v V→Den c A R ρ s (T V) (Mine.oh v kt kl kr)) v (fun Z=>Den.none) (fun Z Z=>Den.none) (fun Z Z=>Den.none) (fun Z Z=>Den.none) (fun l r=>@kU.rec c ρ s.heap gS l (fun V Z=>Den c A R ρ s (T V) (kt l)) (fun e n r=>Ht l _ _ _ e n r) V r.inv) (fun l r=>@kU.rec c ρ s.heap gm l (fun V Z=>Den c A R ρ s (T V) (kl l)) (fun e n r=>Hl l _ _ _ e n r) V r.inv) (fun Z Z=>Den.none) (fun Z Z Z=>Den.none) (fun i r=>let⟨a,e,q⟩:=r.inv;e▸Hr i a q) (fun Z Z=>Den.none) (fun Z Z=>Den.none) (fun Z Z=>Den.none) (fun Z Z=>Den.none) (fun Z=>Den.none) r
theorem Den.tL0{i:Nat}{a:Addr}(e:ρ[i]? =some a){k:List J→Out β}(sr:SR c ρ σ s)(H:∀l Vs n,s.heap.get? a=some (gm Vs n)→dh c ρ s.heap l Vs→Den c A R ρ s t (k l)):Den c A R ρ s t (Mine.tL σ i k):=Den.tL sr e fun l Vs n Z=>H l Vs n
noncomputable def vN{α:Type}(v:J)(x:Option α):Option α:=@J.casesOn (fun Z=>Option α) v x (fun Z=>none) (fun Z=>none) (fun Z=>none) (fun Z=>none) (fun Z=>none) (fun Z=>none) (fun Z Z=>none) (fun Z=>none) (fun Z=>none) (fun Z=>none) (fun Z=>none) (fun Z=>none) none
theorem QG{α:Type}{v:J}{x:Option α}{r:α}:vN v x=some r→v=.none∧x=some r:=
 @J.casesOn (fun v=>vN v x=some r→v=.none∧x=some r) v (fun h=>⟨rfl,h⟩) (fun Z h=>cw h) (fun Z h=>cw h) (fun Z h=>cw h) (fun Z h=>cw h) (fun Z h=>cw h) (fun Z h=>cw h) (fun Z Z h=>cw h) (fun Z h=>cw h) (fun Z h=>cw h) (fun Z h=>cw h) (fun Z h=>cw h) (fun Z h=>cw h) (fun h=>cw h)
noncomputable def BO{α:Type}(v:J)(f1:Addr→List (Str×J)→Option α)(f2:Nat→Option α):Option α:=@J.casesOn (fun Z=>Option α) v none (fun Z=>none) (fun Z=>none) (fun Z=>none) (fun Z=>none) (fun Z=>none) (fun Z=>none) f1 f2 (fun Z=>none) (fun Z=>none) (fun Z=>none) (fun Z=>none) none
theorem PB{α:Type}{v:J}{f1:Addr→List (Str×J)→Option α}{f2:Nat→Option α}{r:α}:BO v f1 f2=some r→(∃C l,v=.obj C l∧f1 C l=some r)∨∃i,v=.loc i∧f2 i=some r:=
 @J.casesOn (fun v=>BO v f1 f2=some r→(∃C l,v=.obj C l∧f1 C l=some r)∨∃i,v=.loc i∧f2 i=some r) v (fun h=>cw h) (fun Z h=>cw h) (fun Z h=>cw h) (fun Z h=>cw h) (fun Z h=>cw h) (fun Z h=>cw h) (fun Z h=>cw h) (fun C l h=>.inl ⟨C,l,rfl,h⟩) (fun i h=>.inr ⟨i,rfl,h⟩) (fun Z h=>cw h) (fun Z h=>cw h) (fun Z h=>cw h) (fun Z h=>cw h) (fun h=>cw h)
theorem Den.Ve{pH γ:Type}{R':List Addr→Heap→γ→pH→Prop}{t1:Sem pH}{t2:pH→Sem α}{x:Out γ}{k:γ→List MO→Out β}(h:∀Q E,wpAny (model c.prog c.w) A t1 (fun v s'=>wpAny (model c.prog c.w) A (t2 v) Q E s') E s→wpAny (model c.prog c.w) A t Q E s)
  (h1:Den c A R' ρ s t1 x) (h2:∀b V cW σ₁ cD,Ext ρ s.heap cW cD.heap→SR c cW σ₁ cD→R' cW cD.heap b V→Den c A R cW cD (t2 V) (k b σ₁)):Den c A R ρ s t (dk x k):=
 ⟨fun Z Z hx Q E P=>h Q E (h1.step hx P fun b V cW σ₁ cD e sr r mG P'=>(h2 b V cW σ₁ cD e sr r).run _ _ mG Q E P')⟩
theorem Den.fin{t1:Sem α}{x:Out β}(h:∀Q E,wpAny (model c.prog c.w) A t1 Q E s→wpAny (model c.prog c.w) A t Q E s)(h1:Den c A R ρ s t1 x):Den c A R ρ s t x:=⟨fun r cG hx Q E P=>h Q E (h1.run r cG hx Q E P)⟩
theorem iT.now{r:Res β}{cG:List MO}{Q:α→Shared→Prop}{E:Value→Shared→Prop}{V:α}(P:iT c R ρ s.heap r cG Q E)(hx:Mine.ok b σ=some (r,cG))(sr:SR c ρ σ s)(rel:R ρ s.heap b V):Q V s:=P.kA hx sr rel
theorem iT.S6{cC:List Addr}{H:Heap}{r:Res β}{cG:List MO}{Q:α→Shared→Prop}{E:Value→Shared→Prop}{V:α}(P:iT c R ρ H r cG Q E)(hx:Mine.ok b σ=some (r,cG))(e:Ext ρ H cC s.heap)(sr:SR c cC σ s)(rel:R cC s.heap b V):Q V s:=
 P.ok b V cC s (iA hx).1 e ((iA hx).2.symm▸sr) rel
theorem Den.map{pH γ:Type}{R':List Addr→Heap→γ→pH→Prop}{t1:Sem pH}{x:Out γ}{f:γ→β}{g:pH→α}(h:∀(Q:α→Shared→Prop) (E:Value→Shared→Prop),wpAny (model c.prog c.w) A t1 (fun v s'=>Q (g v) s') E s→wpAny (model c.prog c.w) A t Q E s)
  (h1:Den c A R' ρ s t1 x) (hm:∀b V cW gL,R' cW gL b V→R cW gL (f b) (g V)):Den c A R ρ s t (dk x fun b σ=>Mine.ok (f b) σ):=
 ⟨fun Z Z hx Q E P=>h Q E (h1.step hx P fun b V cW σ₁ cD e sr r mG P'=>P'.now mG sr (hm b V cW cD.heap r))⟩
theorem Den.vB{T:Value→Sem α}{v:J}{V:Value}{k:Bool→Out β}(r:cI c ρ s.heap v V)(H:∀b,Den c A R ρ s (T (.bool b)) (k b)):Den c A R ρ s (T V) (vB v k):=
 @J.casesOn (fun v=>cI c ρ s.heap v V→Den c A R ρ s (T V) (Mine.vB v k)) v (fun Z=>Den.none) (fun b r=>Eq.rec (motive:=fun V Z=>Den c A R ρ s (T V) (k b)) (H b) r.inv.symm) (fun Z Z=>Den.none) (fun Z Z=>Den.none) (fun Z Z=>Den.none) (fun Z Z=>Den.none) (fun Z Z=>Den.none) (fun Z Z Z=>Den.none) (fun Z Z=>Den.none) (fun Z Z=>Den.none) (fun Z Z=>Den.none) (fun Z Z=>Den.none) (fun Z Z=>Den.none) (fun Z=>Den.none) r
end
noncomputable def D2(c:Cx)(n:Nat)(t:Value→Value→Sem Value)(m:J→J→List MO→Out J):Prop:=
 ∀A ρ σ s a b Va Vb,g0 A n→SR c ρ σ s→cI c ρ s.heap a Va→cI c ρ s.heap b Vb→Den c A (cI c) ρ s (t Va Vb) (m a b σ)
noncomputable def Jq{c:Cx}(_:List Addr)(_:Heap)(b B:Bool):Prop:=B=b
def DT(c:Cx)(g:FC)(n:Nat)(e:Expr)(x:Fr→List MO→Out Bool):Prop:=
 ∀A env f ρ σ s,g0 A n→fW c g A env f ρ s.heap→SR c ρ σ s→Den c A (Jq (c:=c)) ρ s (isTrue e env (eval e env)) (x f σ)
noncomputable def sq(a b:Str):Bool:=Fast.sEq a b
theorem pe(a b:Str):sq a b=decide (a=b):=by
 unfold sq
 by_cases h:a=b
 ·rw[decide_eq_true h];exact Fast.sEq_iff.mpr h
 ·rw[decide_eq_false h]
  cases q:Fast.sEq a b with
  |false=>rfl
  |true=>exact absurd (Fast.sEq_iff.mp q) h
def pg(l:List (Str×J))(k:Str):Option J:=@List.rec (Str×J) (fun Z=>Option J) none (fun p Z ih=>@Bool.rec (fun Z=>Option J) ih (some p.2) (sq p.1 k)) l
def lP(l:List (Str×J))(k:Str):Bool:=@List.rec (Str×J) (fun Z=>Bool) false (fun p Z ih=>@Bool.rec (fun Z=>Bool) ih true (sq p.1 k)) l
def mc(f:Int→Int→Bool)(a b:J)(σ:List MO):Out J:=vI a fun x=>vI b fun y=>ok (.bool (f x y)) σ
def n9(op:CmpOp)(a b:J)(σ:List MO):Out J:=match op with
 |.Lt=>mc (fun x y=>decide (x<y)) a b σ
 |.LtE=>mc (fun x y=>decide (x≤y)) a b σ
 |.Gt=>mc (fun x y=>decide (x>y)) a b σ
 |.GtE=>mc (fun x y=>decide (x≥y)) a b σ
 |_=>none
section
variable{c:Cx}{g:FC}{n:Nat}{A:Around}{env:Env}{f:Fr}{ρ:List Addr}{σ:List MO}{s:Shared}
theorem eI.isSome{h:Heap}(k:Str):∀{l:List (Str×J)} {L:List (Str×Value)},eI c ρ h l L→(valueAt L k).isSome=lP l k
 |[],_,r=>r.i9▸rfl
 |(k',v)::l,_,r=>by
  refine zz fun GG KK=>?_
  obtain⟨V,L',rfl,a,b⟩:=r.gr
  have ih:=eI.isSome k b
  refine KK ?_
  show _=@Bool.rec (fun Z=>Bool) (lP l k) true (sq k' k)
  unfold valueAt at ih⊢
  rw[List.find?_cons,pe]
  cases decide (k'=k)
  ·exact ih
  ·rfl
theorem eI.get{h:Heap}{k:Str}{v:J}:∀{l:List (Str×J)} {L:List (Str×Value)},eI c ρ h l L→pg l k=some v→∃V,valueAt L k=some V∧cI c ρ h v V
 |[],_,_,hv=>cw hv
 |(k',v')::l,_,r,hv=>by
  refine zz fun GG KK=>?_
  obtain⟨V,L',rfl,a,b⟩:=r.gr
  have hv:@Bool.rec (fun Z=>Option J) (pg l k) (some v') (sq k' k)=some v:=hv
  refine KK ?_
  unfold valueAt
  rw[List.find?_cons]
  revert hv
  rw[pe]
  cases decide (k'=k)
  ·exact fun hv=>eI.get b hv
  ·exact fun hv=>⟨V,rfl,aV hv▸a⟩
theorem BP(c:Cx)(k:Str)(t:Tok):(iS c).is k (.str k t)=true:=by
 show Value.isStrOf k (.str k t)=true
 simp[Value.isStrOf]
theorem in_dict{a:Addr}{L:List (Str×Value)}{l:List (Str×J)}{k:Str}{t:Tok}{E:Value→Shared→Prop}{Q:Value→Shared→Prop}(hd:a≠sysModules)(x:s.heap.DictOf (iS c) a L)(r:eI c ρ s.heap l L)
  (h:Q (.bool (lP l k)) {s with toks:=s.toks+1}):wpAny (model c.prog c.w) A (compareOp .In (.str k t) (.ref a)) Q E s:=by
 refine wpAny_in_of (knd:=iS c) (k:=k) (BP c k t) (beq_eq_false_iff_ne.mpr hd) x.mapOf ?_
 rw[r.isSome k];exact h
theorem aas{a:Addr}{L:List (Str×Value)}{l:List (Str×J)}{k:Str}{t:Tok}{E:Value→Shared→Prop}{Q:Value→Shared→Prop}(hd:a≠sysModules)(x:s.heap.DictOf (iS c) a L)(r:eI c ρ s.heap l L)
  (h:Q (.bool (!lP l k)) {s with toks:=s.toks+1}):wpAny (model c.prog c.w) A (compareOp .NotIn (.str k t) (.ref a)) Q E s:=by
 refine wpAny_notIn_of (knd:=iS c) (k:=k) (BP c k t) (beq_eq_false_iff_ne.mpr hd) x.mapOf ?_
 have e:=r.isSome k
 have e2:(valueAt L k).isNone=!(lP l k):=by rw[←e];cases valueAt L k<;>rfl
 first
  |(rw[e];exact h)
  |(rw[e2];exact h)
theorem g0.eqs(h:g0 A n):A.units+64<cLine:=Nat.lt_of_le_of_lt (Nat.add_le_add_left (by decide:64≤100) _) (Nat.lt_of_le_of_lt (Nat.le_add_right _ _) h.units)
theorem D2.mc{T:Value→Value→Sem Value}{f:Int→Int→Bool}(h:∀{A:Around} {E:Value→Shared→Prop} {Q:Value→Shared→Prop} {s:Shared} {x y:Int} {t u:Tok},Q (.bool (f x y)) s→wpAny (model c.prog c.w) A (T (.int x t) (.int y u)) Q E s):D2 c n T (mc f):=
 fun A ρ σ s a b Va Vb hr sr ra rb=>Den.vI (T:=fun V=>T V Vb) ra fun x t=>Den.vI (T:=fun V=>T (.int x t) V) rb fun y u=>Den.now fun Q E P=>h (P.here sr (.bool _))
theorem D2.bad{T:Value→Value→Sem Value}:D2 c n T fun Z Z Z=>Option.none:=fun Z Z Z Z Z Z Z Z Z Z Z Z=>Den.none
theorem D2.cmp(op:CmpOp):D2 c n (compareOp op) (n9 op):=match op with
 |.Lt=>D2.mc PySem.P.lt_int
 |.LtE=>D2.mc PySem.P.le_int
 |.Gt=>D2.mc PySem.P.gt_int
 |.GtE=>D2.mc PySem.P.ge_int
 |.Eq|.NotEq|.Is|.IsNot|.In|.NotIn=>D2.bad
end
def cB(m:J→J→List MO→Out J)(x y:Fr→List MO→Out J)(f:Fr)(σ:List MO):Out J:=dk (x f σ) fun a σ=>dk (y f σ) fun b σ=>m a b σ
def wj(v:J)(σ:List MO):Out Bool:=vB v fun b=>ok b σ
def cZ(x:Fr→List MO→Out J)(f:Fr)(σ:List MO):Out Bool:=dk (x f σ) wj
def vQ(x:Fr→List MO→Out Bool)(f:Fr)(σ:List MO):Out Bool:=dk (x f σ) fun b σ=>ok (!b) σ
def E3(x:Fr→List MO→Out J)(f:Fr)(σ:List MO):Out J:=dk (x f σ) fun v σ=>vB v fun b=>ok (.bool (!b)) σ
def gP(x y:Fr→List MO→Out Bool)(f:Fr)(σ:List MO):Out Bool:=dk (x f σ) fun b σ=>@Bool.rec (fun Z=>Out Bool) (ok false σ) (y f σ) b
def ia(x y:Fr→List MO→Out Bool)(f:Fr)(σ:List MO):Out Bool:=dk (x f σ) fun b σ=>@Bool.rec (fun Z=>Out Bool) (y f σ) (ok true σ) b
def nF(x y:Fr→List MO→Out J)(f:Fr)(σ:List MO):Out J:=dk (x f σ) fun v σ=>vB v fun b=>@Bool.rec (fun Z=>Out J) (ok (.bool false) σ) (y f σ) b
def vU(x y:Fr→List MO→Out J)(f:Fr)(σ:List MO):Out J:=dk (x f σ) fun v σ=>vB v fun b=>@Bool.rec (fun Z=>Out J) (y f σ) (ok (.bool true) σ) b
def dR{β:Type}(t:Fr→List MO→Out Bool)(x y:Fr→List MO→Out β)(f:Fr)(σ:List MO):Out β:=dk (t f σ) fun b σ=>@Bool.rec (fun Z=>Out β) (y f σ) (x f σ) b
def IG(fY vV:CmpOp)(x y z:Fr→List MO→Out J)(f:Fr)(σ:List MO):Out J:=dk (x f σ) fun a σ=>dk (y f σ) fun b σ=>dk (n9 fY a b σ) fun v σ=>vB v fun q=>@Bool.rec (fun Z=>Out J) (ok (.bool false) σ) (dk (z f σ) fun d σ=>n9 vV b d σ) q
section
variable{c:Cx}{g:FC}{n:Nat}{A:Around}{env:Env}{f:Fr}{ρ:List Addr}{σ:List MO}{s:Shared}
theorem vf{β γ δ:Type}(x:Out β)(k:β→List MO→Out γ)(k':γ→List MO→Out δ):dk (dk x k) k'=dk x fun b σ=>dk (k b σ) k':=
 @Option.rec (Res β×List MO) (fun x=>dk (dk x k) k'=dk x fun b σ=>dk (k b σ) k') rfl (fun y=>@Prod.rec (Res β) (List MO) (fun y=>dk (dk (some y) k) k'=dk (some y) fun b σ=>dk (k b σ) k') (fun r σ=>@Res.rec β (fun r=>dk (dk (some (r,σ)) k) k'=dk (some (r,σ)) fun b σ=>dk (k b σ) k') (fun Z=>rfl) (fun Z=>rfl) r) y) x
theorem DE.nI{l r:Expr}{op:CmpOp}{m:J→J→List MO→Out J}{pos:Pos}{x y:Fr→List MO→Out J}(Kk:D2 c n (compareOp op) m)(h1:DE c g n l x)(h2:DE c g n r y)(hm:behindInMarks op r=false):DE c g n (.Compare l [op] [r] pos) (cB m x y):=
 fun A env f ρ σ s hr he sr=>⟨fun Z Z hx Z Z P=>wpAny_Compare1 ((h1 A env f ρ σ s hr he sr).step hx P fun a Va cW σ₁ cD e1 cY ra dB P1=>(h2 A env f cW σ₁ cD hr (he.mono e1) cY).step dB P1 fun b Vb ρ₂ fU fu e2 fh rb fC P2=>(Kk A ρ₂ fU fu a b Va Vb hr fh (ra.mono e2) rb).last fC P2) hm⟩
theorem DE.cmp{l r:Expr}{op:CmpOp}{pos:Pos}{x y:Fr→List MO→Out J}(h1:DE c g n l x)(h2:DE c g n r y)(hm:behindInMarks op r=false:=by exact rfl):DE c g n (.Compare l [op] [r] pos) (cB (n9 op) x y):=DE.nI (D2.cmp op) h1 h2 hm
theorem Den.wj{v:J}{V:Value}(sr:SR c ρ σ s)(r:cI c ρ s.heap v V):Den c A (Jq (c:=c)) ρ s (truthy V) (wj v σ):=
 Den.vB (T:=truthy) r fun b=>Den.now fun Q E P=>wpAny_truthy_bool (P.here sr rfl)
theorem DT.nI{l r:Expr}{op:CmpOp}{m:J→J→List MO→Out J}{pos:Pos}{x y:Fr→List MO→Out J}(Kk:D2 c n (compareOp op) m)(h1:DE c g n l x)(h2:DE c g n r y)(hm:behindInMarks op r=false):DT c g n (.Compare l [op] [r] pos) (cZ (cB m x y)):=
 fun A env f ρ σ s hr he sr=>⟨fun Z Z hx Z Z P=>wpAny_isTrue_Compare1 ((h1 A env f ρ σ s hr he sr).step ((vf _ _ _).symm.trans hx) P fun a Va cW σ₁ cD e1 cY ra dB P1=>(h2 A env f cW σ₁ cD hr (he.mono e1) cY).step ((vf _ _ _).symm.trans dB) P1 fun b Vb ρ₂ fU fu e2 fh rb fC P2=>
  (Kk A ρ₂ fU fu a b Va Vb hr fh (ra.mono e2) rb).step fC P2 fun v V ph qo kL e3 hJ rv m6 P3=>(Den.wj hJ rv).last m6 P3) hm⟩
noncomputable abbrev aat(e:Expr):Prop:=isTrue e=fun Z whole=>do let v←whole;standAt e.pos;holding [v] (truthy v)
theorem aD{e:Expr}{x:Fr→List MO→Out J}(h:DE c g n e x)(hp:aat e:=by exact rfl):DT c g n e (cZ x):=fun A env f ρ σ s hr he sr=>
 Den.Ve (fun Z Z h=>wpAny_isTrue_value h (congrFun (congrFun hp env) _)) (h A env f ρ σ s hr he sr) fun Z Z Z Z Z Z cY rv=>Den.wj cY rv
theorem aF{e:Expr}{pos:Pos}{x:Fr→List MO→Out Bool}(h:DT c g n e x):DT c g n (.UnaryOp .Not e pos) (vQ x):=fun A env f ρ σ s hr he sr=>
 Den.map (f:=fun b=>!b) (g:=fun b=>!b) (fun Z Z h=>wpAny_isTrue_Not h) (h A env f ρ σ s hr he sr) fun Z Z Z Z rb=>congrArg (fun b=>!b) (show _=_ from rb)
theorem DE.not{e:Expr}{pos:Pos}{x:Fr→List MO→Out J}(h:DE c g n e x):DE c g n (.UnaryOp .Not e pos) (E3 x):=fun A env f ρ σ s hr he sr=>
 Den.Ve (t2:=unaryOp .Not) (fun Z Z h=>wpAny_UnaryOp h) (h A env f ρ σ s hr he sr) fun v V cW σ₁ cD e1 cY rv=>Den.vB (T:=unaryOp .Not) rv fun b=>Den.now fun Q E P=>by
  unfold unaryOp
  first
   |exact bC (wpAny_truthy_bool (bD (P.here cY (.bool _))))
   |exact P.here cY (.bool _)
theorem DT.lN{pos:Pos}:DT c g n (.BoolOp .And [] pos) (fun Z σ=>ok true σ):=fun A env f ρ σ s Z Z sr=>Den.now fun Z Z P=>isTrue_and_nil (P.here sr rfl)
theorem DT.nG{pos:Pos}:DT c g n (.BoolOp .Or [] pos) (fun Z σ=>ok false σ):=fun A env f ρ σ s Z Z sr=>Den.now fun Z Z P=>isTrue_or_nil (P.here sr rfl)
theorem aC{e:Expr}{es:List Expr}{pos:Pos}{x y:Fr→List MO→Out Bool}(h1:DT c g n e x)(h2:DT c g n (.BoolOp .And es pos) y):DT c g n (.BoolOp .And (e::es) pos) (gP x y):=by
 intro A env f ρ σ s hr he sr
 refine⟨fun r cG hx Q E P=>?_⟩
 refine isTrue_and ((h1 A env f ρ σ s hr he sr).step hx P fun b B cW σ₁ cD e1 cY rb dB P1=>?_)
 cases rb
 cases b with
 |true=>exact(h2 A env f cW σ₁ cD hr (he.mono e1) cY).last dB P1
 |false=>cases dB;exact P1.here cY rfl
theorem DT.or{e:Expr}{es:List Expr}{pos:Pos}{x y:Fr→List MO→Out Bool}(h1:DT c g n e x)(h2:DT c g n (.BoolOp .Or es pos) y):DT c g n (.BoolOp .Or (e::es) pos) (ia x y):=by
 intro A env f ρ σ s hr he sr
 refine⟨fun r cG hx Q E P=>?_⟩
 refine isTrue_or ((h1 A env f ρ σ s hr he sr).step hx P fun b B cW σ₁ cD e1 cY rb dB P1=>?_)
 cases rb
 cases b with
 |false=>exact(h2 A env f cW σ₁ cD hr (he.mono e1) cY).last dB P1
 |true=>cases dB;exact P1.here cY rfl
theorem DE.mw{e:Expr}{op:BoolOp}{pos:Pos}{x:Fr→List MO→Out J}(h1:DE c g n e x):DE c g n (.BoolOp op [e] pos) x:=by
 intro A env f ρ σ s hr he sr
 refine⟨fun r cG hx Q E P=>?_⟩
 exact BoolOp_one ((h1 A env f ρ σ s hr he sr).last hx P)
theorem aS{e e2:Expr}{es:List Expr}{pos:Pos}{x y:Fr→List MO→Out J}(h1:DE c g n e x)(h2:DE c g n (.BoolOp .And (e2::es) pos) y):DE c g n (.BoolOp .And (e::e2::es) pos) (nF x y):=by
 intro A env f ρ σ s hr he sr
 refine⟨fun r cG hx Q E P=>?_⟩
 refine BoolOp_and ((h1 A env f ρ σ s hr he sr).step hx P fun v V cW σ₁ cD e1 cY rv dB P1=>?_)
 refine zz fun GG KK=>?_
 obtain⟨b,rfl,dB⟩:=AE dB
 obtain rfl:=rv.inv
 refine KK ?_
 cases b with
 |true=>exact wpAny_truthy_bool ((h2 A env f cW σ₁ cD hr (he.mono e1) cY).last dB P1)
 |false=>exact wpAny_truthy_bool (P1.now dB cY (.bool _))
theorem aR{e e2:Expr}{es:List Expr}{pos:Pos}{x y:Fr→List MO→Out J}(h1:DE c g n e x)(h2:DE c g n (.BoolOp .Or (e2::es) pos) y):DE c g n (.BoolOp .Or (e::e2::es) pos) (vU x y):=by
 intro A env f ρ σ s hr he sr
 refine⟨fun r cG hx Q E P=>?_⟩
 refine BoolOp_or ((h1 A env f ρ σ s hr he sr).step hx P fun v V cW σ₁ cD e1 cY rv dB P1=>?_)
 refine zz fun GG KK=>?_
 obtain⟨b,rfl,dB⟩:=AE dB
 obtain rfl:=rv.inv
 refine KK ?_
 cases b with
 |true=>exact wpAny_truthy_bool (P1.now dB cY (.bool _))
 |false=>exact wpAny_truthy_bool ((h2 A env f cW σ₁ cD hr (he.mono e1) cY).last dB P1)
theorem aU{t a b:Expr}{pos:Pos}{xt:Fr→List MO→Out Bool}{x y:Fr→List MO→Out J}(ht:DT c g n t xt)(h1:DE c g n a x)(h2:DE c g n b y):DE c g n (.IfExp t a b pos) (dR xt x y):=by
 intro A env f ρ σ s hr he sr
 refine⟨fun r cG hx Q E P=>?_⟩
 refine wpAny_IfExp ((ht A env f ρ σ s hr he sr).step hx P fun b B cW σ₁ cD e1 cY rb dB P1=>?_)
 cases rb
 cases b with
 |true=>exact(h1 A env f cW σ₁ cD hr (he.mono e1) cY).last dB P1
 |false=>exact(h2 A env f cW σ₁ cD hr (he.mono e1) cY).last dB P1
theorem DT.kf{t a b:Expr}{pos:Pos}{xt x y:Fr→List MO→Out Bool}(ht:DT c g n t xt)(h1:DT c g n a x)(h2:DT c g n b y):DT c g n (.IfExp t a b pos) (dR xt x y):=by
 intro A env f ρ σ s hr he sr
 refine⟨fun r cG hx Q E P=>?_⟩
 refine isTrue_IfExp ((ht A env f ρ σ s hr he sr).step hx P fun b B cW σ₁ cD e1 cY rb dB P1=>?_)
 cases rb
 cases b with
 |true=>exact(h1 A env f cW σ₁ cD hr (he.mono e1) cY).last dB P1
 |false=>exact(h2 A env f cW σ₁ cD hr (he.mono e1) cY).last dB P1
theorem DE.chain{l S7 Jr:Expr}{fY vV:CmpOp}{pos:Pos}{x y z:Fr→List MO→Out J}(h1:DE c g n l x)(h2:DE c g n S7 y)(h3:DE c g n Jr z)(hm:behindInMarks vV Jr=false):DE c g n (.Compare l [fY,vV] [S7,Jr] pos) (IG fY vV x y z):=by
 intro A env f ρ σ s hr he sr
 refine⟨fun r cG hx Q E P=>?_⟩
 refine Compare_chain ((h1 A env f ρ σ s hr he sr).step hx P fun a Va cW σ₁ cD e1 cY ra dB P1=>?_) (by simpa [lastMarks]using hm)
 unfold compareChain
 refine bC (wpAny_holding ((h2 A env f cW σ₁ cD hr (he.mono e1) cY).step dB P1 fun b Vb ρ₂ fU fu e2 fh rb fC P2=>?_))
 refine bC (wpAny_standAt ?_)
 refine bC (wpAny_holding ((D2.cmp fY A ρ₂ fU fu a b Va Vb hr fh (ra.mono e2) rb).step fC P2 fun v V ph qo kL e3 hJ rv m6 P3=>?_))
 refine bC (wpAny_release' ?_)
 refine zz fun GG KK=>?_
 obtain⟨q,rfl,m6⟩:=AE m6
 obtain rfl:=rv.inv
 refine KK ?_
 cases q with
 |true=>
  refine bC (wpAny_holding (wpAny_truthy_bool ?_))
  rw[if_pos rfl]
  unfold compareChain
  have he3:=((he.mono e1).mono e2).mono e3
  refine bC (wpAny_holding ((h3 A env f ph qo kL hr he3 hJ).step m6 P3 fun d Vd R0 A0 iO e4 lz rd hx4 P4=>?_))
  refine bC (wpAny_standAt (wpAny_operate' ?_))
  exact(D2.cmp vV A R0 A0 iO b d Vb Vd hr lz ((rb.mono e3).mono e4) rd).last hx4 P4
 |false=>
  refine bC (wpAny_holding (wpAny_truthy_bool ?_))
  rw[if_neg Bool.false_ne_true]
  exact bD (P3.now m6 hJ (.bool _))
end
section
variable{c:Cx}{g:FC}{n:Nat}{A:Around}{env:Env}{f:Fr}{ρ:List Addr}{σ:List MO}{s:Shared}{Q:Value→Shared→Prop}{E:Value→Shared→Prop}
noncomputable def AG(s:Shared)(o:Value):Prop:=∃T id,typeLookup (.type T) "__getitem__"=pure (some (.builtin id))∧s.TypeIs o T
theorem YI{prog:Program}{w:World}{slice:Expr}{o i:Value}{Q:Value→Shared→Prop}(h:wpAny (model prog w) A (getItem o i) Q E s):wpAny (model prog w) A (subscripted slice false o i) Q E s:=by
 unfold subscripted
 split
 ·exact wpAny_operate' h
 ·rename_i h1
  cases h1
 ·exact wpAny_operate' h
theorem xy{prog:Program}{w:World}{value slice:Expr}{o i:Value}{Q:Value→Shared→Prop}(hT:AG s o)(h:wpAny (model prog w) A (getItem o i) Q E s):
  wpAny (model prog w) A (subscriptTail value slice o i) Q E s:=by
 obtain⟨T,id,hl,hT⟩:=hT
 unfold subscriptTail
 refine bC ?_
 rw[getitemInPython_of_ne hT.not_modules]
 refine bC (wpAny_specialOf hT hl ?_)
 have fin:wpAny (model prog w) A (subscripted slice false o i) (fun r kL=>wpAny (model prog w) A (letTemporaryGo value o r>>=fun Z=>pure r) Q E kL) E s:=
  YI (wpAny_mono h (fun r kL jS=>bC (wpAny_letTemporaryGo (bD jS))) fun Z Z x=>x)
 first
  |exact bD (bC fin)
  |exact bC (bD (bC fin))
  |exact bC fin
noncomputable def small(k:Int):Bool:=decide (-1000000≤k)&&decide (k≤1000000)
theorem an_{k:Int}(h:small k=true): -1000000≤k∧k≤1000000:=by
 unfold small at h
 simpa using h
def pq(v:Option J)(σ:List MO):Out J:=ej v fun v=>ok v σ
def cP(k:Nat)(v:J)(σ:List MO):Out J:=@J.casesOn (fun Z=>Out J) v none (fun Z=>none) (fun Z=>none) (fun x=>ej (d7 x.cps.toList k) fun ch=>ok (.str ⟨⟨[ch]⟩⟩) σ) (fun l=>pq (d7 l k) σ) (fun l=>pq (d7 l k) σ) (fun Z=>none) (fun Z Z=>none) (fun r=>tL σ r fun l=>pq (d7 l k) σ)
 (fun Z=>none) (fun Z=>none) (fun Z=>none) (fun Z=>none) none
def iM(o i:J)(σ:List MO):Out J:=@J.casesOn (fun Z=>Out J) i none (fun Z=>none) (fun i=>@Int.casesOn (fun Z=>Out J) i (fun k=>gd (Nat.ble k 1000000) (cP k o σ)) (fun Z=>none))
 (fun k=>@J.casesOn (fun Z=>Out J) o none (fun Z=>none) (fun Z=>none) (fun Z=>none) (fun Z=>none) (fun Z=>none) (fun l=>pq (pg l k) σ) (fun Z Z=>none) (fun r=>tD σ r fun l=>pq (pg l k) σ) (fun Z=>none) (fun Z=>none) (fun Z=>none) (fun Z=>none) none)
 (fun Z=>none) (fun Z=>none) (fun Z=>none) (fun Z Z=>none) (fun Z=>none) (fun Z=>none) (fun Z=>none) (fun Z=>none) (fun Z=>none) none
theorem dh.get{h:Heap}{v:J}{l:List J}{L:List Value}{i:Nat}(r:dh c ρ h l L)(e:l[i]? =some v):∃V,L[i]? =some V∧cI c ρ h v V:=by
 induction l generalizing L i with
 |nil=>simp at e
 |cons w l ih=>
  obtain⟨V,L',rfl,a,b⟩:=r.gr
  cases i with
  |zero=>cases e;exact⟨V,rfl,a⟩
  |succ i=>have:=ih b e;exact this
theorem has_tuple{a:Addr}{m7:Array Value}(h:IsTup s.heap a m7):AG s (.ref a):=⟨_,_,slot_tuple_getitem.lookup,h.typeIs⟩
theorem has_list{a:Addr}{m7:Array Value}(h:s.heap.IsList a m7):AG s (.ref a):=⟨_,_,slot_list_getitem.lookup,h.typeIs⟩
theorem has_str{x:Str}{t:Tok}:AG s (.str x t):=⟨_,_,slot_str_getitem.lookup,typeIs_str s x t⟩
theorem has_dict{a:Addr}{L:List (Str×Value)}(h:s.heap.DictOf (iS c) a L):AG s (.ref a):=⟨_,_,slot_dict_getitem.lookup,h.typeIs⟩
theorem IH{α:Type}{l:List α}{k:Nat}{v:α}(h:d7 l k=some v):l[k]? =some v∧k<l.length:=by
 rw[il]at h
 exact⟨h,(aZ h).1⟩
theorem seqIndex_at{k n:Nat}(h:k<n):seqIndex? (k:Int) n=some k:=by
 unfold seqIndex?
 have h1:¬((k:Int)<0):=by omega
 simp[h1,h]
section
variable{value slice:Expr}{l:List J}{k:Nat}{t:Tok}{a:Addr}{m:Nat}{Vs:List Value}
theorem QH(sr:SR c ρ σ s)(rl:dh c ρ s.heap l Vs)(h:∀{V:Value} {Q:Value→Shared→Prop} {E:Value→Shared→Prop},k<l.length→Vs.toArray[k]? =some V→Q V s→wpAny (model c.prog c.w) A (subscriptTail value slice (.ref a) (.int (.ofNat k) t)) Q E s):
  Den c A (cI c) ρ s (subscriptTail value slice (.ref a) (.int (.ofNat k) t)) (pq (d7 l k) σ):=
 Den.ej fun v hv=>Den.now fun Q E P=>let⟨V,h1,h2⟩:=rl.get (IH hv).1;h (IH hv).2 (by simpa using h1) (P.here sr h2)
theorem QI(hk:k≤1000000)(sr:SR c ρ σ s)(e:s.heap.get? a=some (gm Vs m))(rl:dh c ρ s.heap l Vs):Den c A (cI c) ρ s (subscriptTail value slice (.ref a) (.int (.ofNat k) t)) (pq (d7 l k) σ):=
 have ht:s.heap.IsList a Vs.toArray:=⟨_,e,rfl,_,rfl⟩
 QH sr rl fun Z h1 h=>xy (has_list ht) (wpAny_getItem_list ht (Int.natCast_nonneg k) (by show((k:Nat):Int)<_;omega) (by simpa using h1) h)
theorem aco(hk:k≤1000000)(sr:SR c ρ σ s)(e:s.heap.get? a=some (gS Vs m))(rl:dh c ρ s.heap l Vs):Den c A (cI c) ρ s (subscriptTail value slice (.ref a) (.int (.ofNat k) t)) (pq (d7 l k) σ):=
 have ht:IsTup s.heap a Vs.toArray:=⟨_,e,rfl,_,rfl⟩
 QH sr rl fun gD h1 h=>xy (has_tuple ht) (PyProof.Rows.getItem_tuple ht (by show _≤((k:Nat):Int);omega) (by show((k:Nat):Int)<_;omega) (by rw[List.size_toArray,rl.length];exact seqIndex_at gD) h1 h)
theorem acp{x:Str}{u:Tok}(hk:k≤1000000)(sr:SR c ρ σ s):Den c A (cI c) ρ s (subscriptTail value slice (.str x u) (.int (.ofNat k) t)) (ej (d7 x.cps.toList k) fun ch=>ok (.str ⟨⟨[ch]⟩⟩) σ):=
 Den.ej fun ch hc=>Den.now fun Q E P=>by
  obtain⟨h1,h2⟩:=IH hc
  have h2:k<x.length:=(by simpa using h2:k<x.cps.size)
  have h1:x.cps[k]? =some ch:=by simpa using h1
  refine xy has_str (PyProof.Rows.getItem_str (c:=ch) (by rw[Bool.or_eq_false_iff];exact⟨decide_eq_false (by show¬((k:Nat):Int)<_;omega),decide_eq_false (by show¬_≤((k:Nat):Int);omega)⟩) (by show(seqIndex? ((k:Nat):Int) x.length).bind _=_;rw[seqIndex_at h2];exact h1) (P.ok _ _ ρ _ rfl (Ext.refl _ _) (sr.toks _) (.str _ _)))
theorem adt{v:J}{V:Value}(hk:k≤1000000)(sr:SR c ρ σ s)(rv:cI c ρ s.heap v V):Den c A (cI c) ρ s (subscriptTail value slice V (.int (.ofNat k) t)) (cP k v σ):=
 @J.casesOn (fun v=>cI c ρ s.heap v V→Den c A (cI c) ρ s (subscriptTail value slice V (.int (.ofNat k) t)) (cP k v σ)) v (fun Z=>Den.none) (fun Z Z=>Den.none) (fun Z Z=>Den.none)
  (fun x r=>let⟨u,e⟩:=r.inv;e▸acp hk sr)
  (fun l r=>@kU.rec c ρ s.heap gS l (fun V Z=>Den c A (cI c) ρ s (subscriptTail value slice V (.int (.ofNat k) t)) (pq (d7 l k) σ)) (fun e Z r=>aco hk sr e r) V r.inv)
  (fun l r=>@kU.rec c ρ s.heap gm l (fun V Z=>Den c A (cI c) ρ s (subscriptTail value slice V (.int (.ofNat k) t)) (pq (d7 l k) σ)) (fun e Z r=>QI hk sr e r) V r.inv)
  (fun Z Z=>Den.none) (fun Z Z Z=>Den.none) (fun i r=>let⟨a,e,q⟩:=r.inv;e▸Den.tL sr q fun l Vs n Z e r=>QI hk sr e r)
  (fun Z Z=>Den.none) (fun Z Z=>Den.none) (fun Z Z=>Den.none) (fun Z Z=>Den.none) (fun Z=>Den.none) rv
theorem Rt{x:Str}{L:List (Str×Value)}{l:List (Str×J)}(sr:SR c ρ σ s)(hd:s.heap.DictOf (iS c) a L)(r:eI c ρ s.heap l L):Den c A (cI c) ρ s (subscriptTail value slice (.ref a) (.str x t)) (pq (pg l x) σ):=
 Den.ej fun v hv=>Den.now fun Q E P=>let⟨V,h1,h2⟩:=r.get hv;xy (has_dict hd) (wpAny_getItem_of (BP c x t) hd.mapOf h1 (P.ok _ _ ρ _ rfl (Ext.refl _ _) (sr.toks _) h2))
theorem adu{x:Str}{v:J}{V:Value}(sr:SR c ρ σ s)(rv:cI c ρ s.heap v V):Den c A (cI c) ρ s (subscriptTail value slice V (.str x t)) (iM v (.str x) σ):=
 @J.casesOn (fun v=>cI c ρ s.heap v V→Den c A (cI c) ρ s (subscriptTail value slice V (.str x t)) (iM v (.str x) σ)) v (fun Z=>Den.none) (fun Z Z=>Den.none) (fun Z Z=>Den.none) (fun Z Z=>Den.none) (fun Z Z=>Den.none) (fun Z Z=>Den.none)
  (fun l r=>@sV.rec c ρ s.heap l (fun V Z=>Den c A (cI c) ρ s (subscriptTail value slice V (.str x t)) (pq (pg l x) σ)) (fun hd Z Z r=>Rt sr hd r) V r.inv) (fun Z Z Z=>Den.none)
  (fun i r=>let⟨a,e,q⟩:=r.inv;e▸Den.tD sr q fun l L Z hd Z r=>Rt sr hd r) (fun Z Z=>Den.none) (fun Z Z=>Den.none) (fun Z Z=>Den.none) (fun Z Z=>Den.none) (fun Z=>Den.none) rv
end
theorem D2.jy{value slice:Expr}:D2 c n (subscriptTail value slice) iM:=fun A ρ σ s a b Va Vb hr sr ra rb=>
 @J.casesOn (fun b=>cI c ρ s.heap b Vb→Den c A (cI c) ρ s (subscriptTail value slice Va Vb) (iM a b σ)) b (fun Z=>Den.none) (fun Z Z=>Den.none)
  (fun i r=>let⟨t,e⟩:=r.inv;e▸@Int.casesOn (fun i=>Den c A (cI c) ρ s (subscriptTail value slice Va (.int i t)) (iM a (.int i) σ)) i (fun k=>Den.gd fun hk=>adt (bw hk) sr ra) (fun Z=>Den.none))
  (fun x r=>let⟨t,e⟩:=r.inv;e▸adu sr ra) (fun Z Z=>Den.none) (fun Z Z=>Den.none) (fun Z Z=>Den.none) (fun Z Z Z=>Den.none) (fun Z Z=>Den.none) (fun Z Z=>Den.none) (fun Z Z=>Den.none) (fun Z Z=>Den.none) (fun Z Z=>Den.none) (fun Z=>Den.none) rb
theorem DE.aga{e i:Expr}{pos:Pos}{x y:Fr→List MO→Out J}{m:J→J→List MO→Out J}(hm:D2 c n (subscriptTail e i) m)(h1:DE c g n e x)(h2:DE c g n i y):DE c g n (.Subscript e i pos) (cB m x y):=fun A env f ρ σ s hr he sr=>
 ⟨fun Z Z hx Z Z P=>Subscript_ ((h1 A env f ρ σ s hr he sr).step hx P fun a Va cW σ₁ cD e1 cY ra dB P1=>(h2 A env f cW σ₁ cD hr (he.mono e1) cY).step dB P1 fun b Vb ρ₂ fU fu e2 fh rb fC P2=>(hm A ρ₂ fU fu a b Va Vb hr fh (ra.mono e2) rb).last fC P2)⟩
theorem DE.jy{e i:Expr}{pos:Pos}{x y:Fr→List MO→Out J}(h1:DE c g n e x)(h2:DE c g n i y):DE c g n (.Subscript e i pos) (cB iM x y):=DE.aga D2.jy h1 h2
end
noncomputable def ux(x:Int):Bool:=decide (-4611686018427387904<x)&&decide (x<4611686018427387904)
theorem Il{x:Int}(h:ux x=true): -4611686018427387904<x∧x<4611686018427387904:=by
 unfold ux at h
 simpa using h
def mi(g:Int→Int→Bool)(f:Int→Int→Int)(a b:J)(σ:List MO):Out J:=vI a fun x=>vI b fun y=>gd (g x y) (ok (.int (f x y)) σ)
noncomputable def wm(l:List J):Bool:=@List.casesOn J (fun Z=>Bool) l false (fun Z Z=>true)
def Bp(a b:J)(σ:List MO):Out J:=@J.casesOn (fun Z=>Out J) a none (fun Z=>none) (fun x=>mi (fun Z Z=>true) (fun x y=>x+y) (.int x) b σ) (fun x=>vS b fun y=>gd (Nat.ble (x.length+y.length) 100000) (ok (.str (x++y)) σ))
 (fun l=>vT b fun l'=>gd (band (wm l) (band (wm l') (Nat.ble (l.length+l'.length) 4000))) (ok (.tup (l++l')) σ)) (fun l=>vL b fun l'=>gd (Nat.ble (l.length+l'.length) 4000) (ok (.lst (l++l')) σ)) (fun Z=>none) (fun Z Z=>none) (fun Z=>none) (fun Z=>none) (fun Z=>none) (fun Z=>none) (fun Z=>none) none
def Fs(a b:J)(σ:List MO):Out J:=@J.casesOn (fun Z=>Out J) a none (fun Z=>none) (fun x=>mi (fun x y=>ux x||ux y) (fun x y=>x*y) (.int x) b σ) (fun Z=>none) (fun Z=>none)
 (fun l=>vI b fun k=>gd (band (decide (0≤k)) (band (decide (k≤1000)) (Nat.ble l.length 1000))) (ok (.lst (List.replicate k.toNat l).flatten) σ)) (fun Z=>none) (fun Z Z=>none) (fun Z=>none) (fun Z=>none) (fun Z=>none) (fun Z=>none) (fun Z=>none) none
def eW(op:Operator)(a b:J)(σ:List MO):Out J:=match op with
 |.Add=>Bp a b σ
 |.Sub=>mi (fun Z Z=>true) (fun x y=>x - y) a b σ
 |.Mult=>Fs a b σ
 |.Mod=>mi (fun Z y=>decide (0<y)) (fun x y=>x.fmod y) a b σ
 |.FloorDiv=>mi (fun Z y=>decide (0<y)&&decide (y<1073741824)) (fun x y=>x.fdiv y) a b σ
 |.Pow=>mi (fun x y=>ux x&&(decide (0≤y)&&decide (y≤1000000))) (fun x y=>x^y.toNat) a b σ
 |_=>none
section
variable{c:Cx}{g:FC}{n:Nat}{A:Around}{env:Env}{f:Fr}{ρ:List Addr}{σ:List MO}{s:Shared}
theorem dh.S8{h:Heap}{l':List J}{L':List Value}(r':dh c ρ h l' L'):∀{l:List J} {L:List Value},dh c ρ h l L→dh c ρ h (l++l') (L++L')
 |[],_,r=>r.i9▸r'
 |v::l,_,r=>let⟨_,_,e,a,b⟩:=r.gr;e▸.cons a (dh.S8 r' b)
theorem dh.append{h:Heap}{l l':List J}{L L':List Value}(r:dh c ρ h l L)(r':dh c ρ h l' L'):dh c ρ h (l++l') (L++L'):=dh.S8 r' r
theorem dh.replicate{h:Heap}{l:List J}{L:List Value}(r:dh c ρ h l L):∀k:Nat,dh c ρ h (List.replicate k l).flatten (List.replicate k L).flatten
 |0=>.nil
 |k+1=>dh.append r (dh.replicate r k)
theorem PC(L:List Value):∀(k:Nat) (acc:Array Value),List.foldl (fun x1 x2=>x1++x2) acc (List.replicate k L.toArray)=(acc.toList++(List.replicate k L).flatten).toArray
 |0,acc=>by simp
 |k+1,acc=>by
  rw[List.replicate_succ,List.foldl_cons,PC L k,List.replicate_succ,List.flatten_cons]
  simp
theorem D2.mi{T:Value→Value→Sem Value}{g:Int→Int→Bool}{f:Int→Int→Int}(h:∀{A:Around} {E:Value→Shared→Prop} {Q:Value→Shared→Prop} {s:Shared} {x y:Int} {t u:Tok},g x y=true→(∀tk k,Q (.int (f x y) tk) {s with toks:=k})→wpAny (model c.prog c.w) A (T (.int x t) (.int y u)) Q E s):D2 c n T (mi g f):=
 fun A ρ σ s a b Va Vb hr sr ra rb=>Den.vI (T:=fun V=>T V Vb) ra fun x t=>Den.vI (T:=fun V=>T (.int x t) V) rb fun y u=>Den.gd fun hg=>Den.now fun Q E P=>h hg fun tk k=>P.ok _ _ ρ {s with toks:=k} rfl (Ext.refl _ _) (sr.toks k) (.int _ _)
theorem ne_nil{l:List J}{L:List Value}{h:Heap}(r:dh c ρ h l L)(hl:wm l=true):¬L.toArray.isEmpty=true:=fun q=>by
 have:L=[]:=by simpa using q
 subst this
 cases l with
 |nil=>cases hl
 |cons v l=>obtain⟨_,_,e,_⟩:=r.gr;cases e
theorem acq{la lb:List J}{a b:Addr}{na nb:Nat}{Vs Ws:List Value}(sr:SR c ρ σ s)(e:s.heap.get? a=some (gS Vs na))(r:dh c ρ s.heap la Vs)(e':s.heap.get? b=some (gS Ws nb))(r':dh c ρ s.heap lb Ws):
  Den c A (cI c) ρ s (binaryOp .Add (.ref a) (.ref b)) (gd (band (wm la) (band (wm lb) (Nat.ble (la.length+lb.length) 4000))) (ok (.tup (la++lb)) σ)):=
 Den.gd fun h=>Den.now fun Q E P=>by
  obtain⟨h1,h⟩:=ew h
  obtain⟨h2,h3⟩:=ew h
  have h3:=bw h3
  rw[←r.length,←r'.length]at h3
  refine PySem.P.add_tuple e e' (ne_nil r h1) (ne_nil r' h2) ?_ (by rw[List.size_toArray,List.size_toArray,sizeLine_eq];omega)
  obtain⟨fh,rv⟩:=sr.vp (dh.append r r') (t:=s.toks)
  rw[List.append_toArray]
  exact P.ok _ _ ρ _ rfl (Ext.push _) fh rv
theorem acr{la lb:List J}{a b:Addr}{na nb:Nat}{Vs Ws:List Value}(sr:SR c ρ σ s)(e:s.heap.get? a=some (gm Vs na))(r:dh c ρ s.heap la Vs)(e':s.heap.get? b=some (gm Ws nb))(r':dh c ρ s.heap lb Ws):
  Den c A (cI c) ρ s (binaryOp .Add (.ref a) (.ref b)) (gd (Nat.ble (la.length+lb.length) 4000) (ok (.lst (la++lb)) σ)):=
 Den.gd fun h=>Den.now fun Q E P=>by
  have h3:=bw h
  rw[←r.length,←r'.length]at h3
  refine PySem.P.add_list e e' ?_ (by rw[List.size_toArray,List.size_toArray,sizeLine_eq];omega)
  obtain⟨fh,rv⟩:=sr.En (dh.append r r') (t:=s.toks)
  rw[List.append_toArray]
  exact P.ok _ _ ρ _ rfl (Ext.push _) fh rv
theorem acs{l:List J}{a:Addr}{m:Nat}{Vs:List Value}{k:Int}{tk:Tok}(sr:SR c ρ σ s)(e:s.heap.get? a=some (gm Vs m))(rl:dh c ρ s.heap l Vs):
  Den c A (cI c) ρ s (binaryOp .Mult (.ref a) (.int k tk)) (gd (band (decide (0≤k)) (band (decide (k≤1000)) (Nat.ble l.length 1000))) (ok (.lst (List.replicate k.toNat l).flatten) σ)):=
 Den.gd fun h=>Den.now fun Q E P=>by
  obtain⟨h1,h⟩:=ew h
  obtain⟨h2,h3⟩:=ew h
  have h1:=of_decide_eq_true h1
  have h2:=of_decide_eq_true h2
  have h3:=bw h3
  rw[←rl.length]at h3
  have hm:Vs.length*k.toNat≤1000*1000:=Nat.mul_le_mul h3 (by omega)
  refine wpAny_binaryOp_repeat_ref (T:="list") (U:="int") (by decide) ⟨_,e,rfl⟩ (fun s'=>typeIs_int s' k tk) PySem.noFill_list_mul F.fills_int_mul F.slot_int_rmul PySem.repeat_list F.slot_int_index.lookup
   (call_meets F.slot_int_rmul (typeIs_int s k tk) F.entry_int_rmul (F.args_int_rmul_2 _ _) (int___rmul___int_list k tk a Vs.toArray m)
    ⟨e,rfl,⟨_,e,rfl⟩,call_meets F.slot_list_mul ⟨_,e,rfl⟩ F.entry_list_mul (F.args_list_mul_2 _ _)
     (AutoListH.list___mul___list_int_3 a Vs.toArray m k tk (by simp[Builtin.List.listFitsIndex];omega) (by rw[List.size_toArray];omega) (by simp[Builtin.List.listTooLong,sizeLine];omega))
     ⟨e,?_⟩⟩)
  have hf:List.foldl (fun x1 x2=>x1++x2) #[] (List.replicate (if Vs.toArray.isEmpty=true then 0 else k.toNat) Vs.toArray)=(List.replicate k.toNat Vs).flatten.toArray:=by
   rw[PC]
   cases Vs<;>simp
  obtain⟨fh,rv⟩:=sr.En (rl.replicate k.toNat) (t:=s.toks)
  rw[hf]
  exact P.ok _ _ ρ _ rfl (Ext.push _) fh rv
theorem D2.add:D2 c n (binaryOp .Add) Bp:=fun A ρ σ s a b Va Vb hr sr ra rb=>
 @J.casesOn (fun a=>cI c ρ s.heap a Va→Den c A (cI c) ρ s (binaryOp .Add Va Vb) (Bp a b σ)) a (fun Z=>Den.none) (fun Z Z=>Den.none)
  (fun x r=>D2.mi (n:=n) (T:=binaryOp .Add) (g:=fun Z Z=>true) (f:=fun x y=>x+y) (fun Z h=>PySem.P.add_int (h _ _)) A ρ σ s _ b Va Vb hr sr r rb)
  (fun x r=>let⟨t,e⟩:=r.inv;e▸Den.vS (T:=fun V=>binaryOp .Add (.str x t) V) rb fun y u=>Den.gd fun h=>Den.now fun Q E P=>PyProof.Rows.add_str (fun t' tk=>P.ok _ _ ρ _ rfl (Ext.refl _ _) (sr.toks _) (.str _ _)) (by have h:=bw h;rw[sizeLine_eq];omega))
  (fun l r=>@kU.rec c ρ s.heap gS l (fun V Z=>Den c A (cI c) ρ s (binaryOp .Add V Vb) (Bp (.tup l) b σ)) (fun{a n Vs} e _ r=>Den.vT (T:=fun V=>binaryOp .Add (.ref a) V) rb fun l' b' n' Ws e' Z r'=>acq sr e r e' r') Va r.inv)
  (fun l r=>@kU.rec c ρ s.heap gm l (fun V Z=>Den c A (cI c) ρ s (binaryOp .Add V Vb) (Bp (.lst l) b σ)) (fun{a n Vs} e _ r=>Den.vL (T:=fun V=>binaryOp .Add (.ref a) V) rb fun l' b' n' Ws e' Z r'=>acr sr e r e' r') Va r.inv)
  (fun Z Z=>Den.none) (fun Z Z Z=>Den.none) (fun Z Z=>Den.none) (fun Z Z=>Den.none) (fun Z Z=>Den.none) (fun Z Z=>Den.none) (fun Z Z=>Den.none) (fun Z=>Den.none) ra
theorem D2.mul:D2 c n (binaryOp .Mult) Fs:=fun A ρ σ s a b Va Vb hr sr ra rb=>
 @J.casesOn (fun a=>cI c ρ s.heap a Va→Den c A (cI c) ρ s (binaryOp .Mult Va Vb) (Fs a b σ)) a (fun Z=>Den.none) (fun Z Z=>Den.none)
  (fun x r=>D2.mi (n:=n) (T:=binaryOp .Mult) (g:=fun x y=>ux x||ux y) (f:=fun x y=>x*y) (fun h q=>PySem.P.mul_int (q _ _) (by
   rcases Bool.or_eq_true_iff.mp h with h|h
   ·have:=Il h;exact IntMulOk.of_left (intBits_le_64 (by omega) (by omega))
   ·have:=Il h;exact IntMulOk.of_right (intBits_le_64 (by omega) (by omega)))) A ρ σ s _ b Va Vb hr sr r rb)
  (fun Z Z=>Den.none) (fun Z Z=>Den.none)
  (fun l r=>@kU.rec c ρ s.heap gm l (fun V Z=>Den c A (cI c) ρ s (binaryOp .Mult V Vb) (Fs (.lst l) b σ)) (fun{a n Vs} e _ r=>Den.vI (T:=fun V=>binaryOp .Mult (.ref a) V) rb fun k tk=>acs sr e r) Va r.inv)
  (fun Z Z=>Den.none) (fun Z Z Z=>Den.none) (fun Z Z=>Den.none) (fun Z Z=>Den.none) (fun Z Z=>Den.none) (fun Z Z=>Den.none) (fun Z Z=>Den.none) (fun Z=>Den.none) ra
theorem D2.bin(op:Operator):D2 c n (binaryOp op) (eW op):=match op with
 |.Add=>D2.add
 |.Sub=>D2.mi (fun Z h=>PySem.P.sub_int (h _ _))
 |.Mult=>D2.mul
 |.Mod=>D2.mi (fun h q=>PyProof.Rows.mod_int' (by have:=of_decide_eq_true h;omega) (q _ _))
 |.FloorDiv=>D2.mi (fun h q=>by
  rw[Bool.and_eq_true,decide_eq_true_eq,decide_eq_true_eq]at h
  exact PyProof.Rows.floordiv_int (by omega) (q _ _) (.inl (PyProof.noPylong_small (by omega))))
 |.Pow=>D2.mi (fun h q=>by
  rw[Bool.and_eq_true,Bool.and_eq_true,decide_eq_true_eq,decide_eq_true_eq]at h
  have:=Il h.1
  exact PyProof.Rows.pow_int_small h.2.1 h.2.2 (by omega) (q _ _))
 |.MatMult|.Div|.LShift|.RShift|.BitOr|.BitXor|.BitAnd=>fun Z Z Z Z Z Z Z Z Z Z Z Z=>Den.none
theorem ao{l r:Expr}{op:Operator}{pos:Pos}{x y:Fr→List MO→Out J}(h1:DE c g n l x)(h2:DE c g n r y):DE c g n (.BinOp l op r pos) (cB (eW op) x y):=by
 intro A env f ρ σ s hr he sr
 refine⟨fun r cG hx Q E P=>?_⟩
 refine wpAny_BinOp ((h1 A env f ρ σ s hr he sr).step hx P fun a Va cW σ₁ cD e1 cY ra dB P1=>(h2 A env f cW σ₁ cD hr (he.mono e1) cY).step dB P1 fun b Vb ρ₂ fU fu e2 fh rb fC P2=>?_)
 exact(D2.bin op A ρ₂ fU fu a b Va Vb hr fh (ra.mono e2) rb).run _ _ fC _ _ P2
theorem aad(b m:Nat)(hb:b≤m):Builtin.Slice.sliceAdjust none (some (b:Int)) 1 (m:Int)=((0:Int),(b:Int)):=by
 unfold Builtin.Slice.sliceAdjust
 have h1:¬((1:Int)<0):=by omega
 have h2:¬((b:Int)<0):=by omega
 simp only[h1,h2,if_false]
 congr 1
 omega
theorem aae(b:Nat):Builtin.Slice.slicePlaces 0 (b:Int) 1=b:=by
 unfold Builtin.Slice.slicePlaces
 have h1:(1:Int)>0:=by omega
 simp only[h1,if_true,Int.ediv_one]
 split<;>omega
theorem Yk{prog:Program}{w:World}{E:Value→Shared→Prop}{sl:Addr}{b m:Nat}{u:Tok}{Q:Int×Int×Nat→Shared→Prop}(hs:s.heap.IsSliceOf sl .none (.int b u) .none)(hb:b≤m)(h:Q ((0:Int),1,b) s):
  wpAny (model prog w) A (Builtin.Slice.sliceApplied (.ref sl) (pure (m:Int))) Q E s:=by
 obtain⟨os,BQ,Vf,uy⟩:=id hs
 unfold Builtin.Slice.sliceApplied Builtin.Slice.sliceFields
 refine bC (bC (wpAny_field BQ uy (x:=.none) rfl (bC (wpAny_field BQ uy (x:=.int b u) rfl (bC (wpAny_field BQ uy (x:=.none) rfl (bD ?_)))))))
 refine bC (slicePart_none ?_)
 show wpAny _ _ (if((1:Int)==0)=true then _ else _) _ _ s
 rw[if_neg (by decide)]
 refine bC (slicePart_none (bC (slicePart_int (bC (bD ?_)))))
 show wpAny _ _ (match Builtin.Slice.sliceAdjust none (some (b:Int)) 1 (m:Int)with|(lo,hi)=>pure (lo,(1:Int),Builtin.Slice.slicePlaces lo hi 1)) _ _ s
 rw[aad b m hb]
 show wpAny _ _ (pure ((0:Int),(1:Int),Builtin.Slice.slicePlaces 0 (b:Int) 1)) _ _ s
 rw[aae b]
 exact bD h
theorem aa3(xs:List Value)(b:Nat)(hb:b≤xs.length):((List.range b).filterMap fun(k:Nat)=>xs.toArray[((0:Int)+(k:Int)*1).toNat]?).toArray=(xs.take b).toArray:=by
 have e:(fun(k:Nat)=>xs.toArray[((0:Int)+(k:Int)*1).toNat]?)=fun k=>xs[k]? :=by
  funext k
  have:((0:Int)+(k:Int)*1).toNat=k:=by omega
  rw[this];simp
 rw[e]
 congr 1
 induction b with
 |zero=>simp
 |succ b ih=>
  rw[List.range_succ,List.filterMap_append,ih (by omega)]
  have gD:b<xs.length:=by omega
  simp[List.getElem?_eq_getElem gD]
theorem Yd{prog:Program}{w:World}{E:Value→Shared→Prop}{t sl:Addr}{L:List Value}{b:Nat}{u:Tok}{Q:Value→Shared→Prop}(ht:IsTup s.heap t L.toArray)(hs:s.heap.IsSliceOf sl .none (.int b u) .none)(hb:b<L.length)
  (h:Q (.ref s.heap.objs.size) {s with heap:=s.heap.push {cls:=.type "tuple",data:=.seq (L.take b).toArray}})
  (j6:L.length≤sizeLine):wpAny (model prog w) A (getItem (.ref t) (.ref sl)) Q E s:=by
 have E4:sizeOk (.seq (L.take b).toArray):=by
  show(L.take b).toArray.size≤sizeLine
  rw[List.size_toArray,List.length_take]
  omega
 obtain⟨os,BQ,Vf,uy⟩:=id hs
 have hTs:s.TypeIs (.ref sl) "slice":=⟨os,BQ,Vf⟩
 unfold getItem
 try with_reducible refine wpAny_holding ?_
 first|refine bC (bD ?_)|skip
 refine bC (wpAny_sequenceKey ht.typeIs (by decide) ?_)
 refine bC (wpAny_callSpecial?_slot (name:=Str.ofString "__getitem__") ht.typeIs slot_tuple_getitem
  (wpAny_call_entry slot_tuple_getitem ht.typeIs entry_tuple_getitem ?_ (args_tuple_getitem _ _)))
 show wpAny _ _ (Builtin.Tuple.tupleItemsOf (.ref t)>>=_) _ _ s
 refine bC (tupleItemsOf_ ht ?_)
 refine bC (wpAny_typeOf hTs ?_)
 rw[if_pos (by decide)]
 rw[List.size_toArray]
 refine bC (Yk hs (Nat.le_of_lt hb) ?_)
 have rJ:¬(((0:Int)==0&&(1:Int)==1&&b==L.toArray.size)=true):=by
  have:(b==L.toArray.size)=false:=by rw[beq_eq_false_iff_ne,List.size_toArray];omega
  rw[this];simp
 show wpAny _ _ (if((0:Int)==0&&(1:Int)==1&&b==L.toArray.size)=true then _ else _) _ _ s
 rw[if_neg rJ,aa3 L b (Nat.le_of_lt hb)]
 first
  |exact bC (m:=Builtin.Tuple.tupleExact _) (wpAny_newObj_type (bD ⟨_,rfl,bD h⟩) E4)
  |exact bC (m:=Builtin.Tuple.tupleExact _) (wpAny_newObj_type (bC (bD (bD ⟨_,rfl,bD h⟩))) E4)
  |exact bC (bC (m:=Builtin.Tuple.tupleExact _) (wpAny_newObj_type (bD (bD ⟨_,rfl,bD h⟩)) E4))
  |exact bC (bC (m:=Builtin.Tuple.tupleExact _) (wpAny_newObj_type (bD ⟨_,rfl,bD h⟩) E4))
end
structure CI where
 free:Str→Bool
 rC:Str→Option Addr
structure Tb where
 cls:Addr→Option CI
 call:Addr→Bool
structure CP where
 nm:Str
 q:Str
 N:Addr
 bs:List Value
 sn:List Str
 sub:List Value
 col:Option Bool
 dd:Option Addr
 k0:Option Value
 k1:Option Value
 k2:Option Value
 k3:Option Value
 k5:Option Value
noncomputable abbrev CP.mk'(p:CP)(C:Addr)(bm:List Value)(hd ab:Bool)(Kl:String):Obj:=excClassObj p.nm p.q C p.N p.bs bm hd p.sn p.sub ab p.col p.dd p.k0 p.k1 p.k2 p.k3 p.k5 Kl
noncomputable abbrev CP.obj(p:CP)(C:Addr):Obj:=p.mk' C [.type "object"] true false "object.__new__"
structure jF(c:Cx)(C:Addr)(ci:CI):Prop where
 ex:∃(p:CP) (mN:Str→Option Value) (oN:Obj),c.h0.get? C=some (p.obj C)∧c.h0.Ns p.N mN∧c.h0.get? p.N=some oN∧oN.cls≠.none∧
  (∀x,ci.free x=true→mN x=none)∧∀x a,ci.rC x=some a→mN x=some (.ref a)∧∃of,c.h0.get? a=some of∧of.cls=.type "function"
 quiet:ci.free "__getattribute__"=true∧ci.free "__getattr__"=true∧ci.free "__setattr__"=true
def Callee(c:Cx)(a:Addr):Prop:=∃o,c.h0.get? a=some o∧o.cls≠.none∧((∃fd,o.data=.func fd)∨∃p bm hd ab newId,o=CP.mk' p a bm hd ab newId)
structure qs(c:Cx)(tb:Tb):Prop where
 cls:∀C ci,tb.cls C=some ci→jF c C ci
 call:∀a,tb.call a=true→Callee c a
section
variable{c:Cx}{g:FC}{n:Nat}{A:Around}{env:Env}{f:Fr}{ρ:List Addr}{σ:List MO}{s:Shared}{tb:Tb}
def A3(a b:J)(σ:List MO):Out J:=vT a fun l=>vI b fun k=>gd (band (decide (0≤k)) (band (Nat.blt k.toNat l.length) (short l))) (ok (.tup (l.take k.toNat)) σ)
def A5(a b:J)(σ:List MO):Out J:=vT a fun l=>vI b fun k=>gd (band (decide (1≤k)) (band (Nat.ble k.toNat l.length) (short l))) (ok (.tup (l.drop k.toNat)) σ)
theorem dh.take{h:Heap}:∀{l:List J} {L:List Value} (k:Nat),dh c ρ h l L→dh c ρ h (l.take k) (L.take k)
 |_,_,0,_=>by rw[List.take_zero,List.take_zero];exact .nil
 |[],_,k+1,r=>r.i9▸.nil
 |v::l,_,k+1,r=>let⟨_,_,e,a,b⟩:=r.gr;e▸.cons a (dh.take k b)
theorem dh.drop{h:Heap}:∀{l:List J} {L:List Value} (k:Nat),dh c ρ h l L→dh c ρ h (l.drop k) (L.drop k)
 |_,_,0,r=>r
 |[],_,k+1,r=>r.i9▸.nil
 |v::l,_,k+1,r=>let⟨_,_,e,_,b⟩:=r.gr;e▸dh.drop k b
theorem DE.pv{e u:Expr}{p pos:Pos}{x y:Fr→List MO→Out J}(h1:DE c g n e x)(h2:DE c g n u y):DE c g n (.Subscript e (.Slice Option.none (some u) Option.none p) pos) (cB A3 x y):=by
 intro A env f ρ σ s hr he sr
 refine⟨fun r cG hx Q E P=>?_⟩
 refine Subscript_ ((h1 A env f ρ σ s hr he sr).step hx P fun a Va cW σ₁ cD e1 cY ra dB P1=>wpAny_Slice (bD ((h2 A env f cW σ₁ cD hr (he.mono e1) cY).step dB P1 fun b Vb ρ₂ fU fu e2 fh rb fC P2=>bD ?_)))
 have Km:=ra.mono e2
 refine zz fun GG KK=>?_
 clear ra hx dB P1 cY e1 P sr he
 obtain⟨l,rfl,fC⟩:=Ii fC
 obtain⟨k,rfl,fC⟩:=t8 fC
 obtain⟨hk,fC⟩:=gK fC
 cases fC
 obtain⟨h0,hk⟩:=ew hk
 obtain⟨gD,wo⟩:=ew hk
 have h0:=of_decide_eq_true h0
 rw[Nat.blt_eq]at gD
 obtain⟨t,rfl⟩:=rb.inv
 obtain⟨ea,hn,rl⟩:=Km.inv
 rename_i aa m Vs
 have hlen:=rl.length
 refine KK ?_
 generalize hp:fu.heap.push {cls:=.type "slice",data:=.fields #[.none,.int k t,.none]}=h3
 have ep:Ext ρ₂ fu.heap ρ₂ h3:=hp▸Ext.push _
 have hJ:SR c ρ₂ cG {fu with heap:=h3}:=hp▸fh.push {cls:=.type "slice",data:=.fields #[.none,.int k t,.none]}
 have ht:IsTup h3 aa Vs.toArray:=⟨_,hp▸aX _ ea,rfl,_,rfl⟩
 have hs:h3.IsSliceOf fu.heap.objs.size .none (.int ((k.toNat:Nat):Int) t) .none:=by rw[Int.toNat_of_nonneg h0,←hp];exact Heap.IsSliceOf.new ..
 refine xy (has_tuple (s:={fu with heap:=h3}) ht) (Yd (s:={fu with heap:=h3}) (b:=k.toNat) (u:=t) ht hs (by omega) ?_ (by rw[hlen];exact qj wo))
 obtain⟨lz,rv⟩:=hJ.vp ((rl.take k.toNat).mono ep) (t:=fu.toks)
 exact P2.ok _ _ ρ₂ _ rfl (ep.trans (Ext.push _)) lz rv
theorem DE.from{e u:Expr}{p pos:Pos}{x y:Fr→List MO→Out J}(h1:DE c g n e x)(h2:DE c g n u y):DE c g n (.Subscript e (.Slice (some u) Option.none Option.none p) pos) (cB A5 x y):=by
 intro A env f ρ σ s hr he sr
 refine⟨fun r cG hx Q E P=>?_⟩
 refine Subscript_ ((h1 A env f ρ σ s hr he sr).step hx P fun a Va cW σ₁ cD e1 cY ra dB P1=>wpAny_Slice ((h2 A env f cW σ₁ cD hr (he.mono e1) cY).step dB P1 fun b Vb ρ₂ fU fu e2 fh rb fC P2=>bD (bD ?_)))
 have Km:=ra.mono e2
 refine zz fun GG KK=>?_
 clear ra hx dB P1 cY e1 P sr he
 obtain⟨l,rfl,fC⟩:=Ii fC
 obtain⟨k,rfl,fC⟩:=t8 fC
 obtain⟨hk,fC⟩:=gK fC
 cases fC
 obtain⟨h0,hk⟩:=ew hk
 obtain⟨gD,wo⟩:=ew hk
 have h0:=of_decide_eq_true h0
 rw[Nat.ble_eq]at gD
 obtain⟨t,rfl⟩:=rb.inv
 obtain⟨ea,hn,rl⟩:=Km.inv
 rename_i aa m Vs
 have hlen:=rl.length
 refine KK ?_
 generalize hp:fu.heap.push {cls:=.type "slice",data:=.fields #[.int k t,.none,.none]}=h3
 have ep:Ext ρ₂ fu.heap ρ₂ h3:=hp▸Ext.push _
 have hJ:SR c ρ₂ cG {fu with heap:=h3}:=hp▸fh.push {cls:=.type "slice",data:=.fields #[.int k t,.none,.none]}
 have ht:IsTup h3 aa Vs.toArray:=⟨_,hp▸aX _ ea,rfl,_,rfl⟩
 have hs:h3.IsSliceOf fu.heap.objs.size (.int ((k.toNat:Nat):Int) t) .none .none:=by rw[Int.toNat_of_nonneg (by omega),←hp];exact Heap.IsSliceOf.new ..
 refine xy (has_tuple (s:={fu with heap:=h3}) ht) (getItem_tuple_from (s:={fu with heap:=h3}) (a:=k.toNat) (u:=t) ht hs (by omega) (by rw[List.size_toArray];omega) ?_ (by rw[List.size_toArray,hlen];exact qj wo))
 obtain⟨lz,rv⟩:=hJ.vp ((rl.drop k.toNat).mono ep) (t:=fu.toks)
 exact P2.ok _ _ ρ₂ _ rfl (ep.trans (Ext.push _)) lz rv
noncomputable def IV(v:J):Bool:=@J.casesOn (fun Z=>Bool) v true (fun Z=>true) (fun Z=>true) (fun Z=>true) (fun Z=>true) (fun Z=>true) (fun Z=>true) (fun Z Z=>true) (fun Z=>true) (fun Z=>true) (fun Z=>true) (fun Z=>false) (fun Z=>true) false
def IW(o:Option J)(σ:List MO):Out J:=ej o fun v=>gd (IV v) (ok v σ)
def gO(C:Nat)(name:Str)(v:J)(σ:List MO):Out J:=@J.casesOn (fun Z=>Out J) v none (fun Z=>none) (fun Z=>none) (fun Z=>none) (fun Z=>none) (fun Z=>none) (fun Z=>none) (fun C' l=>gd (Nat.beq C' C) (IW (pg l name) σ))
 (fun i=>tN σ i fun C' d=>gd (Nat.beq C' C) (tI σ d fun l=>IW (pg l name) σ)) (fun Z=>none) (fun Z=>none) (fun Z=>none) (fun Z=>none) none
theorem handed{h:Heap}{v:J}{V:Value}(r:cI c ρ h v V):IV v=true→handedOut V=pure V:=
 @cI.casesOn c ρ h (fun v V Z=>IV v=true→handedOut V=pure V) v V r (fun Z=>rfl) (fun Z Z=>rfl) (fun Z Z Z=>rfl) (fun Z Z Z=>rfl) (fun Z Z Z Z=>rfl) (fun Z Z Z Z=>rfl) (fun Z Z Z Z Z=>rfl) (fun Z Z Z Z Z Z Z Z Z Z Z Z Z=>rfl) (fun Z Z=>rfl) (fun Z Z=>rfl) (fun Z Z=>rfl) (fun Z h=>Bool.noConfusion h) (fun Z Z Z Z Z Z Z Z Z Z Z Z Z Z=>rfl) (fun Z h=>Bool.noConfusion h)
theorem SR.inst(sr:SR c ρ σ s){i d:Nat}{C:Addr}{l:List (Str×J)}(h1:σ[i]? =some (.ins C d))(h2:σ[d]? =some (.lS l)):
  ∃a da L m o,ρ[i]? =some a∧ρ[d]? =some da∧s.heap.get? a=some o∧o.cls=.ref C∧o.dict=some da∧da≠a∧s.heap.Ns1 da m∧(∀y,m y=valueAt L y)∧eI c ρ s.heap l L∧s.heap.Inst a C m∧s.heap.InstFk a C m∧∀k,o.data≠.cls k:=by
 refine zz fun GG KK=>?_
 obtain⟨a,ha,o,da,e,c1,d1,dt,ne,hd⟩:=sr.at h1
 obtain⟨da',Vg,L,m,ns,ex,hv,r⟩:=sr.at h2
 rw[hd]at Vg;cases Vg
 refine KK ?_
 exact⟨a,da,L,m,o,ha,hd,e,c1,d1,ne,ns,hv,r,⟨o,e,c1,dt,.inr ⟨da,d1,ne,ns⟩⟩,⟨o,e,c1,dt,.inr ⟨da,d1,ne,ns,ex⟩⟩,dt⟩
structure agb(h:Heap)(C:Addr)(ci:CI)(p:CP)(mN:Str→Option Value):Prop where
 obj:h.get? C=some (p.obj C)
 ns:h.Ns p.N mN
 free:∀x,ci.free x=true→mN x=none
 rC:∀x a,ci.rC x=some a→mN x=some (.ref a)∧∃of,h.get? a=some of∧of.cls=.type "function"
theorem jF.now{C:Addr}{ci:CI}(F:jF c C ci)(sr:SR c ρ σ s):∃p mN,agb s.heap C ci p mN:=
 let⟨p,mN,_,hC,hn,Vh,Kn,hf,hm⟩:=F.ex
 ⟨p,mN,sr.jr hC (fun q=>nomatch q),qY hn fun Z e=>(aV (Vh.symm.trans e))▸sr.jr Vh Kn,hf,fun x a hx=>let⟨h1,of,h2,h3⟩:=hm x a hx;⟨h1,of,sr.jr h2 (by rw[h3];exact(fun q=>nomatch q)),h3⟩⟩
theorem cI.R1{h:Heap}{C:Addr}{l:List (Str×J)}{V:Value}(r:cI c ρ h (.obj C l) V):∃a L m,V=.ref a∧(∀y,m y=valueAt L y)∧eI c ρ h l L∧h.Inst a C m∧h.InstFk a C m:=by
 refine zz fun GG KK=>?_
 obtain⟨e,c1,d1,dt,ne,ns,ex,hv,n1,n2,rl,cl⟩:=r.inv
 refine KK ?_
 exact⟨_,_,_,rfl,hv,rl,⟨_,e,c1,dt,.inr ⟨_,d1,ne,ns⟩⟩,⟨_,e,c1,dt,.inr ⟨_,d1,ne,ns,ex⟩⟩⟩
section
variable{C:Nat}{ci:CI}{name:Str}{a:Addr}{m:Str→Option Value}{l:List (Str×J)}{L:List (Str×Value)}
theorem OU(F:jF c C ci)(hf:ci.free name=true)(hB:typeLookup (.type "object") name=pure Option.none)(sr:SR c ρ σ s)(hv:∀y,m y=valueAt L y)(rl:eI c ρ s.heap l L)(I:s.heap.Inst a C m):Den c A (cI c) ρ s (getAttr (.ref a) name true) (IW (pg l name) σ):=
 Den.ej fun y h5=>Den.gd fun h6=>Den.now fun Q E P=>by
  obtain⟨Y,hY,ry⟩:=rl.get h5
  obtain⟨p,mN,N⟩:=F.now sr
  obtain⟨hh,gg,dr,tk,os⟩:=s
  exact load_attr N.obj N.ns (N.free _ F.quiet.1) (N.free _ hf) hB I ((hv name).trans hY) (handed ry h6) (P.ok _ _ ρ _ rfl (Ext.refl _ _) (sr.toks _) ry)
theorem acu(F:jF c C ci)(hf:ci.free name=true)(hB:typeLookup (.type "object") name=pure Option.none)(sr:SR c ρ σ s){v:J}{V:Value}(rv:cI c ρ s.heap v V):Den c A (cI c) ρ s (getAttr V name true) (gO C name v σ):=
 @J.casesOn (fun v=>cI c ρ s.heap v V→Den c A (cI c) ρ s (getAttr V name true) (gO C name v σ)) v (fun Z=>Den.none) (fun Z Z=>Den.none) (fun Z Z=>Den.none) (fun Z Z=>Den.none) (fun Z Z=>Den.none) (fun Z Z=>Den.none) (fun Z Z=>Den.none)
  (fun C' l r=>Den.gd fun hC=>let⟨a,L,m,e,hv,rl,I,_⟩:=r.R1;e▸OU F hf hB sr hv rl (aY hC▸I))
  (fun i r=>let⟨a,e,q⟩:=r.inv;e▸Den.tN sr q fun C' d da o Z e c1 d1 dt ne hd=>Den.gd fun hC=>Den.tI sr hd fun l L m Z ns ex hv rl=>OU F hf hB sr hv rl ⟨o,e,aY hC▸c1,dt,.inr ⟨da,d1,ne,ns⟩⟩)
  (fun Z Z=>Den.none) (fun Z Z=>Den.none) (fun Z Z=>Den.none) (fun Z Z=>Den.none) (fun Z=>Den.none) rv
end
noncomputable abbrev sP(e:Expr):Prop:=attributeBase e=fun Z Z w=>w
theorem vd{e:Expr}(h:sP e)(name:Str)(env:Env)(w:Sem Value):attributeBase e name env w=w:=congrFun (congrFun (congrFun h name) env) w
theorem DE.IX(T:qs c tb){C:Nat}{ci:CI}{e:Expr}{name:Str}{pos:Pos}{x:Fr→List MO→Out J}(h1:DE c g n e x)(hc:tb.cls C=some ci)(hf:ci.free name=true)(hb:sP e)(hB:typeLookup (.type "object") name=pure Option.none):
  DE c g n (.Attribute e name pos) (m1 (gO C name) x):=by
 intro A env f ρ σ s hr he sr
 refine⟨fun r cG hx Q E P=>?_⟩
 rw[arm_eval_Attribute,vd hb]
 refine bC ((h1 A env f ρ σ s hr he sr).step hx P fun v V cW σ₁ cD e1 cY rv dB P1=>bC (wpAny_standAt (bC (wpAny_holding ?_))))
 refine wpAny_mono ((acu (T.cls C ci hc) hf hB cY rv).last dB P1) (fun r fu jR=>?_) fun Z Z x=>x
 exact bC (wpAny_letTemporaryGo (bD jR))
end
theorem aa4(M:Model)(Γ:PySem.Ctx)(E:Value→Pos→Shared→Prop)(p:Pos)(s:Shared){a:Addr}{m:Str→Option Value}(hn:s.heap.Ns a m)(name:Str)(v:Value)(Q:Unit→Pos→Shared→Prop)
  (hQ:∀h',h'.Ns a (fun x=>if x=name then some v else m x)→Heap.SameBut a s.heap h'→(∃o o',s.heap.get? a=some o∧h'.get? a=some o'∧o'.cls=o.cls)→
   Q () p {s with heap:=h',toks:=s.toks+1}):Sem.wp M Γ (nsSet a name v) Q E p s:=by
 refine zz fun GG KK=>?_
 obtain⟨o,es,ep,ho,hd,hk,hm⟩:=hn
 refine KK ?_
 simp only[nsSet,strHash,Sem.wp_bind',Sem.wp_cmd_ask,Sem.wp_pure',Sem.wp_cmd_mkText]
 rw[Sem.wp_loadPart_of M Γ E p {s with toks:=s.toks+1} (o:=o) _ ho]
 have agc:es.any (·.refKey)=false:=by
  rw[Array.any_eq_false'];intro e he;obtain⟨n,t,h⟩:=hk e he;simp[DictEntry.refKey,h]
 simp only[hd,aRefKeyMayBeTheName_eq,aRefKeyMayBeTheNameByArray,agc,Bool.and_false,Bool.false_eq_true,if_false,Sem.wp_cmd_updatePart]
 obtain⟨c,d,dt,sl⟩:=o
 subst hd
 have key:∀o',s.heap.get? a=some ⟨c,d,.dict es ep,sl⟩→(∃uz zC,o'=⟨c,d,.dict uz zC,sl⟩∧StrKeys uz∧∀x,nsFind uz x=if x=name then some v else m x)→
   (∀f:Obj→Obj,f ⟨c,d,.dict es ep,sl⟩=o'→Q () p {s with heap:=s.heap.update a f,toks:=s.toks+1}):=by
  rintro o' ho ⟨uz,zC,rfl,k1,k2⟩ f hf
  have hg:(s.heap.update a f).get? a=some ⟨c,d,.dict uz zC,sl⟩:=by
   rw[←hf]
   exact Heap.get?_update_self f ho (by rw[hf];rfl)
  exact hQ _ ⟨_,uz,zC,hg,rfl,k1,k2⟩ (Heap.SameBut.update ..) ⟨_,_,ho,hg,rfl⟩
 refine⟨by rw[ho];rfl,?_⟩
 cases hi:es.findIdx? (·.key.isStr name)with
 |some i=>
  refine key _ ho ⟨es.modify i fun e=>{e with val:=v},ep,rfl,hk.modify _ _,fun x=>?_⟩ _ (by simp only[Obj.putName_eq,Obj.putNameByArray,hi])
  rw[←hm];exact findBy_modify (fun n v=>v.isStr n) Value.isStr_inj es name x v i hi
 |none=>
  refine key _ ho ⟨_,ep+1,rfl,hk.push _ name _ v,fun x=>?_⟩ _ (by simp only[Obj.putName_eq,Obj.putNameByArray,hi];rfl)
  rw[←hm]
  exact findBy_push (fun n v=>v.isStr n) es name x _ _ v (fun y=>by
   show(name==y)=decide (y=name)
   by_cases h:y=name
   ·subst h;simp
   ·have:¬name=y:=fun e=>h e.symm
    simp[h,this]) hi
theorem HG{M:Model}{A:Around}{E:Value→Shared→Prop}{s:Shared}{env:Env}{name:Str}{m:Str→Option Value}{v:Value}{Q:Unit→Shared→Prop}(hk:env.scope.kind=.function)(hl:env.kindOf name=some .local)(hn:s.heap.Ns env.locals m)
  (h:∀h',h'.Ns env.locals (fun x=>if x=name then some v else m x)→Heap.SameBut env.locals s.heap h'→(∃o o',s.heap.get? env.locals=some o∧h'.get? env.locals=some o'∧o'.cls=o.cls)→
   Q () {s with heap:=h',toks:=s.toks+1}):wpAny M A (storeName env name v) Q E s:=fun Γ p Z=>by
 rw[storeName_local hl (by rw[hk];rfl)]
 exact aa4 M Γ _ p s hn name v _ h
theorem Y3{M:Model}{A:Around}{E:Value→Shared→Prop}{s:Shared}{c:Addr}{Js v:Option Value}{Q:Unit→Shared→Prop}(hc:s.heap.IsCell c Js)
  (h:∀h',h'.IsCell c v→Heap.SameBut c s.heap h'→(∃o o',s.heap.get? c=some o∧h'.get? c=some o'∧o'.cls=o.cls)→Q () {s with heap:=h'}):wpAny M A (cellSet c v) Q E s:=by
 obtain⟨o,ho,hd⟩:=hc
 unfold cellSet
 refine bC (wpAny_load ho ?_)
 rw[hd]
 have hg:=Heap.get?_update_self (h:=s.heap) (fun o=>{o with data:=.cell v}) ho rfl
 exact wpAny_update ho (h _ ⟨_,hg,rfl⟩ (Heap.SameBut.update ..) ⟨_,_,ho,hg,rfl⟩)
theorem X3{M:Model}{A:Around}{E:Value→Shared→Prop}{s:Shared}{env:Env}{name:Str}{c:Addr}{Js:Option Value}{v:Value}{Q:Unit→Shared→Prop}(hk:env.scope.kind=.function)(hl:env.kindOf name=some .cell)
  (hc:env.cells.lookup name=some c) (hv:s.heap.IsCell c Js)
  (h:∀h',h'.IsCell c (some v)→Heap.SameBut c s.heap h'→(∃o o',s.heap.get? c=some o∧h'.get? c=some o'∧o'.cls=o.cls)→Q () {s with heap:=h'}):wpAny M A (storeName env name v) Q E s:=by
 unfold storeName
 simp only[hl,hk]
 exact bC (wpAny_cellOf hc (Y3 hv h))
section
variable{c:Cx}{g:FC}{n:Nat}{A:Around}{env:Env}{f:Fr}{ρ:List Addr}{σ:List MO}{s:Shared}{tb:Tb}
noncomputable def DA(c:Cx)(g:FC)(n:Nat)(t:Expr)(x:Fr→J→List MO→Out Unit):Prop:=
 ∀A env f ρ σ s v V,g0 A n→fW c g A env f ρ s.heap→SR c ρ σ s→cI c ρ s.heap v V→Den c A (fun _ _ _ (_:Unit)=>True) ρ s (assign t env V) (x f v σ)
noncomputable def put{α:Type}(l:List α):Nat→α→List α:=List.rec (motive:=fun Z=>Nat→α→List α) (fun Z Z=>[]) (fun x l ih i=>Nat.rec (motive:=fun Z=>α→List α) (fun v=>v::l) (fun j Z v=>x::ih j v) i) l
theorem lO{α:Type}:∀(l:List α) (i:Nat) (v:α),put l i v=l.set i v
 |[],_,_=>rfl
 |_::_,0,_=>rfl
 |x::l,i+1,v=>congrArg (x::·) (lO l i v)
def c_(k i:Nat)(f:Fr)(v:J)(σ:List MO):Out Unit:=tF σ f.fr fun k' l=>gd (Nat.beq k' k) (gd (Nat.blt i l.length) (ok () (put σ f.fr (.fr k (put l i (some v))))))
noncomputable def F4(m:MO):Bool:=@MO.casesOn (fun Z=>Bool) m (fun Z=>false) (fun Z=>false) (fun Z Z=>false) (fun Z=>false) (fun Z Z=>false) (fun Z=>true) (fun Z Z=>false) false false true (fun Z=>false) false
def lA(j:Nat)(f:Fr)(v:J)(σ:List MO):Out Unit:=ej (d7 f.cs j) fun i=>ej (d7 σ i) fun m=>gd (F4 m) (ok () (put σ i (.fg (some v))))
theorem H5{k i:Nat}{v:J}{r:Res Unit}{cG:List MO}(h:c_ k i f v σ=some (r,cG)):∃l,σ[f.fr]? =some (.fr k l)∧i<l.length∧r=.ok ()∧cG=put σ f.fr (.fr k (put l i (some v))):=
 (Ig h).elim fun k' y=>y.elim fun l y=>let z:=gK y.2;let w:=gK z.2;⟨l,aY z.1▸(il _ _).symm.trans y.1,Nat.blt_eq.mp w.1,iA w.2⟩
theorem PD{j:Nat}{v:J}{r:Res Unit}{cG:List MO}(h:lA j f v σ=some (r,cG)):∃i mo,f.cs[j]? =some i∧σ[i]? =some mo∧F4 mo=true∧r=.ok ()∧cG=σ.set i (.fg (some v)):=
 (eP h).elim fun i y=>(eP y.2).elim fun mo z=>let w:=gK z.2;⟨i,mo,(il _ _).symm.trans y.1,(il _ _).symm.trans z.1,w.1,(iA w.2).1,(iA w.2).2.trans (lO _ _ _)⟩
theorem SR.cellAt(sr:SR c ρ σ s){i:Nat}{mo:MO}(hs:σ[i]? =some mo)(hm:F4 mo=true):∃a V,ρ[i]? =some a∧s.heap.IsCell a V:=
 (sr.at hs).elim fun a y=>(@MO.casesOn (fun mo=>F4 mo=true→eQ c ρ s.heap a mo→∃V,s.heap.IsCell a V) mo (fun Z q Z=>cF q) (fun Z q Z=>cF q) (fun Z Z q Z=>cF q) (fun Z q Z=>cF q) (fun Z Z q Z=>cF q) (fun Z Z x=>x.elim fun V y=>⟨V,y.1⟩) (fun Z Z q Z=>cF q) (fun q Z=>cF q) (fun q Z=>cF q) (fun Z x=>x) (fun Z q Z=>cF q) (fun q Z=>cF q) hm y.2).elim fun V z=>⟨a,V,y.1,z⟩
theorem sJ{h:Heap}{a:Addr}{m:Str→Option Value}{o:Obj}(hn:h.Ns a m)(e:h.get? a=some o):nf o=true:=by
 obtain⟨o',e',q⟩:=AN hn
 rw[e]at e';cases e';exact q
theorem OA{h:Heap}{a:Addr}{m:Option Value}{o:Obj}(hn:h.IsCell a m)(e:h.get? a=some o):nf o=true:=by
 obtain⟨o',e',q⟩:=hn
 rw[e]at e';cases e';unfold nf;rw[q]
structure sX(g:FC)(env:Env)(f:Fr)(ρ:List Addr):Prop where
 scope:env.scope=g.scope
 kind:g.scope.kind=.function
 loc:ρ[f.fr]? =some env.locals
 cell:∀(j:Nat) (x:Str) (i:Nat),g.cn[j]? =some x→f.cs[j]? =some i→∃a,env.cells.lookup x=some a∧ρ[i]? =some a
theorem sX.mono{g:FC}{env:Env}{f:Fr}{ρ cC:List Addr}{h h':Heap}(x:sX g env f ρ)(e:Ext ρ h cC h'):sX g env f cC:=
 ⟨x.scope,x.kind,e.get x.loc,fun j y i h1 h2=>let⟨a,q1,q2⟩:=x.cell j y i h1 h2;⟨a,q1,e.get q2⟩⟩
theorem fW.l{h:Heap}(he:fW c g A env f ρ h):sX g env f ρ:=⟨he.scope,he.kind,he.loc,he.cell⟩
theorem PE{h h':Heap}{a:Addr}(hc:∃o o',h.get? a=some o∧h'.get? a=some o'∧o'.cls=o.cls)(hn:∀o o',h.get? a=some o→h'.get? a=some o'→nf o'=nf o):∃o',h'.get? a=some o'∧∀o,h.get? a=some o→o'.cls=o.cls∧nf o'=nf o:=
 hc.elim fun o y=>y.elim fun o' y=>⟨o',y.2.1,fun fY q=>aV (y.1.symm.trans q)▸⟨y.2.2,hn _ _ y.1 y.2.1⟩⟩
theorem II{x:Str}{i:Nat}{v:J}{V:Value}(he:sX g env f ρ)(sr:SR c ρ σ s)(rv:cI c ρ s.heap v V)(hi:(c.dE g.k)[i]? =some x)(hu:∀j,(c.dE g.k)[j]? =some x→j=i)(hk:g.scope.names.lookup x=some .local):
  Den c A (fun _ _ (_:Unit) (_:Unit)=>True) ρ s (storeName env x V) (c_ g.k i f v σ):=by
 refine⟨fun r cG hx Q E P=>?_⟩
 refine zz fun GG KK=>?_
 obtain⟨l,hs,gD,hr,rfl⟩:=H5 hx
 obtain⟨a,ha,m,ns,hl,hv⟩:=sr.at hs
 obtain rfl:=aV (ha.symm.trans he.loc)
 refine KK (HG (he.scope.symm▸he.kind) (show env.scope.names.lookup x=_ from he.scope.symm▸hk) ns fun h' m8 iD wq=>?_)
 refine(PE wq fun o o' e e'=>(sJ m8 e').trans (sJ ns e).symm).elim fun o' y=>?_
 have ext:Ext ρ s.heap ρ h':=Ext.turn (a0 ha) iD y.1 y.2
 refine P.ok () () ρ _ hr ext ?_ trivial
 rw[lO,lO]
 refine sr.turn ha iD y.1 y.2 ⟨_,m8,List.length_set.trans hl,fun j y p q1 q2=>?_⟩
 rcases Nat.decEq j i with hj|hj
 ·have hy:y≠x:=fun e=>hj (hu j (e▸q1))
  rw[if_neg hy]
  exact(hv j y p q1 ((List.getElem?_set_ne (Ne.symm hj)).symm.trans q2)).mono ext
 ·subst hj
  obtain rfl:=aV (hi.symm.trans q1)
  obtain rfl:=aV ((List.getElem?_set_self gD).symm.trans q2)
  rw[if_pos rfl]
  exact rv.mono ext
theorem Ru{x:Str}{j:Nat}{v:J}{V:Value}(he:sX g env f ρ)(sr:SR c ρ σ s)(rv:cI c ρ s.heap v V)(hj:g.cn[j]? =some x)(hk:g.scope.names.lookup x=some .cell):
  Den c A (fun _ _ (_:Unit) (_:Unit)=>True) ρ s (storeName env x V) (lA j f v σ):=by
 refine⟨fun r cG hx Q E P=>?_⟩
 refine zz fun GG KK=>?_
 obtain⟨i,mo,hi,hs,hm,hr,rfl⟩:=PD hx
 obtain⟨a,V0,ha,Vi⟩:=sr.cellAt hs hm
 obtain⟨a',q1,q2⟩:=he.cell j x i hj hi
 obtain rfl:=aV (ha.symm.trans q2)
 refine KK (X3 (he.scope.symm▸he.kind) (show env.scope.names.lookup x=_ from he.scope.symm▸hk) q1 Vi fun h' m8 iD wq=>?_)
 refine(PE wq fun o o' e e'=>(OA m8 e').trans (OA Vi e).symm).elim fun o' y=>?_
 have ext:Ext ρ s.heap ρ h':=Ext.turn (a0 ha) iD y.1 y.2
 exact P.ok () () ρ _ hr ext (sr.turn (t:=s.toks) ha iD y.1 y.2 ⟨some V,m8,rv.mono ext⟩) trivial
theorem DA.lv{x:Str}{i:Nat}{pos:Pos}(hi:(c.dE g.k)[i]? =some x)(hu:∀j,(c.dE g.k)[j]? =some x→j=i)(hk:g.scope.names.lookup x=some .local):DA c g n (.Name x pos) (c_ g.k i):=by
 intro A env f ρ σ s v V hr he sr rv
 rw[arm_assign_Name]
 exact⟨fun r cG hx Q E P=>bC (wpAny_standAt (wpAny_bindName ((II he.l sr rv hi hu hk).run _ _ hx Q E P)))⟩
theorem aO{x:Str}{j:Nat}{pos:Pos}(hj:g.cn[j]? =some x:=by kernel_rfl)(hk:g.scope.names.lookup x=some .cell:=by kernel_rfl):DA c g n (.Name x pos) (lA j):=by
 intro A env f ρ σ s v V hr he sr rv
 rw[arm_assign_Name]
 exact⟨fun r cG hx Q E P=>bC (wpAny_standAt (wpAny_bindName ((Ru he.l sr rv hj hk).run _ _ hx Q E P)))⟩
end
section
variable{c:Cx}{g:FC}{n:Nat}{A:Around}{env:Env}{f:Fr}{ρ:List Addr}{σ:List MO}{s:Shared}{tb:Tb}
noncomputable def S_{c:Cx}(_:List Addr)(_:Heap)(_:Unit)(_:Unit):Prop:=True
noncomputable def eZ(c:Cx)(g:FC)(n:Nat)(ts:Env→List (Value→Sem Unit))(x:Fr→List J→List MO→Out Unit):Prop:=
 ∀A env f ρ σ s l L,g0 A n→fW c g A env f ρ s.heap→SR c ρ σ s→dh c ρ s.heap l L→Den c A (fun _ _ _ (_:Unit)=>True) ρ s (assignInOrder (ts env) L) (x f l σ)
def jt(_:Fr)(_:List J)(σ:List MO):Out Unit:=ok () σ
def fL(x:Fr→J→List MO→Out Unit)(xs:Fr→List J→List MO→Out Unit)(f:Fr)(l:List J)(σ:List MO):Out Unit:=match l with
 |v::l=>dk (x f v σ) fun Z σ=>xs f l σ
 |[]=>none
theorem aN:eZ c g n (fun Z=>[]) jt:=by
 intro A env f ρ σ s l L _ _ sr rl
 refine⟨fun r cG hx Q E P=>?_⟩
 cases hx
 exact assignInOrder_nil (P.here sr trivial)
theorem aM{t:Expr}{ts:Env→List (Value→Sem Unit)}{x:Fr→J→List MO→Out Unit}{xs:Fr→List J→List MO→Out Unit}(h1:DA c g n t x)(h2:eZ c g n ts xs):eZ c g n (fun env=>assign t env::ts env) (fL x xs):=by
 intro A env f ρ σ s l L hr he sr rl
 refine⟨fun r cG hx Q E P=>?_⟩
 cases l with
 |nil=>cases hx
 |cons v l=>
  obtain⟨V,L',rfl,a,b⟩:=rl.gr
  refine assignInOrder_cons ((h1 A env f ρ σ s _ _ hr he sr a).step hx P fun Z Z cW σ₁ cD e1 cY Z dB P1=>?_)
  exact(h2 A env f cW σ₁ cD _ _ hr (he.mono e1) cY (b.mono e1)).last dB P1
def lj(m:Nat)(xs:Fr→List J→List MO→Out Unit)(f:Fr)(v:J)(σ:List MO):Out Unit:=vT v fun l=>gd (Nat.beq l.length m) (xs f l σ)
theorem NM{h h':Heap}(x:Heap.ExtBut h.objs.size h h'):∀b o,h.get? b=some o→h'.get? b=some o:=fun b o e=>x b o (bx (Heap.lt_size e)) e
theorem aP{ts:List Expr}{k m:Nat}{pos:Pos}{xs:Fr→List J→List MO→Out Unit}(h:eZ c g n (fun env=>(assignEach ts env).map (·.2)) xs)(hm:ts.length=m)(hs:∀env,(assignEach ts env).findIdx? (·.1)=none∧(assignEach ts env).length=ts.length):
  DA c g n (.Tuple ts k pos) (lj m xs):=
 fun A env f ρ σ s v V hr he sr rv=>Den.vT (T:=fun V=>assign (.Tuple ts k pos) env V) rv fun l a m' Vs e hn rl=>Den.gd fun hl=>⟨fun r cG hx Q E P=>
  wpAny_assign_Tuple hr.calm ⟨_,e,rfl,_,rfl⟩ (by rw[(hs env).2,List.size_toArray,rl.length,Nat.eq_of_beq_eq_true hl,hm]) (hs env).1 fun h' mG=>
   have k:=NM mG
   (h A env f ρ σ {s with heap:=h'} l Vs hr (he.mono (Ext.keeps k)) (sr.keeps (t:=s.toks) k) (rl.mono (Ext.keeps k))).last hx (P.ext (Ext.keeps k))⟩
def Jt(k:Str)(v:J)(l:List (Str×J)):List (Str×J):=@List.rec (Str×J) (fun Z=>List (Str×J)) [] (fun p Z ih=>@Bool.rec (fun Z=>Str×J) p (p.1,v) (sq p.1 k)::ih) l
def y9(l:List (Str×J))(k:Str)(v:J):List (Str×J):=@Bool.rec (fun Z=>List (Str×J)) (l++[(k,v)]) (Jt k v l) (lP l k)
theorem eI.any{h:Heap}(k:Str):∀{l:List (Str×J)} {L:List (Str×Value)},eI c ρ h l L→L.any (fun kv=>decide (kv.1=k))=lP l k
 |[],_,r=>r.i9▸rfl
 |(k',v)::l,_,r=>by
  refine zz fun GG KK=>?_
  obtain⟨V,L',rfl,a,b⟩:=r.gr
  refine KK ?_
  show _=@Bool.rec (fun Z=>Bool) (lP l k) true (sq k' k)
  rw[List.any_cons,eI.any k b,pe]
  cases decide (k'=k)<;>rfl
theorem eI.over{h:Heap}{v:J}{V:Value}(k:Str)(rv:cI c ρ h v V):∀{l:List (Str×J)} {L:List (Str×Value)},eI c ρ h l L→eI c ρ h (Jt k v l) (L.map fun kv=>if kv.1=k then(kv.1,V)else kv)
 |[],_,r=>r.i9▸.nil
 |(k',w)::l,_,r=>by
  refine zz fun GG KK=>?_
  obtain⟨W,L',rfl,a,b⟩:=r.gr
  refine KK ?_
  show eI c ρ h (@Bool.rec (fun Z=>Str×J) (k',w) (k',v) (sq k' k)::Jt k v l) ((if k'=k then(k',V)else(k',W))::_)
  rw[pe]
  by_cases hk:k'=k
  ·rw[decide_eq_true hk,if_pos hk];exact .cons rv (eI.over k rv b)
  ·rw[decide_eq_false hk,if_neg hk];exact .cons a (eI.over k rv b)
theorem eI.snoc{h:Heap}{v:J}{V:Value}(k:Str)(rv:cI c ρ h v V):∀{l:List (Str×J)} {L:List (Str×Value)},eI c ρ h l L→eI c ρ h (l++[(k,v)]) (L++[(k,V)])
 |[],_,r=>by obtain rfl:=r.i9;exact .cons rv .nil
 |(_,_)::l,_,r=>by obtain⟨_,_,rfl,a,b⟩:=r.gr;exact .cons a (eI.snoc k rv b)
theorem eI.put{h:Heap}{l:List (Str×J)}{L:List (Str×Value)}{v:J}{V:Value}(r:eI c ρ h l L)(k:Str)(rv:cI c ρ h v V):eI c ρ h (y9 l k v) (stored L k V):=by
 unfold y9 stored
 rw[r.any k]
 cases lP l k
 ·exact r.snoc k rv
 ·exact r.over k rv
theorem Y4(L:List (Str×Value))(k:Str)(V:Value)(y:Str):valueAt (stored L k V) y=if y=k then some V else valueAt L y:=by
 unfold stored
 by_cases h:(L.any fun kv=>decide (kv.1=k))=true
 ·rw[if_pos h]
  induction L with
  |nil=>simp at h
  |cons p L ih=>
   unfold valueAt at ih⊢
   rw[List.map_cons,List.find?_cons,List.find?_cons]
   by_cases hp:p.1=k
   ·by_cases hy:y=k
    ·simp[hp,hy]
    ·have:¬k=y:=fun e=>hy e.symm
     simp only[hp,if_true,this,decide_false,if_neg hy]
     have key:∀L':List (Str×Value),((L'.map fun kv=>if kv.1=k then(kv.1,V)else kv).find? fun kv=>decide (kv.1=y)).map (·.2)=(L'.find? fun kv=>decide (kv.1=y)).map (·.2):=by
      intro L'
      induction L' with
      |nil=>rfl
      |cons q L' Vj=>
       rw[List.map_cons,List.find?_cons,List.find?_cons]
       by_cases hq:q.1=k
       ·have hky:¬k=y:=fun e=>hy e.symm
        simp only[hq,if_true,hky,decide_false]
        exact Vj
       ·simp only[hq,if_false]
        by_cases Vk:q.1=y
        ·simp[Vk]
        ·simp only[Vk,decide_false];exact Vj
     exact key L
   ·have h':(L.any fun kv=>decide (kv.1=k))=true:=by simpa [hp]using h
    have:=ih h'
    simp only[hp,if_false]
    by_cases wt:p.1=y
    ·have hy:¬y=k:=fun e=>hp (wt.trans e)
     simp[wt,hy]
    ·simp only[wt,decide_false];exact this
 ·rw[if_neg h]
  have rJ:∀kv∈L,¬kv.1=k:=by
   intro kv Ko he
   exact h (List.any_eq_true.mpr ⟨kv,Ko,by simpa using he⟩)
  induction L with
  |nil=>
   unfold valueAt
   by_cases hy:y=k
   ·simp[hy]
   ·have:¬k=y:=fun e=>hy e.symm
    simp[this,hy]
  |cons p L ih=>
   have hp:¬p.1=k:=rJ p bo
   have:=ih (by intro q;exact h (by rw[List.any_cons,q,Bool.or_true])) fun kv Ko=>rJ kv (bk _ Ko)
   unfold valueAt at this⊢
   rw[List.cons_append,List.find?_cons,List.find?_cons]
   by_cases wt:p.1=y
   ·have hy:¬y=k:=fun e=>hp (wt.trans e)
    simp[wt,hy]
   ·simp only[wt,decide_false];exact this
theorem OV{y:Str}:∀{l:List (Str×J)},lP l y=true→y∈l.map (·.1)
 |p::l,h=>by
  have h:@Bool.rec (fun Z=>Bool) (lP l y) true (sq p.1 y)=true:=h
  rw[List.map_cons]
  cases q:sq p.1 y with
  |true=>rw[pe,decide_eq_true_eq]at q;rw[q];exact bo
  |false=>rw[q]at h;exact bk _ (OV h)
theorem aa5{l:List (Str×J)}{L:List (Str×Value)}{h:Heap}{m:Str→Option Value}(r:eI c ρ h l L)(hv:∀y,m y=valueAt L y):PySem.Within m (l.map (·.1)):=by
 intro y hy
 rw[hv y]at hy
 have hy:=Option.isSome_iff_ne_none.mpr hy
 rw[r.isSome y]at hy
 exact OV hy
end
section
variable{c:Cx}{g:FC}{n:Nat}{A:Around}{env:Env}{f:Fr}{ρ:List Addr}{σ:List MO}{s:Shared}{tb:Tb}
def OW(C:Nat)(name:Str)(o v:J)(σ:List MO):Out Unit:=vR o fun i=>tN σ i fun C' d=>gd (Nat.beq C' C) (tI σ d fun l=>gd (short l) (ok () (put σ d (.lS (y9 l name v)))))
theorem aoa{h:Heap}{a:Addr}{m:Str→Option Value}{o:Obj}(hn:h.Ns1 a m)(e:h.get? a=some o):nf o=true:=sJ hn.ns e
theorem ZR{C:Nat}{ci:CI}(Fc:jF c C ci){name:Str}(hf:ci.free name=true)(hB:typeLookup (.type "object") name=pure none){v:J}{V:Value}{a da d:Addr}{o:Obj}{l:List (Str×J)}{L:List (Str×Value)}{m:Str→Option Value}
  (sr:SR c ρ σ s) (rv:cI c ρ s.heap v V) (ha:a∈ρ) (e:s.heap.get? a=some o) (c1:o.cls=.ref C) (d1:o.dict=some da) (dt:∀k,o.data≠.cls k) (ne:da≠a) (hd:ρ[d]? =some da) (ns:s.heap.Ns1 da m) (ex:s.heap.ExactDictFk da) (hv:∀y,m y=valueAt L y) (rl:eI c ρ s.heap l L) (h5:l.length≤sizeLine)
  {Q:Unit→Shared→Prop} {E:Value→Shared→Prop} (P:iT c (fun _ _ _ (_:Unit)=>True) ρ s.heap (.ok ()) (put σ d (.lS (y9 l name v))) Q E):wpAny (model c.prog c.w) A (setAttr (.ref a) name V) Q E s:=by
 refine zz fun GG KK=>?_
 obtain⟨p,mN,N⟩:=Fc.now sr
 have hxC:a≠C:=fun z=>by
  obtain⟨_,_,_,rL,_⟩:=Fc.ex
  have:=sr.fresh a ha
  rw[z,rL]at this;cases this
 obtain⟨od,Vl,od2⟩:=AD ns
 obtain⟨x0,z1,z2,_⟩:=id ex
 rw[Vl]at z1;cases z1
 obtain⟨hh,gg,dr,tk,os⟩:=s
 refine KK ?_
 refine store_attrFk F.store_object N.obj N.ns (N.free _ Fc.quiet.2.2) (N.free _ hf) hB hxC ⟨o,e,c1,dt,.inr ⟨da,d1,ne,ns,ex⟩⟩ (fun h' pI I' k1' k2'=>?_) (aa5 rl hv) (by rw[List.length_map];exact h5)
 refine zz fun GG KK=>?_
 obtain⟨fY,g1,g2,g3,g4,g5⟩:=k2' o e
 have aeM:fY=o:=by
  have:=(g5 da d1).trans d1.symm
  cases o;cases fY
  dsimp only at g2 g3 g4 this
  rw[g2,g3,g4,this]
 rw[aeM]at g1
 obtain⟨o2,m1,m2,m3,m4⟩:=I'
 rw[g1]at m1;cases m1
 have⟨d',z,_,F5,ex'⟩:=m4.resolve_left fun q=>by rw[d1]at q;cases q.1
 rw[d1]at z;cases z
 obtain⟨uv,Ft,agd⟩:=AD F5
 obtain⟨x1,y1,y2,y3⟩:=ex'
 rw[Ft]at y1;cases y1
 have j7:∀fY,hh.get? da=some fY→uv.cls=fY.cls∧nf uv=nf fY:=fun fY q=>by
  rw[Vl]at q;cases q
  exact⟨y2.trans z2.symm,agd.trans od2.symm⟩
 have keep:∀b o,b≠da→hh.get? b=some o→h'.get? b=some o:=fun b ob hb q=>by
  by_cases F6:b=a
  ·subst F6;rw[e]at q;cases q;exact g1
  ·exact k1' b ob F6 (fun ke dx w1 w2=>by rw[e]at w1;cases w1;rw[d1]at w2;cases w2;exact hb) q
 have ext:Ext ρ hh ρ h':=Ext.uc (a0 hd) keep Ft j7
 rw[lO]at P
 refine KK ?_
 exact P.ok () () ρ _ rfl ext (sr.uc hd keep Ft j7 ⟨stored L name V,_,F5,⟨uv,Ft,y2,y3⟩,fun y=>by rw[Y4,hv y],(rl.mono ext).put name (rv.mono ext)⟩) trivial
theorem aau{C:Nat}{ci:CI}(F:jF c C ci){name:Str}(hf:ci.free name=true)(hB:typeLookup (.type "object") name=pure none){v ov:J}{V O:Value}(sr:SR c ρ σ s)(ro:cI c ρ s.heap ov O)(rv:cI c ρ s.heap v V):
  Den c A (fun _ _ _ (_:Unit)=>True) ρ s (setAttr O name V) (OW C name ov v σ):=
 Den.vR (T:=fun O=>setAttr O name V) ro fun i a e'=>Den.tN sr e' fun C' d da o h1 e c1 d1 dt ne hd=>Den.gd fun hC=>Den.tI sr hd fun l L m h4 ns ex hv rl=>Den.gd fun h5=>Den.now fun Q E P=>
  ZR F hf hB sr rv (a0 e') e (aY hC▸c1) d1 dt ne hd ns ex hv rl (qj h5) P
def f7(C:Nat)(name:Str)(x:Fr→List MO→Out J)(f:Fr)(v:J)(σ:List MO):Out Unit:=dk (x f σ) fun o σ=>OW C name o v σ
theorem DA.IX(T:qs c tb){C:Nat}{ci:CI}{e:Expr}{name:Str}{pos:Pos}{x:Fr→List MO→Out J}(h1:DE c g n e x)(hc:tb.cls C=some ci)(hf:ci.free name=true)(hB:typeLookup (.type "object") name=pure Option.none):
  DA c g n (.Attribute e name pos) (f7 C name x):=by
 intro A env f ρ σ s v V hr he sr rv
 refine⟨fun r cG hx Q E P=>?_⟩
 rw[arm_assign_Attribute]
 refine bC (wpAny_holding ((h1 A env f ρ σ s hr he sr).step hx P fun o O cW σ₁ cD e1 cY ro dB P1=>bC (wpAny_standAt (bC (wpAny_holding ?_)))))
 exact wpAny_mono ((aau (T.cls C ci hc) hf hB cY ro (rv.mono e1)).last dB P1) (fun Z Z h=>wpAny_release' h) fun Z Z x=>x
def D6(o i v:J)(σ:List MO):Out Unit:=vR o fun r=>@J.casesOn (fun Z=>Out Unit) i none (fun Z=>none) (fun k=>@Int.casesOn (fun Z=>Out Unit) k (fun k=>gd (Nat.ble k 1000000) (tL σ r fun l=>gd (Nat.blt k l.length) (ok () (put σ r (.lst (put l k v)))))) (fun Z=>none))
 (fun k=>tD σ r fun l=>gd (short l) (ok () (put σ r (.lr (y9 l k v))))) (fun Z=>none) (fun Z=>none) (fun Z=>none) (fun Z Z=>none) (fun Z=>none) (fun Z=>none) (fun Z=>none) (fun Z=>none) (fun Z=>none) none
theorem dh.set{h:Heap}{v:J}{V:Value}(rv:cI c ρ h v V):∀{l:List J} {L:List Value} (i:Nat),dh c ρ h l L→dh c ρ h (l.set i v) (L.set i V)
 |[],_,_,r=>by obtain rfl:=r.i9;exact .nil
 |_::_,_,0,r=>by obtain⟨_,_,rfl,a,b⟩:=r.gr;exact .cons rv b
 |_::_,_,i+1,r=>by obtain⟨_,_,rfl,a,b⟩:=r.gr;exact .cons a (dh.set rv i b)
theorem OB(Vs:List Value)(m:Nat)(f:Array Value→Array Value):∃m',Obj.mapSeq f (gm Vs m)=gm (f Vs.toArray).toList m':=⟨_,by unfold gm;simp[Obj.mapSeq];rfl⟩
theorem Zl{prog:Program}{w:World}{E:Value→Shared→Prop}{l:Addr}{Vs:List Value}{m:Nat}{k:Int}{t:Tok}{v:Value}{Q:Unit→Shared→Prop}(hg:s.heap.get? l=some (gm Vs m))
  (h0:0≤k) (Ta:k<2^63) (hn:k<Vs.length)
  (hQ:∀h' m',h'.get? l=some (gm (Vs.set k.toNat v) m')→Heap.SameBut l s.heap h'→Q () {s with heap:=h'}):
  wpAny (model prog w) A (setItem (.ref l) (.int k t) v) Q E s:=by
 have hl:s.heap.IsList l Vs.toArray:=⟨_,hg,rfl,_,rfl⟩
 unfold setItem
 try with_reducible refine wpAny_holding ?_
 first|refine bC (bD ?_)|skip
 refine bC (wpAny_sequenceKey hl.typeIs (by decide) ?_)
 refine bC (wpAny_callSpecial?_slot (name:=Str.ofString "__setitem__") hl.typeIs PySem.slot_list_setitem
  (wpAny_call_entry PySem.slot_list_setitem hl.typeIs PySem.entry_list_setitem ?_ (PySem.args_list_setitem _ _ _)))
 show wpAny _ _ (Builtin.List.listSubscript? (.int k t)>>=_) _ _ s
 refine bC (wpAny_listSubscript_int (fitsIndex_of h0 Ta) ?_)
 clear Ta
 obtain⟨j,rfl⟩:=Int.eq_ofNat_of_zero_le h0
 have hj:j<Vs.length:=by omega
 have mG:Vs.toArray[j]? =some Vs[j]:=by simp[hj]
 show wpAny _ _ ((seqItemAt l j>>=fun r=>pure (r.map (j,·)))>>=_) _ _ s
 refine bC (bC (wpAny_seqItemAt hg rfl (bD ?_)))
 rw[mG]
 show wpAny _ _ (setSeqItemAt l j v>>=_) _ _ s
 obtain⟨m',BR⟩:=OB Vs m (·.setIfInBounds j v)
 have zh:(s.heap.update l (Obj.mapSeq (·.setIfInBounds j v))).get? l=some (gm (Vs.set j v) m'):=by
  rw[Heap.get?_update_self _ hg (by rw[BR];rfl),BR]
  simp
 refine bC (wpAny_setSeqItemAt hg rfl ?_)
 first
  |exact bC (bD (bD ⟨.none,rfl,bD (hQ _ m' (by simpa using zh) (Heap.SameBut.update ..))⟩))
  |exact bD ⟨.none,rfl,bD (hQ _ m' (by simpa using zh) (Heap.SameBut.update ..))⟩
theorem eI.len{h:Heap}:∀{l:List (Str×J)} {L:List (Str×Value)},eI c ρ h l L→L.length=l.length
 |[],_,r=>by obtain rfl:=r.i9;rfl
 |_::_,_,r=>by obtain⟨_,_,rfl,_,b⟩:=r.gr;exact congrArg Nat.succ (eI.len b)
section
variable{a:Addr}{i:Nat}{v I:J}{V:Value}{k:Nat}{t:Tok}{R:List Addr→Heap→Unit→Unit→Prop}
theorem acv{l:List J}{Vs:List Value}{m:Nat}(sr:SR c ρ σ s)(ha:ρ[i]? =some a)(hg:s.heap.get? a=some (gm Vs m))(rl:dh c ρ s.heap l Vs)(rv:cI c ρ s.heap v V)(hk:k≤1000000):
  Den c A (fun _ _ _ (_:Unit)=>True) ρ s (setItem (.ref a) (.int (.ofNat k) t) V) (gd (Nat.blt k l.length) (ok () (put σ i (.lst (put l k v))))):=
 Den.gd fun gD=>Den.now fun Q E P=>by
  rw[Nat.blt_eq,←rl.length]at gD
  refine Zl hg (Int.natCast_nonneg k) (by show((k:Nat):Int)<_;omega) (Int.ofNat_lt.mpr gD) fun h' m' oS iD=>?_
  have j7:∀fY,s.heap.get? a=some fY→(gm (Vs.set k V) m').cls=fY.cls∧nf (gm (Vs.set k V) m')=nf fY:=fun fY q=>by
   rw[hg]at q;cases q;exact⟨rfl,rfl⟩
  have ext:=Ext.turn (a0 ha) iD oS j7
  rw[lO,lO]at P
  exact P.ok () () ρ _ rfl ext (sr.turn (t:=s.toks) ha iD oS j7 ⟨_,m',oS,dh.set (rv.mono ext) _ (rl.mono ext)⟩) trivial
theorem acw{x:Str}{l:List (Str×J)}{L:List (Str×Value)}(sr:SR c ρ σ s)(ha:ρ[i]? =some a)(hd:s.heap.DictOf (iS c) a L)(hm:a≠sysModules)(rl:eI c ρ s.heap l L)(rv:cI c ρ s.heap v V):
  Den c A (fun _ _ _ (_:Unit)=>True) ρ s (setItem (.ref a) (.str x t) V) (gd (short l) (ok () (put σ i (.lr (y9 l x v))))):=
 Den.gd fun wo=>Den.now fun Q E P=>by
  refine wpAny_setItem_pairs (BP c x _) hd (fun h' qy iD=>?_) (by rw[rl.len];exact qj wo)
  obtain⟨o,g1,q1⟩:=Ao hd
  obtain⟨o',wu,rM⟩:=Ao qy
  have hc:∀{h:Heap} {L:List (Str×Value)} {o:Obj},h.DictOf (iS c) a L→h.get? a=some o→o.cls=.type "dict":=fun hd g=>by
   obtain⟨_,_,_,e,ex,_⟩:=hd
   rw[g]at e;cases e;exact ex.1
  have j7:∀fY,s.heap.get? a=some fY→o'.cls=fY.cls∧nf o'=nf fY:=fun fY q=>by
   rw[g1]at q;cases q
   exact⟨(hc qy wu).trans (hc hd g1).symm,rM.trans q1.symm⟩
  have ext:=Ext.turn (a0 ha) iD wu j7
  rw[lO]at P
  exact P.ok () () ρ _ rfl ext (sr.turn ha iD wu j7 ⟨_,qy,hm,(rl.mono ext).put x (rv.mono ext)⟩) trivial
end
theorem aav{ov iv v:J}{O I V:Value}(sr:SR c ρ σ s)(ro:cI c ρ s.heap ov O)(ri:cI c ρ s.heap iv I)(rv:cI c ρ s.heap v V):Den c A (fun _ _ _ (_:Unit)=>True) ρ s (setItem O I V) (D6 ov iv v σ):=
 Den.vR (T:=fun O=>setItem O I V) ro fun i a e=>@J.casesOn (fun iv=>cI c ρ s.heap iv I→Den c A (fun _ _ _ (_:Unit)=>True) ρ s (setItem (.ref a) I V) (D6 (.loc i) iv v σ)) iv (fun Z=>Den.none) (fun Z Z=>Den.none)
  (fun k r=>let⟨t,e'⟩:=r.inv;e'▸@Int.casesOn (fun k=>Den c A (fun _ _ _ (_:Unit)=>True) ρ s (setItem (.ref a) (.int k t) V) (D6 (.loc i) (.int k) v σ)) k (fun k=>Den.gd fun hk=>Den.tL sr e fun l Vs m Z hg rl=>acv sr e hg rl rv (bw hk)) (fun Z=>Den.none))
  (fun x r=>let⟨t,e'⟩:=r.inv;e'▸Den.tD sr e fun l L Z hd hm rl=>acw sr e hd hm rl rv) (fun Z Z=>Den.none) (fun Z Z=>Den.none) (fun Z Z=>Den.none) (fun Z Z Z=>Den.none) (fun Z Z=>Den.none) (fun Z Z=>Den.none) (fun Z Z=>Den.none) (fun Z Z=>Den.none) (fun Z Z=>Den.none) (fun Z=>Den.none) ri
def qp(x y:Fr→List MO→Out J)(f:Fr)(v:J)(σ:List MO):Out Unit:=dk (x f σ) fun o σ=>dk (y f σ) fun i σ=>D6 o i v σ
theorem DA.itemF{e i:Expr}{pos:Pos}{x y:Fr→List MO→Out J}(h1:DE c g n e x)(h2:DE c g n i y):DA c g n (.Subscript e i pos) (qp x y):=by
 intro A env f ρ σ s v V hr he sr rv
 refine⟨fun r cG hx Q E P=>?_⟩
 rw[arm_assign_Subscript]
 refine bC (wpAny_holding ((h1 A env f ρ σ s hr he sr).step hx P fun o O cW σ₁ cD e1 cY ro dB P1=>?_))
 refine bC (wpAny_holding ((h2 A env f cW σ₁ cD hr (he.mono e1) cY).step dB P1 fun iv I ρ₂ fU fu e2 fh ri fC P2=>?_))
 refine bC (wpAny_standAt (bC (wpAny_holding ?_)))
 exact wpAny_mono ((aav fh (ro.mono e2) ri ((rv.mono e1).mono e2)).last fC P2) (fun Z Z h=>wpAny_release' h) fun Z Z x=>x
end
structure kB(c:Cx)(ρ:List Addr)(h h':Heap):Prop where
 ob:∀b o,h.get? b=some o→∃o',h'.get? b=some o'∧o'.cls=o.cls∧o'.dict=o.dict∧nf o'=nf o∧(j4 o=true→o'.data=o.data)∧(mC o=true∨j4 o=false∨o'=o)
 old:∀b o,c.h0.get? b=some o→h'.get? b=h.get? b
section
variable{c:Cx}{g:FC}{n:Nat}{A:Around}{env:Env}{f:Fr}{ρ:List Addr}{σ:List MO}{s:Shared}{tb:Tb}
theorem kB.ext{h h':Heap}(x:kB c ρ h h'):Ext ρ h ρ h':=
 ⟨⟨[],by simp,fun Z ha=>nomatch ha⟩,fun b o e hb=>by
  obtain⟨o',e',h1,h2,h3,h4,h5⟩:=x.ob b o e
  refine⟨o',e',h1,h2,fun q=>?_,h3,h4⟩
  rcases h5 with z|z|z
  ·rw[RZ z]at q;cases q
  ·rw[Rq z]at q;cases q
  ·exact z,fun b o e=>let⟨o',e',h1,_,h3,_⟩:=x.ob b o e;⟨o',e',h1,h3⟩⟩
theorem kB.trans{h gL jR:Heap}(x:kB c ρ h gL)(y:kB c ρ gL jR):kB c ρ h jR:=
 ⟨fun b o e=>by
  obtain⟨o1,e1,a1,a2,a3,a4,a5⟩:=x.ob b o e
  obtain⟨o2,e2,b1,b2,b3,b4,b5⟩:=y.ob b o1 e1
  refine⟨o2,e2,b1.trans a1,b2.trans a2,b3.trans a3,fun q=>?_,?_⟩
  ·have h1:=a4 q
   have:j4 o1=true:=by rw[OT a1 h1];exact q
   exact(b4 this).trans h1
  ·rcases a5 with z|z|z
   ·exact .inl z
   ·exact .inr (.inl z)
   ·subst z
    exact b5,fun b o e=>(y.old b o e).trans (x.old b o e)⟩
theorem kB.keeps{h h':Heap}(k:∀b o,h.get? b=some o→h'.get? b=some o)(z:∀b o,c.h0.get? b=some o→∃o',h.get? b=some o'):kB c ρ h h':=
 ⟨fun b o e=>⟨o,k b o e,rfl,rfl,rfl,fun Z=>rfl,.inr (.inr rfl)⟩,fun b o e=>let⟨o',e'⟩:=z b o e;(k b o' e').trans e'.symm⟩
theorem kB.sm{h h':Heap}(x:kB c ρ h h')(a:Addr):oQ a h h':=fun o e=>
 let⟨o',e',h1,h2,h3,h4,h5⟩:=x.ob a o e
 ⟨o',e',h1,h2,fun q=>h5.elim (fun z=>cF ((RZ z).symm.trans q)) fun z=>z.elim (fun z=>cF ((Rq z).symm.trans q)) id,h3,h4⟩
theorem eQ.soft{h h':Heap}{a:Addr}{mo:MO}(x:kB c ρ h h')(m:eQ c ρ h a mo):eQ c ρ h' a mo:=m.map x.ext.weak.tr (x.sm a) (.inl trivial)
theorem SR.soft(sr:SR c ρ σ s){h':Heap}{t:Nat}(x:kB c ρ s.heap h'):SR c ρ σ {s with heap:=h',toks:=t}:=
 ⟨sr.gens,sr.os,sr.len,sr.nodup,sr.fresh,Ax sr.old x.old,fun a ha=>let⟨q1,qn,o,q2⟩:=sr.d9 a ha;let⟨o',q3,_⟩:=x.ob a o q2;⟨q1,qn,o',q3⟩,fun i a mo e1 e2=>(sr.obj i a mo e1 e2).soft x⟩
theorem kB.record{h:Heap}{e:Addr}{o:Obj}{vs:Array Value}{i:Nat}{v:Value}(he:h.get? e=some o)(hd:o.data=.fields vs)(hi:j4 o=false)(h0:c.h0.get? e=none):
  kB c ρ h (h.update e (Obj.mapFields (·.setIfInBounds i v)))∧(h.update e (Obj.mapFields (·.setIfInBounds i v))).get? e=some (o.mapFields (·.setIfInBounds i v)):=by
 have qy:=Obj.data_mapFields hd (·.setIfInBounds i v)
 have hg:=Heap.get?_update_self (Obj.mapFields (·.setIfInBounds i v)) he (Obj.isFreed_of_fields qy)
 refine⟨⟨fun b ob q=>?_,fun b ob q=>?_⟩,hg⟩
 ·by_cases hb:b=e
  ·subst hb
   rw[he]at q;cases q
   refine⟨_,hg,Obj.cls_mapFields _ _,?_,?_,(fun z=>by rw[hi]at z;cases z),.inr (.inl hi)⟩
   ·obtain⟨c0,d0,t0,s0⟩:=o
    simp only at hd
    subst hd
    rfl
   ·unfold nf
    rw[qy,hd]
  ·exact⟨ob,(Heap.get?_update_other _ _ (Ne.symm hb)).trans q,rfl,rfl,rfl,fun Z=>rfl,.inr (.inr rfl)⟩
 ·have hb:b≠e:=fun z=>by rw[z,h0]at q;cases q
  exact Heap.get?_update_other _ _ (Ne.symm hb)
theorem Frs.fun(x:Frs c A s.heap):∃fs,A.frames=some fs∧s.heap.FunFrames c.h0 fs∧∀b∈fs.filterMap (·.frame),c.h0.get? b=none∧∃o,s.heap.get? b=some o∧o.cls=.type "frame"∧nf o=true:=by
 obtain⟨fs,h1,h2⟩:=x.ex
 refine⟨fs,h1,?_,?_⟩
 ·clear h1
  induction fs with
  |nil=>trivial
  |cons e fs ih=>
   obtain⟨k,L,o,l1,l2,l3,l4,l5⟩:=h2 e bo
   refine⟨k,⟨L,o,l1,l2,l3,fun vs q=>?_⟩,ih fun v hv=>h2 v (bk _ hv)⟩
   unfold nf at l5
   rw[q]at l5;cases l5
 ·intro b hb
  refine zz fun GG KK=>?_
  obtain⟨e,he,hf⟩:=List.mem_filterMap.mp hb
  obtain⟨k,L,o,l1,l2,l3,l4,l5⟩:=h2 e he
  rw[l1]at hf;cases hf
  refine KK ?_
  exact⟨l2,o,l3,l4,l5⟩
theorem kB.slots{fs:List Env}{h h':Heap}(hs:Heap.SlotsOnly (fs.filterMap (·.frame)) h h')(hf:∀b∈fs.filterMap (·.frame),c.h0.get? b=none∧∃o,h.get? b=some o∧o.cls=.type "frame"∧nf o=true):kB c ρ h h':=by
 refine⟨fun b o e=>?_,fun b o e=>hs.2.1 b fun hb=>?_⟩
 ·refine zz fun GG KK=>?_
  by_cases hb:b∈fs.filterMap (·.frame)
  ·obtain⟨sl,e'⟩:=hs.2.2 b o e
   obtain⟨h1,o2,h2,h3,h4⟩:=hf b hb
   rw[e]at h2;cases h2
   refine KK ?_
   exact⟨_,e',rfl,rfl,rfl,fun Z=>rfl,.inl (by unfold mC;rw[h3];decide)⟩
  ·refine KK ?_
   exact⟨o,(hs.2.1 b hb).trans e,rfl,rfl,rfl,fun Z=>rfl,.inr (.inr rfl)⟩
 ·rw[(hf b hb).1]at e;cases e
theorem adv{oe:Obj}{vs:Array Value}{C:Addr}(hc:oe.cls=.ref C)(hd:oe.data=.fields vs):j4 oe=false:=by
 unfold j4;rw[hd,hc]
theorem R2{o:Obj}{vs:Array Value}(hc:o.cls=.type "traceback")(hd:o.data=.fields vs):j4 o=false:=by
 unfold j4;rw[hd,hc];rfl
theorem Er{h:Heap}{k:Int}{e:Addr}(r:cI c ρ h (.exc k) (.ref e)):∃oe,h.get? e=some oe∧oe.cls=.ref c.cT∧c.h0.get? e=none∧dY c ρ e:=by
 cases r with
 |exc e1 c1 d1 f1 ed nd cd jb hs n1 n2 z1 z2=>exact⟨_,e1,c1,z1,n1⟩
theorem aaw{M:Model}{E:Value→Shared→Prop}{base:Heap}{env e0:Env}{outer:List Env}{L:Addr}{Q:Value→Shared→Prop}(ju:A.frames=some (e0::outer))(hl:s.heap.FunFrames base (e0::outer))
  (hf:env.frame=some L) (qz:e0.frame=some L) (h:∀h',Heap.SlotsOnly ((e0::outer).filterMap (·.frame)) s.heap h'→Q (.ref L) {s with heap:=h'}):wpAny M A (frameOf env) Q E s:=by
 unfold PySem.frameOf
 refine bC (wpAny_frameEnvs ju ?_)
 have hdw:((e0::outer).dropWhile fun x=>x.frame !=env.frame)=e0::outer:=by simp[List.dropWhile,hf,qz]
 rw[hdw]
 unfold frameObject
 refine bC (bC (wpAny_readyFrames_fun hl fun gL nH=>bD ?_))
 rw[qz]
 exact bD (h gL nH)
theorem Oa{L:Addr}{head:Value}{acx:Bool}{k:Int}{e:Addr}{Q:Unit→Shared→Prop}{E:Value→Shared→Prop}(he:fW c g A env f ρ s.heap)(hL:env.frame=some L)(sr:SR c ρ σ s)(rv:cI c ρ s.heap (.exc k) (.ref e))
  (ht:∃oe vs,s.heap.get? e=some oe∧oe.data=.fields vs∧1<vs.size)
  (h:∀h',Ext ρ s.heap ρ h'→SR c ρ σ {s with heap:=h'}→mX c ρ h' k (.ref e)→Q () {s with heap:=h'}):
  wpAny (model c.prog c.w) A (do let a←frameOf env;let pl←entryPlaceOf L acx;let b←EntryCells.newEntry head a .none (rawInt L) .none pl;setField (.ref e) 1 b) Q E s:=by
 refine zz fun GG KK=>?_
 obtain⟨oe,vs,g1,g2,g3⟩:=ht
 obtain⟨oe',g4,g5,g6,_⟩:=Er rv
 rw[g1]at g4;cases g4
 obtain⟨fs,BS,hff,px⟩:=he.nM.fun
 obtain⟨L',e0,outer,hf,hA,qz⟩:=he.here
 rw[hL]at hf;cases hf
 rw[hA]at BS;cases BS
 refine KK ?_
 refine bC (aaw hA hff hL qz fun gL nH=>?_)
 have s1:kB c ρ s.heap gL:=kB.slots nH px
 have cY:=sr.soft (t:=s.toks) s1
 refine bC (wpAny_entryPlaceOf fun pl BU=>?_)
 unfold EntryCells.newEntry newFields
 refine bC (wpAny_newObj_type ?_ (BU.sizeOk5 _ _ _ _ _))
 have age:e∉(e0::outer).filterMap (·.frame):=fun hm=>by
  obtain⟨_,o2,z1,z2,_⟩:=px e hm
  rw[g1]at z1;cases z1
  rw[g5]at z2;cases z2
 have y_:gL.get? e=some oe:=(nH.2.1 e age).trans g1
 have A7:=aX (h:=gL) {cls:=.type "traceback",dict:=none,data:=.fields ([head,.ref L,.none,rawInt L,.none]++(if pl.isEmpty then List.replicate 6 Value.none else pl)).toArray} y_
 refine wpAny_setField A7 g2 g3 ?_
 have s2:kB c ρ gL (gL.push {cls:=.type "traceback",dict:=none,data:=.fields ([head,.ref L,.none,rawInt L,.none]++(if pl.isEmpty then List.replicate 6 Value.none else pl)).toArray}):=kB.keeps (fun Z Z q=>aX _ q) fun b o q=>cY.old.there b o q
 obtain⟨s3,g8⟩:=kB.record (c:=c) (ρ:=ρ) (i:=1) (v:=.ref gL.objs.size) A7 g2 (adv g5 g2) g6
 have Ju:=(s1.trans s2).trans s3
 have rO:gL.objs.size≠e:=Nat.ne_of_gt (Heap.lt_size y_)
 have hT:=(Heap.get?_update_other (gL.push {cls:=.type "traceback",dict:=none,data:=.fields ([head,.ref L,.none,rawInt L,.none]++(if pl.isEmpty then List.replicate 6 Value.none else pl)).toArray})
  (Obj.mapFields (·.setIfInBounds 1 (Value.ref gL.objs.size))) (Ne.symm rO)).trans (bf gL rfl)
 refine h _ Ju.ext (sr.soft (t:=s.toks) Ju) ⟨rv.mono Ju.ext,e,rfl,_,_,g8,Obj.data_mapFields g2 _,by simpa using g3,.inr ⟨gL.objs.size,_,_,by simp[g3],rO,hT,rfl,rfl,?_,lM cY (kS _),cY.t5⟩⟩
 simp only[List.size_toArray,List.length_append,List.length_cons,List.length_nil]
 omega
theorem Es{k:Int}{X:Value}{Q:Unit→Shared→Prop}{E:Value→Shared→Prop}(he:fW c g A env f ρ s.heap)(sr:SR c ρ σ s)(fl:ly c ρ s.heap k X)
  (h:∀h',Ext ρ s.heap ρ h'→SR c ρ σ {s with heap:=h'}→mX c ρ h' k X→Q () {s with heap:=h'}):
  wpAny (model c.prog c.w) A (noteFrame X env) Q E s:=by
 refine zz fun GG KK=>?_
 obtain⟨rv,e,rfl,oe,vs,g1,g2,g3,g4⟩:=fl
 obtain⟨L,e0,outer,hf,hA,qz⟩:=he.here
 refine KK ?_
 unfold noteFrame
 simp only[hf]
 refine zz fun GG KK=>?_
 rcases g4 with⟨_,g4⟩|⟨T,oT,ts,g4,rO,hT,cT,dT,rP,zD,wx⟩
 ·refine KK ?_
  refine bC (wpAny_field g1 g2 g4 ?_)
  rw[if_neg (by decide)]
  exact Oa he hf sr rv ⟨oe,vs,g1,g2,g3⟩ h
 ·refine KK ?_
  refine bC (wpAny_field g1 g2 g4 ?_)
  rw[if_pos (show(Value.ref T !=Value.none)=true from by simp)]
  obtain⟨x3,m6⟩:∃x,ts[3]? =some x:=⟨ts[3],by simp[rP]⟩
  refine bC (wpAny_field hT dT m6 ?_)
  by_cases hq:(x3==rawInt L)=true
  ·rw[if_pos hq]
   refine bD ?_
   have:=h s.heap (Ext.refl _ _) sr ⟨rv,e,rfl,oe,vs,g1,g2,g3,.inr ⟨T,oT,ts,g4,rO,hT,cT,dT,rP,zD,wx⟩⟩
   exact this
  ·rw[if_neg hq]
   refine bC (wpAny_setField hT dT rP ?_)
   obtain⟨s3,g8⟩:=kB.record (c:=c) (ρ:=ρ) (i:=3) (v:=.none) hT dT (R2 cT dT) wx
   have hJ:=sr.soft (t:=s.toks) s3
   have ge:(s.heap.update T (Obj.mapFields (·.setIfInBounds 3 Value.none))).get? e=some oe:=(Heap.get?_update_other _ _ rO).trans g1
   exact Oa (s:={s with heap:=s.heap.update T (Obj.mapFields (·.setIfInBounds 3 Value.none))}) (he.mono s3.ext) hf hJ (rv.mono s3.ext) ⟨oe,vs,ge,g2,g3⟩ fun h' e' fM fl'=>h h' (s3.ext.trans e') fM fl'
theorem As{k:Int}{X:Value}{fr:Option Addr}{Q:Unit→Shared→Prop}{E:Value→Shared→Prop}(sr:SR c ρ σ s)(fl:mX c ρ s.heap k X)
  (h:∀h',Ext ρ s.heap ρ h'→SR c ρ σ {s with heap:=h'}→mX c ρ h' k X→Q () {s with heap:=h'}):
  wpAny (model c.prog c.w) A (setFlight X fr) Q E s:=by
 refine zz fun GG KK=>?_
 obtain⟨rv,e,rfl,oe,vs,g1,g2,g3,g4⟩:=fl
 rcases g4 with⟨q,_⟩|⟨T,oT,ts,g4,rO,hT,cT,dT,rP,zD,wx⟩
 ·cases q
 ·refine KK ?_
  unfold setFlight
  refine bC (wpAny_field g1 g2 g4 ?_)
  rw[if_pos (show(Value.ref T !=Value.none)=true from by simp)]
  refine wpAny_setField hT dT rP ?_
  obtain⟨s3,g8⟩:=kB.record (c:=c) (ρ:=ρ) (i:=3) (v:=fr.elim Value.none fun f=>rawInt f) hT dT (R2 cT dT) wx
  have ge:(s.heap.update T (Obj.mapFields (·.setIfInBounds 3 (fr.elim Value.none fun f=>rawInt f)))).get? e=some oe:=(Heap.get?_update_other _ _ rO).trans g1
  refine h _ s3.ext (sr.soft (t:=s.toks) s3) ⟨rv.mono s3.ext,e,rfl,oe,vs,ge,g2,g3,.inr ⟨T,_,_,g4,rO,g8,(Obj.cls_mapFields _ _).trans cT,Obj.data_mapFields dT _,by simpa using rP,zD,wx⟩⟩
theorem mX.F7{h:Heap}{k:Int}{X:Value}(x:mX c ρ h k X):ly c ρ h k X:=by
 refine zz fun GG KK=>?_
 obtain⟨rv,e,rfl,oe,vs,g1,g2,g3,g4⟩:=x
 refine KK ?_
 exact⟨rv,e,rfl,oe,vs,g1,g2,g3,.inr (g4.resolve_left fun q=>by cases q.1)⟩
theorem OC{k:Int}{X:Value}{Q:Unit→Shared→Prop}{E:Value→Shared→Prop}(he:fW c g A env f ρ s.heap)(sr:SR c ρ σ s)(fl:ly c ρ s.heap k X)
  (h:∀h',Ext ρ s.heap ρ h'→SR c ρ σ {s with heap:=h'}→mX c ρ h' k X→Q () {s with heap:=h'}):
  wpAny (model c.prog c.w) A (leaving env X) Q E s:=by
 unfold leaving
 exact bC (Es he sr fl fun h1 e1 cY wy=>As (s:={s with heap:=h1}) cY wy fun h2 e2 fh BV=>h h2 (e1.trans e2) fh BV)
theorem acy{k:Int}{X:Value}{E:Value→Shared→Prop}(sr:SR c ρ σ s)(fl:mX c ρ s.heap k X)
  (h:∀h',Ext ρ s.heap ρ h'→SR c ρ σ {s with heap:=h'}→mX c ρ h' k X→E X {s with heap:=h'}):cameBackBy (model c.prog c.w) A env E X s:=by
 unfold cameBackBy
 refine zz fun GG KK=>?_
 obtain⟨rv,e,rfl,oe,vs,g1,g2,g3,g4⟩:=id fl
 rcases g4 with⟨q,_⟩|⟨T,oT,ts,g4,_⟩
 ·cases q
 ·refine KK ?_
  refine bC (wpAny_field g1 g2 g4 ?_)
  rw[if_neg (by simp)]
  exact As sr fl h
end
inductive MF where|next|ret (v:J)
noncomputable def l9(c:Cx)(ρ:List Addr)(h:Heap)(m:MF)(f:Flow):Prop:=@MF.casesOn (fun Z=>Prop) m (@Flow.casesOn (fun Z=>Prop) f True False False fun Z=>False) fun v=>@Flow.casesOn (fun Z=>Prop) f False False False fun V=>cI c ρ h v V
def rn(m:MF)(x:Out MF)(σ:List MO):Out MF:=@MF.casesOn (fun Z=>Out MF) m x fun v=>some (.ok (.ret v),σ)
inductive zE(c:Cx)(ρ:List Addr)(h:Heap)(x:Out MF)(σ:List MO)(y:Option (Res MF×List MO)):Flow→Prop
 |next:x=y→zE c ρ h x σ y .next
 |ret {v:J} {V:Value}:some (Res.ok (MF.ret v),σ)=y→cI c ρ h v V→zE c ρ h x σ y (.ret V)
theorem l9.go{c:Cx}{ρ:List Addr}{h:Heap}{m:MF}{F:Flow}{x:Out MF}{σ:List MO}{y:Option (Res MF×List MO)}:l9 c ρ h m F→rn m x σ=y→zE c ρ h x σ y F:=
 @MF.casesOn (fun m=>l9 c ρ h m F→rn m x σ=y→zE c ρ h x σ y F) m
  (@Flow.casesOn (fun F=>l9 c ρ h .next F→x=y→zE c ρ h x σ y F) F (fun Z e=>.next e) (fun f=>f.elim) (fun f=>f.elim) (fun Z f=>f.elim))
  fun v=>@Flow.casesOn (fun F=>l9 c ρ h (.ret v) F→some (Res.ok (MF.ret v),σ)=y→zE c ρ h x σ y F) F (fun f=>f.elim) (fun f=>f.elim) (fun f=>f.elim) (fun V f e=>.ret e f)
def DS(c:Cx)(g:FC)(n:Nat)(iE:List Stmt)(x:Fr→List MO→Out MF):Prop:=
 ∀A env f ρ σ s,g0 A n→fW c g A env f ρ s.heap→SR c ρ σ s→Den c A (l9 c) ρ s (execs iE env) (x f σ)
def D1(c:Cx)(g:FC)(n:Nat)(st:Stmt)(x:Fr→List MO→Out MF):Prop:=
 ∀A env f ρ σ s,g0 A n→fW c g A env f ρ s.heap→SR c ρ σ s→Den c A (l9 c) ρ s (exec st env) (x f σ)
def cJ(_:Fr)(σ:List MO):Out MF:=ok .next σ
def ct(x y:Fr→List MO→Out MF)(f:Fr)(σ:List MO):Out MF:=dk (x f σ) fun m σ=>rn m (y f σ) σ
def dG(x:Fr→List MO→Out J)(f:Fr)(σ:List MO):Out MF:=dk (x f σ) fun v σ=>ok (.ret v) σ
def sY(x:Fr→List MO→Out J)(f:Fr)(σ:List MO):Out MF:=dk (x f σ) fun Z σ=>ok .next σ
def dc(x:Fr→List MO→Out J)(t:Fr→J→List MO→Out Unit)(f:Fr)(σ:List MO):Out MF:=dk (x f σ) fun v σ=>dk (t f v σ) fun Z σ=>ok .next σ
noncomputable def AO(t:Fr→List MO→Out Bool)(b:Fr→List MO→Out MF):Nat→Fr→List MO→Out MF
 |0,_,_=>none
 |m+1,f,σ=>dk (t f σ) fun q σ=>@Bool.casesOn (fun Z=>Out MF) q (ok .next σ) (dk (b f σ) fun r σ=>rn r (AO t b m f σ) σ)
section
variable{c:Cx}{g:FC}{n:Nat}{A:Around}{env:Env}{f:Fr}{ρ:List Addr}{σ:List MO}{s:Shared}{tb:Tb}
theorem ah:DS c g n [] cJ:=fun A env f ρ σ s Z Z sr=>⟨fun r cG hx Q E P=>wpAny_execs_nil (P.kA hx sr trivial)⟩
theorem ag{st:Stmt}{iE:List Stmt}{x y:Fr→List MO→Out MF}(h1:D1 c g n st x)(h2:DS c g n iE y):DS c g n (st::iE) (ct x y):=by
 refine fun A env f ρ σ s hr he sr=>⟨fun r cG hx Q E P=>wpAny_execs_cons ((h1 A env f ρ σ s hr he sr).step hx P fun m F cW σ₁ cD e1 cY rf dB P1=>?_)⟩
 cases rf.go dB with
 |next e=>exact(h2 A env f cW σ₁ cD hr (he.mono e1) cY).last e P1
 |ret e rv=>exact P1.kA e cY rv
theorem aw{e:Expr}{pos:Pos}{x:Fr→List MO→Out J}(h:DE c g n e x):D1 c g n (.Return (some e) pos) (dG x):=fun A env f ρ σ s hr he sr=>⟨fun r cG hx Q E P=>
 wpAny_Return_some ((h A env f ρ σ s hr he sr).step hx P fun v V cW σ₁ cD e1 cY rv dB P1=>P1.kA (V:=Flow.ret V) dB cY rv)⟩
def aoF(t:Fr→List MO→Out Bool)(x y:Fr→List MO→Out MF)(f:Fr)(σ:List MO):Out MF:=dR t x y f σ
theorem ay{t:Expr}{a b:List Stmt}{pos:Pos}{xt:Fr→List MO→Out Bool}{x y:Fr→List MO→Out MF}(ht:DT c g n t xt)(h1:DS c g n a x)(h2:DS c g n b y):D1 c g n (.If t a b pos) (dR xt x y):=by
 refine fun A env f ρ σ s hr he sr=>⟨fun r cG hx Q E P=>wpAny_If ((ht A env f ρ σ s hr he sr).step hx P fun q B cW σ₁ cD e1 cY rb dB P1=>?_)⟩
 cases rb
 cases q with
 |true=>exact(h1 A env f cW σ₁ cD hr (he.mono e1) cY).last dB P1
 |false=>exact(h2 A env f cW σ₁ cD hr (he.mono e1) cY).last dB P1
noncomputable abbrev vu(e:Expr):Prop:=swapsWith e=fun Z Z Z=>pure false
theorem MI{e:Expr}(h:vu e)(t:Option Expr)(l:Nat)(env:Env):swapsWith e t l env=pure false:=congrFun (congrFun (congrFun h t) l) env
theorem CV{e:Expr}(h:vu e)(t:Expr)(l:Nat)(env:Env):swapsWithSole [t] e l env=pure false:=MI h _ _ _
theorem fW.interactive(he:fW c g A env f ρ s.heap):interactive env=false:=by
 unfold PySem.interactive
 rw[he.scope,he.kind]
 rfl
theorem D1.exp{e:Expr}{pos:Pos}{x:Fr→List MO→Out J}(h:DE c g n e x)(hc:vu e:=by kernel_rfl):D1 c g n (.Expr e pos) (sY x):=fun A env f ρ σ s hr he sr=>⟨fun r cG hx Q E P=>
 wpAny_Expr_any ((h A env f ρ σ s hr he sr).step hx P fun v V cW σ₁ cD e1 cY rv dB P1=>P1.kA dB cY trivial) he.interactive (MI hc _ _ _)⟩
theorem D1.asg{t e:Expr}{pos:Pos}{x:Fr→List MO→Out J}{y:Fr→J→List MO→Out Unit}(h1:DE c g n e x)(h2:DA c g n t y)(hs:∀env:Env,env.scope=g.scope→swapsWithSole [t] e pos.line env=pure false)
  (hw:∀env:Env,env.scope=g.scope→swappedStores [t] e env=pure none) (hu:∀env,(assignEach [t] env).map (·.2)=[assign t env]):D1 c g n (.Assign [t] e pos) (dc x y):=by
 refine fun A env f ρ σ s hr he sr=>⟨fun r cG hx Q E P=>wpAny_Assign_stores ((h1 A env f ρ σ s hr he sr).step hx P fun v V cW σ₁ cD e1 cY rv dB P1=>?_) (hs env he.scope) (hw env he.scope)⟩
 rw[hu env]
 show wpAny _ A (assign t env V) _ _ _
 exact(h2 A env f cW σ₁ cD v V hr (he.mono e1) cY rv).step dB P1 fun Z Z ρ₂ fU fu e2 fh Z fC P2=>P2.kA fC fh trivial
theorem iT.own{α β:Type}{Rel:List Addr→Heap→β→α→Prop}{r:Res β}{cG:List MO}{Q:α→Shared→Prop}{E:Value→Shared→Prop}{h:Heap}(P:iT c Rel ρ h r cG Q E)(he:fW c g A env f ρ h):
  iT c Rel ρ h r cG Q (notedBy (model c.prog c.w) A env fun X s'=>cameBackBy (model c.prog c.w) A env E X s'):=
 ⟨P.ok,fun k X cC s' hr e1 cY fl=>Es (he.mono e1) cY fl fun h2 e2 fh BV=>acy (s:={s' with heap:=h2}) fh BV fun h3 e3 hJ Kp=>P.fo k X cC _ hr ((e1.trans e2).trans e3) hJ Kp.F7⟩
theorem D1.Tc{t:Expr}{b:List Stmt}{pos:Pos}{xt:Fr→List MO→Out Bool}{x:Fr→List MO→Out MF}(m:Nat)(ht:DT c g n t xt)(hb:DS c g n b x):D1 c g n (.While t b [] pos) (AO xt x m):=by
 refine fun A env f ρ σ s hr he sr=>⟨fun r cG hx Q E P=>wpAny_While (codeAny_whileLoop (fun m cD=>∃cW σ₁,Ext ρ s.heap cW cD.heap∧SR c cW σ₁ cD∧AO xt x m f σ₁=some (r,cG)) (fun m cD hI=>?_) m ⟨ρ,σ,Ext.refl _ _,sr,hx⟩)⟩
 refine zz fun GG KK=>?_
 obtain⟨cW,σ₁,e1,cY,dB⟩:=hI
 refine KK ?_
 cases m with
 |zero=>exact cw dB
 |succ m=>
  have md:=he.mono e1
  refine(ht A env f cW σ₁ cD hr md cY).step dB ((P.ext e1).own md) fun q B ρ₂ fU fu e2 fh rb fC P2=>?_
  cases rb
  cases q with
  |true=>
   refine(hb A env f ρ₂ fU fu hr (md.mono e2) fh).step fC P2 fun fm F ph qo kL e3 hJ rf m6 P3=>?_
   cases rf.go m6 with
   |next e=>exact⟨m,Nat.lt_succ_self m,ph,qo,(e1.trans e2).trans e3,hJ,e⟩
   |ret e rv=>exact P3.kA e hJ rv
  |false=>exact wpAny_execs_nil (P2.kA fC fh trivial)
end
noncomputable def Fu(m:MO):Bool:=@MO.casesOn (fun Z=>Bool) m (fun Z=>false) (fun Z=>false) (fun Z Z=>false) (fun Z=>false) (fun Z Z=>false) (fun Z=>false) (fun Z Z=>false) true false false (fun Z=>false) false
theorem acz{m:MO}:Fu m=true→m=.pair:=@MO.casesOn (fun m=>Fu m=true→m=.pair) m (fun Z h=>cF h) (fun Z h=>cF h) (fun Z Z h=>cF h) (fun Z h=>cF h) (fun Z Z h=>cF h) (fun Z h=>cF h) (fun Z Z h=>cF h) (fun Z=>rfl) (fun h=>cF h) (fun h=>cF h) (fun Z h=>cF h) (fun h=>cF h)
def oi(d:Option Nat)(σ:List MO):Bool:=@Option.casesOn Nat (fun Z=>Bool) d true fun j=>@Option.casesOn MO (fun Z=>Bool) (d7 σ j) false Fu
theorem abA{j:Nat}{σ:List MO}:oi (some j) σ=true→d7 σ j=some .pair:=fun h=>@Option.casesOn MO (fun x=>@Option.casesOn MO (fun Z=>Bool) x false Fu=true→x=some .pair) (d7 σ j) (fun h=>cF h) (fun Z h=>congrArg some (acz h)) h
theorem aoc(σ:List MO):oi none σ=true:=rfl
noncomputable abbrev Src:=List J×Option Nat
structure It(c:Cx)(A:Around)(tg:Expr)(I:Addr)(items:List J)(d:Option Nat)(wr:List Addr)(St:Nat→List Addr→Heap→Prop):Prop where
 mono:∀i ρ cC h h',St i ρ h→Ext ρ h cC h'→St i cC h'
 item:∀i ρ σ s v (Q:Value→Shared→Prop) (E:Value→Shared→Prop),items[i]? =some v→St i ρ s.heap→SR c ρ σ s→oi d σ=true→
  (∀V h' tk,(∀b o,b∉wr→s.heap.get? b=some o→h'.get? b=some o)→SR c ρ σ {s with heap:=h',toks:=tk}→cI c ρ h' v V→St (i+1) ρ h'→Q V {s with heap:=h',toks:=tk})→
  wpAny (model c.prog c.w) A (pyNext (.ref I)) (fun r cD=>∃V,r=some V∧wpAny (model c.prog c.w) A (letOwnedTupleGo tg (.ref I) V) (fun Z fu=>Q V fu) E cD) E s
 done:∀ρ σ s (Q:Option Value→Shared→Prop) (E:Value→Shared→Prop),St items.length ρ s.heap→SR c ρ σ s→oi d σ=true→
  (∀h' tk,(∀b o,b∉wr→s.heap.get? b=some o→h'.get? b=some o)→SR c ρ σ {s with heap:=h',toks:=tk}→Q none {s with heap:=h',toks:=tk})→
  wpAny (model c.prog c.w) A (pyNext (.ref I)) Q E s
 self:∀i ρ s (Q:Value→Shared→Prop) (E:Value→Shared→Prop),St i ρ s.heap→Q (.ref I) s→wpAny (model c.prog c.w) A (pyIter (.ref I)) Q E s
def DI(c:Cx)(g:FC)(n:Nat)(tg e:Expr)(x:Fr→List MO→Out Src):Prop:=
 ∀A env f ρ σ s,g0 A n→fW c g A env f ρ s.heap→SR c ρ σ s→∀r cG,x f σ=some (r,cG)→∀(Q:Value→Shared→Prop) (E:Value→Shared→Prop),
  (∀items d cW I wr St cD,r=.ok (items,d)→Ext ρ s.heap cW cD.heap→SR c cW cG cD→It c A tg I items d wr St→St 0 cW cD.heap→(∀b∈wr,s.heap.get? b=none)→Q (.ref I) cD)→
  (∀k X cW cD,r=.fo k→Ext ρ s.heap cW cD.heap→SR c cW cG cD→ly c cW cD.heap k X→E X cD)→
  wpAny (model c.prog c.w) A (eval e env) (fun V cD=>wpAny (model c.prog c.w) A (pyIter V) Q E cD) E s
section
variable{c:Cx}{g:FC}{n:Nat}{A:Around}{env:Env}{f:Fr}{ρ:List Addr}{σ:List MO}{s:Shared}{tb:Tb}
noncomputable def iR(q:Bool)(h:Heap)(I l i:Nat):Prop:=if q then h.IsTupleIter I l i else h.IsListIter I l i
def n_(q:Bool)(Vs:List Value)(m:Nat):Obj:=if q then gS Vs m else gm Vs m
def A8(c:Cx)(q:Bool)(I ax:Addr)(l:List J)(i:Nat)(ρ:List Addr)(h:Heap):Prop:=
 iR q h I ax i∧dY c ρ I∧c.h0.get? I=none∧ax≠I∧∃Vs m,h.get? ax=some (n_ q Vs m)∧dY c ρ ax∧dh c ρ h l Vs
noncomputable abbrev AH:List String:=["enumerate","zip","dict_itemiterator","dict_reverseitemiterator","odict_iterator","itertools.zip_longest","itertools.pairwise"]
theorem iR.obj{q:Bool}{h:Heap}{I l i:Nat}(x:iR q h I l i):∃o,h.get? I=some o∧isIt o=true∧im o=true∧o.data=.fields #[.ref l,.int i 0]∧∃n,o.cls=.type n∧AH.contains n=false:=by
 have key:∀o:Obj,∀n,o.cls=.type n→o.data=.fields #[.ref l,.int i 0]→(∀o:Obj,o.cls=.type n→isIt o=true)→(∀o:Obj,o.cls=.type n→o.data=.fields #[.ref l,.int i 0]→im o=true)→AH.contains n=false→h.get? I=some o→∃o,h.get? I=some o∧isIt o=true∧im o=true∧o.data=.fields #[.ref l,.int i 0]∧∃n,o.cls=.type n∧AH.contains n=false:=
  fun o n hc hd a1 a2 a3 e=>⟨o,e,a1 o hc,a2 o hc hd,hd,n,hc,a3⟩
 cases q with
 |true=>exact(x:h.IsTupleIter I l i).elim fun o y=>key o _ y.2.1 y.2.2 (fun o hc=>by unfold isIt;rw[hc];rfl) (fun o hc hd=>vx (by unfold j4;rw[hd,hc];rfl) (by unfold mC;rw[hc];rfl)) (by decide) y.1
 |false=>exact(x:h.IsListIter I l i).elim fun o y=>key o _ y.2.1 y.2.2 (fun o hc=>by unfold isIt;rw[hc];rfl) (fun o hc hd=>vx (by unfold j4;rw[hd,hc];rfl) (by unfold mC;rw[hc];rfl)) (by decide) y.1
theorem iR.at{q:Bool}{h h':Heap}{I l i:Nat}(x:iR q h I l i)(k:∀o,h.get? I=some o→h'.get? I=some o):iR q h' I l i:=by
 cases q with
 |true=>exact(x:h.IsTupleIter I l i).elim fun o y=>(⟨o,k o y.1,y.2⟩:h'.IsTupleIter I l i)
 |false=>exact(x:h.IsListIter I l i).elim fun o y=>(⟨o,k o y.1,y.2⟩:h'.IsListIter I l i)
theorem Im(q:Bool)(Vs:List Value)(m:Nat):im (n_ q Vs m)=true∧isIt (n_ q Vs m)=false:=by cases q<;>exact⟨rfl,rfl⟩
theorem A8.mono{q:Bool}{I ax:Addr}{l:List J}{i:Nat}{ρ cC:List Addr}{h h':Heap}(x:A8 c q I ax l i ρ h)(e:Ext ρ h cC h'):A8 c q I ax l i cC h':=by
 refine zz fun GG KK=>?_
 obtain⟨h1,h2,h3,h4,Vs,m,h5,h6,h7⟩:=x
 obtain⟨o,eo,_,hi,_⟩:=h1.obj
 exact KK ⟨h1.at fun o' e'=>(e.exact eo h2.1 hi).trans (eo.symm.trans e'),e.out h2 eo,h3,h4,Vs,m,e.exact h5 h6.1 (Im q Vs m).1,e.out h6 h5,h7.mono e⟩
theorem PF{tg:Expr}{I:Addr}{V:Value}{Q:Unit→Shared→Prop}{E:Value→Shared→Prop}{M:Model}{o:Obj}{nn:String}{vs:Array Value}(eo:s.heap.get? I=some o)(hc:o.cls=.type nn)(hd:o.data=.fields vs)(hn:AH.contains nn=false)(h:Q () s):
  wpAny M A (letOwnedTupleGo tg (.ref I) V) Q E s:=by
 have main:∀a,wpAny M A (do
   let o←load I
   match o.cls,o.data with
   |.type n,.fields vs=>
    if AH.contains n&&vs[0]? ==some (rawInt a)then
     rule "for.unpacks-the-owned-tuple"
     updateField I 0 .none
   |_,_=>pure ()) Q E s:=fun a=>by
  refine bC (wpAny_load eo ?_)
  rw[hc,hd]
  simp only[hn,Bool.false_and,Bool.false_eq_true,if_false]
  exact bD h
 unfold letOwnedTupleGo
 cases tg<;>first
  |exact bD h
  |(cases V<;>first
    |exact bD h
    |exact main _)
theorem aax{tg:Expr}{q:Bool}{I ax i:Nat}{V:Value}{Q:Unit→Shared→Prop}{E:Value→Shared→Prop}{M:Model}(x:iR q s.heap I ax i)(h:Q () s):wpAny M A (letOwnedTupleGo tg (.ref I) V) Q E s:=
 x.obj.elim fun o y=>y.2.2.2.2.elim fun n z=>PF y.1 z.1 y.2.2.2.1 z.2 h
theorem EH{I:Addr}{o:Obj}(h2:dY c ρ I)(h3:c.h0.get? I=none)(eo:s.heap.get? I=some o)(hi:isIt o=true):∀b∈[I],dY c ρ b∧c.h0.get? b=none∧∃o,s.heap.get? b=some o∧isIt o=true:=fun Z hb=>a_ hb▸⟨h2,h3,o,eo,hi⟩
theorem yY{I:Addr}{h h':Heap}(hs:Heap.ExtBut I h h'):∀b o,b∉[I]→h.get? b=some o→h'.get? b=some o:=fun b o hb e=>hs b o (fun z=>hb (z▸List.mem_singleton_self _)) e
theorem yP{q:Bool}{Vs:List Value}{m:Nat}{h:Heap}{a:Addr}(e:h.get? a=some (n_ q Vs m)):(q=true→h.IsTuple a Vs.toArray)∧(q=false→h.IsList a Vs.toArray):=⟨fun z=>by subst z;exact⟨_,e,rfl,_,rfl⟩,fun z=>by subst z;exact⟨_,e,rfl,_,rfl⟩⟩
theorem QJ{wr:List Addr}{h':Heap}(k:∀b o,b∉wr→s.heap.get? b=some o→h'.get? b=some o)(hw:∀b∈wr,dY c ρ b∧c.h0.get? b=none∧∃o,s.heap.get? b=some o∧isIt o=true):kT ρ s.heap ρ h':=
 ⟨⟨[],(List.append_nil ρ).symm,fun Z ha=>nomatch ha⟩,fun b o e Z hi=>⟨o,k b o (fun hm=>(hw b hm).2.2.elim fun o' y=>Bool.noConfusion (hi.symm.trans (aV (y.1.symm.trans e)▸y.2))) e,Sm.refl _⟩⟩
theorem It.seq(hh:A.handled=none)(q:Bool)(tg:Expr)(I ax:Addr)(l:List J):It c A tg I l none [I] (A8 c q I ax l)where
 mono:=fun i ρ cC h h' x e=>x.mono e
 item:=fun i ρ σ s v Q E hv st sr Z hQ=>by
  refine zz fun GG KK=>?_
  obtain⟨h1,h2,h3,h4,Vs,m,h5,h6,h7⟩:=st
  obtain⟨V,hV,rv⟩:=h7.get hv
  obtain⟨o,eo,wz,_⟩:=h1.obj
  refine KK ?_
  have hw:=EH (s:=s) h2 h3 eo wz
  have fin:∀h',iR q h' I ax (i+1)→Heap.SameBut I s.heap h'→∃V',some V=some V'∧wpAny (model c.prog c.w) A (letOwnedTupleGo tg (.ref I) V') (fun Z fu=>Q V' fu) E {s with heap:=h'}:=fun h' hit hs=>
   have k:=yY hs.extBut
   ⟨V,rfl,aax (s:={s with heap:=h'}) hit (hQ V h' s.toks k (sr.wr k hw) (rv.wr k fun b hb=>(hw b hb).2.2) ⟨hit,h2,h3,h4,Vs,m,hs.extBut _ _ h4 h5,h6,dh.l7 (QJ k hw) h7⟩)⟩
  have hV:Vs.toArray[i]? =some V:=List.getElem?_toArray.trans hV
  cases q with
  |true=>exact wpAny_pyNext_tuple_item h1 ((yP h5).1 rfl) hV fin
  |false=>exact wpAny_pyNext_list_item h1 ((yP h5).2 rfl) hV fin
 done:=fun ρ σ s Q E st sr Z hQ=>by
  refine zz fun GG KK=>?_
  obtain⟨h1,h2,h3,h4,Vs,m,h5,h6,h7⟩:=st
  obtain⟨o,eo,wz,_⟩:=h1.obj
  refine KK ?_
  have fin:∀h',Heap.ExtBut I s.heap h'→Q none {s with heap:=h'}:=fun h' hs=>hQ h' s.toks (yY hs) (sr.wr (yY hs) (EH (s:=s) h2 h3 eo wz))
  have hV:Vs.toArray[l.length]? =none:=List.getElem?_toArray.trans (List.getElem?_eq_none (Nat.le_of_eq h7.length))
  cases q with
  |true=>exact wpAny_pyNext_tuple_end hh h1 ((yP h5).1 rfl) hV fin
  |false=>exact wpAny_pyNext_list_end hh h1 ((yP h5).2 rfl) hV fin
 self:=fun i ρ s Q E st hQ=>by
  cases q with
  |true=>exact wpAny_pyIter_tupleiter st.1 hQ
  |false=>exact wpAny_pyIter_listiter st.1 hQ
def R3(v:J)(σ:List MO):Out Src:=oh v (fun l=>ok (l,none) σ) (fun l=>ok (l,none) σ) fun Z=>none
def kX(x:Fr→List MO→Out J)(f:Fr)(σ:List MO):Out Src:=dk (x f σ) R3
theorem QK{q:Bool}{l:List J}{a:Addr}{m:Nat}{Vs:List Value}{tg:Expr}{r:Res Src}{cG:List MO}{Q:Value→Shared→Prop}{E:Value→Shared→Prop}(hh:A.handled=none)(sr:SR c ρ σ s)(hx:ok (l,none) σ=some (r,cG))
  (e:s.heap.get? a=some (n_ q Vs m)) (hn:dY c ρ a) (rl:dh c ρ s.heap l Vs) (hQ:∀items d I wr St cD,r=.ok (items,d)→Ext ρ s.heap ρ cD.heap→SR c ρ cG cD→It c A tg I items d wr St→St 0 ρ cD.heap→(∀b∈wr,s.heap.get? b=none)→Q (.ref I) cD):
  wpAny (model c.prog c.w) A (pyIter (.ref a)) Q E s:=by
 have fin:∀o:Obj,iR q (s.heap.push o) s.heap.objs.size a 0→Q (.ref s.heap.objs.size) {s with heap:=s.heap.push o}:=fun o hit=>
  hQ l none _ [s.heap.objs.size] (A8 c q s.heap.objs.size a l) _ (iA hx).1 (Ext.push _) ((iA hx).2.symm▸sr.push _) (It.seq hh q tg _ _ _) ⟨hit,lM sr (kS _),sr.t5,bx (Heap.lt_size e),Vs,m,aX _ e,hn,rl.mono (Ext.push _)⟩
   fun b hb=>a_ hb▸kS _
 cases q with
 |true=>exact wpAny_pyIter_tuple ((yP e).1 rfl) (fin _ (⟨_,bf _ rfl,rfl,rfl⟩:Heap.IsTupleIter _ _ _ _))
 |false=>exact wpAny_pyIter_list ((yP e).2 rfl) (fin _ (⟨_,bf _ rfl,rfl,rfl⟩:Heap.IsListIter _ _ _ _))
theorem H6{α:Type}{v:J}{kt kl:List J→Option α}{kr:Nat→Option α}{r:α}{V:Value}{G:Value→Prop}{h:Heap}(rv:cI c ρ h v V)(hx:oh v kt kl kr=some r)(Ht:∀l a n Vs,h.get? a=some (gS Vs n)→dY c ρ a→dh c ρ h l Vs→kt l=some r→G (.ref a))
  (Hl:∀l a n Vs,h.get? a=some (gm Vs n)→dY c ρ a→dh c ρ h l Vs→kl l=some r→G (.ref a)) (Hr:∀i a,ρ[i]? =some a→kr i=some r→G (.ref a)):G V:=
 @J.casesOn (fun v=>cI c ρ h v V→oh v kt kl kr=some r→G V) v (fun Z q=>cw q) (fun Z Z q=>cw q) (fun Z Z q=>cw q) (fun Z Z q=>cw q) (fun l r q=>@kU.rec c ρ h gS l (fun V Z=>G V) (fun e n r=>Ht l _ _ _ e n r q) V r.inv) (fun l r q=>@kU.rec c ρ h gm l (fun V Z=>G V) (fun e n r=>Hl l _ _ _ e n r q) V r.inv)
  (fun Z Z q=>cw q) (fun Z Z Z q=>cw q) (fun i r q=>let⟨a,e,p⟩:=r.inv;e▸Hr i a p q) (fun Z Z q=>cw q) (fun Z Z q=>cw q) (fun Z Z q=>cw q) (fun Z Z q=>cw q) (fun Z q=>cw q) rv hx
theorem acA{v:J}{V:Value}{tg:Expr}{r:Res Src}{cG:List MO}{Q:Value→Shared→Prop}{E:Value→Shared→Prop}(hh:A.handled=none)(sr:SR c ρ σ s)(rv:cI c ρ s.heap v V)(hx:R3 v σ=some (r,cG))
  (hQ:∀items d I wr St cD,r=.ok (items,d)→Ext ρ s.heap ρ cD.heap→SR c ρ cG cD→It c A tg I items d wr St→St 0 ρ cD.heap→(∀b∈wr,s.heap.get? b=none)→Q (.ref I) cD):
  wpAny (model c.prog c.w) A (pyIter V) Q E s:=
 H6 (G:=fun V=>wpAny (model c.prog c.w) A (pyIter V) Q E s) rv hx (fun Z Z Z Z e hn rl q=>QK (q:=true) hh sr q e hn rl hQ) (fun Z Z Z Z e hn rl q=>QK (q:=false) hh sr q e hn rl hQ) fun Z Z Z q=>cw q
theorem ve{ρ cC:List Addr}{h h':Heap}(x:Ext ρ h cC h'){b:Addr}(e:h'.get? b=none):h.get? b=none:=by
 cases q:h.get? b with
 |none=>rfl
 |some o=>exact(x.live b o q).elim fun Z y=>cw (e.symm.trans y.1)
theorem DI.seq{tg e:Expr}{x:Fr→List MO→Out J}(h:DE c g n e x):DI c g n tg e (kX x):=by
 intro A env f ρ σ s hr he sr r cG hx Q E hQ hE
 refine(h A env f ρ σ s hr he sr).step (Rel':=fun _ _ (_:Src) (_:Value)=>True) (Q':=fun Z Z=>True) hx ⟨fun Z Z Z Z Z Z Z Z=>trivial,hE⟩ fun v V cW σ₁ cD e1 cY rv dB P1=>?_
 exact acA hr.calm cY rv dB fun items d I wr St fu h1 h2 h3 h4 h5 h6=>hQ items d cW I wr St fu h1 (e1.trans h2) h3 h4 h5 fun b hb=>ve e1 (h6 b hb)
end
noncomputable def Jv(t:Fr→J→List MO→Out Unit)(b:Fr→List MO→Out MF)(d:Option Nat):List J→Fr→List MO→Out MF
 |[],_,σ=>gd (oi d σ) (ok .next σ)
 |v::l,f,σ=>gd (oi d σ) (dk (t f v σ) fun Z σ=>dk (b f σ) fun r σ=>rn r (Jv t b d l f σ) σ)
def pj(x:Fr→List MO→Out Src)(t:Fr→J→List MO→Out Unit)(b:Fr→List MO→Out MF)(f:Fr)(σ:List MO):Out MF:=dk (x f σ) fun l σ=>Jv t b l.2 l.1 f σ
section
variable{c:Cx}{g:FC}{n:Nat}{A:Around}{env:Env}{f:Fr}{ρ:List Addr}{σ:List MO}{s:Shared}{tb:Tb}
theorem OD{α:Type}(l:List α)(i:Nat):(l.drop i=[]∧l.length≤i)∨∃v,l[i]? =some v∧l.drop i=v::l.drop (i+1):=by
 by_cases h:i<l.length
 ·exact .inr ⟨l[i],bj h,List.drop_eq_getElem_cons h⟩
 ·exact .inl ⟨List.drop_eq_nil_of_le (Nat.le_of_not_lt h),Nat.le_of_not_lt h⟩
theorem D1.for{tg e:Expr}{body:List Stmt}{pos:Pos}{x:Fr→List MO→Out Src}{t:Fr→J→List MO→Out Unit}{b:Fr→List MO→Out MF}
  (hx:DI c g n tg e x) (ht:DA c g n tg t) (hb:DS c g n body b) (hs:∀env V,foldedSetIterable e env V=pure V):D1 c g n (.For tg e body [] pos) (pj x t b):=by
 refine fun A env f ρ σ s hr he sr=>⟨fun r cG hX Q E P=>wpAny_For ?_ (hs env)⟩
 cases hq:x f σ with
 |none=>exact cw ((congrArg (dk · _) hq).symm.trans hX)
 |some y=>
  have hX:dk (some y) _=some (r,cG):=(congrArg (dk · _) hq).symm.trans hX
  refine hx A env f ρ σ s hr he sr y.1 y.2 hq _ E (fun items d cW I wr St cD h1 h2 h3 h4 h5 h6=>?_) (fun k X cW cD h1 h2 h3 h4=>?_)
  ·obtain⟨r1,σ1⟩:=y
   obtain rfl:r1=_:=h1
   refine codeAny_forLoop_any (fun k s'=>∃i cC fU,Ext ρ s.heap cC s'.heap∧SR c cC fU s'∧St i cC s'.heap∧k=items.length - i∧i≤items.length∧Jv t b d (items.drop i) f fU=some (r,cG)) (fun k s' hI=>?_) items.length
    ⟨0,cW,σ1,h2,h3,h5,rfl,Nat.zero_le _,hX⟩
   refine zz fun GG KK=>?_
   obtain⟨i,cC,fU,e1,cY,st,rfl,hi,nJ⟩:=hI
   refine KK ?_
   have P1:=(P.ext e1).own (he.mono e1)
   rcases OD items i with⟨hd,hle⟩|⟨v,hv,hd⟩
   ·rw[hd]at nJ
    have hz:=gK nJ
    exact h4.done cC _ s' _ _ (Nat.le_antisymm hi hle▸st) cY hz.1 fun h' tk k' fM=>wpAny_execs_nil (P.S6 (V:=Flow.next) hz.2 (e1.after k' h6) fM trivial)
   ·rw[hd]at nJ
    have hz:=gK nJ
    refine wpAny_mono (h4.item i cC fU s' v _ _ hv st cY hz.1 fun V h' tk k' fM wC wF=>?_) (fun r cD nN=>nN.elim fun V y=>y.1▸y.2) fun Z Z z=>z
    have e2:Ext ρ s.heap cC h':=e1.after k' h6
    have BW:=he.mono e2
    refine(ht A env f cC fU {s' with heap:=h',toks:=tk} v V hr BW fM wC).step hz.2 ((P.ext e2).own BW) fun Z Z ρ₂ qo fu e3 hJ Z Kq P3=>?_
    refine(hb A env f ρ₂ qo fu hr (BW.mono e3) hJ).step Kq P3 fun m F ph A0 kL e4 lz rf F8 P4=>?_
    cases rf.go F8 with
    |next e=>
     have gD:i<items.length:=(aZ hv).1
     exact⟨items.length - (i+1),Nat.sub_lt_sub_left gD (Nat.lt_succ_self i),i+1,ph,A0,(e2.trans e3).trans e4,lz,h4.mono _ _ _ _ _ wF (e3.trans e4),rfl,gD,e⟩
    |ret e rv=>exact P4.kA e lz rv
  ·obtain⟨r1,σ1⟩:=y
   obtain rfl:r1=_:=h1
   exact P.fo k X cW cD (iA hX).1 h2 ((iA hX).2.symm▸h3) h4
end
noncomputable def app{α:Type}(l m:List α):List α:=@List.rec α (fun Z=>List α) m (fun a Z ih=>a::ih) l
theorem nD{α:Type}:∀l m:List α,app l m=l++m
 |[],_=>rfl
 |a::l,m=>congrArg (a::·) (nD l m)
noncomputable def len{α:Type}(l:List α):Nat:=@List.rec α (fun Z=>Nat) 0 (fun Z Z ih=>Nat.succ ih) l
theorem len_eq{α:Type}:∀l:List α,len l=l.length
 |[]=>rfl
 |_::l=>congrArg Nat.succ (len_eq l)
noncomputable def gn{α:Type}(m:Nat):List α→List α:=@Nat.rec (fun Z=>List α→List α) (fun Z=>[]) (fun Z ih l=>@List.rec α (fun Z=>List α) [] (fun a t Z=>a::ih t) l) m
theorem oL{α:Type}:∀(m:Nat) (l:List α),gn m l=l.take m
 |0,_=>rfl
 |_+1,[]=>rfl
 |m+1,a::l=>congrArg (a::·) (oL m l)
def allR{α:Type}(p:α→Bool)(l:List α):Bool:=@List.rec α (fun Z=>Bool) true (fun a Z ih=>band (p a) ih) l
theorem allR_eq{α:Type}(p:α→Bool):∀l:List α,allR p l=l.all p
 |[]=>rfl
 |a::l=>by
  have:allR p (a::l)=band (p a) (allR p l):=rfl
  rw[this,yT,allR_eq p l];rfl
noncomputable def rep{α:Type}(n:Nat)(x:α):List α:=@Nat.rec (fun Z=>List α) [] (fun Z ih=>x::ih) n
theorem EI{α:Type}(x:α):∀n,rep n x=List.replicate n x
 |0=>rfl
 |n+1=>congrArg (x::·) (EI x n)
theorem adw(m:Nat)(v:J):ef 0 v=true→ef m v=true:=
 @J.rec (fun v=>ef 0 v=true→ef m v=true) (fun l=>ek 0 l=true→ek m l=true) (fun l=>mW 0 l=true→mW m l=true) (fun p=>ef 0 p.2=true→ef m p.2=true)
  (fun Z=>rfl) (fun Z Z=>rfl) (fun Z Z=>rfl) (fun Z Z=>rfl) (fun Z ih h=>ih h) (fun Z ih h=>ih h) (fun Z ih h=>ih h) (fun Z Z Z Z=>rfl) (fun Z h=>absurd (QC h) (Nat.not_lt_zero _)) (fun Z Z=>rfl) (fun Z Z=>rfl) (fun Z Z=>rfl) (fun Z Z=>rfl) (fun Z=>rfl)
  (fun Z=>rfl) (fun Z Z a b h=>by have h:=Ar h;show band _ _=true;rw[yT,Bool.and_eq_true];exact⟨a h.1,b h.2⟩) (fun Z=>rfl) (fun p Z a b h=>by have h:=yF (k:=p.1) (v:=p.2) h;show band _ _=true;rw[yT,Bool.and_eq_true];exact⟨a h.1,b h.2⟩) (fun Z Z a h=>a h) v
theorem OX(m:Nat):∀l:List Int,ek m (l.map .int)=true
 |[]=>rfl
 |_::l=>OX m l
theorem PG(m:Nat):∀{l:List (Str×J)},mW 0 l=true→mW m l=true
 |[],_=>rfl
 |(k,v)::l,h=>by
  have h:=yF h
  show band _ _=true
  rw[yT,Bool.and_eq_true];exact⟨adw m v h.1,PG m h.2⟩
def iJ(m:Nat)(σ:List MO):Bool:=allR (fF m) (gn m σ)
theorem t9(m:Nat)(σ:List MO):iJ m σ=(σ.take m).all (fF m):=by unfold iJ;rw[allR_eq,oL]
theorem EJ{c:Cx}{φ ρ ρ₂:List Addr}{h:Heap}{m:Nat}(kY:∀a,dY c ρ a→dY (c.hide φ) ρ₂ a)(lU:∀i,i<m→ρ₂[i]? =ρ[i]?):lx c φ ρ h ρ₂ h False m:=⟨fun a Z Z=>kY a,fun Z o e Z Z Z=>⟨o,e,Sm.refl o⟩,fun i Z q e=>(lU i (q.elim False.elim id)).trans e⟩
section
variable{c:Cx}{φ ρ ρ₂:List Addr}{h:Heap}{m:Nat}(kY:∀a,dY c ρ a→dY (c.hide φ) ρ₂ a)(lU:∀i,i<m→ρ₂[i]? =ρ[i]?)
include kY lU
theorem cI.sub{v:J}{V:Value}(r:cI c ρ h v V)(q:Mine.ef m v=true):cI (c.hide φ) ρ₂ h v V:=r.map (EJ kY lU) (.inr q)
theorem dh.sub{l:List J}{L:List Value}(r:dh c ρ h l L)(q:ek m l=true):dh (c.hide φ) ρ₂ h l L:=r.map (EJ kY lU) (.inr q)
theorem eI.sub{l:List (Str×J)}{L:List (Str×Value)}(r:eI c ρ h l L)(q:mW m l=true):eI (c.hide φ) ρ₂ h l L:=r.map (EJ kY lU) (.inr q)
end
theorem eQ.sub{c:Cx}{φ ρ ρ₂:List Addr}{h:Heap}{a:Addr}{mo:MO}{m:Nat}(kY:∀a,dY c ρ a→dY (c.hide φ) ρ₂ a)(lU:∀i,i<m→ρ₂[i]? =ρ[i]?)(hb:fF m mo=true)(x:eQ c ρ h a mo):eQ (c.hide φ) ρ₂ h a mo:=x.map (EJ kY lU) (fun o e=>⟨o,e,.refl o⟩) (.inr hb)
section
variable{c:Cx}{g:FC}{n:Nat}{A:Around}{env:Env}{f:Fr}{ρ:List Addr}{σ:List MO}{s:Shared}{tb:Tb}
theorem QL{ρ₂:List Addr}(kY:∀a∈ρ₂,a∈ρ)(a:Addr)(h:dY c ρ a):dY (c.hide c.d9) ρ₂ a:=⟨fun q=>h.1 (kY a q),h.2⟩
theorem oH{a:Addr}(m:Nat)(h:dY c ρ a):dY c (ρ.take m) a:=⟨fun q=>h.1 (List.mem_of_mem_take q),h.2⟩
theorem cI.ef{h:Heap}(m:Nat){v:J}{V:Value}(r:cI c ρ h v V)(q:Mine.ef m v=true):cI c (ρ.take m) h v V:=r.sub (φ:=c.d9) (fun Z x=>oH m x) (fun Z hi=>bc hi) q
theorem dh.ef{h:Heap}(m:Nat){v:List J}{V:List Value}(r:dh c ρ h v V)(q:ek m v=true):dh c (ρ.take m) h v V:=r.sub (φ:=c.d9) (fun Z x=>oH m x) (fun Z hi=>bc hi) q
theorem eQ.ef{h:Heap}{a:Addr}{mo:MO}(m:Nat)(hb:fF m mo=true)(x:eQ c ρ h a mo):eQ c (ρ.take m) h a mo:=x.sub (φ:=c.d9) (fun Z x=>oH m x) (fun Z hi=>bc hi) hb
theorem Et{α:Type}{l:List α}{m i:Nat}{a:α}(e:(l.take m)[i]? =some a):i<m:=Nat.lt_of_lt_of_le (aZ e).1 (List.length_take_le _ _)
theorem Ap{ρ:List Addr}(hn:ρ.Nodup){i m:Nat}{a:Addr}(e:ρ[i]? =some a)(h:m≤i):a∉ρ.take m:=fun q=>(List.mem_iff_getElem?.mp q).elim fun j hj=>
 have hl:=Et hj
 have e2:=(bc hl).symm.trans hj
 absurd hl (Nat.not_lt.mpr ((List.getElem?_inj (aZ e).1 hn).mp (e.trans e2.symm)▸h))
theorem SR.AI(sr:SR c ρ σ s){i m:Nat}{a:Addr}(e:ρ[i]? =some a)(h:m≤i):dY c (ρ.take m) a:=
 ⟨Ap sr.nodup e h,fun q=>(sr.d9 a q).2.1 (a0 e)⟩
def sZ{α β:Type}(p:α→Option β)(l:List α):Option (List β):=@List.rec α (fun Z=>Option (List β)) (some []) (fun v Z ih=>ej (p v) fun w=>ej ih fun m=>some (w::m)) l
theorem D7{α β:Type}{p:α→Option β}{v:α}{l:List α}{r:List β}(h:sZ p (v::l)=some r):∃w m,p v=some w∧sZ p l=some m∧w::m=r:=(eP h).elim fun w y=>(eP y.2).elim fun m z=>⟨w,m,y.1,z.1,aV z.2⟩
theorem Ed{α β:Type}{p:α→Option β}{r:List β}(h:sZ p []=some r):[]=r:=aV h
theorem H7{α β:Type}{p:α→Option β}:∀{l:List α} {l':List β},sZ p l=some l'→l'.length=l.length∧∀(i:Nat) (p':β),l'[i]? =some p'→∃x,l[i]? =some x∧p x=some p'
 |[],_,h=>Ed h▸⟨rfl,fun Z Z q=>cw q⟩
 |v::l,l',h=>(D7 h).elim fun w y=>y.elim fun m y=>y.2.2▸
  let z:=H7 y.2.1
  ⟨congrArg Nat.succ z.1,fun i p'=>@Nat.casesOn (fun i=>(w::m)[i]? =some p'→∃x,(v::l)[i]? =some x∧p x=some p') i (fun q=>⟨v,rfl,y.1.trans q⟩) (fun i q=>z.2 i p' q)⟩
def lQ(p:J→Option J)(l:List J):Option (List J):=sZ p l
def Bq(p:J→Option J)(l:List (Str×J)):Option (List (Str×J)):=sZ (fun kv=>ej (p kv.2) fun w=>some (kv.1,w)) l
def omap{α:Type}(g:α→J)(x:Option α):Option J:=ej x fun l=>some (g l)
def F9(m:Nat)(σ:List MO)(p:J→Option J)(o:MO):Option J:=@MO.casesOn (fun Z=>Option J) o (fun l=>omap .lst (lQ p l)) (fun l=>omap .fB (Bq p l)) (fun C d=>gd (Nat.ble m d) (tI σ d fun l=>ej (Bq p l) fun l=>gd (mW 0 l) (some (.obj C l)))) (fun Z=>none) (fun Z Z=>none) (fun Z=>none) (fun Z Z=>none) none none none (fun Z=>none) none
def Kr(m:Nat)(σ:List MO)(p:J→Option J)(v:J):Option J:=@J.casesOn (fun Z=>Option J) v (some .none) (fun x=>some (.bool x)) (fun x=>some (.int x)) (fun x=>some (.str x)) (fun l=>omap .tup (lQ p l)) (fun l=>omap .lst (lQ p l)) (fun l=>omap .fB (Bq p l)) (fun C l=>some (.obj C l)) (fun i=>@Bool.casesOn (fun Z=>Option J) (Nat.blt i m) (ej (d7 σ i) (F9 m σ p)) (some (.loc i))) (fun x=>some (.dC x)) (fun x=>some (.typ x)) (fun x=>some (.blt x)) (fun x=>some (.exc x)) (some .ip)
def kg(m:Nat)(σ:List MO)(k:Nat):J→Option J:=@Nat.rec (fun Z=>J→Option J) (fun Z=>none) (fun Z ih=>Kr m σ ih) k
def fz(m:Nat)(σ:List MO)(v:J):Option J:=kg m σ 14 v
theorem Au{α:Type}{g:α→J}{x:Option α}{v:J}(h:omap g x=some v):∃l,x=some l∧g l=v:=(eP h).elim fun l y=>⟨l,y.1,aV y.2⟩
theorem PH{ρ₂:List Addr}{h:Heap}{p:J→Option J}(hp:∀{v v':J} {V:Value},cI c ρ h v V→p v=some v'→cI c ρ₂ h v' V):∀{l l':List J} {L:List Value},dh c ρ h l L→lQ p l=some l'→dh c ρ₂ h l' L
 |[],_,_,r,q=>Ed q▸r.i9▸.nil
 |_::_,_,_,r,q=>(D7 q).elim fun Z y=>y.elim fun Z y=>r.gr.elim fun Z z=>z.elim fun Z z=>y.2.2▸z.1▸.cons (hp z.2.1 y.1) (PH hp z.2.2 y.2.1)
theorem PI{ρ₂:List Addr}{h:Heap}{p:J→Option J}(hp:∀{v v':J} {V:Value},cI c ρ h v V→p v=some v'→cI c ρ₂ h v' V):∀{l l':List (Str×J)} {L:List (Str×Value)},eI c ρ h l L→Bq p l=some l'→eI c ρ₂ h l' L
 |[],_,_,r,q=>Ed q▸r.i9▸.nil
 |_::_,_,_,r,q=>(D7 q).elim fun Z y=>y.elim fun Z y=>r.gr.elim fun Z z=>z.elim fun Z z=>(eP y.1).elim fun Z w=>y.2.2▸aV w.2▸z.1▸.cons (hp z.2.1 w.1) (PI hp z.2.2 y.2.1)
section
variable{p:J→Option J}{m:Nat}{v':J}(sr:SR c ρ σ s)(hs:∀{l l':List J} {L:List Value},dh c ρ s.heap l L→lQ p l=some l'→dh c (ρ.take m) s.heap l' L)
 (hk:∀{l l':List (Str×J)} {L:List (Str×Value)},eI c ρ s.heap l L→Bq p l=some l'→eI c (ρ.take m) s.heap l' L)
include sr hs hk
theorem acB{i:Nat}{a:Addr}{o:MO}(e:ρ[i]? =some a)(hi:m≤i)(x:eQ c ρ s.heap a o):F9 m σ p o=some v'→cI c (ρ.take m) s.heap v' (.ref a):=
 @MO.casesOn (fun o=>eQ c ρ s.heap a o→F9 m σ p o=some v'→cI c (ρ.take m) s.heap v' (.ref a)) o
  (fun l x q=>(Au q).elim fun Z y=>x.elim fun Z z=>z.elim fun Z z=>y.2▸.lst z.1 (sr.AI e hi) (hs z.2 y.1))
  (fun l x q=>(Au q).elim fun Z y=>x.elim fun Z z=>y.2▸.fB z.1 z.2.1 (sr.AI e hi) (hk z.2.2 y.1))
  (fun C d x q=>by
   refine zz fun GG KK=>?_
   obtain⟨hd,q⟩:=gK q
   obtain⟨l,j8,q⟩:=QF q
   obtain⟨l',h1,q⟩:=eP q
   obtain⟨BX,q⟩:=gK q
   obtain⟨o,da,g1,g2,g3,g4,g5,g6⟩:=x
   obtain⟨a2,uB,L,mm,k1,k2,k3,rl⟩:=sr.at ((il _ _).symm.trans j8)
   obtain rfl:=aV (g6.symm.trans uB)
   exact KK (aV q▸.obj g1 g2 g3 g4 g5 k1 k2 k3 (sr.AI e hi) (sr.AI g6 (bw hd)) (hk rl h1) BX))
  (fun Z Z q=>cw q) (fun Z Z Z q=>cw q) (fun Z Z q=>cw q) (fun Z Z Z q=>cw q) (fun Z q=>cw q) (fun Z q=>cw q) (fun Z q=>cw q) (fun Z Z q=>cw q) (fun Z q=>cw q) x
theorem acC{v:J}{V:Value}:cI c ρ s.heap v V→Kr m σ p v=some v'→cI c (ρ.take m) s.heap v' V:=
 have same:∀{v:J} (V:Value),cI c (ρ.take m) s.heap v V→some v=some v'→cI c (ρ.take m) s.heap v' V:=fun Z r q=>aV q▸r
 @J.casesOn (fun v=>cI c ρ s.heap v V→Kr m σ p v=some v'→cI c (ρ.take m) s.heap v' V) v
  (fun r=>same _ ((show V=.none from r.inv)▸.none)) (fun b r=>same _ ((show V=.bool b from r.inv)▸.bool b)) (fun i r=>same _ (let⟨t,e⟩:=(show∃t,V=.int i t from r.inv);e▸.int i t)) (fun x r=>same _ (let⟨t,e⟩:=(show∃t,V=.str x t from r.inv);e▸.str x t))
  (fun l r q=>(Au q).elim fun Z y=>y.2▸@kU.rec c ρ s.heap gS l (fun V Z=>cI c (ρ.take m) s.heap (.tup _) V) (fun e hn r=>.tup e (oH m hn) (hs r y.1)) V r.inv)
  (fun l r q=>(Au q).elim fun Z y=>y.2▸@kU.rec c ρ s.heap gm l (fun V Z=>cI c (ρ.take m) s.heap (.lst _) V) (fun e hn r=>.lst e (oH m hn) (hs r y.1)) V r.inv)
  (fun l r q=>(Au q).elim fun Z y=>y.2▸@sV.rec c ρ s.heap l (fun V Z=>cI c (ρ.take m) s.heap (.fB _) V) (fun hd hm hn r=>.fB hd hm (oH m hn) (hk r y.1)) V r.inv)
  (fun C l r=>same _ (@Fp.rec c ρ s.heap C l (fun V Z=>cI c (ρ.take m) s.heap (.obj C l) V) (fun e c1 d1 dt ne ns ex hv n1 n2 r cl=>.obj e c1 d1 dt ne ns ex hv (oH m n1) (oH m n2) (eI.sub (φ:=c.d9) (fun Z x=>oH m x) (fun Z hi=>bc hi) r (PG m cl)) cl) V r.inv))
  (fun i r=>let⟨a,eV,e⟩:=(show∃a,V=.ref a∧ρ[i]? =some a from r.inv)
   @Bool.rec (fun b=>Nat.blt i m=b→@Bool.casesOn (fun Z=>Option J) b (ej (d7 σ i) (F9 m σ p)) (some (.loc i))=some v'→cI c (ρ.take m) s.heap v' V)
    (fun hb q=>(eP q).elim fun o y=>(sr.at ((il _ _).symm.trans y.1)).elim fun a' z=>eV▸acB sr hs hk e (Nat.le_of_not_lt fun h=>Bool.noConfusion (hb.symm.trans (Nat.blt_eq.mpr h))) (aV (z.1.symm.trans e)▸z.2) y.2)
    (fun hb=>same _ (eV▸.loc ((bc (Nat.blt_eq.mp hb)).trans e))) (Nat.blt i m) rfl)
  (fun a r=>same _ ((show V=.ref a from r.inv)▸.dC a)) (fun x r=>same _ ((show V=.type x from r.inv)▸.typ x)) (fun x r=>same _ ((show V=.builtin x from r.inv)▸.blt x))
  (fun k r=>same _ (@Fq.rec c ρ s.heap k (fun V Z=>cI c (ρ.take m) s.heap (.exc k) V) (fun e c1 d1 f1 ed nd cd jb hs n1 n2 z1 z2=>.exc e c1 d1 f1 ed nd cd jb hs (oH m n1) (oH m n2) z1 z2) V r.inv))
  (fun Z=>same _ (.ip V))
end
theorem cI.kg(sr:SR c ρ σ s)(m:Nat):∀(k:Nat) {v v':J} {V:Value},cI c ρ s.heap v V→Mine.kg m σ k v=some v'→cI c (ρ.take m) s.heap v' V
 |0,_,_,_,_,q=>cw q
 |k+1,_,_,_,r,q=>acC sr (fun a b=>PH (fun a b=>cI.kg sr m k a b) a b) (fun a b=>PI (fun a b=>cI.kg sr m k a b) a b) r q
theorem cI.fz(sr:SR c ρ σ s)(m:Nat){v v':J}{V:Value}(r:cI c ρ s.heap v V)(q:Mine.fz m σ v=some v'):cI c (ρ.take m) s.heap v' V:=cI.kg sr m 14 r q
theorem SR.forget(sr:SR c ρ σ s)(m:Nat)(hb:(σ.take m).all (fF m)=true):SR c (ρ.take m) (σ.take m) s:=by
 refine⟨sr.gens,sr.os,by rw[List.length_take,List.length_take,sr.len],sr.nodup.sublist (List.take_sublist _ _),fun a ha=>sr.fresh a (List.mem_of_mem_take ha),sr.old,fun a ha=>let⟨q1,q2,q3⟩:=sr.d9 a ha;⟨q1,fun z=>q2 (List.mem_of_mem_take z),q3⟩,fun i a mo e1 e2=>?_⟩
 have zF:=bh hb mo (a0 e2)
 have hi:i<m:=Et e1
 exact(sr.obj i a mo ((bc hi).symm.trans e1) ((bc hi).symm.trans e2)).ef m zF
theorem Ext.forget{ρ cC:List Addr}{h h':Heap}(x:Ext ρ h cC h'){m:Nat}(hm:ρ.length≤m):Ext ρ h (cC.take m) h':=by
 obtain⟨new,rfl,hn⟩:=x.pre
 refine⟨⟨new.take (m - ρ.length),by rw[List.take_append,List.take_of_length_le hm],fun a ha=>hn a (List.mem_of_mem_take ha)⟩,x.same,x.live⟩
theorem ly.sub{φ ρ₂:List Addr}{h:Heap}{k:Int}{X:Value}(kY:∀a,dY c ρ a→dY (c.hide φ) ρ₂ a)(x:ly c ρ h k X):ly (c.hide φ) ρ₂ h k X:=
 ⟨x.1.sub (m:=0) kY (fun Z q=>absurd q (Nat.not_lt_zero _)) rfl,x.2.elim fun e z=>⟨e,z.1,z.2.elim fun oe y=>y.elim fun vs y=>⟨oe,vs,y.1,y.2.1,y.2.2.1,y.2.2.2.imp (fun g=>g) fun g=>g.elim fun T g=>g.elim fun oT g=>g.elim fun ts g=>⟨T,oT,ts,g.1,g.2.1,g.2.2.1,g.2.2.2.1,g.2.2.2.2.1,g.2.2.2.2.2.1,kY _ g.2.2.2.2.2.2.1,g.2.2.2.2.2.2.2⟩⟩⟩⟩
theorem ly.forget{h:Heap}{k:Int}{X:Value}(m:Nat)(x:ly c ρ h k X):ly c (ρ.take m) h k X:=x.sub (φ:=c.d9) fun Z q=>oH m q
def forget(m:Nat)(x:Out J):Out J:=ej x fun y=>gd (iJ m y.2) (@Res.casesOn J (fun Z=>Out J) y.1 (fun v=>ej (fz m y.2 v) fun v=>some (.ok v,gn m y.2)) fun k=>some (.fo k,gn m y.2))
inductive rQ(m:Nat)(σ:List MO):Res J→Res J→Prop
 |ok {v v':J}:fz m σ v=some v'→rQ m σ (.ok v) (.ok v')
 |fo {k:Int}:rQ m σ (.fo k) (.fo k)
theorem aaf{m:Nat}{x:Out J}{r:Res J}{cG:List MO}(h:forget m x=some (r,cG)):∃y σ1,x=some (y,σ1)∧(σ1.take m).all (fF m)=true∧cG=σ1.take m∧rQ m σ1 y r:=
 (eP h).elim fun y z=>let w:=gK z.2;⟨y.1,y.2,z.1,(t9 _ _).symm.trans w.1,
  @Res.casesOn J (fun q=>@Res.casesOn J (fun Z=>Out J) q (fun v=>ej (fz m y.2 v) fun v=>some (.ok v,gn m y.2)) (fun k=>some (.fo k,gn m y.2))=some (r,cG)→cG=y.2.take m∧rQ m y.2 q r) y.1
   (fun v h=>(eP h).elim fun v' z=>⟨(iA z.2).2.trans (oL _ _),(iA z.2).1▸.ok z.1⟩) (fun k h=>⟨(iA h).2.trans (oL _ _),(iA h).1.symm▸.fo⟩) w.2⟩
theorem rQ.IY{m:Nat}{σ:List MO}{b:J}{r:Res J}:rQ m σ (.ok b) r→∃v,r=.ok v∧fz m σ b=some v|.ok h=>⟨_,rfl,h⟩
theorem rQ.IJ{m:Nat}{σ:List MO}{k:Int}{r:Res J}:rQ m σ (.fo k) r→r=.fo k|.fo=>rfl
theorem Den.forget{t:Sem Value}{x:Out J}(h:Den c A (cI c) ρ s t x)(m:Nat)(hm:ρ.length≤m):Den c A (cI c) ρ s t (Mine.forget m x):=
 ⟨fun r cG hx Q E P=>(aaf hx).elim fun y z=>z.elim fun σ1 z=>h.run _ _ z.1 Q E
  ⟨fun b V cC s' hr e1 sr rv=>(rQ.IY (hr▸z.2.2.2)).elim fun v' w=>P.ok v' V (cC.take m) s' w.1 (e1.forget hm) (z.2.2.1▸sr.forget m z.2.1) (cI.fz sr m rv w.2),
  fun k X cC s' hr e1 sr fl=>P.fo k X (cC.take m) s' (rQ.IJ (hr▸z.2.2.2)) (e1.forget hm) (z.2.2.1▸sr.forget m z.2.1) (fl.forget m)⟩⟩
theorem SR.hidden(sr:SR c ρ σ s)(m:Nat)(hb:(σ.take m).all (fF m)=true):SR (c.hide (ρ.drop m++c.d9)) (ρ.take m) (σ.take m) s:=by
 have S:=sr.forget m hb
 have apart:∀a,a∈ρ.drop m→a∉ρ.take m:=fun a ha=>(List.mem_iff_getElem?.mp ha).elim fun i hi=>Ap sr.nodup (List.getElem?_drop.symm.trans hi) (Nat.le_add_right _ _)
 refine⟨S.gens,S.os,S.len,S.nodup,S.fresh,S.old,fun a ha=>(bg ha).elim (fun ha=>⟨sr.fresh a (List.mem_of_mem_drop ha),apart a ha,sr.live (List.mem_of_mem_drop ha)⟩) (S.d9 a),fun i a mo e1 e2=>?_⟩
 have hi:i<m:=Et e1
 exact(sr.obj i a mo ((bc hi).symm.trans e1) ((bc hi).symm.trans e2)).sub (fun a h=>⟨fun q=>h.1 (List.mem_of_mem_take q),fun q=>(bg q).elim (fun q=>h.1 (List.mem_of_mem_drop q)) h.2⟩) (fun Z hi=>bc hi) (bh hb mo (a0 e2))
theorem aay(m:Nat)(a:Addr)(h:dY c ρ a):dY (c.hide (ρ.drop m++c.d9)) (ρ.take m) a:=⟨fun q=>h.1 (List.mem_of_mem_take q),fun q=>(bg q).elim (fun q=>h.1 (List.mem_of_mem_drop q)) h.2⟩
theorem HZ(m:Nat)(a:Addr)(h:dY (c.hide (ρ.drop m++c.d9)) (ρ.take m) a):dY ((c.hide (ρ.drop m++c.d9)).hide c.d9) ρ a:=
 ⟨fun q=>by
  rw[←List.take_append_drop m ρ]at q
  exact(bg q).elim h.1 fun q=>h.2 (List.mem_append_left _ q),fun q=>h.2 (List.mem_append_right _ q)⟩
theorem Ext.shown{cC:List Addr}{h h':Heap}(m:Nat)(x:Ext (ρ.take m) h cC h'):Ext ρ h ρ h':=
 ⟨⟨[],by simp,fun Z ha=>nomatch ha⟩,fun b o e hb=>x.same b o e (fun q=>hb (List.mem_of_mem_take q)),x.live⟩
theorem eQ.sm{cC:List Addr}{h h':Heap}{a:Addr}{mo:MO}(x:Ext ρ h cC h')(k:∀o,h.get? a=some o→∃o',h'.get? a=some o'∧Sm o o')(m:eQ c ρ h a mo):eQ c cC h' a mo:=m.map x.weak.tr k (.inl trivial)
theorem Ext.EK{cC:List Addr}{h h':Heap}{m:Nat}(x:Ext (ρ.take m) h cC h')(hm:m≤ρ.length):cC.take m=ρ.take m∧m≤cC.length:=
 have hl:(ρ.take m).length=m:=List.length_take_of_le hm
 x.pre.elim fun new y=>y.1.symm▸⟨(List.take_append_of_le_length (Nat.le_of_eq hl.symm)).trans ((List.take_take ..).trans (congrArg (ρ.take ·) (Nat.min_self m))),Nat.le_trans (Nat.le_of_eq hl.symm) (List.length_append.symm▸Nat.le_add_right _ _)⟩
theorem SR.shown{cC:List Addr}{cG:List MO}{s':Shared}(sr:SR c ρ σ s)(m:Nat)(hm:m≤σ.length)(x:Ext (ρ.take m) s.heap cC s'.heap)(fM:SR (c.hide (ρ.drop m++c.d9)) cC cG s')(hb:(cG.take m).all (fF m)=true):SR c ρ (cG.take m++σ.drop m) s':=by
 obtain⟨ht,hl'⟩:=x.EK (sr.len▸hm)
 have j8:(cG.take m).length=m:=List.length_take_of_le (fM.len▸hl')
 refine⟨fM.gens,fM.os,?_,sr.nodup,sr.fresh,fM.old,fun a ha=>let q:=sr.d9 a ha;⟨q.1,q.2.1,q.2.2.elim fun o q3=>(x.live a o q3).elim fun o' q4=>⟨o',q4.1⟩⟩,fun i a mo e1 e2=>?_⟩
 ·rw[List.length_append,j8,List.length_drop,sr.len,Nat.add_sub_cancel' hm]
 ·rcases Nat.lt_or_ge i m with hi|hi
  ·have e2:=(bp (j8.symm▸hi)).symm.trans e2
   have zF:=bh hb mo (a0 e2)
   have e3:cC[i]? =some a:=(bc hi).symm.trans (ht▸(bc hi).trans e1)
   exact eQ.sub (c:=c.hide (ρ.drop m++c.d9)) (φ:=c.d9) (ρ:=ρ.take m) (ρ₂:=ρ) (m:=m) (HZ m) (fun i hi=>(bc hi).symm) zF (ht▸(fM.obj i a mo e3 ((bc hi).symm.trans e2)).ef m zF)
  ·have e2:=(bB (j8.symm▸hi)).symm.trans e2
   rw[j8,List.getElem?_drop,Nat.add_sub_cancel' hi]at e2
   exact(sr.obj i a mo e1 e2).sm (x.shown m) fun o e=>x.same a o e (Ap sr.nodup e1 hi)
noncomputable def sO{α:Type}(m:Nat):List α→Bool:=@Nat.rec (fun Z=>List α→Bool) (fun Z=>true) (fun Z ih l=>@List.rec α (fun Z=>Bool) false (fun Z t Z=>ih t) l) m
theorem H0{α:Type}:∀{m:Nat} {l:List α},sO m l=true→m≤l.length
 |0,_,_=>Nat.zero_le _
 |m+1,[],h=>by cases h
 |m+1,_::l,h=>Nat.succ_le_succ (H0 (m:=m) (l:=l) h)
def gC(m:Nat)(v:List J→List MO→Out J)(args:List J)(σ:List MO):Out J:=@Bool.casesOn (fun Z=>Out J) (band (sO m σ) (band (ek m args) (iJ m σ))) (v args σ)
 (ej (v args (gn m σ)) fun y=>gd (iJ m y.2) (@Res.casesOn J (fun Z=>Out J) y.1 (fun b=>ej (fz m y.2 b) fun b=>gd (ef m b) (some (.ok b,app (gn m y.2) (σ.drop m)))) fun k=>some (.fo k,app (gn m y.2) (σ.drop m))))
inductive rS(m:Nat)(σ:List MO):Res J→Res J→Prop
 |ok {v v':J}:fz m σ v=some v'→ef m v'=true→rS m σ (.ok v) (.ok v')
 |fo {k:Int}:rS m σ (.fo k) (.fo k)
theorem rS.IY{m:Nat}{σ:List MO}{b:J}{r:Res J}:rS m σ (.ok b) r→∃v,r=.ok v∧fz m σ b=some v∧ef m v=true|.ok h h'=>⟨_,rfl,h,h'⟩
theorem rS.IJ{m:Nat}{σ:List MO}{k:Int}{r:Res J}:rS m σ (.fo k) r→r=.fo k|.fo=>rfl
theorem Td{α:Type}{b:Bool}{x y:Option α}{r:α}:@Bool.casesOn (fun Z=>Option α) b x y=some r→(b=true∧y=some r)∨x=some r:=@Bool.casesOn (fun b=>@Bool.casesOn (fun Z=>Option α) b x y=some r→(b=true∧y=some r)∨x=some r) b .inr fun h=>.inl ⟨rfl,h⟩
theorem abB{m:Nat}{t:List MO}{x:Out J}{r:Res J}{cG:List MO}(h:(ej x fun y=>gd (iJ m y.2) (@Res.casesOn J (fun Z=>Out J) y.1 (fun b=>ej (fz m y.2 b) fun b=>gd (ef m b) (some (.ok b,app (gn m y.2) t))) fun k=>some (.fo k,app (gn m y.2) t)))=some (r,cG)):
  ∃y σ1,x=some (y,σ1)∧(σ1.take m).all (fF m)=true∧cG=σ1.take m++t∧rS m σ1 y r:=
 have ea:∀l:List MO,app (gn m l) t=l.take m++t:=fun l=>(nD _ _).trans (congrArg (·++t) (oL m l))
 (eP h).elim fun y z=>let w:=gK z.2;⟨y.1,y.2,z.1,(t9 _ _).symm.trans w.1,
  @Res.casesOn J (fun q=>@Res.casesOn J (fun Z=>Out J) q (fun b=>ej (fz m y.2 b) fun b=>gd (ef m b) (some (.ok b,app (gn m y.2) t))) (fun k=>some (.fo k,app (gn m y.2) t))=some (r,cG)→cG=y.2.take m++t∧rS m y.2 q r) y.1
   (fun v h=>(eP h).elim fun v' z=>let u:=gK z.2;⟨(iA u.2).2.trans (ea _),(iA u.2).1▸.ok z.1 u.1⟩) (fun k h=>⟨(iA h).2.trans (ea _),(iA h).1.symm▸.fo⟩) w.2⟩
theorem Den.gC{t:Sem Value}{v:List J→List MO→Out J}{args:List J}(m:Nat)(sr:SR c ρ σ s)
  (h0:ek m args=true→(σ.take m).all (fF m)=true→Den (c.hide (ρ.drop m++c.d9)) A (cI (c.hide (ρ.drop m++c.d9))) (ρ.take m) s t (v args (σ.take m))) (h1:Den c A (cI c) ρ s t (v args σ)):Den c A (cI c) ρ s t (Mine.gC m v args σ):=by
 refine⟨fun r cG hx Q E P=>(Td hx).elim (fun hx=>?_) fun hx=>h1.run _ _ hx Q E P⟩
 refine zz fun GG KK=>?_
 obtain⟨hc,hx⟩:=hx
 obtain⟨hm,hc⟩:=ew hc
 obtain⟨F6,hbs⟩:=ew hc
 have hm:=H0 hm
 obtain⟨y,σ1,hv,zG,rfl,hf⟩:=abB hx
 refine KK ((h0 F6 ((t9 _ _).symm.trans hbs)).run _ _ ((congrArg (v args) (oL m σ)).symm.trans hv) Q E ⟨fun b1 V cC s' hr e1 fM rv=>?_,fun k' X cC s' hr e1 fM fl=>?_⟩)
 ·refine(rS.IY (hr▸hf)).elim fun b' w=>?_
  have rv1:cI (c.hide (ρ.drop m++c.d9)) (cC.take m) s'.heap b' V:=cI.fz fM m rv w.2.1
  exact P.ok b' V ρ s' w.1 (e1.shown m) (sr.shown m hm e1 fM zG) (((e1.EK (sr.len▸hm)).1▸rv1).sub (φ:=c.d9) (m:=m) (HZ m) (fun i hi=>(bc hi).symm) w.2.2)
 ·have wy:ly (c.hide (ρ.drop m++c.d9)) (cC.take m) s'.heap k' X:=fl.forget m
  exact P.fo k' X ρ s' (rS.IJ (hr▸hf)) (e1.shown m) (sr.shown m hm e1 fM zG) (ly.sub (c:=c.hide (ρ.drop m++c.d9)) (φ:=c.d9) (ρ:=ρ.take m) (ρ₂:=ρ) (HZ m) ((e1.EK (sr.len▸hm)).1▸wy))
end
section
variable{c:Cx}{g:FC}{n:Nat}{A:Around}{env:Env}{f:Fr}{ρ:List Addr}{σ:List MO}{s:Shared}{tb:Tb}
theorem Ext.rk{h h':Heap}{a:Addr}(k:∀b o,h.get? b=some o→h'.get? b=some o)(ha:h.get? a=none):Ext ρ h (ρ++[a]) h':=
 ⟨⟨[a],rfl,fun b hb=>by rw[List.mem_singleton.mp hb];exact ha⟩,fun b o e Z=>⟨o,k b o e,Sm.refl _⟩,fun b o e=>⟨o,k b o e,rfl,rfl⟩⟩
theorem SR.rk(sr:SR c ρ σ s){h':Heap}{t:Nat}{a:Addr}{mo:MO}(k:∀b o,s.heap.get? b=some o→h'.get? b=some o)(ha:s.heap.get? a=none)(h0:c.h0.get? a=none)(m:eQ c (ρ++[a]) h' a mo):
  SR c (ρ++[a]) (σ++[mo]) {s with heap:=h',toks:=t}:=by
 refine⟨sr.gens,sr.os,by simp[sr.len],?_,?_,sr.old.step_keeps k,fun b hb=>let⟨q1,qn,o,q2⟩:=sr.d9 b hb;⟨q1,(fun hm=>(bg hm).elim qn fun hm=>by rw[List.mem_singleton.mp hm,ha]at q2;cases q2),o,k b o q2⟩,?_⟩
 ·rw[List.nodup_append]
  refine⟨sr.nodup,by simp,fun b hb b' wi=>?_⟩
  rw[List.mem_singleton.mp wi]
  rintro rfl
  exact Dd sr ha hb
 ·intro b hb
  rcases bg hb with hb|hb
  ·exact sr.fresh b hb
  ·rw[List.mem_singleton.mp hb];exact h0
 ·intro i b mo' e1 e2
  by_cases hi:i<ρ.length
  ·rw[List.getElem?_append_left hi]at e1
   rw[List.getElem?_append_left (by rw[←sr.len];exact hi)]at e2
   exact(sr.obj i b mo' e1 e2).keep (Ext.rk k ha) fun o' q=>k b o' q
  ·have qx:i=ρ.length:=by
    have:=(aZ e1).1
    simp at this;omega
   subst qx
   rw[List.getElem?_append_right (Nat.le_refl _)]at e1
   rw[sr.len,List.getElem?_append_right (Nat.le_refl _)]at e2
   simp at e1 e2
   subst e1 e2
   exact m
theorem Ee{C:Addr}{h h':Heap}(hC:C∈ρ)(hs:Heap.SameBut C h h'):kT ρ h ρ h':=
 ⟨⟨[],by simp,fun Z ha=>nomatch ha⟩,fun b o e hb Z=>⟨o,(hs.2 b fun q=>hb (q▸hC)).trans e,Sm.refl _⟩⟩
theorem Eu{ρ:List Addr}(hn:ρ.Nodup){i j m:Nat}{a b:Addr}(e1:ρ[i]? =some a)(e2:ρ[j]? =some b)(hi:i≠j):a≠b:=fun q=>by
 subst q
 obtain⟨l1,g1⟩:=aZ e1
 obtain⟨l2,g2⟩:=aZ e2
 exact hi ((List.getElem_inj hn).mp (g1.trans g2.symm))
theorem SR.yM(sr:SR c ρ σ s){i m:Nat}{C:Addr}{h':Heap}{t:Nat}(hi:ρ[i]? =some C)(hm:m≤i)(hs:Heap.SameBut C s.heap h')(hb:(σ.take m).all (fF m)=true):
  SR c (ρ.take m) (σ.take m) {s with heap:=h',toks:=t}:=by
 have hC:=a0 hi
 have ext:=Ee hC hs
 refine⟨sr.gens,sr.os,by rw[List.length_take,List.length_take,sr.len],sr.nodup.sublist (List.take_sublist _ _),fun a ha=>sr.fresh a (List.mem_of_mem_take ha),Ax sr.old (fun b o e=>hs.2 b fun z=>by rw[z,sr.fresh C hC]at e;cases e),fun b hb=>let⟨q1,qn,o,q2⟩:=sr.d9 b hb;⟨q1,fun z=>qn (List.mem_of_mem_take z),o,(hs.2 b fun z=>qn (z▸hC)).trans q2⟩,fun j a mo e1 e2=>?_⟩
 have zF:=bh hb mo (a0 e2)
 have hj:j<m:=by
  have:=(aZ e1).1
  rw[List.length_take]at this
  omega
 rw[List.getElem?_take_of_lt hj]at e1 e2
 have jU:a≠C:=Eu (m:=m) sr.nodup e1 hi (by omega)
 exact((sr.obj j a mo e1 e2).EZ ext fun o q=>(hs.2 a jU).trans q).ef m zF
theorem ly.yM{h h':Heap}{k:Int}{X:Value}{C:Addr}(m:Nat)(hC:C∈ρ)(hs:Heap.SameBut C h h')(x:mX c ρ h k X):mX c (ρ.take m) h' k X:=by
 refine zz fun GG KK=>?_
 obtain⟨rv,e,rfl,oe,vs,g1,g2,g3,g4⟩:=x
 obtain⟨oe',q1,q2,q3,q4⟩:=Er rv
 have he:e≠C:=fun z=>q4.1 (z▸hC)
 refine KK ?_
 refine⟨cI.ef m (rv.l7 (Ee hC hs)) rfl,e,rfl,oe,vs,(hs.2 e he).trans g1,g2,g3,?_⟩
 refine zz fun GG KK=>?_
 rcases g4 with⟨z,_⟩|⟨T,oT,ts,g4,rO,hT,cT,dT,rP,zD,wx⟩
 ·cases z
 ·refine KK ?_
  exact .inr ⟨T,oT,ts,g4,rO,(hs.2 T fun z=>zD.1 (z▸hC)).trans hT,cT,dT,rP,oH m zD,wx⟩
theorem ZS{prog:Program}{w:World}{E:Value→Shared→Prop}{l:Addr}{Vs:List Value}{m:Nat}{x:Value}{Q:Value→Shared→Prop}(hg:s.heap.get? l=some (gm Vs m))(j6:Vs.length≤sizeLine)
  (hQ:∀h' m',h'.get? l=some (gm (Vs++[x]) m')→Heap.SameBut l s.heap h'→Q .none {s with heap:=h'}):
  wpAny (model prog w) A (call (.builtin "list.append") [.ref l,x]) Q E s:=by
 refine call_meets PySem.slot_list_append (T:="list") ⟨_,hg,rfl⟩ PySem.entry_list_append (PySem.args_list_append _ _) (PySem.list_append l Vs.toArray m x (by rw[List.size_toArray];exact j6)) ⟨hg,?_⟩
 obtain⟨m',BR⟩:=OB Vs m (fun Ks=>Ks.push x)
 have zh:(s.heap.update l (Obj.mapSeq fun Ks=>Ks.push x)).get? l=some (gm (Vs++[x]) m'):=by
  rw[Heap.get?_update_self _ hg (by rw[BR];rfl),BR]
  simp
 exact hQ _ m' zh (Heap.SameBut.update ..)
def uf(d:Nat)(y:J)(σ:List MO):Out Unit:=match d7 σ d with
 |some (.lst l)=>match short l with
  |true=>ok () (put σ d (.lst (l++[y])))
  |false=>none
 |_=>none
theorem Rv{d:Nat}{D:Addr}{y:J}{Y:Value}(hd:ρ[d]? =some D)(sr:SR c ρ σ s)(ry:cI c ρ s.heap y Y):Den c A (fun _ _ (_:Unit) (V:Value)=>V=.none) ρ s (call (.builtin "list.append") [.ref D,Y]) (uf d y σ):=by
 refine⟨fun r cG hx Q E P=>?_⟩
 refine zz fun GG KK=>?_
 unfold uf at hx
 split at hx
 ·rename_i l hl
  rw[il]at hl
  split at hx
  ·rename_i hs
   cases hx
   obtain⟨a,ha,Vs,m,hg,rl⟩:=sr.at hl
   rw[hd]at ha;cases ha
   refine KK ?_
   refine ZS hg (by rw[rl.length];exact qj hs) fun h' m' oS iD=>?_
   have j7:∀fY,s.heap.get? D=some fY→(gm (Vs++[Y]) m').cls=fY.cls∧nf (gm (Vs++[Y]) m')=nf fY:=fun fY q=>by
    rw[hg]at q;cases q;exact⟨rfl,rfl⟩
   have ext:=Ext.turn (a0 hd) iD oS j7
   refine P.ok () _ ρ _ rfl ext ?_ rfl
   rw[lO]
   exact sr.turn (t:=s.toks) hd iD oS j7 ⟨_,m',oS,(rl.mono ext).append (.cons (ry.mono ext) .nil)⟩
  ·cases hx
 ·cases hx
end
theorem X4{prog:Program}{w:World}{A:Around}{R:Result→Shared→Prop}{s:Shared}{elt target iter:Expr}{ifs:List Expr}{scope:Scope}{pos:Pos}{it acc:Value}{env:Env}(I:Nat→Shared→Prop)
  (turn:∀n s,I n s→wpAny (model prog w) A (pyNext it) (fun r cD=>match r with
   |none=>R (.ok .next) cD
   |some v=>wpAny (model prog w) A (letOwnedTupleGo target it v) (fun Z R4=>wpAny (model prog w) A (assign target env v) (fun Z fu=>
    wpAny (model prog w) A (forIn ifs true fun c r=>if r=true then do let ok←isTrue c env (eval c env);pure (ForInStep.yield ok)else pure (ForInStep.yield r)) (fun ok kL=>
     if ok=true then wpAny (model prog w) A (eval elt env) (fun x iO=>
      wpAny (model prog w) A (call (.builtin "list.append") [acc,x]) (fun Z rD=>∃m,m<n∧I m rD) (notedBy (model prog w) A env fun e s'=>R (.error e) s') iO) (notedBy (model prog w) A env fun e s'=>R (.error e) s') kL
     else∃m,m<n∧I m kL) (notedBy (model prog w) A env fun e s'=>R (.error e) s') fu) (notedBy (model prog w) A env fun e s'=>R (.error e) s') R4) (notedBy (model prog w) A env fun e s'=>R (.error e) s') cD) (notedBy (model prog w) A env fun e s'=>R (.error e) s') s)
  (n:Nat) (h:I n s):
  codeAny (model prog w) A (.compLoop (.ListComp elt [⟨target,iter,ifs,0⟩] scope pos) 0 it acc env) R s:=by
 refine codeAny_loop rfl I (fun n s hI=>?_) n h
 show wpAny _ A ((compTurn (.ListComp elt [⟨target,iter,ifs,0⟩] scope pos) 0 it acc env).onRaise (fun x=>do noteFrame x env;theTreesLotGoes x)) _ _ s
 refine wpAny_noted ?_
 rw[compTurn_list]
 refine bC (wpAny_standAt (bC (wpAny_mono (turn n s hI) (fun r cD gL=>?_) fun Z Z h'=>h')))
 cases r with
 |none=>exact bD gL
 |some v=>
  refine bC (wpAny_mono gL (fun Z R4 gL=>?_) fun Z Z h'=>h')
  refine bC (wpAny_mono gL (fun Z fu jR=>bC (wpAny_mono jR (fun ok kL jS=>?_) fun Z Z h'=>h')) fun Z Z h'=>h')
  cases ok with
  |false=>exact bD ⟨rfl,jS⟩
  |true=>
   exact bC (bC (wpAny_mono jS (fun x iO vW=>bC (wpAny_mono vW (fun Z rD ja=>bD (bD ⟨rfl,ja⟩)) fun Z Z h'=>h')) fun Z Z h'=>h'))
def jV(c:Cx)(g:FC)(n:Nat)(ifs:List Expr)(x:Fr→List MO→Out Bool):Prop:=
 ∀A env f ρ σ s,g0 A n→fW c g A env f ρ s.heap→SR c ρ σ s→Den c A (Jq (c:=c)) ρ s (forIn ifs true fun c r=>if r=true then do let ok←isTrue c env (eval c env);pure (ForInStep.yield ok)else pure (ForInStep.yield r)) (x f σ)
theorem aL{c:Cx}{g:FC}{n:Nat}:jV c g n [] (fun Z σ=>ok true σ):=by
 intro A env f ρ σ s _ _ sr
 refine⟨fun r cG hx Q E P=>?_⟩
 cases hx
 exact wpAny_tests_nil (P.here sr rfl)
theorem jV.one{c:Cx}{g:FC}{n:Nat}{e:Expr}{x:Fr→List MO→Out Bool}(h:DT c g n e x):jV c g n [e] x:=by
 intro A env f ρ σ s hr he sr
 refine⟨fun r cG hx Q E P=>?_⟩
 exact wpAny_tests_one ((h A env f ρ σ s hr he sr).last hx P)
noncomputable def oJ(sc gs:Scope):Scope:={sc with names:=sc.names.map fun(n,k)=>if(k==.free&&gs.kind==.function&&gs.names.lookup n==some .cell)then(n,.cell)else(n,k)}
theorem aaz(sc:Scope)(env:Env):relabel sc env=oJ sc env.scope:=rfl
noncomputable def mD(env:Env):List (Str×NameKind)→List (Str×Addr)→List (Str×Addr)
 |[],acc=>acc
 |(n,k)::r,acc=>if k==.free then mD env r ((n,(env.cells.lookup n).getD 0)::acc)else mD env r acc
theorem OE{env:Env}:∀(names:List (Str×NameKind)) (acc:List (Str×Addr)),(∀x,(x,NameKind.free)∈names→(env.cells.lookup x).isSome=true)→
  (forIn names acc (fun(x:Str×NameKind) (cs:List (Str×Addr))=>(if x.2==.free then do let a←cellOf env x.1;pure (ForInStep.yield ((x.1,a)::cs))else pure (ForInStep.yield cs):Sem (ForInStep (List (Str×Addr))))))=pure (mD env names acc)
 |[],acc,_=>rfl
 |(n,k)::r,acc,h=>by
  have ih:=fun acc=>OE (env:=env) r acc fun x hx=>h x (bk _ hx)
  rw[List.forIn_cons]
  unfold mD
  by_cases hk:(k==NameKind.free)=true
  ·have uC:k=.free:=by simpa using hk
   subst uC
   obtain⟨a,ha⟩:=Option.isSome_iff_exists.mp (h n bo)
   have:cellOf env n=pure a:=by unfold cellOf;rw[ha]
   simp only[hk,if_true,this,pure_bind,ha,Option.getD_some]
   exact ih _
  ·have hk2:(k==NameKind.free)=false:=by simpa using hk
   simp only[hk2,Bool.false_eq_true,if_false,pure_bind]
   exact ih _
theorem Zm{scope:Scope}{env:Env}(h:∀x,(x,NameKind.free)∈scope.names→(env.cells.lookup x).isSome=true):closureFor scope env=pure (mD env scope.names []):=by
 have:=OE (env:=env) scope.names [] h
 unfold closureFor
 first
  |(simp only[bind_pure_comp,pure_bind]at this⊢;simpa using this)
  |(rw[show(forIn scope.names [] _:Sem (List (Str×Addr)))=_ from this];rfl)
theorem Ef{env:Env}:∀(names:List (Str×NameKind)) (acc:List (Str×Addr)),(∀p∈acc,p.2=(env.cells.lookup p.1).getD 0)→(∀p∈mD env names acc,p.2=(env.cells.lookup p.1).getD 0)∧(∀p∈acc,p∈mD env names acc)∧
  ∀x,(x,NameKind.free)∈names→(x,(env.cells.lookup x).getD 0)∈mD env names acc
 |[],acc,h=>⟨h,fun p hp=>hp,fun x hx=>by cases hx⟩
 |(n,k)::r,acc,h=>by
  unfold mD
  by_cases hk:(k==NameKind.free)=true
  ·rw[if_pos hk]
   have uC:k=.free:=by simpa using hk
   subst uC
   obtain⟨h1,h2,h3⟩:=Ef (env:=env) r ((n,(env.cells.lookup n).getD 0)::acc) fun p hp=>by
    rcases List.mem_cons.mp hp with rfl|hp
    ·rfl
    ·exact h p hp
   refine⟨h1,fun p hp=>h2 p (bk _ hp),fun x hx=>?_⟩
   rcases List.mem_cons.mp hx with e|hx
   ·cases e;exact h2 _ bo
   ·exact h3 x hx
  ·rw[if_neg hk]
   obtain⟨h1,h2,h3⟩:=Ef (env:=env) r acc h
   refine⟨h1,h2,fun x hx=>?_⟩
   rcases List.mem_cons.mp hx with e|hx
   ·cases e;exact absurd rfl hk
   ·exact h3 x hx
theorem HL{F:Str→Addr}:∀{l:List (Str×Addr)} {x:Str},(∀p∈l,p.2=F p.1)→(x,F x)∈l→l.lookup x=some (F x)
 |[],_,_,h=>by cases h
 |(n,a)::l,x,hF,h=>by
  rw[List.lookup_cons]
  cases hb:x==n with
  |true=>
   have:x=n:=by simpa using hb
   subst this
   have:=hF _ bo
   simp only at this
   rw[this]
  |false=>
   rcases List.mem_cons.mp h with e|h
   ·cases e;simp at hb
   ·exact HL (fun p hp=>hF p (bk _ hp)) h
noncomputable def pick:List Nat→List Nat→Option (List Nat)
 |[],_=>some []
 |j::js,cs=>ej (d7 cs j) fun i=>ej (pick js cs) fun l=>some (i::l)
theorem D8{cs:List Nat}:∀{js l:List Nat},pick js cs=some l→∀(k j:Nat),js[k]? =some j→∃i,l[k]? =some i∧cs[j]? =some i
 |[],_,_,_,_,q=>cw q
 |j::js,_,h,k,j',q=>(eP h).elim fun i y=>(eP y.2).elim fun l z=>aV z.2▸
  @Nat.casesOn (fun k=>(j::js)[k]? =some j'→∃i',(i::l)[k]? =some i'∧cs[j']? =some i') k (fun q=>aV q▸⟨i,rfl,(il _ _).symm.trans y.1⟩) (fun k q=>D8 z.1 k j' q) q
structure oR(sc:Scope)(cn cn':List Str)(fJ:List Nat):Prop where
 all:∀x,(x,NameKind.free)∈sc.names→x∈cn'
 at_:∀(k:Nat) (x:Str),cn'[k]? =some x→(x,NameKind.free)∈sc.names∧∃j,fJ[k]? =some j∧cn[j]? =some x
theorem fW.comp{c:Cx}{g g':FC}{A:Around}{env:Env}{f:Fr}{ρ:List Addr}{h:Heap}{sc:Scope}{fJ cs:List Nat}{C:Addr}{i:Nat}(he:fW c g A env f ρ h)(hs:g'.scope=oJ sc g.scope)(hk:sc.kind=.function)
  (hc:oR sc g.cn g'.cn fJ) (wG:g'.code=none) (hp:pick fJ f.cs=some cs) (hi:ρ[i]? =some C):fW c g' A (compEnvC sc (mD env sc.names []) C env) ⟨i,cs⟩ ρ h where
 scope:=by rw[hs];show relabel sc env=_;rw[aaz,he.scope]
 kind:=by rw[hs];exact hk
 loc:=hi
 glob:=he.glob
 blt:=he.blt
 cell:=fun j x k h1 h2=>by
  obtain⟨hx,j',h3,h4⟩:=hc.at_ j x h1
  obtain⟨i',h5,h6⟩:=D8 hp j j' h3
  have h2:cs[j]? =some k:=h2
  rw[h5]at h2;cases h2
  obtain⟨a,h7,h8⟩:=he.cell j' x _ h4 h6
  refine⟨a,?_,h8⟩
  obtain⟨m1,_,m3⟩:=Ef (env:=env) sc.names [] (fun p hp=>by cases hp)
  have:=HL (F:=fun y=>(env.cells.lookup y).getD 0) m1 (m3 x hx)
  show(mD env sc.names []).lookup x=some a
  rw[this,h7];rfl
 here:=he.here
 nM:=he.nM
 code:=fun cc h=>by rw[wG]at h;cases h
theorem fW.closure{c:Cx}{g:FC}{A:Around}{env:Env}{f:Fr}{ρ:List Addr}{h:Heap}{sc:Scope}{cn':List Str}{fJ cs:List Nat}(he:fW c g A env f ρ h)
  (hc:oR sc g.cn cn' fJ) (hp:pick fJ f.cs=some cs):closureFor sc env=pure (mD env sc.names []):=Zm fun x hx=>by
 obtain⟨k,hk,hkx⟩:=List.getElem_of_mem (hc.all x hx)
 obtain⟨_,j,h3,h4⟩:=hc.at_ k x (by rw[List.getElem?_eq_getElem hk,hkx])
 obtain⟨i,h5,h6⟩:=D8 hp k j h3
 obtain⟨a,h7,_⟩:=he.cell j x i h4 h6
 rw[h7];rfl
noncomputable def jG(d:Nat)(t:Fr→J→List MO→Out Unit)(q:Fr→List MO→Out Bool)(x:Fr→List MO→Out J)(gd:Option Nat):List J→Fr→List MO→Out Unit
 |[],_,σ=>Mine.gd (oi gd σ) (ok () σ)
 |v::l,f,σ=>Mine.gd (oi gd σ) (dk (t f v σ) fun Z σ=>dk (q f σ) fun b σ=>@Bool.casesOn (fun Z=>Out Unit) b (jG d t q x gd l f σ) (dk (x f σ) fun y σ=>dk (uf d y σ) fun Z σ=>jG d t q x gd l f σ))
def Jw(m d:Nat)(σ:List MO)(r:Res Unit):Out J:=@Res.casesOn Unit (fun Z=>Out J) r (fun Z=>tL σ d fun l=>gd (ek m l) (some (.ok (.lst l),gn m σ))) fun k=>some (.fo k,gn m σ)
def fin(m d:Nat)(x:Out Unit):Out J:=ej x fun y=>gd (iJ m y.2) (tF y.2 (d+1) fun Z Z=>Jw m d y.2 y.1)
inductive zi(m d:Nat)(σ:List MO):Res Unit→Res J→Prop
 |ok {l:List J}:σ[d]? =some (.lst l)→ek m l=true→zi m d σ (.ok ()) (.ok (.lst l))
 |fo {k:Int}:zi m d σ (.fo k) (.fo k)
theorem aa6{m d:Nat}{r0:Res Unit}{jg:List MO}{r:Res J}{cG:List MO}:Jw m d jg r0=some (r,cG)→cG=jg.take m∧zi m d jg r0 r:=
 @Res.casesOn Unit (fun r0=>Jw m d jg r0=some (r,cG)→cG=jg.take m∧zi m d jg r0 r) r0
  (fun Z h=>(acm h).elim fun Z y=>let z:=gK y.2;let w:=iA z.2;⟨w.2.trans (oL _ _),w.1▸.ok ((il _ _).symm.trans y.1) z.1⟩)
  (fun Z h=>let w:=iA h;⟨w.2.trans (oL _ _),w.1▸.fo⟩)
theorem abC{m d:Nat}{x:Out Unit}{r:Res J}{cG:List MO}(h:fin m d x=some (r,cG)):∃r0 jg,x=some (r0,jg)∧(jg.take m).all (fF m)=true∧(∃k l,jg[d+1]? =some (.fr k l))∧cG=jg.take m∧zi m d jg r0 r:=
 (eP h).elim fun y z=>let w:=gK z.2;(Ig w.2).elim fun k u=>u.elim fun l u=>⟨y.1,y.2,z.1,(t9 _ _).symm.trans w.1,⟨k,l,(il _ _).symm.trans u.1⟩,aa6 u.2⟩
def jo(k' w:Nat)(fJ:List Nat)(src:Fr→List MO→Out Src)(t:Fr→J→List MO→Out Unit)(q:Fr→List MO→Out Bool)(x:Fr→List MO→Out J)(f:Fr)(σ:List MO):Out J:=
 ej (pick fJ f.cs) fun cs=>dk (src f σ) fun items σ₁=>fin (len σ₁) (len σ₁) (jG (len σ₁) t q x items.2 items.1 ⟨len σ₁+1,cs⟩ (app (app σ₁ [.lst []]) [.fr k' (rep w none)]))
theorem Io{α:Type}{l:List α}{x:α}{m i:Nat}(hm:m≤l.length)(hi:i<m):(l.take m++[x])[i]? =l[i]? :=
 (bp ((List.length_take_of_le hm).symm▸hi)).trans (bc hi)
theorem PJ{α:Type}{l:List α}{x a:α}{m:Nat}(hx:x∈l)(ha:a∈l.take m++[x]):a∈l:=(bg ha).elim List.mem_of_mem_take fun h=>a_ h▸hx
theorem Ext.rebase{ρ cC new:List Addr}{h h':Heap}(x:Ext ρ h cC h')(hn:∃adx,cC=(ρ++new)++adx):Ext (ρ++new) h cC h':=by
 obtain⟨n1,e1,f1⟩:=x.pre
 obtain⟨n2,e2⟩:=hn
 have:n1=new++n2:=by rw[e1,List.append_assoc]at e2;exact List.append_cancel_left e2
 refine⟨⟨n2,e2,fun a ha=>f1 a (by rw[this];exact List.mem_append_right _ ha)⟩,fun b o e hb=>x.same b o e fun q=>hb (List.mem_append_left _ q),x.live⟩
theorem Ext.base{ρ cC new:List Addr}{h h':Heap}(x:Ext (ρ++new) h cC h')(hn:∀a∈new,h.get? a=none):Ext ρ h cC h':=by
 obtain⟨n1,e1,f1⟩:=x.pre
 refine⟨⟨new++n1,by rw[e1,List.append_assoc],fun a ha=>?_⟩,fun b o e hb=>x.same b o e fun q=>?_,x.live⟩
 ·rcases bg ha with ha|ha
  ·exact hn a ha
  ·exact f1 a ha
 ·rcases bg q with q|q
  ·exact hb q
  ·rw[hn b q]at e;cases e
theorem Ext.Fv{ρ cC:List Addr}{h h' pJ:Heap}{C:Addr}(x:Ext ρ h cC h')(hC:h.get? C=none)(hs:Heap.SameBut C h' pJ):Ext ρ h cC pJ:=
 x.after (wr:=[C]) (fun b o hb e=>(hs.2 b fun z=>hb (by rw[z];exact List.mem_singleton_self _)).trans e) fun b hb=>by rw[List.mem_singleton.mp hb];exact hC
theorem Rx{α:Type}{x a:α}:∀{j:Nat},[x][j]? =some a→j=0∧x=a
 |0,h=>⟨rfl,aV h⟩
 |_+1,h=>cw h
theorem SR.narrow{c:Cx}{ρ:List Addr}{σ:List MO}{s:Shared}(sr:SR c ρ σ s){i m:Nat}{C:Addr}(hi:ρ[i]? =some C)(hm:m≤i)(hb:(σ.take m).all (fF m)=true):SR c (ρ.take m++[C]) (σ.take m++[.dead]) s:=by
 have hC:=a0 hi
 have wH:m≤ρ.length:=Nat.le_of_lt (Nat.lt_of_le_of_lt hm (aZ hi).1)
 have zH:m≤σ.length:=sr.len▸wH
 have hl:(ρ.take m).length=m:=List.length_take_of_le wH
 have j8:(σ.take m).length=m:=List.length_take_of_le zH
 have kY:∀a∈ρ.take m++[C],a∈ρ:=fun a ha=>PJ hC ha
 have lU:∀j,j<m→(ρ.take m++[C])[j]? =ρ[j]? :=fun j hj=>Io wH hj
 refine⟨sr.gens,sr.os,by rw[List.length_append,List.length_append,hl,j8];rfl,?_,fun a ha=>sr.fresh a (kY a ha),sr.old,fun a ha=>let q:=sr.d9 a ha;⟨q.1,fun z=>q.2.1 (kY a z),q.2.2⟩,fun j a mo e1 e2=>?_⟩
 ·exact List.nodup_append.mpr ⟨sr.nodup.sublist (List.take_sublist _ _),List.nodup_cons.mpr ⟨bz,List.nodup_nil⟩,fun a ha b wi e=>Ap sr.nodup hi hm (a_ wi▸e▸ha)⟩
 ·rcases Nat.lt_or_ge j m with hj|hj
  ·have e2:=(Io zH hj).symm.trans e2
   exact(sr.obj j a mo ((lU j hj).symm.trans e1) e2).sub (φ:=c.d9) (QL kY) lU (bh hb mo (a0 ((bc hj).trans e2)))
  ·have e2:=(bB (j8.symm▸hj)).symm.trans e2
   have e1:=(bB (hl.symm▸hj)).symm.trans e1
   rw[hl]at e1;rw[j8]at e2
   obtain⟨h0,h1⟩:=Rx e1
   exact h1▸(Rx e2).2▸sr.live hC
section
variable{c:Cx}{g g':FC}{n:Nat}{A:Around}{env:Env}{f:Fr}{ρ:List Addr}{σ:List MO}{s:Shared}
theorem acD{k:Int}{X:Value}{agf:String}{Te:Env}{E:Value→Shared→Prop}(sr:SR c ρ σ s)(fl:mX c ρ s.heap k X)
  (h:∀h',Ext ρ s.heap ρ h'→SR c ρ σ {s with heap:=h'}→mX c ρ h' k X→E X {s with heap:=h'}):wpAny (model c.prog c.w) A (passOn agf X Te:Sem Value) (fun Z Z=>False) E s:=by
 unfold PySem.passOn
 refine zz fun GG KK=>?_
 obtain⟨rv,e,rfl,oe,vs,g1,g2,g3,g4⟩:=id fl
 rcases g4 with⟨q,_⟩|⟨T,oT,ts,g4,_⟩
 ·cases q
 ·refine KK ?_
  refine bC (wpAny_field g1 g2 g4 ?_)
  rw[if_neg (by simp)]
  exact bC (As sr fl fun h' e1 cY wy=>wpAny_throw (h h' e1 cY wy))
theorem aa7{elt tg iter:Expr}{ifs:List Expr}{sc:Scope}{pos:Pos}{t:Fr→J→List MO→Out Unit}{q:Fr→List MO→Out Bool}{x:Fr→List MO→Out J}
  (ht:DA c g' n tg t) (hq:jV c g' n ifs q) (hx:DE c g' n elt x) (hr:g0 A n) {R:List Addr} {H:Heap} {D I:Addr} {m:Nat} {f':Fr} {ce:Env} {r0:Res Unit} {jg fU:List MO} {items:List J} {gd:Option Nat} {wr:List Addr} {St:Nat→List Addr→Heap→Prop}
  {Rz:Result→Shared→Prop} (ug:∀{cC h'},Ext R H cC h'→fW c g' A ce f' cC h') (hD:R[m]? =some D) (h4:It c A tg I items gd wr St) (h6:∀b∈wr,H.get? b=none)
  (P0:iT c (S_ (c:=c)) R H r0 jg (fun(_:Unit) s'=>Rz (.ok .next) s') (notedBy (model c.prog c.w) A ce fun e s'=>Rz (.error e) s'))
  (eB:Ext R H R s.heap) (hJ:SR c R fU s) (zI:St 0 R s.heap) (hm:jG m t q x gd items f' fU=some (r0,jg)):
  codeAny (model c.prog c.w) A (.compLoop (.ListComp elt [⟨tg,iter,ifs,0⟩] sc pos) 0 (.ref I) (.ref D) ce) Rz s:=by
 refine X4 (fun k s'=>∃i cC fU,Ext R H cC s'.heap∧SR c cC fU s'∧St i cC s'.heap∧k=items.length - i∧i≤items.length∧jG m t q x gd (items.drop i) f' fU=some (r0,jg)) (fun k s' hI=>?_) items.length ⟨0,_,_,eB,hJ,zI,rfl,Nat.zero_le _,hm⟩
 refine zz fun GG KK=>?_
 obtain⟨i,cC,fU,ex,Vm,st,rfl,hi,nJ⟩:=hI
 refine KK ?_
 rcases OD items i with⟨hd,agg⟩|⟨v,hv,hd⟩
 ·rw[hd]at nJ
  have hz:=gK nJ
  exact h4.done cC _ s' _ _ (Nat.le_antisymm hi agg▸st) Vm hz.1 fun h' tk k' fM=>P0.S6 (V:=()) hz.2 (ex.after k' h6) fM trivial
 ·rw[hd]at nJ
  have hz:=gK nJ
  refine wpAny_mono (h4.item i cC fU s' v _ _ hv st Vm hz.1 fun V h' tk k' fM wC wF=>?_) (fun r cD nN=>nN.elim fun V y=>y.1▸y.2) fun Z Z z=>z
  have pK:=ex.after k' h6
  refine(ht A _ _ cC fU {s' with heap:=h',toks:=tk} v V hr (ug pK) fM wC).step hz.2 (P0.ext pK) fun Z Z ρ₂ qo fu Vn agh Z Kq P3=>?_
  replace pK:=pK.trans Vn
  replace wF:=h4.mono _ _ _ _ _ wF Vn
  refine(hq A _ _ ρ₂ qo fu hr (ug pK) agh).step Kq P3 fun bb B ph A0 kL Vo Tf rb F8 P4=>?_
  replace pK:=pK.trans Vo
  replace wF:=h4.mono _ _ _ _ _ wF Vo
  have gD:i<items.length:=(aZ hv).1
  have fin:∀{A9:List Addr} {A_:List MO} {rD:Shared},Ext ph kL.heap A9 rD.heap→SR c A9 A_ rD→jG m t q x gd (items.drop (i+1)) f' A_=some (r0,jg)→∃k,k<items.length - i∧∃i cC fU,Ext R H cC rD.heap∧SR c cC fU rD∧St i cC rD.heap∧k=items.length - i∧i≤items.length∧jG m t q x gd (items.drop i) f' fU=some (r0,jg):=
   fun{A9 A_ rD} e sr r=>⟨_,Nat.sub_lt_sub_left gD (Nat.lt_succ_self i),i+1,A9,A_,pK.trans e,sr,h4.mono _ _ _ _ _ wF e,rfl,gD,r⟩
  cases rb
  cases bb with
  |false=>exact fin (Ext.refl _ _) Tf F8
  |true=>
   refine(hx A _ _ ph A0 kL hr (ug pK) Tf).step F8 P4 fun yv Y R0 aoG iO Vp agi ry hr5 P5=>?_
   exact(Rv ((pK.trans Vp).get hD) agi ry).step hr5 P5 fun Z Z A9 A_ rD e6' agj Z hr6 P6=>fin (Vp.trans e6') agj hr6
theorem aa8{R:List Addr}{H:Heap}{D C:Addr}{m:Nat}{f':Fr}{ce:Env}{r0:Res Unit}{r:Res J}{jg:List MO}{use:Option (Value→Sem Unit)}{Q:Value→Shared→Prop}{E:Value→Shared→Prop}
  (ug:∀{cC h'},Ext R H cC h'→fW c g' A ce f' cC h') (hD:R[m]? =some D) (hC:R[m+1]? =some C) (BY:H.get? C=none) (Br:∀{cC h'},Ext R H cC h'→Ext ρ H cC h') (hle:ρ.length≤m)
  (hb:(jg.take m).all (fF m)=true) (ju:∃k l,jg[m+1]? =some (.fr k l)) (hf:zi m m jg r0 r)
  (Kt:∀l D C kD s' mm,r=.ok (.lst l)→Ext ρ H (kD++[C]) s'.heap→SR c (kD++[C]) (jg.take m++[.dead]) s'→cI c (kD++[C]) s'.heap (.lst l) (.ref D)→ek (jg.take m).length l=true→(jg.take m).all (fF (jg.take m).length)=true→s'.heap.Ns C mm→H.get? C=none→ρ.length≤kD.length→
   compPost (model c.prog c.w) A E use Q (.ref D) C (.ok .next) s')
  (Fw:∀k X cW cD,r=.fo k→Ext ρ H cW cD.heap→SR c cW (jg.take m) cD→ly c cW cD.heap k X→E X cD):
  iT c (S_ (c:=c)) R H r0 jg (fun(_:Unit) s'=>compPost (model c.prog c.w) A E use Q (.ref D) C (.ok .next) s') (notedBy (model c.prog c.w) A ce fun e s'=>compPost (model c.prog c.w) A E use Q (.ref D) C (.error e) s'):=by
 have Vq:∀{cC s'},Ext R H cC s'.heap→SR c cC jg s'→∃m,s'.heap.Ns C m:=fun{cC s'} e fM=>ju.elim fun Z y=>y.elim fun Z y=>(fM.at y).elim fun a z=>z.2.elim fun mm z2=>⟨mm,aV ((z.1.symm.trans (e.get hC)))▸z2.1⟩
 cases hf with
 |@ok l hl F_=>
  refine⟨fun b V cC s' Z ex fM Z=>?_,fun Z Z Z Z q=>(nomatch q)⟩
  have BZ:=ex.get hD
  have pL:=ex.get hC
  have wH:m≤cC.length:=Nat.le_of_lt (aZ BZ).1
  have rU:(jg.take m).length=m:=List.length_take_of_le (fM.len▸wH)
  have agk:Ext ρ H (cC.take m++[C]) s'.heap:=
   let e:=(Br ex).forget hle
   e.pre.elim fun nw2 y=>⟨⟨nw2++[C],y.1▸List.append_assoc _ _ _,fun a ha=>(bg ha).elim (y.2 a) fun ha=>a_ ha▸BY⟩,e.same,e.live⟩
  refine zz fun GG KK=>?_
  obtain⟨mm,ns⟩:=Vq ex fM
  obtain⟨a,ha,Vs,mk,hg,rl⟩:=fM.at hl
  obtain rfl:=aV (ha.symm.trans BZ)
  refine KK (Kt l a C (cC.take m) s' mm rfl agk (fM.narrow pL (Nat.le_succ _) hb) ?_ (rU.symm▸F_) (rU.symm▸hb) ns BY ((List.length_take_of_le wH).symm▸hle))
  exact .lst hg ⟨fun hm=>(bg hm).elim (Ap fM.nodup BZ (Nat.le_refl _)) fun hm=>Eu (m:=0) fM.nodup BZ pL (bx (Nat.lt_succ_self m)) (a_ hm),(fM.AI BZ (Nat.le_refl _)).2⟩
   (dh.sub (φ:=c.d9) (QL fun a ha=>PJ (a0 pL) ha) (fun i hi=>Io wH hi) rl F_)
 |@fo k=>
  refine⟨fun Z Z Z Z q=>(nomatch q),fun k' X cC s' Ku ex fM fl=>?_⟩
  cases Ku
  refine Es (ug ex) fM fl fun h2 pK Tg BV=>?_
  replace ex:=ex.trans pK
  refine(Vq (s':={s' with heap:=h2}) ex Tg).elim fun mm ns=>⟨mm,ns,fun h' iD Te Z=>?_⟩
  have pL:=ex.get hC
  refine acD (s:={s' with heap:=h'}) (Tg.yM (t:=s'.toks) pL (Nat.le_succ _) iD hb) (ly.yM m (a0 pL) iD BV) fun h5 ex5 B5 Ga=>?_
  exact Fw _ X (cC.take m) {s' with heap:=h5} rfl ((((Br ex).Fv BY iD).forget hle).trans ex5) B5 Ga.F7
theorem aa9{m w:Nat}{D C:Addr}{jS:Heap}{cW:List Addr}{σ1:List MO}{cD:Shared}{od:Obj}(hw:(c.dE m).length=w)(e1:Ext ρ s.heap cW cD.heap)(cY:SR c cW σ1 cD)(hD:cD.heap.objs.size=D)(hC:(cD.heap.push (gm [] 0)).objs.size=C)
  (jb:jS.Ns C fun Z=>none) (ti:Heap.SameBut C ((cD.heap.push (gm [] 0)).push od) jS):
  ∃R,R[σ1.length]? =some D∧R[σ1.length+1]? =some C∧Ext cW cD.heap R jS∧SR c R ((σ1++[.lst []])++[.fr m (List.replicate w none)]) {cD with heap:=jS}∧s.heap.get? C=none∧Ext R s.heap R jS∧(∀{cC h'},Ext R s.heap cC h'→Ext ρ s.heap cC h')∧ρ.length≤σ1.length:=by
 subst hD
 have fh:=cY.oG (o:=gm [] 0) (mo:=.lst []) ⟨[],0,bf _ rfl,.nil⟩
 have rL:(cD.heap.push (gm [] 0)).get? C=none:=hC▸kS _
 have k3:∀b o,(cD.heap.push (gm [] 0)).get? b=some o→jS.get? b=some o:=fun b o e=>(ti.2 b fun z=>cw (rL.symm.trans (z▸e))).trans (aX _ e)
 have hJ:=fh.rk (t:=cD.toks) (mo:=.fr m (List.replicate w none)) k3 rL (hC▸fh.t5) ⟨_,jb,List.length_replicate.trans hw.symm,fun i y p Z q2=>(List.mem_replicate.mp (a0 q2)).2.symm▸trivial⟩
 have e2:Ext cW cD.heap (cW++[cD.heap.objs.size]) (cD.heap.push (gm [] 0)):=Ext.oG _
 have e3:=e2.trans (Ext.rk k3 rL)
 have Th:cD.heap.get? C=none:=@Option.casesOn Obj (fun x=>cD.heap.get? C=x→x=none) (cD.heap.get? C) (fun Z=>rfl) (fun Z z=>cw (rL.symm.trans (aX _ z))) rfl
 refine zz fun GG KK=>?_
 obtain⟨nw,Vr,j7⟩:=e1.pre
 refine KK ?_
 have hlen:cW.length=σ1.length:=cY.len
 have Ba:(cW++[cD.heap.objs.size])++[C]=ρ++(nw++[cD.heap.objs.size]++[C]):=by rw[Vr,List.append_assoc,List.append_assoc,List.append_assoc]
 have agl:∀a∈nw++[cD.heap.objs.size]++[C],s.heap.get? a=none:=fun a ha=>(bg ha).elim (fun ha=>(bg ha).elim (j7 a) fun ha=>a_ ha▸ve e1 (kS _)) fun ha=>a_ ha▸ve e1 Th
 have j8:(cW++[cD.heap.objs.size]).length=σ1.length+1:=List.length_append.trans (congrArg (·+1) hlen)
 refine⟨_,?_,?_,e3,hJ,ve e1 Th,?_,fun{cC h'} e=>Ext.base (Ba▸e) agl,hlen▸Vr▸List.length_append.symm▸Nat.le_add_right _ _⟩
 ·exact(bp (j8.symm▸Nat.lt_succ_self _)).trans (hlen▸List.getElem?_concat_length)
 ·exact j8▸List.getElem?_concat_length
 ·have:=(e1.trans e3).rebase (new:=nw++[cD.heap.objs.size]++[C]) ⟨[],Ba▸(List.append_nil _).symm⟩
  exact Ba.symm▸this
theorem PL{elt tg iter:Expr}{ifs:List Expr}{sc:Scope}{pos:Pos}{w:Nat}{fJ:List Nat}{src:Fr→List MO→Out Src}{t:Fr→J→List MO→Out Unit}{q:Fr→List MO→Out Bool}{x:Fr→List MO→Out J}
  (s_:DI c g n tg iter src) (ht:DA c g' n tg t) (hq:jV c g' n ifs q) (hx:DE c g' n elt x) (m9:g'.scope=oJ sc g.scope) (hk:sc.kind=.function) (hc:oR sc g.cn g'.cn fJ) (wG:g'.code=none)
  (hw:(c.dE g'.k).length=w) (qq:∀y∈sc.names,y.2≠.cell) (AP:∀y∈sc.names,y.2=.local→sc.names.lookup y.1=some .local) (hs:∀env V,foldedSetIterable iter env V=pure V)
  {use:Option (Value→Sem Unit)} {Q:Value→Shared→Prop} {E:Value→Shared→Prop} {lR:Pos} {r:Res J} {cG:List MO} (hr:g0 A n) (he:fW c g A env f ρ s.heap) (sr:SR c ρ σ s) (hX:jo g'.k w fJ src t q x f σ=some (r,cG))
  (Kt:∀l D C kD s' mm,r=.ok (.lst l)→Ext ρ s.heap (kD++[C]) s'.heap→SR c (kD++[C]) (cG++[.dead]) s'→cI c (kD++[C]) s'.heap (.lst l) (.ref D)→ek cG.length l=true→cG.all (fF cG.length)=true→s'.heap.Ns C mm→s.heap.get? C=none→ρ.length≤kD.length→
   compPost (model c.prog c.w) A E use Q (.ref D) C (.ok .next) s')
  (Fw:∀k X cW cD,r=.fo k→Ext ρ s.heap cW cD.heap→SR c cW cG cD→ly c cW cD.heap k X→E X cD):
  wpAny (model c.prog c.w) A (comprehension (.ListComp elt [⟨tg,iter,ifs,0⟩] sc pos) sc env lR (newList []) false (eval iter env) use) Q E s:=by
 refine zz fun GG KK=>?_
 obtain⟨cs,hp,hX⟩:=eP hX
 refine KK ?_
 refine wpAny_comprehension_free (gs:=[]) rfl (hs env) (he.closure hc hp) hk AP ?_
 show wpAny _ A (eval iter env) _ E s
 cases Kv:src f σ with
 |none=>rw[Kv]at hX;exact cw hX
 |some y=>
  rw[Kv]at hX
  refine s_ A env f ρ σ s hr he sr y.1 y.2 Kv _ E (fun items gd cW I wr St cD h1 e1 cY h4 h5 h6=>?_) (fun k X cW cD h1 h2 h3 h4=>?_)
  ·obtain⟨r1,σ1⟩:=y
   obtain rfl:r1=_:=h1
   have hX:fin (len σ1) (len σ1) (jG (len σ1) t q x gd items ⟨len σ1+1,cs⟩ (app (app σ1 [.lst []]) [.fr g'.k (rep w none)]))=some (r,cG):=hX
   rw[len_eq,nD,nD,EI]at hX
   refine wpAny_newObj_type (wpAny_newFunctionEnv qq (fun Z hy=>nomatch hy) (fun jS jb ti=>?_) hk)
   obtain⟨R,q1,q2,e3,hJ,BY,eB,Br,hle⟩:=aa9 (m:=g'.k) hw e1 cY rfl rfl jb ti
   obtain⟨r0,jg,hm,hb,ju,rfl,hf⟩:=abC hX
   have ug:∀{cC h'},Ext R s.heap cC h'→fW c g' A (compEnvC sc (mD env sc.names []) _ env) ⟨σ1.length+1,cs⟩ cC h':=fun{cC h'} e=>(he.mono (Br e)).comp m9 hk hc wG hp (e.get q2)
   have zI:St 0 R jS:=h4.mono _ _ _ _ _ h5 e3
   have loop:=aa7 (s:={cD with heap:=jS}) (iter:=iter) (sc:=sc) (pos:=pos) ht hq hx hr ug q1 h4 h6 (aa8 ug q1 q2 BY Br hle hb ju hf Kt Fw) eB hJ zI hm
   exact codeAny_compStart_list loop (h4.self 0 _ _ _ _ zI loop)
  ·obtain⟨r1,σ1⟩:=y
   obtain rfl:r1=_:=h1
   exact Fw k X cW cD (iA hX).1 h2 ((iA hX).2.symm▸h3) h4
theorem yQ{α:Type}(l:List α)(x:α):(l++[x]).take l.length=l:=by simp
theorem acE{elt tg iter:Expr}{ifs:List Expr}{sc:Scope}{pos:Pos}{w:Nat}{fJ:List Nat}{src:Fr→List MO→Out Src}{t:Fr→J→List MO→Out Unit}{q:Fr→List MO→Out Bool}{x:Fr→List MO→Out J}
  (s_:DI c g n tg iter src) (ht:DA c g' n tg t) (hq:jV c g' n ifs q) (hx:DE c g' n elt x) (m9:g'.scope=oJ sc g.scope) (hk:sc.kind=.function) (hc:oR sc g.cn g'.cn fJ) (wG:g'.code=none)
  (hw:(c.dE g'.k).length=w) (qq:∀y∈sc.names,y.2≠.cell) (AP:∀y∈sc.names,y.2=.local→sc.names.lookup y.1=some .local) (hs:∀env V,foldedSetIterable iter env V=pure V):
  DE c g n (.ListComp elt [⟨tg,iter,ifs,0⟩] sc pos) (jo g'.k w fJ src t q x):=by
 intro A env f ρ σ s hr he sr
 refine⟨fun r cG hX Q E P=>?_⟩
 rw[arm_eval_ListComp]
 refine PL (use:=none) s_ ht hq hx m9 hk hc wG hw qq AP hs hr he sr hX (fun l D C kD s' mm h1 h2 h3 h4 h5 h6 h7 h8 h9=>?_) P.fo
 have hlen:kD.length=cG.length:=by have:=h3.len;simp at this;exact this
 have hi:(kD++[C])[cG.length]? =some C:=by rw[←hlen];simp
 refine⟨mm,h7,fun h' iD=>?_⟩
 have zJ:=h3.yM (t:=s'.toks) (m:=cG.length) hi (Nat.le_refl _) iD (by rw[yQ];exact h6)
 rw[yQ]at zJ
 have e2:=(h2.Fv h8 iD).forget (m:=cG.length) (by omega)
 have rv:=cI.ef cG.length (h4.l7 (Ee (a0 hi) iD)) h5
 rw[show(kD++[C]).take cG.length=kD by rw[←hlen];exact yQ _ _]at zJ e2 rv
 exact P.ok (.lst l) _ kD {s' with heap:=h'} h1 e2 zJ rv
end
section
variable{c:Cx}{g:FC}{n:Nat}{A:Around}{env:Env}{f:Fr}{ρ:List Addr}{σ:List MO}{s:Shared}
def rp(k:Nat):List (Bool×Nat)→List J→Fr→List MO→Out Unit:=@List.rec (Bool×Nat) (fun Z=>List J→Fr→List MO→Out Unit) (fun vs Z σ=>@List.casesOn J (fun Z=>Out Unit) vs (ok () σ) fun Z Z=>none)
 (fun p Z ih vs f σ=>@List.casesOn J (fun Z=>Out Unit) vs none fun v vs=>dk (@Bool.casesOn (fun Z=>Out Unit) p.1 (c_ k p.2 f v σ) (lA p.2 f v σ)) fun Z σ=>ih vs f σ)
inductive Binds(c:Cx)(g:FC):List Str→List (Bool×Nat)→Prop
 |nil:Binds c g [] []
 |loc {x:Str} {i:Nat} {ns:List Str} {ps:List (Bool×Nat)}:(c.dE g.k)[i]? =some x→(∀j,(c.dE g.k)[j]? =some x→j=i)→g.scope.names.lookup x=some .local→Binds c g ns ps→Binds c g (x::ns) ((false,i)::ps)
 |fg {x:Str} {j:Nat} {ns:List Str} {ps:List (Bool×Nat)}:g.cn[j]? =some x→g.scope.names.lookup x=some .cell→Binds c g ns ps→Binds c g (x::ns) ((true,j)::ps)
theorem PM{F:Str×Value→PUnit→Sem (ForInStep PUnit)}(hF:∀n v u,F (n,v) u=(do storeName env n v;pure (.yield ⟨⟩))){x:Str}{V:Value}{l:List (Str×Value)}{o:Out Unit}{k:List MO→Out Unit}(h:Den c A (fun _ _ (_:Unit) (_:Unit)=>True) ρ s (storeName env x V) o)
  (h2:∀cW σ₁ cD,Ext ρ s.heap cW cD.heap→SR c cW σ₁ cD→Den c A (fun _ _ (_:Unit) (_:PUnit)=>True) cW cD (forIn l PUnit.unit F) (k σ₁)):Den c A (fun _ _ (_:Unit) (_:PUnit)=>True) ρ s (forIn ((x,V)::l) PUnit.unit F) (dk o fun Z σ=>k σ):=by
 refine⟨fun r cG hx Q E P=>?_⟩
 rw[List.forIn_cons,hF]
 exact bC (bC (h.step hx P fun Z Z cW σ₁ cD e1 cY Z dB P1=>bD ((h2 cW σ₁ cD e1 cY).last dB P1)))
theorem dh.agm{h:Heap}:∀{vs:List J},dh c ρ h vs []→vs=[]
 |[],_=>rfl
 |_::_,r=>r.gr.elim fun Z y=>y.elim fun Z y=>absurd y.1.symm (List.cons_ne_nil _ _)
theorem dh.R5{h:Heap}{V:Value}{L:List Value}:∀{vs:List J},dh c ρ h vs (V::L)→∃v l,vs=v::l∧cI c ρ h v V∧dh c ρ h l L
 |[],r=>absurd r.i9 (List.cons_ne_nil _ _)
 |v::l,.cons a b=>⟨v,l,rfl,a,b⟩
theorem acF{F:Str×Value→PUnit→Sem (ForInStep PUnit)}(hF:∀n v u,F (n,v) u=(do storeName env n v;pure (.yield ⟨⟩))){ns:List Str}{ps:List (Bool×Nat)}(B:Binds c g ns ps):∀{vs:List J} {Vs:List Value} {ρ:List Addr} {σ:List MO} {s:Shared},
  sX g env f ρ→SR c ρ σ s→dh c ρ s.heap vs Vs→ns.length=Vs.length→Den c A (fun _ _ (_:Unit) (_:PUnit)=>True) ρ s (forIn (ns.zip Vs) PUnit.unit F) (rp g.k ps vs f σ):=by
 induction B with
 |nil=>
  intro vs Vs ρ σ s he sr r hl
  obtain rfl:=List.eq_nil_of_length_eq_zero hl.symm
  obtain rfl:=r.agm
  exact⟨fun Z Z hx Z Z P=>bD (P.kA hx sr trivial)⟩
 |loc h1 h2 h3 h4 ih=>
  intro vs Vs ρ σ s he sr r hl
  cases Vs with
  |nil=>exact Nat.noConfusion hl
  |cons V L=>
   obtain⟨v,l,rfl,rv,rl⟩:=r.R5
   exact PM hF (II he sr rv h1 h2 h3) fun Z Z Z e1 cY=>ih (he.mono e1) cY (rl.mono e1) (Nat.succ.inj hl)
 |fg h1 h3 h4 ih=>
  intro vs Vs ρ σ s he sr r hl
  cases Vs with
  |nil=>exact Nat.noConfusion hl
  |cons V L=>
   obtain⟨v,l,rfl,rv,rl⟩:=r.R5
   exact PM hF (Ru he sr rv h1 h3) fun Z Z Z e1 cY=>ih (he.mono e1) cY (rl.mono e1) (Nat.succ.inj hl)
noncomputable def jE(l:List (Str×NameKind)):List Str:=@List.rec (Str×NameKind) (fun Z=>List Str) [] (fun p Z ih=>if p.2==.cell then p.1::ih else ih) l
theorem HK{x:Str}:∀{names:List (Str×NameKind)} {m:Nat} {acc:List (Str×Addr)},x∉jE names→(cellsFrom m names acc).lookup x=acc.lookup x
 |[],_,_,_=>rfl
 |(y,k)::r,m,acc,h=>by
  unfold cellsFrom
  have h:x∉(if k==.cell then y::jE r else jE r):=h
  revert h
  cases k==.cell with
  |true=>exact fun h=>(HK fun q=>h (bk _ q)).trans (List.lookup_cons.trans (by rw[beq_eq_false_iff_ne.mpr fun e:x=y=>h (e▸List.mem_cons_self)]))
  |false=>exact fun h=>HK h
theorem HM{x:Str}:∀{names:List (Str×NameKind)} {m j:Nat} {acc:List (Str×Addr)},(jE names).Nodup→(jE names)[j]? =some x→(cellsFrom m names acc).lookup x=some (m+j)
 |[],_,_,_,_,h=>cw h
 |(y,k)::r,m,j,acc,hn,h=>by
  unfold cellsFrom
  have h:(if k==.cell then y::jE r else jE r)[j]? =some x:=h
  have hn:(if k==.cell then y::jE r else jE r).Nodup:=hn
  revert h hn
  cases k==.cell with
  |true=>
   intro h hn
   have h1:=List.nodup_cons.mp hn
   cases j with
   |zero=>
    obtain rfl:=aV h
    exact(HK h1.1).trans List.lookup_cons_self
   |succ j=>exact(HM h1.2 h).trans (congrArg some (Nat.succ_add m j))
  |false=>exact fun h hn=>HM hn h
theorem SR.cells:∀(names:List (Str×NameKind)) {ρ:List Addr} {σ:List MO} {s:Shared},SR c ρ σ s→
  ∃ad,SR c (ρ++ad) (σ++List.replicate (jE names).length (.fg none)) {s with heap:=pushCells s.heap names}∧Ext ρ s.heap (ρ++ad) (pushCells s.heap names)∧ad.length=(jE names).length∧∀j,j<ad.length→ad[j]? =some (s.heap.objs.size+j)
 |[],ρ,σ,s,sr=>⟨[],(List.append_nil ρ).symm▸(List.append_nil σ).symm▸sr,(List.append_nil ρ).symm▸Ext.refl ρ s.heap,rfl,fun j hj=>absurd hj (Nat.not_lt_zero j)⟩
 |(y,k)::r,ρ,σ,s,sr=>by
  show∃ad,SR c (ρ++ad) (σ++List.replicate (if k==.cell then y::jE r else jE r).length (.fg none)) {s with heap:=if k==.cell then _ else _}∧Ext ρ s.heap (ρ++ad) (if k==.cell then _ else _)∧ad.length=(if k==.cell then y::jE r else jE r).length∧∀j,j<ad.length→ad[j]? =some (s.heap.objs.size+j)
  cases k==.cell with
  |true=>
   have cY:=sr.oG (o:={cls:=.type "cell",data:=.cell none}) (mo:=.fg none) ⟨none,⟨_,bf _ rfl,rfl⟩,trivial⟩
   refine(SR.cells r cY).elim fun ad h=>⟨s.heap.objs.size::ad,List.append_assoc ρ [_] ad▸List.append_assoc σ [_] _▸h.1,List.append_assoc ρ [_] ad▸(Ext.oG (ρ:=ρ) (h:=s.heap) {cls:=.type "cell",data:=.cell none}).trans h.2.1,congrArg Nat.succ h.2.2.1,fun j=>?_⟩
   cases j with
   |zero=>exact fun Z=>rfl
   |succ j=>exact fun hj=>(h.2.2.2 j (Nat.lt_of_succ_lt_succ hj)).trans (congrArg some ((congrArg (·+j) (Heap.size_push ..)).trans (Nat.succ_add _ j)))
  |false=>exact SR.cells r sr
end
structure uD(c:Cx)(a:Addr)(fd:FuncData)(body:List Stmt):Prop where
 obj:∃o,c.h0.get? a=some o∧o.cls≠.none∧o.data=.func fd
 code:∃cc oc vs t,fd.code=.ref cc∧c.h0.get? cc=some oc∧oc.cls≠.none∧oc.data=.fields vs∧vs[1]? =some (.str fd.qualname t)
 body:fd.body=.stmts body
 Gb:fd.closure=[]
 co:fd.scope.isCoroutine=false
 gen:fd.scope.isGenerator=false
 kind:fd.scope.kind=.function
 glob:fd.globals=mainGlobals
 blt:fd.builtins=builtinsNs
def rq(m:MF)(σ:List MO):Out J:=@MF.casesOn (fun Z=>Out J) m (ok .none σ) fun v=>ok v σ
def Jx(k w nc:Nat)(ps:List (Bool×Nat))(dfl:List J)(x:Fr→List MO→Out MF)(args:List J)(σ:List MO):Out J:=
 dk (rp k ps (app args dfl) ⟨len σ,List.range' (len σ+1) nc⟩ (app (app σ [.fr k (rep w none)]) (rep nc (.fg none)))) fun Z σ₁=>dk (x ⟨len σ,List.range' (len σ+1) nc⟩ σ₁) rq
section
variable{c:Cx}{g:FC}{n:Nat}{A:Around}{env:Env}{f:Fr}{ρ:List Addr}{σ:List MO}{s:Shared}
theorem aa_{a m j i:Nat}(h:(List.range' a m)[j]? =some i):j<m∧i=a+j:=by
 obtain⟨h1,h2⟩:=aZ h
 have wI:=h1
 rw[List.length_range']at wI
 refine⟨wI,?_⟩
 rw[List.getElem_range',Nat.one_mul]at h2
 exact h2.symm
theorem DJ(h:c.h0.NoLimit)(sr:SR c ρ σ s):s.heap.NoLimit:=by
 refine zz fun GG KK=>?_
 obtain⟨mc,ns,hn⟩:=h
 obtain⟨o,e,_⟩:=AN ns
 refine KK ?_
 exact⟨mc,qY ns fun o' e'=>sr.old.sW o' e',hn⟩
theorem g0.deeper(h:g0 A (n+1))(env:Env):g0 (A.deeper env) n:=⟨h.calm,Nat.lt_of_le_of_lt (Nat.le_of_eq (Nat.add_right_comm A.depth 1 n)) h.depth,Nat.lt_of_le_of_lt (by show A.units+3+100+8*n≤A.units+100+8*(n+1);omega) h.units⟩
noncomputable def oM(c:Cx)(fd:FuncData)(m:Nat)(ns:List Str)(dV:List Value):Prop:=
 ∀(A:Around) (s:Shared) (Vs:List Value) (Q:List (Str×Value)→Shared→Prop) (E:Value→Shared→Prop),Vs.length=m→Old c.h0 s.heap→Q (ns.zip (Vs++dV)) s→wpAny (model c.prog c.w) A (bindArgs fd ⟨Vs,[]⟩) Q E s
theorem oM.pure{fd:FuncData}{m:Nat}{ns:List Str}{dV:List Value}(h:∀Vs:List Value,Vs.length=m→bindArgs fd ⟨Vs,[]⟩=Pure.pure (ns.zip (Vs++dV))):oM c fd m ns dV:=fun A s Vs Q E hm Z hQ=>by
 rw[h Vs hm];exact bD hQ
theorem oM.dfl{fd:FuncData}{m:Nat}{ns:List Str}{dV:List Value}{dA:Addr}{o:Obj}{D:Array Value}{k:Nat}{K:List Value→Option (Array Value)→Sem (List (Str×Value))}(hd:fd.defaults=.ref dA)(ho:c.h0.get? dA=some o)(hc:o.cls≠.none)(Fy:o.data=.seq D k)
  (h1:∀Vs:List Value,Vs.length=m→bindArgs fd ⟨Vs,[]⟩=(seqItems? fd.defaults>>=K Vs)) (h2:∀Vs:List Value,Vs.length=m→K Vs (some D)=Pure.pure (ns.zip (Vs++dV))):oM c fd m ns dV:=fun A s Vs Q E hm old hQ=>by
 rw[h1 Vs hm,hd]
 refine bC (wpAny_seqItems (old.get_of_cls ho hc) Fy ?_)
 rw[h2 Vs hm]
 exact bD hQ
theorem abD{k i:Nat}{f:Fr}{v:J}{σ cG:List MO}{r:Res Unit}(h:c_ k i f v σ=some (r,cG)):r=.ok ():=(H5 h).elim fun Z y=>y.2.2.1
theorem abE{j:Nat}{f:Fr}{v:J}{σ cG:List MO}{r:Res Unit}(h:lA j f v σ=some (r,cG)):r=.ok ():=(PD h).elim fun Z y=>y.elim fun Z y=>y.2.2.2.1
theorem OF{x:Out Unit}{k:List MO→Out Unit}{r:Res Unit}{cG:List MO}(h1:∀r σ,x=some (r,σ)→r=.ok ())(h2:∀σ,k σ=some (r,cG)→r=.ok ()):dk x (fun Z σ=>k σ)=some (r,cG)→r=.ok ():=
 @Option.casesOn (Res Unit×List MO) (fun x=>(∀r σ,x=some (r,σ)→r=.ok ())→dk x (fun Z σ=>k σ)=some (r,cG)→r=.ok ()) x (fun Z h=>cw h) (fun y h1 h=>h2 y.2 ((congrArg (fun r=>dk (some (r,y.2)) fun Z σ=>k σ) (h1 y.1 y.2 rfl)).symm.trans h)) h1
theorem HR{k:Nat}:∀{ps:List (Bool×Nat)} {vs:List J} {f:Fr} {σ cG:List MO} {r:Res Unit},rp k ps vs f σ=some (r,cG)→r=.ok ()
 |[],[],_,_,_,_,h=>(iA h).1
 |(true,j)::ps,v::vs,f,σ,_,_,h=>OF (x:=lA j f v σ) (k:=fun σ=>rp k ps vs f σ) (fun Z Z=>abE) (fun Z=>HR) h
 |(false,j)::ps,v::vs,f,σ,_,_,h=>OF (x:=c_ k j f v σ) (k:=fun σ=>rp k ps vs f σ) (fun Z Z=>abD) (fun Z=>HR) h
 |[],_::_,_,_,_,_,h=>cw h
 |_::_,[],_,_,_,_,h=>cw h
noncomputable abbrev tj:Obj:={cls:=.type "frame",data:=.dict #[]}
theorem aaA{names:List (Str×NameKind)}{nc w k:Nat}(m_:(jE names).length=nc)(hw:(c.dE k).length=w)(sr:SR c ρ σ s):∃R,SR c R ((σ++[.fr k (List.replicate w none)])++List.replicate nc (.fg none)) {s with heap:=pushCells (s.heap.push tj) names}∧Ext ρ s.heap R (pushCells (s.heap.push tj) names)∧
  R[σ.length]? =some s.heap.objs.size∧(∀j,j<nc→R[σ.length+1+j]? =some (s.heap.objs.size+1+j))∧(∃o,(pushCells (s.heap.push tj) names).get? s.heap.objs.size=some o∧o.cls=.type "frame"∧nf o=true)∧c.h0.get? s.heap.objs.size=none:=by
 have cY:=sr.oG (o:=tj) (mo:=.fr k (List.replicate w none)) ⟨_,Heap.Ns.new s.heap (.type "frame"),List.length_replicate.trans hw.symm,fun i y p Z q2=>(List.mem_replicate.mp (a0 q2)).2.symm▸trivial⟩
 refine zz fun GG KK=>?_
 obtain⟨ad,fh,e2,agn,had⟩:=SR.cells names cY
 have hl:(ρ++[s.heap.objs.size]).length=σ.length+1:=List.length_append.trans (congrArg (·+1) sr.len)
 have j6:(s.heap.push tj).objs.size=s.heap.objs.size+1:=Heap.size_push ..
 refine KK ⟨(ρ++[s.heap.objs.size])++ad,m_▸fh,(Ext.oG _).trans e2,?_,fun j hj=>?_,(e2.live _ _ (bf s.heap (o:=tj) rfl)).elim fun o' y=>⟨o',y.1,y.2.1,y.2.2⟩,sr.t5⟩
 ·exact(bp (hl.symm▸Nat.lt_succ_self _)).trans (sr.len▸List.getElem?_concat_length)
 ·exact(bB (hl.symm▸Nat.le_add_right _ _)).trans ((congrArg (ad[·]?) ((congrArg (σ.length+1+j - ·) hl).trans (Nat.add_sub_cancel_left ..))).trans ((had j (agn.trans m_▸hj)).trans (congrArg (fun x=>some (x+j)) j6)))
structure Bb(e:Env)(fd:FuncData)(L:Addr):Prop where
 scope:e.scope=fd.scope
 loc:e.locals=L
 cells:e.cells=cellsFrom (L+1) fd.scope.names []
 frame:e.frame=some L
 glob:e.globals=fd.globals
 blt:e.builtins=fd.builtins
 code:e.code=fd.code
 qual:e.qual=fd.qualname++".<locals>."
theorem Bb.L{h_:Env}{fd:FuncData}{L:Addr}{nc:Nat}{R:List Addr}(I:Bb h_ fd L)(hg:g.scope=fd.scope)(hk:fd.scope.kind=.function)(uE:g.cn=jE fd.scope.names)(mH:(jE fd.scope.names).Nodup)(h1:R[σ.length]? =some L)(h2:∀j,j<nc→R[σ.length+1+j]? =some (L+1+j)):
 sX g h_ ⟨σ.length,List.range' (σ.length+1) nc⟩ R:=⟨I.scope.trans hg.symm,hg.symm▸hk,I.loc.symm▸h1,fun j y i q1 q2=>by
 obtain⟨hj,rfl⟩:=aa_ q2
 exact⟨L+1+j,I.cells.symm▸HM mH (uE▸q1),h2 j hj⟩⟩
theorem Bb.R{h_:Env}{fd:FuncData}{L:Addr}{f':Fr}{R cW:List Addr}{H gL:Heap}(I:Bb h_ fd L)(hL:sX g h_ f' R)(k6:∀cc,g.code=some cc→fd.code=.ref cc∧fd.qualname++".<locals>."++"<lambda>"=c.lT cc)(hgl:fd.globals=mainGlobals)(F_:fd.builtins=builtinsNs)
  (ju:Frs c A H) (hfo:∃o,H.get? L=some o∧o.cls=.type "frame"∧nf o=true) (hb:c.h0.get? L=none) (e:Ext R H cW gL):fW c g (A.deeper h_) h_ f' cW gL:=by
 have hL:=hL.mono e
 refine(ju.mono e).ex.elim fun fs y=>⟨hL.scope,hL.kind,hL.loc,I.glob.trans hgl,I.blt.trans F_,hL.cell,⟨L,h_,fs,I.frame,congrArg (Option.map _) y.1,I.frame⟩,⟨h_::fs,congrArg (Option.map _) y.1,fun v hv=>(List.mem_cons.mp hv).elim (fun q=>?_) (y.2 v)⟩,fun cc h=>⟨I.code.trans (k6 cc h).1,I.qual.symm▸(k6 cc h).2⟩⟩
 exact hfo.elim fun o1 p=>(e.live _ _ p.1).elim fun o2 z=>q.symm▸⟨fun u=>ScopeKind.noConfusion ((congrArg (·.kind) hL.scope|>.trans hL.kind).symm.trans u),L,o2,I.frame,hb,z.1,z.2.1.trans p.2.1,z.2.2.trans p.2.2⟩
theorem PN{a:Addr}{fd:FuncData}{body:List Stmt}{w nc m:Nat}{ns:List Str}{ps:List (Bool×Nat)}{dfl:List J}{dV:List Value}{σ₁:List MO}{Q:Value→Shared→Prop}{E:Value→Shared→Prop}{args:List J}{Vs:List Value}
  (F:uD c a fd body) (Bs:c.h0.NoLimit) (hg:g.scope=fd.scope) (k6:∀cc,g.code=some cc→fd.code=.ref cc∧fd.qualname++".<locals>."++"<lambda>"=c.lT cc) (uE:g.cn=jE fd.scope.names) (mH:(jE fd.scope.names).Nodup) (m_:(jE fd.scope.names).length=nc) (hw:(c.dE g.k).length=w)
  (IZ:oM c fd m ns dV) (jb:ns.length=m+dV.length) (hP:Binds c g ns ps) (uy:J.stats dfl=true) (Kw:dh c.bare [] c.h0 dfl dV)
  (hr:g0 A (n+1)) (ju:Frs c A s.heap) (sr:SR c ρ σ s) (ra:dh c ρ s.heap args Vs) (hm:args.length=m)
  (hx:rp g.k ps (args++dfl) ⟨σ.length,List.range' (σ.length+1) nc⟩ ((σ++[.fr g.k (List.replicate w none)])++List.replicate nc (.fg none))=some (.ok (),σ₁))
  (h:∀h_ cW cD,Ext ρ s.heap cW cD.heap→SR c cW σ₁ cD→fW c g (A.deeper h_) h_ ⟨σ.length,List.range' (σ.length+1) nc⟩ cW cD.heap→wpAny (model c.prog c.w) (A.deeper h_) (execs body h_) (fun f s'=>Q (match f with|.ret v=>v|_=>.none) s')
   (fun e s'=>wpAny (model c.prog c.w) (A.deeper h_) (leaving h_ e) (fun Z oj=>E e oj) (fun e' oj=>E e' oj) s') cD):wpAny (model c.prog c.w) A (call (.ref a) Vs) Q E s:=by
 have hd:=hr.depth
 refine zz fun GG KK=>?_
 obtain⟨o,ho,Kx,B_⟩:=F.obj
 obtain⟨cc,oc,vs,t,uw,uF,Ky,Kz,KA⟩:=F.code
 refine KK (wpAny_call (codeAny_call_function (by omega) (sr.jr ho Kx) B_ F.co F.gen F.body ⟨cc,oc,vs,t,uw,sr.jr uF Ky,Kz,KA⟩ ?_))
 refine IZ _ s Vs _ _ (ra.length.trans hm) sr.old ?_
 rw[F.Gb]
 simp only[newFunctionEnv,Option.isSome_none,Bool.false_eq_true,if_false]
 refine bC (wpAny_alloc (bC (wpAny_layCells _ (fun name kind cells=>by cases hkc:kind==NameKind.cell<;>simp[hkc]) _ _ _ _ (bC ?_))))
 have j6:(s.heap.push tj).objs.size=s.heap.objs.size+1:=Heap.size_push ..
 have hI:Bb ({scope:=fd.scope,locals:=s.heap.objs.size,globals:=fd.globals,cells:=cellsFrom (s.heap.push tj).objs.size fd.scope.names [],qual:=fd.qualname++".<locals>.",func:=some a,code:=fd.code,frame:=some s.heap.objs.size,builtins:=fd.builtins}:Env) fd s.heap.objs.size:=⟨rfl,rfl,congrArg (cellsFrom · _ _) j6,rfl,rfl,rfl,rfl,rfl⟩
 revert hI
 generalize({scope:=fd.scope,locals:=s.heap.objs.size,globals:=fd.globals,cells:=cellsFrom (s.heap.push tj).objs.size fd.scope.names [],qual:=fd.qualname++".<locals>.",func:=some a,code:=fd.code,frame:=some s.heap.objs.size,builtins:=fd.builtins}:Env)=h_
 intro hI
 refine(aaA (names:=fd.scope.names) m_ hw sr).elim fun R y=>?_
 have hL:=hI.L hg F.kind uE mH y.2.2.1 y.2.2.2.1
 exact(acF (A:=A.in1) (fun Z Z Z=>rfl) hP hL y.1 ((ra.mono y.2.1).append (dh.old y.1 uy Kw)) (by rw[jb,List.length_append,ra.length,hm])).run _ _ hx _ _ ⟨fun b V cW cD Z e3 hJ Z=>bD ⟨DJ Bs hJ,
  codeAny_func (h h_ cW cD (y.2.1.trans e3) hJ (hI.R hL k6 F.glob F.blt (ju.mono y.2.1) y.2.2.2.2.1 y.2.2.2.2.2 e3))⟩,fun Z Z Z Z q=>(nomatch q)⟩
theorem acG{a:Addr}{fd:FuncData}{body:List Stmt}{w nc m:Nat}{ns:List Str}{ps:List (Bool×Nat)}{dfl:List J}{dV:List Value}{x:Fr→List MO→Out MF}{args:List J}{Vs:List Value}
  (F:uD c a fd body) (Bs:c.h0.NoLimit) (hg:g.scope=fd.scope) (k6:∀cc,g.code=some cc→fd.code=.ref cc∧fd.qualname++".<locals>."++"<lambda>"=c.lT cc) (uE:g.cn=jE fd.scope.names) (mH:(jE fd.scope.names).Nodup) (m_:(jE fd.scope.names).length=nc) (hw:(c.dE g.k).length=w)
  (hb:DS c g n body x) (IZ:oM c fd m ns dV) (jb:ns.length=m+dV.length) (hP:Binds c g ns ps) (uy:J.stats dfl=true) (Kw:dh c.bare [] c.h0 dfl dV)
  (hr:g0 A (n+1)) (ju:Frs c A s.heap) (sr:SR c ρ σ s) (ra:dh c ρ s.heap args Vs) (hm:args.length=m):Den c A (cI c) ρ s (call (.ref a) Vs) (Jx g.k w nc ps dfl x args σ):=by
 refine⟨fun r cG hx Q E P=>?_⟩
 unfold Jx at hx
 rw[len_eq,nD,nD,nD,EI,EI]at hx
 cases Gd:rp g.k ps (args++dfl) ⟨σ.length,List.range' (σ.length+1) nc⟩ ((σ++[.fr g.k (List.replicate w none)])++List.replicate nc (.fg none))with
 |none=>rw[Gd]at hx;exact cw hx
 |some y=>
 rw[Gd]at hx
 obtain⟨y,σ₁⟩:=y
 obtain rfl:=HR Gd
 refine PN F Bs hg k6 uE mH m_ hw IZ jb hP uy Kw hr ju sr ra hm Gd fun h_ cW cD e3 hJ nL=>?_
 have P1:=P.ext e3
 refine(hb (A.deeper h_) h_ _ cW σ₁ cD (hr.deeper h_) nL hJ).step hx ⟨P1.ok,fun k X cC s' Ku ex fM fl=>OC (nL.mono ex) fM fl fun h' e4 lz KC=>P1.fo k X cC {s' with heap:=h'} Ku (ex.trans e4) lz KC.F7⟩ fun mf fl ρ₂ fU fu e4 lz rf fC P3=>?_
 cases mf with
 |next=>
  cases fl<;>first|exact P3.kA fC lz .none|exact rf.elim
 |ret v=>
  cases fl<;>first|exact P3.kA fC lz rf|exact rf.elim
end
noncomputable def j1(c:Cx)(n:Nat)(K:J→List J→List MO→Out J):Prop:=
 ∀A ρ σ s fv args F Vs,g0 A n→Frs c A s.heap→SR c ρ σ s→cI c ρ s.heap fv F→dh c ρ s.heap args Vs→Den c A (cI c) ρ s (call F Vs) (K fv args σ)
section
variable{c:Cx}{g:FC}{n:Nat}{A:Around}{env:Env}{f:Fr}{ρ:List Addr}{σ:List MO}{s:Shared}{tb:Tb}
theorem OY{M:Model}{a:Addr}(h:Callee c a){hp:Heap}(k:∀o,c.h0.get? a=some o→o.cls≠.none→hp.get? a=some o):∃k,(k=Keeper.frame∨k=Keeper.machine∨k=Keeper.boundFrame)∧Looks M hp (keeperOf (.ref a)) k:=by
 refine zz fun GG KK=>?_
 obtain⟨o,e,hc,hd⟩:=h
 have e':=k o e hc
 rcases hd with⟨fd,hd⟩|⟨p,bm,hd,ab,newId,rfl⟩
 ·refine KK ?_
  refine⟨.frame,.inl rfl,fun A Q E s ks hq=>?_⟩
  unfold keeperOf
  refine bC (wpAny_load (ks _ _ e') ?_)
  rw[hd]
  exact bD hq
 ·refine KK ?_
  refine⟨.machine,.inr (.inl rfl),fun A Q E s ks hq=>?_⟩
  refine zz fun GG KK=>?_
  obtain⟨h1,g1,d1,t1,Ge⟩:=s
  refine KK ?_
  exact wpAny_keeperOf_exc (ks _ _ e') hq
theorem An{env:Env}{pos:Pos}:∀{es:List Expr},es.all jf=true→(backTo pos (starEach es env)).any (·.1)=false
 |[],_=>rfl
 |e::es,h=>o_ h env▸An (Bool.and_eq_true_iff.mp ((List.all_cons (f:=jf)).symm.trans h)).2
theorem Nu{M:Model}{fv:Value}{Q:Args→Shared→Prop}{E:Value→Shared→Prop}(h:wpAny M A (spliced []) (fun vs s'=>Q ⟨vs,[]⟩ s') E s):wpAny M A (evalArgs fv true [] []) Q E s:=by
 unfold evalArgs
 show wpAny M A (spliced []>>=_) Q E s
 refine bC (wpAny_mono h (fun vs s' h'=>?_) fun Z Z x=>x)
 refine bC (bD ?_)
 refine wpAny_holding ?_
 exact bC (bD (bC (bD (bD h'))))
theorem HO{a:Addr}{first:List Value}{es:List Expr}{pos pos':Pos}{xs:Fr→List MO→Out (List J)}{r:Res J}{cG:List MO}{k:List J→List MO→Out J}{Q:Value→Shared→Prop}{E:Value→Shared→Prop}
  (hc:Callee c a) (uG:bV c g n es xs) (hu:es.all jf=true) (hr:g0 A n) (he:fW c g A env f ρ s.heap) (sr:SR c ρ σ s) (hx:dk (xs f σ) k=some (r,cG)) (P:iT c (cI c) ρ s.heap r cG Q E)
  (h:∀l L cW σ₁ cD,Ext ρ s.heap cW cD.heap→SR c cW σ₁ cD→dh c cW cD.heap l L→k l σ₁=some (r,cG)→iT c (cI c) cW cD.heap r cG Q E→wpAny (model c.prog c.w) A (call (.ref a) (first++L)) Q E cD):
  wpAny (model c.prog c.w) A (callWith pos' (.ref a) first (backTo pos (starEach es env)) []) Q E s:=by
 refine callWith_of (P:=fun hp=>∀o,c.h0.get? a=some o→o.cls≠.none→hp.get? a=some o) (by rw[An hu];rfl) (fun hp k=>OY hc k) ?_
 cases es with
 |nil=>
  exact Nu ((uG.run A env f ρ σ s pos hr he sr).step hx P fun l L cW σ₁ cD e1 cY rl dB P1=>⟨fun o q1 q2=>cY.jr q1 q2,h l L cW σ₁ cD e1 cY rl dB P1⟩)
 |cons e es=>
  have hq:=uG.run A env f ρ σ s pos hr he sr
  rw[o_ hu]at hq⊢
  exact evalArgs_plain (hq.step hx P fun l L cW σ₁ cD e1 cY rl dB P1=>⟨fun o q1 q2=>cY.jr q1 q2,h l L cW σ₁ cD e1 cY rl dB P1⟩)
def aeN(tb:Tb)(K:J→List J→List MO→Out J)(y:Fr→List MO→Out J)(xs:Fr→List MO→Out (List J))(f:Fr)(σ:List MO):Out J:=dk (y f σ) fun fv σ=>vA fv fun a=>gd (tb.call a) (dk (xs f σ) fun l σ=>K (.dC a) l σ)
noncomputable def ady(e:Expr)(args:List Expr)(pos:Pos)(env:Env):Sem Value:=eval (.Call e args [] pos) env
abbrev EL(e:Expr):Prop:=ady e=fun args pos env=>do
 let f←eval e env
 callWith pos f [] (backTo pos (starEach args env)) []
theorem t6{e:Expr}(h:EL e)(args:List Expr)(pos:Pos)(env:Env):eval (.Call e args [] pos) env=(do
 let f←eval e env
 callWith pos f [] (backTo pos (starEach args env)) []):=congrFun (congrFun (congrFun h args) pos) env
theorem DE.call{K:J→List J→List MO→Out J}(T:qs c tb)(hK:j1 c n K){e:Expr}{es:List Expr}{pos:Pos}{y:Fr→List MO→Out J}{xs:Fr→List MO→Out (List J)}(h1:DE c g n e y)(h2:bV c g n es xs)(nL:EL e)(hu:es.all jf=true):
  DE c g n (.Call e es [] pos) (aeN tb K y xs):=by
 intro A env f ρ σ s hr he sr
 refine⟨fun r cG hx Q E P=>?_⟩
 rw[t6 nL]
 refine bC ((h1 A env f ρ σ s hr he sr).step hx P fun fv F cW σ₁ cD e1 cY rf dB P1=>?_)
 refine zz fun GG KK=>?_
 obtain⟨a,rfl,dB⟩:=Ep dB
 obtain⟨ha,dB⟩:=gK dB
 obtain rfl:=rf.inv
 refine KK ?_
 refine HO (T.call a ha) h2 hu hr (he.mono e1) cY dB P1 fun l L ρ₂ fU fu e2 fh rl fC P2=>?_
 exact(hK A ρ₂ fU fu (.dC a) l (.ref a) L hr ((he.mono e1).mono e2).nM fh (.dC a) rl).last fC P2
def zK(l:List (Str×J))(k:Str):Bool:=@Bool.rec (fun Z=>Bool) true false (lP l k)
theorem Ry{l:List (Str×J)}{k:Str}(h:zK l k=true):lP l k=false:=by
 unfold zK at h
 cases q:lP l k with
 |false=>rfl
 |true=>rw[q]at h;cases h
def ky(K:J→List J→List MO→Out J)(C a:Nat)(name:Str)(y:Fr→List MO→Out J)(xs:Fr→List MO→Out (List J))(f:Fr)(σ:List MO):Out J:=dk (y f σ) fun o σ=>
 BO o (fun C' l=>gd (Nat.beq C' C) (gd (zK l name) (dk (xs f σ) fun l σ=>K (.dC a) (o::l) σ))) (fun i=>tN σ i fun C' d=>gd (Nat.beq C' C) (tI σ d fun l=>gd (zK l name) (dk (xs f σ) fun l σ=>K (.dC a) (o::l) σ)))
theorem aba{o:J}{O:Value}{C:Nat}{name:Str}{α:Type}{k:Option α}{r:α}(sr:SR c ρ σ s)(ro:cI c ρ s.heap o O)(h:BO o (fun C' l=>gd (Nat.beq C' C) (gd (zK l name) k)) (fun i=>tN σ i fun C' d=>gd (Nat.beq C' C) (tI σ d fun l=>gd (zK l name) k))=some r):
  ∃x L l m,O=.ref x∧lP l name=false∧(∀y,m y=valueAt L y)∧eI c ρ s.heap l L∧s.heap.Inst x C m∧k=some r:=by
 refine zz fun GG KK=>?_
 rcases PB h with⟨C',l,rfl,h⟩|⟨i,rfl,h⟩
 ·obtain⟨hC,h⟩:=gK h
  obtain⟨hk,h⟩:=gK h
  obtain⟨x,L,m,e,hv,rl,I,_⟩:=ro.R1
  refine KK ?_
  exact⟨x,L,l,m,e,Ry hk,hv,rl,aY hC▸I,h⟩
 ·obtain⟨C',d,hi,h⟩:=acn h
  obtain⟨hC,h⟩:=gK h
  obtain⟨l,hl,h⟩:=QF h
  obtain⟨hk,h⟩:=gK h
  obtain⟨x,e,q⟩:=ro.inv
  rw[il]at hi hl
  obtain⟨o,da,eo,c1,d1,dt,ne,hd⟩:=sr.obj _ _ _ q hi
  obtain⟨L,m,ns,ex,hv,rl⟩:=sr.obj _ _ _ hd hl
  refine KK ?_
  exact⟨x,L,l,m,e,Ry hk,hv,rl,⟨o,eo,aY hC▸c1,dt,.inr ⟨da,d1,ne,ns⟩⟩,h⟩
theorem abb{env:Env}{pos:Pos}{es:List Expr}(hu:es.all jf=true)(Bt:Nat.blt es.length 29=true):methodCallForm (es.length+([]:List Keyword).length) (backTo pos (starEach es env)) (backToKw pos (keywordEach [] env))=true:=by
 have h1:∀(l:List (Bool×Sem Value)),l.any (·.1)=false→l.all (!·.1)=true:=by
  intro l hl
  induction l with
  |nil=>rfl
  |cons p l ih=>
   rw[List.any_cons,Bool.or_eq_false_iff]at hl
   rw[List.all_cons,hl.1,ih hl.2];rfl
 rw[Nat.blt_eq]at Bt
 unfold methodCallForm
 rw[h1 _ (An hu)]
 simp[backToKw,keywordEach]
 omega
theorem DE.aeO{K:J→List J→List MO→Out J}(T:qs c tb)(hK:j1 c n K){C a:Nat}{ci:CI}{e:Expr}{name:Str}{es:List Expr}{apos pos:Pos}{y:Fr→List MO→Out J}{xs:Fr→List MO→Out (List J)}(h1:DE c g n e y)(h2:bV c g n es xs)
  (wJ:tb.cls C=some ci) (hm:ci.rC name=some a) (ha:tb.call a=true) (hu:es.all jf=true) (wK:sP e) (mz:(apos.endLine==pos.line)=true) (Bt:Nat.blt es.length 29=true) {t:Option Value} (hB:typeLookup (.type "object") name=pure t):
  DE c g n (.Call (.Attribute e name apos) es [] pos) (ky K C a name y xs):=by
 intro A env f ρ σ s hr he sr
 refine⟨fun r cG hx Q E P=>?_⟩
 rw[arm_eval_Call,vd wK]
 refine bC ((h1 A env f ρ σ s hr he sr).step hx P fun o O cW σ₁ cD e1 cY ro dB P1=>bC (wpAny_standAt ?_))
 refine zz fun GG KK=>?_
 obtain⟨x,L,l,m,rfl,aeP,hv,rl,I,dB⟩:=aba cY ro dB
 obtain⟨p,mN,N⟩:=(T.cls C ci wJ).now cY
 obtain⟨hmN,of,hof,ago⟩:=N.rC name a hm
 have aeQ:m name=Option.none:=by
  rw[hv name]
  exact Option.isSome_eq_false_iff.mp ((rl.isSome name).trans aeP)|>Option.isNone_iff_eq_none.mp
 refine KK ?_
 unfold methodCall
 rw[abb hu Bt]
 refine bC (wpAny_holding ?_)
 unfold calleeOf
 rw[if_pos rfl]
 refine zz fun GG KK=>?_
 obtain⟨hp1,g1,dr1,tk1,Ge⟩:=cD
 refine KK ?_
 refine method_of (hC:=N.obj) N.ns (N.free _ (T.cls C ci wJ).quiet.1) (N.free _ (T.cls C ci wJ).quiet.2.1) hmN hof ago hB I aeQ ?_
 refine bC ?_
 unfold methodCallPos
 rw[mz]
 simp only[Bool.not_true,Bool.false_or,if_true]
 refine bD ?_
 refine HO (first:=[.ref x]) (T.call a ha) h2 hu hr (he.mono e1) cY dB P1 fun l L ρ₂ fU fu e2 fh rl2 fC P2=>?_
 exact(hK A ρ₂ fU fu (.dC a) (o::l) (.ref a) (.ref x::L) hr ((he.mono e1).mono e2).nM fh (.dC a) (.cons (ro.mono e2) rl2)).last fC P2
end
section
variable{c:Cx}{g:FC}{n:Nat}{A:Around}{env:Env}{f:Fr}{ρ:List Addr}{σ:List MO}{s:Shared}{tb:Tb}
def aeR(v:J)(i:Nat)(σ:List MO):Out J:=vN v (ok (.loc i) σ)
def runC(C fI:Addr)(K:J→List J→List MO→Out J)(args:List J)(σ:List MO):Out J:=
 dk (K (.dC fI) (.loc (len σ+1)::args) (app (app σ [.lS []]) [.ins C (len σ)])) fun v σ₁=>aeR v (len σ+1) σ₁
theorem SR.pb(sr:SR c ρ σ s){a:Addr}(h:s.heap.get? a=none):c.h0.get? a=none:=by
 cases q:c.h0.get? a with
 |none=>rfl
 |some o=>obtain⟨o',e⟩:=sr.old.there a o q;rw[h]at e;cases e
theorem OG(C:Addr)(rest:List Value):(A.under (.builtin "type.__call__" ⟨.ref C::rest,[]⟩)).depth=A.depth+1∧(A.under (.builtin "type.__call__" ⟨.ref C::rest,[]⟩)).frames=A.frames∧
  (A.under (.builtin "type.__call__" ⟨.ref C::rest,[]⟩)).units≤A.units+8∧(A.under (.builtin "type.__call__" ⟨.ref C::rest,[]⟩)).handled=A.handled:=by
 refine⟨?_,rfl,?_,rfl⟩
 ·show A.depth+Code.weight _=_
  congr 1
 ·show A.units+Code.cUnits _≤_
  have:Code.cUnits (.builtin "type.__call__" ⟨.ref C::rest,[]⟩)=1:=rfl
  omega
theorem call_cls{K:J→List J→List MO→Out J}{C fI:Addr}{ci:CI}{args:List J}{Vs:List Value}(F:jF c C ci)(hi:ci.rC "__init__"=some fI)(hK:j1 c n K)
  (hr:g0 A (n+1)) (ju:Frs c A s.heap) (sr:SR c ρ σ s) (ra:dh c ρ s.heap args Vs):Den c A (cI c) ρ s (call (.ref C) Vs) (runC C fI K args σ):=by
 refine⟨fun r cG hx Q E P=>?_⟩
 refine zz fun GG KK=>?_
 unfold runC at hx
 simp only[len_eq,nD]at hx
 obtain⟨p,mN,N⟩:=F.now sr
 obtain⟨h1,oI,h2,h3⟩:=N.rC _ _ hi
 obtain⟨hp,g1,d1,t1,Ge⟩:=s
 refine KK ?_
 refine wpAny_call_obj_initFk PySem.F.objNew N.obj N.ns h1 h2 h3 fun h' x dx M=>?_
 refine zz fun GG KK=>?_
 dsimp only at sr ra P ju
 obtain⟨o,Vu,hxc,hxn,hxd⟩:=M.inst
 have Gf:=M.dict o Vu
 have⟨d',z,z1,z2,z3⟩:=hxd.resolve_left fun q=>by rw[q.1]at Gf;cases Gf
 rw[Gf]at z;cases z
 have jU:=z1
 have jb:=z2
 have hex:=z3
 have cY:=sr.rk (t:=t1) (mo:=.lS []) M.keeps M.newD (sr.pb M.newD) ⟨[],_,jb,hex,fun y=>rfl,.nil⟩
 have e1:=Ext.rk (ρ:=ρ) M.keeps M.newD
 have hlen:ρ.length=σ.length:=sr.len
 have agp:x∉ρ:=Dd sr M.newX
 have mH:(ρ++[dx]++[x]).Nodup:=by
  rw[List.nodup_append]
  refine⟨cY.nodup,by simp,fun a ha b hb=>?_⟩
  rw[List.mem_singleton.mp hb]
  rintro rfl
  rcases bg ha with ha|ha
  ·exact agp ha
  ·exact jU (a_ ha).symm
 have e2:Ext ρ hp ((ρ++[dx])++[x]) h':=⟨⟨[dx]++[x],by simp,fun a ha=>by
  rcases bg ha with ha|ha
  ·rw[List.mem_singleton.mp ha];exact M.newD
  ·rw[List.mem_singleton.mp ha];exact M.newX⟩,fun b o e Z=>⟨o,M.keeps b o e,Sm.refl _⟩,fun b o e=>⟨o,M.keeps b o e,rfl,rfl⟩⟩
 have fh:SR c ((ρ++[dx])++[x]) ((σ++[.lS []])++[.ins C σ.length]) ⟨h',g1,d1,t1,Ge⟩:=by
  refine⟨cY.gens,cY.os,by simp[hlen],mH,fun a ha=>?_,cY.old,fun b hb=>let⟨z1,z2,z3⟩:=cY.d9 b hb;⟨z1,(fun hm=>(bg hm).elim z2 fun hm=>by obtain⟨_,_,o',z4⟩:=sr.d9 b hb;rw[List.mem_singleton.mp hm]at z4;have z5:=M.newX;rw[z4]at z5;cases z5),z3⟩,fun i a mo q1 q2=>?_⟩
  ·rcases bg ha with ha|ha
   ·exact cY.fresh a ha
   ·rw[List.mem_singleton.mp ha];exact sr.pb M.newX
  ·by_cases qx:i<ρ.length
   ·have rM:ρ[i]? =some a:=by rw[List.append_assoc,List.getElem?_append_left qx]at q1;exact q1
    have tm:σ[i]? =some mo:=by rw[List.append_assoc,List.getElem?_append_left (by omega)]at q2;exact q2
    exact(sr.obj i a mo rM tm).keep e2 fun o q=>M.keeps a o q
   ·by_cases pM:i=ρ.length
    ·subst pM
     have rM:a=dx:=by simp at q1;exact q1.symm
     have tm:mo=.lS []:=by rw[hlen]at q2;simp at q2;exact q2.symm
     subst rM tm
     exact⟨[],_,jb,hex,fun y=>rfl,.nil⟩
    ·have hi3:i=ρ.length+1:=by
      have:=(aZ q1).1
      simp at this;omega
     subst hi3
     have rM:a=x:=by simp at q1;exact q1.symm
     have tm:mo=.ins C σ.length:=by rw[hlen]at q2;simp at q2;exact q2.symm
     subst rM tm
     exact⟨o,dx,Vu,hxc,Gf,hxn,jU,by rw[←hlen];simp⟩
 have Fz:((ρ++[dx])++[x])[σ.length+1]? =some x:=by rw[←hlen];simp
 obtain⟨u1,u2,u3,u4⟩:=OG (A:=A) C Vs
 have nN:g0 (A.under (.builtin "type.__call__" ⟨.ref C::Vs,[]⟩)) n:=⟨u4.trans hr.calm,by have:=hr.depth;omega,by have:=hr.units;omega⟩
 have agq:Frs c (A.under (.builtin "type.__call__" ⟨.ref C::Vs,[]⟩)) h':=by
  obtain⟨fs,z1,z2⟩:=(ju.mono e2).ex
  exact⟨fs,by rw[u2];exact z1,z2⟩
 refine KK ?_
 refine(hK _ _ _ ⟨h',g1,d1,t1,Ge⟩ (.dC fI) (.loc (σ.length+1)::args) (.ref fI) (.ref x::Vs) nN agq fh (.dC fI) (.cons (.loc Fz) (ra.mono e2))).step hx (P.ext e2) fun v V cW σ₁ cD e3 hJ rv dB P1=>?_
 refine zz fun GG KK=>?_
 obtain⟨rfl,dB⟩:=QG dB
 obtain rfl:=rv.inv
 refine KK ?_
 exact⟨rfl,P1.now dB hJ (.loc (e3.get Fz))⟩
end
section
variable{c:Cx}{g:FC}{n:Nat}{A:Around}{env:Env}{f:Fr}{ρ:List Addr}{σ:List MO}{s:Shared}{tb:Tb}{gl:Str→Option J}{gz:Str→Bool}
noncomputable def C1(c:Cx)(n:Nat)(F:Value)(m:J→List MO→Out J):Prop:=
 ∀A ρ σ s v V,g0 A n→Frs c A s.heap→SR c ρ σ s→cI c ρ s.heap v V→Den c A (cI c) ρ s (call F [V]) (m v σ)
theorem abF(Fa:Facts c gl gz){x:Str}{id:String}{e:Expr}{p pos:Pos}{y:Fr→List MO→Out J}{m:J→List MO→Out J}(hn:gz x=true)(hb:bootBuiltins x=some (.builtin id))(hk:g.scope.names.lookup x=some .globalImplicit)
  (hd:(x==("__debug__":Str))=false) (h:DE c g n e y) (hu:jf e=true) (hC:C1 c n (.builtin id) m):DE c g n (.Call (.Name x p) [e] [] pos) (m1 m y):=by
 refine fun A env f ρ σ s hr he sr=>⟨fun r cG hx Q E P=>?_⟩
 have ht:backTo pos (starEach [e] env)=[(false,eval e env)]:=congrArg (backTo pos) (o_ (es:=[]) ((Bool.and_true _).trans hu) env)
 rw[t6 rfl,ht]
 exact bC (Fa.builtin sr he hn hb hk hd (PySem.callWith_builtin1 ((h A env f ρ σ s hr he sr).step hx P fun v V cW σ₁ cD e1 cY rv dB P1=>(hC A cW σ₁ cD v V hr (he.mono e1).nM cY rv).last dB P1)))
theorem aeS(Fa:Facts c gl gz){x:Str}{T:String}{e:Expr}{p pos:Pos}{y:Fr→List MO→Out J}{m:J→List MO→Out J}(hn:gz x=true)(hb:bootBuiltins x=some (.type T))(hk:g.scope.names.lookup x=some .globalImplicit)
  (hd:(x==("__debug__":Str))=false) (h:DE c g n e y) (hu:jf e=true) (hC:C1 c n (.type T) m):DE c g n (.Call (.Name x p) [e] [] pos) (m1 m y):=by
 refine fun A env f ρ σ s hr he sr=>⟨fun r cG hx Q E P=>?_⟩
 have ht:backTo pos (starEach [e] env)=[(false,eval e env)]:=congrArg (backTo pos) (o_ (es:=[]) ((Bool.and_true _).trans hu) env)
 rw[t6 rfl,ht]
 exact bC (Fa.builtin sr he hn hb hk hd (PySem.callWith_type1 ((h A env f ρ σ s hr he sr).step hx P fun v V cW σ₁ cD e1 cY rv dB P1=>(hC A cW σ₁ cD v V hr (he.mono e1).nM cY rv).last dB P1)))
def Bc(l:List J)(σ:List MO):Out J:=gd (short l) (ok (.int l.length) σ)
def iC(v:J)(σ:List MO):Out J:=oh v (fun l=>Bc l σ) (fun l=>Bc l σ) fun i=>tL σ i fun l=>Bc l σ
theorem fit{k:Nat}(h:k≤sizeLine):(k:Int)<2^63:=Int.lt_of_le_of_lt (Int.ofNat_le.mpr (sizeLine_eq▸h)) (by decide)
theorem PO{a:Addr}{l:List J}{Vs:List Value}(sr:SR c ρ σ s)(rl:dh c ρ s.heap l Vs)(H:∀Q:Value→Shared→Prop,∀E:Value→Shared→Prop,((Vs.toArray.size:Nat):Int)<2^63→(∀t1 t2,Q (.int Vs.toArray.size t1) {s with toks:=t2})→wpAny (model c.prog c.w) A (call (.builtin "len") [.ref a]) Q E s):
  Den c A (cI c) ρ s (call (.builtin "len") [.ref a]) (Bc l σ):=Den.gd fun hs=>Den.now fun Q E P=>
 have hl:Vs.toArray.size=l.length:=List.size_toArray.trans rl.length
 H Q E (hl.symm▸fit (qj hs)) fun t1 t2=>P.ok _ _ ρ _ rfl (Ext.refl _ _) (sr.toks t2) (hl.symm▸.int _ t1)
theorem QM{a:Addr}{l:List J}{Vs:List Value}{m:Nat}(sr:SR c ρ σ s)(e:s.heap.get? a=some (gm Vs m))(rl:dh c ρ s.heap l Vs):Den c A (cI c) ρ s (call (.builtin "len") [.ref a]) (Bc l σ):=
 PO sr rl fun Z Z h1 h2=>PyProof.Rows.len_list (⟨_,e,rfl,_,rfl⟩:s.heap.IsList a Vs.toArray) h1 (h2 _ _)
theorem C1.len:C1 c n (.builtin "len") iC:=fun A ρ σ s v V Z Z sr rv=>Den.oh (T:=fun V=>call (.builtin "len") [V]) rv
 (fun Z a Z Vs e Z rl=>PO sr rl fun Z Z h1 h2=>PyProof.Rows.len_tuple (⟨_,e,rfl,_,rfl⟩:IsTup s.heap a Vs.toArray) h1 (h2 _ _))
 (fun Z Z Z Z e Z rl=>QM sr e rl) fun i a q=>Den.tL0 q sr fun Z Z Z hg rl=>QM sr hg rl
def IK(v:J)(σ:List MO):Out J:=oh v (fun l=>ok (.tup l) σ) (fun l=>gd (short l) (ok (.tup l) σ)) fun Z=>none
def AQ(v:J)(σ:List MO):Out J:=oh v (fun l=>gd (short l) (ok (.lst l) σ)) (fun l=>gd (short l) (ok (.lst l) σ)) fun Z=>none
theorem C1.tuple:C1 c n (.type "tuple") IK:=fun A ρ σ s v V Z Z sr rv=>Den.oh (T:=fun V=>call (.type "tuple") [V]) rv
 (fun Z Z Z Z e hn rl=>Den.now fun Q E P=>call_tuple_same (⟨_,e,rfl,_,rfl⟩:s.heap.IsTuple _ _) (P.here sr (.tup e hn rl)))
 (fun l a Z Vs e hn rl=>Den.gd fun hs=>Den.now fun Q E P=>call_tuple_list (⟨_,e,rfl,_,rfl⟩:s.heap.IsList a Vs.toArray) (fun h' k=>
  have e1:Ext ρ s.heap ρ h':=Ext.keeps k
  have q:=(sr.keeps (t:=s.toks) k).vp (rl.mono e1) (t:=s.toks)
  P.ok _ _ ρ _ rfl (e1.trans (Ext.push _)) q.1 q.2) (List.size_toArray.trans rl.length▸qj hs)) fun Z Z Z=>Den.none
end
abbrev X:=Fr→List MO→Out J
abbrev XL:=Fr→List MO→Out (List J)
abbrev KD:=Fr→List MO→Out Src
abbrev XT:=Fr→List MO→Out Bool
abbrev XS:=Fr→List MO→Out MF
abbrev KT:=J→List J→List MO→Out J
noncomputable def FA(p:Nat→Bool)(l:List Nat):Bool:=@List.rec Nat (fun Z=>Bool) true (fun a Z ih=>@Bool.rec (fun Z=>Bool) false ih (p a)) l
theorem QN(p:Nat→Bool):∀l:List Nat,FA p l=l.all p
 |[]=>rfl
 |a::l=>by
  have:FA p (a::l)=@Bool.rec (fun Z=>Bool) false (FA p l) (p a):=rfl
  rw[this,List.all_cons,QN p l]
  cases p a<;>rfl
def KG(x:Str):Bool:=FA (fun c=>Nat.blt c 1114112) x.cps.toList
theorem adz(x:Str):KG x=PyData.strOk x:=by
 unfold KG PyData.strOk
 rw[QN,←Array.all_toList]
 congr 1
 funext c
 rw[Bool.eq_iff_iff,Nat.blt_eq,decide_eq_true_iff]
noncomputable def rW(a b:Int):Bool:=@Int.casesOn (fun Z=>Bool) a (fun a=>@Int.casesOn (fun Z=>Bool) b (fun b=>Nat.beq a b) (fun Z=>false)) (fun a=>@Int.casesOn (fun Z=>Bool) b (fun Z=>false) (fun b=>Nat.beq a b))
theorem QO{a b:Nat}{P:Nat→Int}(h:P a=P b→a=b):Nat.beq a b=(P a==P b):=by
 rw[BT.beq_eq,Bool.eq_iff_iff,decide_eq_true_iff,beq_iff_eq]
 exact⟨fun h=>by rw[h],h⟩
theorem AR(a b:Int):rW a b=(a==b):=@Int.casesOn (fun a=>rW a b=(a==b)) a (fun a=>@Int.casesOn (fun b=>rW (.ofNat a) b=(Int.ofNat a==b)) b (fun b=>QO Int.ofNat.inj) (fun b=>rfl)) (fun a=>@Int.casesOn (fun b=>rW (.negSucc a) b=(Int.negSucc a==b)) b (fun b=>rfl) (fun b=>QO Int.negSucc.inj))
noncomputable def b2i(b:Bool):Int:=@Bool.rec (fun Z=>Int) (.ofNat 0) (.ofNat 1) b
noncomputable def FE(a b:Bool):Bool:=@Bool.rec (fun Z=>Bool) (@Bool.rec (fun Z=>Bool) true false b) b a
noncomputable def iU(p:J→Bool)(l:List J):Bool:=@List.rec J (fun Z=>Bool) true (fun v Z ih=>@Bool.rec (fun Z=>Bool) false ih (p v)) l
def ll(t:List J→Bool)(v:J):Bool:=@J.casesOn (fun Z=>Bool) v true (fun Z=>true) (fun Z=>true) KG t t (fun Z=>false) (fun Z Z=>false) (fun Z=>false) (fun Z=>false) (fun Z=>false) (fun Z=>false) (fun Z=>false) false
def g7(n:Nat):J→Bool:=@Nat.rec (fun Z=>J→Bool) (ll fun Z=>false) (fun Z ih=>ll (iU ih)) n
noncomputable def vX(e:J→J→Bool)(l:List J):List J→Bool:=@List.rec J (fun Z=>List J→Bool) (fun m=>@List.casesOn J (fun Z=>Bool) m true (fun Z Z=>false)) (fun a Z ih m=>@List.casesOn J (fun Z=>Bool) m false (fun b m=>@Bool.rec (fun Z=>Bool) false (ih m) (e a b))) l
def pz(s:List J→List J→Bool)(a b:J):Bool:=@J.casesOn (fun Z=>Bool) a (@J.casesOn (fun Z=>Bool) b true (fun Z=>false) (fun Z=>false) (fun Z=>false) (fun Z=>false) (fun Z=>false) (fun Z=>false) (fun Z Z=>false) (fun Z=>false) (fun Z=>false) (fun Z=>false) (fun Z=>false) (fun Z=>false) false) (fun x=>@J.casesOn (fun Z=>Bool) b false (fun y=>FE x y) (fun j=>rW (b2i x) j) (fun Z=>false) (fun Z=>false) (fun Z=>false) (fun Z=>false) (fun Z Z=>false) (fun Z=>false) (fun Z=>false) (fun Z=>false) (fun Z=>false) (fun Z=>false) false) (fun i=>@J.casesOn (fun Z=>Bool) b false (fun y=>rW i (b2i y)) (fun j=>rW i j) (fun Z=>false) (fun Z=>false) (fun Z=>false) (fun Z=>false) (fun Z Z=>false) (fun Z=>false) (fun Z=>false) (fun Z=>false) (fun Z=>false) (fun Z=>false) false) (fun x=>@J.casesOn (fun Z=>Bool) b false (fun Z=>false) (fun Z=>false) (fun y=>sq x y) (fun Z=>false) (fun Z=>false) (fun Z=>false) (fun Z Z=>false) (fun Z=>false) (fun Z=>false) (fun Z=>false) (fun Z=>false) (fun Z=>false) false) (fun x=>@J.casesOn (fun Z=>Bool) b false (fun Z=>false) (fun Z=>false) (fun Z=>false) (fun y=>s x y) (fun Z=>false) (fun Z=>false) (fun Z Z=>false) (fun Z=>false) (fun Z=>false) (fun Z=>false) (fun Z=>false) (fun Z=>false) false) (fun x=>@J.casesOn (fun Z=>Bool) b false (fun Z=>false) (fun Z=>false) (fun Z=>false) (fun Z=>false) (fun y=>s x y) (fun Z=>false) (fun Z Z=>false) (fun Z=>false) (fun Z=>false) (fun Z=>false) (fun Z=>false) (fun Z=>false) false) (fun Z=>false) (fun Z Z=>false) (fun Z=>false) (fun Z=>false) (fun Z=>false) (fun Z=>false) (fun Z=>false) false
def mI(n:Nat):J→J→Bool:=@Nat.rec (fun Z=>J→J→Bool) (pz fun Z Z=>false) (fun Z ih=>pz (vX ih)) n
theorem sH{p:J→Bool}{v:J}{l:List J}(h:iU p (v::l)=true):p v=true∧iU p l=true:=ew (a:=p v) (b:=iU p l) h
theorem Aq{v:J}{l:List J}{D:List PyData}(h:J.my (v::l)=some D):∃d ds,D=d::ds∧v.data=some d∧J.my l=some ds:=
 let⟨d,h1,h⟩:=eP h
 let⟨ds,h2,h3⟩:=eP h
 ⟨d,ds,(aV h3).symm,h1,h2⟩
theorem aaB{v:J}{l:List J}{d:PyData}{ds:List PyData}(h1:v.data=some d)(h2:J.my l=some ds):J.my (v::l)=some (d::ds):=by
 show ej v.data (fun d=>ej (J.my l) fun ds=>some (d::ds))=_
 rw[h1,h2];rfl
theorem HS{n:Nat}{p:J→Bool}(hp:∀v,p v=true→∃d,v.data=some d∧d.canLay0=true∧d.depth≤n):∀{l:List J},iU p l=true→∃ds,J.my l=some ds∧PyData.canLayAll0 ds=true∧PyData.depthAll ds≤n
 |[],_=>⟨[],rfl,rfl,Nat.zero_le _⟩
 |v::l,h=>by
  refine zz fun GG KK=>?_
  obtain⟨hv,h⟩:=sH h
  obtain⟨d,h1,h2,h3⟩:=hp v hv
  obtain⟨ds,g1,g2,g3⟩:=HS hp h
  refine KK ?_
  exact⟨d::ds,aaB h1 g1,by simp[PyData.canLayAll0,h2,g2],by simp only[PyData.depthAll];exact Nat.max_le.mpr ⟨h3,g3⟩⟩
theorem OZ{n:Nat}{t:List J→Bool}(ht:∀l,t l=true→∃ds,J.my l=some ds∧PyData.canLayAll0 ds=true∧PyData.depthAll ds+1≤n){v:J}:ll t v=true→∃d,v.data=some d∧d.canLay0=true∧d.depth≤n:=
 @J.casesOn (fun v=>ll t v=true→∃d,v.data=some d∧d.canLay0=true∧d.depth≤n) v (fun Z=>⟨_,rfl,rfl,Nat.zero_le _⟩) (fun Z Z=>⟨_,rfl,rfl,Nat.zero_le _⟩) (fun Z Z=>⟨_,rfl,rfl,Nat.zero_le _⟩) (fun x h=>⟨_,rfl,(adz x).symm.trans h,Nat.zero_le _⟩) (fun l h=>let⟨ds,g1,g2,g3⟩:=ht l h;⟨.tuple ds,by rw[n4,g1];rfl,g2,g3⟩) (fun l h=>let⟨ds,g1,g2,g3⟩:=ht l h;⟨.list ds,by rw[n5,g1];rfl,g2,g3⟩) (fun Z h=>cF h) (fun Z Z h=>cF h) (fun Z h=>cF h) (fun Z h=>cF h) (fun Z h=>cF h) (fun Z h=>cF h) (fun Z h=>cF h) (fun h=>cF h)
theorem H8:∀{n:Nat} {v:J},g7 n v=true→∃d,v.data=some d∧d.canLay0=true∧d.depth≤n
 |0,_,h=>OZ (fun Z h=>cF h) h
 |n+1,_,h=>OZ (fun Z h=>let⟨ds,g1,g2,g3⟩:=HS (fun Z hv=>H8 (n:=n) hv) h;⟨ds,g1,g2,Nat.succ_le_succ g3⟩) h
theorem HT{n:Nat}{v:J}(h:g7 n v=true)(hn:n≤64):∃d,v.data=some d∧SeqAt.shaped d=true:=by
 obtain⟨d,h1,h2,h3⟩:=H8 h
 exact⟨d,h1,by unfold SeqAt.shaped;rw[h2,decide_eq_true (Nat.le_trans h3 hn)];rfl⟩
theorem PQ{p:J→Bool}{e:J→J→Bool}(h:∀a b da db,p a=true→p b=true→a.data=some da→b.data=some db→e a b=PyData.eqv da db):
  ∀{l m:List J} {dl dm:List PyData},iU p l=true→iU p m=true→J.my l=some dl→J.my m=some dm→vX e l m=PyData.eqvAll dl dm
 |[],[],_,_,_,_,e1,e2=>aV e1▸aV e2▸rfl
 |[],b::m,_,_,_,_,e1,e2=>let⟨_,_,q,_⟩:=Aq e2;aV e1▸q▸rfl
 |a::l,[],_,_,_,_,e1,e2=>let⟨_,_,q,_⟩:=Aq e1;aV e2▸q▸rfl
 |a::l,b::m,_,_,p1,p2,e1,e2=>by
  refine zz fun GG KK=>?_
  obtain⟨da,dl,rfl,h1,h2⟩:=Aq e1
  obtain⟨db,dm,rfl,h3,h4⟩:=Aq e2
  refine KK ?_
  show band (e a b) (vX e l m)=(PyData.eqv da db&&PyData.eqvAll dl dm)
  rw[yT,h a b da db (sH p1).1 (sH p2).1 h1 h3,PQ h (sH p1).2 (sH p2).2 h2 h4]
theorem bb(x y:Bool):FE x y=PyData.eqv (.bool x) (.bool y):=by cases x<;>cases y<;>rfl
theorem bi(x:Bool)(j:Int):rW (b2i x) j=PyData.eqv (.bool x) (.int j):=by rw[AR];cases x<;>rfl
theorem ib(i:Int)(y:Bool):rW i (b2i y)=PyData.eqv (.int i) (.bool y):=by rw[AR];cases y<;>rfl
theorem str_beq(x y:Str):decide (x=y)=PyData.eqv (.str x) (.str y):=by show _=(x==y);rw[Bool.eq_iff_iff,decide_eq_true_iff,beq_iff_eq]
theorem PR{s:List J→List J→Bool}{t:List J→Bool}(hs:∀l m dl dm,t l=true→t m=true→J.my l=some dl→J.my m=some dm→s l m=PyData.eqvAll dl dm){a b:J}{da db:PyData}:ll t a=true→ll t b=true→a.data=some da→b.data=some db→pz s a b=PyData.eqv da db:=
 @J.casesOn (fun a=>ll t a=true→ll t b=true→a.data=some da→b.data=some db→pz s a b=PyData.eqv da db) a (fun ha=>@J.casesOn (fun b=>ll t b=true→J.data .none=some da→b.data=some db→pz s .none b=PyData.eqv da db) b (fun hb ea eb=>aV ea▸aV eb▸rfl) (fun y hb ea eb=>aV ea▸aV eb▸rfl) (fun y hb ea eb=>aV ea▸aV eb▸rfl) (fun y hb ea eb=>aV ea▸aV eb▸rfl) (fun k hb ea eb=>let⟨_,_,lV⟩:=eP ((n4 k).symm.trans eb);aV ea▸aV lV▸rfl) (fun k hb ea eb=>let⟨_,_,lV⟩:=eP ((n5 k).symm.trans eb);aV ea▸aV lV▸rfl) (fun Z hb Z Z=>cF hb) (fun Z Z hb Z Z=>cF hb) (fun Z hb Z Z=>cF hb) (fun Z hb Z Z=>cF hb) (fun Z hb Z Z=>cF hb) (fun Z hb Z Z=>cF hb) (fun Z hb Z Z=>cF hb) (fun hb Z Z=>cF hb)) (fun x ha=>@J.casesOn (fun b=>ll t b=true→J.data (.bool x)=some da→b.data=some db→pz s (.bool x) b=PyData.eqv da db) b (fun hb ea eb=>aV ea▸aV eb▸rfl) (fun y hb ea eb=>aV ea▸aV eb▸bb x y) (fun y hb ea eb=>aV ea▸aV eb▸bi x y) (fun y hb ea eb=>aV ea▸aV eb▸rfl) (fun k hb ea eb=>let⟨_,_,lV⟩:=eP ((n4 k).symm.trans eb);aV ea▸aV lV▸rfl) (fun k hb ea eb=>let⟨_,_,lV⟩:=eP ((n5 k).symm.trans eb);aV ea▸aV lV▸rfl) (fun Z hb Z Z=>cF hb) (fun Z Z hb Z Z=>cF hb) (fun Z hb Z Z=>cF hb) (fun Z hb Z Z=>cF hb) (fun Z hb Z Z=>cF hb) (fun Z hb Z Z=>cF hb) (fun Z hb Z Z=>cF hb) (fun hb Z Z=>cF hb)) (fun x ha=>@J.casesOn (fun b=>ll t b=true→J.data (.int x)=some da→b.data=some db→pz s (.int x) b=PyData.eqv da db) b (fun hb ea eb=>aV ea▸aV eb▸rfl) (fun y hb ea eb=>aV ea▸aV eb▸ib x y) (fun y hb ea eb=>aV ea▸aV eb▸AR x y) (fun y hb ea eb=>aV ea▸aV eb▸rfl) (fun k hb ea eb=>let⟨_,_,lV⟩:=eP ((n4 k).symm.trans eb);aV ea▸aV lV▸rfl) (fun k hb ea eb=>let⟨_,_,lV⟩:=eP ((n5 k).symm.trans eb);aV ea▸aV lV▸rfl) (fun Z hb Z Z=>cF hb) (fun Z Z hb Z Z=>cF hb) (fun Z hb Z Z=>cF hb) (fun Z hb Z Z=>cF hb) (fun Z hb Z Z=>cF hb) (fun Z hb Z Z=>cF hb) (fun Z hb Z Z=>cF hb) (fun hb Z Z=>cF hb)) (fun x ha=>@J.casesOn (fun b=>ll t b=true→J.data (.str x)=some da→b.data=some db→pz s (.str x) b=PyData.eqv da db) b (fun hb ea eb=>aV ea▸aV eb▸rfl) (fun y hb ea eb=>aV ea▸aV eb▸rfl) (fun y hb ea eb=>aV ea▸aV eb▸rfl) (fun y hb ea eb=>aV ea▸aV eb▸(pe x y).trans (str_beq x y)) (fun k hb ea eb=>let⟨_,_,lV⟩:=eP ((n4 k).symm.trans eb);aV ea▸aV lV▸rfl) (fun k hb ea eb=>let⟨_,_,lV⟩:=eP ((n5 k).symm.trans eb);aV ea▸aV lV▸rfl) (fun Z hb Z Z=>cF hb) (fun Z Z hb Z Z=>cF hb) (fun Z hb Z Z=>cF hb) (fun Z hb Z Z=>cF hb) (fun Z hb Z Z=>cF hb) (fun Z hb Z Z=>cF hb) (fun Z hb Z Z=>cF hb) (fun hb Z Z=>cF hb)) (fun l ha=>@J.casesOn (fun b=>ll t b=true→J.data (.tup l)=some da→b.data=some db→pz s (.tup l) b=PyData.eqv da db) b (fun hb ea eb=>let⟨_,_,lW⟩:=eP ((n4 l).symm.trans ea);aV lW▸aV eb▸rfl) (fun y hb ea eb=>let⟨_,_,lW⟩:=eP ((n4 l).symm.trans ea);aV lW▸aV eb▸rfl) (fun y hb ea eb=>let⟨_,_,lW⟩:=eP ((n4 l).symm.trans ea);aV lW▸aV eb▸rfl) (fun y hb ea eb=>let⟨_,_,lW⟩:=eP ((n4 l).symm.trans ea);aV lW▸aV eb▸rfl) (fun k hb ea eb=>let⟨_,g1,q1⟩:=eP ((n4 l).symm.trans ea);let⟨_,g2,q2⟩:=eP ((n4 k).symm.trans eb);aV q1▸aV q2▸hs l k _ _ ha hb g1 g2) (fun k hb ea eb=>let⟨_,_,lW⟩:=eP ((n4 l).symm.trans ea);let⟨_,_,lV⟩:=eP ((n5 k).symm.trans eb);aV lW▸aV lV▸rfl) (fun Z hb Z Z=>cF hb) (fun Z Z hb Z Z=>cF hb) (fun Z hb Z Z=>cF hb) (fun Z hb Z Z=>cF hb) (fun Z hb Z Z=>cF hb) (fun Z hb Z Z=>cF hb) (fun Z hb Z Z=>cF hb) (fun hb Z Z=>cF hb)) (fun l ha=>@J.casesOn (fun b=>ll t b=true→J.data (.lst l)=some da→b.data=some db→pz s (.lst l) b=PyData.eqv da db) b (fun hb ea eb=>let⟨_,_,lW⟩:=eP ((n5 l).symm.trans ea);aV lW▸aV eb▸rfl) (fun y hb ea eb=>let⟨_,_,lW⟩:=eP ((n5 l).symm.trans ea);aV lW▸aV eb▸rfl) (fun y hb ea eb=>let⟨_,_,lW⟩:=eP ((n5 l).symm.trans ea);aV lW▸aV eb▸rfl) (fun y hb ea eb=>let⟨_,_,lW⟩:=eP ((n5 l).symm.trans ea);aV lW▸aV eb▸rfl) (fun k hb ea eb=>let⟨_,_,lW⟩:=eP ((n5 l).symm.trans ea);let⟨_,_,lV⟩:=eP ((n4 k).symm.trans eb);aV lW▸aV lV▸rfl) (fun k hb ea eb=>let⟨_,g1,q1⟩:=eP ((n5 l).symm.trans ea);let⟨_,g2,q2⟩:=eP ((n5 k).symm.trans eb);aV q1▸aV q2▸hs l k _ _ ha hb g1 g2) (fun Z hb Z Z=>cF hb) (fun Z Z hb Z Z=>cF hb) (fun Z hb Z Z=>cF hb) (fun Z hb Z Z=>cF hb) (fun Z hb Z Z=>cF hb) (fun Z hb Z Z=>cF hb) (fun Z hb Z Z=>cF hb) (fun hb Z Z=>cF hb)) (fun Z ha Z Z Z=>cF ha) (fun Z Z ha Z Z Z=>cF ha) (fun Z ha Z Z Z=>cF ha) (fun Z ha Z Z Z=>cF ha) (fun Z ha Z Z Z=>cF ha) (fun Z ha Z Z Z=>cF ha) (fun Z ha Z Z Z=>cF ha) (fun ha Z Z Z=>cF ha)
theorem Ip:∀{n:Nat} {a b:J} {da db:PyData},g7 n a=true→g7 n b=true→a.data=some da→b.data=some db→mI n a b=PyData.eqv da db
 |0,a,b,_,_,ha,hb,ea,eb=>PR (s:=fun Z Z=>false) (t:=fun Z=>false) (a:=a) (b:=b) (fun Z Z Z Z h=>cF h) ha hb ea eb
 |n+1,a,b,_,_,ha,hb,ea,eb=>PR (s:=vX (mI n)) (t:=iU (g7 n)) (a:=a) (b:=b) (fun Z Z Z Z h1 h2 g1 g2=>PQ (fun Z Z Z Z=>Ip (n:=n)) h1 h2 g1 g2) ha hb ea eb
noncomputable def anyF(e:J→Bool)(l:List J):Bool:=@List.rec J (fun Z=>Bool) false (fun v Z ih=>@Bool.rec (fun Z=>Bool) ih true (e v)) l
theorem PT{x:J}{d:PyData}{n:Nat}(hx:g7 n x=true)(ex:x.data=some d):∀{l:List J} {ds:List PyData},iU (g7 n) l=true→J.my l=some ds→anyF (fun y=>mI n y x) l=ds.any fun y=>PyData.eqv y d
 |[],_,_,e=>aV e▸rfl
 |v::l,_,h,e=>by
  refine zz fun GG KK=>?_
  obtain⟨dv,ds,rfl,h1,h2⟩:=Aq e
  obtain⟨hv,h⟩:=sH h
  refine KK ?_
  show @Bool.rec (fun Z=>Bool) (anyF (fun y=>mI n y x) l) true (mI n v x)=_
  rw[Ip hv hx h1 ex,List.any_cons,PT hx ex h h2]
  cases PyData.eqv dv d<;>rfl
noncomputable def Le{β:Type}(x y:Fr→List MO→Out β):Prop:=∀f σ r,x f σ=some r→y f σ=some r
noncomputable def Le1(m m':J→List MO→Out J):Prop:=∀a σ r,m a σ=some r→m' a σ=some r
noncomputable def Le2(m m':J→J→List MO→Out J):Prop:=∀a b σ r,m a b σ=some r→m' a b σ=some r
theorem HU{β γ:Type}{x:Out β}{k:β→List MO→Out γ}{r:Res γ×List MO}(h:dk x k=some r):(∃b σ,x=some (.ok b,σ)∧k b σ=some r)∨∃e σ,x=some (.fo e,σ)∧r=(.fo e,σ):=by
 cases x with
 |none=>cases h
 |some y=>
  obtain⟨y,σ⟩:=y
  cases y with
  |ok b=>exact .inl ⟨b,σ,rfl,h⟩
  |fo e=>cases h;exact .inr ⟨e,σ,rfl,rfl⟩
theorem PU{β γ:Type}{x y:Out β}{k k':β→List MO→Out γ}{r:Res γ×List MO}(hx:∀r,x=some r→y=some r)(hk:∀b σ r,k b σ=some r→k' b σ=some r)(h:dk x k=some r):dk y k'=some r:=by
 refine zz fun GG KK=>?_
 rcases HU h with⟨b,σ,e,h⟩|⟨e,σ,h1,rfl⟩
 ·refine KK ?_
  rw[hx _ e];exact hk b σ r h
 ·refine KK ?_
  rw[hx _ h1];rfl
section
variable{c:Cx}{g:FC}{n:Nat}{A:Around}{env:Env}{f:Fr}{ρ:List Addr}{σ:List MO}{s:Shared}{tb:Tb}
theorem Den.ref{α β:Type}{Rel:List Addr→Heap→β→α→Prop}{t:Sem α}{x y:Out β}(h:Den c A Rel ρ s t y)(hl:∀r,x=some r→y=some r):Den c A Rel ρ s t x:=⟨fun r cG e Q E P=>h.run r cG (hl _ e) Q E P⟩
theorem DE.ref{e:Expr}{x y:X}(h:DE c g n e y)(hl:Le x y):DE c g n e x:=fun A env f ρ σ s hr he sr=>(h A env f ρ σ s hr he sr).ref (hl f σ)
theorem DT.ref{e:Expr}{x y:XT}(h:DT c g n e y)(hl:Le x y):DT c g n e x:=fun A env f ρ σ s hr he sr=>(h A env f ρ σ s hr he sr).ref (hl f σ)
theorem DE.bad{e:Expr}:DE c g n e fun Z Z=>Option.none:=fun Z Z Z Z Z Z Z Z Z=>Den.none
theorem DT.bad{e:Expr}:DT c g n e fun Z Z=>Option.none:=fun Z Z Z Z Z Z Z Z Z=>Den.none
theorem D1.bad{e:Stmt}:D1 c g n e fun Z Z=>Option.none:=fun Z Z Z Z Z Z Z Z Z=>Den.none
def cU(a b:J)(σ:List MO):Out J:=gd (g7 12 a) (gd (g7 12 b) (ok (.bool (mI 12 a b)) σ))
noncomputable def qt(b:Bool):Bool:=@Bool.rec (fun Z=>Bool) true false b
def eX(a b:J)(σ:List MO):Out J:=gd (g7 12 a) (gd (g7 12 b) (ok (.bool (qt (mI 12 a b))) σ))
def rE(f:Bool→Bool)(x y:J)(σ:List MO):Out J:=@J.casesOn (fun Z=>Out J) y none (fun Z=>none) (fun Z=>none) (fun Z=>none) (fun l=>gd (g7 12 x) (gd (iU (g7 12) l) (ok (.bool (f (anyF (fun y=>mI 12 y x) l))) σ))) (fun l=>gd (g7 12 x) (gd (iU (g7 12) l) (ok (.bool (f (anyF (fun y=>mI 12 y x) l))) σ)))
 (fun l=>vS x fun k=>ok (.bool (f (lP l k))) σ) (fun Z Z=>none) (fun i=>tD σ i fun l=>vS x fun k=>ok (.bool (f (lP l k))) σ) (fun Z=>none) (fun Z=>none) (fun Z=>none) (fun Z=>none) none
def jz(a b:J)(σ:List MO):Out J:=rE (fun b=>b) a b σ
def mx(a b:J)(σ:List MO):Out J:=rE qt a b σ
noncomputable def EM(v:J):Option Bool:=@J.casesOn (fun Z=>Option Bool) v (some true) (fun Z=>some false) (fun Z=>some false) (fun Z=>some false) (fun Z=>some false) (fun Z=>some false) (fun Z=>some false) (fun Z Z=>some false) (fun Z=>some false) (fun Z=>some false) (fun Z=>some false) (fun Z=>some false) (fun Z=>some false) none
def jc(a:J)(σ:List MO):Out J:=ej (EM a) fun b=>ok (.bool b) σ
def k_(a:J)(σ:List MO):Out J:=ej (EM a) fun b=>ok (.bool (qt b)) σ
theorem AJ(b:Bool):qt b=!b:=by cases b<;>rfl
theorem O0{a b:J}{Va Vb:Value}{h:Heap}(ha:g7 12 a=true)(hb:g7 12 b=true)(ra:cI c ρ h a Va)(rb:cI c ρ h b Vb):∃da db as bs,Reads h Va da as∧Reads h Vb db bs∧SeqAt.shaped da=true∧SeqAt.shaped db=true∧PyData.eqv da db=mI 12 a b:=
 let⟨da,h1,h2⟩:=HT ha (by decide)
 let⟨db,h3,h4⟩:=HT hb (by decide)
 let⟨as,qa⟩:=ra.reads h1
 let⟨bs,qb⟩:=rb.reads h3
 ⟨da,db,as,bs,qa,qb,h2,h4,(Ip ha hb h1 h3).symm⟩
theorem D2.cU:D2 c n (compareOp .Eq) cU:=fun A ρ σ s a b Va Vb hr sr ra rb=>Den.gd fun ha=>Den.gd fun hb=>Den.now fun Q E P=>
 let⟨_,_,_,_,qa,qb,h2,h4,e⟩:=O0 ha hb ra rb
 eq_dataH qa qb h2 h4 hr.eqs (e▸P.here sr (.bool _))
theorem D2.eX:D2 c n (compareOp .NotEq) eX:=fun A ρ σ s a b Va Vb hr sr ra rb=>Den.gd fun ha=>Den.gd fun hb=>Den.now fun Q E P=>
 let⟨_,_,_,_,qa,qb,h2,h4,e⟩:=O0 ha hb ra rb
 ne_dataH qa qb h2 h4 hr.eqs (e▸AJ _▸P.here sr (.bool _))
theorem PV{x:J}{X:Value}{l:List J}{Vs:List Value}{h:Heap}(hx:g7 12 x=true)(hl:iU (g7 12) l=true)(rx:cI c ρ h x X)(r:dh c ρ h l Vs):∃d ds as bs,Reads h X d as∧ReadsAll h Vs ds bs∧SeqAt.shaped d=true∧(PyData.list ds).canLay0=true∧(ds.any fun y=>PyData.eqv y d)=anyF (fun y=>mI 12 y x) l:=
 let⟨d,h1,h2⟩:=HT hx (by decide)
 let⟨ds,g1,g2,_⟩:=HS (fun v hv=>H8 (n:=12) hv) hl
 let⟨as,ra⟩:=rx.reads h1
 let⟨bs,rb⟩:=r.reads g1
 ⟨d,ds,as,bs,ra,rb,h2,g2,(PT hx h1 hl g1).symm⟩
theorem DW(hr:g0 A n){d:PyData}(h:SeqAt.shaped d=true)(m:Nat):A.units+1+min m d.depth<cLine:=by
 have h1:=hr.units
 have h2:=SeqAt.depth_of_shaped h
 have h3:=Nat.min_le_right m d.depth
 omega
theorem D2.rE{op:CmpOp}{f:Bool→Bool}(hT:∀{A:Around} {E:Value→Shared→Prop} {Q:Value→Shared→Prop} {s:Shared} {X:Value} {a:Addr} {m:Nat} {Vs:List Value} {d:PyData} {ds:List PyData} {as bs:List Addr},g0 A n→s.heap.get? a=some (gS Vs m)→Reads s.heap X d as→ReadsAll s.heap Vs ds bs→SeqAt.shaped d=true→(PyData.list ds).canLay0=true→Q (.bool (f (ds.any fun y=>PyData.eqv y d))) s→wpAny (model c.prog c.w) A (compareOp op X (.ref a)) Q E s)
  (hL:∀{A:Around} {E:Value→Shared→Prop} {Q:Value→Shared→Prop} {s:Shared} {X:Value} {a:Addr} {m:Nat} {Vs:List Value} {d:PyData} {ds:List PyData} {as bs:List Addr},g0 A n→s.heap.get? a=some (gm Vs m)→Reads s.heap X d as→ReadsAll s.heap Vs ds bs→SeqAt.shaped d=true→(PyData.list ds).canLay0=true→Q (.bool (f (ds.any fun y=>PyData.eqv y d))) s→wpAny (model c.prog c.w) A (compareOp op X (.ref a)) Q E s)
  (hD:∀{A:Around} {E:Value→Shared→Prop} {Q:Value→Shared→Prop} {s:Shared} {ρ:List Addr} {a:Addr} {L:List (Str×Value)} {l:List (Str×J)} {k:Str} {t:Tok},a≠sysModules→s.heap.DictOf (iS c) a L→eI c ρ s.heap l L→Q (.bool (f (lP l k))) {s with toks:=s.toks+1}→wpAny (model c.prog c.w) A (compareOp op (.str k t) (.ref a)) Q E s):
  D2 c n (compareOp op) (rE f):=fun A ρ σ s x y X Y hr sr rx ry=>
 have fB:∀{a:Addr} {l:List (Str×J)} {L:List (Str×Value)},a≠sysModules→s.heap.DictOf (iS c) a L→eI c ρ s.heap l L→Den c A (cI c) ρ s (compareOp op X (.ref a)) (vS x fun k=>ok (.bool (f (lP l k))) σ):=fun{a l L} hm hd r=>
  Den.vS (T:=fun X=>compareOp op X (.ref a)) rx fun k t=>Den.now fun Q E P=>hD hm hd r (P.ok _ _ ρ _ rfl (Ext.refl _ _) (sr.toks _) (.bool _))
 @J.casesOn (fun y=>cI c ρ s.heap y Y→Den c A (cI c) ρ s (compareOp op X Y) (Mine.rE f x y σ)) y (fun Z=>Den.none) (fun Z Z=>Den.none) (fun Z Z=>Den.none) (fun Z Z=>Den.none)
  (fun l r=>@kU.rec c ρ s.heap gS l (fun Y Z=>Den c A (cI c) ρ s (compareOp op X Y) (Mine.rE f x (.tup l) σ)) (fun e Z r=>Den.gd fun hx=>Den.gd fun hl=>Den.now fun Q E P=>let⟨_,_,_,_,q1,q2,q3,q4,q5⟩:=PV hx hl rx r;hT hr e q1 q2 q3 q4 (q5▸P.here sr (.bool _))) Y r.inv)
  (fun l r=>@kU.rec c ρ s.heap gm l (fun Y Z=>Den c A (cI c) ρ s (compareOp op X Y) (Mine.rE f x (.lst l) σ)) (fun e Z r=>Den.gd fun hx=>Den.gd fun hl=>Den.now fun Q E P=>let⟨_,_,_,_,q1,q2,q3,q4,q5⟩:=PV hx hl rx r;hL hr e q1 q2 q3 q4 (q5▸P.here sr (.bool _))) Y r.inv)
  (fun l r=>@sV.rec c ρ s.heap l (fun Y Z=>Den c A (cI c) ρ s (compareOp op X Y) (Mine.rE f x (.fB l) σ)) (fun hd hm Z r=>fB hm hd r) Y r.inv) (fun Z Z Z=>Den.none)
  (fun i r=>let⟨a,e,q⟩:=r.inv;e▸Den.tD sr q fun l L Z hd hm r=>fB hm hd r) (fun Z Z=>Den.none) (fun Z Z=>Den.none) (fun Z Z=>Den.none) (fun Z Z=>Den.none) (fun Z=>Den.none) ry
theorem D2.jz:D2 c n (compareOp .In) jz:=D2.rE
 (fun hr e q1 q2 q3 q4 h=>SeqAt.in_tuple_reads (.tuple e rfl rfl (by simpa using q2)) q1 q4 (SeqAt.canLay_of_shaped q3) (DW hr q3 _) h)
 (fun hr e q1 q2 q3 q4 h=>SeqAt.in_list_reads (.list e rfl rfl (by simpa using q2)) q1 q4 (SeqAt.canLay_of_shaped q3) (DW hr q3 _) h) in_dict
theorem D2.mx:D2 c n (compareOp .NotIn) mx:=D2.rE
 (fun hr e q1 q2 q3 q4 h=>SeqAt.notIn_tuple_reads (.tuple e rfl rfl (by simpa using q2)) q1 q4 (SeqAt.canLay_of_shaped q3) (DW hr q3 _) (AJ _▸h))
 (fun hr e q1 q2 q3 q4 h=>SeqAt.notIn_list_reads (.list e rfl rfl (by simpa using q2)) q1 q4 (SeqAt.canLay_of_shaped q3) (DW hr q3 _) (AJ _▸h)) (fun hm hd r h=>aas hm hd r (AJ _▸h))
theorem PW{h:Heap}{v:J}{V:Value}{x:Bool}(r:cI c ρ h v V):EM v=some x→(V==.none)=x:=
 @cI.casesOn c ρ h (fun v V Z=>EM v=some x→(V==.none)=x) v V r (fun h=>aV h) (fun Z h=>aV h) (fun Z Z h=>aV h) (fun Z Z h=>aV h) (fun Z Z Z h=>aV h) (fun Z Z Z h=>aV h) (fun Z Z Z Z h=>aV h) (fun Z Z Z Z Z Z Z Z Z Z Z Z h=>aV h)
  (fun Z h=>aV h) (fun Z h=>aV h) (fun Z h=>aV h) (fun Z h=>aV h) (fun Z Z Z Z Z Z Z Z Z Z Z Z Z h=>aV h) (fun Z h=>cw h)
theorem Den.vN{t:Value→Sem Value}{v:J}{V:Value}{x:Out J}(r:cI c ρ s.heap v V)(H:Den c A (cI c) ρ s (t .none) x):Den c A (cI c) ρ s (t V) (Mine.vN v x):=
 @J.casesOn (fun v=>cI c ρ s.heap v V→Den c A (cI c) ρ s (t V) (Mine.vN v x)) v (fun r=>Eq.rec (motive:=fun V Z=>Den c A (cI c) ρ s (t V) x) H r.inv.symm) (fun Z Z=>Den.none) (fun Z Z=>Den.none) (fun Z Z=>Den.none) (fun Z Z=>Den.none) (fun Z Z=>Den.none) (fun Z Z=>Den.none) (fun Z Z Z=>Den.none)
  (fun Z Z=>Den.none) (fun Z Z=>Den.none) (fun Z Z=>Den.none) (fun Z Z=>Den.none) (fun Z Z=>Den.none) (fun Z=>Den.none) r
theorem D2.jc:D2 c n (compareOp .Is) fun a b σ=>vN b (jc a σ):=fun A ρ σ s a b Va Vb hr sr ra rb=>Den.vN (t:=fun V=>compareOp .Is Va V) rb (Den.ej fun x hx=>Den.now fun Q E P=>is_none (PW ra hx▸P.here sr (.bool _)))
theorem D2.k_:D2 c n (compareOp .IsNot) fun a b σ=>vN b (k_ a σ):=fun A ρ σ s a b Va Vb hr sr ra rb=>Den.vN (t:=fun V=>compareOp .IsNot Va V) rb (Den.ej fun x hx=>Den.now fun Q E P=>isNot_none (PW ra hx▸AJ _▸P.here sr (.bool _)))
theorem EN{op:CmpOp}{r:Expr}(h:op=.Eq∨op=.NotEq):behindInMarks op r=false:=by rcases h with rfl|rfl<;>cases r<;>first|rfl|simp[behindInMarks]
theorem aH{l r:Expr}{pos:Pos}{x y:X}(h1:DE c g n l x)(h2:DE c g n r y):DE c g n (.Compare l [.Eq] [r] pos) (cB Mine.cU x y):=DE.nI D2.cU h1 h2 (EN (.inl rfl))
theorem aG{l r:Expr}{pos:Pos}{x y:X}(h1:DE c g n l x)(h2:DE c g n r y):DT c g n (.Compare l [.Eq] [r] pos) (cZ (cB Mine.cU x y)):=DT.nI D2.cU h1 h2 (EN (.inl rfl))
theorem DE.eX{l r:Expr}{pos:Pos}{x y:X}(h1:DE c g n l x)(h2:DE c g n r y):DE c g n (.Compare l [.NotEq] [r] pos) (cB Mine.eX x y):=DE.nI D2.eX h1 h2 (EN (.inr rfl))
theorem DT.eX{l r:Expr}{pos:Pos}{x y:X}(h1:DE c g n l x)(h2:DE c g n r y):DT c g n (.Compare l [.NotEq] [r] pos) (cZ (cB Mine.eX x y)):=DT.nI D2.eX h1 h2 (EN (.inr rfl))
theorem DE.jz{l r:Expr}{pos:Pos}{x y:X}(h1:DE c g n l x)(h2:DE c g n r y)(hm:behindInMarks .In r=false:=by exact rfl):DE c g n (.Compare l [.In] [r] pos) (cB Mine.jz x y):=DE.nI D2.jz h1 h2 hm
theorem DT.jz{l r:Expr}{pos:Pos}{x y:X}(h1:DE c g n l x)(h2:DE c g n r y)(hm:behindInMarks .In r=false:=by exact rfl):DT c g n (.Compare l [.In] [r] pos) (cZ (cB Mine.jz x y)):=DT.nI D2.jz h1 h2 hm
theorem DE.mx{l r:Expr}{pos:Pos}{x y:X}(h1:DE c g n l x)(h2:DE c g n r y)(hm:behindInMarks .NotIn r=false):DE c g n (.Compare l [.NotIn] [r] pos) (cB Mine.mx x y):=DE.nI D2.mx h1 h2 hm
theorem DT.mx{l r:Expr}{pos:Pos}{x y:X}(h1:DE c g n l x)(h2:DE c g n r y)(hm:behindInMarks .NotIn r=false:=by exact rfl):DT c g n (.Compare l [.NotIn] [r] pos) (cZ (cB Mine.mx x y)):=DT.nI D2.mx h1 h2 hm
theorem DE.jc{l:Expr}{k:Nat}{p pos:Pos}{x:X}(h1:DE c g n l x):DE c g n (.Compare l [.Is] [.Constant .none k p] pos) (m1 Mine.jc x):=(DE.nI D2.jc h1 aJ rfl:DE c g n _ (cB _ x (ret .none)))
theorem DT.jc{l:Expr}{k:Nat}{p pos:Pos}{x:X}(h1:DE c g n l x):DT c g n (.Compare l [.Is] [.Constant .none k p] pos) (cZ (m1 Mine.jc x)):=(DT.nI D2.jc h1 aJ rfl:DT c g n _ (cZ (cB _ x (ret .none))))
theorem DE.k_{l:Expr}{k:Nat}{p pos:Pos}{x:X}(h1:DE c g n l x):DE c g n (.Compare l [.IsNot] [.Constant .none k p] pos) (m1 Mine.k_ x):=(DE.nI D2.k_ h1 aJ rfl:DE c g n _ (cB _ x (ret .none)))
theorem DT.k_{l:Expr}{k:Nat}{p pos:Pos}{x:X}(h1:DE c g n l x):DT c g n (.Compare l [.IsNot] [.Constant .none k p] pos) (cZ (m1 Mine.k_ x)):=(DT.nI D2.k_ h1 aJ rfl:DT c g n _ (cZ (cB _ x (ret .none))))
theorem ai{e:Expr}{k:Nat}{u:Nat}{p pos:Pos}{x:X}(h1:DE c g n e x)(hk:Nat.ble k 1000000=true:=by exact rfl):DE c g n (.Subscript e (.Constant (.int (.ofNat k)) u p) pos) (m1 (cP k) x):=
 (DE.jy h1 ak).ref fun f σ r h=>PU (fun Z q=>q) (fun a σ r q=>(by show gd (Nat.ble k 1000000) (cP k a σ)=some r;rw[hk];exact q)) h
theorem DA.ref{t:Expr}{x y:Fr→J→List MO→Out Unit}(h:DA c g n t y)(hl:∀f v σ r,x f v σ=some r→y f v σ=some r):DA c g n t x:=fun A env f ρ σ s v V hr he sr rv=>(h A env f ρ σ s v V hr he sr rv).ref (hl f v σ)
def dD(K:KT)(a:Nat)(xs:XL)(f:Fr)(σ:List MO):Out J:=dk (xs f σ) fun l σ=>K (.dC a) l σ
theorem DE.aeT{K:KT}(T:qs c tb)(hK:j1 c n K){a:Nat}{e:Expr}{es:List Expr}{pos:Pos}{xs:XL}(h1:DE c g n e (ret (.dC a)))(h2:bV c g n es xs)(ha:tb.call a=true)(nL:EL e)(hu:es.all jf=true):
  DE c g n (.Call e es [] pos) (dD K a xs):=(DE.call T hK h1 h2 nL hu).ref fun f σ r h=>by
 show gd (tb.call a) (dD K a xs f σ)=some r
 rw[ha];exact h
def RA(K:KT)(ok:Nat→Bool)(y:X)(xs:XL)(f:Fr)(σ:List MO):Out J:=dk (y f σ) fun fv σ=>vA fv fun a=>gd (ok a) (dk (xs f σ) fun l σ=>K (.dC a) l σ)
theorem DE.aeU{K:KT}(T:qs c tb)(hK:j1 c n K){okc:Nat→Bool}{e:Expr}{es:List Expr}{pos:Pos}{y:X}{xs:XL}(h1:DE c g n e y)(h2:bV c g n es xs)(ha:∀a,okc a=true→tb.call a=true)(nL:EL e)(hu:es.all jf=true):
  DE c g n (.Call e es [] pos) (RA K okc y xs):=(DE.call T hK h1 h2 nL hu).ref fun f σ r h=>PU (fun Z q=>q) (fun v σ r q=>by
 obtain⟨a,rfl,q⟩:=Ep q
 obtain⟨h1,q⟩:=gK q
 show gd (tb.call a) _=some r
 rw[ha a h1];exact q) h
end
section
variable{c:Cx}{g:FC}{n:Nat}{A:Around}{env:Env}{f:Fr}{ρ:List Addr}{σ:List MO}{s:Shared}{tb:Tb}
theorem az{x:Str}{p:Pos}{e:Expr}{pos:Pos}{y:X}{t:Fr→J→List MO→Out Unit}(h1:DE c g n e y)(h2:DA c g n (.Name x p) t)(hn:vu e:=by kernel_rfl):D1 c g n (.Assign [.Name x p] e pos) (dc y t):=
 D1.asg h1 h2 (fun env Z=>CV hn _ _ _) (fun env Z=>rfl) fun env=>rfl
theorem aA{o:Expr}{x:Str}{p:Pos}{e:Expr}{pos:Pos}{y:X}{t:Fr→J→List MO→Out Unit}(h1:DE c g n e y)(h2:DA c g n (.Attribute o x p) t)(hn:vu e:=by kernel_rfl):D1 c g n (.Assign [.Attribute o x p] e pos) (dc y t):=
 D1.asg h1 h2 (fun env Z=>CV hn _ _ _) (fun env Z=>rfl) fun env=>rfl
theorem aB{o i:Expr}{p:Pos}{e:Expr}{pos:Pos}{y:X}{t:Fr→J→List MO→Out Unit}(h1:DE c g n e y)(h2:DA c g n (.Subscript o i p) t)(hn:vu e:=by kernel_rfl):D1 c g n (.Assign [.Subscript o i p] e pos) (dc y t):=
 D1.asg h1 h2 (fun env Z=>CV hn _ _ _) (fun env Z=>rfl) fun env=>rfl
theorem D1.aeV{x:Str}{p:Pos}{e:Expr}{gens:List Comprehension}{sc:Scope}{cp pos:Pos}{y:X}{t:Fr→J→List MO→Out Unit}(h1:DE c g n (.ListComp e gens sc cp) y)(h2:DA c g n (.Name x p) t)(hk:g.scope.names.lookup x=some .cell):
  D1 c g n (.Assign [.Name x p] (.ListComp e gens sc cp) pos) (dc y t):=
 D1.asg h1 h2 (fun env he=>by
  show swapsWith (.ListComp e gens sc cp) (some (.Name x p)) pos.line env=pure false
  unfold swapsWith
  have:env.kindOf x=some .cell:=by unfold Env.kindOf;rw[he];exact hk
  simp only[this,show(some NameKind.cell==some NameKind.local)=false from rfl,Bool.and_false,Bool.false_and]) (fun env Z=>rfl) fun env=>rfl
noncomputable def swT(e:Expr)(ts:List Expr)(k:Nat)(p:Pos)(env:Env):Sem (Option (List Str)):=swappedStores [.Tuple ts k p] e env
abbrev aeW(e:Expr):Prop:=swT e=fun Z Z Z Z=>pure none
theorem D1.Ti{ts:List Expr}{k:Nat}{p:Pos}{e:Expr}{pos:Pos}{y:X}{t:Fr→J→List MO→Out Unit}(h1:DE c g n e y)(h2:DA c g n (.Tuple ts k p) t)(hn:vu e:=by kernel_rfl)(ht:aeW e:=by exact rfl):D1 c g n (.Assign [.Tuple ts k p] e pos) (dc y t):=
 D1.asg h1 h2 (fun env Z=>CV hn _ _ _) (fun env Z=>congrFun (congrFun (congrFun (congrFun ht ts) k) p) env) fun env=>rfl
noncomputable def Gg(sc:Scope)(ts vs:List Expr):Option (Option (List Str)):=
 if !(ts.length==2||ts.length==3)||vs.length !=ts.length||(if sc.kind.isAnnotationScope then ScopeKind.function else sc.kind) !=.function then some none
 else if vs.any fun|.Starred .. =>true|_=>false then some none
 else
  let line:=(ts.head?.map (·.pos.line)).getD 0
  let names:=ts.filterMap fun
   |.Name id pos=>if sc.names.lookup id==some .local&&pos.line==line then some id else none
   |_=>none
  if names.length !=ts.length||names.eraseDups.length !=names.length then some none
  else if vs.all (foldedForSure 8)then some none
  else if vs.all (constantsAlone 8)then none
  else some (some names)
theorem RB{ts vs:List Expr}{k k':Nat}{p p':Pos}{r:Option (List Str)}(h:Gg env.scope ts vs=some r):swappedStores [.Tuple ts k p] (.Tuple vs k' p') env=pure r:=by
 unfold Gg at h
 unfold swappedStores
 show(if(!(ts.length==2||ts.length==3)||vs.length !=ts.length||env.blockKind !=.function)=true then _ else _:Sem _)=_
 by_cases h1:(!(ts.length==2||ts.length==3)||vs.length !=ts.length||env.blockKind !=.function)=true
 ·have h:=(if_pos h1).symm.trans h
  cases h
  exact if_pos h1
 ·have h:=(if_neg h1).symm.trans h
  refine(if_neg h1).trans ?_
  by_cases h2:(vs.any fun|.Starred .. =>true|_=>false)=true
  ·have h:=(if_pos h2).symm.trans h
   cases h
   exact if_pos h2
  ·have h:=(if_neg h2).symm.trans h
   refine(if_neg h2).trans ?_
   dsimp only at h⊢
   generalize hN:(List.filterMap _ ts)=names at h
   have KH:(ts.filterMap fun
     |.Name id pos=>if env.kindOf id==some .local&&pos.line==(ts.head?.map (·.pos.line)).getD 0 then some id else none
     |_=>none)=names:=hN
   by_cases h3:(names.length !=ts.length||names.eraseDups.length !=names.length)=true
   ·rw[if_pos h3]at h
    cases h
    rw[←KH]at h3
    exact if_pos h3
   ·rw[if_neg h3]at h
    have zL:=h3
    rw[←KH]at zL
    refine(if_neg zL).trans ?_
    by_cases h4:vs.all (foldedForSure 8)=true
    ·rw[if_pos h4]at h
     cases h
     exact if_pos h4
    ·rw[if_neg h4]at h
     refine(if_neg h4).trans ?_
     by_cases h5:vs.all (constantsAlone 8)=true
     ·rw[if_pos h5]at h;cases h
     ·rw[if_neg h5]at h
      cases h
      refine(if_neg h5).trans ?_
      rw[←KH]
      rfl
theorem aQ{ts vs:List Expr}{k k':Nat}{p p':Pos}{pos:Pos}{y:X}{t:Fr→J→List MO→Out Unit}(h1:DE c g n (.Tuple vs k' p') y)(h2:DA c g n (.Tuple ts k p) t)(hw:Gg g.scope ts vs=some none:=by kernel_rfl):
  D1 c g n (.Assign [.Tuple ts k p] (.Tuple vs k' p') pos) (dc y t):=
 D1.asg h1 h2 (fun env Z=>rfl) (fun env he=>RB (by rw[he];exact hw)) fun env=>rfl
noncomputable def rr(m:Nat)(xs:Fr→List J→List MO→Out Unit)(f:Fr)(v:J)(σ:List MO):Out Unit:=match v with
 |.tup l=>(match Nat.beq l.length m with
  |true=>xs f l.reverse σ
  |false=>none)
 |_=>none
theorem dh.reverse{h:Heap}:∀{l:List J} {L:List Value},dh c ρ h l L→dh c ρ h l.reverse L.reverse
 |_,_,.nil=>.nil
 |_,_,.cons a b=>by
  rw[List.reverse_cons,List.reverse_cons]
  exact(dh.reverse b).append (.cons a .nil)
theorem eZ.ui:eZ c g n (fun env=>([]:List Str).map fun x=>bindName env x) jt:=aN
theorem eZ.aeX{x:Str}{i:Nat}{ns:List Str}{xs:Fr→List J→List MO→Out Unit}(hi:(c.dE g.k)[i]? =some x)(hu:∀j,(c.dE g.k)[j]? =some x→j=i)(hk:g.scope.names.lookup x=some .local)(h:eZ c g n (fun env=>ns.map fun x=>bindName env x) xs):
  eZ c g n (fun env=>(x::ns).map fun x=>bindName env x) (fL (c_ g.k i) xs):=by
 intro A env f ρ σ s l L hr he sr rl
 refine⟨fun r cG hx Q E P=>?_⟩
 cases rl with
 |nil=>cases hx
 |cons a b=>
  refine assignInOrder_cons (wpAny_bindName ((II (A:=A) ⟨he.scope,he.kind,he.loc,he.cell⟩ sr a hi hu hk).step hx P fun Z Z cW σ₁ cD e1 cY Z dB P1=>?_))
  exact(h A env f cW σ₁ cD _ _ hr (he.mono e1) cY (b.mono e1)).last dB P1
theorem D1.ud{ts vs:List Expr}{names:List Str}{k k' m:Nat}{p p':Pos}{pos:Pos}{y:X}{xs:Fr→List J→List MO→Out Unit}(h1:DE c g n (.Tuple vs k' p') y)(hw:Gg g.scope ts vs=some (some names))
  (h2:eZ c g n (fun env=>names.reverse.map fun x=>bindName env x) xs) (hm:names.length=m):D1 c g n (.Assign [.Tuple ts k p] (.Tuple vs k' p') pos) (dc y (rr m xs)):=by
 intro A env f ρ σ s hr he sr
 refine⟨fun r cG hx Q E P=>?_⟩
 refine Assign_Tuple_swapped (names:=names) ((h1 A env f ρ σ s hr he sr).step hx P fun v V cW σ₁ cD e1 cY rv dB P1=>?_) rfl (RB (by rw[he.scope];exact hw))
 refine zz fun GG KK=>?_
 unfold rr at dB
 split at dB
 ·rename_i l
  split at dB
  ·rename_i hl
   have hl:=aY hl
   refine KK ?_
   cases rv with
   |tup e hn rl=>
    rename_i a m' Vs
    have ht:IsTup cD.heap a Vs.toArray:=⟨_,e,rfl,_,rfl⟩
    have j6:names.length=Vs.toArray.size:=by rw[hm,List.size_toArray,rl.length,hl]
    rw[j6]
    refine unpackItems_tuple hr.calm ht fun h' mG=>?_
    have kk:=NM mG
    have:=(h2 A env f cW σ₁ {cD with heap:=h'} l.reverse Vs.reverse hr ((he.mono e1).mono (Ext.keeps kk)) (cY.keeps (t:=cD.toks) kk) (rl.mono (Ext.keeps kk)).reverse)
    refine this.step dB (P1.ext (Ext.keeps kk)) fun Z Z ρ₂ fU fu e2 fh Z fC P2=>?_
    cases fC
    exact P2.here fh trivial
  ·cases dB
 ·cases dB
end
theorem QP{α:Type}:∀(l m:List α) (i:Nat) (v:α),i<l.length→put (l++m) i v=put l i v++m
 |[],_,_,_,h=>by simp at h
 |_::_,_,0,_,_=>rfl
 |x::l,m,i+1,v,h=>by
  show x::put (l++m) i v=x::(put l i v++m)
  rw[QP l m i v (by simpa using h)]
theorem aod{m:Nat}:∀{l:List J},ek m l=true→ef m (.lst l)=true:=fun h=>h
theorem acH{p:MO→Bool}{l:List MO}{i:Nat}{v:MO}(h:l.all p=true)(hv:p v=true):(put l i v).all p=true:=by
 rw[lO,List.all_eq_true]
 intro x hx
 rcases List.mem_or_eq_of_mem_set hx with hx|rfl
 ·exact bh h x hx
 ·exact hv
theorem abG{p:Option J→Bool}{l:List (Option J)}{i:Nat}{v:Option J}(h:l.all p=true)(hv:p v=true):(put l i v).all p=true:=by
 rw[lO,List.all_eq_true]
 intro x hx
 rcases List.mem_or_eq_of_mem_set hx with hx|rfl
 ·exact bh h x hx
 ·exact hv
section
variable{c:Cx}{g g':FC}{n:Nat}{A:Around}{env:Env}{f:Fr}{ρ:List Addr}{σ:List MO}{s:Shared}{tb:Tb}
theorem D1.agr{elt tg iter:Expr}{ifs:List Expr}{sc:Scope}{lR FF py:Pos}{y:Str}{iy:Nat}{w:Nat}{fJ:List Nat}{src:KD}{t:Fr→J→List MO→Out Unit}{q:XT}{x:X}
  (s_:DI c g n tg iter src) (ht:DA c g' n tg t) (hq:jV c g' n ifs q) (hx:DE c g' n elt x) (m9:g'.scope=oJ sc g.scope) (hk:sc.kind=.function) (hc:oR sc g.cn g'.cn fJ) (wG:g'.code=none)
  (hw:(c.dE g'.k).length=w) (qq:∀y∈sc.names,y.2≠.cell) (AP:∀y∈sc.names,y.2=.local→sc.names.lookup y.1=some .local) (hs:∀env V,foldedSetIterable iter env V=pure V)
  (hi:(c.dE g.k)[iy]? =some y) (hu:∀j,(c.dE g.k)[j]? =some y→j=iy) (hl:g.scope.names.lookup y=some .local) (mz:(py.line==lR.line)=true) (rJ:(sc.names.any fun(p:Str×NameKind)=>p.1==y&&(p.2==.local||p.2==.cell))=false):
  D1 c g n (.Assign [.Name y py] (.ListComp elt [⟨tg,iter,ifs,0⟩] sc lR) FF) (dc (jo g'.k w fJ src t q x) (c_ g.k iy)):=by
 intro A env f ρ σ s hr he sr
 refine⟨fun r cG hX Q E P=>?_⟩
 have hsw:swapsWith (.ListComp elt [⟨tg,iter,ifs,0⟩] sc lR) (some (.Name y py)) FF.line env=pure true:=by
  unfold swapsWith
  have h1:env.kindOf y=some .local:=by unfold Env.kindOf;rw[he.scope];exact hl
  have h2:env.blockKind=.function:=by unfold Env.blockKind;rw[he.scope,he.kind];rfl
  have h3:(py.line==(Expr.ListComp elt [⟨tg,iter,ifs,0⟩] sc lR).pos.line)=true:=mz
  have h4:(sc.names.any fun(n,k)=>n==y&&(k==.local||k==.cell))=false:=rJ
  simp only[h1,h2,h3,h4]
  rfl
 rw[exec_Assign_Name_used _ _ _ _ hsw]
 refine bC (wpAny_standAt (bC ?_))
 show wpAny _ A (do let _←comprehension (.ListComp elt [⟨tg,iter,ifs,0⟩] sc lR) sc env _ (newList []) false (eval iter env) (some (assign (.Name y py) env))) _ _ s
 refine bC (wpAny_mono (Q:=fun Z s'=>Q .next s') ?_ (fun Z s' hq=>bD (bD hq)) fun Z Z e=>e)
 unfold dc at hX
 rcases KI:jo g'.k w fJ src t q x f σ with _|⟨r1,σ1⟩
 ·rw[KI]at hX;cases hX
 ·rw[KI]at hX
  refine PL (use:=some (assign (.Name y py) env)) s_ ht hq hx m9 hk hc wG hw qq AP hs hr he sr KI (fun l D C kD s' mm h1 h2 h3 h4 h5 h6 h7 h8 h9=>?_) (fun k X cW cD h1 h2 h3 h4=>?_)
  ·refine zz fun GG KK=>?_
   subst h1
   have hX:dk (c_ g.k iy f (.lst l) σ1) (fun Z σ=>ok MF.next σ)=some (r,cG):=hX
   rcases KJ:c_ g.k iy f (.lst l) σ1 with _|⟨ru,σ2⟩
   ·rw[KJ]at hX;cases hX
   ·rw[KJ]at hX
    obtain⟨fl,g1,g2,rfl,rfl⟩:=H5 KJ
    cases hX
    have hlen:kD.length=σ1.length:=by have:=h3.len;simp at this;exact this
    have Vv:f.fr<σ1.length:=(aZ g1).1
    have BW:=he.mono h2
    have hD:=h3.at (i:=f.fr) (mo:=.fr g.k fl) (by rw[List.getElem?_append_left Vv];exact g1)
    obtain⟨a,ha,m,ns,hll,hv⟩:=hD
    have Bn:=BW.loc
    rw[ha]at Bn;cases Bn
    refine KK ?_
    show wpAny _ A (assign (.Name y py) env (.ref D)) _ _ _
    rw[arm_assign_Name]
    refine bC (wpAny_standAt (wpAny_bindName (HG (by rw[he.scope];exact he.kind) (by unfold Env.kindOf;rw[he.scope];exact hl) ns fun h' m8 iD wq=>?_)))
    refine zz fun GG KK=>?_
    obtain⟨o,o',ho,qw,wL⟩:=wq
    have j7:∀fY,s'.heap.get? env.locals=some fY→o'.cls=fY.cls∧nf o'=nf fY:=fun fY q=>by
     rw[ho]at q;cases q
     exact⟨wL,(sJ m8 qw).trans (sJ ns ho).symm⟩
    have ext:Ext (kD++[C]) s'.heap (kD++[C]) h':=Ext.turn (a0 ha) iD qw j7
    have lz:=h3.turn (t:=s'.toks+1) ha iD qw j7 (mo:=.fr g.k (fl.set iy (some (.lst l)))) ⟨_,m8,by rw[List.length_set];exact hll,fun j z p q1 q2=>by
     by_cases hj:j=iy
     ·subst hj
      rw[hi]at q1;cases q1
      rw[List.getElem?_set_self g2]at q2
      cases q2
      rw[if_pos rfl]
      exact h4.mono ext
     ·rw[List.getElem?_set_ne (Ne.symm hj)]at q2
      have hy:z≠y:=fun e=>hj (hu j (e▸q1))
      rw[if_neg hy]
      exact(hv j z p q1 q2).mono ext⟩
    have pL:(kD++[C])[σ1.length]? =some C:=by rw[←hlen];simp
    have hLC:env.locals≠C:=Eu (m:=0) h3.nodup ha pL (by omega)
    have ags:(σ1++[MO.dead]).set f.fr (.fr g.k (fl.set iy (some (.lst l))))=put σ1 f.fr (.fr g.k (put fl iy (some (.lst l))))++[.dead]:=by
     rw[←lO,←lO,QP _ _ _ _ Vv]
    rw[ags]at lz
    have BU:(put σ1 f.fr (.fr g.k (put fl iy (some (.lst l))))).length=σ1.length:=by rw[lO,List.length_set]
    have aeY:(put σ1 f.fr (.fr g.k (put fl iy (some (.lst l))))).all (fF σ1.length)=true:=acH h6 (by
     show(put fl iy (some (.lst l))).all (i_ σ1.length)=true
     exact abG (bh h6 _ (a0 g1)) h5)
    refine KK ?_
    refine⟨mm,h7.sameBut iD (Ne.symm hLC),fun pJ pA=>?_⟩
    have zJ:=lz.yM (t:=s'.toks+1) (m:=σ1.length) pL (Nat.le_refl _) pA (by rw[←BU,yQ];rw[BU];exact aeY)
    have Vw:(kD++[C]).take σ1.length=kD:=by rw[←hlen];exact yQ _ _
    have ht2:(put σ1 f.fr (.fr g.k (put fl iy (some (.lst l))))++[MO.dead]).take σ1.length=put σ1 f.fr (.fr g.k (put fl iy (some (.lst l)))):=by
     conv=>lhs;rw[←BU]
     exact yQ _ _
    rw[Vw,ht2]at zJ
    have e2:=((h2.trans ext).Fv h8 pA).forget (m:=σ1.length) (by omega)
    rw[Vw]at e2
    exact P.ok .next .next kD {s' with heap:=pJ,toks:=s'.toks+1} rfl e2 zJ trivial
  ·subst h1
   cases hX
   exact P.fo k X cW cD rfl h2 h3 h4
end
inductive vy(c:Cx)(ρ:List Addr)(h:Heap):List Str→List J→List (Value×Value)→Prop
 |nil:vy c ρ h [] [] []
 |cons {k:Str} {t:Tok} {v:J} {V:Value} {ks:List Str} {l:List J} {L:List (Value×Value)}:cI c ρ h v V→vy c ρ h ks l L→vy c ρ h (k::ks) (v::l) ((.str k t,V)::L)
noncomputable def I0:List Str→List J→List (Str×J)
 |k::ks,l=>(match l with|v::vs=>(k,v)::I0 ks vs|[]=>[])
 |[],_=>[]
section
variable{c:Cx}{g:FC}{n:Nat}{A:Around}{env:Env}{f:Fr}{ρ:List Addr}{σ:List MO}{s:Shared}{tb:Tb}
noncomputable def DP(c:Cx)(g:FC)(n:Nat)(keys:List (Option Expr))(values:List Expr)(ks:List Str)(xs:XL):Prop:=
 ∀A env f ρ σ s pos,g0 A n→fW c g A env f ρ s.heap→SR c ρ σ s→Den c A (fun ρ h l L=>vy c ρ h ks l L) ρ s (evalPairs (pairTrees keys values env pos)) (xs f σ)
theorem DP.nil:DP c g n [] [] [] cm:=by
 intro A env f ρ σ s pos _ _ sr
 refine⟨fun r cG hx Q E P=>?_⟩
 cases hx
 exact pairTrees_nil_walk (P.here sr .nil)
theorem DP.cons{k:Str}{u:Nat}{p:Pos}{e:Expr}{keys:List (Option Expr)}{values:List Expr}{ks:List Str}{x:X}{xs:XL}(h1:DE c g n e x)(h2:DP c g n keys values ks xs):
  DP c g n (some (.Constant (.str k) u p)::keys) (e::values) (k::ks) (bZ x xs):=by
 intro A env f ρ σ s pos hr he sr
 refine⟨fun r cG hx Q E P=>?_⟩
 refine pairTrees_cons_walk (wpAny_Constant_str ?_)
 have KL:=sr.toks (s.toks+1)
 refine(h1 A env f ρ σ {s with toks:=s.toks+1} hr he KL).step hx P fun v V cW σ₁ cD e1 cY rv dB P1=>?_
 refine(h2 A env f cW σ₁ cD pos hr (he.mono e1) cY).step dB P1 fun l L ρ₂ fU fu e2 fh rl fC P2=>?_
 cases fC
 exact P2.here fh (.cons (rv.mono e2) rl)
theorem vy.QQ{h:Heap}:∀{ks:List Str} {l:List J} {L:List (Value×Value)},vy c ρ h ks l L→∃kvs,Carries (iS c) L kvs∧eI c ρ h (I0 ks l) kvs∧kvs.map (·.1)=ks
 |_,_,_,.nil=>⟨[],trivial,.nil,rfl⟩
 |_,_,_,.cons (k:=k) (V:=V) a b=>by
  obtain⟨kvs,h1,h2,h3⟩:=vy.QQ b
  exact⟨(k,V)::kvs,⟨BP c k _,rfl,h1⟩,.cons a h2,by simp[h3]⟩
def ue(ks:List Str)(xs:XL)(f:Fr)(σ:List MO):Out J:=dk (xs f (σ++[.lr []])) fun l σ₁=>match d7 σ₁ σ.length with
 |some (.lr d)=>(match d with
  |[]=>ok (.loc σ.length) (put σ₁ σ.length (.lr (I0 ks l)))
  |_::_=>none)
 |_=>none
theorem DE.agt{gl:Str→Option J}{gz:Str→Bool}(F:Facts c gl gz){keys:List (Option Expr)}{values:List Expr}{ks:List Str}{pos:Pos}{xs:XL}(h:DP c g n keys values ks xs)(rF:keys.all (·.isSome)=true)(hl:keys.length=values.length)(h0:keys≠[])(hlen:keys.length≤15)(mH:ks.Nodup):
  DE c g n (.Dict keys values pos) (ue ks xs):=by
 intro A env f ρ σ s hr he sr
 refine⟨fun r cG hx Q E P=>?_⟩
 unfold ue at hx
 refine wpAny_Dict_walk (knd:=iS c) rF hl h0 hlen ?_
 have hex:Heap.DictOf (iS c) (s.heap.push {cls:=.type "dict",data:=.dict #[]}) s.heap.objs.size []:=Heap.DictOf.new _
 have zH:s.heap.objs.size≠sysModules:=fun z=>by
  obtain⟨o,h1⟩:=F.S5
  have h2:=sr.t5
  rw[z,h1]at h2;cases h2
 have cY:=sr.oG (o:={cls:=.type "dict",data:=.dict #[]}) (mo:=.lr []) ⟨[],hex,zH,.nil⟩
 have e1:Ext ρ s.heap (ρ++[s.heap.objs.size]) (s.heap.push {cls:=.type "dict",data:=.dict #[]}):=Ext.oG _
 have Fz:(ρ++[s.heap.objs.size])[σ.length]? =some s.heap.objs.size:=by rw[←sr.len];simp
 refine(h A env f (ρ++[s.heap.objs.size]) (σ++[.lr []]) {s with heap:=s.heap.push {cls:=.type "dict",data:=.dict #[]}} pos hr (he.mono e1) cY).step hx (P.ext e1) fun l L ρ₂ fU fu e2 fh rl fC P2=>?_
 refine zz fun GG KK=>?_
 split at fC
 ·rename_i d hd
  split at fC
  ·cases fC
   rw[il]at hd
   have pM:=e2.get Fz
   obtain⟨a,ha,L',hD,hm,agu⟩:=fh.at hd
   rw[pM]at ha;cases ha
   cases agu
   obtain⟨kvs,k1,k2,k3⟩:=rl.QQ
   refine KK ?_
   refine⟨kvs,k1,hD,fun h' qy iD=>?_⟩
   refine zz fun GG KK=>?_
   rw[merged_nil_of_nodup _ (by rw[k3];exact mH)]at qy
   obtain⟨o,es,ep,g1,g2,_⟩:=id hD
   obtain⟨o',uz,zC,wu,g2',g3',_⟩:=id qy
   have j7:∀fY,fu.heap.get? s.heap.objs.size=some fY→o'.cls=fY.cls∧nf o'=nf fY:=fun fY q=>by
    rw[g1]at q;cases q
    obtain⟨oo,q1,q2⟩:=Ao hD
    obtain⟨oo',rM,tm⟩:=Ao qy
    rw[g1]at q1;cases q1
    rw[wu]at rM;cases rM
    exact⟨g2'.1.trans g2.1.symm,tm.trans q2.symm⟩
   have ext:=Ext.turn (a0 pM) iD wu j7
   refine KK ?_
   refine P2.ok (.loc σ.length) _ ρ₂ _ rfl ext ?_ (.loc pM)
   rw[lO]
   exact fh.turn pM iD wu j7 ⟨_,qy,hm,k2.mono ext⟩
  ·cases fC
 ·cases fC
theorem aK{gl:Str→Option J}{gz:Str→Bool}(F:Facts c gl gz){pos:Pos}:DE c g n (.Dict [] [] pos) (ret (.fB [])):=by
 intro A env f ρ σ s hr he sr
 refine⟨fun r cG hx Q E P=>?_⟩
 cases hx
 have zH:s.heap.objs.size≠sysModules:=fun z=>by
  obtain⟨o,h1⟩:=F.S5
  have h2:=sr.t5
  rw[z,h1]at h2;cases h2
 exact wpAny_Dict_empty (P.ok _ _ ρ _ rfl (Ext.push _) (sr.push _) (.fB (Heap.DictOf.new _) zH (lM sr (kS _)) .nil))
noncomputable def R6:Option MO→Bool
 |some (.lst _)=>true
 |_=>false
def t_(y x:X)(f:Fr)(σ:List MO):Out J:=dk (y f σ) fun o σ=>match o with
 |.loc d=>(match R6 (d7 σ d)with
  |true=>dk (x f σ) fun v σ=>dk (uf d v σ) fun Z σ=>ok .none σ
  |false=>none)
 |_=>none
theorem aI{o e:Expr}{apos pos:Pos}{y x:X}(h1:DE c g n o y)(h2:DE c g n e x)(hu:jf e=true:=by exact rfl)(wK:sP o:=by exact rfl)(mz:(apos.endLine==pos.line)=true:=by exact rfl):
  DE c g n (.Call (.Attribute o "append" apos) [e] [] pos) (t_ y x):=by
 intro A env f ρ σ s hr he sr
 refine⟨fun r cG hx Q E P=>?_⟩
 have Gh:backTo pos (starEach [e] env)=[(false,eval e env)]:=by rw[o_ (es:=[]) ((Bool.and_true _).trans hu)];rfl
 refine wpAny_Call_append (vd wK _ _ _) ?_ mz Gh ((h1 A env f ρ σ s hr he sr).step hx P fun o O cW σ₁ cD e1 cY ro dB P1=>?_)
 ·rw[Gh]
  simp[backToKw,keywordEach]
 ·refine zz fun GG KK=>?_
  split at dB
  ·rename_i d
   split at dB
   ·rename_i hl
    unfold R6 at hl
    split at hl
    ·rename_i l hd
     rw[il]at hd
     refine KK ?_
     cases ro with
     |loc e'=>
      obtain⟨a,ha,Vs,m,hg,rl⟩:=cY.at hd
      rw[e']at ha;cases ha
      refine⟨_,Vs.toArray,rfl,⟨_,m,hg,rfl,rfl,rfl⟩,?_⟩
      refine(h2 A env f cW σ₁ cD hr (he.mono e1) cY).step dB P1 fun v V ρ₂ fU fu e2 fh rv fC P2=>?_
      refine(Rv (e2.get e') fh rv).step fC P2 fun Z Z ph qo kL e3 hJ hv m6 P3=>?_
      cases m6
      subst hv
      exact P3.here hJ .none
    ·cases hl
   ·cases dB
  ·cases dB
end
section
variable{M:Model}{A:Around}{E:Value→Shared→Prop}{h:Heap}{g:Array GenState}{d:Drawn}{t:Nat}{os:OsState}
variable{cp:CP}{C P:Addr}{bmB:List Value}{ab:Bool}{B newId qk:String}
 {c0:Value} {dP:Option Addr} {cd:ClassData} {sl:Array (Option Value)} {mN mP:Str→Option Value}
theorem yU{name:Str}{y:Option Value}{Q:Option Value→Shared→Prop}
  (hC:h.get? C=some (cp.mk' C (.ref P::bmB) true ab newId)) (hn:h.Ns cp.N mN) (hP:h.get? P=some {cls:=c0,dict:=dP,data:=.cls cd,slots:=sl}) (lB:h.Ns cd.ns mP)
  (zM:mroOf (.type B)=pure bmB) (hB:typeLookup (.type B) name=pure y) (hN:mN name=none)
  (hq:Q (match mP name with|some v=>some v|none=>y) ⟨h,g,d,t,os⟩):wpAny M A (typeLookup (.ref C) name) Q E ⟨h,g,d,t,os⟩:=by
 have hrest:lookupAlong bmB name=pure y:=by rw[typeLookup_eq,zM]at hB;exact hB
 rw[typeLookup_eq]
 refine bC (wpAny_mroOf_exc hC ?_)
 rw[lookupAlong_cons]
 refine bC (wpAny_classOwn_exc hC hn ?_)
 rw[hN]
 dsimp only
 rw[lookupAlong_cons]
 refine bC (wpAny_classOwn_cls hP lB ?_)
 cases hv:mP name with
 |some v=>rw[hv]at hq;exact bD hq
 |none=>rw[hv]at hq;dsimp only;rw[hrest];exact bD hq
theorem uj{X:String}{b:Bool}(hb:bmB.contains (.type X)=b):(Value.ref C::Value.ref P::bmB).contains (.type X)=b:=by
 rw[List.contains_cons,List.contains_cons,hb];rfl
theorem aaC(F:ExcBaseFacts B newId qk bmB){rest:List Value}{Q:Unit→Shared→Prop}(hC:h.get? C=some (cp.mk' C (.ref P::bmB) true ab newId))
  (hq:Q () ⟨h,g,d,t,os⟩):wpAny M A (checkBuiltinCall newId ⟨.ref C::rest,[]⟩) Q E ⟨h,g,d,t,os⟩:=by
 have aeZ:=uj (C:=C) (P:=P) F.hasB
 have aoH:=F.noStar
 simp only[checkBuiltinCall,F.newKind,F.newSplit,F.newRow]
 repeat(first|refine wpAny_loadPart_at hC ?_|(refine wpAny_isSubtype_exc hC ?_;rw[aeZ])|refine wpAny_staticBase_exc hC ?_|refine wpAny_madeBy_exc hC ?_|simp only[bne_self_eq_false,Bool.false_eq_true,if_false]|wp_step)
 exact hq
end
section
variable{prog:Program}{w:World}{A:Around}{R:Result→Shared→Prop}{E:Value→Shared→Prop}{h:Heap}{g:Array GenState}{d:Drawn}{t:Nat}{os:OsState}
variable{cp:CP}{C P:Addr}{bmB:List Value}{ab:Bool}{B newId qk:String}
 {c0:Value} {dP:Option Addr} {cd:ClassData} {sl:Array (Option Value)} {mN mP:Str→Option Value}
theorem abc(F:ExcBaseFacts B newId qk bmB){rest:List Value}(hC:h.get? C=some (cp.mk' C (.ref P::bmB) true ab newId))
  (hq:R (.ok (.ret (.ref (h.objs.size+1)))) ⟨(h.push {cls:=.type "tuple",data:=.seq rest.toArray}).push
   {cls:=.ref C,data:=.fields #[.ref h.objs.size,.none,.none,.none,.bool false,.none]},g,d,t,os⟩) (hrest:rest.length≤sizeLine):
  codeAny (model prog w) A (.builtin newId ⟨.ref C::rest,[]⟩) R ⟨h,g,d,t,os⟩:=by
 have aoI:=F.ends
 have qC:=uj (C:=C) (P:=P) F.hasB
 have hcA:=uj (C:=C) (P:=P) F.noAttr
 have Kn:=uj (C:=C) (P:=P) F.noName
 refine codeAny_builtinAt F.entry ?_
 unfold Builtin.«BaseException.__new__»
 refine PySem.wpAt_bind ?_
 show PySem.wpAt _ _ _ (stack>>=_) _ _ _
 refine PySem.wpAt_bind (PySem.wpAt_stack fun p below=>PySem.wpAt_of_wpAny ?_)
 wp_walk
 refine PySem.wpAt_of_wpAny ?_
 rw[F.owner]
 repeat(first|with_reducible refine wpAny_madeHere_exc F.canon hC ?_|with_reducible refine wpAny_loadPart_at hC ?_|(with_reducible refine wpAny_isSubtype_exc hC ?_;first|rw[qC]|rw[hcA]|rw[Kn])|wp_step)
 show R _ _
 rw[Heap.size_push]
 exact hq
theorem aaD(F:ExcBaseFacts B newId qk bmB){rest:List Value}{fI:Addr}{oI:Obj}{Q:Fin→Shared→Prop}
  (hC:h.get? C=some (cp.mk' C (.ref P::bmB) true ab newId)) (hn:h.Ns cp.N mN) (hP:h.get? P=some {cls:=c0,dict:=dP,data:=.cls cd,slots:=sl}) (lB:h.Ns cd.ns mP)
  (wM:mN "__init__"=none) (hi:mP "__init__"=some (.ref fI)) (KN:h.get? fI=some oI) (KO:oI.cls=.type "function")
  (hq:∀h' e,Heap.MadeExcOf h h' e (.ref C) rest→
   wpAny (model prog w) A (call (.ref fI) (.ref e::rest)) (fun r s'=>r=.none∧Q (.done (.ret (.ref e))) s') E ⟨h',g,d,t,os⟩) (hrest:rest.length≤sizeLine):
  wpAny (model prog w) A (Builtin.«type.__call__» ⟨.ref C::rest,[]⟩) Q E ⟨h,g,d,t,os⟩:=by
 repeat(first|with_reducible refine wpAny_loadPart_at hC ?_|with_reducible refine wpAny_madeBy_exc hC ?_|wp_step)
 refine codeAny_call_builtin_code (Code.quiet_builtin _ F.quiet) (aaC F hC ?_)
 refine abc F hC ?_ hrest
 show wpAny _ _ _ _ _ _
 have kp:∀b o,h.get? b=some o→((h.push {cls:=.type "tuple",data:=.seq rest.toArray}).push {cls:=.ref C,data:=.fields #[.ref h.objs.size,.none,.none,.none,.bool false,.none]}).get? b=some o:=
  fun b o e=>aX _ (aX _ e)
 have R8:=kp _ _ hC
 have adA:=kp _ _ KN
 have zj:((h.push {cls:=.type "tuple",data:=.seq rest.toArray}).push
   {cls:=.ref C,data:=.fields #[.ref h.objs.size,.none,.none,.none,.bool false,.none]}).get? (h.objs.size+1)=some
   {cls:=.ref C,data:=.fields #[.ref h.objs.size,.none,.none,.none,.bool false,.none]}:=by heap_get
 have hcC:(Value.ref C::Value.ref P::bmB).contains (.ref C)=true:=by simp
 unfold isInstance
 repeat(first|with_reducible refine wpAny_loadPart_at zj ?_|(with_reducible refine wpAny_isSubtype_exc R8 ?_;rw[hcC])|wp_step)
 show wpAny _ _ (typeLookup (.ref C) _) _ _ _
 refine yU R8 (hn.keeps kp) (kp _ _ hP) (lB.keeps kp) F.mroIs F.init.lookup wM ?_
 rw[hi]
 refine wpAny_holding (bC ?_)
 unfold bindSpecial
 refine bC (wpAny_typeOf (T:="function") ⟨_,adA,KO⟩ ?_)
 rw[if_pos (by decide)]
 refine bD (bC (wpAny_mono (hq _ (h.objs.size+1) ⟨kp,Heap.get?_none_of_le (Nat.le_succ _),h.objs.size,zj,Heap.get?_none_of_le (Nat.le_refl _),?_⟩) (fun r s' hr=>?_) fun Z Z x=>x))
 ·exact aX _ (Heap.get?_push_at rfl rfl)
 ·obtain⟨rfl,hQ⟩:=hr
  wp_walk
  exact hQ
theorem abd(F:ExcBaseFacts B newId qk bmB){rest:List Value}{fI:Addr}{oI:Obj}{Q:Value→Shared→Prop}
  (hC:h.get? C=some (cp.mk' C (.ref P::bmB) true ab newId)) (hn:h.Ns cp.N mN) (hP:h.get? P=some {cls:=c0,dict:=dP,data:=.cls cd,slots:=sl}) (lB:h.Ns cd.ns mP)
  (wM:mN "__init__"=none) (hi:mP "__init__"=some (.ref fI)) (KN:h.get? fI=some oI) (KO:oI.cls=.type "function")
  (hq:∀h' e,Heap.MadeExcOf h h' e (.ref C) rest→
   wpAny (model prog w) (A.under (.builtin "type.__call__" ⟨.ref C::rest,[]⟩)) (call (.ref fI) (.ref e::rest)) (fun r s'=>r=.none∧Q (.ref e) s') E ⟨h',g,d,t,os⟩) (hrest:rest.length≤sizeLine):
  wpAny (model prog w) A (call (.ref C) rest) Q E ⟨h,g,d,t,os⟩:=by
 have f1:=tc_lookup
 have f2:=tc_bind (.ref C)
 have hT:(⟨h,g,d,t,os⟩:Shared).TypeIs (.ref C) "type":=⟨_,hC,rfl⟩
 refine wpAny_call (codeAny_of_tree ?_)
 show wpAny _ _ (callAny (.ref C) _) _ _ _
 repeat(any_goals(first|assumption|with_reducible refine wpAny_loadPart_at hC ?_|wp_step))
 refine⟨rfl,?_⟩
 refine codeAny_call_builtin_at (Code.quiet_builtin _ (by decide+kernel)) entry_typeCall (wpAny_check_type_call_sub hC (aaD (hrest:=hrest) F hC hn hP lB wM hi KN KO fun h' e hm=>?_))
 exact hq h' e hm
end
open Builtin Builtin.ObjectAttr
section
variable{prog:Program}{w:World}{A:Around}{R:Result→Shared→Prop}{E:Value→Shared→Prop}{h:Heap}{g:Array GenState}{d:Drawn}{t:Nat}{os:OsState}
variable{cp:CP}{C P x:Addr}{bmB:List Value}{ab:Bool}{B newId sa owner:String}
 {c0:Value} {dP:Option Addr} {cd:ClassData} {sl:Array (Option Value)} {mN mP mA:Str→Option Value} {name:Str} {v:Value}
theorem abe{M:Model}{o:Obj}{vz:Value}{Q:Unit→Shared→Prop}(SF:StoreFacts B bmB sa owner)
  (hC:h.get? C=some (cp.mk' C (.ref P::bmB) true ab newId)) (hx:h.get? x=some o) (hc:o.cls=.ref C) (hq:Q () ⟨h,g,d,t,os⟩):
  wpAny M A (checkBuiltinCall sa ⟨[.ref x,vz,v],[]⟩) Q E ⟨h,g,d,t,os⟩:=by
 have qC:=uj (C:=C) (P:=P) SF.hasOwner
 have ha:=SF.args (.ref x) vz v
 simp only[checkBuiltinCall,SF.kind,SF.split]
 refine bC ?_
 ·unfold isInstance
  repeat(first|(with_reducible refine wpAny_loadPart_at hx ?_;rw[hc])|(with_reducible refine wpAny_isSubtype_exc hC ?_;rw[qC])|wp_step)
  cases agv:Manifest.signature? sa with
  |none=>exact bD hq
  |some sig=>
   simp only[argsOk,agv]at ha
   have h2:Bind.checkArgs sa sig ⟨[.ref x,vz,v],[]⟩=pure ():=ha
   show wpAny M A (Bind.checkArgs sa sig ⟨[.ref x,vz,v],[]⟩) Q E _
   rw[h2];exact bD hq
theorem ZT{tk:Tok}{Q:Fin→Shared→Prop}{ns:List Str}(SF:StoreFacts B bmB sa owner)
  (hC:h.get? C=some (cp.mk' C (.ref P::bmB) true ab newId)) (hn:h.Ns cp.N mN) (hP:h.get? P=some {cls:=c0,dict:=dP,data:=.cls cd,slots:=sl}) (lB:h.Ns cd.ns mP)
  (KP:mN name=none) (KQ:mP name=none) (hB:typeLookup (.type B) name=pure none) (I:h.InstFk x C mA)
  (hq:∀h' pI,h'.InstFk x C (fun y=>if y=name then some v else mA y)→
   (∀b o,b≠x→(∀ke dx,h.get? x=some ke→ke.dict=some dx→b≠dx)→h.get? b=some o→h'.get? b=some o)→
   (∀ke,h.get? x=some ke→∃fY,h'.get? x=some fY∧fY.cls=ke.cls∧fY.data=ke.data∧(∀dx,ke.dict=some dx→fY.dict=some dx)∧(ke.dict=none→∃dx,fY.dict=some dx∧h.get? dx=none))→Q (.done (.ret .none)) ⟨h',g,d,pI,os⟩) (hw:Within mA ns) (j6:ns.length≤1000):
  wpAny (model prog w) A (Builtin.«object.__setattr__» ⟨[.ref x,.str name tk,v],[]⟩) Q E ⟨h,g,d,t,os⟩:=by
 obtain⟨o,hx,hc,m_,hd⟩:=I
 have ae0:=SF.passes (.ref x)
 unfold Builtin.«object.__setattr__»
 repeat(first|rw[refuse_eq]|(rw[refuseLoop_ref,refuseLoop_ref,ae0])|(with_reducible refine wpAny_loadPart_at hx ?_;rw[hc])|with_reducible refine wpAny_mroOf_exc hC ?_|(with_reducible refine yU hC hn hP lB SF.mro hB KP ?_;rw[KQ])|wp_step)
 rcases hd with⟨pN,hmA⟩|⟨dx,tn,jU,jb,hed⟩
 ·
  rw[pN,if_neg (by simp[typeHasDict])]
  split
  ·rename_i k6
   cases k6
  split
  ·rename_i c k6
   exact absurd k6 (m_ c)
  ·have R9:(h.push {cls:=.type "dict",data:=.dict #[]}).get? x=some o:=aX _ hx
   have uG:x≠h.objs.size:=bx (Heap.lt_size hx)
   refine bC (wpAny_alloc' ?_)
   refine bC (wpAny_update' R9 ?_)
   refine bD ?_
   have Vx:((h.push {cls:=.type "dict",data:=.dict #[]}).update x fun o=>{cls:=o.cls,dict:=some h.objs.size,data:=o.data,slots:=o.slots}).get? h.objs.size
     =some {cls:=.type "dict",data:=.dict #[]}:=
    (Heap.get?_update_ne _ _ _ _ uG.symm).trans (Heap.get?_push_at rfl rfl)
   have mH:((h.push {cls:=.type "dict",data:=.dict #[]}).update x fun o=>{cls:=o.cls,dict:=some h.objs.size,data:=o.data,slots:=o.slots}).Ns h.objs.size (fun Z=>none):=
    ⟨_,#[],_,Vx,rfl,fun e he=>absurd he (by simp),fun Z=>rfl⟩
   show wpAny _ _ (storeInDict h.objs.size (.str name tk) name v) _ _ _
   unfold storeInDict newKeyGuard
   refine bC (bD (bC (wpAny_nsSet1EFk (Heap.Ns1.of_empty mH) fun h' m8 hs IL=>?_)))
   obtain⟨oD,esD,epD,KU,KV,KW⟩:=m8.count (Within.cons name v Within.nil)
   refine bC (wpAny_lookBehind KU (by rw[KV];exact pastItsLine_dict (Nat.le_trans KW (by rw[List.length_cons,List.length_nil,sizeLine_eq];omega))) ?_)
   wp_walk
   have mG:h'.get? x=some {cls:=o.cls,dict:=some h.objs.size,data:=o.data,slots:=o.slots}:=?_
   refine hq h' _ ⟨{cls:=o.cls,dict:=some h.objs.size,data:=o.data,slots:=o.slots},mG,hc,m_,.inr ⟨h.objs.size,rfl,uG.symm,?_,(let⟨uv,e',c',d'⟩:=IL _ Vx;⟨uv,e',c',d'⟩)⟩⟩ (fun b ob KX Z hb=>?_)
    (fun ke h₀=>by obtain rfl:o=ke:=aV (hx.symm.trans h₀);exact⟨_,mG,rfl,rfl,(fun dx e=>by rw[pN]at e;cases e),fun Z=>⟨h.objs.size,rfl,kS h⟩⟩)
   ·obtain⟨o',es,ep,e1,e2,e3,eu,e4⟩:=m8
    exact⟨o',es,ep,e1,e2,e3,eu,fun y=>by rw[e4 y];by_cases hy:y=name<;>simp[hy,hmA]⟩
   ·exact(hs.2 b (bx (Heap.lt_size hb))).trans ((Heap.get?_update_ne _ _ _ _ KX).trans (aX _ hb))
   ·refine(hs.2 x uG).trans (Heap.get?_update_self _ R9 ?_)
    have ju:=(Heap.get?_some_iff.mp hx).2
    obtain⟨oc,od,odt,Vy⟩:=o
    cases odt<;>first|rfl|exact ju
 ·
  rw[tn]
  refine bD ?_
  show wpAny _ _ (storeInDict dx (.str name tk) name v) _ _ _
  unfold storeInDict newKeyGuard
  refine bC (bD (bC (wpAny_nsSet1EFk jb fun h' m8 hs IL=>?_)))
  obtain⟨oD,esD,epD,KU,KV,KW⟩:=m8.count (Within.cons name v hw)
  refine bC (wpAny_lookBehind KU (by rw[KV];exact pastItsLine_dict (Nat.le_trans KW (by rw[List.length_cons,sizeLine_eq];omega))) ?_)
  wp_walk
  refine hq h' _ ⟨o,(hs.2 x jU.symm).trans hx,hc,m_,.inr ⟨dx,tn,jU,m8,(let⟨od,e,c,dd⟩:=hed;let⟨uv,e',c',d'⟩:=IL od e;⟨uv,e',c'.trans c,d'.trans dd⟩)⟩⟩ (fun b ob Z hbd hb=>?_)
   (fun ke h₀=>⟨ke,(hs.2 x jU.symm).trans h₀,rfl,rfl,fun Z e=>e,fun e=>by rw[hx]at h₀;cases h₀;rw[tn]at e;cases e⟩)
  exact(hs.2 b (hbd o dx hx tn)).trans hb
theorem PX{Q:Unit→Shared→Prop}{ns:List Str}(SF:StoreFacts B bmB sa owner)
  (hC:h.get? C=some (cp.mk' C (.ref P::bmB) true ab newId)) (hn:h.Ns cp.N mN) (hP:h.get? P=some {cls:=c0,dict:=dP,data:=.cls cd,slots:=sl}) (lB:h.Ns cd.ns mP)
  (jb:mN "__setattr__"=none) (agw:mP "__setattr__"=none) (KP:mN name=none) (KQ:mP name=none) (hB:typeLookup (.type B) name=pure none) (I:h.InstFk x C mA)
  (hq:∀h' pI,h'.InstFk x C (fun y=>if y=name then some v else mA y)→
   (∀b o,b≠x→(∀ke dx,h.get? x=some ke→ke.dict=some dx→b≠dx)→h.get? b=some o→h'.get? b=some o)→
   (∀ke,h.get? x=some ke→∃fY,h'.get? x=some fY∧fY.cls=ke.cls∧fY.data=ke.data∧(∀dx,ke.dict=some dx→fY.dict=some dx)∧(ke.dict=none→∃dx,fY.dict=some dx∧h.get? dx=none))→Q () ⟨h',g,d,pI,os⟩) (hw:Within mA ns) (j6:ns.length≤1000):
  wpAny (model prog w) A (setAttr (.ref x) name v) Q E ⟨h,g,d,t,os⟩:=by
 obtain⟨o,hx,hc,_⟩:=id I
 have f3:=SF.slot.bind (.ref x)
 unfold setAttr callSpecial? specialOf
 repeat(any_goals(first|assumption|(with_reducible refine wpAny_loadPart_at hx ?_;rw[hc])|(with_reducible refine yU hC hn hP lB SF.mro SF.slot.lookup jb ?_;rw[agw])|wp_step))
 refine codeAny_call_builtin SF.slot.plain SF.entry (abe SF hC hx hc (ZT SF hC hn hP lB KP KQ hB I (fun h' pI I' hk ae1=>?_) hw j6))
 repeat(any_goals(first|assumption|wp_step))
 exact hq h' pI I' hk ae1
theorem aag{qk:String}(F:ExcBaseFacts B newId qk bmB){M:Model}{e:Addr}{oe:Obj}{rest:List Value}{Q:Unit→Shared→Prop}
  (hC:h.get? C=some (cp.mk' C (.ref P::bmB) true ab newId)) (he:h.get? e=some oe) (ta:oe.cls=.ref C) (hq:Q () ⟨h,g,d,t,os⟩):
  wpAny M A (checkBuiltinCall qk ⟨.ref e::rest,[]⟩) Q E ⟨h,g,d,t,os⟩:=by
 have qC:=uj (C:=C) (P:=P) F.hasB
 have aoq:=F.noStar
 simp only[checkBuiltinCall,F.initKind,F.initSplit,F.initRow]
 repeat(first|(with_reducible refine wpAny_loadPart_at he ?_;rw[ta])|with_reducible refine wpAny_loadPart_at hC ?_|(with_reducible refine wpAny_isSubtype_exc hC ?_;rw[qC])|wp_step)
 refine wpAny_onRaise ?_
 rw[show∀(a b:String) (n:Nat),Bind.check ⟨.positional,"*",B,.self,[⟨"args",.varPos,false⟩]⟩ a b n (List.map (fun x=>x.fst) ({pos:=Value.ref e::rest}:Args).kw)=pure ()from
  fun a b n=>check_star_args _ _ _ _ _ _]
 exact bD hq
theorem ae2{qk:String}(F:ExcBaseFacts B newId qk bmB){e tp:Addr}{m:Value}{Q:Value→Shared→Prop}
  (hC:h.get? C=some (cp.mk' C (.ref P::bmB) true ab newId)) (he:h.get? e=some {cls:=.ref C,data:=.fields #[.ref tp,.none,.none,.none,.bool false,.none]})
  (hq:∀h' tp',(∀b o,b≠e→h.get? b=some o→h'.get? b=some o)→h'.get? e=some {cls:=.ref C,data:=.fields #[.ref tp',.none,.none,.none,.bool false,.none]}→Q .none ⟨h',g,d,t,os⟩):
  wpAny (model prog w) A (call (.builtin qk) [.ref e,m]) Q E ⟨h,g,d,t,os⟩:=by
 refine wpAny_call (codeAny_call_builtin F.init.plain F.initEntry (aag F hC he rfl ?_))
 unfold Builtin.«BaseException.__init__»
 wp_walk
 refine hq _ h.objs.size (fun b o hb ho=>?_) ?_
 ·rw[Heap.get?_update_other _ _ (Ne.symm hb)]
  exact aX _ ho
 ·rw[Heap.get?_update_self _ (Heap.get?_push_of_some _ he) rfl]
  rfl
end
noncomputable abbrev tq:List Value:=[.type "Exception",.type "BaseException",.type "object"]
structure XD where
 cp:CP
 P:Addr
 ab:Bool
 c0:Value
 dP:Option Addr
 cd:ClassData
 sl:Array (Option Value)
 mN:Str→Option Value
 mP:Str→Option Value
structure Tj(h:Heap)(C fI:Addr)(x:XD):Prop where
 hC:h.get? C=some (x.cp.mk' C (.ref x.P::tq) true x.ab "Exception.__new__")
 hn:h.Ns x.cp.N x.mN
 hP:h.get? x.P=some {cls:=x.c0,dict:=x.dP,data:=.cls x.cd,slots:=x.sl}
 lB:h.Ns x.cd.ns x.mP
 i1:x.mN "__init__"=none
 i2:x.mP "__init__"=some (.ref fI)
 no:∀y:Str,y="__setattr__"∨y="message"∨y="spot"∨y="__getattribute__"∨y="__getattr__"→x.mN y=none∧x.mP y=none
structure ExcAt(h:Heap)(C fI:Addr):Prop where
 ex:∃x,Tj h C fI x
theorem ExcAt.keeps{h h':Heap}{C fI:Addr}(x:ExcAt h C fI)(k:∀b o,h.get? b=some o→h'.get? b=some o):ExcAt h' C fI:=
 let⟨x,n⟩:=x.ex
 ⟨x,{n with hC:=k _ _ n.hC,hn:=n.hn.keeps k,hP:=k _ _ n.hP,lB:=n.lB.keeps k}⟩
theorem aah:typeLookup (.type "Exception") "message"=pure none:=by rw[typeLookup_type,builtinLookup_eq_fast];kernel_rfl
theorem PY:typeLookup (.type "Exception") "spot"=pure none:=by rw[typeLookup_type,builtinLookup_eq_fast];kernel_rfl
theorem adC(h:Heap):Frag.In [] h:=fun a o e=>by cases e
theorem Yl{prog:Program}{w:World}{A:Around}{E:Value→Shared→Prop}{s:Shared}{pl:Sem Bool}{Q:Value×List Value→Shared→Prop}(h:Q (.builtin "Exception.__init__",[]) {s with toks:=s.toks+1}):
  wpAny (model prog w) A (getMethod (.type "Exception") "__init__" pl) Q E s:=by
 have X:=adC s.heap
 have ht:typeOf (.type "Exception")=pure (.type "type"):=by first|rfl|kernel_rfl
 have ae3:opaqueClassAbove (.type "Exception")=pure none:=by unfold opaqueClassAbove;dsimp only;rw[show Manifest.isStub "Exception"=false by decide+kernel];rfl
 have L0:Looks (model prog w) s.heap (typeOf (.type "Exception")) (.type "type"):=Looks.of_pure ht
 have hg:findIn [] (.type "type") "__getattribute__"=some (some (.builtin "type.__getattribute__")):=type_tga
 have e:findCls [] (.type "Exception") (.type "type") "__init__"=some (.val (.builtin "Exception.__init__")):=by kernel_rfl
 unfold getMethod specialOf
 refine bC (bC (L0.here ((looks_findIn X hg).here ?_)))
 dsimp only
 rw[if_pos canon_tga]
 refine bC (wpAny_mono (Q:=fun v=>Q (v,[])) (E:=E) ?_ (fun Z Z z=>bD z) fun Z Z z=>z)
 have LO:Looks (model prog w) s.heap (opaqueClassAbove (.type "Exception")) none:=Looks.of_pure ae3
 refine cls_open X LO L0 hg (looks_hook X (r:=none) (by rfl)) (by show subIn [] _ _=_;rfl) e
  (bD (by show wpAny _ _ (handedOut (.builtin "Exception.__init__")) _ _ _;rw[handedOut_of (by decide+kernel)];exact bD h))
noncomputable def Ew(p:Nat→Pos):List Stmt:=
 [.Expr (.Call (.Attribute (.Name "Exception" (p 0)) "__init__" (p 1)) [.Name "self" (p 2),.Name "message" (p 3)] [] (p 4)) (p 5),
  .Assign [.Attribute (.Name "self" (p 6)) "message" (p 7)] (.Name "message" (p 8)) (p 9),
  .Assign [.Attribute (.Name "self" (p 10)) "spot" (p 11)] (.Name "spot" (p 12)) (p 13)]
noncomputable def Iq(h h':Heap)(C e:Addr)(k:Int)(t:Tok):Prop:=
 (∀b o,h.get? b=some o→h'.get? b=some o)∧h.get? e=none∧∃tp d m od oe,h'.get? e=some oe∧oe.cls=.ref C∧oe.dict=some d∧oe.data=.fields #[.ref tp,.none,.none,.none,.bool false,.none]∧
  h.get? d=none∧h'.get? d=some od∧od.cls=.type "dict"∧h'.Ns d m∧m "spot"=some (.int k t)
section
variable{prog:Program}{w:World}{A:Around}{E:Value→Shared→Prop}{env:Env}{h₀ h:Heap}{g:Array GenState}{d:Drawn}{t:Nat}{os:OsState}{C fI e tp:Addr}{mg mb m:Str→Option Value}{M:Value}{k:Int}{tk:Tok}{p:Nat→Pos}
theorem t7(hk:env.scope.kind=.function){x:Str}{pos:Pos}{v:Value}(hx:env.scope.names.lookup x=some .local)(hd:(x==("__debug__":Str))=false){s:Shared}(hn:s.heap.Ns env.locals m)(hv:m x=some v){Q:Value→Shared→Prop}(hq:Q v s):
 wpAny (model prog w) A (eval (.Name x pos) env) Q E s:=wpAny_Name (wpAny_loadName_local hk (by unfold Env.kindOf;exact hx) hn hv hq) hd
theorem abH(X:ExcAt h C fI)(rL:∀b o,h₀.get? b=some o→h.get? b=some o)(Ca:h₀.get? e=none)
  (he:h.get? e=some {cls:=.ref C,data:=.fields #[.ref tp,.none,.none,.none,.bool false,.none]}) (hk:env.scope.kind=.function)
  (hn:h.Ns env.locals m) (hL:env.locals≠e) (hs:m "self"=some (.ref e)) (hm:m "message"=some M) (hsp:m "spot"=some (.int k tk))
  (l1:env.scope.names.lookup ("self":Str)=some .local) (l2:env.scope.names.lookup ("message":Str)=some .local) (l3:env.scope.names.lookup ("spot":Str)=some .local) (l4:env.scope.names.lookup ("Exception":Str)=some .globalImplicit)
  (hg:h.Ns env.globals mg) (hgx:mg "Exception"=none) (om:env.globals≠e) (hb:h.Ns env.builtins mb) (KX:mb "Exception"=some (.type "Exception")) (hC:C≠e) (mz:((p 1).endLine==(p 4).line)=true)
  {Q:Flow→Shared→Prop} (hQ:∀h' pI,Iq h₀ h' C e k tk→Q .next ⟨h',g,d,pI,os⟩):
  wpAny (model prog w) A (execs (Ew p) env) Q E ⟨h,g,d,t,os⟩:=by
 have nd:∀x:Str,(x==("__debug__":Str))=false→(x==("__debug__":Str))=false:=fun Z h=>h
 have hint:interactive env=false:=by unfold interactive;rw[hk];rfl
 unfold Ew
 refine wpAny_execs_cons (wpAny_Expr_any ?_ hint rfl)
 rw[arm_eval_Call,vd rfl]
 refine bC (Name_function_global hk (by unfold Env.kindOf;exact l4) (loadGlobal_builtin hg hgx hb KX ?_) (by decide))
 refine bC (wpAny_standAt ?_)
 unfold methodCall
 have ae4:methodCallForm (([Expr.Name "self" (p 2),Expr.Name "message" (p 3)]:List Expr).length+([]:List Keyword).length) (backTo (p 4) (starEach [Expr.Name "self" (p 2),Expr.Name "message" (p 3)] env)) (backToKw (p 4) (keywordEach [] env))=true:=rfl
 rw[ae4]
 refine bC (wpAny_holding ?_)
 unfold calleeOf
 rw[if_pos rfl]
 refine Yl (bC ?_)
 unfold methodCallPos
 rw[mz]
 simp only[Bool.not_true,Bool.false_or,if_true]
 refine bD ?_
 refine Calls.callWith_builtin rfl (Calls.evalArgs_plain (Calls.spliced_cons (t7 hk l1 (by decide) hn hs (Calls.spliced_cons (t7 hk l2 (by decide) hn hm (Calls.spliced_nil ?_))))))
 obtain⟨x,n⟩:=id X.ex
 have x1:=n.hC
 have x2:=n.hn
 have x3:=n.hP
 have x4:=n.lB
 have⟨x7,x8⟩:=n.no "__setattr__" (.inl rfl)
 have⟨x9,x10⟩:=n.no "message" (.inr (.inl rfl))
 have⟨KY,KZ⟩:=n.no "spot" (.inr (.inr (.inl rfl)))
 refine ae2 F.excBase_Exception x1 he fun gL ae5 vC y_=>?_
 have aoT:∀{a:Addr} {o:Obj},h.get? a=some o→o.cls≠.ref C→a≠e:=fun{a o} q z w=>by rw[w,he]at q;cases q;exact z rfl
 have hN:x.cp.N≠e:=fun z=>by
  obtain⟨o,es,ep,q1,q2,_⟩:=x2
  rw[z,he]at q1;cases q1;cases q2
 have hP:x.P≠e:=fun z=>by rw[z,he]at x3;exact nomatch congrArg Obj.data (aV x3)
 have Vz:x.cd.ns≠e:=fun z=>by
  obtain⟨o,es,ep,q1,q2,_⟩:=x4
  rw[z,he]at q1;cases q1;cases q2
 have Jy:∀{a:Addr} {mm:Str→Option Value},a≠e→h.Ns a mm→gL.Ns a mm:=fun{a mm} jU z=>by
  obtain⟨o,es,ep,q1,r⟩:=z
  exact⟨o,es,ep,vC a o jU q1,r⟩
 have R_:=Jy hL hn
 refine wpAny_execs_cons (wpAny_Assign_stores (t7 hk l2 (by decide) R_ hm ?_) rfl rfl)
 show wpAny _ A (assign (.Attribute (.Name "self" (p 6)) "message" (p 7)) env M) _ _ _
 rw[arm_assign_Attribute]
 refine bC (wpAny_holding (t7 hk l1 (by decide) R_ hs (bC (wpAny_standAt (bC (wpAny_holding ?_))))))
 have agx:gL.InstFk e C (fun Z=>none):=⟨_,y_,rfl,(fun c q=>by cases q),.inl ⟨rfl,fun Z=>rfl⟩⟩
 refine PX (ns:=[]) F.store_Exception (vC _ _ hC x1) (Jy hN x2) (vC _ _ hP x3) (Jy Vz x4) x7 x8 x9 x10 aah agx (fun jR aoJ agy ae6 ae7=>wpAny_release' ?_) Within.nil (by simp)
 refine zz fun GG KK=>?_
 obtain⟨vV,A7,c₂,agz,aoU,agA⟩:=ae7 _ y_
 obtain⟨dx,tn,pN⟩:=agA rfl
 have oU:∀b o,b≠e→gL.get? b=some o→jR.get? b=some o:=fun b o hb q=>ae6 b o hb (fun ke agB z1 z2=>by rw[y_]at z1;cases z1;cases z2) q
 have I1:∀{a:Addr} {mm:Str→Option Value},a≠e→h.Ns a mm→jR.Ns a mm:=fun{a mm} jU z=>by
  obtain⟨o,es,ep,q1,r⟩:=z
  exact⟨o,es,ep,oU a o jU (vC a o jU q1),r⟩
 have Sa:=I1 hL hn
 refine KK ?_
 refine wpAny_execs_cons (wpAny_Assign_stores (t7 hk l3 (by decide) Sa hsp ?_) rfl rfl)
 show wpAny _ A (assign (.Attribute (.Name "self" (p 10)) "spot" (p 11)) env (.int k tk)) _ _ _
 rw[arm_assign_Attribute]
 refine bC (wpAny_holding (t7 hk l1 (by decide) Sa hs (bC (wpAny_standAt (bC (wpAny_holding ?_))))))
 have K1:∀{a:Addr} {o:Obj},a≠e→h.get? a=some o→jR.get? a=some o:=fun{a o} jU z=>oU a o jU (vC a o jU z)
 refine PX (ns:=["message"]) F.store_Exception (K1 hC x1) (I1 hN x2) (K1 hP x3) (I1 Vz x4) x7 x8 KY KZ PY agy (fun jS I2 agC ae8 ae9=>wpAny_release' ?_) (Within.cons _ _ Within.nil) (by simp)
 refine zz fun GG KK=>?_
 obtain⟨agD,Sb,aoV,agE,Jz,aoW⟩:=ae9 _ A7
 refine KK ?_
 refine wpAny_execs_nil (hQ jS I2 ⟨fun b o q=>?_,Ca,?_⟩)
 ·have Cb:b≠e:=fun z=>by rw[z,Ca]at q;cases q
  have q1:=K1 Cb (rL b o q)
  refine ae8 b o Cb (fun ke agB z1 z2 z3=>?_) q1
  rw[A7]at z1;cases z1
  rw[tn]at z2;cases z2
  have:=vC b o Cb (rL b o q)
  rw[z3,pN]at this;cases this
 ·refine zz fun GG KK=>?_
  obtain⟨aoX,z1,z2,z3,z4⟩:=agC
  rw[Sb]at z1;cases z1
  rcases z4 with⟨y1,_⟩|⟨d',y1,y2,y3,y4⟩
  ·rw[Jz dx tn]at y1;cases y1
  ·rw[Jz dx tn]at y1;cases y1
   obtain⟨od,q1,q2,q3⟩:=y4
   refine KK ?_
   refine⟨ae5,dx,_,od,agD,Sb,z2,Jz dx tn,agE.trans agz,?_,q1,q2,y3.ns,by simp⟩
   ·cases z:h₀.get? dx with
    |none=>rfl
    |some o=>
     have Cb:dx≠e:=y2
     have:=vC dx o Cb (rL dx o z)
     rw[pN]at this;cases this
end
section
variable{M:Model}{A:Around}{E:Value→Shared→Prop}{env:Env}{C fI:Addr}
theorem aaE{s:Shared}{x:Sem Value}{Q:Flow→Shared→Prop}(hh:A.handled=none)
  (h:wpAny M A x (fun v cD=>∃e oe tp,v=.ref e∧ExcAt cD.heap C fI∧cD.heap.get? e=some oe∧oe.cls=.ref C∧oe.data=.fields #[.ref tp,.none,.none,.none,.bool false,.none]∧E (.ref e) cD) E s):
  wpAny M A (raiseStmt env (some x) none) Q E s:=by
 unfold raiseStmt
 refine bC (wpAny_mono h (fun v cD gL=>?_) fun Z Z x=>x)
 refine zz fun GG KK=>?_
 obtain⟨e,oe,tp,rfl,X,he,ta,Fy,hE⟩:=gL
 obtain⟨x,hN⟩:=X.ex
 have hC:=hN.hC
 have qC:=uj (C:=C) (P:=x.P) (bmB:=tq) (X:="BaseException") (b:=true) (by decide+kernel)
 obtain⟨ocl,odi,oda,Vy⟩:=oe
 simp only at ta Fy
 subst ta Fy
 obtain⟨hp,g,d,tk,os⟩:=cD
 refine KK ?_
 repeat(first|with_reducible refine wpAny_loadPart_at he ?_|with_reducible refine wpAny_loadPart_at hC ?_|(with_reducible refine wpAny_isSubtype_exc hC ?_;rw[qC])|wp_step)
 exact wpAny_raiseNew_none hh hE
end
structure mY(c:Cx)(fI:Addr)(fd:FuncData)(p:Nat→Pos):Prop where
 cls:∃x oN oP,Tj c.h0 c.cT fI x∧c.h0.get? x.cp.N=some oN∧oN.cls≠.none∧x.c0≠.none∧c.h0.get? x.cd.ns=some oP∧oP.cls≠.none
 fn:uD c fI fd (Ew p)
 isFn:∃o,c.h0.get? fI=some o∧o.cls=.type "function"
 line:((p 1).endLine==(p 4).line)=true
 IM:∀x∈fd.scope.names,x.2≠.cell
 l1:fd.scope.names.lookup ("self":Str)=some .local
 l2:fd.scope.names.lookup ("message":Str)=some .local
 l3:fd.scope.names.lookup ("spot":Str)=some .local
 l4:fd.scope.names.lookup ("Exception":Str)=some .globalImplicit
 bind:oM c fd 3 [("self":Str),("message":Str),("spot":Str)] []
theorem mY.now{c:Cx}{fI:Addr}{fd:FuncData}{p:Nat→Pos}(X:mY c fI fd p){ρ:List Addr}{σ:List MO}{s:Shared}(sr:SR c ρ σ s):ExcAt s.heap c.cT fI:=
 let⟨x,oN,oP,n,y1,y2,y3,y4,y5⟩:=X.cls
 ⟨x,{n with hC:=sr.jr n.hC (fun q=>nomatch q),hn:=qY n.hn (fun o e=>aV (y1.symm.trans e)▸sr.jr y1 y2),hP:=sr.jr n.hP y3,lB:=qY n.lB (fun o e=>aV (y4.symm.trans e)▸sr.jr y4 y5)}⟩
section
variable{c:Cx}{A:Around}{ρ:List Addr}{σ:List MO}{s:Shared}{gl:Str→Option J}{gz:Str→Bool}{fI:Addr}{fd:FuncData}{p:Nat→Pos}{n:Nat}
theorem abI(X:mY c fI fd p)(Fa:Facts c gl gz)(hx:gz "Exception"=true)(hr:g0 A (n+1))(sr:SR c ρ σ s){m:Value}{k:Int}{tk:Tok}{Q:Value→Shared→Prop}{E:Value→Shared→Prop}
  (hq:∀e h' pI,Iq s.heap h' c.cT e k tk→Q (.ref e) {s with heap:=h',toks:=pI}):wpAny (model c.prog c.w) A (call (.ref c.cT) [m,.int k tk]) Q E s:=by
 refine zz fun GG KK=>?_
 obtain⟨x,n⟩:=(X.now sr).ex
 have x1:=n.hC
 obtain⟨oI,hoI,VA⟩:=X.isFn
 have agF:=sr.jr hoI (by rw[VA];exact fun q=>nomatch q)
 obtain⟨o,ho,Kx,B_⟩:=X.fn.obj
 obtain⟨cc,oc,vs,t,uw,uF,Ky,Kz,KA⟩:=X.fn.code
 obtain⟨og,mg,wO,JA,agG,_,hgn⟩:=Fa.g
 obtain⟨ob,mb,qD,agH,agI,Kj⟩:=Fa.b
 obtain⟨hp,g,dr,tks,os⟩:=s
 refine KK ?_
 refine abd F.excBase_Exception x1 n.hn n.hP n.lB n.i1 n.i2 agF VA (fun h' e mk=>?_) (by rw[sizeLine_eq];simp)
 dsimp only at*
 have VB:=sr.jr wO JA
 have ti:=sr.jr qD agH
 obtain⟨tp,he,_,_⟩:=mk.there
 have hd:=hr.depth
 have hun:(A.under (.builtin "type.__call__" ⟨.ref c.cT::[m,.int k tk],[]⟩)).depth=A.depth+1:=(OG c.cT [m,.int k tk]).1
 refine wpAny_call (codeAny_call_function (by rw[hun];omega) (mk.keeps _ _ (sr.jr ho Kx)) B_ X.fn.co X.fn.gen X.fn.body ⟨cc,oc,vs,t,uw,mk.keeps _ _ (sr.jr uF Ky),Kz,KA⟩ ?_)
 refine X.bind _ _ [.ref e,m,.int k tk] _ _ rfl (sr.old.step_keeps mk.keeps) ?_
 rw[show [("self":Str),("message":Str),("spot":Str)].zip ([.ref e,m,.int k tk]++[])=[(("self":Str),.ref e),(("message":Str),m),(("spot":Str),.int k tk)]from rfl]
 refine wpAny_newFunctionEnv X.IM (fun x hx=>?_) (fun jR jb RC=>?_) X.fn.kind
 ·refine zz fun GG KK=>?_
  simp only[List.mem_cons,List.not_mem_nil,or_false]at hx
  rcases hx with rfl|rfl|rfl
  ·refine KK ?_
   exact X.l1
  ·refine KK ?_
   exact X.l2
  ·refine KK ?_
   exact X.l3
 ·dsimp only at jb RC⊢
  have oU:∀b o,h'.get? b=some o→jR.get? b=some o:=fun b o q=>(RC.2 b (bx (Heap.lt_size q))).trans (aX _ q)
  have kp:∀b o,hp.get? b=some o→jR.get? b=some o:=fun b o q=>oU b o (mk.keeps b o q)
  have Bs:jR.NoLimit:=by
   obtain⟨mc,n1,n2⟩:=DJ Fa.nolimit sr
   exact⟨mc,n1.keeps kp,n2⟩
  refine⟨Bs,codeAny_func ?_⟩
  have hLe:h'.objs.size≠e:=Nat.ne_of_gt (Heap.lt_size he)
  have Ca:=mk.new
  have VC:∀{a:Addr} {o:Obj},hp.get? a=some o→a≠e:=fun{a o} q z=>by rw[z,Ca]at q;cases q
  have gNs:jR.Ns mainGlobals mg:=(qY agG fun o e=>by rw[wO]at e;cases e;exact VB).keeps kp
  have bNs:jR.Ns builtinsNs mb:=(qY agI fun o e=>by rw[qD]at e;cases e;exact ti).keeps kp
  refine abH (h₀:=hp) (h:=jR) (e:=e) (tp:=tp) (mg:=mg) (mb:=mb) (M:=m) (k:=k) (tk:=tk) ((X.now sr).keeps kp) kp Ca (oU _ _ he) X.fn.kind jb hLe ?_ ?_ ?_ X.l1 X.l2 X.l3 X.l4 ?_ (hgn _ hx) ?_ ?_ ((Kj _ hx).trans (by kernel_rfl)) (VC x1) X.line (fun jS I2 ae_=>⟨rfl,hq e jS I2 ae_⟩)
  ·rfl
  ·rfl
  ·rfl
  ·show jR.Ns fd.globals mg
   rw[X.fn.glob];exact gNs
  ·show fd.globals≠e
   rw[X.fn.glob];exact VC VB
  ·show jR.Ns fd.builtins mb
   rw[X.fn.blt];exact bNs
end
def acI(m k:J)(σ:List MO):Out J:=vS m fun Z=>vI k fun k=>some (.fo k,σ)
def IP(l:List J)(σ:List MO):Out J:=@List.casesOn J (fun Z=>Out J) l none fun m l=>@List.casesOn J (fun Z=>Out J) l none fun k l=>@List.casesOn J (fun Z=>Out J) l (acI m k σ) fun Z Z=>none
def qm(x y:X)(f:Fr)(σ:List MO):Out MF:=dk (x f σ) fun m σ=>dk (y f σ) fun s σ=>vS m fun Z=>vI s fun k=>some (.fo k,σ)
section
variable{c:Cx}{g:FC}{n:Nat}{A:Around}{env:Env}{f:Fr}{ρ:List Addr}{σ:List MO}{s:Shared}{gl:Str→Option J}{gz:Str→Bool}{fI:Addr}{fd:FuncData}{p:Nat→Pos}
theorem abJ{s':Shared}{h':Heap}{e:Addr}{k:Int}{tk:Tok}(sr:SR c ρ σ s)(h:Iq s.heap h' c.cT e k tk):ly c ρ h' k (.ref e):=by
 refine zz fun GG KK=>?_
 obtain⟨kp,he,tp,d,m,od,oe,h1,h2,h3,h4,h5,h6,h7,h8,h9⟩:=h
 refine KK ?_
 exact⟨.exc h1 h2 h3 h4 h6 (sJ h8 h6) h7 h8 h9 (lM sr he) (lM sr h5) (sr.pb he) (sr.pb h5),e,rfl,oe,_,h1,h4,by simp,.inl ⟨rfl,by simp⟩⟩
theorem mY.callee(X:mY c fI fd p):Callee c c.cT:=by
 refine zz fun GG KK=>?_
 obtain⟨x,oN,oP,n,_⟩:=X.cls
 refine KK ?_
 exact⟨_,n.hC,(fun q=>nomatch q),.inr ⟨x.cp,_,true,x.ab,_,rfl⟩⟩
theorem NN{m k:J}{α:Type}{r:Res α×List MO}(h:(vS m fun Z=>vI k fun k=>some (Res.fo k,σ))=some r):∃x i,m=.str x∧k=.int i∧r=(.fo i,σ):=
 let⟨x,h1,h⟩:=Ih h
 let⟨i,h2,h⟩:=t8 h
 ⟨x,i,h1,h2,(aV h).symm⟩
theorem aaF{y1 y2:Mine.X}{r:Res MF}{cG:List MO}(h:qm y1 y2 f σ=some (r,cG)):∃k,r=.fo k∧dk (bZ y1 (bZ y2 cm) f σ) IP=some (.fo k,cG):=by
 refine zz fun GG KK=>?_
 unfold qm at h
 rcases HU h with⟨m,σ₁,e1,h⟩|⟨k,σ₁,e1,h⟩
 ·rcases HU h with⟨v,fU,e2,h⟩|⟨k,fU,e2,h⟩
  ·obtain⟨x,i,rfl,rfl,h⟩:=NN h
   cases h
   refine KK ?_
   exact⟨i,rfl,by unfold bZ;rw[e1];show dk (dk (bZ y2 cm f σ₁) _) _=_;unfold bZ;rw[e2];rfl⟩
  ·cases h
   refine KK ?_
   exact⟨k,rfl,by unfold bZ;rw[e1];show dk (dk (bZ y2 cm f σ₁) _) _=_;unfold bZ;rw[e2];rfl⟩
 ·cases h
  refine KK ?_
  exact⟨k,rfl,by unfold bZ;rw[e1];rfl⟩
theorem abf(X:mY c fI fd p)(Fa:Facts c gl gz)(hx:gz "Exception"=true)(hr:g0 A (n+1)){l:List J}{L:List Value}{r:Res J}{cG:List MO}{E:Value→Shared→Prop}(sr:SR c ρ σ s)(rl:dh c ρ s.heap l L)(hk:IP l σ=some (r,cG))
  (P:iT c (cI c) ρ s.heap r cG (fun v cD=>∃e oe tp,v=.ref e∧ExcAt cD.heap c.cT fI∧cD.heap.get? e=some oe∧oe.cls=.ref c.cT∧oe.data=.fields #[.ref tp,.none,.none,.none,.bool false,.none]∧E (.ref e) cD) E):
  wpAny (model c.prog c.w) A (call (.ref c.cT) L) (fun v cD=>∃e oe tp,v=.ref e∧ExcAt cD.heap c.cT fI∧cD.heap.get? e=some oe∧oe.cls=.ref c.cT∧oe.data=.fields #[.ref tp,.none,.none,.none,.bool false,.none]∧E (.ref e) cD) E s:=by
 match l,rl,hk with
 |[m,k],rl,hk=>
  obtain⟨x,i,rfl,rfl,h⟩:=NN (α:=J) hk
  cases h
  obtain⟨V1,L,rfl,r1,rl⟩:=rl.gr
  obtain⟨V2,L,rfl,r2,rl⟩:=rl.gr
  obtain rfl:=rl.i9
  obtain⟨t,rfl⟩:=r2.inv
  refine abI X Fa hx hr sr fun e h' pI hm=>?_
  have kp:=hm.1
  obtain⟨_,_,tp,d,m,od,oe,q1,q2,q3,q4,_⟩:=id hm
  exact⟨e,oe,tp,rfl,(X.now sr).keeps kp,q1,q2,q4,P.fo i _ ρ {s with heap:=h',toks:=pI} rfl (Ext.keeps kp) (sr.keeps kp) (abJ (s':=s) sr hm)⟩
 |[],_,hk=>exact cw hk
 |[_],_,hk=>exact cw hk
 |_::_::_::_,_,hk=>exact cw hk
theorem D1.raise(X:mY c fI fd p)(Fa:Facts c gl gz)(hx:gz "Exception"=true){x:Str}{np lR pos:Pos}{e1 e2:Expr}{y1 y2:Mine.X}(hv:gl x=some (.dC c.cT))(hk:g.scope.names.lookup x=some .globalImplicit)(hd:(x==("__debug__":Str))=false)
  (h1:DE c g (n+1) e1 y1) (h2:DE c g (n+1) e2 y2) (u1:jf e1=true) (u2:jf e2=true):D1 c g (n+1) (.Raise (some (.Call (.Name x np) [e1,e2] [] lR)) none pos) (qm y1 y2):=by
 intro A env f ρ σ s hr he sr
 refine⟨fun r cG hX Q E P=>?_⟩
 rw[arm_exec_Raise]
 refine bC (wpAny_standAt ?_)
 show wpAny _ A (raiseStmt env (some (do let v←eval (.Call (.Name x np) [e1,e2] [] lR) env;standAt pos;pure v)) none) Q E s
 have uG:bV c g (n+1) [e1,e2] (bZ y1 (bZ y2 cm)):=ae h1 (ae h2 af u2) u1
 obtain⟨k,rfl,nJ⟩:=aaF hX
 refine aaE (C:=c.cT) (fI:=fI) hr.calm (bC (wpAny_mono (wpAny_Call_ofName (Fa.global sr he hv hk hd fun V rV=>?_)) (fun v kL jS=>bC (wpAny_standAt (bD jS))) fun Z Z z=>z))
 cases rV
 have P':iT c (cI c) ρ s.heap (.fo k) cG (fun v cD=>∃e oe tp,v=.ref e∧ExcAt cD.heap c.cT fI∧cD.heap.get? e=some oe∧oe.cls=.ref c.cT∧oe.data=.fields #[.ref tp,.none,.none,.none,.bool false,.none]∧E (.ref e) cD) E:=
  ⟨(fun Z Z Z Z q=>nomatch q),fun k' X' cC s' nN e1 cY fl=>P.fo k' X' cC s' (by cases nN;rfl) e1 cY fl⟩
 exact HO (first:=[]) (k:=IP) X.callee uG (by simp[u1,u2]) hr he sr nJ P' fun l L cW σ₁ cD ex1 cY rl Gi P1=>abf X Fa hx hr cY rl Gi P1
end
theorem IQ:Slot "Exception" "__getattribute__" "BaseException.__getattribute__":=.of (owner:="BaseException") (n:="__getattribute__") (by rw[typeLookup_type,builtinLookup_eq_fast];kernel_rfl) (by decide+kernel) (by decide+kernel) (by decide+kernel)
 (by first|exact .inl (by decide+kernel)|exact .inr (by decide+kernel)) (by rw[isSubtype_type];kernel_rfl)
theorem Zn:typeLookup (.type "Exception") "__getattr__"=pure none:=by rw[typeLookup_type,builtinLookup_eq_fast];kernel_rfl
theorem Ir:mroOf (.type "Exception")=pure tq:=by kernel_rfl
section
variable{prog:Program}{w:World}{A:Around}{E:Value→Shared→Prop}{h:Heap}{g:Array GenState}{d:Drawn}{t:Nat}{os:OsState}{a dx C fI:Addr}{o:Obj}{m:Str→Option Value}{v:Value}
theorem abg{M:Model}{vz:Value}{Q:Unit→Shared→Prop}(X:ExcAt h C fI)(hx:h.get? a=some o)(hc:o.cls=.ref C)(hq:Q () ⟨h,g,d,t,os⟩):wpAny M A (checkBuiltinCall "BaseException.__getattribute__" ⟨[.ref a,vz],[]⟩) Q E ⟨h,g,d,t,os⟩:=by
 obtain⟨x,n⟩:=X.ex
 have hC:=n.hC
 have hk:builtinKind "BaseException.__getattribute__"=some .slot:=by decide+kernel
 have adD:splitId "BaseException.__getattribute__"=some ("BaseException","__getattribute__"):=by decide+kernel
 have qC:=uj (C:=C) (P:=x.P) (bmB:=tq) (X:="BaseException") (b:=true) (by decide+kernel)
 have ha:=F.args_bexc_ga (.ref a) vz
 simp only[checkBuiltinCall,hk,adD]
 refine bC ?_
 ·unfold isInstance
  repeat(first|(with_reducible refine wpAny_loadPart_at hx ?_;rw[hc])|(with_reducible refine wpAny_isSubtype_exc hC ?_;rw[qC])|wp_step)
  exact hq
theorem aaG{tk:Tok}{Q:Fin→Shared→Prop}(X:ExcAt h C fI)(hx:h.get? a=some o)(hc:o.cls=.ref C)(hd:o.dict=some dx)(hf:∃vs,o.data=.fields vs)(hn:h.Ns dx m)(hv:m "spot"=some v)(hq:Q (.done (.ret v)) ⟨h,g,d,t,os⟩):
  wpAny (model prog w) A (Builtin.«object.__getattribute__» ⟨[.ref a,.str "spot" tk],[]⟩) Q E ⟨h,g,d,t,os⟩:=by
 refine zz fun GG KK=>?_
 obtain⟨x,n⟩:=X.ex
 have x1:=n.hC
 have⟨KY,KZ⟩:=n.no "spot" (.inr (.inr (.inl rfl)))
 obtain⟨vs,hf⟩:=hf
 obtain⟨ocl,odi,oda,Vy⟩:=o
 simp only at hc hd hf
 subst hc hd hf
 refine KK ?_
 unfold Builtin.«object.__getattribute__»
 repeat(any_goals(first|assumption|(with_reducible refine wpAny_loadPart_at hx ?_)|(with_reducible refine yU x1 n.hn n.hP n.lB Ir PY KY ?_;rw[KZ])|(with_reducible refine wpAny_nsGet hn ?_;rw[hv])|wp_step))
theorem abh{expr:Bool}{Q:Value→Shared→Prop}(X:ExcAt h C fI)(hx:h.get? a=some o)(hc:o.cls=.ref C)(hd:o.dict=some dx)(hf:∃vs,o.data=.fields vs)(hn:h.Ns dx m)(hv:m "spot"=some v)(hh:handedOut v=pure v)(hq:Q v ⟨h,g,d,t+1,os⟩):
  wpAny (model prog w) A (getAttr (.ref a) "spot" expr) Q E ⟨h,g,d,t,os⟩:=by
 obtain⟨x,n⟩:=id X.ex
 have x1:=n.hC
 have⟨z1,z2⟩:=n.no "__getattribute__" (.inr (.inr (.inr (.inl rfl))))
 have⟨z3,z4⟩:=n.no "__getattr__" (.inr (.inr (.inr (.inr rfl))))
 have f3:=IQ.bind (.ref a)
 have hx0:(expr&&onTheHeap (Value.builtin "BaseException.__getattribute__"))=false:=by cases expr<;>rfl
 have fC:(Value.builtin "BaseException.__getattribute__"==Value.builtin "object.__getattribute__")=false:=by decide+kernel
 have dB:(onTheHeap (Value.ref C)&&Value.builtin "BaseException.__getattribute__"==Value.builtin "object.__getattribute__")=false:=by rw[fC];rfl
 unfold getAttr getAttrBy
 repeat(any_goals(first|assumption|(with_reducible refine wpAny_loadPart_at hx ?_;rw[hc])|(with_reducible refine yU x1 n.hn n.hP n.lB Ir IQ.lookup z1 ?_;rw[z2])|(with_reducible refine yU x1 n.hn n.hP n.lB Ir Zn z3 ?_;rw[z4])|wp_step))
 refine codeAny_call_builtin IQ.plain F.entry_bexc_ga (abg X hx hc (aaG X hx hc hd hf hn hv ?_))
 repeat(any_goals(first|assumption|wp_step))
 try(rw[hh];exact bD hq)
end
structure K2(c:Cx)(D:Addr):Prop where
 cls:∃(cp:CP) (P:Addr) (ab:Bool) (newId:String),c.h0.get? D=some (cp.mk' D (.ref P::tq) true ab newId)
 ne:∃o cd,c.h0.get? c.cT=some o∧o.data=.cls cd∧cd.mro.contains (.ref D)=false
section
variable{M:Model}{A:Around}{E:Value→Shared→Prop}{h:Heap}{g:Array GenState}{d:Drawn}{t:Nat}{os:OsState}{e C D:Addr}{oe:Obj}
theorem Zo{cp:CP}{bm:List Value}{ab:Bool}{newId:String}
  {VD:CP} {K3:List Value} {VE:Bool} {RD:String} {Q:Bool→Shared→Prop}
  (hC:h.get? C=some (cp.mk' C bm true ab newId)) (hD:h.get? D=some (VD.mk' D K3 true VE RD))
  (he:h.get? e=some oe) (ta:oe.cls=.ref C) (Ba:K3.contains (.type "BaseException")=true) (jU:(Value.ref C::bm).contains (.ref D)=false)
  (hq:Q false ⟨h,g,d,t,os⟩):wpAny M A (excMatches (.ref e) (.ref D)) Q E ⟨h,g,d,t,os⟩:=by
 have qC:(Value.ref D::K3).contains (.type "BaseException")=true:=by rw[List.contains_cons,Ba,Bool.or_true]
 have f:=tc_notTuple
 unfold excMatches
 repeat(first|(with_reducible refine wpAny_loadPart_at he ?_;rw[ta])|with_reducible refine wpAny_loadPart_at hD ?_|(with_reducible refine wpAny_isSubtype_exc hD ?_;rw[qC])|(with_reducible refine wpAny_isSubtype_exc hC ?_;rw[jU])|wp_step)
 exact hq
end
theorem PZ(P:Addr):(Value.ref P::tq).contains (.type "BaseException")=true:=by rw[List.contains_cons];rfl
section
variable{c:Cx}{g:FC}{n:Nat}{A:Around}{env:Env}{f:Fr}{ρ:List Addr}{σ:List MO}{s:Shared}{gl:Str→Option J}{gz:Str→Bool}{fI:Addr}{fd:FuncData}{p:Nat→Pos}
theorem fW.mark{h:Heap}(he:fW c g A env f ρ h)(v:Option Value):fW c g (A.mark v) env f ρ h:=by
 refine zz fun GG KK=>?_
 obtain⟨a1,a2,a3,a4,a5,a6,⟨L,e0,outer,h1,h2,h3⟩,a8,a9⟩:=he
 obtain⟨fs,b1,b2⟩:=a8.ex
 refine KK ?_
 exact⟨a1,a2,a3,a4,a5,a6,⟨L,e0,outer,h1,h2,h3⟩,⟨fs,b1,b2⟩,a9⟩
theorem miss(X:mY c fI fd p)(Fa:Facts c gl gz){D e:Addr}(hD:K2 c D){x nn:Str}{np pos:Pos}{vZ:Stmt}{vE:List Stmt}{rest:List ExceptHandler}{k:Int}(hv:gl x=some (.dC D))(hk:g.scope.names.lookup x=some .globalImplicit)
  (hd:(x==("__debug__":Str))=false) (he:fW c g A env f ρ s.heap) (sr:SR c ρ σ s) (rv:cI c ρ s.heap (.exc k) (.ref e)) {Q:Flow→Shared→Prop} {E:Value→Shared→Prop} (h:wpAny (model c.prog c.w) A (handleBy (.ref e) env rest) Q E s):
  wpAny (model c.prog c.w) A (handleBy (.ref e) env (.ExceptHandler (some (.Name x np)) (some nn) (vZ::vE) pos::rest)) Q E s:=by
 refine wpAny_handleBy_cons (codeAny_handlers_test ?_) (by intro q;cases q)
 refine Fa.global sr (he.mark _) hv hk hd fun V rV=>?_
 have h1:=Er rv
 have hV:V=.ref D:=rV.inv
 refine zz fun GG KK=>?_
 obtain⟨VD,P',VE,RD,hD1⟩:=hD.cls
 obtain⟨o,cd,ho,B_,jU⟩:=hD.ne
 obtain⟨x,oN,oP,n,_⟩:=X.cls
 obtain⟨oe,g1,g2,_,_⟩:=h1
 obtain rfl:=aV (n.hC.symm.trans ho)
 obtain rfl:=Data.cls.inj B_
 exact KK (hV▸Zo (h:=s.heap) (g:=s.gens) (d:=s.drawn) (t:=s.toks) (os:=s.os) (sr.jr n.hC fun q=>nomatch q) (sr.jr hD1 fun q=>nomatch q) g1 g2 (PZ _) jU h)
theorem afa(j9:c.dE 0=[])(sr:SR c ρ σ s){i:Nat}{L:Addr}(hi:ρ[i]? =some L)(hf:σ[i]? =some (.fr 0 [])){h':Heap}{t:Nat}{m:Str→Option Value}(hn:h'.Ns L m)(hs:Heap.SameBut L s.heap h')(hc:∃o o',s.heap.get? L=some o∧h'.get? L=some o'∧o'.cls=o.cls):
  SR c ρ σ {s with heap:=h',toks:=t}∧Ext ρ s.heap ρ h':=by
 refine zz fun GG KK=>?_
 obtain⟨o,o',ho,qw,wL⟩:=hc
 obtain⟨a,ha,m0,ns0,_⟩:=sr.at hf
 rw[hi]at ha;cases ha
 have j7:∀fY,s.heap.get? L=some fY→o'.cls=fY.cls∧nf o'=nf fY:=fun fY q=>by
  rw[ho]at q;cases q
  exact⟨wL,(sJ hn qw).trans (sJ ns0 ho).symm⟩
 have:=sr.turn (t:=t) hi hs qw j7 (mo:=.fr 0 []) ⟨m,hn,by rw[j9];rfl,fun j y p q1 q2=>by simp at q2⟩
 have agJ:σ.set i (.fr 0 [])=σ:=by
  have gD:=(aZ hf).1
  have:=(aZ hf).2
  rw[←this,List.set_getElem_self]
 rw[agJ]at this
 refine KK ?_
 exact⟨this,Ext.turn (a0 hi) hs qw j7⟩
theorem MJ{M:Model}{E:Value→Shared→Prop}{name:Str}{m:Str→Option Value}{v:Value}{Q:Unit→Shared→Prop}(hk:env.scope.kind=.function)(hl:env.kindOf name=some .local)(hn:s.heap.Ns env.locals m)
 (h:∀h',h'.Ns env.locals (fun x=>if x=name then some v else m x)→Heap.SameBut env.locals s.heap h'→(∃o o',s.heap.get? env.locals=some o∧h'.get? env.locals=some o'∧o'.cls=o.cls)→
  Q () {s with heap:=h',toks:=s.toks+1}):wpAny M A (storeName env name v) Q E s:=HG hk hl hn h
theorem abi{h:Heap}{k:Int}{e:Addr}(r:cI c ρ h (.exc k) (.ref e)):∃oe dx m t,h.get? e=some oe∧oe.cls=.ref c.cT∧oe.dict=some dx∧(∃vs,oe.data=.fields vs)∧h.Ns dx m∧m "spot"=some (.int k t):=by
 cases(show Fq c ρ h k (.ref e)from r.inv)with
 |mk e1 c1 d1 f1 ed nd cd jb hs n1 n2 z1 z2=>exact⟨_,_,_,_,e1,c1,d1,⟨_,f1⟩,jb,hs⟩
noncomputable def JB(c:Cx)(env:Env)(ρ:List Addr)(σ:List MO)(k:Int)(e:Addr)(nn lit:Str)(b:List Stmt):Prop:=∀(A:Around) (s:Shared) (fm:Str→Option Value) (Q:Flow→Shared→Prop) (E:Value→Shared→Prop),SR c ρ σ s→cI c ρ s.heap (.exc k) (.ref e)→s.heap.Ns env.locals fm→fm nn=some (.ref e)→
 (∀V iO,Ext ρ s.heap ρ iO.heap→SR c ρ σ iO→cI c ρ iO.heap (.tup [.str lit,.int k]) V→iO.heap.Ns env.locals fm→Q (.ret V) iO)→wpAny (model c.prog c.w) A (execs b env) Q E s
theorem acJ(X:mY c fI fd p){e:Addr}{nn lit:Str}{p1 p2 p3 p4 p5:Pos}{u kk:Nat}{k:Int}(tu:env.scope.kind=.function)(hl:env.scope.names.lookup nn=some .local)(pN:(nn==("__debug__":Str))=false):
  JB c env ρ σ k e nn lit [.Return (some (.Tuple [.Constant (.str lit) u p1,.Attribute (.Name nn p2) "spot" p3] kk p4)) p5]:=by
 intro A s fm Q E sr rv hn hm hQ
 refine wpAny_execs_cons (wpAny_Return_some (wpAny_Tuple ?_))
 show wpAny _ _ (spliced ((false,eval _ env)::(false,eval _ env)::[])) _ _ _
 refine Calls.spliced_cons (wpAny_Constant_str (Calls.spliced_cons ?_))
 rw[arm_eval_Attribute,vd rfl]
 refine bC (t7 (s:={s with toks:=s.toks+1}) tu hl pN hn hm (bC (wpAny_standAt (bC (wpAny_holding ?_)))))
 refine zz fun GG KK=>?_
 obtain⟨oe2,dx,m2,t2,q1,q2,q3,q4,q8,q9⟩:=abi rv
 refine KK ?_
 generalize s.toks=tk
 refine abh (t:=tk+1) (g:=s.gens) (d:=s.drawn) (os:=s.os) (X.now sr) q1 q2 q3 q4 q8 q9 rfl (bC (wpAny_letTemporaryGo (bD (Calls.spliced_nil ⟨by rw[sizeLine_eq];simp,?_⟩))))
 have q:=(sr.toks (tk+1+1)).vp (l:=[.str lit,.int k]) (L:=[.str lit tk,.int k t2]) (.cons (.str lit _) (.cons (.int k t2) .nil)) (t:=tk+1+1)
 exact hQ _ _ (Ext.push _) q.1 q.2 (hn.keeps fun Z Z q=>aX _ q)
theorem abj(j9:c.dE 0=[]){e:Addr}{nn lit:Str}{pos:Pos}{vZ:Stmt}{vE:List Stmt}{k:Int}(hb:JB c env ρ σ k e nn lit (vZ::vE))(tu:env.scope.kind=.function)
  (Gj:env.kindOf nn=some .local) (he:fW c g A env f ρ s.heap) (ju:σ[f.fr]? =some (.fr 0 [])) (sr:SR c ρ σ s) (fl:mX c ρ s.heap k (.ref e)) {Q:Flow→Shared→Prop} {E:Value→Shared→Prop}
  (hQ:∀V iO ja Bu,Ext ρ s.heap ρ iO.heap→SR c ρ σ iO→cI c ρ iO.heap (.tup [.str lit,.int k]) V→Heap.SameBut env.locals iO.heap ja→Q (.ret V) {iO with heap:=ja,toks:=Bu}):
  codeAny (model c.prog c.w) (A.mark (some (.ref e))) (.handlers (.ref e) [.ExceptHandler none (some nn) (vZ::vE) pos] env) (fun r fu=>match r with
   |.ok f=>wpAny (model c.prog c.w) A (do bindName env nn .none;unbindBehindTheSuite env nn pos) (fun Z kL=>Q f kL) E fu
   |.error x=>cameBackBy (model c.prog c.w) A env E x fu) s:=by
 refine codeAny_handlers_suite_as (As (fr:=none) sr fl fun h1 e1 cY wy=>?_)
 refine zz fun GG KK=>?_
 obtain⟨a,ha,m,ns,_⟩:=cY.at ju
 obtain rfl:=aV (ha.symm.trans he.loc)
 refine KK (MJ tu Gj ns fun h2 Gk K4 uF=>?_)
 obtain⟨fh,e2⟩:=afa j9 (t:=s.toks+1) cY ha ju Gk K4 uF
 exact hb _ _ _ _ _ fh (wy.1.mono e2) Gk (if_pos rfl) fun V iO e4 lz rv4 hn4=>wpAny_nameGoes Gj hn4 (by rw[tu];rfl) fun h5 m5 hn5 hs5=>hQ _ _ h5 _ ((e1.trans e2).trans e4) lz rv4 hs5
theorem adE(X:mY c fI fd p)(Fa:Facts c gl gz)(j9:c.dE 0=[]){e:Addr}{x nn lit:Str}{np pos:Pos}{vZ:Stmt}{vE:List Stmt}{rest:List ExceptHandler}{k:Int}(hb:JB c env ρ σ k e nn lit (vZ::vE))(hv:gl x=some (.dC c.cT))(hk:g.scope.names.lookup x=some .globalImplicit)
  (hd:(x==("__debug__":Str))=false) (tu:env.scope.kind=.function) (Gj:env.kindOf nn=some .local) (he:fW c g A env f ρ s.heap) (ju:σ[f.fr]? =some (.fr 0 [])) (sr:SR c ρ σ s) (fl:mX c ρ s.heap k (.ref e)) {Q:Flow→Shared→Prop} {E:Value→Shared→Prop}
  (hQ:∀V iO ja Bu,Ext ρ s.heap ρ iO.heap→SR c ρ σ iO→cI c ρ iO.heap (.tup [.str lit,.int k]) V→Heap.SameBut env.locals iO.heap ja→Q (.ret V) {iO with heap:=ja,toks:=Bu}):
  wpAny (model c.prog c.w) A (handleBy (.ref e) env (.ExceptHandler (some (.Name x np)) (some nn) (vZ::vE) pos::rest)) Q E s:=by
 refine wpAny_handleBy_cons (codeAny_handlers_test ?_) (by intro q;cases q)
 refine Fa.global sr (he.mark _) hv hk hd fun V rV=>?_
 have hs:=abj (pos:=pos) (E:=E) j9 hb tu Gj he ju sr fl hQ
 have h1:=Er fl.1
 have hV:V=.ref c.cT:=rV.inv
 refine zz fun GG KK=>?_
 obtain⟨oe,g1,g2,_,_⟩:=h1
 obtain⟨x,oN,oP,n,_⟩:=X.cls
 exact KK (hV▸wpAny_excMatches_sub_self (h:=s.heap) (g:=s.gens) (d:=s.drawn) (t:=s.toks) (os:=s.os) (sr.jr n.hC fun q=>nomatch q) g1 g2 (PZ _) hs)
theorem hit(X:mY c fI fd p)(Fa:Facts c gl gz)(j9:c.dE 0=[]){e:Addr}{x nn lit:Str}{np pos p1 p2 p3 p4 p5:Pos}{u kk:Nat}{rest:List ExceptHandler}{k:Int}(hv:gl x=some (.dC c.cT))(hk:g.scope.names.lookup x=some .globalImplicit)
  (hd:(x==("__debug__":Str))=false) (hl:g.scope.names.lookup nn=some .local) (pN:(nn==("__debug__":Str))=false) (he:fW c g A env f ρ s.heap) (ju:σ[f.fr]? =some (.fr 0 [])) (sr:SR c ρ σ s) (fl:mX c ρ s.heap k (.ref e)) {Q:Flow→Shared→Prop} {E:Value→Shared→Prop}
  (hQ:∀V iO ja Bu,Ext ρ s.heap ρ iO.heap→SR c ρ σ iO→cI c ρ iO.heap (.tup [.str lit,.int k]) V→Heap.SameBut env.locals iO.heap ja→Q (.ret V) {iO with heap:=ja,toks:=Bu}):
  wpAny (model c.prog c.w) A (handleBy (.ref e) env (.ExceptHandler (some (.Name x np)) (some nn) [.Return (some (.Tuple [.Constant (.str lit) u p1,.Attribute (.Name nn p2) "spot" p3] kk p4)) p5] pos::rest)) Q E s:=by
 have tu:env.scope.kind=.function:=he.scope.symm▸he.kind
 exact adE X Fa j9 (acJ X tu (he.scope.symm▸hl) pN) hv hk hd tu (show env.scope.names.lookup nn=_ from he.scope.symm▸hl) he ju sr fl hQ
end
theorem Zp{pos:Pos}(r:List Value)(l:List Value)(h:TriplesOk l):codeAmong pos (l++r)=match codeAmong pos l with|some c=>some c|none=>codeAmong pos r:=by
 fun_induction TriplesOk l with
 |case1=>simp[codeAmong]
 |case2 a t b u x rest ih=>
  simp only[List.cons_append,codeAmong]
  split
  ·rfl
  ·exact ih h
 |case3 l h1 h2=>exact h.elim
structure Bv(c:Cx):Prop where
 ex:∃o mg bm ob,c.h0.get? mainGlobals=some o∧o.cls≠.none∧c.h0.Ns mainGlobals mg∧mg "__builtins__"=some (.ref bm)∧bm≠builtinsNs∧bm≠mainGlobals∧c.h0.get? bm=some ob∧ob.cls=.type "module"∧ob.dict=some builtinsNs∧ob.data=.plain
section
variable{M:Model}{A:Around}{E:Value→Shared→Prop}{s:Shared}{name qual:Str}{params:Arguments}{body:Expr}{scope:Scope}{env:Env}{c P:Addr}{ps:Array Value}{pos:Pos}{firstLine:Nat}{mg:Str→Option Value}
 {JC:List (Str×Addr)} {Q:Value→Shared→Prop}
theorem abK(BX:closureFor scope env=pure JC)(agK:env.globals=mainGlobals)(hg:s.heap.Ns mainGlobals mg)(hcode:env.code=.ref c)(C:CodeHd s.heap c P)(hP:s.heap.get? P=some (tabObj ps))(ht:TriplesOk ps.toList)
  (j7:codeAmong pos ps.toList=none) (Gl:mainGlobals≠P) (hb:s.heap.BuiltinsAt mg P)
  (h:∀(c':Addr) (lD:Value) (h':Heap) (tk:Nat),Heap.ExtBut P s.heap h'→s.heap.objs.size≤c'→s.heap.objs.size≤h'.objs.size→kK h' c' qual→h'.get? P=some (tabObj (ps++#[rawInt pos.line,rawInt pos.col,.ref c']))→
   Q (.ref h'.objs.size) {s with heap:=h'.push (kla_obj name qual params body scope JC ((mg "__name__").getD .none) c' lD),toks:=tk}):
  wpAny M A (makeTail name qual params (.expr body) scope env .none .none none pos firstLine) Q E s:=by
 refine zz fun GG KK=>?_
 obtain⟨bm,ob,zM,To,_,Tp,VF,ta,Sd,Se⟩:=hb
 have key:∀{h':Heap} {c':Addr} {P':Addr},h'.CodeRec (.ref c') qual→h'.TableAt c' P' #[]→kK h' c' qual:=by
  intro h' c' P' x y
  obtain⟨c2,o2,v2,t2,e2,g2,d2,q2⟩:=x
  cases e2
  obtain⟨⟨o3,v3,e3,l3,d3,_⟩,_⟩:=y
  rw[g2]at e3;cases e3
  rw[d2]at d3;cases d3
  exact .mk g2 l3 d2 q2
 refine KK ?_
 unfold makeTail
 rw[BX,agK]
 refine bC (bD ?_)
 cases JC with
 |nil=>
  simp only[List.isEmpty_nil,if_true]
  refine bC (bD ?_)
  refine bC (wpAny_functionCodeX hcode (C.code hP ht) (C.tab hP) j7 fun c' h' tk hx om gD Z v5 K5 wL=>?_)
  have oS:=hg.extBut hx Gl
  obtain⟨P',_,_,tP⟩:=wL
  refine bC (wpAny_builtinsFor oS zM To (hx _ _ Tp VF) ta Sd Se ?_)
  refine bC (wpAny_nsGet oS ?_)
  exact bC (bD (wpAny_newObj_type (h c' .none h' tk hx om (Nat.le_trans om (Nat.le_of_lt gD)) (key v5 tP) K5.2) (by size_fits)))
 |cons q r=>
  simp only[List.isEmpty_cons,Bool.false_eq_true,if_false]
  refine bC (wpAny_newTextTuple ?_)
  refine bC (wpAny_functionCodeX hcode ((C.keeps fun b o e=>aX _ e).code (aX _ hP) ht) ((C.keeps fun b o e=>aX _ e).tab (aX _ hP)) j7 fun c' h' tk hx om gD Z v5 K5 wL=>?_)
  have oS:=(hg.push _).extBut hx Gl
  obtain⟨P',_,_,tP⟩:=wL
  have mG:Heap.ExtBut P s.heap h':=fun b o wi e=>hx b o wi (aX _ e)
  have Tq:s.heap.objs.size≤c':=Nat.le_trans (by rw[Heap.size_push];omega) om
  refine bC (wpAny_builtinsFor oS zM To (mG _ _ Tp VF) ta Sd Se ?_)
  refine bC (wpAny_nsGet oS ?_)
  exact bC (bD (wpAny_newObj_type (h c' _ h' tk mG Tq (Nat.le_trans Tq (Nat.le_of_lt gD)) (key v5 tP) K5.2) (by size_fits)))
end
def tT{α:Type}(σ:List MO)(i:Nat)(k:Addr→List (Nat×Nat)→Option α):Option α:=ej (d7 σ i) fun m=>@MO.casesOn (fun Z=>Option α) m (fun Z=>none) (fun Z=>none) (fun Z Z=>none) (fun Z=>none) (fun Z Z=>none) (fun Z=>none) k none none none (fun Z=>none) none
theorem acK{α:Type}{σ:List MO}{i:Nat}{k:Addr→List (Nat×Nat)→Option α}{r:α}(h:tT σ i k=some r):∃cc l,σ[i]? =some (.tab cc l)∧k cc l=some r:=
 let⟨m,e,h⟩:=eP h
 (@MO.casesOn (fun m=>σ[i]? =some m→@MO.casesOn (fun Z=>Option α) m (fun Z=>none) (fun Z=>none) (fun Z Z=>none) (fun Z=>none) (fun Z Z=>none) (fun Z=>none) k none none none (fun Z=>none) none=some r→∃cc l,σ[i]? =some (.tab cc l)∧k cc l=some r) m
  (fun Z Z h=>cw h) (fun Z Z h=>cw h) (fun Z Z Z h=>cw h) (fun Z Z h=>cw h) (fun Z Z Z h=>cw h) (fun Z Z h=>cw h) (fun cc l e h=>⟨cc,l,e,h⟩) (fun Z h=>cw h) (fun Z h=>cw h) (fun Z h=>cw h) (fun Z Z h=>cw h) (fun Z h=>cw h)) ((il σ i).symm.trans e) h
def JD(it cc line col:Nat)(σ:List MO):Option (List MO):=tT σ it fun mJ l=>gd (Nat.beq mJ cc) (some (@Bool.rec (fun Z=>List MO) (put σ it (.tab cc ((line,col)::l))) σ (n6 l line col)))
theorem abk{it cc line col:Nat}{σ cG:List MO}(h:JD it cc line col σ=some cG):∃l,σ[it]? =some (.tab cc l)∧cG=@Bool.rec (fun Z=>List MO) (put σ it (.tab cc ((line,col)::l))) σ (n6 l line col):=
 let⟨_,l,e,h⟩:=acK h
 let⟨hb,h⟩:=gK h
 ⟨l,aY hb▸e,(aV h).symm⟩
noncomputable def vi:Arguments:={posonlyargs:=[],args:=[],vararg:=none,kwonlyargs:=[],kw_defaults:=[],kwarg:=none,defaults:=[]}
def v7(env:Env)(body:Expr)(sc:Scope)(pm:Value)(c':Addr)(lD:Value):Obj:=kla_obj "<lambda>" (env.qual++"<lambda>") vi body sc (mD env sc.names []) pm c' lD
theorem Zq(pos:Pos)(line col:Nat)(v:Value):codeAmong pos [rawInt line,rawInt col,v]=@Bool.rec (fun Z=>Option Value) none (some v) (Nat.beq line pos.line&&Nat.beq col pos.col):=by
 show(if((line:Int)==pos.line&&(col:Int)==pos.col)then some v else none)=_
 rw[show((line:Int)==pos.line&&(col:Int)==pos.col)=(Nat.beq line pos.line&&Nat.beq col pos.col) by rw[BT.beq_eq,BT.beq_eq,Bool.eq_iff_iff];simp only[Bool.and_eq_true,beq_iff_eq,decide_eq_true_eq,Int.natCast_inj]]
 cases(Nat.beq line pos.line&&Nat.beq col pos.col)<;>rfl
theorem abL{c:Cx}{ρ:List Addr}{h:Heap}{cc P c':Addr}{ps:Array Value}{l:List (Nat×Nat)}{line col:Nat}(hd:CodeHd c.h0 cc P)(e:h.get? P=some (tabObj (ps++#[rawInt line,rawInt col,.ref c'])))(tr:TriplesOk ps.toList)
  (hp:∀pos:Pos,(n6 l pos.line pos.col=false→codeAmong pos ps.toList=none)∧(n6 l pos.line pos.col=true→sN c ρ h cc (codeAmong pos ps.toList))) (hc:kK h c' (c.lT cc)) (ho:dY c ρ c'):eQ c ρ h P (.tab cc ((line,col)::l)):=by
 refine⟨hd,_,e,by have:=TriplesOk_snoc line col (.ref c') _ tr;simpa using this,fun pos=>?_⟩
 have ea:codeAmong pos (ps++#[rawInt line,rawInt col,.ref c']).toList=match codeAmong pos ps.toList with|some x=>some x|none=>codeAmong pos [rawInt line,rawInt col,.ref c']:=by
  rw[←Zp _ _ tr];simp
 have et:n6 ((line,col)::l) pos.line pos.col=@Bool.rec (fun Z=>Bool) (n6 l pos.line pos.col) true (Nat.beq line pos.line&&Nat.beq col pos.col):=rfl
 rw[ea,et,Zq]
 obtain⟨h1,h2⟩:=hp pos
 cases hq:n6 l pos.line pos.col with
 |true=>
  have x:=h2 hq
  generalize codeAmong pos ps.toList=y at x
  cases x with
  |mk x1 x2=>cases(Nat.beq line pos.line&&Nat.beq col pos.col)<;>exact⟨fun z=>cF z.symm,fun Z=>.mk x1 x2⟩
 |false=>
  rw[h1 hq]
  cases(Nat.beq line pos.line&&Nat.beq col pos.col)
  ·exact⟨fun Z=>rfl,fun z=>cF z⟩
  ·exact⟨fun z=>cF z.symm,fun Z=>.mk hc ho⟩
section
variable{c:Cx}{g:FC}{n:Nat}{A:Around}{env:Env}{f:Fr}{ρ:List Addr}{σ cG:List MO}{s:Shared}
structure I4(c:Cx)(ρ:List Addr)(s:Shared)(cc it:Nat)(l:List (Nat×Nat))(P:Addr)(ps:Array Value)(mg:Str→Option Value):Prop where
 hP:ρ[it]? =some P
 hd0:CodeHd c.h0 cc P
 hd:CodeHd s.heap cc P
 zN:s.heap.get? P=some (tabObj ps)
 tr:TriplesOk ps.toList
 pos:∀pos:Pos,(n6 l pos.line pos.col=false→codeAmong pos ps.toList=none)∧(n6 l pos.line pos.col=true→sN c ρ s.heap cc (codeAmong pos ps.toList))
 hg:s.heap.Ns mainGlobals mg
 Gl:mainGlobals≠P
 hB:s.heap.BuiltinsAt mg P
theorem adF(sr:SR c ρ σ s){cc P:Addr}(hd:CodeHd c.h0 cc P):CodeHd s.heap cc P:=by
 obtain⟨o,vs,file,tf,flags,tg,inF,text,tt,e1,e2,r⟩:=hd
 exact⟨o,vs,file,tf,flags,tg,inF,text,tt,sr.jr e1 (by rw[e2];exact fun q=>nomatch q),e2,r⟩
theorem adG(L:Bv c)(sr:SR c ρ σ s){it cc:Nat}{l:List (Nat×Nat)}(hl:σ[it]? =some (.tab cc l)):∃P ps mg,I4 c ρ s cc it l P ps mg:=by
 obtain⟨P,hP,hd,ps,zN,tr,agL⟩:=sr.at hl
 have VG:=sr.fresh P (a0 hP)
 obtain⟨og,mg,bm,ob,wO,JA,jb,zM,b1,b2,qD,VH,ob2,ob3⟩:=L.ex
 exact⟨P,ps,mg,hP,hd,adF sr hd,zN,tr,agL,qY jb fun o e=>aV (wO.symm.trans e)▸sr.jr wO JA,(fun z=>by rw[z,VG]at wO;cases wO),
  bm,ob,zM,b1,b2,(fun z=>by rw[z,VG]at qD;cases qD),sr.jr qD (by rw[VH];exact fun q=>nomatch q),VH,ob2,ob3⟩
abbrev JE(c:Cx)(env:Env)(body:Expr)(sc:Scope)(ρ:List Addr)(cG:List MO)(s:Shared)(Q:Value→Shared→Prop):Prop:=
 ∀(h':Heap) (tk:Nat) (a c':Addr) (pm lD:Value),Ext ρ s.heap ρ h'→SR c ρ cG {s with heap:=h',toks:=tk}→s.heap.get? a=none→h'.get? a=some (v7 env body sc pm c' lD)→kK h' c' (env.qual++"<lambda>")→dY c ρ c'→Q (.ref a) {s with heap:=h',toks:=tk}
theorem kK.cast{h:Heap}{c':Addr}{q q':Str}(e:q=q')(x:kK h c' q):kK h c' q':=e▸x
theorem OH{h h':Heap}(k:h.objs.size≤h'.objs.size):h.get? h'.objs.size=none:=Heap.get?_none_of_le k
theorem kK.keeps{h h':Heap}{c':Addr}{q:Str}(r:kK h c' q)(k:∀b o,h.get? b=some o→h'.get? b=some o):kK h' c' q:=@kK.casesOn h c' q (fun Z=>kK h' c' q) r fun a b c d=>.mk (k _ _ a) b c d
variable{sc:Scope}{cn':List Str}{fJ cs:List Nat}{body:Expr}{pos:Pos}{it cc:Nat}{l:List (Nat×Nat)}{P:Addr}{ps:Array Value}{mg:Str→Option Value}{Q:Value→Shared→Prop}{E:Value→Shared→Prop}
theorem acL(T:I4 c ρ s cc it l P ps mg)(he:fW c g A env f ρ s.heap)(sr:SR c ρ σ s)(k6:env.code=.ref cc)(za:env.qual++"<lambda>"=c.lT cc)(hc:oR sc g.cn cn' fJ)(hp:pick fJ f.cs=some cs)(Cc:n6 l pos.line pos.col=true)(hQ:JE c env body sc ρ σ s Q):
  wpAny (model c.prog c.w) A (makeFunction "<lambda>" (env.qual++"<lambda>") vi (.expr body) sc env [] [] [] pos pos.line) Q E s:=by
 have x:=(T.pos pos).2 Cc
 generalize hy:codeAmong pos ps.toList=y at x
 cases x with
 |@mk c' x1 x2=>
  refine kla_makeFunctionHit (he.closure hc hp) he.glob T.hg k6 T.hd T.zN T.tr hy T.hB fun lD h' tk kp j6=>?_
  have oU:∀b o,s.heap.get? b=some o→(h'.push (v7 env body sc ((mg "__name__").getD .none) c' lD)).get? b=some o:=fun b o e=>aX _ (kp b o e)
  exact hQ _ tk h'.objs.size c' _ lD (Ext.keeps oU) (sr.keeps oU) (OH j6) (bf _ rfl) ((x1.keeps oU).cast za.symm) x2
theorem acM(T:I4 c ρ s cc it l P ps mg)(he:fW c g A env f ρ s.heap)(sr:SR c ρ σ s)(k6:env.code=.ref cc)(za:env.qual++"<lambda>"=c.lT cc)(hc:oR sc g.cn cn' fJ)(hp:pick fJ f.cs=some cs)(rJ:n6 l pos.line pos.col=false)(hQ:JE c env body sc ρ (σ.set it (.tab cc ((pos.line,pos.col)::l))) s Q):
  wpAny (model c.prog c.w) A (makeFunction "<lambda>" (env.qual++"<lambda>") vi (.expr body) sc env [] [] [] pos pos.line) Q E s:=by
 rw[makeFunction_eq]
 simp only[vi,List.zip_nil_right,List.filterMap_nil,List.isEmpty_nil,if_true,pure_bind]
 refine abK (he.closure hc hp) he.glob T.hg k6 T.hd T.zN T.tr ((T.pos pos).1 rJ) T.Gl T.hB fun c' lD h' tk hx om j6 v5 agM=>?_
 have zk:=lM sr (Heap.get?_none_of_le om)
 have K6:=OH j6
 generalize hO:kla_obj "<lambda>" (env.qual++"<lambda>") _ body sc (mD env sc.names []) ((mg "__name__").getD .none) c' lD=O
 have oU:∀b o,b≠P→s.heap.get? b=some o→(h'.push O).get? b=some o:=fun b o hb e=>aX _ (hx b o hb e)
 have I6:=aX O agM
 have VI:kK (h'.push O) c' (env.qual++"<lambda>"):=v5.keeps fun b o e=>aX _ e
 have Ts:∀o,s.heap.get? P=some o→(tabObj (ps++#[rawInt pos.line,rawInt pos.col,.ref c'])).cls=o.cls∧nf (tabObj (ps++#[rawInt pos.line,rawInt pos.col,.ref c']))=nf o:=fun o q=>by
  rw[T.zN]at q;cases q;exact⟨rfl,rfl⟩
 have ext:=Ext.uc (a0 T.hP) oU I6 Ts
 refine hQ _ tk h'.objs.size c' ((mg "__name__").getD .none) lD ext (sr.uc (t:=tk) T.hP oU I6 Ts (abL T.hd0 I6 T.tr (fun pos=>⟨(T.pos pos).1,fun z=>?_⟩) (VI.cast za) zk)) K6 (by rw[Heap.get?_push_size _ (by rw[←hO];rfl),←hO];rfl) VI zk
 have x:=(T.pos pos).2 z
 generalize codeAmong pos ps.toList=y at x
 cases x with
 |mk x1 x2=>cases x1 with
  |mk a2 a3 a4 a5=>exact .mk (.mk (oU _ _ (fun z=>by rw[z,T.zN]at a2;cases a2;cases a3) a2) a3 a4 a5) x2
theorem adH(L:Bv c)(he:fW c g A env f ρ s.heap)(sr:SR c ρ σ s)(hcode:g.code=some cc)(gD:JD it cc pos.line pos.col σ=some cG)(hc:oR sc g.cn cn' fJ)(hp:pick fJ f.cs=some cs)(hQ:JE c env body sc ρ cG s Q):
  wpAny (model c.prog c.w) A (eval (.Lambda vi body sc pos) env) Q E s:=by
 obtain⟨k6,za⟩:=he.code cc hcode
 obtain⟨l,hl,hs⟩:=abk gD
 obtain⟨P,ps,mg,T⟩:=adG L sr hl
 rw[arm_eval_Lambda]
 show wpAny _ A (evalAll []>>=_) _ _ _
 refine bC (bD (bC (wpAny_holding (bD ?_))))
 cases hb:n6 l pos.line pos.col with
 |true=>exact acL T he sr k6 za hc hp hb ((hs.trans (by rw[hb]):cG=σ)▸hQ)
 |false=>exact acM T he sr k6 za hc hp hb ((hs.trans (by rw[hb,←lO]):cG=σ.set it (.tab cc ((pos.line,pos.col)::l)))▸hQ)
end
noncomputable def E5(m:MO):Bool:=@MO.casesOn (fun Z=>Bool) m (fun Z=>false) (fun Z=>false) (fun Z Z=>false) (fun Z=>false) (fun k l=>@List.casesOn (Option J) (fun Z=>Bool) l (Nat.beq k 0) fun Z Z=>false) (fun Z=>false) (fun Z Z=>false) false false false (fun Z=>false) false
theorem abM{m:MO}:E5 m=true→m=.fr 0 []:=@MO.casesOn (fun m=>E5 m=true→m=.fr 0 []) m (fun Z h=>cF h) (fun Z h=>cF h) (fun Z Z h=>cF h) (fun Z h=>cF h) (fun k l=>@List.casesOn (Option J) (fun l=>E5 (.fr k l)=true→MO.fr k l=.fr 0 []) l (fun h=>aY h▸rfl) fun Z Z h=>cF h) (fun Z h=>cF h) (fun Z Z h=>cF h) (fun h=>cF h) (fun h=>cF h) (fun h=>cF h) (fun Z h=>cF h) (fun h=>cF h)
def Be(x:Option MO):Bool:=@Option.casesOn MO (fun Z=>Bool) x false E5
theorem aaH{x:Option MO}:Be x=true→x=some (.fr 0 []):=@Option.casesOn MO (fun x=>Be x=true→x=some (.fr 0 [])) x (fun h=>cF h) (fun Z h=>congrArg some (abM h))
def I7(m:Nat)(s:Str)(σ:List MO)(x:Res J):Out J:=@Res.casesOn J (fun Z=>Out J) x (fun v=>ej (fz m σ v) fun v=>some (.ok v,gn m σ)) (fun k=>gd (Be (d7 σ m)) (some (.ok (.tup [.str s,.int k]),gn m σ)))
def v8(m:Nat)(s:Str)(r:Out J):Out J:=ej r fun y=>gd (iJ m y.2) (I7 m s y.2 y.1)
def vv(it cc line col:Nat)(s:Str)(fJ:List Nat)(x:X)(f:Fr)(σ:List MO):Out J:=ej (pick fJ f.cs) fun cs=>ej (JD it cc line col σ) fun σ₁=>v8 (len σ₁) s (x ⟨len σ₁+1,cs⟩ (app (app σ₁ [.fr 0 []]) [.fr 0 []]))
section
variable{c:Cx}{g:FC}{n:Nat}{A:Around}{env h_:Env}{f:Fr}{ρ:List Addr}{σ cG:List MO}{s:Shared}{h:Heap}
theorem fW.deeper(ju:Frs c A h)(m9:h_.scope=g.scope)(hk:g.scope.kind=.function)(hi:ρ[f.fr]? =some h_.locals)(K7:h_.frame=some h_.locals)(hg:h_.globals=mainGlobals)(hb:h_.builtins=builtinsNs)
  (qq:∀(j:Nat) (x:Str) (i:Nat),g.cn[j]? =some x→f.cs[j]? =some i→∃a,h_.cells.lookup x=some a∧ρ[i]? =some a) (hcode:g.code=none)
  (qD:∃o,h.get? h_.locals=some o∧o.cls=.type "frame"∧nf o=true) (qz:c.h0.get? h_.locals=Option.none):fW c g (A.deeper h_) h_ f ρ h:=by
 obtain⟨fs,BS,px⟩:=ju.ex
 refine⟨m9,hk,hi,hg,hb,qq,⟨h_.locals,h_,fs,K7,by show A.frames.map _=_;rw[BS];rfl,K7⟩,⟨h_::fs,by show A.frames.map _=_;rw[BS];rfl,fun v hv=>?_⟩,fun cc h=>by rw[hcode]at h;cases h⟩
 refine zz fun GG KK=>?_
 rcases List.mem_cons.mp hv with rfl|hv
 ·obtain⟨o,q1,q2,q3⟩:=qD
  refine KK ?_
  exact⟨by rw[m9,hk];decide,v.locals,o,K7,qz,q1,q2,q3⟩
 ·refine KK ?_
  exact px v hv
theorem SR.adI(j9:c.dE 0=[])(sr:SR c ρ σ s){h':Heap}{t:Nat}{m:Str→Option Value}(jb:h'.Ns s.heap.objs.size m)(ti:Heap.SameBut s.heap.objs.size (s.heap.push {cls:=.type "frame",data:=.dict #[]}) h')(hc:∃o,h'.get? s.heap.objs.size=some o∧o.cls=.type "frame"):
  SR c (ρ++[s.heap.objs.size]) (σ++[.fr 0 []]) {s with heap:=h',toks:=t}∧Ext ρ s.heap (ρ++[s.heap.objs.size]) h'∧∃o,h'.get? s.heap.objs.size=some o∧o.cls=.type "frame"∧nf o=true:=by
 have kp:∀b o,s.heap.get? b=some o→h'.get? b=some o:=fun b o e=>(ti.2 b (bx (Heap.lt_size e))).trans (aX _ e)
 obtain⟨o,e1,e2⟩:=hc
 exact⟨sr.rk kp (kS _) sr.t5 ⟨m,jb,by rw[j9];rfl,fun j y p q1 q2=>by simp at q2⟩,Ext.rk kp (kS _),o,e1,e2,sJ jb e1⟩
theorem acN{M:Model}{E:Value→Shared→Prop}{scope:Scope}{globals:Addr}{closure:List (Str×Addr)}{qual:Str}{func:Option Addr}{code:Value}{builtins:Addr}{Q:Env→Shared→Prop}(hc:∀x∈scope.names,x.2≠.cell)
  (hQ:∀h',h'.Ns s.heap.objs.size (fun Z=>none)→Heap.SameBut s.heap.objs.size (s.heap.push {cls:=.type "frame",data:=.dict #[]}) h'→(∃o,h'.get? s.heap.objs.size=some o∧o.cls=.type "frame")→
   Q (newEnv scope s.heap.objs.size globals closure qual func code none builtins) {s with heap:=h'}):wpAny M A (newFunctionEnv scope globals closure [] qual func code none builtins) Q E s:=by
 simp only[newFunctionEnv,Option.isSome_none,Bool.false_eq_true,if_false]
 simp only[newEnv]at hQ
 refine bC (wpAny_alloc ?_)
 rw[forIn_yield_id closure (fun x hx c=>by
  obtain⟨name,kind⟩:=x
  have:(kind==NameKind.cell)=false:=by simpa using hc _ hx
  simp only[this,Bool.false_eq_true,if_false])]
 refine bC (bD (bC ?_))
 rw[List.forIn_nil]
 exact bD (bD (hQ _ (Heap.Ns.new ..) (Heap.SameBut.refl ..) ⟨_,bf _ rfl,rfl⟩))
theorem acO{M:Model}{E:Value→Shared→Prop}{scope:Scope}{globals:Addr}{closure:List (Str×Addr)}{x:Str}{v:Value}{qual:Str}{func:Option Addr}{code:Value}{builtins:Addr}{Q:Env→Shared→Prop}(hc:∀x∈scope.names,x.2≠.cell)(hl:scope.names.lookup x=some .local)(hk:scope.kind=.function)
  (hQ:∀h',h'.Ns s.heap.objs.size (fun y=>if y=x then some v else none)→Heap.SameBut s.heap.objs.size (s.heap.push {cls:=.type "frame",data:=.dict #[]}) h'→(∃o,h'.get? s.heap.objs.size=some o∧o.cls=.type "frame")→
   Q (newEnv scope s.heap.objs.size globals closure qual func code none builtins) {s with heap:=h',toks:=s.toks+1}):wpAny M A (newFunctionEnv scope globals closure [(x,v)] qual func code none builtins) Q E s:=by
 simp only[newFunctionEnv,Option.isSome_none,Bool.false_eq_true,if_false]
 simp only[newEnv]at hQ
 refine bC (wpAny_alloc ?_)
 rw[forIn_yield_id closure (fun x hx c=>by
  obtain⟨name,kind⟩:=x
  have:(kind==NameKind.cell)=false:=by simpa using hc _ hx
  simp only[this,Bool.false_eq_true,if_false])]
 refine bC (bD (bC ?_))
 rw[List.forIn_cons]
 refine bC (bC (MJ (env:={scope,locals:=s.heap.objs.size,globals,cells:=closure,qual,func,code,frame:=some s.heap.objs.size,builtins}) hk hl (Heap.Ns.new s.heap (.type "frame")) fun h' m8 iD wq=>bD (bD (bD ?_))))
 refine zz fun GG KK=>?_
 obtain⟨o,o',q1,q2,q3⟩:=wq
 dsimp only at q1 q2
 have q4:o.cls=.type "frame":=by
  have:=(bf s.heap (o:={cls:=.type "frame",data:=.dict #[]}) rfl).symm.trans q1
  cases this;rfl
 refine KK ?_
 exact hQ h' m8 iD ⟨o',q2,q3.trans q4⟩
structure qE(c:Cx)(ρ:List Addr)(σ:List MO)(s:Shared)(h':Heap)(t:Nat)(sc:Scope)(cl:List (Str×Addr))(m:Str→Option Value)(e:Env):Prop where
 scope:e.scope=sc
 frame:e.frame=some e.locals
 glob:e.globals=mainGlobals
 blt:e.builtins=builtinsNs
 cells:e.cells=cl
 sr:SR c (ρ++[e.locals]) (σ++[.fr 0 []]) {s with heap:=h',toks:=t}
 ext:Ext ρ s.heap (ρ++[e.locals]) h'
 ob:∃o,h'.get? e.locals=some o∧o.cls=.type "frame"∧nf o=true
 new:s.heap.get? e.locals=none
 ns:h'.Ns e.locals m
theorem qE.of(j9:c.dE 0=[])(sr:SR c ρ σ s){h':Heap}{t:Nat}{m:Str→Option Value}{sc:Scope}{cl:List (Str×Addr)}{gl bl:Addr}{qual:Str}{func:Option Addr}{code:Value}(hg:gl=mainGlobals)(hb:bl=builtinsNs)(jb:h'.Ns s.heap.objs.size m)
  (ti:Heap.SameBut s.heap.objs.size (s.heap.push {cls:=.type "frame",data:=.dict #[]}) h') (hc:∃o,h'.get? s.heap.objs.size=some o∧o.cls=.type "frame"):qE c ρ σ s h' t sc cl m (newEnv sc s.heap.objs.size gl cl qual func code none bl):=
 let⟨cY,e1,F3⟩:=sr.adI j9 (t:=t) jb ti hc
 ⟨rfl,rfl,hg,hb,rfl,cY,e1,F3,kS _,jb⟩
section
variable{h':Heap}{t:Nat}{m:Str→Option Value}{sc:Scope}{cl:List (Str×Addr)}{e:Env}
theorem qE.at_(I:qE c ρ σ s h' t sc cl m e)(sr:SR c ρ σ s):(ρ++[e.locals])[σ.length]? =some e.locals:=by rw[←sr.len];simp
theorem qE.Tt(I:qE c ρ σ s h' t sc cl m e)(sr:SR c ρ σ s)(ju:Frs c A s.heap)(hk:sc.kind=.function){cn:List Str}{cs:List Nat}(qq:∀(j:Nat) (x:Str) (i:Nat),cn[j]? =some x→cs[j]? =some i→∃a,e.cells.lookup x=some a∧(ρ++[e.locals])[i]? =some a):
  fW c ⟨0,sc,cn,none⟩ (A.deeper e) e ⟨σ.length,cs⟩ (ρ++[e.locals]) h':=
 fW.deeper (g:=⟨0,sc,cn,none⟩) (f:=⟨σ.length,cs⟩) (ju.mono I.ext) I.scope hk (I.at_ sr) I.frame I.glob I.blt qq rfl I.ob (I.sr.fresh _ (a0 (I.at_ sr)))
end
theorem adJ{M:Model}{E:Value→Shared→Prop}(j9:c.dE 0=[])(sr:SR c ρ σ s){scope:Scope}{closure:List (Str×Addr)}{qual:Str}{func:Option Addr}{code:Value}{gl bl:Addr}{Q:Env→Shared→Prop}(hc:∀x∈scope.names,x.2≠.cell)(hg:gl=mainGlobals)(hb:bl=builtinsNs)
  (hQ:∀e h',qE c ρ σ s h' s.toks scope closure (fun Z=>none) e→Q e {s with heap:=h'}):wpAny M A (newFunctionEnv scope gl closure [] qual func code none bl) Q E s:=
 acN hc fun h' h1 h2 h3=>hQ _ h' (qE.of j9 sr hg hb h1 h2 h3)
theorem adK{M:Model}{E:Value→Shared→Prop}(j9:c.dE 0=[])(sr:SR c ρ σ s){scope:Scope}{closure:List (Str×Addr)}{x:Str}{v:Value}{qual:Str}{func:Option Addr}{code:Value}{gl bl:Addr}{Q:Env→Shared→Prop}(hc:∀x∈scope.names,x.2≠.cell)(hl:scope.names.lookup x=some .local)(hk:scope.kind=.function)(hg:gl=mainGlobals)(hb:bl=builtinsNs)
  (hQ:∀e h',qE c ρ σ s h' (s.toks+1) scope closure (fun y=>if y=x then some v else none) e→Q e {s with heap:=h',toks:=s.toks+1}):wpAny M A (newFunctionEnv scope gl closure [(x,v)] qual func code none bl) Q E s:=
 acO hc hl hk fun h' h1 h2 h3=>hQ _ h' (qE.of j9 sr hg hb h1 h2 h3)
end
noncomputable def RE(q:Nat→Pos)(u kk:Nat)(b1 b2:Stmt)(lit:Str):List ExceptHandler:=
 [.ExceptHandler (some (.Name "NameFault" (q 3))) (some "fault") [b1] (q 4),.ExceptHandler (some (.Name "ConstFault" (q 5))) (some "fault") [b2] (q 6),
  .ExceptHandler (some (.Name "TypeFault" (q 7))) (some "fault") [.Return (some (.Tuple [.Constant (.str lit) u (q 8),.Attribute (.Name "fault" (q 9)) "spot" (q 10)] kk (q 11))) (q 12)] (q 13)]
def O3(q:Nat→Pos)(u kk:Nat)(b1 b2:Stmt)(lit:Str):List Stmt:=
 [.Try [.Return (some (.Call (.Name "call" (q 0)) [] [] (q 1))) (q 2)]
  (RE q u kk b1 b2 lit) [] [] (q 14)]
structure AS(c:Cx)(gl:Str→Option J)(aT:Addr)(fd:FuncData)(q:Nat→Pos)(u kk:Nat)(b1 b2:Stmt)(lit:Str):Prop where
 fn:uD c aT fd (O3 q u kk b1 b2 lit)
 IM:∀x∈fd.scope.names,x.2≠.cell
 l1:fd.scope.names.lookup ("call":Str)=some .local
 l2:fd.scope.names.lookup ("fault":Str)=some .local
 l3:fd.scope.names.lookup ("NameFault":Str)=some .globalImplicit
 l4:fd.scope.names.lookup ("ConstFault":Str)=some .globalImplicit
 l5:fd.scope.names.lookup ("TypeFault":Str)=some .globalImplicit
 bind:∀V:Value,bindArgs fd ⟨[V],[]⟩=pure [(("call":Str),V)]
 d1:∃D,gl "NameFault"=some (.dC D)∧K2 c D
 d2:∃D,gl "ConstFault"=some (.dC D)∧K2 c D
 d3:gl "TypeFault"=some (.dC c.cT)
section
variable{c:Cx}{g:FC}{n:Nat}{A:Around}{env:Env}{f:Fr}{ρ:List Addr}{σ cG:List MO}{s:Shared}{gl:Str→Option J}{gz:Str→Bool}{fI aT:Addr}{fd rX:FuncData}{p q:Nat→Pos}{u kk:Nat}{b1 b2:Stmt}{lit:Str}
inductive Bw(m:Nat)(lit:Str)(r:Res J)(σ:List MO):Res J→Prop
 |ok {v v':J}:fz m σ v=some v'→r=.ok v'→Bw m lit r σ (.ok v)
 |fo {k:Int}:σ[m]? =some (.fr 0 [])→r=.ok (.tup [.str lit,.int k])→Bw m lit r σ (.fo k)
theorem abN{M:Model}{body:Expr}{sc:Scope}{V c':Addr}{pm lD:Value}{hp:Heap}(k:hp.get? V=some (v7 env body sc pm c' lD)):Looks M hp (keeperOf (.ref V)) .frame:=fun A Q E s ks hq=>by
 unfold keeperOf
 exact bC (wpAny_load (ks _ _ k) (bD hq))
theorem uD.acP{a:Addr}{fd:FuncData}{body:List Stmt}(F:uD c a fd body)(sr:SR c ρ σ s):s.heap.CodeRec fd.code fd.qualname:=
 let⟨cc,oc,vs,t,h1,h2,h3,h4,h5⟩:=F.code
 ⟨cc,oc,vs,t,h1,sr.jr h2 h3,h4,h5⟩
theorem aaI{m:Nat}{r:Res J}{σ cG:List MO}{y:Res J}:I7 m lit σ y=some (r,cG)→cG=σ.take m∧Bw m lit r σ y:=
 @Res.casesOn J (fun y=>I7 m lit σ y=some (r,cG)→cG=σ.take m∧Bw m lit r σ y) y (fun v h=>
  let⟨v',hf,h⟩:=eP h
  have h:=Prod.mk.inj (aV h)
  ⟨h.2.symm.trans (oL m σ),.ok hf h.1.symm⟩) (fun k h=>
  let⟨hf,h⟩:=gK h
  have h:=Prod.mk.inj (aV h)
  ⟨h.2.symm.trans (oL m σ),.fo ((il σ m).symm.trans (aaH hf)) h.1.symm⟩)
theorem abl{m:Nat}{x:Out J}{r:Res J}{cG:List MO}(h:v8 m lit x=some (r,cG)):∃y σ,x=some (y,σ)∧(σ.take m).all (fF m)=true∧cG=σ.take m∧Bw m lit r σ y:=
 let⟨y,e,h⟩:=eP h
 let⟨hb,h⟩:=gK h
 let⟨h1,h2⟩:=aaI h
 ⟨y.1,y.2,e,(t9 m y.2).symm.trans hb,h1,h2⟩
theorem acQ{sc:Scope}{cn':List Str}{fJ cs:List Nat}{h0 h':Heap}{cC:List Addr}{cl:List (Str×Addr)}(hc:oR sc g.cn cn' fJ)(hp:pick fJ f.cs=some cs)(he:fW c g A env f ρ h0)(e:Ext ρ h0 cC h')(BX:cl=mD env sc.names [])(j:Nat)(x:Str)(i:Nat)(h1:cn'[j]? =some x)(h2:cs[j]? =some i):∃a,cl.lookup x=some a∧cC[i]? =some a:=by
 obtain⟨mG,j',h3,h4⟩:=hc.at_ j x h1
 obtain⟨i',h5,h6⟩:=D8 hp j j' h3
 obtain rfl:=aV (h5.symm.trans h2)
 obtain⟨a,h7,h8⟩:=he.cell j' x _ h4 h6
 obtain⟨m1,_,m3⟩:=Ef (env:=env) sc.names [] (fun p hp=>nomatch hp)
 exact⟨a,by rw[BX,HL (F:=fun y=>(env.cells.lookup y).getD 0) m1 (m3 x mG),h7];rfl,e.get h8⟩
theorem abO{body:Expr}{sc:Scope}{cn':List Str}{cs:List Nat}{x:Mine.X}{V c':Addr}{pm lD:Value}(Fa:Facts c gl gz)(j9:c.dE 0=[])(hx:DE c ⟨0,sc,cn',none⟩ n body x)(hk:sc.kind=.function)(Cd:sc.isCoroutine=false)(om:sc.isGenerator=false)(m_:∀y∈sc.names,y.2≠.cell)
  (hr:g0 A (n+1)) (ju:Frs c A s.heap) (sr:SR c ρ σ s) (hV:s.heap.get? V=some (v7 env body sc pm c' lD)) (hcode:kK s.heap c' (env.qual++"<lambda>")) (qq:∀(cC:List Addr) (h':Heap),Ext ρ s.heap cC h'→∀(j:Nat) (x:Str) (i:Nat),cn'[j]? =some x→cs[j]? =some i→∃a,(mD env sc.names []).lookup x=some a∧cC[i]? =some a)
  {y:Res J} {rY:List MO} (nJ:x ⟨σ.length,cs⟩ (σ++[.fr 0 []])=some (y,rY)) {Q:Value→Shared→Prop} {E:Value→Shared→Prop}
  (hQ:∀v V cC s',y=.ok v→Ext ρ s.heap cC s'.heap→SR c cC rY s'→cI c cC s'.heap v V→Q V s') (hE:∀k X cC s',y=.fo k→Ext ρ s.heap cC s'.heap→SR c cC rY s'→ly c cC s'.heap k X→E X s'):
  wpAny (model c.prog c.w) A (call (.ref V) []) Q E s:=by
 cases hcode with
 |mk q1 q2 q3 q4=>
  have hd:=hr.depth
  refine wpAny_call (kla_callFunE (by omega) hV rfl Cd om rfl ⟨c',_,_,_,rfl,q1,q3,q4⟩ ?_)
  refine bD (adJ j9 sr m_ rfl rfl fun e h I=>⟨DJ Fa.nolimit I.sr,kla_codeExpr ?_⟩)
  have he:=I.Tt sr ju hk (cs:=cs) fun j x i h1 h2=>by rw[I.cells];exact qq _ _ I.ext j x i h1 h2
  refine(hx _ e ⟨σ.length,cs⟩ _ _ _ (g0.deeper hr e) he I.sr).run y rY nJ _ _ ⟨fun v V' cC s' hy ex fM rv=>hQ v V' cC s' hy (I.ext.trans ex) fM rv,fun k X' cC s' hy ex fM fl=>?_⟩
  exact OC (he.mono ex) fM fl fun jS e3 hJ Kp=>hE k X' cC {s' with heap:=jS} hy (I.ext.trans (ex.trans e3)) hJ Kp.F7
theorem abm(T:AS c gl aT rX q u kk b1 b2 lit)(X:mY c fI fd p)(Fa:Facts c gl gz)(j9:c.dE 0=[]){tc:Env}{gL:Heap}{t:Nat}{m:Str→Option Value}{A1:Around}(sr:SR c ρ σ s)(I:qE c ρ σ s gL t rX.scope [] m tc)(md:fW c ⟨0,rX.scope,[],none⟩ A1 tc ⟨σ.length,[]⟩ (ρ++[tc.locals]) gL){rY:List MO}{k:Int}{Xv:Value}{cC:List Addr}{s':Shared}(ex:Ext (ρ++[tc.locals]) gL cC s'.heap)
  (fM:SR c cC rY s') (fl:ly c cC s'.heap k Xv) (hb:(rY.take σ.length).all (fF σ.length)=true) (qz:rY[σ.length]? =some (.fr 0 [])) {Q:Flow→Shared→Prop} {E:Value→Shared→Prop} {R:Result→Shared→Prop}
  (hQ:∀(V:Value) (iO:Shared) (v9:Heap) (zl:Nat),Ext ρ s.heap (cC.take σ.length) v9→SR c (cC.take σ.length) (rY.take σ.length) {iO with heap:=v9,toks:=zl}→cI c (cC.take σ.length) v9 (.tup [.str lit,.int k]) V→Q (.ret V) {iO with heap:=v9,toks:=zl}):
  wpAny (model c.prog c.w) A1 (noteFrame Xv tc) (fun Z s=>wpAny (model c.prog c.w) A1 (setFlight Xv none) (fun Z s=>wpAny (model c.prog c.w) A1 (handleBy Xv tc (RE q u kk b1 b2 lit)) Q E s) E s) E s':=by
 have nL:=md.mono ex
 refine Es nL fM fl fun vW e4 lz KC=>?_
 refine As (s:={s' with heap:=vW}) lz KC fun ja e5 B5 Ga=>?_
 obtain⟨VJ,e,rfl,tb5⟩:=id Ga
 have K9:=(nL.mono e4).mono e5
 obtain⟨D1,g1,O1⟩:=T.d1
 obtain⟨D2,g2,O2⟩:=T.d2
 refine miss X Fa O1 g1 T.l3 (by decide) K9 (s:={s' with heap:=ja}) B5 VJ (miss X Fa O2 g2 T.l4 (by decide) K9 (s:={s' with heap:=ja}) B5 VJ ?_)
 refine hit X Fa j9 T.d3 T.l5 (by decide) T.l2 (by decide) K9 qz (s:={s' with heap:=ja}) B5 Ga fun Vt iO v9 zl ex6 sr6 rv6 K_=>?_
 have VK:=((ex.trans e4).trans e5).trans ex6
 have pL:cC[σ.length]? =some tc.locals:=VK.get (I.at_ sr)
 exact hQ Vt iO v9 zl (((I.ext.trans VK).Fv I.new K_).forget (Nat.le_of_eq sr.len)) (sr6.yM (t:=zl) (m:=σ.length) pL (Nat.le_refl _) K_ hb) (cI.ef _ (rv6.l7 (Ee (a0 pL) K_)) rfl)
theorem abP(T:AS c gl aT rX q u kk b1 b2 lit)(X:mY c fI fd p)(Fa:Facts c gl gz)(j9:c.dE 0=[]){body:Expr}{sc:Scope}{cn':List Str}{fJ cs:List Nat}{x:Mine.X}{V:Addr}{c':Addr}{pm lD:Value}
  (hx:DE c ⟨0,sc,cn',none⟩ n body x) (hk:sc.kind=.function) (Cd:sc.isCoroutine=false) (om:sc.isGenerator=false) (m_:∀y∈sc.names,y.2≠.cell) (hc:oR sc g.cn cn' fJ) (hp:pick fJ f.cs=some cs)
  (hr:g0 A (n+2)) (he:fW c g A env f ρ s.heap) (sr:SR c ρ σ s) (hV:s.heap.get? V=some (v7 env body sc pm c' lD)) (hVn:dY c ρ V) (hcode:kK s.heap c' (env.qual++"<lambda>")) (zk:dY c ρ c')
  {r:Res J} {cG:List MO} (hX:v8 σ.length lit (x ⟨σ.length+1,cs⟩ ((σ++[.fr 0 []])++[.fr 0 []]))=some (r,cG)) {Q:Value→Shared→Prop} {E:Value→Shared→Prop} (P:iT c (cI c) ρ s.heap r cG Q E):
  wpAny (model c.prog c.w) A (call (.ref aT) [.ref V]) Q E s:=by
 obtain⟨y,rY,nJ,hb,rfl,RG⟩:=abl hX
 have hd:=hr.depth
 refine wpAny_call (codeAny_call_function (by omega) (sr.jr T.fn.obj.choose_spec.1 T.fn.obj.choose_spec.2.1) T.fn.obj.choose_spec.2.2 T.fn.co T.fn.gen T.fn.body (T.fn.acP sr) ?_)
 rw[T.bind,T.fn.Gb]
 refine bD (adK j9 sr T.IM T.l1 T.fn.kind T.fn.glob T.fn.blt fun tc gL I=>⟨DJ Fa.nolimit I.sr,codeAny_func ?_⟩)
 have md:=I.Tt sr he.nM T.fn.kind (cn:=[]) (cs:=[]) fun j x i h=>nomatch h
 have VL:gL.get? V=some (v7 env body sc pm c' lD):=I.ext.exact hV hVn.1 rfl
 refine wpAny_execs_cons (wpAny_Try_except ?_)
 refine wpAny_execs_cons (wpAny_Return_some ?_)
 rw[t6 rfl]
 refine bC (t7 (by rw[I.scope];exact T.fn.kind) (by rw[I.scope];exact T.l1) (by decide) I.ns (by rw[if_pos rfl]) ?_)
 refine callWith_of (P:=fun hp=>hp.get? V=some (v7 env body sc pm c' lD)) rfl (fun hp k=>⟨.frame,.inl rfl,abN k⟩) ?_
 show wpAny _ _ (evalArgs (.ref V) true [] []) _ _ _
 refine Nu (spliced_nil ⟨VL,?_⟩)
 show wpAny _ _ (call (.ref V) []) _ _ _
 refine abO (σ:=σ++[.fr 0 []]) (s:={s with heap:=gL,toks:=s.toks+1}) Fa j9 hx hk Cd om m_ (g0.deeper hr tc) md.nM I.sr VL (hcode.map I.ext.weak.tr zk).1 (fun cC h' e=>acQ hc hp he (I.ext.trans e) rfl) (by rw[List.length_append];exact nJ) (fun v V' cC s' hy ex fM rv=>?_) (fun k Xv cC s' hy ex fM fl=>?_)
 ·subst hy
  cases RG with
  |ok hfz nN=>exact P.ok _ V' (cC.take σ.length) s' nN ((I.ext.trans ex).forget (Nat.le_of_eq sr.len)) (fM.forget _ hb) (cI.fz fM _ rv hfz)
 ·subst hy
  cases RG with
  |fo qz nN=>exact abm (R:=fun Z Z=>True) T X Fa j9 sr I md ex fM fl hb qz fun V iO v9 zl e1 cY rv=>P.ok _ V (cC.take σ.length) _ nN e1 cY rv
theorem DE.zb(T:AS c gl aT rX q u kk b1 b2 lit)(X:mY c fI fd p)(Fa:Facts c gl gz)(L:Bv c)(j9:c.dE 0=[]){xT:Str}{p0 pos lR:Pos}{body:Expr}{sc:Scope}{cn':List Str}{fJ:List Nat}{x:Mine.X}{it cc:Nat}
  (hv:gl xT=some (.dC aT)) (La:g.scope.names.lookup xT=some .globalImplicit) (Lb:(xT==("__debug__":Str))=false) (agN:Callee c aT)
  (hx:DE c ⟨0,sc,cn',Option.none⟩ n body x) (hk:sc.kind=.function) (Cd:sc.isCoroutine=false) (om:sc.isGenerator=false) (m_:∀y∈sc.names,y.2≠.cell) (hc:oR sc g.cn cn' fJ) (hcode:g.code=some cc):
  DE c g (n+2) (.Call (.Name xT p0) [.Lambda vi body sc pos] [] lR) (vv it cc pos.line pos.col lit fJ x):=by
 intro A env f ρ σ s hr he sr
 refine⟨fun r cG hX Q E P=>?_⟩
 obtain⟨cs,hp,hX⟩:=eP hX
 obtain⟨σ₁,gD,hX⟩:=eP hX
 rw[len_eq,nD,nD]at hX
 rw[t6 rfl]
 refine bC (Fa.global sr he hv La Lb fun V0 rV=>?_)
 obtain rfl:V0=.ref aT:=rV.inv
 refine callWith_of (P:=fun hp=>∀o,c.h0.get? aT=some o→o.cls≠.none→hp.get? aT=some o) rfl (fun hp k=>OY agN k) ?_
 exact evalArgs_plain (spliced_cons (adH L he sr hcode gD hc hp fun h' tk a c' pm lD ex cY K6 haV v5 zk=>spliced_nil ⟨fun o q1 q2=>cY.jr q1 q2,
  abP T X Fa j9 (s:={s with heap:=h',toks:=tk}) hx hk Cd om m_ hc hp hr (he.mono ex) cY haV (lM sr K6) v5 zk hX (P.ext ex)⟩))
end
open PySem.AutoSeq1 (wpAny_loadPart')
section
variable{prog:Program}{w:World}{A:Around}{E:Value→Shared→Prop}{s:Shared}
theorem Ye{it l:Addr}{i:Nat}{items}{Q:Value→Shared→Prop}(hh:A.handled=none)(hit:s.heap.IsTupleIter it l i)(hl:s.heap.IsTuple l items)
  (hQ:∀x,items[i]? =some x→∀h',h'.IsTupleIter it l (i+1)→Heap.SameBut it s.heap h'→Q x {s with heap:=h'})
  (hE:items[i]? =none→∀h' e,Heap.ExtBut it s.heap h'→(∃o,h'.get? e=some o∧o.cls=.type "StopIteration")→E (.ref e) {s with heap:=h'}):
  wpAny (model prog w) A (Builtin.SmallTypes.nextOf (.ref it)) Q E s:=by
 refine zz fun GG KK=>?_
 obtain⟨o,ho,hc,hd⟩:=id hit
 obtain⟨ol,hol,_,nl,hdl⟩:=hl
 refine KK ?_
 unfold Builtin.SmallTypes.nextOf
 refine bC (wpAny_callSpecial?_slot (name:=Str.ofString "__next__") hit.typeIs F.slot_tuple_iterator_next
  (wpAny_call_entry F.slot_tuple_iterator_next hit.typeIs F.entry_tuple_iterator_next ?_ (F.args_tuple_iterator_next_1 _)))
 show wpAny _ _ (field (.ref it) 0>>=_) _ _ s
 refine bC (wpAny_field ho hd (x:=.ref l) rfl ?_)
 show wpAny _ _ (field (.ref it) 1>>=_) _ _ s
 refine bC (wpAny_field ho hd (x:=.int i 0) rfl ?_)
 show wpAny _ _ (seqItems? (.ref l)>>=_) _ _ s
 refine bC (wpAny_seqItems hol hdl ?_)
 simp only[Int.toNat_natCast]
 cases hx:items[i]? with
 |some x=>
  refine bC (wpAny_setField ho hd (by simp) (bD ⟨x,rfl,bD (hQ x hx _ ?_ (Heap.SameBut.update ..))⟩))
  exact⟨_,Heap.get?_update_self _ ho (Obj.isFreed_of_fields (Obj.data_mapFields hd _)),(Obj.cls_mapFields ..).trans hc,by
   rw[Obj.data_mapFields hd];simp[rawInt]⟩
 |none=>
  refine bC (wpAny_rule (bC (wpAny_setField ho hd (by simp) ?_)))
  show wpAny _ _ (newExc (.type "StopIteration") []>>=_) _ _ _
  refine bC ?_
  simp only[newExc,newTuple]
  refine bC (wpAny_newObj_type ?_ (by size_fits))
  refine bC (m:=firstArgMember _ _) (wpAny_of_eq (a:=Value.none) (by first|rfl|(simp only[firstArgMember];rfl)) ?_)
  refine wpAny_newObj_type ?_ (by size_fits)
  simp only[raiseNew]
  refine bC (wpAny_handled ?_)
  first|rw[show A.in1.handled=none from hh]|rw[hh]
  exact bC (bD (wpAny_throw (hE hx _ _ (((Heap.SameBut.update ..).extBut.push _).push _) ⟨_,bf _ rfl,rfl⟩)))
noncomputable def oO(q:Bool)(h:Heap)(l:Addr)(xs:Array Value):Prop:=if q then h.IsTuple l xs else h.IsList l xs
theorem oO.extBut{q:Bool}{h h':Heap}{b a:Addr}{xs:Array Value}(x:oO q h a xs)(k:Heap.ExtBut b h h')(ne:a≠b):oO q h' a xs:=by
 cases q with
 |true=>exact Heap.IsTuple.extBut (h:=h) x k ne
 |false=>exact Heap.IsList.extBut (h:=h) x k ne
theorem oO.at{q:Bool}{h h':Heap}{a:Addr}{xs:Array Value}(x:oO q h a xs)(k:∀o,h.get? a=some o→h'.get? a=some o):oO q h' a xs:=by
 cases q with
 |true=>exact Heap.IsTuple.at (h:=h) x k
 |false=>exact Heap.IsList.at (h:=h) x k
theorem iR.extBut{q:Bool}{h h':Heap}{b I l:Addr}{i:Nat}(x:iR q h I l i)(k:Heap.ExtBut b h h')(ne:I≠b):iR q h' I l i:=x.at fun o e=>k _ _ ne e
theorem DX{q:Bool}{it l:Addr}{i:Nat}{items}{Q:Value→Shared→Prop}(hh:A.handled=none)(hit:iR q s.heap it l i)(hl:oO q s.heap l items)
  (hQ:∀x,items[i]? =some x→∀h',iR q h' it l (i+1)→Heap.SameBut it s.heap h'→Q x {s with heap:=h'})
  (hE:items[i]? =none→∀h' e,Heap.ExtBut it s.heap h'→(∃o,h'.get? e=some o∧o.cls=.type "StopIteration")→E (.ref e) {s with heap:=h'}):wpAny (model prog w) A (PySem.Builtin.SmallTypes.nextOf (.ref it)) Q E s:=by
 cases q with
 |true=>exact Ye hh hit hl hQ hE
 |false=>
  cases hx:items[i]? with
  |some x=>exact wpAny_nextOf_list_item hit hl hx (hQ x hx)
  |none=>exact wpAny_nextOf_list_end hh hit hl hx (hE hx)
theorem P8(q:Bool)(hh:A.handled=none)(it l:Addr)(jU:l≠it)(items:Array Value):
  Draws prog w A it [it,l] items.size (fun i v=>items[i]? =some v) (fun i h=>iR q h it l i∧oO q h l items)where
 live:=fun Z Z st=>let⟨o,ho,_⟩:=st.1.obj;⟨o,ho⟩
 frame:=fun Z Z Z st hk=>⟨st.1.at fun o e=>hk it (by simp) o e,st.2.at fun o e=>hk l (by simp) o e⟩
 item:=fun i s Q E hi st hQ=>by
  exact DX hh st.1 st.2 (fun x hx h' agO iD=>hQ _ h' s.toks hx ⟨agO,st.2.extBut iD.extBut jU⟩ iD) fun hx=>cw (hx.symm.trans (Array.getElem?_eq_getElem hi))
 done:=fun s Q E st hE=>DX hh st.1 st.2 (fun x hx=>cw ((Array.getElem?_eq_none (Nat.le_refl _)).symm.trans hx)) fun Z=>hE
theorem acR{q1 q2:Bool}{z TI TO i1 i2 l1 l2:Addr}{k1 k2:Nat}{xs ys:Array Value}{a b:Value}{Q:Value→Shared→Prop}(hh:A.handled=none)(D:ZipApart z TI TO i1 i2 l1 l2)
  (hz:IsZip s.heap z TI TO .none) (nO:IsPair s.heap TI (.ref i1) (.ref i2)) (oq:IsPair s.heap TO a b)
  (h1:iR q1 s.heap i1 l1 k1) (h2:iR q2 s.heap i2 l2 k2) (rU:oO q1 s.heap l1 xs) (j8:oO q2 s.heap l2 ys)
  (hQ:∀x y,xs[k1]? =some x→ys[k2]? =some y→∀h',IsZip h' z TI TO (rawInt s.heap.objs.size)→IsPair h' TO x y→iR q1 h' i1 l1 (k1+1)→iR q2 h' i2 l2 (k2+1)→IsPair h' s.heap.objs.size x y→h'.objs.size=s.heap.objs.size+1→
   (∀c o,c≠z→c≠TO→c≠i1→c≠i2→s.heap.get? c=some o→h'.get? c=some o)→Q (.ref s.heap.objs.size) {s with heap:=h'})
  (hE:(xs[k1]? =none∨ys[k2]? =none)→∀h' e,(∀c o,c≠z→c≠TO→c≠i1→c≠i2→s.heap.get? c=some o→h'.get? c=some o)→(∃a b,IsPair h' TO a b)→(∃o,h'.get? e=some o∧o.cls=.type "StopIteration")→E (.ref e) {s with heap:=h'}):
  wpAny (model prog w) A (PySem.Builtin.«zip.__next__» ⟨[.ref z],[]⟩) (fun fin s'=>∃v,fin=.done (.ret v)∧Q v s') E s:=by
 show wpAny _ _ (field (.ref z) 2>>=_) _ _ _
 refine bC (wpAny_field hz rfl (x:=.bool false) rfl ?_)
 show wpAny _ _ (field (.ref z) 3>>=_) _ _ _
 refine bC (wpAny_field hz rfl (x:=.ref TI) rfl ?_)
 refine bC (wpAny_seqItems nO rfl ?_)
 show wpAny _ _ (PySem.Builtin.SmallTypes.ownedTupleIsFree (.ref z)>>=_) _ _ _
 refine bC ?_
 unfold Builtin.SmallTypes.ownedTupleIsFree
 refine bC (wpAny_field hz rfl (x:=.none) rfl (bD ?_))
 simp only[if_true]
 refine bC (wpAny_rule ?_)
 refine bC (wpAny_field hz rfl (x:=.ref TO) rfl ?_)
 refine bC (wpAny_setField_rec hz (by simp) fun gL Bf nH=>?_)
 replace Bf:IsZip gL z TI TO .ellipsis:=Bf
 refine bC ?_
 simp only[List.zipIdx_cons,List.zipIdx_nil,List.forIn_cons,List.forIn_nil]
 refine bC (bC (wpAny_onRaise ?_))
 show wpAny _ _ (PySem.Builtin.SmallTypes.nextOf (.ref i1)>>=_) _ _ _
 have stop:∀{h e z e'} {a b c d},IsZip h z a b c→(∃o,h.get? e=some o∧o.cls=.type "StopIteration")→Heap.SameBut z h e'→d=e→∃o,e'.get? d=some o∧o.cls=.type "StopIteration":=fun{h e z e' a b c d} hz he hs q=>he.elim fun o y=>⟨o,q▸hs.extBut _ _ (fun x=>absurd (Value.type.inj ((congrArg Obj.cls (aV (hz.symm.trans (x▸y.1)))).trans y.2)) (by decide)) y.1,y.2⟩
 refine bC (DX hh (h1.extBut nH.extBut D.i1z) (rU.extBut nH.extBut D.l1z) (fun x hx jR afb pk=>bD ?_) fun hx jR e pk he=>?_)
 rotate_left
 ·have Sf:IsZip jR z TI TO .ellipsis:=pk _ _ D.i1z.symm Bf
  exact wpAny_setField_rec Sf (by simp) fun jS Z pn=>hE (.inl hx) jS e (fun c o c1 Z c3 Z x=>pn.extBut _ _ c1 (pk _ _ c3 (nH.extBut _ _ c1 x))) ⟨_,_,pn.extBut _ _ D.TOz (pk _ _ D.TOi1 (nH.extBut _ _ D.TOz oq))⟩ (stop Sf he pn rfl)
 have RH:IsPair jR TO a b:=pk.extBut _ _ D.TOi1 (nH.extBut _ _ D.TOz oq)
 refine bC (wpAny_seqItems RH rfl ?_)
 refine bC (wpAny_updateSeq_pair RH fun jS EO pn=>?_)
 replace EO:IsPair jS TO x b:=EO
 refine bC (wpAny_letGo (bD ?_))
 refine bC (bC (wpAny_onRaise ?_))
 show wpAny _ _ (PySem.Builtin.SmallTypes.nextOf (.ref i2)>>=_) _ _ _
 refine bC (DX hh (((h2.extBut nH.extBut D.i2z).extBut pk.extBut D.i12.symm).extBut pn.extBut D.TOi2.symm)
  (((j8.extBut nH.extBut D.l2z).extBut pk.extBut D.l2i1).extBut pn.extBut D.l2TO) (fun y hy vW afc sQ=>bD ?_) fun hy vW e sQ he=>?_)
 rotate_left
 ·have Si:IsZip vW z TI TO .ellipsis:=sQ _ _ D.i2z.symm (pn.extBut _ _ D.TOz.symm (pk.extBut _ _ D.i1z.symm Bf))
  exact wpAny_setField_rec Si (by simp) fun ja Z sR=>hE (.inr hy) ja e (fun c o c1 c2 c3 c4 x=>sR.extBut _ _ c1 (sQ _ _ c4 (pn.extBut _ _ c2 (pk.extBut _ _ c3 (nH.extBut _ _ c1 x))))) ⟨_,_,sR.extBut _ _ D.TOz (sQ _ _ D.TOi2 EO)⟩ (stop Si he sR rfl)
 have RI:IsPair vW TO x b:=sQ.extBut _ _ D.TOi2 EO
 refine bC (wpAny_seqItems RI rfl ?_)
 refine bC (wpAny_updateSeq_pair RI fun ja EP sR=>?_)
 replace EP:IsPair ja TO x y:=EP
 refine bC (wpAny_letGo (bD (bD ?_)))
 refine bC (wpAny_seqItems EP rfl ?_)
 refine bC (wpAny_newTuple ?_)
 have j6:ja.objs.size=s.heap.objs.size:=by rw[sR.1,sQ.1,pn.1,pk.1,nH.1]
 have Sj:IsZip ja z TI TO .ellipsis:=sR.extBut _ _ D.TOz.symm (sQ.extBut _ _ D.i2z.symm (pn.extBut _ _ D.TOz.symm (pk.extBut _ _ D.i1z.symm Bf)))
 have afd:∀c o,c≠z→c≠TO→c≠i1→c≠i2→s.heap.get? c=some o→ja.get? c=some o:=fun c o c1 c2 c3 c4 e=>
  sR.extBut _ _ c2 (sQ.extBut _ _ c4 (pn.extBut _ _ c2 (pk.extBut _ _ c3 (nH.extBut _ _ c1 e))))
 have afe:iR q1 ja i1 l1 (k1+1):=((afb.extBut pn.extBut D.TOi1.symm).extBut sQ.extBut D.i12).extBut sR.extBut D.TOi1.symm
 have aff:iR q2 ja i2 l2 (k2+1):=afc.extBut sR.extBut D.TOi2.symm
 have Tu:z<ja.objs.size:=Heap.lt_size Sj
 show wpAny _ _ (PySem.Builtin.SmallTypes.ownedTupleHandOut (.ref z) (.ref ja.objs.size)>>=_) _ _ _
 refine bC ?_
 unfold Builtin.SmallTypes.ownedTupleHandOut
 have afg:IsZip (ja.push {cls:=.type "tuple",data:=.seq #[x,y]}) z TI TO .ellipsis:=aX _ Sj
 refine bC (wpAny_setField_rec afg (by simp) fun agP I8 I9=>?_)
 replace I8:IsZip agP z TI TO (rawInt ja.objs.size):=I8
 refine wpAny_setField_rec I8 (by simp) fun Bx E6 I_=>?_
 replace E6:IsZip Bx z TI TO (rawInt ja.objs.size):=E6
 have up:∀c o,c≠z→ja.get? c=some o→Bx.get? c=some o:=fun c o c1 e=>I_.extBut _ _ c1 (I9.extBut _ _ c1 (aX _ e))
 have Sk:IsPair Bx ja.objs.size x y:=I_.extBut _ _ (Nat.ne_of_gt Tu) (I9.extBut _ _ (Nat.ne_of_gt Tu) (bf _ rfl))
 have VM:Bx.objs.size=ja.objs.size+1:=by rw[I_.1,I9.1,Heap.size_push]
 rw[j6]at E6 Sk VM
 refine bD ⟨_,rfl,?_⟩
 show Q (.ref ja.objs.size) _
 rw[j6]
 exact hQ x y hx hy Bx E6 (up _ _ D.TOz EP) (afe.at fun o e=>up _ o D.i1z e) (aff.at fun o e=>up _ o D.i2z e) Sk VM fun c o c1 c2 c3 c4 e=>up c o c1 (afd c o c1 c2 c3 c4 e)
theorem OI{q1 q2:Bool}{z TI TO i1 i2 l1 l2:Addr}{k1 k2:Nat}{xs ys:Array Value}{a b:Value}{Q:Option Value→Shared→Prop}(hh:A.handled=none)(D:ZipApart z TI TO i1 i2 l1 l2)
  (hz:IsZip s.heap z TI TO .none) (nO:IsPair s.heap TI (.ref i1) (.ref i2)) (oq:IsPair s.heap TO a b)
  (h1:iR q1 s.heap i1 l1 k1) (h2:iR q2 s.heap i2 l2 k2) (rU:oO q1 s.heap l1 xs) (j8:oO q2 s.heap l2 ys)
  (hQ:∀x y,xs[k1]? =some x→ys[k2]? =some y→∀h',IsZip h' z TI TO (rawInt s.heap.objs.size)→IsPair h' TO x y→iR q1 h' i1 l1 (k1+1)→iR q2 h' i2 l2 (k2+1)→IsPair h' s.heap.objs.size x y→h'.objs.size=s.heap.objs.size+1→
   (∀c o,c≠z→c≠TO→c≠i1→c≠i2→s.heap.get? c=some o→h'.get? c=some o)→Q (some (.ref s.heap.objs.size)) {s with heap:=h'})
  (hE:(xs[k1]? =none∨ys[k2]? =none)→∀h',(∀c o,c≠z→c≠TO→c≠i1→c≠i2→s.heap.get? c=some o→h'.get? c=some o)→(∃a b,IsPair h' TO a b)→Q none {s with heap:=h'}):
  wpAny (model prog w) A (pyNext (.ref z)) Q E s:=by
 have hT:s.TypeIs (.ref z) "zip":=⟨_,hz,rfl⟩
 unfold pyNext
 exact bC (wpAny_attempt (wpAny_callSpecial?_slot (name:=Str.ofString "__next__") hT F.slot_zip_next
  (wpAny_call_entry F.slot_zip_next hT F.entry_zip_next
   (acR hh D hz nO oq h1 h2 rU j8 (fun x y hx hy h' a1 a2 a3 a4 a5 a6 a7=>bD (hQ x y hx hy h' a1 a2 a3 a4 a5 a6 a7))
    fun hn h' e hk hp he=>bC (wpAny_isInstance (T:="StopIteration") (b:=true) he isSubtype_stop (bD (hE hn _ hk hp)))) (F.args_zip_next_1 _))))
end
theorem abQ{M:Model}{A:Around}{α:Type}{v:α}{Q:α→Shared→Prop}{E:Value→Shared→Prop}{s:Shared}(h:∀a,Q a s):wpAny M A (pure v) Q E s:=bD (h v)
theorem X9(l:Addr)(items:Array Value)(n:Nat)(lr:Option Addr)(sl:Array (Option Value)):
  Meets (Builtin.«enumerate.__new__» ⟨[.type "enumerate",.ref l],[]⟩) (fun Z R s=>s.heap.get? l=some {cls:=.type "tuple",dict:=lr,data:=.seq items n,slots:=sl}∧
   R (.ok (.ret (.ref (s.heap.push {cls:=.type "tuple_iterator",data:=.fields #[.ref l,.int 0 0]}).objs.size)))
    {s with heap:=(s.heap.push {cls:=.type "tuple_iterator",data:=.fields #[.ref l,.int 0 0]}).push {cls:=.type "enumerate",data:=.fields #[.none,.bool false,.ref s.heap.objs.size,rawInt 0,.none,.none]}}):=
 .of_wp fun prog w A R s h=>by
  obtain⟨hp,g,d,tk,os⟩:=s;obtain⟨hl,h⟩:=h
  have kY:=sub_enumerate
  have hL:Heap.IsTuple (Shared.heap ⟨hp,g,d,tk,os⟩) l items:=⟨_,hl,rfl,n,rfl⟩
  wp_walk using wpAny_loadPart' hl
  refine wpAny_stack_any fun st=>abQ fun b=>?_
  cases b
  ·wp_walk using wpAny_loadPart' hl,wpAny_pyIter_tuple hL
   exact⟨_,rfl,h⟩
  ·wp_walk using wpAny_loadPart' hl,wpAny_pyIter_tuple hL
   exact⟨_,rfl,h⟩
section
variable{prog:Program}{w:World}{A:Around}{E:Value→Shared→Prop}{s:Shared}
theorem X_{l:Addr}{items:Array Value}{Q:Value→Shared→Prop}(hL:s.heap.IsTuple l items)
  (h:∀h',IsEnum h' (s.heap.objs.size+1) s.heap.objs.size 0 .none→h'.IsTupleIter s.heap.objs.size l 0→h'.objs.size=s.heap.objs.size+2→
   (∀b o,s.heap.get? b=some o→h'.get? b=some o)→Q (.ref (s.heap.objs.size+1)) {s with heap:=h'}):
  wpAny (model prog w) A (call (.type "enumerate") [.ref l]) Q E s:=by
 refine zz fun GG KK=>?_
 obtain⟨⟨c,lr,dt,sl⟩,hl,hc,n,hd⟩:=hL
 refine KK ?_
 replace hc:c=.type "tuple":=hc
 replace hd:dt=.seq items n:=hd
 subst hc hd
 refine callType_new F.called_enumerate (by decide) (F.typeCall_enumerate_1 _) (F.newCall_enumerate_1 _) (fun obj=>F.args_object_init_2 obj _) F.entry_enumerate_new
  (X9 l items n lr sl) ⟨hl,?_⟩
 have hz:(s.heap.push {cls:=.type "tuple_iterator",data:=.fields #[.ref l,.int 0 0]}).objs.size=s.heap.objs.size+1:=Heap.size_push ..
 show _∧_
 rw[hz]
 have he:IsEnum ((s.heap.push {cls:=.type "tuple_iterator",data:=.fields #[.ref l,.int 0 0]}).push
   {cls:=.type "enumerate",data:=.fields #[.none,.bool false,.ref s.heap.objs.size,rawInt 0,.none,.none]}) (s.heap.objs.size+1) s.heap.objs.size 0 .none:=by
  have:=bf (s.heap.push {cls:=.type "tuple_iterator",data:=.fields #[.ref l,.int 0 0]})
   (o:={cls:=.type "enumerate",data:=.fields #[.none,.bool false,.ref s.heap.objs.size,rawInt 0,.none,.none]}) rfl
  rw[hz]at this;exact this
 refine⟨⟨_,he,rfl⟩,h _ he ⟨_,aX _ (bf _ rfl),rfl,rfl⟩ (by rw[Heap.size_push,hz]) fun b o x=>aX _ (aX _ x)⟩
end
abbrev E7(h:Heap)(l1:Addr):Heap:=h.push {cls:=.type "list_iterator",data:=.fields #[.ref l1,.int 0 0]}
abbrev E9(h:Heap)(l1 l2:Addr):Heap:=(E7 h l1).push {cls:=.type "tuple_iterator",data:=.fields #[.ref l2,.int 0 0]}
abbrev E_(h:Heap)(l1 l2:Addr):Heap:=(E9 h l1 l2).push {cls:=.type "tuple",data:=.seq #[.ref h.objs.size,.ref (E7 h l1).objs.size]}
abbrev Fb(h:Heap)(l1 l2:Addr):Heap:=(E_ h l1 l2).push {cls:=.type "tuple",data:=.seq #[.none,.none]}
abbrev vF(h:Heap)(l1 l2:Addr):Heap:=(Fb h l1 l2).push {cls:=.type "zip",data:=.fields #[.none,.bool false,.bool false,.ref (E9 h l1 l2).objs.size,.ref (E_ h l1 l2).objs.size]}
theorem Y5(l1 l2:Addr)(xs ys:Array Value):
  Meets (Builtin.«zip.__new__» ⟨[.type "zip",.ref l1,.ref l2],[]⟩) (fun Z R s=>s.heap.IsList l1 xs∧s.heap.IsTuple l2 ys∧
   R (.ok (.ret (.ref (Fb s.heap l1 l2).objs.size))) {s with heap:=vF s.heap l1 l2}):=
 .of_wp fun prog w A R s h=>by
  obtain⟨hp,g,d,tk,os⟩:=s;obtain⟨rU,j8,h⟩:=h
  have kY:=sub_zip
  have hL1:Heap.IsList (Shared.heap ⟨hp,g,d,tk,os⟩) l1 xs:=rU
  have hL2:Heap.IsTuple (Shared.heap ⟨hp.push {cls:=.type "list_iterator",data:=.fields #[.ref l1,.int 0 0]},g,d,tk,os⟩) l2 ys:=Heap.IsTuple.push j8 _
  wp_walk using wpAny_pyIter_list hL1,wpAny_pyIter_tuple hL2
  exact⟨_,rfl,h⟩
section
variable{prog:Program}{w:World}{A:Around}{E:Value→Shared→Prop}{s:Shared}
theorem aai{l1 l2:Addr}{xs ys:Array Value}{Q:Value→Shared→Prop}(rU:s.heap.IsList l1 xs)(j8:s.heap.IsTuple l2 ys)
  (h:∀h',IsZip h' (s.heap.objs.size+4) (s.heap.objs.size+2) (s.heap.objs.size+3) .none→IsPair h' (s.heap.objs.size+2) (.ref s.heap.objs.size) (.ref (s.heap.objs.size+1))→
   IsPair h' (s.heap.objs.size+3) .none .none→h'.IsListIter s.heap.objs.size l1 0→h'.IsTupleIter (s.heap.objs.size+1) l2 0→h'.objs.size=s.heap.objs.size+5→
   (∀c o,s.heap.get? c=some o→h'.get? c=some o)→Q (.ref (s.heap.objs.size+4)) {s with heap:=h'}):
  wpAny (model prog w) A (call (.type "zip") [.ref l1,.ref l2]) Q E s:=by
 refine callType_new F.called_zip (by decide) (F.typeCall_zip_2 _ _) (F.newCall_zip_2 _ _) (fun obj=>F.args_object_init_3 obj _ _) F.entry_zip_new
  (Y5 l1 l2 xs ys) ⟨rU,j8,?_⟩
 have z1:(E7 s.heap l1).objs.size=s.heap.objs.size+1:=Heap.size_push ..
 have z2:(E9 s.heap l1 l2).objs.size=s.heap.objs.size+2:=by rw[Heap.size_push,z1]
 have z3:(E_ s.heap l1 l2).objs.size=s.heap.objs.size+3:=by rw[Heap.size_push,z2]
 have z4:(Fb s.heap l1 l2).objs.size=s.heap.objs.size+4:=by rw[Heap.size_push,z3]
 have z5:(vF s.heap l1 l2).objs.size=s.heap.objs.size+5:=by rw[Heap.size_push,z4]
 have g5:(vF s.heap l1 l2).get? (Fb s.heap l1 l2).objs.size=some _:=bf _ rfl
 have g4:(vF s.heap l1 l2).get? (E_ s.heap l1 l2).objs.size=some _:=aX _ (bf _ rfl)
 have g3:(vF s.heap l1 l2).get? (E9 s.heap l1 l2).objs.size=some _:=aX _ (aX _ (bf _ rfl))
 have g2:(vF s.heap l1 l2).get? (E7 s.heap l1).objs.size=some _:=aX _ (aX _ (aX _ (bf _ rfl)))
 have g1:(vF s.heap l1 l2).get? s.heap.objs.size=some _:=aX _ (aX _ (aX _ (aX _ (bf _ rfl))))
 show _∧_
 rw[z2,z3,z4]at g5
 rw[z1,z2]at g3
 rw[z3]at g4
 rw[z1]at g2
 rw[z4]
 exact⟨⟨_,g5,rfl⟩,h _ g5 g3 g4 ⟨_,g1,rfl,rfl⟩ ⟨_,g2,rfl,rfl⟩ z5 fun c o x=>
  aX _ (aX _ (aX _ (aX _ (aX _ x))))⟩
end
section
variable{c:Cx}{g:FC}{n:Nat}{A:Around}{env:Env}{f:Fr}{ρ:List Addr}{σ:List MO}{s:Shared}{tb:Tb}{gl:Str→Option J}{gz:Str→Bool}
theorem SR.VN(sr:SR c ρ σ s){wr:List Addr}{T:Addr}{j:Nat}{h':Heap}{t:Nat}(k:∀b o,b∉wr→b≠T→s.heap.get? b=some o→h'.get? b=some o)
  (hw:∀b∈wr,dY c ρ b∧c.h0.get? b=none∧∃o,s.heap.get? b=some o∧isIt o=true) (hj:ρ[j]? =some T) (hs:σ[j]? =some .pair) (hT:∃a b:Value,h'.get? T=some {cls:=.type "tuple",data:=.seq #[a,b]}):
  SR c ρ σ {s with heap:=h',toks:=t}∧kT ρ s.heap ρ h':=by
 have hm:=a0 hj
 have ext:kT ρ s.heap ρ h':=⟨⟨[],(List.append_nil ρ).symm,fun Z ha=>nomatch ha⟩,fun b o e hb hi=>⟨o,k b o (fun hm=>(hw b hm).2.2.elim fun o' y=>Bool.noConfusion (hi.symm.trans (aV (y.1.symm.trans e)▸y.2))) (fun q=>hb (q▸hm)) e,Sm.refl _⟩⟩
 refine⟨⟨sr.gens,sr.os,sr.len,sr.nodup,sr.fresh,Ax sr.old fun b o e=>?_,fun b hb=>let q:=sr.d9 b hb;⟨q.1,q.2.1,q.2.2.elim fun o q2=>⟨o,k b o (fun z=>(hw b z).1.2 hb) (fun z=>q.2.1 (z▸hm)) q2⟩⟩,fun i a mo e1 e2=>?_⟩,ext⟩
 ·exact(sr.old.there b o e).elim fun o' e'=>(k b o' (fun hm=>cw ((hw b hm).2.1.symm.trans e)) (fun q=>cw ((sr.fresh T hm).symm.trans (q▸e))) e').trans e'.symm
 ·rcases Nat.decEq i j with hi|hi
  ·exact(sr.obj i a mo e1 e2).EZ ext fun o e=>k a o (fun hm=>(hw a hm).1.1 (a0 e1)) (Eu (m:=0) sr.nodup e1 hj hi) e
  ·subst hi
   exact aV (hs.symm.trans e2)▸aV (hj.symm.trans e1)▸hT
noncomputable def IN(c:Cx)(n:Nat)(tg:Expr)(T:String)(m:List J→List MO→Out Src):Prop:=
 ∀A ρ σ s l L,g0 A n→Frs c A s.heap→SR c ρ σ s→dh c ρ s.heap l L→∀r cG,m l σ=some (r,cG)→∀(Q:Value→Shared→Prop) (E:Value→Shared→Prop),
  (∀items d cW I wr St cD,r=.ok (items,d)→Ext ρ s.heap cW cD.heap→SR c cW cG cD→It c A tg I items d wr St→St 0 cW cD.heap→(∀b∈wr,s.heap.get? b=none)→Q (.ref I) cD)→
  wpAny (model c.prog c.w) A (call (.type T) L) (fun V cD=>wpAny (model c.prog c.w) A (pyIter V) Q E cD) E s
def mZ(m:List J→List MO→Out Src)(xs:Fr→List MO→Out (List J))(f:Fr)(σ:List MO):Out Src:=dk (xs f σ) m
theorem DI.typ(Fa:Facts c gl gz){x:Str}{T:String}{tg e:Expr}{es:List Expr}{p pos:Pos}{xs:Fr→List MO→Out (List J)}{m:List J→List MO→Out Src}(hn:gz x=true)(hb:bootBuiltins x=some (.type T))(hk:g.scope.names.lookup x=some .globalImplicit)
  (hd:(x==("__debug__":Str))=false) (h:bV c g n (e::es) xs) (hu:(e::es).all jf=true) (hC:IN c n tg T m):DI c g n tg (.Call (.Name x p) (e::es) [] pos) (mZ m xs):=by
 intro A env f ρ σ s hr he sr r cG hx Q E hQ hE
 have hq:=h.run A env f ρ σ s pos hr he sr
 rw[o_ hu]at hq
 rw[t6 rfl]
 refine bC (Fa.builtin sr he hn hb hk hd (PySem.callWith_type (by rw[An hu]) ?_))
 rw[o_ hu]
 refine evalArgs_plain (hq.step (Rel':=fun _ _ (_:Src) (_:Value)=>True) (Q':=fun Z Z=>True) hx ⟨fun Z Z Z Z Z Z Z Z=>trivial,hE⟩ fun l L cW σ₁ cD e1 cY rl dB P1=>?_)
 exact hC A cW σ₁ cD l L hr (he.mono e1).nM cY rl r cG dB Q E fun items d ρ₂ I wr St fu h1 h2 h3 h4 h5 h6=>hQ items d ρ₂ I wr St fu h1 (e1.trans h2) h3 h4 h5 fun b hb=>ve e1 (h6 b hb)
noncomputable def pv:Nat→Nat→List J
 |_,0=>[]
 |i,k+1=>.int (Int.ofNat i)::pv (i+1) k
theorem H9:∀i k,(pv i k).length=k
 |_,0=>rfl
 |i,k+1=>by rw[pv,List.length_cons,H9]
theorem P9:∀i k j,j<k→(pv i k)[j]? =some (.int (Int.ofNat (i+j)))
 |_,0,_,h=>absurd h (Nat.not_lt_zero _)
 |i,k+1,0,_=>rfl
 |i,k+1,j+1,h=>(P9 (i+1) k j (Nat.lt_of_succ_lt_succ h)).trans (congrArg (fun x=>some (J.int (Int.ofNat x))) (Nat.succ_add i j))
noncomputable def iN{α:Type}(i:Int)(k:Nat→Option α):Option α:=@Int.casesOn (fun Z=>Option α) i k fun Z=>none
theorem QR{α:Type}{i:Int}{k:Nat→Option α}{r:α}:iN i k=some r→∃n,i=.ofNat n∧k n=some r:=@Int.casesOn (fun i=>iN i k=some r→∃n,i=.ofNat n∧k n=some r) i (fun n h=>⟨n,rfl,h⟩) fun Z h=>cw h
def uk(l:List J)(σ:List MO):Out Src:=l1 l fun v=>vI v fun i=>iN i fun k=>gd (Nat.ble k 1000) (ok (pv 0 k,none) σ)
def Sl(c:Cx)(I:Addr)(k:Nat)(i:Nat)(ρ:List Addr)(h:Heap):Prop:=IsRangeIter h I (0+(i:Int)) ((k:Int) - i) 1∧dY c ρ I∧c.h0.get? I=none
theorem It.wQ(hh:A.handled=none)(tg:Expr)(I:Addr)(k:Nat):It c A tg I (pv 0 k) none [I] (Sl c I k)where
 mono:=fun i ρ cC h h' x e=>⟨e.exact x.1 x.2.1.1 rfl,e.out x.2.1 x.1,x.2.2⟩
 item:=fun i ρ σ s v Q E hv st sr Z hQ=>by
  have hi:i<k:=H9 0 k▸(aZ hv).1
  obtain rfl:=aV ((P9 0 k i hi).symm.trans hv)
  refine wpAny_pyNext_range_item st.1 (Int.sub_pos.mpr (Int.ofNat_lt.mpr hi)) fun h' hit hs=>?_
  have kk:=yY hs.extBut
  refine⟨_,rfl,PF (s:={s with heap:=h',toks:=s.toks+1}) hit rfl rfl (by decide) (hQ _ h' (s.toks+1) kk (sr.wr kk (EH (s:=s) st.2.1 st.2.2 st.1 rfl)) ?_ ⟨?_,st.2⟩)⟩
  ·rw[Int.zero_add,Nat.zero_add]
   exact .int _ _
  ·have e1:(0+(i:Int))+1=0+((i+1:Nat):Int):=Int.add_assoc ..
   have e2:((k:Int) - i) - 1=(k:Int) - ((i+1:Nat):Int):=Int.sub_sub ..
   exact e1▸e2▸hit
 done:=fun ρ σ s Q E st sr Z hQ=>by
  rw[H9]at st
  refine wpAny_pyNext_range_end hh st.1 (by omega) fun h' hs=>hQ h' s.toks (yY hs) (sr.wr (yY hs) (EH (s:=s) st.2.1 st.2.2 st.1 rfl))
 self:=fun i ρ s Q E st hQ=>wpAny_pyIter_rangeiter st.1 hQ
theorem IN.wQ{tg:Expr}:IN c n tg "range" uk:=by
 intro A ρ σ s l L hr hf sr rl r cG hx Q E hQ
 refine zz fun GG KK=>?_
 obtain⟨v,rfl,hx⟩:=AF hx
 obtain⟨x,rfl,hx⟩:=t8 hx
 obtain⟨k,rfl,hx⟩:=QR hx
 obtain⟨hk,hx⟩:=gK hx
 obtain⟨V,L',rfl,r1,r2⟩:=rl.gr
 obtain rfl:=r2.i9
 obtain⟨tk,rfl⟩:∃t,V=.int (.ofNat k) t:=r1.inv
 have hk:k≤1000:=bw hk
 have j6:Builtin.Range.rangeSize 0 (Int.ofNat k) 1=k:=by
  rw[rangeSize_one]
  show(if(0:Int)<(k:Int)then(k:Int) - 0 else 0)=k
  split<;>omega
 refine KK (call_range_1 (wpAny_pyIter_range (IsRange.new ..) (small_one (by omega) (by omega) (by show _≤(k:Int);omega) (by show(k:Int)<_;omega)) ?_))
 rw[j6]
 generalize hH:s.heap.push {cls:=.type "range",data:=.fields #[.int 0 s.toks,.int (Int.ofNat k) tk,.int 1 (s.toks+1)]}=H
 have hz:H.objs.size=s.heap.objs.size+1:=hH▸Heap.size_push ..
 have k1:∀b o,s.heap.get? b=some o→(H.push {cls:=.type "range_iterator",data:=.fields #[rawInt 0,rawInt k,rawInt 1]}).get? b=some o:=fun b o e=>aX _ (hH▸aX _ e)
 have fr:s.heap.get? H.objs.size=none:=Heap.get?_none_of_le (hz▸Nat.le_succ _)
 have hit:IsRangeIter (H.push {cls:=.type "range_iterator",data:=.fields #[rawInt 0,rawInt k,rawInt 1]}) H.objs.size (0+((0:Nat):Int)) ((k:Int) - ((0:Nat):Int)) 1:=(bf _ rfl).trans (by simp)
 exact hQ (pv 0 k) none ρ _ _ (Sl c _ k) _ (iA hx).1 (Ext.keeps k1) ((iA hx).2.symm▸sr.keeps k1) (It.wQ hr.calm tg _ k) ⟨hit,lM sr fr,sr.pb fr⟩ fun b hb=>a_ hb▸fr
end
section
variable{c:Cx}{g:FC}{n:Nat}{A:Around}{env:Env}{f:Fr}{ρ:List Addr}{σ:List MO}{s:Shared}{tb:Tb}{gl:Str→Option J}{gz:Str→Bool}
noncomputable def vG(i:Nat)(l:List J):List J:=@List.rec J (fun Z=>Nat→List J) (fun Z=>[]) (fun v Z ih i=>.tup [.int (Int.ofNat i),v]::ih (i+1)) l i
theorem O4:∀i l,(vG i l).length=l.length
 |_,[]=>rfl
 |i,_::l=>congrArg Nat.succ (O4 (i+1) l)
theorem O5:∀i l j v,(vG i l)[j]? =some v→∃x,l[j]? =some x∧v=J.tup [J.int (Int.ofNat (i+j)),x]
 |_,[],_,_,h=>cw h
 |i,y::l,0,v,h=>⟨y,rfl,(aV h).symm⟩
 |i,y::l,j+1,v,h=>(O5 (i+1) l j v h).elim fun x z=>⟨x,z.1,z.2.trans (congrArg (fun k=>J.tup [J.int (Int.ofNat k),x]) (Nat.succ_add i j))⟩
theorem yR{q:Bool}{h:Heap}{l:Addr}{Vs:List Value}{m:Nat}(e:h.get? l=some (n_ q Vs m)):oO q h l Vs.toArray:=by
 cases q with
 |true=>exact(⟨_,e,rfl,_,rfl⟩:h.IsTuple l Vs.toArray)
 |false=>exact(⟨_,e,rfl,_,rfl⟩:h.IsList l Vs.toArray)
def By(c:Cx)(q:Bool)(e it ax:Addr)(l:List J)(i:Nat)(ρ:List Addr)(h:Heap):Prop:=
 (∃old,IsEnum h e it i old)∧iR q h it ax i∧dY c ρ e∧dY c ρ it∧c.h0.get? e=none∧c.h0.get? it=none∧∃Vs m,h.get? ax=some (n_ q Vs m)∧dY c ρ ax∧dh c ρ h l Vs
theorem By.mono{q:Bool}{e it ax:Addr}{l:List J}{i:Nat}{ρ cC:List Addr}{h h':Heap}(x:By c q e it ax l i ρ h)(k:Ext ρ h cC h'):By c q e it ax l i cC h':=by
 refine zz fun GG KK=>?_
 obtain⟨⟨old,h1⟩,h2,h3,h4,h5,h6,Vs,m,h7,h8,h9⟩:=x
 obtain⟨o,eo,_,hi,_⟩:=h2.obj
 exact KK ⟨⟨old,k.exact h1 h3.1 rfl⟩,h2.at fun o' e'=>(k.exact eo h4.1 hi).trans (eo.symm.trans e'),k.out h3 h1,k.out h4 eo,h5,h6,Vs,m,k.exact h7 h8.1 (Im q Vs m).1,k.out h8 h7,h9.mono k⟩
theorem JF{α:Type}{a b x:α}(h1:x≠a)(h2:x≠b):x∉[a,b]:=fun h=>(List.mem_cons.mp h).elim h1 fun h=>h2 (a_ h)
theorem Ce{α:Type}{a b x:α}(h:x∉[a,b]):x≠a∧x≠b:=⟨fun z=>h (z▸bo),fun z=>h (bk _ (z▸List.mem_singleton_self _))⟩
theorem ER{a b:Addr}{P:Addr→Prop}(h1:P a)(h2:P b):∀x∈[a,b],P x:=fun Z h=>(List.mem_cons.mp h).elim (fun e=>e▸h1) fun h=>a_ h▸h2
theorem It.enum(hh:A.handled=none)(q:Bool){elts:List Expr}{kx:Nat}{pos:Pos}{e it ax:Addr}(d1:e≠it)(d2:ax≠e)(d3:ax≠it)(l:List J):It c A (.Tuple elts kx pos) e (vG 0 l) none [e,it] (By c q e it ax l)where
 mono:=fun i ρ cC h h' x e=>x.mono e
 item:=fun i ρ σ s v Q E hv st sr Z hQ=>by
  refine zz fun GG KK=>?_
  obtain⟨⟨old,h1⟩,h2,h3,h4,h5,h6,Vs,m,h7,h8,h9⟩:=st
  obtain⟨x,hx,rfl⟩:=O5 0 l i v hv
  obtain⟨V,hV,rv⟩:=h9.get hx
  obtain⟨o,eo,wz,_⟩:=h2.obj
  have hw:∀b∈[e,it],dY c ρ b∧c.h0.get? b=none∧∃o,s.heap.get? b=some o∧isIt o=true:=ER ⟨h3,h5,_,h1,rfl⟩ ⟨h4,h6,o,eo,wz⟩
  refine KK (wpAny_pyNext_enum_itemD (P8 (prog:=c.prog) (w:=c.w) (A:=A.in1) q hh it ax d3 Vs.toArray) h1 ⟨h2,yR h7⟩ (aZ hV).1 d1 (JF d1 (Ne.symm d2)) fun x' h' tk hP ho agQ hT j6 hk=>?_)
  obtain rfl:=aV (hV.symm.trans (List.getElem?_toArray.symm.trans hP))
  refine⟨_,rfl,wpAny_letOwnedTupleGo_enum ho fun pJ agR pA=>?_⟩
  have kk:∀b o,b∉[e,it]→s.heap.get? b=some o→pJ.get? b=some o:=fun b o hb x=>(pA.2 b (Ce hb).1).trans (hk b o (Ce hb).1 (Ce hb).2 x)
  refine hQ _ pJ (tk+1) kk (sr.wr (t:=tk+1) kk hw) (.tup (Vs:=[.int i tk,V]) (n:=0) ((pA.2 _ (Nat.ne_of_gt (Heap.lt_size h1))).trans hT) (lM sr (kS _)) (.cons ((Nat.zero_add i).symm▸.int _ _) (.cons (rv.wr kk fun b hb=>(hw b hb).2.2) .nil))) ?_
  exact⟨⟨_,agR⟩,agQ.1.at fun o' z=>(pA.2 _ (Ne.symm d1)).trans z,h3,h4,h5,h6,Vs,m,kk ax _ (JF d2 d3) h7,h8,dh.l7 (QJ kk hw) h9⟩
 done:=fun ρ σ s Q E st sr Z hQ=>by
  refine zz fun GG KK=>?_
  obtain⟨⟨old,h1⟩,h2,h3,h4,h5,h6,Vs,m,h7,h8,h9⟩:=st
  obtain⟨o,eo,wz,_⟩:=h2.obj
  have hn:(vG 0 l).length=Vs.toArray.size:=(O4 0 l).trans h9.length.symm
  refine KK (wpAny_pyNext_enum_endD (P8 (prog:=c.prog) (w:=c.w) (A:=A.in1) q hh it ax d3 Vs.toArray) h1 ⟨hn▸h2,yR h7⟩ fun h' hs=>?_)
  have kk:∀b o,b∉[e,it]→s.heap.get? b=some o→h'.get? b=some o:=fun b o hb x=>hs b o (Ce hb).2 x
  exact hQ h' s.toks kk (sr.wr kk (ER ⟨h3,h5,_,h1,rfl⟩ ⟨h4,h6,o,eo,wz⟩))
 self:=fun i ρ s Q E st hQ=>st.1.elim fun Z h1=>wpAny_pyIter_enum h1 hQ
def Fd(l:List J)(σ:List MO):Out Src:=l1 l fun v=>oh v (fun l=>ok (vG 0 l,none) σ) (fun l=>ok (vG 0 l,none) σ) fun Z=>none
theorem IN.enum{elts:List Expr}{kx:Nat}{pos:Pos}:IN c n (.Tuple elts kx pos) "enumerate" Fd:=by
 intro A ρ σ s l L hr hf sr rl r cG hx Q E hQ
 have fin:∀(q:Bool) (l:List J) (ax:Addr) (Vs:List Value) (m:Nat) (h':Heap),s.heap.get? ax=some (n_ q Vs m)→dY c ρ ax→dh c ρ s.heap l Vs→ok (vG 0 l,none) σ=some (r,cG)→
   IsEnum h' (s.heap.objs.size+1) s.heap.objs.size 0 .none→iR q h' s.heap.objs.size ax 0→(∀b o,s.heap.get? b=some o→h'.get? b=some o)→
   wpAny (model c.prog c.w) A (pyIter (.ref (s.heap.objs.size+1))) Q E {s with heap:=h'}:=fun q l ax Vs m h' VO hn Cf hx he hit k=>
  have f0:s.heap.get? s.heap.objs.size=none:=kS _
  have f1:s.heap.get? (s.heap.objs.size+1)=none:=Heap.get?_none_of_le (Nat.le_succ _)
  have gD:=Heap.lt_size VO
  have e1:Ext ρ s.heap ρ h':=Ext.keeps k
  wpAny_pyIter_enum he (hQ _ none ρ _ [s.heap.objs.size+1,s.heap.objs.size] (By c q (s.heap.objs.size+1) s.heap.objs.size ax l) _ (iA hx).1 e1 ((iA hx).2.symm▸sr.keeps (t:=s.toks) k) (It.enum (e:=s.heap.objs.size+1) (it:=s.heap.objs.size) (ax:=ax) hr.calm q (Nat.succ_ne_self _) (bx (Nat.lt_succ_of_lt gD)) (bx gD) l)
   ⟨⟨_,he⟩,hit,lM sr f1,lM sr f0,sr.pb f1,sr.pb f0,Vs,m,k _ _ VO,hn,Cf.mono e1⟩ (ER f1 f0))
 refine zz fun GG KK=>?_
 obtain⟨v,rfl,hx⟩:=AF hx
 obtain⟨V,L',rfl,r1,r2⟩:=rl.gr
 obtain rfl:=r2.i9
 exact KK (H6 (G:=fun V=>wpAny (model c.prog c.w) A (call (.type "enumerate") [V]) (fun V cD=>wpAny (model c.prog c.w) A (pyIter V) Q E cD) E s) r1 hx
  (fun Z Z Z Z e hn Cf q=>X_ (⟨_,e,rfl,_,rfl⟩:s.heap.IsTuple _ _) fun h' he hit j6 k=>fin true _ _ _ _ h' e hn Cf q he hit k)
  (fun Z Z Z Z e hn Cf q=>call_enumerate_list (⟨_,e,rfl,_,rfl⟩:s.heap.IsList _ _) fun h' he hit j6 k=>fin false _ _ _ _ h' e hn Cf q he hit k) fun Z Z Z q=>cw q)
end
section
variable{c:Cx}{g:FC}{n:Nat}{A:Around}{env:Env}{f:Fr}{ρ:List Addr}{σ:List MO}{s:Shared}{tb:Tb}{gl:Str→Option J}{gz:Str→Bool}
noncomputable def v_(l m:List J):List J:=@List.rec J (fun Z=>List J→List J) (fun Z=>[]) (fun x Z ih m=>@List.casesOn J (fun Z=>List J) m [] fun y m=>.tup [x,y]::ih m) l m
theorem P_:∀(l m:List J) (j:Nat) (v:J),(v_ l m)[j]? =some v→∃x y,l[j]? =some x∧m[j]? =some y∧v=J.tup [x,y]
 |[],_,_,_,h=>cw h
 |_::_,[],_,_,h=>cw h
 |x::l,y::m,0,v,h=>⟨x,y,rfl,rfl,(aV h).symm⟩
 |x::l,y::m,j+1,v,h=>P_ l m j v h
theorem Qa:∀(l m:List J),l[(v_ l m).length]? =none∨m[(v_ l m).length]? =none
 |[],_=>.inl rfl
 |_::_,[]=>.inr rfl
 |_::l,_::m=>Qa l m
structure vH(c:Cx)(q:Bool)(j:Nat)(z TI TO i1 i2 l1 l2:Addr)(xs ys:List J)(i:Nat)(ρ:List Addr)(h:Heap):Prop where
 hj:ρ[j]? =some TO
 hz:IsZip h z TI TO .none
 nO:IsPair h TI (.ref i1) (.ref i2)
 h1:iR false h i1 l1 i
 h2:iR q h i2 l2 i
 zn:dY c ρ z
 Tn:dY c ρ TI
 n1:dY c ρ i1
 n2:dY c ρ i2
 z0:c.h0.get? z=none
 z1:c.h0.get? i1=none
 z2:c.h0.get? i2=none
 s1:∃Vs m,h.get? l1=some (n_ false Vs m)∧dY c ρ l1∧dh c ρ h xs Vs
 s2:∃Vs m,h.get? l2=some (n_ q Vs m)∧dY c ρ l2∧dh c ρ h ys Vs
theorem O6{q:Bool}{ρ cC:List Addr}{h h':Heap}{I l i:Nat}(x:iR q h I l i)(k:Ext ρ h cC h')(hn:dY c ρ I):iR q h' I l i∧dY c cC I:=
 x.obj.elim fun o y=>⟨x.at fun o' e'=>(k.exact y.1 hn.1 y.2.2.1).trans (y.1.symm.trans e'),k.out hn y.1⟩
theorem vH.mono{q:Bool}{j:Nat}{z TI TO i1 i2 l1 l2:Addr}{xs ys:List J}{i:Nat}{ρ cC:List Addr}{h h':Heap}(x:vH c q j z TI TO i1 i2 l1 l2 xs ys i ρ h)(k:Ext ρ h cC h'):vH c q j z TI TO i1 i2 l1 l2 xs ys i cC h':=
 have sq:∀{q:Bool} {l:Addr} {xs:List J},(∃Vs m,h.get? l=some (n_ q Vs m)∧dY c ρ l∧dh c ρ h xs Vs)→∃Vs m,h'.get? l=some (n_ q Vs m)∧dY c cC l∧dh c cC h' xs Vs:=fun y=>y.elim fun Vs y=>y.elim fun m y=>⟨Vs,m,k.exact y.1 y.2.1.1 (Im _ Vs m).1,k.out y.2.1 y.1,y.2.2.mono k⟩
 have p1:=O6 x.h1 k x.n1
 have p2:=O6 x.h2 k x.n2
 ⟨k.get x.hj,k.exact x.hz x.zn.1 rfl,k.exact x.nO x.Tn.1 rfl,p1.1,p2.1,k.out x.zn x.hz,k.out x.Tn x.nO,p1.2,p2.2,x.z0,x.z1,x.z2,sq x.s1,sq x.s2⟩
theorem iR.is{q:Bool}{h:Heap}{I l i:Nat}(x:iR q h I l i):∃o,h.get? I=some o∧isIt o=true:=x.obj.elim fun o y=>⟨o,y.1,y.2.1⟩
theorem QS{l:List J}{Vs:List Value}{h:Heap}{i:Nat}(r:dh c ρ h l Vs)(e:l[i]? =none):Vs.toArray[i]? =none:=List.getElem?_toArray.trans (List.getElem?_eq_none (Nat.le_trans (Nat.le_of_eq r.length) (List.getElem?_eq_none_iff.mp e)))
theorem Lc{α:Type}{a b d x:α}(h:x∉[a,b,d]):x≠a∧x≠b∧x≠d:=⟨fun z=>h (z▸bo),Ce fun z=>h (bk _ z)⟩
theorem agS{α:Type}{a b d x:α}(h1:x≠a)(h2:x≠b)(h3:x≠d):x∉[a,b,d]:=fun h=>(List.mem_cons.mp h).elim h1 (JF h2 h3)
theorem Qb{a b d:Addr}{P:Addr→Prop}(h1:P a)(h2:P b)(h3:P d):∀x∈[a,b,d],P x:=fun Z h=>(List.mem_cons.mp h).elim (fun e=>e▸h1) (ER h2 h3 _)
theorem vH.got{q:Bool}{j:Nat}{z TI TO i1 i2 l1 l2:Addr}{xs ys:List J}{i:Nat}(st:vH c q j z TI TO i1 i2 l1 l2 xs ys i ρ s.heap)(sr:SR c ρ σ s)(hg:oi (some j) σ=true):
  σ[j]? =some .pair∧(∃a b,IsPair s.heap TO a b)∧∀b∈[z,i1,i2],dY c ρ b∧c.h0.get? b=none∧∃o,s.heap.get? b=some o∧isIt o=true:=
 have hs:σ[j]? =some .pair:=(il _ _).symm.trans (abA hg)
 ⟨hs,(sr.at hs).elim fun T y=>aV (y.1.symm.trans st.hj)▸y.2,Qb ⟨st.zn,st.z0,_,st.hz,rfl⟩ ⟨st.n1,st.z1,st.h1.is⟩ ⟨st.n2,st.z2,st.h2.is⟩⟩
theorem VP{z TO i1 i2:Addr}{h h':Heap}(k:∀b o,b∉[z,i1,i2]→b≠TO→h.get? b=some o→h'.get? b=some o):∀b o,b∉[z,TO,i1,i2]→h.get? b=some o→h'.get? b=some o:=fun b o hb=>
 have w:=Lc fun w=>hb (bk _ w)
 k b o (agS (fun w=>hb (w▸bo)) w.2.1 w.2.2) w.1
theorem It.zip(hh:A.handled=none)(q:Bool){elts:List Expr}{kx:Nat}{pos:Pos}{j:Nat}{z TI TO i1 i2 l1 l2:Addr}(D:ZipApart z TI TO i1 i2 l1 l2)(xs ys:List J):
  It c A (.Tuple elts kx pos) z (v_ xs ys) (some j) [z,TO,i1,i2] (vH c q j z TI TO i1 i2 l1 l2 xs ys)where
 mono:=fun i ρ cC h h' x e=>x.mono e
 item:=fun i ρ σ s v Q E hv st sr hg hQ=>by
  refine zz fun GG KK=>?_
  obtain⟨x,y,hx,hy,rfl⟩:=P_ xs ys i v hv
  obtain⟨hs,⟨a,b,oq⟩,hw⟩:=st.got sr hg
  obtain⟨Vs,m,a1,a2,a3⟩:=st.s1
  obtain⟨Ws,m',b1,b2,b3⟩:=st.s2
  obtain⟨V,hV,rv⟩:=a3.get hx
  obtain⟨W,hW,Ld⟩:=b3.get hy
  have VQ:Vs.toArray[i]? =some V:=List.getElem?_toArray.trans hV
  have VR:Ws.toArray[i]? =some W:=List.getElem?_toArray.trans hW
  refine KK (OI hh D st.hz st.nO oq st.h1 st.h2 (yR a1) (yR b1) (fun V1 W1 g1 g2 h' q1 q2 q3 q4 q5 q6 q7=>?_) fun hn=>hn.elim (fun w=>cw (w.symm.trans VQ)) fun w=>cw (w.symm.trans VR))
  obtain rfl:=aV (VQ.symm.trans g1)
  obtain rfl:=aV (VR.symm.trans g2)
  refine⟨_,rfl,wpAny_letOwnedTupleGo_zip q1 fun pJ agT pA=>?_⟩
  have keep:∀b o,b≠z→b≠i1→b≠i2→b≠TO→s.heap.get? b=some o→pJ.get? b=some o:=fun b o w1 w2 w3 w4 e=>(pA.2 b w1).trans (q7 b o w1 w4 w2 w3 e)
  have kk:∀b o,b∉[z,i1,i2]→b≠TO→s.heap.get? b=some o→pJ.get? b=some o:=fun b o hb Lf e=>let w:=Lc hb;keep b o w.1 w.2.1 w.2.2 Lf e
  have u:=sr.VN (t:=s.toks) (h':=pJ) kk hw st.hj hs ⟨V,W,(pA.2 _ D.TOz).trans q2⟩
  refine hQ _ pJ s.toks (VP kk) u.1 (.tup (Vs:=[V,W]) (n:=0) ((pA.2 _ (Nat.ne_of_gt (Heap.lt_size st.hz))).trans q5) (lM sr (kS _)) (.cons (rv.l7 u.2) (.cons (Ld.l7 u.2) .nil))) ?_
  exact⟨st.hj,agT,keep _ _ D.TIz D.TIi1 D.TIi2 D.TITO st.nO,q3.at fun o e=>(pA.2 _ D.i1z).trans e,q4.at fun o e=>(pA.2 _ D.i2z).trans e,st.zn,st.Tn,st.n1,st.n2,st.z0,st.z1,st.z2,
   ⟨Vs,m,keep _ _ D.l1z D.l1i1 D.l1i2 D.l1TO a1,a2,a3.l7 u.2⟩,⟨Ws,m',keep _ _ D.l2z D.l2i1 D.l2i2 D.l2TO b1,b2,b3.l7 u.2⟩⟩
 done:=fun ρ σ s Q E st sr hg hQ=>by
  refine zz fun GG KK=>?_
  obtain⟨hs,⟨a,b,oq⟩,hw⟩:=st.got sr hg
  obtain⟨Vs,m,a1,a2,a3⟩:=st.s1
  obtain⟨Ws,m',b1,b2,b3⟩:=st.s2
  refine KK (OI hh D st.hz st.nO oq st.h1 st.h2 (yR a1) (yR b1) (fun V W g1 g2=>(Qa xs ys).elim (fun w=>cw ((QS a3 w).symm.trans g1)) fun w=>cw ((QS b3 w).symm.trans g2)) fun Z h' hk hp=>?_)
  have kk:∀b o,b∉[z,i1,i2]→b≠TO→s.heap.get? b=some o→h'.get? b=some o:=fun b o hb Lf e=>let w:=Lc hb;hk b o w.1 Lf w.2.1 w.2.2 e
  exact hQ h' s.toks (VP kk) (sr.VN (t:=s.toks) (h':=h') kk hw st.hj hs hp).1
 self:=fun i ρ s Q E st hQ=>wpAny_pyIter_zip st.hz hQ
theorem apart_new(N x y:Nat)(h1:x<N)(h2:y<N):ZipApart (N+4) (N+2) (N+3) N (N+1) x y:=
 {TIz:=bx (by omega),TOz:=bx (by omega),i1z:=bx (by omega),i2z:=bx (by omega),TITO:=bx (by omega),TIi1:=Nat.ne_of_gt (by omega),TIi2:=Nat.ne_of_gt (by omega),TOi1:=Nat.ne_of_gt (by omega),TOi2:=Nat.ne_of_gt (by omega),i12:=bx (by omega),l1z:=bx (by omega),l1TO:=bx (by omega),l1i1:=bx (by omega),l1i2:=bx (by omega),l2z:=bx (by omega),l2TO:=bx (by omega),l2i1:=bx (by omega),l2i2:=bx (by omega)}
def Bz(l:List J)(σ:List MO):Out Src:=l2 l fun u v=>vL u fun l=>oh v (fun m=>ok (v_ l m,some σ.length) (σ++[.pair])) (fun m=>ok (v_ l m,some σ.length) (σ++[.pair])) fun Z=>none
theorem QU{N a:Addr}(ha:dY c ρ a)(hn:a≠N):dY c (ρ++[N]) a:=⟨fun hm=>(bg hm).elim ha.1 fun hm=>hn (a_ hm),ha.2⟩
theorem IN.zip{elts:List Expr}{kx:Nat}{pos:Pos}:IN c n (.Tuple elts kx pos) "zip" Bz:=by
 intro A ρ σ s l L hr hf sr rl r cG hx Q E hQ
 have fin:∀(q:Bool) (l m:List J) (a1 a2:Addr) (Vs Ws:List Value) (k1 k2:Nat) (h':Heap),s.heap.get? a1=some (n_ false Vs k1)→dY c ρ a1→dh c ρ s.heap l Vs→s.heap.get? a2=some (n_ q Ws k2)→dY c ρ a2→dh c ρ s.heap m Ws→
   ok (v_ l m,some σ.length) (σ++[.pair])=some (r,cG)→
   IsZip h' (s.heap.objs.size+4) (s.heap.objs.size+2) (s.heap.objs.size+3) .none→IsPair h' (s.heap.objs.size+2) (.ref s.heap.objs.size) (.ref (s.heap.objs.size+1))→
   IsPair h' (s.heap.objs.size+3) .none .none→iR false h' s.heap.objs.size a1 0→iR q h' (s.heap.objs.size+1) a2 0→(∀c o,s.heap.get? c=some o→h'.get? c=some o)→
   wpAny (model c.prog c.w) A (pyIter (.ref (s.heap.objs.size+4))) Q E {s with heap:=h'}:=by
  intro q l m a1 a2 Vs Ws k1 k2 h' VS Kh r1 uB Gk r2 hx hz nO oq rZ pM k
  have fr:∀i,s.heap.get? (s.heap.objs.size+i)=none:=fun i=>Heap.get?_none_of_le (Nat.le_add_right _ _)
  have l1:=Heap.lt_size VS
  have l2:=Heap.lt_size uB
  have Gm:∀i,i≠3→dY c (ρ++[s.heap.objs.size+3]) (s.heap.objs.size+i):=fun i hi=>QU (lM sr (fr i)) fun e=>hi (Nat.add_left_cancel e)
  have Tv:∀a,dY c ρ a→a<s.heap.objs.size→dY c (ρ++[s.heap.objs.size+3]) a:=fun a ha hl=>QU ha (bx (Nat.lt_of_lt_of_le hl (Nat.le_add_right _ 3)))
  generalize s.heap.objs.size=N at*
  have e1:Ext ρ s.heap (ρ++[N+3]) h':=Ext.rk k (fr 3)
  exact wpAny_pyIter_zip hz (hQ _ _ (ρ++[N+3]) _ _ (vH c q σ.length (N+4) (N+2) (N+3) N (N+1) a1 a2 l m) _ (iA hx).1 e1
   ((iA hx).2.symm▸sr.rk (t:=s.toks) (mo:=.pair) k (fr 3) (sr.pb (fr 3)) ⟨_,_,oq⟩) (It.zip hr.calm q (apart_new _ _ _ l1 l2) l m)
   ⟨sr.len▸List.getElem?_concat_length,hz,nO,rZ,pM,Gm 4 (by decide),Gm 2 (by decide),Gm 0 (by decide),Gm 1 (by decide),sr.pb (fr 4),sr.pb (fr 0),sr.pb (fr 1),⟨Vs,k1,k _ _ VS,Tv _ Kh l1,r1.mono e1⟩,⟨Ws,k2,k _ _ uB,Tv _ Gk l2,r2.mono e1⟩⟩
   fun b hb=>(List.mem_cons.mp hb).elim (fun e=>e▸fr 4) (Qb (P:=fun b=>s.heap.get? b=none) (fr 3) (fr 0) (fr 1) b))
 refine zz fun GG KK=>?_
 obtain⟨u,v,rfl,hx⟩:=Ik hx
 obtain⟨l,rfl,hx⟩:=QD hx
 obtain⟨U,L',rfl,q1,q2⟩:=rl.gr
 obtain⟨V,L'',rfl,tm,q3⟩:=q2.gr
 obtain rfl:=q3.i9
 exact KK (@kU.rec c ρ s.heap gm l (fun U Z=>wpAny (model c.prog c.w) A (call (.type "zip") [U,V]) (fun V cD=>wpAny (model c.prog c.w) A (pyIter V) Q E cD) E s) (fun e1 n1 s1=>H6 (G:=fun V=>wpAny (model c.prog c.w) A (call (.type "zip") [.ref _,V]) (fun V cD=>wpAny (model c.prog c.w) A (pyIter V) Q E cD) E s) tm hx
  (fun Z Z Z Z e2 n2 s2 w=>aai (⟨_,e1,rfl,_,rfl⟩:s.heap.IsList _ _) (⟨_,e2,rfl,_,rfl⟩:s.heap.IsTuple _ _) fun h' hz nO oq rZ pM j6 k=>fin true _ _ _ _ _ _ _ _ h' e1 n1 s1 e2 n2 s2 w hz nO oq rZ pM k)
  (fun Z Z Z Z e2 n2 s2 w=>call_zip_2 (⟨_,e1,rfl,_,rfl⟩:s.heap.IsList _ _) (⟨_,e2,rfl,_,rfl⟩:s.heap.IsList _ _) fun h' hz nO oq rZ pM j6 k=>fin false _ _ _ _ _ _ _ _ h' e1 n1 s1 e2 n2 s2 w hz nO oq rZ pM k) fun Z Z Z w=>cw w) U q1.inv)
end
section
variable{c:Cx}{g:FC}{n:Nat}{A:Around}{env:Env}{f:Fr}{ρ:List Addr}{σ:List MO}{s:Shared}{tb:Tb}{gl:Str→Option J}{gz:Str→Bool}
noncomputable def isNil{α:Type}(l:List α):Bool:=@List.rec α (fun Z=>Bool) true (fun Z Z Z=>false) l
theorem vj{α:Type}:∀{l:List α},isNil l=true→l=[]
 |[],_=>rfl
 |_::_,h=>cF h
def Tw(a b:J)(σ:List MO):Out J:=vL b fun l=>gd (isNil l) (vL a fun k=>ok (.bool (qt (isNil k))) σ)
theorem D2.wm:D2 c n (compareOp .NotEq) Tw:=fun A ρ σ s a b Va Vb hr sr ra rb=>
 Den.vL (T:=fun V=>compareOp .NotEq Va V) rb fun l a2 m2 V2 e2 n2 r2=>Den.gd fun hl=>Den.vL (T:=fun V=>compareOp .NotEq V (.ref a2)) ra fun k a1 m1 V1 e1 n1 r1=>by
  obtain rfl:=vj hl
  obtain rfl:=r2.i9
  cases k with
  |nil=>exact Den.now fun Q E P=>(D2.eX A ρ σ s (.lst []) (.lst []) _ _ hr sr (.lst e1 n1 r1) (.lst e2 n2 r2)).run (.ok (.bool false)) σ (by kernel_rfl) Q E P
  |cons v k=>exact Den.now fun Q E P=>r1.gr.elim fun V z=>z.elim fun L z=>SeqAt.RcNeAt.lists_lengths (⟨_,e1,rfl,_,rfl⟩:s.heap.IsList _ _) (⟨_,e2,rfl,_,rfl⟩:s.heap.IsList _ _) (by rw[z.1];rfl) (by have:=hr.units;omega) _ _ _ _ (P.here sr (.bool true))
theorem DE.nK{l r:Expr}{op:CmpOp}{pos:Pos}{x y:X}{m:J→J→List MO→Out J}(hD:D2 c n (compareOp op) m)(h1:DE c g n l x)(h2:DE c g n r y)(hm:behindInMarks op r=false):DE c g n (.Compare l [op] [r] pos) (cB m x y):=by
 refine fun A env f ρ σ s hr he sr=>⟨fun r cG hx Q E P=>?_⟩
 refine wpAny_Compare1 ((h1 A env f ρ σ s hr he sr).step hx P fun a Va cW σ₁ cD e1 cY ra dB P1=>(h2 A env f cW σ₁ cD hr (he.mono e1) cY).step dB P1 fun b Vb ρ₂ fU fu e2 fh rb fC P2=>?_) hm
 exact(hD A ρ₂ fU fu a b Va Vb hr fh (ra.mono e2) rb).run _ _ fC _ _ P2
theorem DT.nK{l r:Expr}{op:CmpOp}{pos:Pos}{x y:X}{m:J→J→List MO→Out J}(hD:D2 c n (compareOp op) m)(h1:DE c g n l x)(h2:DE c g n r y)(hm:behindInMarks op r=false):DT c g n (.Compare l [op] [r] pos) (cZ (cB m x y)):=by
 intro A env f ρ σ s hr he sr
 refine⟨fun r cG hx Q E P=>?_⟩
 unfold cZ cB at hx
 rw[vf]at hx
 refine wpAny_isTrue_Compare1 ((h1 A env f ρ σ s hr he sr).step hx P fun a Va cW σ₁ cD e1 cY ra dB P1=>?_) hm
 rw[vf]at dB
 refine(h2 A env f cW σ₁ cD hr (he.mono e1) cY).step dB P1 fun b Vb ρ₂ fU fu e2 fh rb fC P2=>?_
 exact(hD A ρ₂ fU fu a b Va Vb hr fh (ra.mono e2) rb).step fC P2 fun v V ph qo kL e3 hJ rv m6 P3=>(Den.wj hJ rv).last m6 P3
noncomputable def CN(c:Cx)(n:Nat)(F:Value)(m:List J→List MO→Out J):Prop:=
 ∀A ρ σ s l L,g0 A n→Frs c A s.heap→SR c ρ σ s→dh c ρ s.heap l L→Den c A (cI c) ρ s (call F L) (m l σ)
def mN(m:List J→List MO→Out J)(xs:XL)(f:Fr)(σ:List MO):Out J:=dk (xs f σ) m
theorem DE.bN(Fa:Facts c gl gz){x:Str}{id:String}{e:Expr}{es:List Expr}{p pos:Pos}{xs:XL}{m:List J→List MO→Out J}(hn:gz x=true)(hb:bootBuiltins x=some (.builtin id))(hk:g.scope.names.lookup x=some .globalImplicit)
  (hd:(x==("__debug__":Str))=false) (h:bV c g n (e::es) xs) (hu:(e::es).all jf=true) (hC:CN c n (.builtin id) m):DE c g n (.Call (.Name x p) (e::es) [] pos) (mN m xs):=by
 refine fun A env f ρ σ s hr he sr=>⟨fun r cG hx Q E P=>?_⟩
 have hq:=h.run A env f ρ σ s pos hr he sr
 rw[o_ hu]at hq
 rw[t6 rfl]
 refine bC (Fa.builtin sr he hn hb hk hd (callWith_builtin (by rw[An hu]) ?_))
 rw[o_ hu]
 exact evalArgs_plain (hq.step hx P fun l L cW σ₁ cD e1 cY rl dB P1=>(hC A cW σ₁ cD l L hr (he.mono e1).nM cY rl).last dB P1)
theorem DE.bt(Fa:Facts c gl gz){x:Str}{T:String}{p:Pos}(hn:gz x=true)(hb:bootBuiltins x=some (.type T))(hk:g.scope.names.lookup x=some .globalImplicit)(hd:(x==("__debug__":Str))=false):DE c g n (.Name x p) (ret (.typ T)):=fun A env f ρ σ s hr he sr=>⟨fun r cG hx Q E P=>Fa.builtin sr he hn hb hk hd (P.kA hx sr (.typ T))⟩
def Bg(l:List J)(σ:List MO):Out J:=l2 l fun u v=>vI u fun Z=>vY v fun T=>if T="bool"then ok (.bool false) σ else if T="bytes"then ok (.bool false) σ else if T="int"then ok (.bool true) σ else none
theorem CN.isin:CN c n (.builtin "isinstance") Bg:=fun A ρ σ s l L Z Z sr rl=>Den.l2 (T:=fun L=>call (.builtin "isinstance") L) rl fun u v U V r1 r2=>Den.vI (T:=fun U=>call (.builtin "isinstance") [U,V]) r1 fun x t=>Den.vY (T:=fun V=>call (.builtin "isinstance") [.int x t,V]) r2 fun T=>
 Den.ite (fun h=>h▸Den.now fun Q E P=>IsiPair.int_bool (P.ok _ _ ρ _ rfl (Ext.refl _ _) (sr.toks _) (.bool false)))
  (Den.ite (fun h=>h▸Den.now fun Q E P=>IsiPair.int_bytes (P.ok _ _ ρ _ rfl (Ext.refl _ _) (sr.toks _) (.bool false))) (Den.ite (fun h=>h▸Den.now fun Q E P=>IsiPair.int_int (P.here sr (.bool true))) Den.none))
theorem QV{T:String}{l:List J}{a:Addr}{Vs:List Value}{m:Nat}{o:Obj}(sr:SR c ρ σ s)(hT:T="list"∨T="tuple")(ha:s.heap.get? a=some o)(hc:o.cls=.type T)(hd:o.data=.seq Vs.toArray m)(rl:dh c ρ s.heap l Vs):Den c A (cI c) ρ s (call (.type "list") [.ref a]) (gd (short l) (ok (.lst l) σ)):=
 Den.gd fun hs=>Den.now fun Q E P=>call_list_seq a hT ha hc hd (fun h' c' k hg=>P.ok _ _ ρ _ rfl (Ext.keeps k) (sr.keeps (t:=s.toks) k) (.lst (show h'.get? _=some (gm Vs c')from hg) (lM sr (kS _)) (rl.mono (Ext.keeps k)))) (List.size_toArray.trans rl.length▸qj hs)
theorem C1.list:C1 c n (.type "list") AQ:=fun A ρ σ s v V Z Z sr rv=>Den.oh (T:=fun V=>call (.type "list") [V]) rv (fun Z Z Z Z e Z rl=>QV sr (.inr rfl) e rfl rfl rl) (fun Z Z Z Z e Z rl=>QV sr (.inl rfl) e rfl rfl rl) fun Z Z Z=>Den.none
def ES(v:J)(σ:List MO):Out J:=vD v fun l=>gd (isNil l) (ok (.lst []) σ)
theorem O7{P:Nat→Value→Prop}{acc:Array Value}(h:ItemsOf P acc 0):acc=#[]:=Array.eq_empty_of_size_eq_zero h.1
theorem C1.sorted:C1 c n (.builtin "sorted") ES:=fun A ρ σ s v V hr hf sr rv=>Den.vD (T:=fun V=>call (.builtin "sorted") [V]) rv fun l a L hd hm hn rl=>Den.gd fun hl=>Den.now fun Q E P=>by
 obtain rfl:=vj hl
 obtain rfl:=rl.i9
 obtain⟨ep,lU⟩:=hd.dictAt
 refine call_function_entry kind_sorted plain_sorted entry_sorted (args_sorted1 _) ?_
 unfold Builtin.«sorted»
 refine bC (m:=checkCount "sorted" 1 1 _) (bD ?_)
 refine bC (kdu_collect (A:=A.in1) (kdl_dict (knd:=iS c) (d:=a) (kvs:=[]) (ep:=ep) (by simpa using hm)) (show A.in1.handled=none from hr.calm) lU (Nat.zero_le _) fun h' tk acc hk JG=>?_)
 have h0:=O7 JG
 subst h0
 refine bC (wpAny_newList ?_)
 have Lg:(h'.push (seqObj "list" #[] 0)).get? h'.objs.size=some (seqObj "list" ([]:List Value).toArray 0):=bf _ rfl
 refine bC (wpAny_holding (wpAny_call_entry slot_list_sort ⟨_,Lg,rfl⟩ entry_list_sort (list_sort_tree (ns:=[]) Lg IntsAre.nil (by simp) fun out F5 a1 a2 a3=>⟨_,rfl,?_⟩) (args_list_sort _)))
 refine bD ⟨_,rfl,?_⟩
 have jb:F5=[]:=a2.eq_nil
 subst jb
 have agU:out=#[]:=by
  have:=IntsAre.length a1
  exact Array.eq_empty_of_size_eq_zero (by rw[←Array.length_toList];exact this)
 subst agU
 obtain⟨e,he⟩:=sortedHeap_at (h:=h'.push (seqObj "list" #[] 0)) (vs:=[]) (out:=#[]) Lg
 have kk:∀b o,s.heap.get? b=some o→(sortedHeap (h'.push (seqObj "list" #[] 0)) h'.objs.size [] #[]).get? b=some o:=fun b o x=>by
  have hb:=Heap.lt_size (hk b o x)
  rw[sortedHeap_old (Nat.ne_of_lt hb) (by rw[Heap.size_push];exact Nat.lt_succ_of_lt hb)]
  exact aX _ (hk b o x)
 have fr:s.heap.get? h'.objs.size=none:=ve (ρ:=ρ) (Ext.keeps hk) (kS _)
 exact P.ok _ _ ρ _ rfl (Ext.keeps kk) (sr.keeps (t:=tk) kk) (.lst (show _=some (gm [] e)from he) (lM sr fr) .nil)
end
section
variable{c:Cx}{g:FC}{n:Nat}{A:Around}{env:Env}{f:Fr}{ρ:List Addr}{σ:List MO}{s:Shared}{tb:Tb}{gl:Str→Option J}{gz:Str→Bool}
theorem DE.afh(Fa:Facts c gl gz){x:Str}{e:Expr}{p ap p2 pos:Pos}{y:X}(hn:gz x=true)(hb:bootBuiltins x=some (.type "list"))(hk:g.scope.names.lookup x=some .globalImplicit)
  (hd:(x==("__debug__":Str))=false) (h:DE c g n e y) (wK:sP e) (mz:(ap.endLine==p2.line)=true):
  DE c g n (.Call (.Name x p) [.Call (.Attribute e "values" ap) [] [] p2] [] pos) (m1 ES y):=by
 refine fun A env f ρ σ s hr he sr=>⟨fun r cG hx Q E P=>?_⟩
 have Gh:backTo pos (starEach [.Call (.Attribute e "values" ap) [] [] p2] env)=[(false,eval (.Call (.Attribute e "values" ap) [] [] p2) env)]:=congrArg (backTo pos) (o_ rfl env)
 rw[t6 rfl,Gh]
 refine bC (Fa.builtin sr he hn hb hk hd (PySem.callWith_type1 (Call_method0 (vd wK _ _ _) mz ((h A env f ρ σ s hr he sr).step hx P fun v V cW σ₁ cD e1 cY rv dB P1=>?_))))
 refine zz fun GG KK=>?_
 obtain⟨l,rfl,dB⟩:=Ij dB
 obtain⟨hl,dB⟩:=gK dB
 obtain rfl:=vj hl
 obtain⟨a,L,rfl,hd,hm,rl⟩:∃a L,V=.ref a∧cD.heap.DictOf (iS c) a L∧a≠sysModules∧eI c cW cD.heap [] L:=@sV.rec c cW cD.heap [] (fun V Z=>∃a L,V=.ref a∧cD.heap.DictOf (iS c) a L∧a≠sysModules∧eI c cW cD.heap [] L) (fun e m Z r=>⟨_,_,rfl,e,m,r⟩) V rv.inv
 obtain rfl:=rl.i9
 obtain⟨ep,lU⟩:=hd.dictAt
 have hdc:∀a',Value.ref a=.ref a'→∃o,cD.heap.get? a'=some o∧o.dict=Option.none:=fun a' q=>Value.ref.inj q▸lU.elim fun o y=>y.elim fun es y=>⟨o,y.1,y.2.1.2.1⟩
 refine KK ⟨"dict","dict.values",PySem.F.plainAttrs_dict,PySem.F.slot_dict_values,PySem.F.type_dict_values,hd.typeIs,hdc,callWith_builtin rfl (evalArgs_nil3 ?_)⟩
 refine call_meetsIn PySem.F.slot_dict_values hd.typeIs PySem.F.entry_dict_values (PySem.F.args_dict_values_1 _) (meets_dict_values (iS c) a (beq_eq_false_iff_ne.mpr hm)) ⟨⟨_,hd⟩,?_⟩
 have Gi:∀b o,cD.heap.get? b=some o→(cD.heap.push {cls:=.type "dict_values",data:=.fields #[.ref a]}).get? b=some o:=fun b o q=>aX _ q
 refine kdl_call (kdl_values (knd:=iS c) (r:=cD.heap.objs.size) (d:=a) (kvs:=[]) (ep:=ep)) hr.calm ⟨⟨_,bf _ rfl,rfl,rfl⟩,lU.at' fun o q=>Gi a o q⟩ (Nat.zero_le _) fun h' tk aoY c' k hD JG=>?_
 obtain rfl:=O7 JG
 have kk:∀b o,cD.heap.get? b=some o→h'.get? b=some o:=fun b o q=>k b o (Gi b o q)
 have fr:cD.heap.get? (cD.heap.push {cls:=.type "dict_values",data:=.fields #[.ref a]}).objs.size=Option.none:=Heap.get?_none_of_le (by rw[Heap.size_push];exact Nat.le_succ _)
 exact P1.ok _ _ cW _ (iA dB).1 (Ext.keeps kk) ((iA dB).2.symm▸cY.keeps (t:=tk) kk) (.lst (show _=some (gm [] c')from hD) (lM cY fr) .nil)
def strsOf(l:List J):Option (List Str):=sZ (fun v=>vS v some) l
noncomputable def glue(sep:Str)(ts:List Str):Str:=@List.casesOn Str (fun Z=>Str) ts (Builtin.Str.glued sep ts) fun t r=>@List.casesOn Str (fun Z=>Str) r t fun Z Z=>Builtin.Str.glued sep ts
def RJ(sep:Str)(l:List J)(σ:List MO):Out J:=ej (strsOf l) fun ts=>gd (qt (Builtin.Str.tooLong (ts.toArray.foldl (·+·.length+sep.length) 0))) (gd (Nat.ble (glue sep ts).length 100000) (ok (.str (glue sep ts)) σ))
def Fe(sep:Str)(v:J)(σ:List MO):Out J:=vL v fun l=>RJ sep l σ
theorem Ob{h:Heap}:∀{l:List J} {Vs:List Value} {ts:List Str},dh c ρ h l Vs→strsOf l=some ts→∃ps:List (Str×Tok),Vs=strValues ps∧ps.map (·.1)=ts
 |[],_,_,r,q=>⟨[],r.i9,Ed q⟩
 |v::l,_,ts,r,q=>(D7 q).elim fun x y=>y.elim fun m y=>(Ih y.1).elim fun x' z=>r.gr.elim fun V w=>w.elim fun L w=>(Ob w.2.2 y.2.1).elim fun ps u=>
  (show∃t,V=.str x' t from(z.1▸w.2.1).inv).elim fun t e=>⟨(x',t)::ps,w.1.trans (e▸u.1▸rfl),y.2.2▸aV z.2▸u.2▸rfl⟩
theorem ET{b:Bool}:qt b=true→b=false:=@Bool.casesOn (fun b=>qt b=true→b=false) b (fun Z=>rfl) (fun h=>cF h)
theorem acS{sep:Str}{t:Tok}{l:List J}{a:Addr}{Vs:List Value}{m:Nat}(sr:SR c ρ σ s)(e:s.heap.get? a=some (gm Vs m))(rl:dh c ρ s.heap l Vs):Den c A (cI c) ρ s (call (.builtin "str.join") [.str sep t,.ref a]) (RJ sep l σ):=
 Den.ej fun ts rP=>Den.gd fun hl=>Den.gd fun hlen=>Den.now fun Q E P=>by
  obtain⟨ps,rfl,rfl⟩:=Ob rl rP
  refine call_meets PySem.F.slot_str_join (typeIs_str _ _ _) PySem.F.entry_str_join (PySem.F.args_str_join_2 _ _) (meets_str_join_list sep _ _ ps (ET hl)) ⟨⟨_,e,rfl,_,rfl⟩,?_⟩
  have hs:∀{x:Str},Nat.ble x.length 100000=true→x.length≤sizeLine:=fun h=>Nat.le_trans (bw h) (sizeLine_eq▸by decide)
  match ps,P,hlen with
  |[],P,hlen=>exact⟨hs hlen,P.ok _ _ ρ _ rfl (Ext.refl _ _) (sr.toks (s.toks+1)) (.str _ s.toks)⟩
  |[_],P,_=>exact P.here sr (.str _ _)
  |_::_::_,P,hlen=>exact⟨hs hlen,P.ok _ _ ρ _ rfl (Ext.refl _ _) (sr.toks (s.toks+1)) (.str _ s.toks)⟩
theorem DE.join{sep:Str}{k:Nat}{cp:Pos}{e:Expr}{ap pos:Pos}{x:X}(h:DE c g n e x)(hu:jf e=true)(mz:(ap.endLine==pos.line)=true):
  DE c g n (.Call (.Attribute (.Constant (.str sep) k cp) "join" ap) [e] [] pos) (m1 (Fe sep) x):=by
 refine fun A env f ρ σ s hr he sr=>⟨fun r cG hx Q E P=>?_⟩
 refine Call_method1 (vd rfl _ _ _) (o_ (es:=[]) ((Bool.and_true _).trans hu) env) mz (wpAny_Constant_str ⟨"str","str.join",PySem.F.plainAttrs_str,PySem.F.slot_str_join,PySem.F.type_str_join,typeIs_str _ _ _,(fun Z q=>nomatch q),?_⟩)
 exact callWith_builtin rfl (evalArgs_plain (spliced_cons ((h A env f ρ σ {s with toks:=s.toks+1} hr he (sr.toks (s.toks+1))).step hx P fun v V cW σ₁ cD e1 cY rv dB P1=>spliced_nil
  ((Den.vL (T:=fun V=>PySem.call (Value.builtin "str.join") [Value.str sep s.toks,V]) rv fun l a m Vs e Z rl=>acS cY e rl).last dB P1))))
def Sn(x:X)(f:Fr)(σ:List MO):Out Src:=dk (x f σ) fun v σ=>vD v fun l=>gd (isNil l) (ok ([],none) σ)
def Bh(c:Cx)(I a:Addr)(ep:Nat)(i:Nat)(ρ:List Addr)(h:Heap):Prop:=h.IsKeyIter I a 0 0 ep∧dY c ρ I∧c.h0.get? I=none∧h.DictAt (iS c) a [] ep∧dY c ρ a
theorem ZU{o:Obj}(hc:o.cls=.type "dict_keyiterator"):isIt o=true:=by unfold isIt;rw[hc];rfl
theorem Bh.mono{I a:Addr}{ep i:Nat}{ρ cC:List Addr}{h h':Heap}(x:Bh c I a ep i ρ h)(e:Ext ρ h cC h'):Bh c I a ep i cC h':=by
 refine zz fun GG KK=>?_
 obtain⟨⟨o,eo,hc,hd⟩,h2,h3,⟨o2,es,VT,hx,hd2,hr⟩,h5⟩:=x
 have i1:im o=true:=vx (by unfold j4;rw[hd,hc];rfl) (by unfold mC;rw[hc];rfl)
 have i2:im o2=true:=vx (by unfold j4;rw[hd2]) (D5 hx.1)
 exact KK ⟨⟨o,e.exact eo h2.1 i1,hc,hd⟩,e.out h2 eo,h3,⟨o2,es,e.exact VT h5.1 i2,hx,hd2,hr⟩,e.out h5 VT⟩
theorem It.fB(hh:A.handled=none)(tg:Expr)(I a:Addr)(ep:Nat):It c A tg I [] none [I] (Bh c I a ep)where
 mono:=fun i ρ cC h h' x e=>x.mono e
 item:=fun i ρ σ s v Q E hv=>cw hv
 done:=fun ρ σ s Q E st sr Z hQ=>by
  have hw:∀b∈[I],dY c ρ b∧c.h0.get? b=none∧∃o,s.heap.get? b=some o∧isIt o=true:=fun b hb=>a_ hb▸⟨st.2.1,st.2.2.1,st.1.elim fun o y=>⟨o,y.1,ZU y.2.1⟩⟩
  refine wpAny_pyNext_dict_end (knd:=iS c) (kvs:=[]) hh st.1 st.2.2.2.1 rfl fun h' hs=>?_
  have k:∀b o,b∉[I]→s.heap.get? b=some o→h'.get? b=some o:=fun b o hb e=>hs b o (fun z=>hb (z▸List.mem_singleton_self _)) e
  exact hQ h' s.toks k (sr.wr k hw)
 self:=fun i ρ s Q E st hQ=>wpAny_pyIter_keyiter st.1 hQ
theorem DI.agV{tg e:Expr}{x:X}(h:DE c g n e x):DI c g n tg e (Sn x):=by
 intro A env f ρ σ s hr he sr r cG hx Q E hQ hE
 refine(h A env f ρ σ s hr he sr).step (Rel':=fun _ _ (_:Src) (_:Value)=>True) (Q':=fun Z Z=>True) hx ⟨fun Z Z Z Z Z Z Z Z=>trivial,hE⟩ fun v V cW σ₁ cD e1 cY rv dB P1=>?_
 refine zz fun GG KK=>?_
 obtain⟨l,rfl,dB⟩:=Ij dB
 obtain⟨hl,dB⟩:=gK dB
 obtain rfl:=vj hl
 obtain⟨a,L,rfl,hd,hm,hn,rl⟩:∃a L,V=.ref a∧cD.heap.DictOf (iS c) a L∧a≠sysModules∧dY c cW a∧eI c cW cD.heap [] L:=@sV.rec c cW cD.heap [] (fun V Z=>∃a L,V=.ref a∧cD.heap.DictOf (iS c) a L∧a≠sysModules∧dY c cW a∧eI c cW cD.heap [] L) (fun e m n r=>⟨_,_,rfl,e,m,n,r⟩) V rv.inv
 obtain rfl:=rl.i9
 obtain⟨ep,lU⟩:=hd.dictAt
 have fr:=kS cD.heap
 exact KK (wpAny_pyIter_dict (beq_eq_false_iff_ne.mpr hm) lU (hQ [] none cW _ [cD.heap.objs.size] (Bh c _ a ep) _ (iA dB).1 (e1.trans (Ext.push _)) ((iA dB).2.symm▸cY.push _) (It.fB hr.calm tg _ a ep)
  ⟨⟨_,bf _ rfl,rfl,rfl⟩,lM cY fr,cY.pb fr,lU.at' fun o q=>aX _ q,hn⟩ fun b hb=>a_ hb▸ve e1 fr))
def Gn(m:Nat)(σ:List MO)(v:Option J):Option (Option J):=@Option.casesOn J (fun Z=>Option (Option J)) v (some none) fun v=>ej (fz m σ v) fun w=>some (some w)
def agW(m:Nat)(σ:List MO)(l:List (Option J)):Option (List (Option J)):=sZ (Gn m σ) l
end
def JH(m:Nat)(σ:List MO)(mo:MO):Option MO:=@MO.casesOn (fun Z=>Option MO) mo (fun Z=>gd (fF m mo) (some mo)) (fun Z=>gd (fF m mo) (some mo)) (fun Z Z=>gd (fF m mo) (some mo)) (fun Z=>gd (fF m mo) (some mo)) (fun k l=>ej (agW m σ l) fun l=>some (.fr k l)) (fun v=>ej (Gn m σ v) fun v=>some (.fg v)) (fun Z Z=>gd (fF m mo) (some mo)) (gd (fF m mo) (some mo)) (gd (fF m mo) (some mo)) (gd (fF m mo) (some mo)) (fun Z=>gd (fF m mo) (some mo)) (gd (fF m mo) (some mo))
def afi(m:Nat)(σ:List MO)(l:List MO):Option (List MO):=sZ (JH m σ) l
def r7(m:Nat)(σ:List MO):Option (List MO):=afi m σ (σ.take m)
def FG(x y:XS)(f:Fr)(σ:List MO):Out MF:=dk (x f σ) fun r σ₁=>rn r (ej (r7 σ.length σ₁) fun fU=>y f fU) σ₁
section
variable{c:Cx}{g:FC}{n:Nat}{A:Around}{env:Env}{f:Fr}{ρ:List Addr}{σ:List MO}{s:Shared}{tb:Tb}{gl:Str→Option J}{gz:Str→Bool}
theorem kW.r7(sr:SR c ρ σ s){m:Nat}{p p':Option J}{o:Option Value}:kW c ρ s.heap p o→Gn m σ p=some p'→kW c (ρ.take m) s.heap p' o:=
 @Option.casesOn J (fun p=>kW c ρ s.heap p o→Gn m σ p=some p'→kW c (ρ.take m) s.heap p' o) p (fun r q=>aV q▸r)
  fun v r q=>(eP q).elim fun w y=>aV y.2▸@Option.casesOn Value (fun o=>kW c ρ s.heap (some v) o→kW c (ρ.take m) s.heap (some w) o) o (fun r=>r.elim) (fun V r=>cI.fz sr m r y.1) r
theorem eQ.r7(sr:SR c ρ σ s){m:Nat}{a:Addr}{mo mo':MO}:eQ c ρ s.heap a mo→JH m σ mo=some mo'→eQ c (ρ.take m) s.heap a mo':=
 have dflt:∀{mo:MO},eQ c ρ s.heap a mo→gd (fF m mo) (some mo)=some mo'→eQ c (ρ.take m) s.heap a mo':=fun x q=>let y:=gK q;aV y.2▸x.ef m y.1
 @MO.casesOn (fun mo=>eQ c ρ s.heap a mo→JH m σ mo=some mo'→eQ c (ρ.take m) s.heap a mo') mo (fun a x q=>dflt x q) (fun a x q=>dflt x q) (fun a b x q=>dflt x q) (fun a x q=>dflt x q) (fun k l x q=>(eP q).elim fun l' y=>x.elim fun mm x=>let g:=H7 y.1;aV y.2▸⟨mm,x.1,g.1.trans x.2.1,fun i y p q1 q2=>(g.2 i p q2).elim fun p0 z=>(x.2.2 i y p0 q1 z.1).r7 sr z.2⟩) (fun v x q=>(eP q).elim fun v' y=>x.elim fun V x=>aV y.2▸⟨V,x.1,x.2.r7 sr y.1⟩) (fun a b x q=>dflt x q) (fun x q=>dflt x q) (fun x q=>dflt x q) (fun x q=>dflt x q) (fun a x q=>dflt x q) (fun x q=>dflt x q)
theorem SR.r7(sr:SR c ρ σ s){m:Nat}{cG:List MO}(h:Mine.r7 m σ=some cG):SR c (ρ.take m) cG s:=by
 have g:=H7 h
 refine⟨sr.gens,sr.os,by rw[g.1,List.length_take,List.length_take,sr.len],sr.nodup.sublist (List.take_sublist _ _),fun a ha=>sr.fresh a (List.mem_of_mem_take ha),sr.old,fun a ha=>let q:=sr.d9 a ha;⟨q.1,fun z=>q.2.1 (List.mem_of_mem_take z),q.2.2⟩,fun i a mo e1 e2=>(g.2 i mo e2).elim fun mo0 y=>?_⟩
 have hi:=Et e1
 exact(sr.obj i a mo0 ((bc hi).symm.trans e1) ((bc hi).symm.trans y.1)).r7 sr y.2
theorem Ja{m:MF}{X:Out MF}{σ:List MO}{K:MF→List MO→Out MF}(hK:∀v,K (.ret v) σ=some (.ok (.ret v),σ)):dk (rn m X σ) K=rn m (dk X K) σ:=@MF.casesOn (fun m=>dk (rn m X σ) K=rn m (dk X K) σ) m rfl fun v=>hK v
theorem Qc{rest:List Stmt}{y:XS}(h4:DS c g n rest y){cW:List Addr}{σ₁:List MO}{cD:Shared}{r:Res MF}{cG:List MO}{Q:Flow→Shared→Prop}{E:Value→Shared→Prop}(hr:g0 A n)(he:fW c g A env f ρ s.heap)(sr:SR c ρ σ s)(P:iT c (l9 c) ρ s.heap r cG Q E)(e1:Ext ρ s.heap cW cD.heap)(cY:SR c cW σ₁ cD)
  (hx:(ej (r7 σ.length σ₁) fun fU=>y f fU)=some (r,cG)):wpAny (model c.prog c.w) A (execs rest env) Q E cD:=
 (eP hx).elim fun σ4 z=>
  have eT:=e1.forget (m:=σ.length) (Nat.le_of_eq sr.len)
  (h4 A env f _ σ4 cD hr (he.mono eT) (cY.r7 z.1)).last z.2 (P.ext eT)
theorem DS.agX{s1 s2:Stmt}{rest:List Stmt}{x1 x2 y:XS}(h1:D1 c g n s1 x1)(h2:D1 c g n s2 x2)(h4:DS c g n rest y):DS c g n (s1::s2::rest) (FG (ct x1 x2) y):=by
 refine fun A env f ρ σ s hr he sr=>⟨fun r cG hX Q E P=>wpAny_execs_cons ((h1 A env f ρ σ s hr he sr).step ((vf ..).symm.trans hX) P fun m F cW σ₁ cD e1 cY rf dB P1=>?_)⟩
 cases rf.go ((Ja fun Z=>rfl).symm.trans dB)with
 |ret e rv=>exact P1.kA e cY rv
 |next e=>
  refine wpAny_execs_cons ((h2 A env f cW σ₁ cD hr (he.mono e1) cY).step e P1 fun m F ρ₂ fU fu e2 fh rf fC P2=>?_)
  cases rf.go fC with
  |ret e rv=>exact P2.kA e fh rv
  |next e=>exact Qc h4 hr he sr P (e1.trans e2) fh e
theorem DS.agY{s1 s2 s3:Stmt}{rest:List Stmt}{x1 x2 x3 y:XS}(h1:D1 c g n s1 x1)(h2:D1 c g n s2 x2)(h3:D1 c g n s3 x3)(h4:DS c g n rest y):
  DS c g n (s1::s2::s3::rest) (FG (ct x1 (ct x2 x3)) y):=by
 refine fun A env f ρ σ s hr he sr=>⟨fun r cG hX Q E P=>wpAny_execs_cons ((h1 A env f ρ σ s hr he sr).step ((vf ..).symm.trans hX) P fun m F cW σ₁ cD e1 cY rf dB P1=>?_)⟩
 cases rf.go ((Ja fun Z=>rfl).symm.trans dB)with
 |ret e rv=>exact P1.kA e cY rv
 |next e=>
  refine wpAny_execs_cons ((h2 A env f cW σ₁ cD hr (he.mono e1) cY).step ((vf ..).symm.trans e) P1 fun m F ρ₂ fU fu e2 fh rf fC P2=>?_)
  cases rf.go ((Ja fun Z=>rfl).symm.trans fC)with
  |ret e rv=>exact P2.kA e fh rv
  |next e=>
   refine wpAny_execs_cons ((h3 A env f ρ₂ fU fu hr ((he.mono e1).mono e2) fh).step e P2 fun m F ph qo kL e3 hJ rf m6 P3=>?_)
   cases rf.go m6 with
   |ret e rv=>exact P3.kA e hJ rv
   |next e=>exact Qc h4 hr he sr P ((e1.trans e2).trans e3) hJ e
end
noncomputable def eM:List Stmt→Nat→Option Stmt
 |[],_=>none
 |s::_,0=>some s
 |_::l,i+1=>eM l i
noncomputable def dM:Option Stmt→List Stmt
 |some (.FunctionDef _ _ b _ _ _ _ _ _ _)=>b
 |some (.ClassDef _ _ _ b _ _ _ _ _ _ _)=>b
 |_=>[]
noncomputable def j2:Option Stmt→Scope
 |some (.FunctionDef _ _ _ _ _ _ sc _ _ _)=>sc
 |_=>default
noncomputable def Ff:Option Stmt→Arguments
 |some (.FunctionDef _ a _ _ _ _ _ _ _ _)=>a
 |_=>default
noncomputable def s0:Str:=⟨⟨[98,111,111,108]⟩⟩
noncomputable def s1:Str:=⟨⟨[109,97,105,110]⟩⟩
noncomputable def s2:Str:=⟨⟨[109,97,105,110,46,66]⟩⟩
noncomputable def s3:Str:=⟨⟨[110,97,109,101,100]⟩⟩
noncomputable def s4:Str:=⟨⟨[116,111,108,100]⟩⟩
noncomputable def s5:Str:=⟨⟨[117,110,97,114,121]⟩⟩
noncomputable def s6:Str:=⟨⟨[109,97,105,110,46,102]⟩⟩
noncomputable def s7:Str:=⟨⟨[105,110,116]⟩⟩
noncomputable def s8:Str:=⟨⟨[105,110,116,101,114,102,97,99,101]⟩⟩
noncomputable def s9:Str:=⟨⟨[114,101,99,101,105,118,101]⟩⟩
noncomputable def Cg:Str:=⟨⟨[109,97,105,110,46,116,104,114,101,101]⟩⟩
noncomputable def qF:Str:=⟨⟨[102,110]⟩⟩
noncomputable def jv:Str:=⟨⟨[116,117,112,108,101]⟩⟩
noncomputable def pO:Str:=⟨⟨[99,97,108,108]⟩⟩
noncomputable def Ci:Str:=⟨⟨[109,97,105,110,46,116,119,111]⟩⟩
noncomputable def mK:Str:=⟨⟨[110,105,108]⟩⟩
noncomputable def jh:Str:=⟨⟨[108,111,99,97,108]⟩⟩
noncomputable def mL:Str:=⟨⟨[117,110,116,121,112,101,100]⟩⟩
noncomputable def r8:Str:=⟨⟨[99,111,110,115,116]⟩⟩
noncomputable def Gp:Str:=⟨⟨[60,45]⟩⟩
noncomputable def pP:Str:=⟨⟨[98,111,116,104]⟩⟩
noncomputable def mM:Str:=⟨⟨[99,104,97,110]⟩⟩
noncomputable def wU:Str:=⟨⟨[102,97,99,101]⟩⟩
noncomputable def iB:Str:=⟨⟨[116,121,112,101,32,102,97,117,108,116]⟩⟩
noncomputable def Lh:Str:=⟨⟨[99,111,110,118,101,114,116]⟩⟩
noncomputable def VU:Str:=⟨⟨[108,101,116]⟩⟩
noncomputable def tv:Str:=⟨⟨[108,111,99,97,108,115]⟩⟩
noncomputable def Li:Str:=⟨⟨[98,117,105,108,116,105,110]⟩⟩
noncomputable def Cj:Str:=⟨⟨[99,111,112,121]⟩⟩
noncomputable def VV:Str:=⟨⟨[108,101,110]⟩⟩
noncomputable def s30:Str:=⟨⟨[99,97,112]⟩⟩
noncomputable def s31:Str:=⟨⟨[97,112,112,101,110,100]⟩⟩
noncomputable def s32:Str:=⟨⟨[109,97,107,101]⟩⟩
noncomputable def s33:Str:=⟨⟨[110,101,119]⟩⟩
noncomputable def s34:Str:=⟨⟨[109,105,110]⟩⟩
noncomputable def VW:Str:=⟨⟨[109,97,120]⟩⟩
noncomputable def Lj:Str:=⟨⟨[100,101,108,101,116,101]⟩⟩
noncomputable def Ll:Str:=⟨⟨[112,97,110,105,99]⟩⟩
noncomputable def Lm:Str:=⟨⟨[114,101,99,111,118,101,114]⟩⟩
noncomputable def Ln:Str:=⟨⟨[112,114,105,110,116]⟩⟩
noncomputable def Lo:Str:=⟨⟨[99,108,111,115,101]⟩⟩
noncomputable def Lp:Str:=⟨⟨[108,111,99,107]⟩⟩
noncomputable def Lq:Str:=⟨⟨[117,110,108,111,99,107]⟩⟩
noncomputable def Lr:Str:=⟨⟨[97,100,100]⟩⟩
noncomputable def Ls:Str:=⟨⟨[100,111,110,101]⟩⟩
noncomputable def Lu:Str:=⟨⟨[119,97,105,116]⟩⟩
noncomputable def Lv:Str:=⟨⟨[103,111,115,99,104,101,100]⟩⟩
noncomputable def Gq:Str:=⟨⟨[105,115,95,119,104,111,108,101]⟩⟩
noncomputable def Gr:Str:=⟨⟨[108,97,116,101,95,115,105,122,101,115]⟩⟩
noncomputable def Gs:Str:=⟨⟨[108,97,116,101,95,112,97,114,116,115]⟩⟩
noncomputable def Gu:Str:=⟨⟨[108,97,116,101,95,107,101,121,115]⟩⟩
noncomputable def Gv:Str:=⟨⟨[105,110,105,116,115]⟩⟩
noncomputable def Gw:Str:=⟨⟨[118,97,108,117,101,115]⟩⟩
noncomputable def Gx:Str:=⟨⟨[109,101,97,115,117,114,101,100]⟩⟩
noncomputable def uH:Str:=⟨⟨[109,101,110,116,105,111,110,115]⟩⟩
noncomputable def Gy:Str:=⟨⟨[119,97,110,116]⟩⟩
noncomputable def Ck:Str:=⟨⟨[115,101,116,116,108,101]⟩⟩
noncomputable def Gz:Str:=⟨⟨[115,116,97,114,116,115]⟩⟩
noncomputable def GA:Str:=⟨⟨[111,114,100,101,114]⟩⟩
noncomputable def GB:Str:=⟨⟨[115,99,111,112,101,115]⟩⟩
noncomputable def GC:Str:=⟨⟨[102,105,108,101,115]⟩⟩
noncomputable def GD:Str:=⟨⟨[98,111,100,105,101,115]⟩⟩
noncomputable def GF:Str:=⟨⟨[102,117,110,99,115]⟩⟩
noncomputable def GH:Str:=⟨⟨[99,111,110,115,116,115]⟩⟩
noncomputable def GI:Str:=⟨⟨[103,108,111,98,97,108,115]⟩⟩
noncomputable def GJ:Str:=⟨⟨[112,97,99,107,97,103,101,115]⟩⟩
noncomputable def tw:Str:=⟨⟨[109,101,116,104,111,100,115]⟩⟩
noncomputable def r9:Str:=⟨⟨[117,110,100,101,114,108,121,105,110,103]⟩⟩
noncomputable def pQ:Str:=⟨⟨[112,97,99,107,97,103,101]⟩⟩
noncomputable def uI:Str:=⟨⟨[112,97,116,104]⟩⟩
noncomputable def GK:Str:=⟨⟨[115,121,110,99]⟩⟩
noncomputable def GN:Str:=⟨⟨[115,121,110,99,46,87,97,105,116,71,114,111,117,112]⟩⟩
noncomputable def GO:Str:=⟨⟨[115,121,110,99,46,77,117,116,101,120]⟩⟩
noncomputable def ng:Str:=⟨⟨[115,116,114,105,110,103]⟩⟩
noncomputable def VX:Str:=⟨⟨[114,117,110,116,105,109,101]⟩⟩
noncomputable def GP:Str:=⟨⟨[114,117,110,116,105,109,101,46,69,114,114,111,114]⟩⟩
noncomputable def GQ:Str:=⟨⟨[69,114,114,111,114]⟩⟩
noncomputable def VY:Str:=⟨⟨[]⟩⟩
noncomputable def GR:Str:=⟨⟨[101,114,114,111,114]⟩⟩
noncomputable def VZ:Str:=⟨⟨[115,121,110,99,46,87,97,105,116,71,114,111,117,112,46,87,97,105,116]⟩⟩
noncomputable def V3:Str:=⟨⟨[115,121,110,99,46,87,97,105,116,71,114,111,117,112,46,68,111,110,101]⟩⟩
noncomputable def V4:Str:=⟨⟨[115,121,110,99,46,87,97,105,116,71,114,111,117,112,46,65,100,100]⟩⟩
noncomputable def V5:Str:=⟨⟨[65,100,100]⟩⟩
noncomputable def V6:Str:=⟨⟨[68,111,110,101]⟩⟩
noncomputable def V7:Str:=⟨⟨[87,97,105,116]⟩⟩
noncomputable def V8:Str:=⟨⟨[115,121,110,99,46,77,117,116,101,120,46,85,110,108,111,99,107]⟩⟩
noncomputable def V9:Str:=⟨⟨[115,121,110,99,46,77,117,116,101,120,46,76,111,99,107]⟩⟩
noncomputable def V_:Str:=⟨⟨[76,111,99,107]⟩⟩
noncomputable def Wc:Str:=⟨⟨[85,110,108,111,99,107]⟩⟩
noncomputable def We:Str:=⟨⟨[114,117,110,116,105,109,101,46,69,114,114,111,114,46,69,114,114,111,114]⟩⟩
noncomputable def Wf:Str:=⟨⟨[115,121,110,99,46,35,99,111,117,110,116]⟩⟩
noncomputable def wV:Str:=⟨⟨[115,116,114,117,99,116]⟩⟩
noncomputable def Wg:Str:=⟨⟨[115,121,110,99,46,35,115,116,97,116,101]⟩⟩
noncomputable def ot:Str:=⟨⟨[102,117,110,99]⟩⟩
noncomputable def GS:Str:=⟨⟨[114,111,119,115]⟩⟩
noncomputable def GU:Str:=⟨⟨[111,119,110,101,114]⟩⟩
noncomputable def uJ:Str:=⟨⟨[111,117,116,101,114]⟩⟩
noncomputable def GV:Str:=⟨⟨[111,116,104,101,114,95,112,97,110,105,99,115]⟩⟩
noncomputable def GW:Str:=⟨⟨[108,111,111,112,115]⟩⟩
noncomputable def GX:Str:=⟨⟨[108,105,116,101,114,97,108,115]⟩⟩
noncomputable def FH:Str:=⟨⟨[99,97,112,116,117,114,101,100]⟩⟩
noncomputable def FI:Str:=⟨⟨[104,97,115,95,114,101,115,117,108,116,95,110,97,109,101,115]⟩⟩
noncomputable def FJ:Str:=⟨⟨[114,101,115,117,108,116,95,108,111,99,97,108,115]⟩⟩
noncomputable def FK:Str:=⟨⟨[114,101,115,117,108,116,115]⟩⟩
noncomputable def FL:Str:=⟨⟨[112,97,114,97,109,115]⟩⟩
noncomputable def FN:Str:=⟨⟨[114,117,110,95,98,111,100,121]⟩⟩
noncomputable def BA:Str:=⟨⟨[114,101,97,100,101,114,115]⟩⟩
noncomputable def FO:Str:=⟨⟨[107,101,121]⟩⟩
noncomputable def FP:Str:=⟨⟨[115,99,111,112,101]⟩⟩
noncomputable def l_:Str:=⟨⟨[119,111,114,108,100]⟩⟩
noncomputable def JI:Str:=⟨⟨[101,120,112,114]⟩⟩
noncomputable def agZ:Str:=⟨⟨[118,97,108,117,101,95,109,97,100,101]⟩⟩
noncomputable def FQ:Str:=⟨⟨[99,111,101,114,99,101]⟩⟩
noncomputable def ag0:Str:=⟨⟨[110,105,108,32,119,105,116,104,111,117,116,32,97,32,116,121,112,101]⟩⟩
noncomputable def ag1:Str:=⟨⟨[111,110,101,32,118,97,108,117,101,32,105,115,32,119,97,110,116,101,100]⟩⟩
noncomputable def ag2:Str:=⟨⟨[32,100,111,101,115,32,110,111,116,32,103,111,32,105,110,116,111,32]⟩⟩
noncomputable def ag3:Str:=⟨⟨[116,97,107,101,115,95,116,121,112,101]⟩⟩
noncomputable def JJ:Str:=⟨⟨[118,97,108,117,101]⟩⟩
noncomputable def ag4:Str:=⟨⟨[97,110,111,116,104,101,114,32,110,117,109,98,101,114,32,111,102,32,118,97,108,117,101,115,32,105,115,32,119,97,110,116,101,100]⟩⟩
noncomputable def ag5:Str:=⟨⟨[104,105,100,100,101,110]⟩⟩
noncomputable def Tx:Str:=⟨⟨[117,110,108,105,107,101,32,110,117,109,98,101,114,115,32,111,102,32,112,108,97,99,101,115,32,97,110,100,32,118,97,108,117,101,115]⟩⟩
noncomputable def ag6:Str:=⟨⟨[115,101,110,100]⟩⟩
noncomputable def ag7:Str:=⟨⟨[110,111,116,104,105,110,103,32,99,111,109,101,115,32,111,117,116,32,111,102,32]⟩⟩
noncomputable def ag8:Str:=⟨⟨[105,110,100,101,120]⟩⟩
noncomputable def FR:Str:=⟨⟨[109,97,112]⟩⟩
noncomputable def ag9:Str:=⟨⟨[97,115,115,101,114,116]⟩⟩
noncomputable def ag_:Str:=⟨⟨[40]⟩⟩
noncomputable def aha:Str:=⟨⟨[41]⟩⟩
noncomputable def ahb:Str:=⟨⟨[109,97,112,91]⟩⟩
noncomputable def ahc:Str:=⟨⟨[93]⟩⟩
noncomputable def JK:Str:=⟨⟨[115,108,105,99,101]⟩⟩
noncomputable def ahd:Str:=⟨⟨[91,93]⟩⟩
noncomputable def ahe:Str:=⟨⟨[97,114,114,97,121]⟩⟩
noncomputable def aoZ:Str:=⟨⟨[91]⟩⟩
noncomputable def wa:Str:=⟨⟨[112,116,114]⟩⟩
noncomputable def ahf:Str:=⟨⟨[42]⟩⟩
noncomputable def ahg:Str:=⟨⟨[117,110,116,121,112,101,100,32]⟩⟩
noncomputable def ahh:Str:=⟨⟨[44,32]⟩⟩
noncomputable def ahi:Str:=⟨⟨[32,123,32]⟩⟩
noncomputable def ahj:Str:=⟨⟨[59,32]⟩⟩
noncomputable def ahk:Str:=⟨⟨[32,125]⟩⟩
noncomputable def ahl:Str:=⟨⟨[32,123,125]⟩⟩
noncomputable def zm:Str:=⟨⟨[98,97,115,101,95,111,102]⟩⟩
noncomputable def ahm:Str:=⟨⟨[117]⟩⟩
noncomputable def um:Str:=⟨⟨[104,101,114,101]⟩⟩
noncomputable def ahn:Str:=⟨⟨[103,111,95,111,110]⟩⟩
noncomputable def aho:Str:=⟨⟨[102,105,101,108,100]⟩⟩
noncomputable def ahp:Str:=⟨⟨[109,101,116,104,111,100]⟩⟩
noncomputable def ahq:Str:=⟨⟨[111,116,104,101,114,32,116,121,112,101]⟩⟩
noncomputable def BB:Str:=⟨⟨[115,101,101,110]⟩⟩
noncomputable def FT:Str:=⟨⟨[105,115,95,116,119,105,99,101]⟩⟩
noncomputable def FU:Str:=⟨⟨[115,116,101,112,115]⟩⟩
noncomputable def zo:Str:=⟨⟨[105,110,116,51,50]⟩⟩
noncomputable def JL:Str:=⟨⟨[114,117,110,101]⟩⟩
noncomputable def JM:Str:=⟨⟨[105,110,116,56]⟩⟩
noncomputable def JN:Str:=⟨⟨[105,110,116,49,54]⟩⟩
noncomputable def JO:Str:=⟨⟨[105,110,116,54,52]⟩⟩
noncomputable def JP:Str:=⟨⟨[117,105,110,116]⟩⟩
noncomputable def JQ:Str:=⟨⟨[117,105,110,116,56]⟩⟩
noncomputable def JR:Str:=⟨⟨[117,105,110,116,49,54]⟩⟩
noncomputable def JS:Str:=⟨⟨[117,105,110,116,51,50]⟩⟩
noncomputable def JT:Str:=⟨⟨[117,105,110,116,54,52]⟩⟩
noncomputable def ahr:Str:=⟨⟨[95,108,97,119,95,114,101,97,100,95,117,110,97,114,121]⟩⟩
noncomputable def JU:Str:=⟨⟨[85,78,84,89,80,69,68,95,84,82,85,84,72]⟩⟩
noncomputable def JV:Str:=⟨⟨[84,82,85,84,72]⟩⟩
noncomputable def JW:Str:=⟨⟨[85,78,84,89,80,69,68,95,68,69,70,65,85,76,84,83]⟩⟩
noncomputable def ahs:Str:=⟨⟨[106,111,105,110,101,100,95,116,101,120,116,115]⟩⟩
noncomputable def aht:Str:=⟨⟨[112,97,114,116,101,100,95,118,97,108,117,101,115]⟩⟩
noncomputable def ahu:Str:=⟨⟨[100,101,102,97,117,108,116,95,116,121,112,101]⟩⟩
noncomputable def JX:Str:=⟨⟨[78,73,76,65,66,76,69]⟩⟩
noncomputable def JY:Str:=⟨⟨[78,73,76]⟩⟩
noncomputable def ahv:Str:=⟨⟨[109,101,116,104,111,100,95,115,101,116]⟩⟩
noncomputable def ahw:Str:=⟨⟨[95,108,97,119,95,97,110,121]⟩⟩
noncomputable def ahx:Str:=⟨⟨[95,108,97,119,95,112,97,114,116,101,100]⟩⟩
noncomputable def ahy:Str:=⟨⟨[107,110,111,119,110,95,114,111,119,115]⟩⟩
noncomputable def JZ:Str:=⟨⟨[68,69,69,68,83]⟩⟩
noncomputable def ahz:Str:=⟨⟨[117,110,100,101,114,108,121,105,110,103,95,111,102]⟩⟩
noncomputable def ahA:Str:=⟨⟨[105,110,116,95,114,97,110,103,101]⟩⟩
noncomputable def ahB:Str:=⟨⟨[95,108,97,119,95,99,104,101,99,107,101,114]⟩⟩
noncomputable def ahC:Str:=⟨⟨[95,108,97,119,95,119,97,110,116,101,100]⟩⟩
noncomputable def ahD:Str:=⟨⟨[101,109,98,101,100,100,101,100,95,105,110]⟩⟩
noncomputable def ahE:Str:=⟨⟨[98,114,97,99,101,100,95,116,101,120,116]⟩⟩
noncomputable def ahF:Str:=⟨⟨[95,108,97,119,95,116,97,107,101,110]⟩⟩
noncomputable def ahG:Str:=⟨⟨[95,108,97,119,95,114,101,97,100,95,116,111,108,100]⟩⟩
noncomputable def ahH:Str:=⟨⟨[105,115,95,105,110,116,101,114,102,97,99,101]⟩⟩
noncomputable def ahI:Str:=⟨⟨[111,119,110,95,109,101,116,104,111,100,115]⟩⟩
noncomputable def ahJ:Str:=⟨⟨[95,108,97,119,95,119,111,117,110,100]⟩⟩
noncomputable def ahK:Str:=⟨⟨[114,101,112,114,101,115,101,110,116,97,98,108,101]⟩⟩
noncomputable def ahL:Str:=⟨⟨[95,108,97,119,95,114,101,101,108]⟩⟩
noncomputable def ahM:Str:=⟨⟨[67,104,101,99,107,101,114]⟩⟩
noncomputable def ahN:Str:=⟨⟨[105,115,95,99,111,110,115,116,95,97,115,115,105,103,110,97,98,108,101]⟩⟩
noncomputable def ahO:Str:=⟨⟨[114,101,97,100,95,114,101,99,101,105,118,101]⟩⟩
noncomputable def ahP:Str:=⟨⟨[95,108,97,119,95,100,101,101,100,115,95,114,105,103,104,116]⟩⟩
noncomputable def ahQ:Str:=⟨⟨[78,97,109,101,100,82,111,119]⟩⟩
noncomputable def ahR:Str:=⟨⟨[76,101,118,101,108,115]⟩⟩
noncomputable def ahS:Str:=⟨⟨[105,115,95,117,110,116,121,112,101,100]⟩⟩
noncomputable def J0:Str:=⟨⟨[66,73,84,83]⟩⟩
noncomputable def ahT:Str:=⟨⟨[105,109,112,108,101,109,101,110,116,115]⟩⟩
noncomputable def ahU:Str:=⟨⟨[111,110,101,95,118,97,108,117,101]⟩⟩
noncomputable def ahV:Str:=⟨⟨[116,117,112,108,101,95,118,97,108,117,101]⟩⟩
noncomputable def ahW:Str:=⟨⟨[116,121,112,101,95,116,101,120,116]⟩⟩
noncomputable def ahX:Str:=⟨⟨[95,108,97,119,95,97,108,108]⟩⟩
noncomputable def ahY:Str:=⟨⟨[83,99,111,112,101]⟩⟩
noncomputable def ahZ:Str:=⟨⟨[114,101,97,100,95,112,97,105,114]⟩⟩
noncomputable def ah0:Str:=⟨⟨[105,115,95,110,97,109,101,100]⟩⟩
noncomputable def ah1:Str:=⟨⟨[95,108,97,119,95,111,110,101]⟩⟩
noncomputable def ah2:Str:=⟨⟨[116,121,112,101,115,95,111,102,95,118,97,108,117,101,115]⟩⟩
noncomputable def ah3:Str:=⟨⟨[105,115,95,97,115,115,105,103,110,97,98,108,101]⟩⟩
noncomputable def J1:Str:=⟨⟨[80,76,65,73,78]⟩⟩
noncomputable def ah4:Str:=⟨⟨[116,114,117,116,104,95,97,115]⟩⟩
noncomputable def ah5:Str:=⟨⟨[109,101,101,116,115,95,102,97,99,101]⟩⟩
noncomputable def ah6:Str:=⟨⟨[110,97,109,101,115,95,111,102,95,109,101,116,104,111,100,115]⟩⟩
noncomputable def ah7:Str:=⟨⟨[105,115,95,108,105,107,101,95,99,104,97,110]⟩⟩
noncomputable def ah8:Str:=⟨⟨[115,116,97,114,116,95,116,121,112,101]⟩⟩
noncomputable def ah9:Str:=⟨⟨[105,115,95,116,114,117,116,104]⟩⟩
noncomputable def ah_:Str:=⟨⟨[105,115,95,117,110,115,105,103,110,101,100]⟩⟩
noncomputable def aia:Str:=⟨⟨[82,101,97,99,104,101,100]⟩⟩
noncomputable def J2:Str:=⟨⟨[77,79,83,84,95,66,73,84,83]⟩⟩
noncomputable def aib:Str:=⟨⟨[95,108,97,119,95,119,104,111,108,101]⟩⟩
noncomputable def J3:Str:=⟨⟨[95,108,97,119,95,114,105,103,104,116]⟩⟩
noncomputable def aic:Str:=⟨⟨[95,108,97,119,95,118,97,108,117,101]⟩⟩
noncomputable def aid:Str:=⟨⟨[104,97,115,95,110,105,108]⟩⟩
noncomputable def aie:Str:=⟨⟨[105,115,95,105,110,95,114,97,110,103,101]⟩⟩
noncomputable def aif:Str:=⟨⟨[105,115,95,100,101,101,100]⟩⟩
noncomputable def aih:Str:=⟨⟨[97,108,108,95,118,97,108,117,101,115]⟩⟩
noncomputable def aii:Str:=⟨⟨[87,111,114,108,100]⟩⟩
noncomputable def ao0:Str:=⟨⟨[95,95,105,110,105,116,95,95]⟩⟩
noncomputable def pB:Str:=⟨⟨[95,95,103,101,116,97,116,116,114,105,98,117,116,101,95,95]⟩⟩
noncomputable def pC:Str:=⟨⟨[95,95,103,101,116,97,116,116,114,95,95]⟩⟩
noncomputable def pD:Str:=⟨⟨[95,95,115,101,116,97,116,116,114,95,95]⟩⟩
noncomputable def aij:Str:=⟨⟨[122,105,112]⟩⟩
noncomputable def aik:Str:=⟨⟨[115,111,114,116,101,100]⟩⟩
noncomputable def ail:Str:=⟨⟨[108,105,115,116]⟩⟩
noncomputable def aim:Str:=⟨⟨[101,110,117,109,101,114,97,116,101]⟩⟩
noncomputable def ain:Str:=⟨⟨[105,115,105,110,115,116,97,110,99,101]⟩⟩
noncomputable def aio:Str:=⟨⟨[69,120,99,101,112,116,105,111,110]⟩⟩
noncomputable def aip:Str:=⟨⟨[98,121,116,101,115]⟩⟩
noncomputable def aiq:Str:=⟨⟨[114,97,110,103,101]⟩⟩
noncomputable def air:Str:=⟨⟨[84,121,112,101,70,97,117,108,116]⟩⟩
noncomputable def ais:Str:=⟨⟨[78,97,109,101,70,97,117,108,116]⟩⟩
noncomputable def ait:Str:=⟨⟨[67,111,110,115,116,70,97,117,108,116]⟩⟩
noncomputable def aiu:Str:=⟨⟨[95,108,97,119,95,116,114,105,101,100]⟩⟩
noncomputable def ao1:Str:=⟨⟨[114,101,101,108]⟩⟩
noncomputable def ao2:Str:=⟨⟨[115,111,109,101]⟩⟩
noncomputable def ao3:Str:=⟨⟨[99,104,101,99,107,101,114]⟩⟩
noncomputable def ao4:Str:=⟨⟨[110,111,100,101]⟩⟩
noncomputable def ao5:Str:=⟨⟨[119,97,110,116,101,100]⟩⟩
noncomputable def ao6:Str:=⟨⟨[119,97,121]⟩⟩
noncomputable def ao7:Str:=⟨⟨[115,112,111,116]⟩⟩
noncomputable def ao8:Str:=⟨⟨[109,97,100,101]⟩⟩
noncomputable def ao9:Str:=⟨⟨[84]⟩⟩
noncomputable def ao_:Str:=⟨⟨[102,105,114,115,116]⟩⟩
noncomputable def apa:Str:=⟨⟨[105,115,95,112,97,105,114]⟩⟩
noncomputable def apb:Str:=⟨⟨[104,97,115,95,112,97,105,114,115]⟩⟩
noncomputable def apc:Str:=⟨⟨[115,99,114,105,112,116]⟩⟩
noncomputable def apd:Str:=⟨⟨[115,101,108,102]⟩⟩
noncomputable def ape:Str:=⟨⟨[110,97,109,101]⟩⟩
noncomputable def apf:Str:=⟨⟨[109,97,110,121]⟩⟩
noncomputable def apg:Str:=⟨⟨[110,111,100,101,115]⟩⟩
noncomputable def aph:Str:=⟨⟨[112,97,114,116]⟩⟩
noncomputable def api:Str:=⟨⟨[101]⟩⟩
noncomputable def apj:Str:=⟨⟨[116,121,112,101,115]⟩⟩
noncomputable def apk:Str:=⟨⟨[119,111,114,100]⟩⟩
noncomputable def apl:Str:=⟨⟨[111,110,101]⟩⟩
noncomputable def apm:Str:=⟨⟨[111,116,104,101,114]⟩⟩
noncomputable def apn:Str:=⟨⟨[105,115,95,110,105,108]⟩⟩
noncomputable def apo:Str:=⟨⟨[107,105,110,100]⟩⟩
noncomputable def apq:Str:=⟨⟨[110,117,109,98,101,114]⟩⟩
noncomputable def apr:Str:=⟨⟨[114,101,97,99,104,101,100]⟩⟩
abbrev qr:Str:=iB
def aor:J:=(.str s1)
def aos:J:=(.tup [(.str ng)])
def Iu:J:=(.tup [(.str s0)])
def aoj:J:=(.tup [(.str s7),(.str s7)])
def aot:J:=(.tup [(.str s7),(.str zo)])
def zc:J:=(.tup [(.str mK)])
def HH:J:=(.fB [(s0,(.tup [(.str s0)])),(s7,(.tup [(.str s7),(.str s7)])),(JL,(.tup [(.str s7),(.str zo)])),(ng,(.tup [(.str ng)]))])
def H2:J:=(.tup [(.str wa),(.str ot),(.str JK),(.str FR),(.str mM),(.str s8)])
def Iv:J:=(.tup [(.str Cj),(.str Lj),(.str Ll),(.str Lm),(.str Ln),(.str Lo),(.str Lp),(.str Lq),(.str Lr),(.str Ls),(.str Lu),(.str Lv)])
def AU:J:=(.fB [(s7,(.int (.ofNat 64))),(JM,(.int (.ofNat 8))),(JN,(.int (.ofNat 16))),(zo,(.int (.ofNat 32))),(JO,(.int (.ofNat 64))),(JP,(.int (.ofNat 64))),(JQ,(.int (.ofNat 8))),(JR,(.int (.ofNat 16))),(JS,(.int (.ofNat 32))),(JT,(.int (.ofNat 64)))])
noncomputable def DK:J:=(.int (.ofNat 512))
def HJ:J:=(.tup [(.str mL),(.str s0)])
def yV:J:=(.tup [(.str ot),(.tup []),(.tup []),(.bool false)])
noncomputable def adL:List (List Str):=[[],[("world":Str)],[("reel":Str),("some":Str)],[],[],[("checker":Str),("node":Str),("wanted":Str)],[("checker":Str),("node":Str),("wanted":Str)],[("way":Str),("spot":Str),("whole":Str),("truth":Str),("line":Str),("pair":Str),("made":Str)],[("made":Str),("T":Str),("spot":Str),("fault":Str),("one":Str)],[("made":Str),("wanted":Str),("spot":Str),("is_pair":Str),("types":Str),("k":Str),("numbers":Str),("found":Str),("T":Str),("part":Str),("bad":Str)],[("k":Str)],[("one":Str)],[("spot":Str),("first":Str),("has_pairs":Str),("found":Str),("bad":Str),("is_pair":Str)],[("k":Str)],[("one":Str)],[("k":Str)],[("due":Str),("told":Str),("types":Str)],[("made":Str)],[("row":Str)],[("reel":Str)],[("reel":Str),("words":Str),("word":Str),("none":Str),("some":Str),("others":Str),("made":Str)],[("script":Str),("rows":Str),("made":Str),("due":Str),("told":Str)],[("turn":Str)],[("k":Str)],[("self":Str),("packages":Str)],[("self":Str),("path":Str),("package":Str),("underlying":Str),("methods":Str)],[("text":Str),("adding":Str),("gate":Str),("group":Str),("told":Str),("locks":Str),("waits":Str)],[("self":Str),("outer":Str),("owner":Str)],[("self":Str),("world":Str),("package":Str),("scope":Str),("key":Str),("readers":Str),("run_body":Str),("outer":Str)],[("self":Str),("node":Str),("wanted":Str)],[("self":Str),("node":Str),("wanted":Str)],[("self":Str),("made":Str),("spot":Str)],[("self":Str),("made":Str),("T":Str),("spot":Str),("one":Str),("is_face":Str)],[("self":Str),("made":Str),("T":Str)],[("self":Str),("T":Str),("name":Str)],[("checker":Str),("node":Str),("wanted":Str)],[("checker":Str),("node":Str),("many":Str),("spot":Str),("has_pairs":Str),("pair":Str),("made":Str)],[("made":Str),("wanted":Str),("spot":Str),("is_pair":Str),("T":Str),("numbers":Str),("found":Str),("at":Str),("part":Str)],[("T":Str)],[("nodes":Str),("wanted":Str),("spot":Str),("has_pairs":Str),("made":Str),("is_pair":Str)],[("T":Str),("own":Str)],[("node":Str),("T":Str)],[("made":Str),("many":Str)],[("one":Str)],[("made":Str)],[("checker":Str),("part":Str),("T":Str),("spot":Str)],[("checker":Str),("e":Str),("spot":Str),("is_pair":Str),("made":Str),("inner":Str),("T":Str)],[("checker":Str),("node":Str),("made":Str),("inner":Str)],[("T":Str),("kind":Str)],[("name":Str),("told":Str)],[("row":Str)],[("types":Str)],[("T":Str)],[("word":Str),("rows":Str)],[("world":Str),("T":Str)],[("T":Str)],[("T":Str)],[("T":Str)],[("world":Str),("T":Str)],[("world":Str),("T":Str)],[("world":Str),("T":Str)],[("world":Str),("one":Str),("other":Str),("here":Str),("there":Str)],[("world":Str),("one":Str),("other":Str)],[("world":Str),("one":Str),("other":Str),("is_nil":Str)],[("world":Str),("value":Str),("one":Str),("other":Str),("inner":Str)],[("kind":Str)],[("kind":Str)],[("number":Str),("kind":Str),("low":Str),("high":Str)],[("value":Str),("told":Str),("word":Str)],[("world":Str),("told":Str),("levels":Str),("found":Str),("reached":Str),("base":Str),("name":Str),("func":Str)],[("world":Str),("told":Str),("begun":Str),("found":Str),("name":Str),("member":Str),("key":Str)],[("world":Str),("told":Str),("wanted":Str),("methods":Str),("name":Str),("func":Str)],[("self":Str),("world":Str),("told":Str)],[("self":Str),("reached":Str),("later":Str),("inner":Str)],[("self":Str),("told":Str),("steps":Str),("is_twice":Str)],[("world":Str),("told":Str)],[("world":Str),("reached":Str),("base":Str),("found":Str),("k":Str),("row":Str),("is_pointer":Str),("steps":Str)],[("world":Str),("told":Str),("inner":Str),("base":Str)],[("self":Str),("told":Str),("row":Str)],[("script":Str),("told":Str),("size":Str)],[("reel":Str),("many":Str),("found":Str)]]
def e8(k:Nat):List Str:=(d7 adL k).getD []
def Bi:List (Str×J):=[(J0,AU),(ahM,.dC 935),(ait,.dC 76),(JZ,Iv),(ahR,.dC 169),(J2,DK),(JY,zc),(JX,H2),(ais,.dC 52),(ahQ,.dC 959),(J1,yV),(aia,.dC 108),(ahY,.dC 817),(JV,Iu),(air,.dC 64),(JW,HH),(JU,HJ),(aii,.dC 1002),(ahX,.dC 1093),(ahw,.dC 1048),(ahB,.dC 1069),(ahP,.dC 1112),(ah1,.dC 1027),(ahx,.dC 1088),(ahG,.dC 1055),(ahr,.dC 1062),(ahL,.dC 1013),(J3,.dC 1098),(ahF,.dC 1083),(aiu,.dC 1034),(aic,.dC 1076),(ahC,.dC 1105),(aib,.dC 1041),(ahJ,.dC 1020),(aih,.dC 387),(ahE,.dC 258),(ahu,.dC 298),(ahD,.dC 145),(aid,.dC 319),(ahT,.dC 227),(ahA,.dC 415),(ah3,.dC 523),(ahN,.dC 530),(aif,.dC 399),(aie,.dC 422),(ahH,.dC 305),(ah7,.dC 508),(ah0,.dC 284),(ah9,.dC 312),(ah_,.dC 408),(ahS,.dC 291),(ahs,.dC 239),(ahy,.dC 970),(ah5,.dC 515),(ahv,.dC 213),(ah6,.dC 194),(ahU,.dC 369),(ahI,.dC 133),(aht,.dC 381),(ahZ,.dC 354),(ahO,.dC 326),(ahK,.dC 436),(ah8,.dC 180),(ah4,.dC 361),(ahV,.dC 376),(ahW,.dC 270),(ah2,.dC 392),(ahz,.dC 277)]
def GL(x:Str):Option J:=pg Bi x
def EU:List Str:=[aio,s0,aip,aim,s7,ain,VV,ail,VW,aiq,aik,jv,aij]
noncomputable def ma:List Str→Str→Bool
 |[],_=>false
 |y::l,x=>match sq y x with
  |true=>true
  |false=>ma l x
def qG(x:Str):Bool:=ma EU x
noncomputable def qu:List (Str×Nat)→Str→Option Addr
 |[],_=>none
 |p::l,x=>match decide (p.1=x)with
  |true=>some p.2
  |false=>qu l x
def Eg:CI:=⟨fun x=>ma [s3,Ck,Gq,Gr,Gs,Gu,Gv,Gw,Gx,uH,Gy,Gz,GA,GB,GC,GD,GF,GH,GI,GJ,pB,pC,pD] x,fun x=>qu [(("base_of":Str),992),(("__init__":Str),985)] x⟩
def DL:CI:=⟨fun x=>ma [tw,r9,pQ,uI,pB,pC,pD] x,fun x=>qu [(("__init__":Str),956)] x⟩
def Eh:CI:=⟨fun x=>ma [GS,GU,uJ,pB,pC,pD] x,fun x=>qu [(("__init__":Str),763)] x⟩
def DY:CI:=⟨fun x=>ma [tv,BA,l_,uH,GV,GW,GX,FH,FI,FJ,FK,FL,uJ,FN,FO,FP,pQ,pB,pC,pD] x,fun x=>qu [(("value_made":Str),860),(("expr":Str),845),(("coerce":Str),874),(("takes_type":Str),881),(("value":Str),853),(("hidden":Str),903),(("__init__":Str),837)] x⟩
def D9:CI:=⟨fun x=>ma [um,l_,BB,pB,pC,pD] x,fun x=>qu [(("go_on":Str),166),(("__init__":Str),159)] x⟩
def DZ:CI:=⟨fun x=>ma [s4,FT,FU,pB,pC,pD] x,fun x=>qu [(("__init__":Str),105)] x⟩
def Jb(C:Addr):Option CI:=match Nat.beq C 1002 with|true=>some Eg|false=>match Nat.beq C 959 with|true=>some DL|false=>match Nat.beq C 817 with|true=>some Eh|false=>match Nat.beq C 935 with|true=>some DY|false=>match Nat.beq C 169 with|true=>some D9|false=>match Nat.beq C 108 with|true=>some DZ|false=>none
noncomputable def wb:List Nat→Nat→Bool
 |[],_=>false
 |y::l,x=>match Nat.beq y x with
  |true=>true
  |false=>wb l x
def RK(a:Addr):Bool:=wb [105,108,133,145,159,166,169,180,194,213,227,239,258,270,277,284,291,298,305,312,319,326,354,361,369,376,381,387,392,399,408,415,422,436,508,515,523,530,763,817,837,845,853,860,874,881,903,935,956,959,970,985,992,1002,1013,1020,1027,1034,1041,1048,1055,1062,1069,1076,1083,1088,1093,1098,1105,1112,1117] a
def TB:Tb:=⟨Jb,RK⟩
theorem ZV:GL ("TypeFault":Str)=some (.dC 64):=by kernel_rfl
theorem Zr:GL ("_law_tried":Str)=some (.dC 1034):=by kernel_rfl
theorem Zs:qG ("Exception":Str)=true∧bootBuiltins ("Exception":Str)=some (.type "Exception"):=⟨by kernel_rfl,by kernel_rfl⟩
theorem Ei:qG ("bool":Str)=true∧bootBuiltins ("bool":Str)=some (.type "bool"):=⟨by kernel_rfl,by kernel_rfl⟩
theorem O8:qG ("bytes":Str)=true∧bootBuiltins ("bytes":Str)=some (.type "bytes"):=⟨by kernel_rfl,by kernel_rfl⟩
theorem QW:qG ("int":Str)=true∧bootBuiltins ("int":Str)=some (.type "int"):=⟨by kernel_rfl,by kernel_rfl⟩
theorem Qd:qG ("list":Str)=true∧bootBuiltins ("list":Str)=some (.type "list"):=⟨by kernel_rfl,by kernel_rfl⟩
noncomputable abbrev qv:X:=fun Z Z=>none
noncomputable abbrev aiv:XT:=fun Z Z=>none
noncomputable abbrev FV:XS:=fun Z Z=>none
theorem H_{l:List Str}{x:Str}(h:ma l x=true):x∈l:=by
 induction l with
 |nil=>cases h
 |cons y l ih=>
  unfold ma at h
  split at h
  ·rename_i hq
   rw[pe,decide_eq_true_eq]at hq
   rw[hq];exact bo
  ·exact bk _ (ih h)
structure Ctx(c:Cx):Prop where
 dE:c.dE=e8
 cT:c.cT=64
 T:qs c TB
 Fa:Facts c GL qG
 L:Bv c
 X:∃fI fd p,mY c fI fd p
 Tr:∃rX q u kk b1 b2,AS c GL 1034 rX q u kk b1 b2 qr
section
variable{c:Cx}{g:FC}{n:Nat}{A:Around}{env:Env}{f:Fr}{ρ:List Addr}{σ:List MO}{s:Shared}{tb:Tb}{gl:Str→Option J}{gz:Str→Bool}
theorem DT.cmp{l r:Expr}{op:CmpOp}{pos:Pos}{x y:X}(h1:DE c g n l x)(h2:DE c g n r y)(hm:behindInMarks op r=false:=by exact rfl):DT c g n (.Compare l [op] [r] pos) (cZ (cB (n9 op) x y)):=DT.nI (D2.cmp op) h1 h2 hm
theorem j1.mono{K:KT}{m:Nat}(h:j1 c m K)(k:Nat):j1 c (m+k) K:=fun A ρ σ s fv args F Vs hr hf sr rf ra=>h A ρ σ s fv args F Vs (hr.mono (Nat.le_add_right _ _)) hf sr rf ra
theorem DE.gvr(F:Facts c gl gz){x:Str}{v:J}{pos:Pos}(hv:gl x=some v)(hk:g.scope.names.lookup x=some .globalImplicit)(hd:(x==("__debug__":Str))=false):DE c g n (.Name x pos) (ret v):=DE.gv F hv hk hd
theorem av{x s:Str}{k:Nat}{pos:Pos}(h:x=s:=by kernel_rfl):DE c g n (.Constant (.str x) k pos) (ret (.str s)):=h▸DE.str
theorem DP.gr{k s:Str}{u:Nat}{p:Pos}{e:Expr}{keys:List (Option Expr)}{values:List Expr}{ks:List Str}{x:X}{xs:XL}(h:k=s)(h1:DE c g n e x)(h2:DP c g n keys values ks xs):
 DP c g n (some (.Constant (.str k) u p)::keys) (e::values) (s::ks) (bZ x xs):=h▸DP.cons h1 h2
noncomputable def zp(e:Expr):Str:=match e with|.Constant (.str x) _ _=>x|_=>⟨#[]⟩
noncomputable def aiw(e:Expr):Nat:=match e with|.Constant _ k _=>k|_=>0
def vJ(ss:List Str)(_:Fr)(σ:List MO):Out (List J):=ok (ss.map .str) σ
def Wh(e:Expr):Expr:=.Constant (.str (zp e)) (aiw e) e.pos
theorem bV.So:∀es:List Expr,bV c g n (es.map Wh) (vJ (es.map zp))
 |[]=>af
 |e::es=>(ae DE.str (bV.So es) rfl:bV c g n _ (bZ (ret (.str (zp e))) (vJ (es.map zp))))
theorem bV.strs{es:List Expr}{ss:List Str}(h:(es.map Wh,es.map zp)=(es,ss):=by kernel_rfl):bV c g n es (vJ ss):=by
 have h1:=congrArg Prod.fst h
 have h2:=congrArg Prod.snd h
 dsimp only at h1 h2
 rw[←h2]
 exact(congrArg (fun l=>bV c g n l (vJ (es.map zp))) h1).mp (bV.So es)
noncomputable def wX:List Str→Bool
 |[]=>true
 |x::l=>(match l.any fun y=>decide (y=x)with|true=>false|false=>wX l)
theorem yN:∀{l:List Str},wX l=true→l.Nodup
 |[],_=>.nil
 |x::l,h=>by
  unfold wX at h
  split at h
  ·cases h
  ·rename_i hq
   refine List.nodup_cons.mpr ⟨fun hm=>?_,yN h⟩
   have:=List.any_eq_false.mp hq x hm
   simp at this
noncomputable def neB{α:Type}:List α→Bool|[]=>false|_=>true
theorem DE.Bj(F:Facts c gl gz){keys:List (Option Expr)}{values:List Expr}{ks:List Str}{pos:Pos}{xs:XL}(h:DP c g n keys values ks xs)(rF:keys.all (·.isSome)=true)(hl:Nat.beq keys.length values.length=true)(h0:neB keys=true)(hlen:Nat.ble keys.length 15=true)(mH:wX ks=true):
 DE c g n (.Dict keys values pos) (ue ks xs):=DE.agt F h rF (aY hl) (fun q=>by rw[q]at h0;cases h0) (bw hlen) (yN mH)
theorem DE.Sp{sep s:Str}{k:Nat}{cp:Pos}{e:Expr}{ap pos:Pos}{x:X}(hs:sep=s)(h:DE c g n e x)(hu:jf e=true)(mz:(ap.endLine==pos.line)=true):
 DE c g n (.Call (.Attribute (.Constant (.str sep) k cp) "join" ap) [e] [] pos) (m1 (Fe s) x):=hs▸DE.join h hu mz
theorem DE.neg{k u:Nat}{p pos:Pos}:DE c g n (.UnaryOp .USub (.Constant (.int (.ofNat (k+1))) u p) pos) (ret (.int (.negSucc k))):=by
 intro A env f ρ σ s hr he sr
 refine⟨fun r cG hx Q E P=>?_⟩
 cases hx
 refine wpAny_UnaryOp (wpAny_Constant_int (PySem.P.neg_int ?_))
 have: -(Int.ofNat (k+1))=Int.negSucc k:=rfl
 rw[this]
 exact P.ok _ _ ρ _ rfl (Ext.refl _ _) ((sr.toks (s.toks+1)).toks _) (.int _ _)
def r_(l:List Str)(i:Nat)(x:Str):Bool:=match d7 l i with
 |some y=>decide (y=x)&&wX l
 |none=>false
theorem ub{l:List Str}{i:Nat}{x:Str}(h:r_ l i x=true):l[i]? =some x∧∀j,l[j]? =some x→j=i:=by
 unfold r_ at h
 split at h
 ·rename_i y hy
  rw[il]at hy
  rw[Bool.and_eq_true,decide_eq_true_eq]at h
  obtain⟨rfl,hn⟩:=h
  refine⟨hy,fun j hj=>?_⟩
  obtain⟨l1,g1⟩:=aZ hj
  obtain⟨l2,g2⟩:=aZ hy
  exact(List.getElem_inj (yN hn)).mp (g1.trans g2.symm)
 ·cases h
theorem DA.lvW{x:Str}{i:Nat}{pos:Pos}(hi:r_ (c.dE g.k) i x=true)(hk:g.scope.names.lookup x=some .local):DA c g n (.Name x pos) (c_ g.k i):=DA.lv (ub hi).1 (ub hi).2 hk
theorem eZ.adM{x:Str}{i:Nat}{ns:List Str}{xs:Fr→List J→List MO→Out Unit}(hi:r_ (c.dE g.k) i x=true)(hk:g.scope.names.lookup x=some .local)(h:eZ c g n (fun env=>ns.map fun x=>bindName env x) xs):
 eZ c g n (fun env=>(x::ns).map fun x=>bindName env x) (fL (c_ g.k i) xs):=eZ.aeX (ub hi).1 (ub hi).2 hk h
def afj(_:Fr)(σ:List MO):Out MF:=ok (.ret .none) σ
theorem D1.aps{pos:Pos}:D1 c g n (.Return none pos) afj:=by
 intro A env f ρ σ s hr he sr
 refine⟨fun r cG hx Q E P=>?_⟩
 cases hx
 exact wpAny_Return_none (P.here sr .none)
def FW(sc:Scope)(cn cn':List Str)(fJ:List Nat):Bool:=
 (sc.names.all fun y=>match y.2 with|.free=>cn'.any (fun z=>decide (z=y.1))|_=>true)&&Nat.beq cn'.length fJ.length&&
 (cn'.zip fJ).all fun p=>(sc.names.any fun y=>match y.2 with|.free=>decide (y.1=p.1)|_=>false)&&match d7 cn p.2 with|some z=>decide (z=p.1)|none=>false
theorem O9{sc:Scope}{cn cn':List Str}{fJ:List Nat}(h:FW sc cn cn' fJ=true):oR sc cn cn' fJ:=by
 unfold FW at h
 rw[Bool.and_eq_true,Bool.and_eq_true]at h
 obtain⟨⟨h1,h2⟩,h3⟩:=h
 have h2:=aY h2
 refine⟨fun x hx=>?_,fun k x hk=>?_⟩
 ·have:=bh h1 _ hx
  obtain⟨z,hz,e⟩:=List.any_eq_true.mp this
  rw[decide_eq_true_eq]at e
  have e:z=x:=e
  rw[←e];exact hz
 ·obtain⟨l1,g1⟩:=aZ hk
  have l2:k<fJ.length:=by omega
  have hz:(cn'.zip fJ)[k]? =some (x,fJ[k]):=by
   rw[List.getElem?_zip_eq_some]
   exact⟨hk,bj l2⟩
  have:=bh h3 _ (a0 hz)
  rw[Bool.and_eq_true]at this
  obtain⟨q1,q2⟩:=this
  obtain⟨y,hy,e⟩:=List.any_eq_true.mp q1
  refine⟨?_,fJ[k],bj l2,?_⟩
  ·obtain⟨y1,y2⟩:=y
   dsimp only at e
   split at e
   ·rw[decide_eq_true_eq]at e
    subst e;exact hy
   ·cases e
  ·split at q2
   ·rename_i z hz'
    rw[decide_eq_true_eq]at q2
    rw[←il,hz',q2]
   ·cases q2
def Fg(sc:Scope)(cn cn':List Str)(fJ:List Nat):Bool:=
 (match sc.kind with|.function=>true|_=>false)&&FW sc cn cn' fJ&&(sc.names.all fun y=>match y.2 with|.cell=>false|_=>true)&&(sc.names.all fun y=>match y.2 with|.local=>decide (sc.names.lookup y.1=some .local)|_=>true)
theorem O_{sc:Scope}{cn cn':List Str}{fJ:List Nat}(h:Fg sc cn cn' fJ=true):sc.kind=.function∧oR sc cn cn' fJ∧(∀y∈sc.names,y.2≠.cell)∧∀y∈sc.names,y.2=.local→sc.names.lookup y.1=some .local:=by
 unfold Fg at h
 rw[Bool.and_eq_true,Bool.and_eq_true,Bool.and_eq_true]at h
 obtain⟨⟨⟨h1,h2⟩,h3⟩,h4⟩:=h
 refine⟨?_,O9 h2,fun y hy e=>?_,fun y hy e=>?_⟩
 ·cases hk:sc.kind<;>rw[hk]at h1<;>first|rfl|cases h1
 ·have:=bh h3 _ hy
  rw[e]at this;cases this
 ·have:=bh h4 _ hy
  rw[e]at this
  exact of_decide_eq_true this
theorem nK{elt tg iter:Expr}{ifs:List Expr}{sc:Scope}{pos:Pos}{k' w:Nat}{cn':List Str}{fJ:List Nat}{src:KD}{t:Fr→J→List MO→Out Unit}{q:XT}{x:X}
  (s_:DI c g n tg iter src) (ht:DA c ⟨k',oJ sc g.scope,cn',none⟩ n tg t) (hq:jV c ⟨k',oJ sc g.scope,cn',none⟩ n ifs q) (hx:DE c ⟨k',oJ sc g.scope,cn',none⟩ n elt x)
  (hw:(c.dE k').length=w) (hb:Fg sc g.cn cn' fJ=true) (hs:∀env V,foldedSetIterable iter env V=pure V):
  DE c g n (.ListComp elt [⟨tg,iter,ifs,0⟩] sc pos) (jo k' w fJ src t q x):=
 have h:=O_ hb
 acE (g':=⟨k',oJ sc g.scope,cn',none⟩) s_ ht hq hx rfl h.1 h.2.1 rfl hw h.2.2.1 h.2.2.2 hs
theorem Fh{elt tg iter:Expr}{ifs:List Expr}{sc:Scope}{lR FF py:Pos}{y:Str}{iy k' w:Nat}{cn':List Str}{fJ:List Nat}{src:KD}{t:Fr→J→List MO→Out Unit}{q:XT}{x:X}
  (s_:DI c g n tg iter src) (ht:DA c ⟨k',oJ sc g.scope,cn',none⟩ n tg t) (hq:jV c ⟨k',oJ sc g.scope,cn',none⟩ n ifs q) (hx:DE c ⟨k',oJ sc g.scope,cn',none⟩ n elt x)
  (hw:(c.dE k').length=w) (hb:Fg sc g.cn cn' fJ=true) (hs:∀env V,foldedSetIterable iter env V=pure V)
  (hi:r_ (c.dE g.k) iy y=true) (hl:g.scope.names.lookup y=some .local) (mz:(py.line==lR.line)=true) (rJ:(sc.names.any fun(p:Str×NameKind)=>p.1==y&&(p.2==.local||p.2==.cell))=false):
  D1 c g n (.Assign [.Name y py] (.ListComp elt [⟨tg,iter,ifs,0⟩] sc lR) FF) (dc (jo k' w fJ src t q x) (c_ g.k iy)):=
 have h:=O_ hb
 D1.agr (g':=⟨k',oJ sc g.scope,cn',none⟩) s_ ht hq hx rfl h.1 h.2.1 rfl hw h.2.2.1 h.2.2.2 hs (ub hi).1 (ub hi).2 hl mz rJ
theorem afk(T:qs c tb){C:Nat}{ci:CI}{e:Expr}{name s:Str}{pos:Pos}{x:X}(hs:name=s)(h1:DE c g n e x)(hc:tb.cls C=some ci)(hf:ci.free s=true)(hb:sP e)(hB:typeLookup (.type "object") name=pure Option.none):
  DE c g n (.Attribute e name pos) (m1 (gO C s) x):=by
 subst hs;exact DE.IX T h1 hc hf hb hB
theorem adN(T:qs c tb){C:Nat}{ci:CI}{e:Expr}{name s:Str}{pos:Pos}{x:X}(hs:name=s)(h1:DE c g n e x)(hc:tb.cls C=some ci)(hf:ci.free s=true)(hB:typeLookup (.type "object") name=pure Option.none):
  DA c g n (.Attribute e name pos) (f7 C s x):=by
 subst hs;exact DA.IX T h1 hc hf hB
theorem afl{K:KT}(T:qs c tb)(hK:j1 c n K){C a:Nat}{ci:CI}{e:Expr}{name s:Str}{es:List Expr}{apos pos:Pos}{y:X}{xs:XL}(hs:name=s)(h1:DE c g n e y)(h2:bV c g n es xs)
  (hc:tb.cls C=some ci) (hm:ci.rC s=some a) (ha:tb.call a=true) (hu:es.all jf=true) (wK:sP e) (mz:(apos.endLine==pos.line)=true) (Bt:Nat.blt es.length 29=true) {t:Option Value} (hB:typeLookup (.type "object") name=pure t):
  DE c g n (.Call (.Attribute e name apos) es [] pos) (ky K C a s y xs):=by
 subst hs;exact DE.aeO T hK h1 h2 hc hm ha hu wK mz Bt hB
theorem Ctx.raise(H:Ctx c){np lR pos:Pos}{e1 e2:Expr}{y1 y2:Mine.X}(hk:g.scope.names.lookup ("TypeFault":Str)=some .globalImplicit)(hd:(("TypeFault":Str)==("__debug__":Str))=false)
  (h1:DE c g (n+1) e1 y1) (h2:DE c g (n+1) e2 y2) (u1:jf e1=true) (u2:jf e2=true):D1 c g (n+1) (.Raise (some (.Call (.Name "TypeFault" np) [e1,e2] [] lR)) none pos) (qm y1 y2):=by
 obtain⟨fI,fd,p,X⟩:=H.X
 exact D1.raise X H.Fa Zs.1 (by rw[H.cT];exact ZV) hk hd h1 h2 u1 u2
def Tz(sc:Scope)(cn cn':List Str)(fJ:List Nat):Bool:=
 (match sc.kind with|.function=>true|_=>false)&&FW sc cn cn' fJ&&(sc.names.all fun y=>match y.2 with|.cell=>false|_=>true)&&(match sc.isCoroutine with|true=>false|false=>true)&&(match sc.isGenerator with|true=>false|false=>true)
theorem Ctx.zb(H:Ctx c){p0 pos lR:Pos}{body:Expr}{sc:Scope}{cn':List Str}{fJ:List Nat}{x:Mine.X}{it cc:Nat}(hcode:g.code=some cc)
  (La:g.scope.names.lookup ("_law_tried":Str)=some .globalImplicit) (Lb:(("_law_tried":Str)==("__debug__":Str))=false) (hb:Tz sc g.cn cn' fJ=true)
  (hx:DE c ⟨0,sc,cn',Option.none⟩ n body x):DE c g (n+2) (.Call (.Name "_law_tried" p0) [.Lambda vi body sc pos] [] lR) (vv it cc pos.line pos.col qr fJ x):=by
 obtain⟨fI,fd,p,X⟩:=H.X
 obtain⟨rX,q,u,kk,b1,b2,T⟩:=H.Tr
 unfold Tz at hb
 rw[Bool.and_eq_true,Bool.and_eq_true,Bool.and_eq_true,Bool.and_eq_true]at hb
 obtain⟨⟨⟨⟨h1,h2⟩,h3⟩,h4⟩,h5⟩:=hb
 refine DE.zb T X H.Fa H.L (by rw[H.dE];rfl) Zr La Lb (H.T.call 1034 (by kernel_rfl)) hx ?_ ?_ ?_ (fun y hy e=>?_) (O9 h2) hcode
 ·cases hk:sc.kind<;>rw[hk]at h1<;>first|rfl|cases h1
 ·cases hk:sc.isCoroutine<;>rw[hk]at h4<;>first|rfl|cases h4
 ·cases hk:sc.isGenerator<;>rw[hk]at h5<;>first|rfl|cases h5
 ·have:=bh h3 _ hy
  rw[e]at this;cases this
def Fi(l:List J)(σ:List MO):Out J:=match l with
 |[.int a,.int b]=>ok (.int (if b>a then b else a)) σ
 |_=>none
theorem CN.max2:CN c n (.builtin "max") Fi:=by
 intro A ρ σ s l L hr hf sr rl
 refine⟨fun r cG hx Q E P=>?_⟩
 unfold Fi at hx
 split at hx
 ·cases hx
  cases rl with
  |cons r1 r2=>
   cases r2 with
   |cons r2 r3=>
    cases r3;cases r1;cases r2
    refine max_two_ints hr.calm fun h' tk k=>?_
    have fin:∀(i:Int) (t:Tok),iT c (cI c) ρ s.heap (.ok (.int i)) σ Q E→Q (.int i t) {s with heap:=h',toks:=tk}:=fun i t P=>P.ok _ _ ρ _ rfl (Ext.keeps k) (sr.keeps (t:=tk) k) (.int _ _)
    split
    ·rename_i gD
     rw[if_pos gD]at P
     exact fin _ _ P
    ·rename_i gD
     rw[if_neg gD]at P
     exact fin _ _ P
 ·cases hx
end
section
variable{c:Cx}{g:FC}{n m:Nat}(H:Ctx c){x name s:Str}{p apos pos:Pos}{e:Expr}{es:List Expr}{C a:Nat}{K:KT}{y:X}{xs:XL}
include H
theorem gv{v:J}(hv:GL x=some v:=by kernel_rfl)(hk:g.scope.names.lookup x=some .globalImplicit:=by kernel_rfl)(hd:(x==("__debug__":Str))=false:=by kernel_rfl):DE c g n (.Name x pos) (ret v):=DE.gv H.Fa hv hk hd
theorem lv{i:Nat}(hi:(e8 g.k)[i]? =some x:=by kernel_rfl)(hk:g.scope.names.lookup x=some .local:=by kernel_rfl)(hd:(x==("__debug__":Str))=false:=by kernel_rfl):DE c g n (.Name x pos) (bY g.k i):=DE.lv ((congrArg (fun f=>(f g.k)[i]?) H.dE).trans hi) hk hd
theorem lw{i:Nat}(hi:r_ (e8 g.k) i x=true:=by kernel_rfl)(hk:g.scope.names.lookup x=some .local:=by kernel_rfl):DA c g n (.Name x pos) (c_ g.k i):=DA.lvW ((congrArg (fun f=>r_ (f g.k) i x) H.dE).trans hi) hk
theorem nh{i:Nat}{ns:List Str}{xs:Fr→List J→List MO→Out Unit}(h:eZ c g n (fun env=>ns.map fun x=>bindName env x) xs)(hi:r_ (e8 g.k) i x=true:=by kernel_rfl)(hk:g.scope.names.lookup x=some .local:=by kernel_rfl):eZ c g n (fun env=>(x::ns).map fun x=>bindName env x) (fL (c_ g.k i) xs):=eZ.adM ((congrArg (fun f=>r_ (f g.k) i x) H.dE).trans hi) hk h
theorem cq(hK:j1 c n K)(h2:bV c g n es xs)(hv:GL x=some (.dC a):=by kernel_rfl)(hk:g.scope.names.lookup x=some .globalImplicit:=by kernel_rfl)(hd:(x==("__debug__":Str))=false:=by kernel_rfl)(ha:TB.call a=true:=by kernel_rfl)(hu:es.all jf=true:=by exact rfl):DE c g n (.Call (.Name x p) es [] pos) (dD K a xs):=DE.aeT H.T hK (gv H hv hk hd) h2 ha rfl hu
theorem cg(hK:j1 c m K)(h2:bV c g (m+2) es xs)(hv:GL x=some (.dC a):=by kernel_rfl)(hk:g.scope.names.lookup x=some .globalImplicit:=by kernel_rfl)(hd:(x==("__debug__":Str))=false:=by kernel_rfl)(ha:TB.call a=true:=by kernel_rfl)(hu:es.all jf=true:=by exact rfl):DE c g (m+2) (.Call (.Name x p) es [] pos) (dD K a xs):=cq H (hK.mono 2) h2 hv hk hd ha hu
omit H in
theorem Lw(h:fastLookup "object" s=some none):typeLookup (.type "object") s=pure none:=by rw[typeLookup_type,builtinLookup_eq_fast,h]
theorem aE(h1:DE c g n e y)(hs:name=s:=by kernel_rfl)(hf:(TB.cls C).map (·.free s)=some true:=by kernel_rfl)(ho:fastLookup "object" s=some none:=by kernel_rfl)(hb:sP e:=by exact rfl):DE c g n (.Attribute e name pos) (m1 (gO C s) y):=
 (Option.map_eq_some_iff.mp hf).elim fun Z h=>afk H.T hs h1 h.1 h.2 hb (hs▸Lw ho)
theorem sE(h1:DE c g n e y)(hs:name=s:=by kernel_rfl)(hf:(TB.cls C).map (·.free s)=some true:=by kernel_rfl)(ho:fastLookup "object" s=some none:=by kernel_rfl):DA c g n (.Attribute e name pos) (f7 C s y):=
 (Option.map_eq_some_iff.mp hf).elim fun Z h=>adN H.T hs h1 h.1 h.2 (hs▸Lw ho)
theorem mE(hK:j1 c m K)(h1:DE c g (m+2) e y)(h2:bV c g (m+2) es xs)(hs:name=s:=by kernel_rfl)(hf:(TB.cls C).bind (·.rC s)=some a:=by kernel_rfl)(ho:fastLookup "object" s=some none:=by kernel_rfl)(ha:TB.call a=true:=by kernel_rfl)(hu:es.all jf=true:=by exact rfl)(hb:sP e:=by exact rfl)(hl:(apos.endLine==pos.line)=true:=by exact rfl)(hw:Nat.blt es.length 29=true:=by exact rfl):
  DE c g (m+2) (.Call (.Attribute e name apos) es [] pos) (ky K C a s y xs):=
 (Option.bind_eq_some_iff.mp hf).elim fun Z h=>afl H.T (hK.mono 2) hs h1 h2 h.1 h.2 ha hu hb hl hw (hs▸Lw ho)
theorem bu{id:String}{f:J→List MO→Out J}(h:DE c g n e y)(hC:C1 c n (.builtin id) f)(hn:qG x=true:=by kernel_rfl)(hb:bootBuiltins x=some (.builtin id):=by kernel_rfl)(hk:g.scope.names.lookup x=some .globalImplicit:=by kernel_rfl)(hd:(x==("__debug__":Str))=false:=by kernel_rfl)(hu:jf e=true:=by exact rfl):DE c g n (.Call (.Name x p) [e] [] pos) (m1 f y):=abF H.Fa hn hb hk hd h hu hC
theorem GY{T:String}{f:J→List MO→Out J}(h:DE c g n e y)(hC:C1 c n (.type T) f)(hn:qG x=true:=by kernel_rfl)(hb:bootBuiltins x=some (.type T):=by kernel_rfl)(hk:g.scope.names.lookup x=some .globalImplicit:=by kernel_rfl)(hd:(x==("__debug__":Str))=false:=by kernel_rfl)(hu:jf e=true:=by exact rfl):DE c g n (.Call (.Name x p) [e] [] pos) (m1 f y):=aeS H.Fa hn hb hk hd h hu hC
theorem sb{T:String}{tg:Expr}{f:List J→List MO→Out Src}(h:bV c g n (e::es) xs)(hC:IN c n tg T f)(hn:qG x=true:=by kernel_rfl)(hb:bootBuiltins x=some (.type T):=by kernel_rfl)(hk:g.scope.names.lookup x=some .globalImplicit:=by kernel_rfl)(hd:(x==("__debug__":Str))=false:=by kernel_rfl)(hu:(e::es).all jf=true:=by exact rfl):DI c g n tg (.Call (.Name x p) (e::es) [] pos) (mZ f xs):=DI.typ H.Fa hn hb hk hd h hu hC
theorem Cm{id:String}{f:List J→List MO→Out J}(h:bV c g n (e::es) xs)(hC:CN c n (.builtin id) f)(hn:qG x=true:=by kernel_rfl)(hb:bootBuiltins x=some (.builtin id):=by kernel_rfl)(hk:g.scope.names.lookup x=some .globalImplicit:=by kernel_rfl)(hd:(x==("__debug__":Str))=false:=by kernel_rfl)(hu:(e::es).all jf=true:=by exact rfl):DE c g n (.Call (.Name x p) (e::es) [] pos) (mN f xs):=DE.bN H.Fa hn hb hk hd h hu hC
end
def fP(i:Nat)(st:Option Stmt):FC:=⟨i,j2 st,[],none⟩
noncomputable def MB:List Stmt:=PySem.Challenge.pw_xm0194_01.main.body
def xY:=eM MB 124
def Nv:=fP 1 xY
def Nw(K:KT):XS:=FG (ct (dc (dD K 1002 cm) (c_ 1 0)) (dc (dD K 959 (bZ (ret (.str s2)) (bZ (ret (.str s1)) (bZ (dq (bZ (ret (.str s0)) cm)) (bZ (ret (.fB [])) cm))))) (qp (m1 (gO 1002 s3) (bY 1 0)) (ret (.str s2))))) (ct (dG (dD K 935 (bZ (bY 1 0) (bZ (ret (.str s1)) (bZ (dD K 817 (bZ (ret .none) cm)) (bZ (ret (.str s6)) (bZ (ue [s4,s5] (bZ (ret (.dC 1055)) (bZ (ret (.dC 1062)) cm))) (bZ (ret .none) cm)))))))) cJ)
section
variable{c:Cx}(H:Ctx c){K:KT}{m:Nat}(di:j1 c m K)
include H di
theorem Y6:DS c Nv (m+2) (dM xY) (Nw K):=DS.agX (az (cg H di af) (lw H)) (aB (cg H di (ae av (ae av (ae (aj (ae av af)) (ae (aK H.Fa) af))))) (DA.itemF (aE H (lv H)) av)) (ag (aw (cg H di (ae (lv H) (ae av (ae (cg H di (ae aJ af)) (ae av (ae (DE.Bj H.Fa (DP.gr (by kernel_rfl) (gv H) (DP.gr (by kernel_rfl) (gv H) DP.nil)) rfl rfl rfl rfl (by kernel_rfl)) (ae aJ af)))))))) ah)
def yG:=eM MB 118
def Pa:=fP 2 yG
def Pb(K:KT):XS:=ct (dG (cB iM (bY 2 1) (dD K 1020 (bZ (bY 2 0) (bZ (m1 iC (bY 2 1)) cm))))) cJ
theorem aaJ:DS c Pa (m+2) (dM yG) (Pb K):=ag (aw (DE.jy (lv H) (cg H di (ae (lv H) (ae (bu H (lv H) C1.len) af))))) ah
def yr:=eM MB 120
def Od:=fP 3 yr
def Oe(K:KT):XS:=ct (dG (dq (bZ (ret (.str s7)) (bZ (ret (.str s7)) cm)))) cJ
theorem ZW:DS c Od (m+2) (dM yr) (Oe K):=ag (aw (aj (ae av (ae av af)))) ah
def yH:=eM MB 121
def Pc:=fP 4 yH
def Pd(K:KT):XS:=ct (dG (dq (bZ (ret (.str s8)) (bZ (dq cm) cm)))) cJ
theorem aaK:DS c Pc (m+2) (dM yH) (Pd K):=ag (aw (aj (ae av (ae (aj af) af)))) ah
def xE:=eM MB 122
def MS:=fP 5 xE
def MT(K:KT):XS:=ct (dG (m1 (cP 2) (bY 5 1))) cJ
theorem Ys:DS c MS (m+2) (dM xE) (MT K):=ag (aw (ai (lv H))) ah
def xB:=eM MB 123
def MK:=fP 6 xB
def ML(K:KT):XS:=ct (dG (dq (bZ (ret (.str s9)) (bZ (dD K 1041 cm) (bZ (m1 (cP 1) (bY 6 1)) (bZ (m1 (cP 2) (m1 (cP 3) (bY 6 1))) (bZ (ret (.bool false)) cm))))))) cJ
theorem Ym:DS c MK (m+2) (dM xB) (ML K):=ag (aw (aj (ae av (ae (cg H di af) (ae (ai (lv H)) (ae (ai (ai (lv H))) (ae ar af))))))) ah
def yt:=eM MB 125
def Of:=fP 7 yt
def Og(K:KT):XS:=ct (dc (dq (bZ (dD K 1041 cm) (bZ (dq (bZ (ret (.str s0)) cm)) cm))) (rr 2 (fL (c_ 7 3) (fL (c_ 7 2) jt)))) (ct (dc (dq (bZ (ret (.str jh)) (bZ (dq (bZ (ret (.str mM)) (bZ (ret (.str pP)) (bZ (bY 7 2) cm)))) (bZ (bY 7 1) (bZ (ret (.int (.ofNat 7))) cm))))) (c_ 7 4)) (ct (dR (cZ (cB cU (bY 7 0) (ret (.int (.ofNat 6))))) (ct (dc (dq (bZ (ret (.str s9)) (bZ (dq (bZ (ret (.str jv)) (bZ (dq (bZ (bY 7 2) (bZ (bY 7 3) cm))) cm))) (bZ (bY 7 1) (bZ (bY 7 4) (bZ (ret (.bool true)) cm)))))) (c_ 7 5)) (ct (dG (dq (bZ (dq (bZ (ret (.str s5)) (bZ (bY 7 1) (bZ (ret (.str Gp)) (bZ (dq (bZ (ret (.str s4)) (bZ (bY 7 1) (bZ (bY 7 4) cm)))) cm))))) (bZ (dq (bZ (ret (.str s9)) (bZ (bY 7 2) (bZ (bY 7 1) (bZ (bY 7 4) (bZ (ret (.bool false)) cm)))))) (bZ (bY 7 5) cm))))) cJ)) cJ) (ct (dc (cB iM (gw (bZ (dq (bZ (ret (.str r8)) (bZ (dq (bZ (ret (.str mL)) (bZ (ret (.str s7)) cm))) (bZ (bY 7 1) (bZ (ret (.int (.ofNat 5))) cm))))) (bZ (dq (bZ (ret (.str jh)) (bZ (bY 7 2) (bZ (bY 7 1) (bZ (ret (.int (.ofNat 3))) cm))))) (bZ (dq (bZ (ret (.str jh)) (bZ (bY 7 3) (bZ (bY 7 1) (bZ (ret (.int (.ofNat 4))) cm))))) (bZ (dq (bZ (ret (.str mK)) (bZ (dq (bZ (ret (.str mK)) cm)) (bZ (bY 7 1) cm)))) (bZ (dq (bZ (ret (.str pO)) (bZ (dq (bZ (ret (.str jv)) (bZ (dq (bZ (bY 7 2) (bZ (bY 7 3) cm))) cm))) (bZ (bY 7 1) (bZ (dq (bZ (ret (.str qF)) (bZ (ret (.str Ci)) cm))) (bZ (dq cm) cm)))))) (bZ (dq (bZ (ret (.str pO)) (bZ (dq (bZ (ret (.str jv)) (bZ (dq (bZ (bY 7 2) (bZ (bY 7 3) (bZ (bY 7 2) cm)))) cm))) (bZ (bY 7 1) (bZ (dq (bZ (ret (.str qF)) (bZ (ret (.str Cg)) cm))) (bZ (dq cm) cm)))))) cm))))))) (bY 7 0)) (c_ 7 6)) (ct (dG (dq (bZ (dq (bZ (ret (.str s4)) (bZ (bY 7 1) (bZ (bY 7 6) cm)))) (bZ (bY 7 6) (bZ (ret .none) cm))))) cJ))))
theorem ZX:DS c Of (m+2) (dM yt) (Og K):=ag (D1.ud (names:=[("whole":Str),("truth":Str)]) (aj (ae (cg H di af) (ae (aj (ae av af)) af))) (by kernel_rfl) (nh H (nh H eZ.ui)) rfl) (ag (az (aj (ae av (ae (aj (ae av (ae av (ae (lv H) af)))) (ae (lv H) (ae ak af))))) (lw H)) (ag (ay (aG (lv H) ak) (ag (az (aj (ae av (ae (aj (ae av (ae (aj (ae (lv H) (ae (lv H) af))) af))) (ae (lv H) (ae (lv H) (ae ar af)))))) (lw H)) (ag (aw (aj (ae (aj (ae av (ae (lv H) (ae av (ae (aj (ae av (ae (lv H) (ae (lv H) af)))) af))))) (ae (aj (ae av (ae (lv H) (ae (lv H) (ae (lv H) (ae ar af)))))) (ae (lv H) af))))) ah)) ah) (ag (az (DE.jy (au (ae (aj (ae av (ae (aj (ae av (ae av af))) (ae (lv H) (ae ak af))))) (ae (aj (ae av (ae (lv H) (ae (lv H) (ae ak af))))) (ae (aj (ae av (ae (lv H) (ae (lv H) (ae ak af))))) (ae (aj (ae av (ae (aj (ae av af)) (ae (lv H) af)))) (ae (aj (ae av (ae (aj (ae av (ae (aj (ae (lv H) (ae (lv H) af))) af))) (ae (lv H) (ae (aj (ae av (ae av af))) (ae (aj af) af)))))) (ae (aj (ae av (ae (aj (ae av (ae (aj (ae (lv H) (ae (lv H) (ae (lv H) af)))) af))) (ae (lv H) (ae (aj (ae av (ae av af))) (ae (aj af) af)))))) af))))))) (lv H)) (lw H)) (ag (aw (aj (ae (aj (ae av (ae (lv H) (ae (lv H) af)))) (ae (lv H) (ae aJ af))))) ah))))
def yu:=eM MB 126
def Oh:=fP 8 yu
def Oi(K:KT):XS:=ct (dc (dq (bZ (dq (bZ (ret (.str iB)) (bZ (bY 8 2) cm))) (bZ (m1 (cP 1) (bY 8 0)) cm))) (rr 2 (fL (c_ 8 4) (fL (c_ 8 3) jt)))) (ct (dR (ia (cZ (cB cU (m1 (cP 0) (bY 8 4)) (ret (.str jv)))) (ia (gP (cZ (m1 jc (bY 8 1))) (gP (cZ (cB cU (bY 8 4) (dq (bZ (ret (.str mK)) cm)))) (fun Z σ=>ok true σ))) (fun Z σ=>ok false σ))) (ct (dG (bY 8 3)) cJ) cJ) (ct (dR (gP (cZ (cB cU (m1 (cP 0) (bY 8 4)) (ret (.str mL)))) (gP (cZ (cB jz (bY 8 1) (gw (bZ (ret .none) (bZ (dD K 1041 cm) cm))))) (fun Z σ=>ok true σ))) (ct (dG (cB (eW .Add) (cB (eW .Add) (cB A3 (bY 8 0) (ret (.int (.ofNat 1)))) (dq (bZ (dD K 1041 cm) cm))) (cB A5 (bY 8 0) (ret (.int (.ofNat 2)))))) cJ) cJ) (ct (dR (ia (cZ (m1 jc (bY 8 1))) (ia (cZ (cB cU (bY 8 4) (bY 8 1))) (fun Z σ=>ok false σ))) (ct (dG (bY 8 0)) cJ) cJ) (ct (dR (cZ (cB eX (bY 8 1) (dD K 1048 cm))) (ct (dG (bY 8 3)) cJ) cJ) (ct (dR (cZ (cB cU (bY 8 4) (dq (bZ (ret (.str mK)) cm)))) (ct (dG (dq (bZ (ret (.str mK)) (bZ (bY 8 1) (bZ (m1 (cP 2) (bY 8 0)) cm))))) cJ) cJ) (ct (dG (dq (bZ (ret (.str wU)) (bZ (bY 8 1) (bZ (m1 (cP 2) (bY 8 0)) (bZ (dR (cZ (cB cU (m1 (cP 0) (bY 8 4)) (ret (.str mL)))) (cB (eW .Add) (cB (eW .Add) (cB A3 (bY 8 0) (ret (.int (.ofNat 1)))) (dq (bZ (dD K 1041 cm) cm))) (cB A5 (bY 8 0) (ret (.int (.ofNat 2))))) (bY 8 0)) cm)))))) cJ))))))
theorem ZY:DS c Oh (m+2) (dM yu) (Oi K):=ag (D1.ud (names:=[("fault":Str),("one":Str)]) (aj (ae (aj (ae av (ae (lv H) af))) (ae (ai (lv H)) af))) (by kernel_rfl) (nh H (nh H eZ.ui)) rfl) (ag (ay (DT.or (aG (ai (lv H)) av) (DT.or (aC (DT.jc (lv H)) (aC (aG (lv H) (aj (ae av af))) DT.lN)) DT.nG)) (ag (aw (lv H)) ah) ah) (ag (ay (aC (aG (ai (lv H)) av) (aC (DT.jz (lv H) (au (ae aJ (ae (cg H di af) af)))) DT.lN)) (ag (aw (ao (ao (DE.pv (lv H) ak) (aj (ae (cg H di af) af))) (DE.from (lv H) ak))) ah) ah) (ag (ay (DT.or (DT.jc (lv H)) (DT.or (aG (lv H) (lv H)) DT.nG)) (ag (aw (lv H)) ah) ah) (ag (ay (DT.eX (lv H) (cg H di af)) (ag (aw (lv H)) ah) ah) (ag (ay (aG (lv H) (aj (ae av af))) (ag (aw (aj (ae av (ae (lv H) (ae (ai (lv H)) af))))) ah) ah) (ag (aw (aj (ae av (ae (lv H) (ae (ai (lv H)) (ae (aU (aG (ai (lv H)) av) (ao (ao (DE.pv (lv H) ak) (aj (ae (cg H di af) af))) (DE.from (lv H) ak)) (lv H)) af)))))) ah))))))
def yg:=eM MB 127
def NO:FC:=⟨9,j2 yg,[("first":Str)],none⟩
def NP(K:KT):XS:=FG (ct (dc (m1 (cP 1) (m1 (cP 1) (bY 9 0))) (c_ 9 4)) (ct (dc (dq (bZ (m1 IK (jo 10 1 [0] (mZ uk (bZ (m1 iC (bY 9 4)) cm)) (c_ 10 0) (fun Z σ=>ok true σ) (cB (eW .Add) (dX 0) (bY 10 0)))) (bZ (Bo cm) cm))) (rr 2 (fL (c_ 9 7) (fL (c_ 9 6) jt)))) (pj (mZ Fd (bZ (bY 9 4) cm)) (lj 2 (fL (c_ 9 5) (fL (c_ 9 8) jt))) (ct (dc (dq (bZ (ret (.str jh)) (bZ (bY 9 8) (bZ (bY 9 2) (bZ (cB iM (bY 9 6) (bY 9 5)) cm))))) (c_ 9 9)) (ct (dR (gP (cZ (bY 9 3)) (gP (cZ (cB cU (bY 9 5) (ret (.int (.ofNat 1))))) (gP (cZ (cB cU (cB iM (bY 9 1) (bY 9 5)) (dq (bZ (ret (.str s3)) (bZ (ret (.str s2)) cm))))) (fun Z σ=>ok true σ)))) (ct (sY (t_ (bY 9 7) (dq (bZ (ret (.str Lh)) (bZ (cB iM (bY 9 1) (bY 9 5)) (bZ (bY 9 2) (bZ (bY 9 9) cm))))))) cJ) (ct (sY (t_ (bY 9 7) (dR (cZ (m1 jc (cB iM (bY 9 1) (bY 9 5)))) (bY 9 9) (dD K 1083 (bZ (bY 9 9) (bZ (cB iM (bY 9 1) (bY 9 5)) (bZ (bY 9 2) cm))))))) cJ)) cJ))))) (ct (dc (jo 11 1 [] (kX (bY 9 7)) (c_ 11 0) (cZ (cB cU (m1 (cP 0) (bY 11 0)) (ret (.str iB)))) (bY 11 0)) (c_ 9 10)) (ct (dG (dR (cZ (cB eX (bY 9 10) (gw cm))) (m1 (cP 0) (bY 9 10)) (dq (bZ (gw (bZ (dq (bZ (ret (.str VU)) (bZ (bY 9 2) (bZ (bY 9 6) (bZ (dq (bZ (bY 9 0) cm)) cm))))) cm)) (bZ (bY 9 7) cm))))) cJ))
theorem Zt:DS c NO (m+2) (dM yg) (NP K):=DS.agY (az (ai (ai (lv H))) (lw H)) (D1.ud (names:=[("numbers":Str),("found":Str)]) (aj (ae (GY H (nK (cn':=[("first":Str)]) (sb H (ae (bu H (lv H) C1.len) af) IN.wQ) (lw H) aL (ao aq (lv H)) (by rw[H.dE];kernel_rfl) (by kernel_rfl) (fun Z Z=>rfl)) C1.tuple) (ae (DE.new af) af))) (by kernel_rfl) (nh H (nh H eZ.ui)) rfl) (D1.for (sb H (ae (lv H) af) IN.enum) (aP (aM (lw H) (aM (lw H) aN)) rfl (fun Z=>⟨rfl,rfl⟩)) (ag (az (aj (ae av (ae (lv H) (ae (lv H) (ae (DE.jy (lv H) (lv H)) af))))) (lw H)) (ag (ay (aC (aD (lv H)) (aC (aG (lv H) ak) (aC (aG (DE.jy (lv H) (lv H)) (aj (ae av (ae av af)))) DT.lN))) (ag (D1.exp (aI (lv H) (aj (ae av (ae (DE.jy (lv H) (lv H)) (ae (lv H) (ae (lv H) af))))))) ah) (ag (D1.exp (aI (lv H) (aU (DT.jc (DE.jy (lv H) (lv H))) (lv H) (cg H di (ae (lv H) (ae (DE.jy (lv H) (lv H)) (ae (lv H) af))))))) ah)) ah)) (fun Z Z=>rfl)) (ag (Fh (cn':=[]) (DI.seq (lv H)) (lw H) (jV.one (aG (ai (lv H)) av)) (lv H) (by rw[H.dE];kernel_rfl) (by kernel_rfl) (fun Z Z=>rfl) (by rw[H.dE];kernel_rfl) (by kernel_rfl) rfl (by kernel_rfl)) (ag (aw (aU (DT.eX (lv H) (au af)) (ai (lv H)) (aj (ae (au (ae (aj (ae av (ae (lv H) (ae (lv H) (ae (aj (ae (lv H) af)) af))))) af)) (ae (lv H) af))))) ah))
def yI:=eM MB 128
def Pe:FC:=⟨12,j2 yI,[("rows":Str),("wanted":Str),("made":Str)],none⟩
def qZ(K:KT):XS:=ct (dR (cZ (cB cU (m1 iC (dX 0)) (m1 iC (dX 1)))) (ct (dc (jo 15 1 [0,1] (mZ uk (bZ (m1 iC (dX 0)) cm)) (c_ 15 0) (fun Z σ=>ok true σ) (dD K 1083 (bZ (m1 (cP 1) (cB iM (dX 0) (bY 15 0))) (bZ (cB iM (dX 1) (bY 15 0)) (bZ (m1 (cP 1) (m1 (cP 0) (cB iM (dX 0) (bY 15 0)))) cm))))) (c_ 12 3)) (ct (dc (jo 14 1 [] (kX (bY 12 3)) (c_ 14 0) (cZ (cB cU (m1 (cP 0) (bY 14 0)) (ret (.str iB)))) (bY 14 0)) (c_ 12 4)) (ct (dG (dR (cZ (cB eX (bY 12 4) (gw cm))) (m1 (cP 0) (bY 12 4)) (dq (bZ (gw cm) (bZ (bY 12 3) cm))))) cJ))) cJ) (ct (dR (cZ (cB eX (m1 iC (dX 0)) (ret (.int (.ofNat 1))))) (ct (dG (dq (bZ (ret (.str iB)) (bZ (bY 12 0) cm)))) cJ) cJ) (ct (dc (nF (bY 12 2) (nF (cB cU (m1 iC (dX 1)) (ret (.int (.ofNat 2)))) (m1 k_ (m1 (cP 2) (m1 (cP 0) (dX 0)))))) (c_ 12 5)) (ct (dc (dR (cZ (bY 12 5)) (m1 (cP 2) (m1 (cP 0) (dX 0))) (m1 (cP 1) (m1 (cP 0) (dX 0)))) (lA 2)) (ct (dR (ia (cZ (cB eX (m1 (cP 0) (m1 (cP 1) (dX 2))) (ret (.str jv)))) (ia (cZ (cB eX (m1 iC (m1 (cP 1) (m1 (cP 1) (dX 2)))) (m1 iC (dX 1)))) (fun Z σ=>ok false σ))) (ct (dG (dq (bZ (ret (.str iB)) (bZ (bY 12 0) cm)))) cJ) cJ) (ct (dR (cZ (cB cU (jo 13 1 [2,1] (mZ uk (bZ (m1 iC (dX 1)) cm)) (c_ 13 0) (cZ (cB mx (cB iM (dX 1) (bY 13 0)) (gw (bZ (ret .none) (bZ (cB iM (m1 (cP 1) (m1 (cP 1) (dX 0))) (bY 13 0)) cm))))) (bY 13 0)) (gw cm))) (ct (dG (dq (bZ (gw cm) (bZ (gw (bZ (dX 2) cm)) cm)))) cJ) cJ) (ct (dG (dD K 1088 (bZ (dX 2) (bZ (dX 1) (bZ (bY 12 0) (bZ (bY 12 1) (bZ (bY 12 5) cm))))))) cJ))))))
theorem aaL:DS c Pe (m+2) (dM yI) (qZ K):=ag (ay (aG (bu H aq C1.len) (bu H aq C1.len)) (ag (Fh (cn':=[("rows":Str),("wanted":Str)]) (sb H (ae (bu H aq C1.len) af) IN.wQ) (lw H) aL (cg H di (ae (ai (DE.jy aq (lv H))) (ae (DE.jy aq (lv H)) (ae (ai (ai (DE.jy aq (lv H)))) af)))) (by rw[H.dE];kernel_rfl) (by kernel_rfl) (fun Z Z=>rfl) (by rw[H.dE];kernel_rfl) (by kernel_rfl) rfl (by kernel_rfl)) (ag (Fh (cn':=[]) (DI.seq (lv H)) (lw H) (jV.one (aG (ai (lv H)) av)) (lv H) (by rw[H.dE];kernel_rfl) (by kernel_rfl) (fun Z Z=>rfl) (by rw[H.dE];kernel_rfl) (by kernel_rfl) rfl (by kernel_rfl)) (ag (aw (aU (DT.eX (lv H) (au af)) (ai (lv H)) (aj (ae (au af) (ae (lv H) af))))) ah))) ah) (ag (ay (DT.eX (bu H aq C1.len) ak) (ag (aw (aj (ae av (ae (lv H) af)))) ah) ah) (ag (az (aS (lv H) (aS (aH (bu H aq C1.len) ak) (DE.mw (DE.k_ (ai (ai aq)))))) (lw H)) (ag (az (aU (aD (lv H)) (ai (ai aq)) (ai (ai aq))) aO) (ag (ay (DT.or (DT.eX (ai (ai aq)) av) (DT.or (DT.eX (bu H (ai (ai aq)) C1.len) (bu H aq C1.len)) DT.nG)) (ag (aw (aj (ae av (ae (lv H) af)))) ah) ah) (ag (ay (aG (nK (cn':=[("made":Str),("wanted":Str)]) (sb H (ae (bu H aq C1.len) af) IN.wQ) (lw H) (jV.one (DT.mx (DE.jy aq (lv H)) (au (ae aJ (ae (DE.jy (ai (ai aq)) (lv H)) af))))) (lv H) (by rw[H.dE];kernel_rfl) (by kernel_rfl) (fun Z Z=>rfl)) (au af)) (ag (aw (aj (ae (au af) (ae (au (ae aq af)) af)))) ah) ah) (ag (aw (cg H di (ae aq (ae aq (ae (lv H) (ae (lv H) (ae (lv H) af))))))) ah))))))
def yw:=eM MB 129
def Oj:FC:=⟨16,j2 yw,[("checker":Str),("rows":Str),("wanted":Str),("has_pairs":Str)],some 1097⟩
def vg(K:KT):XS:=ct (dc (dD K 1093 (bZ (dX 1) (bZ (dX 2) (bZ (ret (.int (.ofNat 9))) (bZ (m1 iC (m1 (gO 935 tv) (dX 0))) (bZ (dX 3) cm)))))) (c_ 16 0)) (ct (dc (vv 0 1097 980 22 qr [0,3,1,2] (dD K 387 (bZ (dX 0) (bZ (jo 18 1 [] (kX (dX 2)) (c_ 18 0) (fun Z σ=>ok true σ) (m1 (cP 0) (bY 18 0))) (bZ (dX 3) (bZ (ret (.int (.ofNat 9))) (bZ (dX 1) cm))))))) (c_ 16 1)) (ct (dR (ia (cZ (cB eX (bY 16 1) (bY 16 0))) (ia (cZ (cB cU (m1 (cP 0) (bY 16 0)) (ret (.str iB)))) (fun Z σ=>ok false σ))) (ct (dG (cB cU (bY 16 1) (bY 16 0))) cJ) cJ) (ct (dc (jo 17 1 [] (kX (m1 (cP 1) (bY 16 0))) (c_ 17 0) (fun Z σ=>ok true σ) (m1 (cP 1) (bY 17 0))) (c_ 16 2)) (ct (dR (gP (cZ (cB cU (m1 iC (bY 16 2)) (ret (.int (.ofNat 1))))) (gP (cZ (cB cU (m1 (cP 0) (m1 (cP 0) (bY 16 2))) (ret (.str jv)))) (fun Z σ=>ok true σ))) (ct (dc (m1 AQ (m1 (cP 1) (m1 (cP 0) (bY 16 2)))) (c_ 16 2)) cJ) cJ) (ct (dG (cB cU (dD K 392 (bZ (m1 (cP 1) (bY 16 1)) (bZ (m1 iC (dX 2)) cm))) (bY 16 2))) cJ)))))
theorem ZZ:DS c Oj (m+2) (dM yw) (vg K):=ag (az (cg H di (ae aq (ae aq (ae ak (ae (bu H (aE H aq) C1.len) (ae aq af)))))) (lw H)) (ag (az (H.zb (cn':=[("checker":Str),("has_pairs":Str),("rows":Str),("wanted":Str)]) (hcode:=rfl) (by kernel_rfl) (by kernel_rfl) (by kernel_rfl) (cq H di (ae DE.fv (ae (nK (cn':=[]) (DI.seq DE.fv) (lw H) aL (ai (lv H)) (by rw[H.dE];kernel_rfl) (by kernel_rfl) (fun Z Z=>rfl)) (ae DE.fv (ae ak (ae DE.fv af))))))) (lw H)) (ag (ay (DT.or (DT.eX (lv H) (lv H)) (DT.or (aG (ai (lv H)) av) DT.nG)) (ag (aw (aH (lv H) (lv H))) ah) ah) (ag (Fh (cn':=[]) (DI.seq (ai (lv H))) (lw H) aL (ai (lv H)) (by rw[H.dE];kernel_rfl) (by kernel_rfl) (fun Z Z=>rfl) (by rw[H.dE];kernel_rfl) (by kernel_rfl) rfl (by kernel_rfl)) (ag (ay (aC (aG (bu H (lv H) C1.len) ak) (aC (aG (ai (ai (lv H))) av) DT.lN)) (ag (az (GY H (ai (ai (lv H))) C1.list) (lw H)) ah) ah) (ag (aw (aH (cg H di (ae (ai (lv H)) (ae (bu H aq C1.len) af))) (lv H))) ah)))))
def yh:=eM MB 130
def NQ:=fP 19 yh
def NR(K:KT):XS:=ct (dG (dD K 1027 (bZ (bY 19 0) (bZ (gw (bZ (ret .none) (bZ (dD K 1041 cm) (bZ (dD K 1048 cm) (bZ (dq (bZ (ret (.str s0)) cm)) (bZ (dq (bZ (ret (.str s3)) (bZ (ret (.str s2)) cm))) (bZ (ret .none) cm))))))) cm)))) cJ
theorem Zu:DS c NQ (m+2) (dM yh) (NR K):=ag (aw (cg H di (ae (lv H) (ae (au (ae aJ (ae (cg H di af) (ae (cg H di af) (ae (aj (ae av af)) (ae (aj (ae av (ae av af))) (ae aJ af))))))) af)))) ah
def xw:=eM MB 131
def MG:=fP 20 xw
def HI(K:KT):XS:=ct (dc (gw (vJ [Cj,Lj,Ll,Lm,Ln,Lo,Lp,Lq,Lr,Ls,Lu,Lv])) (c_ 20 1)) (ct (dc (dq (bZ (dD K 1027 (bZ (bY 20 0) (bZ (cB (eW .Add) (bY 20 1) (gw (vJ [VV,s30,s31,s32,s33,s34,VW]))) cm))) (bZ (dq (bZ (ret (.str jv)) (bZ (dq cm) cm))) cm))) (rr 2 (fL (c_ 20 3) (fL (c_ 20 2) jt)))) (ct (dc (gw (bZ (dq (bZ (ret (.str pO)) (bZ (bY 20 3) (bZ (ret (.int (.ofNat 1))) (bZ (dq (bZ (ret (.str qF)) (bZ (ret (.str s6)) cm))) (bZ (dq cm) cm)))))) (bZ (dq (bZ (ret (.str s9)) (bZ (bY 20 3) (bZ (ret (.int (.ofNat 1))) (bZ (dq (bZ (ret (.str jh)) (bZ (bY 20 3) (bZ (ret (.int (.ofNat 1))) (bZ (ret (.int (.ofNat 2))) cm))))) (bZ (ret (.bool false)) cm)))))) cm))) (c_ 20 4)) (ct (dc (gw (bZ (dq (bZ (ret (.str jh)) (bZ (bY 20 3) (bZ (ret (.int (.ofNat 1))) (bZ (ret (.int (.ofNat 2))) cm))))) (bZ (dq (bZ (ret (.str r8)) (bZ (bY 20 3) (bZ (ret (.int (.ofNat 1))) (bZ (ret (.str Cj)) cm))))) (bZ (dq (bZ (ret (.str s5)) (bZ (bY 20 3) (bZ (ret (.int (.ofNat 1))) (bZ (ret (.str Cj)) (bZ (m1 (cP 0) (bY 20 4)) cm)))))) cm)))) (c_ 20 5)) (ct (dc (dD K 1027 (bZ (bY 20 0) (bZ (cB (eW .Add) (cB (eW .Add) (bY 20 4) (bY 20 5)) (cB (eW .Mult) (gw (bZ (dq (bZ (ret (.str Li)) (bZ (bY 20 3) (bZ (ret (.int (.ofNat 1))) (bZ (bY 20 2) (bZ (dq cm) cm)))))) cm)) (ret (.int (.ofNat 5))))) cm))) (c_ 20 6)) (ct (dG (cB cU (dD K 399 (bZ (bY 20 6) cm)) (vU (cB jz (bY 20 6) (bY 20 4)) (nF (cB cU (m1 (cP 0) (bY 20 6)) (ret (.str Li))) (cB jz (bY 20 2) (bY 20 1)))))) cJ)))))
theorem Yg:DS c MG (m+2) (dM xw) (HI K):=ag (az (au bV.strs) (lw H)) (ag (D1.ud (names:=[("word":Str),("none":Str)]) (aj (ae (cg H di (ae (lv H) (ae (ao (lv H) (au bV.strs)) af))) (ae (aj (ae av (ae (aj af) af))) af))) (by kernel_rfl) (nh H (nh H eZ.ui)) rfl) (ag (az (au (ae (aj (ae av (ae (lv H) (ae ak (ae (aj (ae av (ae av af))) (ae (aj af) af)))))) (ae (aj (ae av (ae (lv H) (ae ak (ae (aj (ae av (ae (lv H) (ae ak (ae ak af))))) (ae ar af)))))) af))) (lw H)) (ag (az (au (ae (aj (ae av (ae (lv H) (ae ak (ae ak af))))) (ae (aj (ae av (ae (lv H) (ae ak (ae av af))))) (ae (aj (ae av (ae (lv H) (ae ak (ae av (ae (ai (lv H)) af)))))) af)))) (lw H)) (ag (az (cg H di (ae (lv H) (ae (ao (ao (lv H) (lv H)) (ao (au (ae (aj (ae av (ae (lv H) (ae ak (ae (lv H) (ae (aj af) af)))))) af)) ak)) af))) (lw H)) (ag (aw (aH (cg H di (ae (lv H) af)) (aR (DE.jz (lv H) (lv H)) (DE.mw (aS (aH (ai (lv H)) av) (DE.mw (DE.jz (lv H) (lv H)))))))) ah)))))
def hZ:=eM MB 132
def ix:FC:=⟨21,j2 hZ,[("reel":Str),("T":Str),("checker":Str),("has_pairs":Str),("is_pair":Str),("many":Str),("pair":Str),("row":Str),("wanted":Str)],some 1116⟩
def i4(l:List Stmt)(i:Nat):Stmt:=(eM l i).getD default
def QX(K:KT):XS:=dc (dq (bZ (dD K 1069 cm) (bZ (dD K 1013 (bZ (bY 21 0) cm)) cm))) (lj 2 (fL (lA 2) (fL (lA 0) jt)))
theorem aix:D1 c ix (m+2) (i4 (dM hZ) 0) (QX K):=aQ (aj (ae (cg H di af) (ae (cg H di (ae (lv H) af)) af))) (aP (aM aO (aM aO aN)) rfl (fun Z=>⟨rfl,rfl⟩))
def QY(K:KT):XS:=dR (vQ (cZ (dD K 1098 (bZ (dX 2) (bZ (gw (bZ (dD K 1076 (bZ (ret (.int (.ofNat 4))) (bZ (ret (.int (.ofNat 20))) cm))) cm)) (bZ (gw (bZ (dD K 1041 cm) (bZ (dD K 1048 cm) cm))) (bZ (ret (.bool true)) cm))))))) (ct (dG (ret (.bool false))) cJ) cJ
theorem aiy:D1 c ix (m+2) (i4 (dM hZ) 1) (QY K):=ay (aF (aD (cg H di (ae aq (ae (au (ae (cg H di (ae ak (ae ak af))) af)) (ae (au (ae (cg H di af) (ae (cg H di af) af))) (ae ar af))))))) (ag (aw ar) ah) ah
def QZ(K:KT):XS:=dc (dq (bZ (dD K 1076 (bZ (dD K 1020 (bZ (dX 0) (bZ (ret (.int (.ofNat 7))) cm))) (bZ (ret (.int (.ofNat 30))) cm))) (bZ (dD K 1105 (bZ (dX 0) cm)) cm))) (lj 2 (fL (lA 7) (fL (lA 1) jt)))
theorem aiz:D1 c ix (m+2) (i4 (dM hZ) 2) (QZ K):=aQ (aj (ae (cg H di (ae (cg H di (ae aq (ae ak af))) (ae ak af))) (ae (cg H di (ae aq af)) af))) (aP (aM aO (aM aO aN)) rfl (fun Z=>⟨rfl,rfl⟩))
def Q0(K:KT):XS:=dR (cZ (cB eX (vv 1 1116 1001 18 qr [1,2,7] (dD K 369 (bZ (dX 1) (bZ (m1 (cP 0) (dX 2)) (bZ (dX 0) cm))))) (dD K 1083 (bZ (m1 (cP 1) (dX 7)) (bZ (dX 1) (bZ (ret (.int (.ofNat 30))) cm)))))) (ct (dG (ret (.bool false))) cJ) cJ
theorem aiA:D1 c ix (m+2) (i4 (dM hZ) 3) (Q0 K):=ay (DT.eX (H.zb (cn':=[("T":Str),("checker":Str),("row":Str)]) (hcode:=rfl) (by kernel_rfl) (by kernel_rfl) (by kernel_rfl) (cq H di (ae DE.fv (ae (ai DE.fv) (ae DE.fv af))))) (cg H di (ae (ai aq) (ae aq (ae ak af))))) (ag (aw ar) ah) ah
def rg(K:KT):XS:=dc (jo 22 1 [0] (mZ uk (bZ (cB (eW .Add) (ret (.int (.ofNat 1))) (dD K 1020 (bZ (dX 0) (bZ (ret (.int (.ofNat 3))) cm)))) cm)) (c_ 22 0) (fun Z σ=>ok true σ) (dD K 1105 (bZ (dX 0) cm))) (lA 8)
theorem J4:D1 c ix (m+2) (i4 (dM hZ) 4) (rg K):=D1.aeV (nK (cn':=[("reel":Str)]) (sb H (ae (ao ak (cg H di (ae aq (ae ak af)))) af) IN.wQ) (lw H) aL (cg H di (ae aq af)) (by rw[H.dE];kernel_rfl) (by kernel_rfl) (fun Z Z=>rfl)) aO (by kernel_rfl)
def rh(K:KT):XS:=dc (dR (cZ (cB cU (dD K 1020 (bZ (dX 0) (bZ (ret (.int (.ofNat 2))) cm))) (ret (.int (.ofNat 0))))) (ret (.int (.ofNat 1))) (m1 iC (dX 8))) (lA 5)
theorem J5:D1 c ix (m+2) (i4 (dM hZ) 5) (rh K):=az (aU (aG (cg H di (ae aq (ae ak af))) ak) ak (bu H aq C1.len)) aO
def pa(K:KT):XS:=dc (dq (bZ (jo 23 1 [0] (mZ uk (bZ (dX 5) cm)) (c_ 23 0) (fun Z σ=>ok true σ) (dD K 1076 (bZ (dD K 1020 (bZ (dX 0) (bZ (ret (.int (.ofNat 7))) cm))) (bZ (cB (eW .Add) (ret (.int (.ofNat 20))) (bY 23 0)) cm)))) (bZ (cB (n9 .Gt) (dD K 1020 (bZ (dX 0) (bZ (ret (.int (.ofNat 3))) cm))) (ret (.int (.ofNat 0)))) cm))) (lj 2 (fL (c_ 21 1) (fL (lA 3) jt)))
theorem aiB:D1 c ix (m+2) (i4 (dM hZ) 6) (pa K):=aQ (aj (ae (nK (cn':=[("reel":Str)]) (sb H (ae aq af) IN.wQ) (lw H) aL (cg H di (ae (cg H di (ae aq (ae ak af))) (ae (ao ak (lv H)) af))) (by rw[H.dE];kernel_rfl) (by kernel_rfl) (fun Z Z=>rfl)) (ae (DE.cmp (cg H di (ae aq (ae ak af))) ak) af))) (aP (aM (lw H) (aM aO aN)) rfl (fun Z=>⟨rfl,rfl⟩))
def Iw(K:KT):XS:=dR (vQ (cZ (dD K 1098 (bZ (dX 2) (bZ (bY 21 1) (bZ (dX 8) (bZ (dX 3) cm))))))) (ct (dG (ret (.bool false))) cJ) cJ
theorem aiC:D1 c ix (m+2) (i4 (dM hZ) 7) (Iw K):=ay (aF (aD (cg H di (ae aq (ae (lv H) (ae aq (ae aq af))))))) (ag (aw ar) ah) ah
def Iy(K:KT):XS:=dc (dq (bZ (dD K 1076 (bZ (cB (eW .Add) (ret (.int (.ofNat 4))) (dD K 1020 (bZ (dX 0) (bZ (ret (.int (.ofNat 3))) cm)))) (bZ (ret (.int (.ofNat 40))) cm))) (bZ (cB (eW .Add) (ret (.int (.ofNat 2))) (dD K 1020 (bZ (dX 0) (bZ (ret (.int (.ofNat 2))) cm)))) cm))) (lj 2 (fL (lA 7) (fL (lA 5) jt)))
theorem TA:D1 c ix (m+2) (i4 (dM hZ) 8) (Iy K):=aQ (aj (ae (cg H di (ae (ao ak (cg H di (ae aq (ae ak af)))) (ae ak af))) (ae (ao ak (cg H di (ae aq (ae ak af)))) af))) (aP (aM aO (aM aO aN)) rfl (fun Z=>⟨rfl,rfl⟩))
def Iz(K:KT):XS:=dc (dR (gP (cZ (m1 k_ (m1 (cP 2) (dX 7)))) (gP (cZ (dX 3)) (gP (cZ (cB cU (dX 5) (ret (.int (.ofNat 2))))) (fun Z σ=>ok true σ)))) (m1 (cP 2) (dX 7)) (m1 (cP 1) (dX 7))) (c_ 21 2)
theorem TC:D1 c ix (m+2) (i4 (dM hZ) 9) (Iz K):=az (aU (aC (DT.k_ (ai aq)) (aC (aD aq) (aC (aG aq ak) DT.lN))) (ai aq) (ai aq)) (lw H)
def Ia(K:KT):XS:=dc (dR (gP (cZ (cB cU (m1 (cP 0) (m1 (cP 1) (bY 21 2))) (ret (.str jv)))) (gP (cZ (cB cU (m1 iC (m1 (cP 1) (m1 (cP 1) (bY 21 2)))) (dX 5))) (fun Z σ=>ok true σ))) (dq (bZ (bY 21 2) (bZ (cB cU (bY 21 2) (m1 (cP 2) (dX 7))) cm))) (dq (bZ (ret (.str iB)) (bZ (ret (.int (.ofNat 41))) cm)))) (c_ 21 3)
theorem Sq:D1 c ix (m+2) (i4 (dM hZ) 10) (Ia K):=az (aU (aC (aG (ai (ai (lv H))) av) (aC (aG (bu H (ai (ai (lv H))) C1.len) aq) DT.lN)) (aj (ae (lv H) (ae (aH (lv H) (ai aq)) af))) (aj (ae av (ae ak af)))) (lw H)
def Ib(K:KT):XS:=dR (cZ (cB eX (vv 1 1116 1011 18 qr [2,3,5,7] (dD K 376 (bZ (dX 0) (bZ (m1 (cP 0) (dX 3)) (bZ (dX 2) (bZ (ret (.int (.ofNat 41))) (bZ (dX 1) cm))))))) (bY 21 3))) (ct (dG (ret (.bool false))) cJ) cJ
theorem Sr:D1 c ix (m+2) (i4 (dM hZ) 11) (Ib K):=ay (DT.eX (H.zb (cn':=[("checker":Str),("has_pairs":Str),("many":Str),("row":Str)]) (hcode:=rfl) (by kernel_rfl) (by kernel_rfl) (by kernel_rfl) (cq H di (ae DE.fv (ae (ai DE.fv) (ae DE.fv (ae ak (ae DE.fv af))))))) (lv H)) (ag (aw ar) ah) ah
def Qe(K:KT):XS:=dc (dq (bZ (m1 (cP 2) (dD K 1076 (bZ (ret (.int (.ofNat 6))) (bZ (ret (.int (.ofNat 50))) cm)))) (bZ (gw (bZ (dD K 1105 (bZ (dX 0) cm)) (bZ (dD K 1105 (bZ (dX 0) cm)) cm))) (bZ (cB cU (dD K 1020 (bZ (dX 0) (bZ (ret (.int (.ofNat 2))) cm))) (ret (.int (.ofNat 0)))) cm)))) (lj 3 (fL (lA 6) (fL (lA 8) (fL (lA 4) jt))))
theorem afm:D1 c ix (m+2) (i4 (dM hZ) 12) (Qe K):=aQ (aj (ae (ai (cg H di (ae ak (ae ak af)))) (ae (au (ae (cg H di (ae aq af)) (ae (cg H di (ae aq af)) af))) (ae (aH (cg H di (ae aq (ae ak af))) ak) af)))) (aP (aM aO (aM aO (aM aO aN))) rfl (fun Z=>⟨rfl,rfl⟩))
def Qf(K:KT):XS:=dc (dD K 1088 (bZ (dX 6) (bZ (dX 8) (bZ (ret (.int (.ofNat 51))) (bZ (m1 iC (m1 (gO 935 tv) (dX 2))) (bZ (dX 4) cm)))))) (c_ 21 3)
theorem afn:D1 c ix (m+2) (i4 (dM hZ) 13) (Qf K):=az (cg H di (ae aq (ae aq (ae ak (ae (bu H (aE H aq) C1.len) (ae aq af)))))) (lw H)
def Qg(K:KT):XS:=dc (vv 1 1116 1015 22 qr [2,4,6,8] (dD K 381 (bZ (dX 0) (bZ (dX 2) (bZ (dX 3) (bZ (ret (.int (.ofNat 51))) (bZ (dX 1) cm))))))) (c_ 21 4)
theorem afo:D1 c ix (m+2) (i4 (dM hZ) 14) (Qg K):=az (H.zb (cn':=[("checker":Str),("is_pair":Str),("pair":Str),("wanted":Str)]) (hcode:=rfl) (by kernel_rfl) (by kernel_rfl) (by kernel_rfl) (cq H di (ae DE.fv (ae DE.fv (ae DE.fv (ae ak (ae DE.fv af))))))) (lw H)
def Qh(K:KT):XS:=dG (nF (cB cU (bY 21 4) (bY 21 3)) (dD K 1112 (bZ (dX 0) cm)))
theorem afp:D1 c ix (m+2) (i4 (dM hZ) 15) (Qh K):=aw (aS (aH (lv H) (lv H)) (DE.mw (cg H di (ae aq af))))
omit H di in
theorem abR:dM hZ=[i4 (dM hZ) 0,i4 (dM hZ) 1,i4 (dM hZ) 2,i4 (dM hZ) 3,i4 (dM hZ) 4,i4 (dM hZ) 5,i4 (dM hZ) 6,i4 (dM hZ) 7,i4 (dM hZ) 8,i4 (dM hZ) 9,i4 (dM hZ) 10,i4 (dM hZ) 11,i4 (dM hZ) 12,i4 (dM hZ) 13,i4 (dM hZ) 14,i4 (dM hZ) 15]:=by kernel_rfl
def yi:=eM (dM (eM MB 114)) 0
def NS:=fP 24 yi
def NT(K:KT):XS:=ct (dc (bY 24 1) (f7 1002 GJ (bY 24 0))) (ct (dc (dD K 970 cm) (f7 1002 s3 (bY 24 0))) (ct (dc (ret (.fB [])) (f7 1002 GI (bY 24 0))) (ct (dc (ret (.fB [])) (f7 1002 GH (bY 24 0))) (ct (dc (ret (.fB [])) (f7 1002 GF (bY 24 0))) (ct (dc (ret (.fB [])) (f7 1002 GD (bY 24 0))) (ct (dc (ret (.fB [])) (f7 1002 GC (bY 24 0))) (ct (dc (ret (.fB [])) (f7 1002 GB (bY 24 0))) (ct (dc (gw cm) (f7 1002 GA (bY 24 0))) (ct (dc (gw cm) (f7 1002 Gz (bY 24 0))) (ct (dc (ret .none) (f7 1002 Ck (bY 24 0))) (ct (dc (ret .none) (f7 1002 Gy (bY 24 0))) (ct (dc (ret (.fB [])) (f7 1002 uH (bY 24 0))) (ct (dc (ret (.fB [])) (f7 1002 Gx (bY 24 0))) (ct (dc (ret (.fB [])) (f7 1002 Gw (bY 24 0))) (ct (dc (ret (.fB [])) (f7 1002 Gv (bY 24 0))) (ct (dc (gw cm) (f7 1002 Gu (bY 24 0))) (ct (dc (gw cm) (f7 1002 Gs (bY 24 0))) (ct (dc (gw cm) (f7 1002 Gr (bY 24 0))) (ct (dc (ret (.bool true)) (f7 1002 Gq (bY 24 0))) cJ)))))))))))))))))))
theorem Zv:DS c NS (m+2) (dM yi) (NT K):=ag (aA (lv H) (sE H (lv H))) (ag (aA (cg H di af) (sE H (lv H))) (ag (aA (aK H.Fa) (sE H (lv H))) (ag (aA (aK H.Fa) (sE H (lv H))) (ag (aA (aK H.Fa) (sE H (lv H))) (ag (aA (aK H.Fa) (sE H (lv H))) (ag (aA (aK H.Fa) (sE H (lv H))) (ag (aA (aK H.Fa) (sE H (lv H))) (ag (aA (au af) (sE H (lv H))) (ag (aA (au af) (sE H (lv H))) (ag (aA aJ (sE H (lv H))) (ag (aA aJ (sE H (lv H))) (ag (aA (aK H.Fa) (sE H (lv H))) (ag (aA (aK H.Fa) (sE H (lv H))) (ag (aA (aK H.Fa) (sE H (lv H))) (ag (aA (aK H.Fa) (sE H (lv H))) (ag (aA (au af) (sE H (lv H))) (ag (aA (au af) (sE H (lv H))) (ag (aA (au af) (sE H (lv H))) (ag (aA ar (sE H (lv H))) ah)))))))))))))))))))
def xF:=eM (dM (eM MB 112)) 0
def MU:=fP 25 xF
def MW(K:KT):XS:=ct (dc (bY 25 1) (f7 959 uI (bY 25 0))) (ct (dc (bY 25 2) (f7 959 pQ (bY 25 0))) (ct (dc (bY 25 3) (f7 959 r9 (bY 25 0))) (ct (dc (bY 25 4) (f7 959 tw (bY 25 0))) cJ)))
theorem Yt:DS c MU (m+2) (dM xF) (MW K):=ag (aA (lv H) (sE H (lv H))) (ag (aA (lv H) (sE H (lv H))) (ag (aA (lv H) (sE H (lv H))) (ag (aA (lv H) (sE H (lv H))) ah)))
end
def yj:=eM MB 113
def NU:=fP 26 yj
def NV(K:KT):XS:=ct (dc (dq (bZ (ret (.str ot)) (bZ (dq cm) (bZ (dq (bZ (dq (bZ (ret (.str ng)) cm)) cm)) (bZ (ret (.bool false)) cm))))) (c_ 26 0)) (ct (dc (dq (bZ (ret (.str ot)) (bZ (dq (bZ (dq (bZ (ret (.str s7)) (bZ (ret (.str s7)) cm))) cm)) (bZ (dq cm) (bZ (ret (.bool false)) cm))))) (c_ 26 1)) (ct (dc (dq (bZ (ret (.str wV)) (bZ (dq (bZ (dq (bZ (ret (.str Wg)) (bZ (dq (bZ (ret (.str s7)) (bZ (ret (.str s7)) cm))) (bZ (ret (.bool false)) cm)))) cm)) cm))) (c_ 26 2)) (ct (dc (dq (bZ (ret (.str wV)) (bZ (dq (bZ (dq (bZ (ret (.str Wf)) (bZ (dq (bZ (ret (.str s7)) (bZ (ret (.str s7)) cm))) (bZ (ret (.bool false)) cm)))) cm)) cm))) (c_ 26 3)) (ct (dc (ue [GQ] (bZ (dq (bZ (ret (.bool false)) (bZ (bY 26 0) (bZ (ret (.str We)) cm)))) cm)) (c_ 26 4)) (ct (dc (ue [V_,Wc] (bZ (dq (bZ (ret (.bool true)) (bZ (ret yV) (bZ (ret (.str V9)) cm)))) (bZ (dq (bZ (ret (.bool true)) (bZ (ret yV) (bZ (ret (.str V8)) cm)))) cm))) (c_ 26 5)) (ct (dc (ue [V5,V6,V7] (bZ (dq (bZ (ret (.bool true)) (bZ (bY 26 1) (bZ (ret (.str V4)) cm)))) (bZ (dq (bZ (ret (.bool true)) (bZ (ret yV) (bZ (ret (.str V3)) cm)))) (bZ (dq (bZ (ret (.bool true)) (bZ (ret yV) (bZ (ret (.str VZ)) cm)))) cm)))) (c_ 26 6)) (ct (dG (ue [GR,GP,GO,GN] (bZ (dD K 959 (bZ (ret (.str GR)) (bZ (ret (.str VY)) (bZ (dq (bZ (ret (.str s8)) (bZ (dq (bZ (dq (bZ (ret (.str GQ)) (bZ (bY 26 0) cm))) cm)) cm))) (bZ (ret (.fB [])) cm))))) (bZ (dD K 959 (bZ (ret (.str GP)) (bZ (ret (.str VX)) (bZ (dq (bZ (ret (.str ng)) cm)) (bZ (bY 26 4) cm))))) (bZ (dD K 959 (bZ (ret (.str GO)) (bZ (ret (.str GK)) (bZ (bY 26 2) (bZ (bY 26 5) cm))))) (bZ (dD K 959 (bZ (ret (.str GN)) (bZ (ret (.str GK)) (bZ (bY 26 3) (bZ (bY 26 6) cm))))) cm)))))) cJ)))))))
section
variable{c:Cx}(H:Ctx c){K:KT}{m:Nat}(di:j1 c m K)
include H di
theorem Zw:DS c NU (m+2) (dM yj) (NV K):=ag (az (aj (ae av (ae (aj af) (ae (aj (ae (aj (ae av af)) af)) (ae ar af))))) (lw H)) (ag (az (aj (ae av (ae (aj (ae (aj (ae av (ae av af))) af)) (ae (aj af) (ae ar af))))) (lw H)) (ag (az (aj (ae av (ae (aj (ae (aj (ae av (ae (aj (ae av (ae av af))) (ae ar af)))) af)) af))) (lw H)) (ag (az (aj (ae av (ae (aj (ae (aj (ae av (ae (aj (ae av (ae av af))) (ae ar af)))) af)) af))) (lw H)) (ag (az (DE.Bj H.Fa (DP.gr (by kernel_rfl) (aj (ae ar (ae (lv H) (ae av af)))) DP.nil) rfl rfl rfl rfl (by kernel_rfl)) (lw H)) (ag (az (DE.Bj H.Fa (DP.gr (by kernel_rfl) (aj (ae ar (ae (gv H) (ae av af)))) (DP.gr (by kernel_rfl) (aj (ae ar (ae (gv H) (ae av af)))) DP.nil)) rfl rfl rfl rfl (by kernel_rfl)) (lw H)) (ag (az (DE.Bj H.Fa (DP.gr (by kernel_rfl) (aj (ae ar (ae (lv H) (ae av af)))) (DP.gr (by kernel_rfl) (aj (ae ar (ae (gv H) (ae av af)))) (DP.gr (by kernel_rfl) (aj (ae ar (ae (gv H) (ae av af)))) DP.nil))) rfl rfl rfl rfl (by kernel_rfl)) (lw H)) (ag (aw (DE.Bj H.Fa (DP.gr (by kernel_rfl) (cg H di (ae av (ae av (ae (aj (ae av (ae (aj (ae (aj (ae av (ae (lv H) af))) af)) af))) (ae (aK H.Fa) af))))) (DP.gr (by kernel_rfl) (cg H di (ae av (ae av (ae (aj (ae av af)) (ae (lv H) af))))) (DP.gr (by kernel_rfl) (cg H di (ae av (ae av (ae (lv H) (ae (lv H) af))))) (DP.gr (by kernel_rfl) (cg H di (ae av (ae av (ae (lv H) (ae (lv H) af))))) DP.nil)))) rfl rfl rfl rfl (by kernel_rfl))) ah)))))))
def yk:=eM (dM (eM MB 106)) 0
def NW:=fP 27 yk
def NX(K:KT):XS:=ct (dc (bY 27 1) (f7 817 uJ (bY 27 0))) (ct (dc (bY 27 2) (f7 817 GU (bY 27 0))) (ct (dc (ret (.fB [])) (f7 817 GS (bY 27 0))) cJ))
theorem Zx:DS c NW (m+2) (dM yk) (NX K):=ag (aA (lv H) (sE H (lv H))) (ag (aA (lv H) (sE H (lv H))) (ag (aA (aK H.Fa) (sE H (lv H))) ah))
def xN:=eM (dM (eM MB 109)) 0
def M_:=fP 28 xN
def Na(K:KT):XS:=ct (dc (bY 28 1) (f7 935 l_ (bY 28 0))) (ct (dc (bY 28 2) (f7 935 pQ (bY 28 0))) (ct (dc (bY 28 3) (f7 935 FP (bY 28 0))) (ct (dc (bY 28 4) (f7 935 FO (bY 28 0))) (ct (dc (bY 28 5) (f7 935 BA (bY 28 0))) (ct (dc (bY 28 6) (f7 935 FN (bY 28 0))) (ct (dc (bY 28 7) (f7 935 uJ (bY 28 0))) (ct (dc (Bo cm) (f7 935 tv (bY 28 0))) (ct (dc (dq cm) (f7 935 FL (bY 28 0))) (ct (dc (dq cm) (f7 935 FK (bY 28 0))) (ct (dc (dq cm) (f7 935 FJ (bY 28 0))) (ct (dc (ret (.bool false)) (f7 935 FI (bY 28 0))) (ct (dc (gw cm) (f7 935 FH (bY 28 0))) (ct (dc (ret (.fB [])) (f7 935 GX (bY 28 0))) (ct (dc (gw cm) (f7 935 GW (bY 28 0))) (ct (dc (gw cm) (f7 935 GV (bY 28 0))) (ct (dc (dR (cZ (m1 jc (bY 28 7))) (ret (.fB [])) qv) (f7 935 uH (bY 28 0))) cJ))))))))))))))))
theorem YJ:DS c M_ (m+2) (dM xN) (Na K):=ag (aA (lv H) (sE H (lv H))) (ag (aA (lv H) (sE H (lv H))) (ag (aA (lv H) (sE H (lv H))) (ag (aA (lv H) (sE H (lv H))) (ag (aA (lv H) (sE H (lv H))) (ag (aA (lv H) (sE H (lv H))) (ag (aA (lv H) (sE H (lv H))) (ag (aA (DE.new af) (sE H (lv H))) (ag (aA (aj af) (sE H (lv H))) (ag (aA (aj af) (sE H (lv H))) (ag (aA (aj af) (sE H (lv H))) (ag (aA ar (sE H (lv H))) (ag (aA (au af) (sE H (lv H))) (ag (aA (aK H.Fa) (sE H (lv H))) (ag (aA (au af) (sE H (lv H))) (ag (aA (au af) (sE H (lv H))) (ag (aA (aU (DT.jc (lv H)) (aK H.Fa) DE.bad) (sE H (lv H))) ah))))))))))))))))
def xO:=eM (dM (eM MB 109)) 1
def Nb:=fP 29 xO
def Nc(K:KT):XS:=ct (dG (RA K RK (cB iM (m1 (gO 935 BA) (bY 29 0)) (m1 (cP 0) (bY 29 1))) (bZ (bY 29 0) (bZ (bY 29 1) (bZ (bY 29 2) cm))))) cJ
theorem YK:DS c Nb (m+2) (dM xO) (Nc K):=by
 have hK:j1 c (m+2) K:=di.mono 2
 exact ag (aw (DE.aeU H.T hK (DE.jy (aE H (lv H)) (ai (lv H))) (ae (lv H) (ae (lv H) (ae (lv H) af))) (fun Z h=>h) rfl rfl)) ah
def xG:=eM (dM (eM MB 109)) 2
def MX:=fP 30 xG
def MY(K:KT):XS:=ct (dG (ky K 935 860 agZ (bY 30 0) (bZ (ky K 935 845 JI (bY 30 0) (bZ (bY 30 1) (bZ (bY 30 2) cm))) (bZ (m1 (cP 1) (bY 30 1)) cm)))) cJ
theorem Yu:DS c MX (m+2) (dM xG) (MY K):=ag (aw (mE H di (lv H) (ae (mE H di (lv H) (ae (lv H) (ae (lv H) af))) (ae (ai (lv H)) af)))) ah
def xr:=eM (dM (eM MB 109)) 3
def My:=fP 31 xr
def Mz(K:KT):XS:=ct (dR (cZ (cB cU (m1 (cP 0) (m1 (cP 1) (bY 31 1))) (ret (.str jv)))) (ct (qm (ret (.str ag1)) (bY 31 2)) cJ) cJ) (ct (dR (cZ (cB cU (m1 (cP 1) (bY 31 1)) (ret zc))) (ct (qm (ret (.str ag0)) (bY 31 2)) cJ) cJ) (ct (dG (ky K 935 874 FQ (bY 31 0) (bZ (bY 31 1) (bZ (dD K 298 (bZ (m1 (cP 1) (bY 31 1)) cm)) (bZ (bY 31 2) cm))))) cJ))
theorem X5:DS c My (m+2) (dM xr) (Mz K):=ag (ay (aG (ai (ai (lv H))) av) (ag (H.raise (by kernel_rfl) (by kernel_rfl) av (lv H) rfl rfl) ah) ah) (ag (ay (aG (ai (lv H)) (gv H)) (ag (H.raise (by kernel_rfl) (by kernel_rfl) av (lv H) rfl rfl) ah) ah) (ag (aw (mE H di (lv H) (ae (lv H) (ae (cg H di (ae (ai (lv H)) af)) (ae (lv H) af))))) ah))
def xC:=eM (dM (eM MB 109)) 5
def MN:=fP 32 xC
def MP(K:KT):XS:=ct (dc (m1 (cP 1) (bY 32 1)) (c_ 32 4)) (ct (dR (cZ (cB cU (bY 32 4) (bY 32 2))) (ct (dG (bY 32 1)) cJ) cJ) (ct (dR (gP (cZ (cB cU (bY 32 4) (ret zc))) (gP (cZ (dD K 319 (bZ (m1 (gO 935 l_) (bY 32 0)) (bZ (bY 32 2) cm)))) (fun Z σ=>ok true σ))) (ct (dG (dq (bZ (ret (.str mK)) (bZ (bY 32 2) (bZ (m1 (cP 2) (bY 32 1)) cm))))) cJ) cJ) (ct (dR (gP (cZ (dD K 291 (bZ (bY 32 4) cm))) (gP (cZ (ky K 935 881 ag3 (bY 32 0) (bZ (bY 32 1) (bZ (bY 32 2) cm)))) (fun Z σ=>ok true σ))) (ct (dR (vQ (cZ (dD K 305 (bZ (m1 (gO 935 l_) (bY 32 0)) (bZ (bY 32 2) cm))))) (ct (dG (cB (eW .Add) (cB (eW .Add) (cB A3 (bY 32 1) (ret (.int (.ofNat 1)))) (dq (bZ (bY 32 2) cm))) (cB A5 (bY 32 1) (ret (.int (.ofNat 2)))))) cJ) cJ) (ct (dG (dq (bZ (ret (.str wU)) (bZ (bY 32 2) (bZ (m1 (cP 2) (bY 32 1)) (bZ (cB (eW .Add) (cB (eW .Add) (cB A3 (bY 32 1) (ret (.int (.ofNat 1)))) (dq (bZ (dD K 298 (bZ (bY 32 4) cm)) cm))) (cB A5 (bY 32 1) (ret (.int (.ofNat 2))))) cm)))))) cJ)) cJ) (ct (dR (gP (vQ (cZ (dD K 291 (bZ (bY 32 4) cm)))) (gP (cZ (cB eX (bY 32 4) (ret zc))) (gP (cZ (dD K 523 (bZ (m1 (gO 935 l_) (bY 32 0)) (bZ (bY 32 4) (bZ (bY 32 2) cm))))) (fun Z σ=>ok true σ)))) (ct (dc (nF (dD K 305 (bZ (m1 (gO 935 l_) (bY 32 0)) (bZ (bY 32 2) cm))) (E3 (dD K 305 (bZ (m1 (gO 935 l_) (bY 32 0)) (bZ (bY 32 4) cm))))) (c_ 32 5)) (ct (dG (dq (bZ (dR (cZ (bY 32 5)) (ret (.str wU)) (ret (.str Lh))) (bZ (bY 32 2) (bZ (m1 (cP 2) (bY 32 1)) (bZ (bY 32 1) cm)))))) cJ)) cJ) (ct (qm (cB (eW .Add) (cB (eW .Add) (dD K 270 (bZ (bY 32 4) cm)) (ret (.str ag2))) (dD K 270 (bZ (bY 32 2) cm))) (bY 32 3)) cJ)))))
theorem Yn:DS c MN (m+2) (dM xC) (MP K):=ag (az (ai (lv H)) (lw H)) (ag (ay (aG (lv H) (lv H)) (ag (aw (lv H)) ah) ah) (ag (ay (aC (aG (lv H) (gv H)) (aC (aD (cg H di (ae (aE H (lv H)) (ae (lv H) af)))) DT.lN)) (ag (aw (aj (ae av (ae (lv H) (ae (ai (lv H)) af))))) ah) ah) (ag (ay (aC (aD (cg H di (ae (lv H) af))) (aC (aD (mE H di (lv H) (ae (lv H) (ae (lv H) af)))) DT.lN)) (ag (ay (aF (aD (cg H di (ae (aE H (lv H)) (ae (lv H) af))))) (ag (aw (ao (ao (DE.pv (lv H) ak) (aj (ae (lv H) af))) (DE.from (lv H) ak))) ah) ah) (ag (aw (aj (ae av (ae (lv H) (ae (ai (lv H)) (ae (ao (ao (DE.pv (lv H) ak) (aj (ae (cg H di (ae (lv H) af)) af))) (DE.from (lv H) ak)) af)))))) ah)) ah) (ag (ay (aC (aF (aD (cg H di (ae (lv H) af)))) (aC (DT.eX (lv H) (gv H)) (aC (aD (cg H di (ae (aE H (lv H)) (ae (lv H) (ae (lv H) af))))) DT.lN))) (ag (az (aS (cg H di (ae (aE H (lv H)) (ae (lv H) af))) (DE.mw (DE.not (cg H di (ae (aE H (lv H)) (ae (lv H) af)))))) (lw H)) (ag (aw (aj (ae (aU (aD (lv H)) av av) (ae (lv H) (ae (ai (lv H)) (ae (lv H) af)))))) ah)) ah) (ag (H.raise (by kernel_rfl) (by kernel_rfl) (ao (ao (cg H di (ae (lv H) af)) av) (cg H di (ae (lv H) af))) (lv H) rfl rfl) ah)))))
def xu:=eM (dM (eM MB 109)) 6
def MA:=fP 33 xu
def MC(K:KT):XS:=ct (dR (cZ (cB cU (m1 (cP 0) (bY 33 1)) (ret (.str r8)))) (ct (dG (dD K 530 (bZ (m1 (gO 935 l_) (bY 33 0)) (bZ (m1 (cP 3) (bY 33 1)) (bZ (m1 (cP 1) (bY 33 1)) (bZ (bY 33 2) cm)))))) cJ) cJ) (ct (dG (nF (cB cU (m1 (cP 1) (bY 33 1)) (ret HJ)) (dD K 523 (bZ (m1 (gO 935 l_) (bY 33 0)) (bZ (m1 (cP 1) (bY 33 1)) (bZ (bY 33 2) cm)))))) cJ)
theorem X6:DS c MA (m+2) (dM xu) (MC K):=ag (ay (aG (ai (lv H)) av) (ag (aw (cg H di (ae (aE H (lv H)) (ae (ai (lv H)) (ae (ai (lv H)) (ae (lv H) af)))))) ah) ah) (ag (aw (aS (aH (ai (lv H)) (gv H)) (DE.mw (cg H di (ae (aE H (lv H)) (ae (ai (lv H)) (ae (lv H) af))))))) ah)
def xD:=eM (dM (eM MB 109)) 9
def MQ:=fP 34 xD
def MR(K:KT):XS:=ct (sY (t_ (m1 (gO 935 tv) (bY 34 0)) (dq (bZ (bY 34 2) (bZ (bY 34 1) cm))))) (ct (dG (cB (eW .Sub) (m1 iC (m1 (gO 935 tv) (bY 34 0))) (ret (.int (.ofNat 1))))) cJ)
theorem Yo:DS c MQ (m+2) (dM xD) (MR K):=ag (D1.exp (aI (aE H (lv H)) (aj (ae (lv H) (ae (lv H) af))))) (ag (aw (ao (bu H (aE H (lv H)) C1.len) ak)) ah)
def yx:=eM MB 56
def Ol:=fP 35 yx
def Om(K:KT):XS:=ct (dR (cZ (m1 jc (bY 35 2))) (ct (dG (ky K 935 853 JJ (bY 35 0) (bZ (bY 35 1) cm))) cJ) cJ) (ct (dG (ky K 935 874 FQ (bY 35 0) (bZ (ky K 935 845 JI (bY 35 0) (bZ (bY 35 1) (bZ (bY 35 2) cm))) (bZ (bY 35 2) (bZ (m1 (cP 1) (bY 35 1)) cm))))) cJ)
theorem Z0:DS c Ol (m+2) (dM yx) (Om K):=ag (ay (DT.jc (lv H)) (ag (aw (mE H di (lv H) (ae (lv H) af))) ah) ah) (ag (aw (mE H di (lv H) (ae (mE H di (lv H) (ae (lv H) (ae (lv H) af))) (ae (lv H) (ae (ai (lv H)) af))))) ah)
def xZ:=eM MB 57
def Nx:=fP 36 xZ
def Ny(K:KT):XS:=ct (dc (dR (gP (cZ (cB cU (bY 36 2) (ret (.int (.ofNat 2))))) (gP (cZ (bY 36 4)) (fun Z σ=>ok true σ))) (dD K 354 (bZ (bY 36 0) (bZ (bY 36 1) cm))) (ret .none)) (c_ 36 5)) (ct (dc (dR (cZ (m1 jc (bY 36 5))) (ky K 935 845 JI (bY 36 0) (bZ (bY 36 1) cm)) (bY 36 5)) (c_ 36 6)) (ct (dR (ia (cZ (cB eX (m1 (cP 0) (m1 (cP 1) (bY 36 6))) (ret (.str jv)))) (ia (cZ (cB eX (m1 iC (m1 (cP 1) (m1 (cP 1) (bY 36 6)))) (bY 36 2))) (fun Z σ=>ok false σ))) (ct (qm (ret (.str ag4)) (bY 36 3)) cJ) cJ) (ct (dG (dq (bZ (bY 36 6) (bZ (m1 k_ (bY 36 5)) cm)))) cJ)))
theorem Y7:DS c Nx (m+2) (dM xZ) (Ny K):=ag (az (aU (aC (aG (lv H) ak) (aC (aD (lv H)) DT.lN)) (cg H di (ae (lv H) (ae (lv H) af))) aJ) (lw H)) (ag (az (aU (DT.jc (lv H)) (mE H di (lv H) (ae (lv H) af)) (lv H)) (lw H)) (ag (ay (DT.or (DT.eX (ai (ai (lv H))) av) (DT.or (DT.eX (bu H (ai (ai (lv H))) C1.len) (lv H)) DT.nG)) (ag (H.raise (by kernel_rfl) (by kernel_rfl) av (lv H) rfl rfl) ah) ah) (ag (aw (aj (ae (lv H) (ae (DE.k_ (lv H)) af)))) ah)))
def xH:=eM MB 58
def MZ:FC:=⟨37,j2 xH,[("checker":Str)],none⟩
def M0(K:KT):XS:=ct (dc (m1 IK (jo 38 1 [0] (kX (m1 (cP 1) (m1 (cP 1) (bY 37 0)))) (c_ 38 0) (fun Z σ=>ok true σ) (ky K 935 903 ag5 (dX 0) (bZ (bY 38 0) cm)))) (c_ 37 5)) (ct (dc (Bo cm) (c_ 37 6)) (ct (pj (mZ Fd (bZ (m1 (cP 1) (m1 (cP 1) (bY 37 0))) cm)) (lj 2 (fL (c_ 37 7) (fL (c_ 37 4) jt))) (ct (dc (dq (bZ (ret (.str jh)) (bZ (bY 37 4) (bZ (bY 37 2) (bZ (cB iM (bY 37 5) (bY 37 7)) cm))))) (c_ 37 8)) (ct (dR (cZ (m1 jc (cB iM (bY 37 1) (bY 37 7)))) (ct (sY (t_ (bY 37 6) (bY 37 8))) cJ) (ct (dR (gP (cZ (bY 37 3)) (gP (cZ (cB cU (bY 37 7) (ret (.int (.ofNat 1))))) (fun Z σ=>ok true σ))) (ct (sY (t_ (bY 37 6) (dD K 361 (bZ (dX 0) (bZ (bY 37 8) (bZ (cB iM (bY 37 1) (bY 37 7)) (bZ (bY 37 2) cm))))))) cJ) (ct (sY (t_ (bY 37 6) (ky K 935 874 FQ (dX 0) (bZ (bY 37 8) (bZ (cB iM (bY 37 1) (bY 37 7)) (bZ (bY 37 2) cm)))))) cJ)) cJ)) cJ))) (ct (dG (dq (bZ (gw (bZ (dq (bZ (ret (.str VU)) (bZ (bY 37 2) (bZ (bY 37 5) (bZ (dq (bZ (bY 37 0) cm)) cm))))) cm)) (bZ (bY 37 6) cm)))) cJ)))
theorem Yv:DS c MZ (m+2) (dM xH) (M0 K):=ag (az (GY H (nK (cn':=[("checker":Str)]) (DI.seq (ai (ai (lv H)))) (lw H) aL (mE H di aq (ae (lv H) af)) (by rw[H.dE];kernel_rfl) (by kernel_rfl) (fun Z Z=>rfl)) C1.tuple) (lw H)) (ag (az (DE.new af) (lw H)) (ag (D1.for (sb H (ae (ai (ai (lv H))) af) IN.enum) (aP (aM (lw H) (aM (lw H) aN)) rfl (fun Z=>⟨rfl,rfl⟩)) (ag (az (aj (ae av (ae (lv H) (ae (lv H) (ae (DE.jy (lv H) (lv H)) af))))) (lw H)) (ag (ay (DT.jc (DE.jy (lv H) (lv H))) (ag (D1.exp (aI (lv H) (lv H))) ah) (ag (ay (aC (aD (lv H)) (aC (aG (lv H) ak) DT.lN)) (ag (D1.exp (aI (lv H) (cg H di (ae aq (ae (lv H) (ae (DE.jy (lv H) (lv H)) (ae (lv H) af))))))) ah) (ag (D1.exp (aI (lv H) (mE H di aq (ae (lv H) (ae (DE.jy (lv H) (lv H)) (ae (lv H) af)))))) ah)) ah)) ah)) (fun Z Z=>rfl)) (ag (aw (aj (ae (au (ae (aj (ae av (ae (lv H) (ae (lv H) (ae (aj (ae (lv H) af)) af))))) af)) (ae (lv H) af)))) ah)))
def yl:=eM MB 59
def NY:FC:=⟨39,j2 yl,[("checker":Str)],none⟩
def yy(K:KT):XS:=ct (dR (cZ (cB cU (m1 iC (bY 39 0)) (m1 iC (bY 39 1)))) (ct (dG (dq (bZ (gw cm) (bZ (jo 41 2 [0] (mZ Bz (bZ (bY 39 0) (bZ (bY 39 1) cm))) (lj 2 (fL (c_ 41 0) (fL (c_ 41 1) jt))) (fun Z σ=>ok true σ) (dD K 369 (bZ (dX 0) (bZ (bY 41 0) (bZ (bY 41 1) cm))))) cm)))) cJ) cJ) (ct (dR (cZ (cB eX (m1 iC (bY 39 0)) (ret (.int (.ofNat 1))))) (ct (qm (ret (.str Tx)) (bY 39 2)) cJ) cJ) (ct (dc (dD K 376 (bZ (dX 0) (bZ (m1 (cP 0) (bY 39 0)) (bZ (m1 iC (bY 39 1)) (bZ (bY 39 2) (bZ (bY 39 3) cm)))))) (lj 2 (fL (c_ 39 4) (fL (c_ 39 5) jt)))) (ct (dR (cZ (cB cU (jo 40 2 [] (mZ Bz (bZ (bY 39 1) (bZ (m1 (cP 1) (m1 (cP 1) (bY 39 4))) cm))) (lj 2 (fL (c_ 40 0) (fL (c_ 40 1) jt))) (gP (cZ (m1 k_ (bY 40 0))) (gP (cZ (cB eX (bY 40 0) (bY 40 1))) (fun Z σ=>ok true σ))) (ret (.int (.ofNat 1)))) (gw cm))) (ct (dG (dq (bZ (gw cm) (bZ (gw (bZ (bY 39 4) cm)) cm)))) cJ) cJ) (ct (dG (dD K 381 (bZ (dX 0) (bZ (bY 39 4) (bZ (bY 39 1) (bZ (bY 39 2) (bZ (bY 39 5) cm))))))) cJ))))
theorem Zy:DS c NY (m+2) (dM yl) (yy K):=ag (ay (aG (bu H (lv H) C1.len) (bu H (lv H) C1.len)) (ag (aw (aj (ae (au af) (ae (nK (cn':=[("checker":Str)]) (sb H (ae (lv H) (ae (lv H) af)) IN.zip) (aP (aM (lw H) (aM (lw H) aN)) rfl (fun Z=>⟨rfl,rfl⟩)) aL (cg H di (ae aq (ae (lv H) (ae (lv H) af)))) (by rw[H.dE];kernel_rfl) (by kernel_rfl) (fun Z Z=>rfl)) af)))) ah) ah) (ag (ay (DT.eX (bu H (lv H) C1.len) ak) (ag (H.raise (by kernel_rfl) (by kernel_rfl) av (lv H) rfl rfl) ah) ah) (ag (D1.Ti (cg H di (ae aq (ae (ai (lv H)) (ae (bu H (lv H) C1.len) (ae (lv H) (ae (lv H) af)))))) (aP (aM (lw H) (aM (lw H) aN)) rfl (fun Z=>⟨rfl,rfl⟩))) (ag (ay (aG (nK (cn':=[]) (sb H (ae (lv H) (ae (ai (ai (lv H))) af)) IN.zip) (aP (aM (lw H) (aM (lw H) aN)) rfl (fun Z=>⟨rfl,rfl⟩)) (jV.one (aC (DT.k_ (lv H)) (aC (DT.eX (lv H) (lv H)) DT.lN))) ak (by rw[H.dE];kernel_rfl) (by kernel_rfl) (fun Z Z=>rfl)) (au af)) (ag (aw (aj (ae (au af) (ae (au (ae (lv H) af)) af)))) ah) ah) (ag (aw (cg H di (ae aq (ae (lv H) (ae (lv H) (ae (lv H) (ae (lv H) af))))))) ah))))
def xx:=eM MB 60
def MH:=fP 42 xx
def tZ(K:KT):XS:=ct (dR (gP (cZ (cB cU (m1 iC (bY 42 0)) (bY 42 1))) (gP (ia (cZ (cB eX (bY 42 1) (ret (.int (.ofNat 1))))) (ia (cZ (cB eX (m1 (cP 0) (m1 (cP 1) (m1 (cP 0) (bY 42 0)))) (ret (.str jv)))) (fun Z σ=>ok false σ))) (fun Z σ=>ok true σ))) (ct (dG (jo 43 1 [] (kX (bY 42 0)) (c_ 43 0) (fun Z σ=>ok true σ) (m1 (cP 1) (bY 43 0)))) cJ) cJ) (ct (dG (m1 AQ (m1 (cP 1) (m1 (cP 1) (m1 (cP 0) (bY 42 0)))))) cJ)
theorem Yh:DS c MH (m+2) (dM xx) (tZ K):=ag (ay (aC (aG (bu H (lv H) C1.len) (lv H)) (aC (DT.or (DT.eX (lv H) ak) (DT.or (DT.eX (ai (ai (ai (lv H)))) av) DT.nG)) DT.lN)) (ag (aw (nK (cn':=[]) (DI.seq (lv H)) (lw H) aL (ai (lv H)) (by rw[H.dE];kernel_rfl) (by kernel_rfl) (fun Z Z=>rfl))) ah) ah) (ag (aw (GY H (ai (ai (ai (lv H)))) C1.list)) ah)
def yJ:=eM MB 61
def Pf:=fP 44 yJ
def Pg(K:KT):XS:=ct (dG (vU (cB jz (m1 (cP 0) (bY 44 0)) (dq (bZ (ret (.str pO)) (bZ (ret (.str s9)) cm)))) (nF (cB cU (m1 (cP 0) (bY 44 0)) (ret (.str Li))) (cB jz (m1 (cP 3) (bY 44 0)) (ret Iv))))) cJ
theorem aaM:DS c Pf (m+2) (dM yJ) (Pg K):=ag (aw (aR (DE.jz (ai (lv H)) (aj (ae av (ae av af)))) (DE.mw (aS (aH (ai (lv H)) av) (DE.mw (DE.jz (ai (lv H)) (gv H))))))) ah
def yC:=eM MB 53
def OJ:=fP 45 yC
def OK(K:KT):XS:=ct (dR (gP (cZ (dD K 312 (bZ (m1 (gO 935 l_) (bY 45 0)) (bZ (bY 45 2) cm)))) (gP (cZ (cB eX (m1 (cP 1) (bY 45 1)) (bY 45 2))) (fun Z σ=>ok true σ))) (ct (dG (dq (bZ (ret (.str Lh)) (bZ (bY 45 2) (bZ (bY 45 3) (bZ (bY 45 1) cm)))))) cJ) cJ) (ct (dG (ky K 935 874 FQ (bY 45 0) (bZ (bY 45 1) (bZ (bY 45 2) (bZ (bY 45 3) cm))))) cJ)
theorem aaj:DS c OJ (m+2) (dM yC) (OK K):=ag (ay (aC (aD (cg H di (ae (aE H (lv H)) (ae (lv H) af)))) (aC (DT.eX (ai (lv H)) (lv H)) DT.lN)) (ag (aw (aj (ae av (ae (lv H) (ae (lv H) (ae (lv H) af)))))) ah) ah) (ag (aw (mE H di (lv H) (ae (lv H) (ae (lv H) (ae (lv H) af))))) ah)
end
def xP:=eM MB 47
def Nd:=fP 46 xP
def Nf(K:KT):XS:=ct (dc (ky K 935 853 JJ (bY 46 0) (bZ (bY 46 1) cm)) (c_ 46 4)) (ct (dc (dD K 277 (bZ (m1 (gO 935 l_) (bY 46 0)) (bZ (m1 (cP 1) (bY 46 4)) cm))) (c_ 46 5)) (ct (dR (ia (cZ (cB eX (m1 (cP 0) (bY 46 5)) (ret (.str mM)))) (ia (cZ (cB cU (m1 (cP 1) (bY 46 5)) (ret (.str ag6)))) (fun Z σ=>ok false σ))) (ct (qm (cB (eW .Add) (ret (.str ag7)) (dD K 270 (bZ (m1 (cP 1) (bY 46 4)) cm))) (bY 46 2)) cJ) cJ) (ct (dc (dR (cZ (bY 46 3)) (dq (bZ (ret (.str jv)) (bZ (dq (bZ (m1 (cP 2) (bY 46 5)) (bZ (ret Iu) cm))) cm))) (m1 (cP 2) (bY 46 5))) (c_ 46 6)) (ct (dG (dq (bZ (ret (.str s9)) (bZ (bY 46 6) (bZ (bY 46 2) (bZ (bY 46 4) (bZ (bY 46 3) cm))))))) cJ))))
section
variable{c:Cx}(H:Ctx c){K:KT}{m:Nat}(di:j1 c m K)
include H di
theorem YL:DS c Nd (m+2) (dM xP) (Nf K):=ag (az (mE H di (lv H) (ae (lv H) af)) (lw H)) (ag (az (cg H di (ae (aE H (lv H)) (ae (ai (lv H)) af))) (lw H)) (ag (ay (DT.or (DT.eX (ai (lv H)) av) (DT.or (aG (ai (lv H)) av) DT.nG)) (ag (H.raise (by kernel_rfl) (by kernel_rfl) (ao av (cg H di (ae (ai (lv H)) af))) (lv H) rfl rfl) ah) ah) (ag (az (aU (aD (lv H)) (aj (ae av (ae (aj (ae (ai (lv H)) (ae (gv H) af))) af))) (ai (lv H))) (lw H)) (ag (aw (aj (ae av (ae (lv H) (ae (lv H) (ae (lv H) (ae (lv H) af))))))) ah))))
def yz:=eM MB 51
def Oo:=fP 47 yz
def Oq(K:KT):XS:=ct (dR (cZ (cB cU (m1 (cP 0) (bY 47 1)) (ret (.str ag9)))) (ct (dG qv) cJ) cJ) (ct (dR (gP (cZ (cB cU (m1 (cP 0) (bY 47 1)) (ret (.str s5)))) (gP (cZ (cB cU (m1 (cP 2) (bY 47 1)) (ret (.str Gp)))) (fun Z σ=>ok true σ))) (ct (dG (dD K 326 (bZ (bY 47 0) (bZ (m1 (cP 3) (bY 47 1)) (bZ (m1 (cP 1) (bY 47 1)) (bZ (ret (.bool true)) cm)))))) cJ) cJ) (ct (dR (cZ (cB cU (m1 (cP 0) (bY 47 1)) (ret (.str ag8)))) (ct (dc (ky K 935 853 JJ (bY 47 0) (bZ (m1 (cP 2) (bY 47 1)) cm)) (c_ 47 2)) (ct (dc (dD K 277 (bZ (m1 (gO 935 l_) (bY 47 0)) (bZ (m1 (cP 1) (bY 47 2)) cm))) (c_ 47 3)) (ct (dR (cZ (cB cU (m1 (cP 0) (bY 47 3)) (ret (.str FR)))) (ct (dG qv) cJ) cJ) cJ))) cJ) (ct (dG (ret .none)) cJ)))
theorem Z1:DS c Oo (m+2) (dM yz) (Oq K):=ag (ay (aG (ai (lv H)) av) (ag (aw DE.bad) ah) ah) (ag (ay (aC (aG (ai (lv H)) av) (aC (aG (ai (lv H)) av) DT.lN)) (ag (aw (cg H di (ae (lv H) (ae (ai (lv H)) (ae (ai (lv H)) (ae ar af)))))) ah) ah) (ag (ay (aG (ai (lv H)) av) (ag (az (mE H di (lv H) (ae (ai (lv H)) af)) (lw H)) (ag (az (cg H di (ae (aE H (lv H)) (ae (ai (lv H)) af))) (lw H)) (ag (ay (aG (ai (lv H)) av) (ag (aw DE.bad) ah) ah) ah))) ah) (ag (aw aJ) ah)))
def yA:=eM MB 38
def Ot:=fP 48 yA
def Ou(K:KT):XS:=ct (dc (m1 (cP 0) (bY 48 0)) (c_ 48 1)) (ct (dR (ia (cZ (cB cU (bY 48 1) (ret (.str s3)))) (ia (cZ (cB cU (bY 48 1) (ret (.str s7)))) (fun Z σ=>ok false σ))) (ct (dG (m1 (cP 1) (bY 48 0))) cJ) cJ) (ct (dR (cZ (cB cU (bY 48 1) (ret (.str mL)))) (ct (dG (cB (eW .Add) (ret (.str ahg)) (m1 (cP 1) (bY 48 0)))) cJ) cJ) (ct (dR (cZ (cB cU (bY 48 1) (ret (.str wa)))) (ct (dG (cB (eW .Add) (ret (.str ahf)) (dD K 270 (bZ (m1 (cP 1) (bY 48 0)) cm)))) cJ) cJ) (ct (dR (cZ (cB cU (bY 48 1) (ret (.str ahe)))) (ct (dG qv) cJ) cJ) (ct (dR (cZ (cB cU (bY 48 1) (ret (.str JK)))) (ct (dG (cB (eW .Add) (ret (.str ahd)) (dD K 270 (bZ (m1 (cP 1) (bY 48 0)) cm)))) cJ) cJ) (ct (dR (cZ (cB cU (bY 48 1) (ret (.str FR)))) (ct (dG (cB (eW .Add) (cB (eW .Add) (cB (eW .Add) (ret (.str ahb)) (dD K 270 (bZ (m1 (cP 1) (bY 48 0)) cm))) (ret (.str ahc))) (dD K 270 (bZ (m1 (cP 2) (bY 48 0)) cm)))) cJ) cJ) (ct (dR (cZ (cB cU (bY 48 1) (ret (.str mM)))) (ct (dG qv) cJ) cJ) (ct (dR (cZ (cB cU (bY 48 1) (ret (.str ot)))) (ct (dG qv) cJ) cJ) (ct (dR (cZ (cB cU (bY 48 1) (ret (.str wV)))) (ct (dG (dD K 258 (bZ (ret (.str wV)) (bZ (jo 50 1 [] (kX (m1 (cP 1) (bY 48 0))) (c_ 50 0) (fun Z σ=>ok true σ) qv) cm)))) cJ) cJ) (ct (dR (cZ (cB cU (bY 48 1) (ret (.str s8)))) (ct (dG (dD K 258 (bZ (ret (.str s8)) (bZ (jo 49 2 [] (kX (m1 (cP 1) (bY 48 0))) (lj 2 (fL (c_ 49 0) (fL (c_ 49 1) jt))) (fun Z σ=>ok true σ) qv) cm)))) cJ) cJ) (ct (dG (dR (cZ (cB cU (bY 48 1) (ret (.str jv)))) (cB (eW .Add) (cB (eW .Add) (ret (.str ag_)) (dD K 239 (bZ (m1 (cP 1) (bY 48 0)) cm))) (ret (.str aha))) (bY 48 1))) cJ)))))))))))
theorem Z2:DS c Ot (m+2) (dM yA) (Ou K):=ag (az (ai (lv H)) (lw H)) (ag (ay (DT.or (aG (lv H) av) (DT.or (aG (lv H) av) DT.nG)) (ag (aw (ai (lv H))) ah) ah) (ag (ay (aG (lv H) av) (ag (aw (ao av (ai (lv H)))) ah) ah) (ag (ay (aG (lv H) av) (ag (aw (ao av (cg H di (ae (ai (lv H)) af)))) ah) ah) (ag (ay (aG (lv H) av) (ag (aw DE.bad) ah) ah) (ag (ay (aG (lv H) av) (ag (aw (ao av (cg H di (ae (ai (lv H)) af)))) ah) ah) (ag (ay (aG (lv H) av) (ag (aw (ao (ao (ao av (cg H di (ae (ai (lv H)) af))) av) (cg H di (ae (ai (lv H)) af)))) ah) ah) (ag (ay (aG (lv H) av) (ag (aw DE.bad) ah) ah) (ag (ay (aG (lv H) av) (ag (aw DE.bad) ah) ah) (ag (ay (aG (lv H) av) (ag (aw (cg H di (ae av (ae (nK (cn':=[]) (DI.seq (ai (lv H))) (lw H) aL DE.bad (by rw[H.dE];kernel_rfl) (by kernel_rfl) (fun Z Z=>rfl)) af)))) ah) ah) (ag (ay (aG (lv H) av) (ag (aw (cg H di (ae av (ae (nK (cn':=[]) (DI.seq (ai (lv H))) (aP (aM (lw H) (aM (lw H) aN)) rfl (fun Z=>⟨rfl,rfl⟩)) aL DE.bad (by rw[H.dE];kernel_rfl) (by kernel_rfl) (fun Z Z=>rfl)) af)))) ah) ah) (ag (aw (aU (aG (lv H) av) (ao (ao av (cg H di (ae (ai (lv H)) af))) av) (lv H))) ah)))))))))))
def xQ:=eM MB 33
def Ng:=fP 51 xQ
def Nh(K:KT):XS:=ct (dG (m1 (Fe ahh) (jo 52 1 [] (kX (bY 51 0)) (c_ 52 0) (fun Z σ=>ok true σ) (dD K 270 (bZ (bY 52 0) cm))))) cJ
theorem YM:DS c Ng (m+2) (dM xQ) (Nh K):=ag (aw (DE.Sp (by kernel_rfl) (nK (cn':=[]) (DI.seq (lv H)) (lw H) aL (cg H di (ae (lv H) af)) (by rw[H.dE];kernel_rfl) (by kernel_rfl) (fun Z Z=>rfl)) rfl rfl)) ah
def x5:=eM MB 36
def Nz:=fP 53 x5
def NA(K:KT):XS:=ct (dG (dR (cZ (cB eX (bY 53 1) (gw cm))) (cB (eW .Add) (cB (eW .Add) (cB (eW .Add) (bY 53 0) (ret (.str ahi))) (m1 (Fe ahj) (bY 53 1))) (ret (.str ahk))) (cB (eW .Add) (bY 53 0) (ret (.str ahl))))) cJ
theorem Y8:DS c Nz (m+2) (dM x5) (NA K):=ag (aw (aU (DT.eX (lv H) (au af)) (ao (ao (ao (lv H) av) (DE.Sp (by kernel_rfl) (lv H) rfl rfl)) av) (ao (lv H) av))) ah
def xI:=eM MB 39
def M1:=fP 54 xI
def M3(K:KT):XS:=ct (dG (ky K 1002 992 zm (bY 54 0) (bZ (bY 54 1) cm))) cJ
theorem Yw:DS c M1 (m+2) (dM xI) (M3 K):=ag (aw (mE H di (lv H) (ae (lv H) af))) ah
def yD:=eM MB 40
def OL:=fP 55 yD
def OM(K:KT):XS:=ct (dG (cB jz (m1 (cP 0) (bY 55 0)) (dq (vJ [s3,s0,s7,ng])))) cJ
theorem aak:DS c OL (m+2) (dM yD) (OM K):=ag (aw (DE.jz (ai (lv H)) (aj bV.strs))) ah
def ym:=eM MB 41
def NZ:=fP 56 ym
def N0(K:KT):XS:=ct (dG (cB cU (m1 (cP 0) (bY 56 0)) (ret (.str mL)))) cJ
theorem Zz:DS c NZ (m+2) (dM ym) (N0 K):=ag (aw (aH (ai (lv H)) av)) ah
def xR:=eM MB 42
def Ni:=fP 57 xR
def Nj(K:KT):XS:=ct (dG (dR (cZ (dD K 291 (bZ (bY 57 0) cm))) (cB iM (ret HH) (m1 (cP 1) (bY 57 0))) (bY 57 0))) cJ
theorem YN:DS c Ni (m+2) (dM xR) (Nj K):=ag (aw (aU (aD (cg H di (ae (lv H) af))) (DE.jy (gv H) (ai (lv H))) (lv H))) ah
def xS:=eM MB 43
def Nk:=fP 58 xS
def Nl(K:KT):XS:=ct (dG (cB cU (m1 (cP 0) (dD K 277 (bZ (bY 58 0) (bZ (bY 58 1) cm)))) (ret (.str s8)))) cJ
theorem YO:DS c Nk (m+2) (dM xS) (Nl K):=ag (aw (aH (ai (cg H di (ae (lv H) (ae (lv H) af)))) av)) ah
def yE:=eM MB 44
def ON:=fP 59 yE
def OO(K:KT):XS:=ct (dG (vU (cB cU (bY 59 1) (dq (bZ (ret (.str mL)) (bZ (ret (.str s0)) cm)))) (cB cU (m1 (cP 0) (dD K 277 (bZ (bY 59 0) (bZ (bY 59 1) cm)))) (ret (.str s0))))) cJ
theorem aal:DS c ON (m+2) (dM yE) (OO K):=ag (aw (aR (aH (lv H) (aj (ae av (ae av af)))) (DE.mw (aH (ai (cg H di (ae (lv H) (ae (lv H) af)))) av)))) ah
def yK:=eM MB 45
def Ph:=fP 60 yK
def Pj(K:KT):XS:=ct (dG (cB jz (m1 (cP 0) (dD K 277 (bZ (bY 60 0) (bZ (bY 60 1) cm)))) (ret H2))) cJ
theorem aaN:DS c Ph (m+2) (dM yK) (Pj K):=ag (aw (DE.jz (ai (cg H di (ae (lv H) (ae (lv H) af)))) (gv H))) ah
def xU:=eM MB 83
def Nm:=fP 61 xU
def Nn(K:KT):XS:=ct (dc (dq (bZ (dD K 277 (bZ (bY 61 0) (bZ (bY 61 1) cm))) (bZ (dD K 277 (bZ (bY 61 0) (bZ (bY 61 2) cm))) cm))) (rr 2 (fL (c_ 61 4) (fL (c_ 61 3) jt)))) (ct (dR (ia (cZ (cB eX (m1 (cP 0) (bY 61 3)) (ret (.str mM)))) (ia (cZ (cB eX (m1 (cP 0) (bY 61 4)) (ret (.str mM)))) (ia (cZ (cB eX (m1 (cP 2) (bY 61 3)) (m1 (cP 2) (bY 61 4)))) (ia (cZ (cB eX (m1 (cP 1) (bY 61 3)) (ret (.str pP)))) (fun Z σ=>ok false σ))))) (ct (dG (ret (.bool false))) cJ) cJ) (ct (dG (vU (E3 (dD K 284 (bZ (bY 61 1) cm))) (E3 (dD K 284 (bZ (bY 61 2) cm))))) cJ))
theorem YQ:DS c Nm (m+2) (dM xU) (Nn K):=ag (D1.ud (names:=[("here":Str),("there":Str)]) (aj (ae (cg H di (ae (lv H) (ae (lv H) af))) (ae (cg H di (ae (lv H) (ae (lv H) af))) af))) (by kernel_rfl) (nh H (nh H eZ.ui)) rfl) (ag (ay (DT.or (DT.eX (ai (lv H)) av) (DT.or (DT.eX (ai (lv H)) av) (DT.or (DT.eX (ai (lv H)) (ai (lv H))) (DT.or (DT.eX (ai (lv H)) av) DT.nG)))) (ag (aw ar) ah) ah) (ag (aw (aR (DE.not (cg H di (ae (lv H) af))) (DE.mw (DE.not (cg H di (ae (lv H) af)))))) ah))
def yn:=eM MB 84
def N1:=fP 62 yn
def N2(K:KT):XS:=ct (dG (nF (dD K 305 (bZ (bY 62 0) (bZ (bY 62 2) cm))) (m1 jc (dD K 227 (bZ (bY 62 0) (bZ (bY 62 1) (bZ (dD K 277 (bZ (bY 62 0) (bZ (bY 62 2) cm))) cm))))))) cJ
theorem ZA:DS c N1 (m+2) (dM yn) (N2 K):=ag (aw (aS (cg H di (ae (lv H) (ae (lv H) af))) (DE.mw (DE.jc (cg H di (ae (lv H) (ae (lv H) (ae (cg H di (ae (lv H) (ae (lv H) af))) af)))))))) ah
def xJ:=eM MB 85
def M4:=fP 63 xJ
def M5(K:KT):XS:=ct (dR (ia (cZ (bY 63 3)) (ia (cZ (cB cU (bY 63 1) (ret zc))) (fun Z σ=>ok false σ))) (ct (dG (dD K 319 (bZ (bY 63 0) (bZ (bY 63 2) cm)))) cJ) cJ) (ct (dR (cZ (cB cU (bY 63 1) (bY 63 2))) (ct (dG (ret (.bool true))) cJ) cJ) (ct (dR (ia (cZ (cB jz (m1 (cP 0) (bY 63 1)) (dq (bZ (ret (.str jv)) (bZ (ret (.str mL)) cm))))) (ia (cZ (cB cU (m1 (cP 0) (bY 63 2)) (ret (.str jv)))) (fun Z σ=>ok false σ))) (ct (dG (nF (cB cU (bY 63 1) (dq (bZ (ret (.str mL)) (bZ (ret (.str s0)) cm)))) (vU (dD K 312 (bZ (bY 63 0) (bZ (bY 63 2) cm))) (dD K 515 (bZ (bY 63 0) (bZ (dD K 298 (bZ (bY 63 1) cm)) (bZ (bY 63 2) cm))))))) cJ) cJ) (ct (dR (gP (cZ (cB cU (dD K 277 (bZ (bY 63 0) (bZ (bY 63 1) cm))) (dD K 277 (bZ (bY 63 0) (bZ (bY 63 2) cm))))) (gP (vQ (gP (cZ (dD K 284 (bZ (bY 63 1) cm))) (gP (cZ (dD K 284 (bZ (bY 63 2) cm))) (fun Z σ=>ok true σ)))) (fun Z σ=>ok true σ))) (ct (dG (ret (.bool true))) cJ) cJ) (ct (dG (vU (dD K 508 (bZ (bY 63 0) (bZ (bY 63 1) (bZ (bY 63 2) cm)))) (dD K 515 (bZ (bY 63 0) (bZ (bY 63 1) (bZ (bY 63 2) cm)))))) cJ))))
theorem Yx:DS c M4 (m+2) (dM xJ) (M5 K):=ag (ay (DT.or (aD (lv H)) (DT.or (aG (lv H) (gv H)) DT.nG)) (ag (aw (cg H di (ae (lv H) (ae (lv H) af)))) ah) ah) (ag (ay (aG (lv H) (lv H)) (ag (aw ar) ah) ah) (ag (ay (DT.or (DT.jz (ai (lv H)) (aj (ae av (ae av af)))) (DT.or (aG (ai (lv H)) av) DT.nG)) (ag (aw (aS (aH (lv H) (aj (ae av (ae av af)))) (DE.mw (aR (cg H di (ae (lv H) (ae (lv H) af))) (DE.mw (cg H di (ae (lv H) (ae (cg H di (ae (lv H) af)) (ae (lv H) af))))))))) ah) ah) (ag (ay (aC (aG (cg H di (ae (lv H) (ae (lv H) af))) (cg H di (ae (lv H) (ae (lv H) af)))) (aC (aF (aC (aD (cg H di (ae (lv H) af))) (aC (aD (cg H di (ae (lv H) af))) DT.lN))) DT.lN)) (ag (aw ar) ah) ah) (ag (aw (aR (cg H di (ae (lv H) (ae (lv H) (ae (lv H) af)))) (DE.mw (cg H di (ae (lv H) (ae (lv H) (ae (lv H) af))))))) ah))))
def xq:=eM MB 86
def Mw:=fP 64 xq
def Mx(K:KT):XS:=ct (dR (cZ (dD K 305 (bZ (bY 64 0) (bZ (bY 64 3) cm)))) (ct (dG (nF (dD K 515 (bZ (bY 64 0) (bZ (dD K 298 (bZ (bY 64 2) cm)) (bZ (bY 64 3) cm)))) (dD K 436 (bZ (bY 64 1) (bZ (dD K 298 (bZ (bY 64 2) cm)) cm))))) cJ) cJ) (ct (dc (dD K 277 (bZ (bY 64 0) (bZ (bY 64 3) cm))) (c_ 64 4)) (ct (dR (cZ (cB cU (m1 (cP 1) (bY 64 2)) (ret (.str s0)))) (ct (dG (cB cU (m1 (cP 0) (bY 64 4)) (ret (.str s0)))) cJ) cJ) (ct (dR (cZ (cB cU (m1 (cP 1) (bY 64 2)) (ret (.str ng)))) (ct (dG (cB cU (m1 (cP 0) (bY 64 4)) (ret (.str ng)))) cJ) cJ) (ct (dG (nF (cB cU (m1 (cP 0) (bY 64 4)) (ret (.str s7))) (dD K 436 (bZ (bY 64 1) (bZ (bY 64 4) cm))))) cJ))))
theorem X1:DS c Mw (m+2) (dM xq) (Mx K):=ag (ay (aD (cg H di (ae (lv H) (ae (lv H) af)))) (ag (aw (aS (cg H di (ae (lv H) (ae (cg H di (ae (lv H) af)) (ae (lv H) af)))) (DE.mw (cg H di (ae (lv H) (ae (cg H di (ae (lv H) af)) af)))))) ah) ah) (ag (az (cg H di (ae (lv H) (ae (lv H) af))) (lw H)) (ag (ay (aG (ai (lv H)) av) (ag (aw (aH (ai (lv H)) av)) ah) ah) (ag (ay (aG (ai (lv H)) av) (ag (aw (aH (ai (lv H)) av)) ah) ah) (ag (aw (aS (aH (ai (lv H)) av) (DE.mw (cg H di (ae (lv H) (ae (lv H) af)))))) ah))))
end
def x6:=eM MB 68
def NB:=fP 65 x6
def NC(K:KT):XS:=ct (dG (cB cU (m1 (cP 0) (bY 65 0)) (ret (.str ahm)))) cJ
section
variable{c:Cx}(H:Ctx c){K:KT}{m:Nat}(di:j1 c m K)
include H di
theorem Y9:DS c NB (m+2) (dM x6) (NC K):=ag (aw (aH (ai (lv H)) av)) ah
def yB:=eM MB 69
def Ow:=fP 66 yB
def Ox(K:KT):XS:=ct (dR (cZ (dD K 408 (bZ (bY 66 0) cm))) (ct (dG (dq (bZ (ret (.int (.ofNat 0))) (bZ (cB (eW .Sub) (cB (eW .Pow) (ret (.int (.ofNat 2))) (cB iM (ret AU) (bY 66 0))) (ret (.int (.ofNat 1)))) cm)))) cJ) cJ) (ct (dG (dq (bZ (cB (eW .Sub) (ret (.int (.ofNat 0))) (cB (eW .Pow) (ret (.int (.ofNat 2))) (cB (eW .Sub) (cB iM (ret AU) (bY 66 0)) (ret (.int (.ofNat 1)))))) (bZ (cB (eW .Sub) (cB (eW .Pow) (ret (.int (.ofNat 2))) (cB (eW .Sub) (cB iM (ret AU) (bY 66 0)) (ret (.int (.ofNat 1))))) (ret (.int (.ofNat 1)))) cm)))) cJ)
theorem Z3:DS c Ow (m+2) (dM yB) (Ox K):=ag (ay (aD (cg H di (ae (lv H) af))) (ag (aw (aj (ae ak (ae (ao (ao ak (DE.jy (gv H) (lv H))) ak) af)))) ah) ah) (ag (aw (aj (ae (ao ak (ao ak (ao (DE.jy (gv H) (lv H)) ak))) (ae (ao (ao ak (ao (DE.jy (gv H) (lv H)) ak)) ak) af)))) ah)
def x_:=eM MB 70
def ND:=fP 67 x_
def NF(K:KT):XS:=ct (dR (cZ (m1 jc (bY 67 1))) (ct (dG (IG .Lt .Lt (cB (eW .Sub) (ret (.int (.ofNat 0))) (cB (eW .Pow) (ret (.int (.ofNat 2))) (ret DK))) (bY 67 0) (cB (eW .Pow) (ret (.int (.ofNat 2))) (ret DK)))) cJ) cJ) (ct (dc (dD K 415 (bZ (bY 67 1) cm)) (lj 2 (fL (c_ 67 2) (fL (c_ 67 3) jt)))) (ct (dG (IG .LtE .LtE (bY 67 2) (bY 67 0) (bY 67 3))) cJ))
theorem Y_:DS c ND (m+2) (dM x_) (NF K):=ag (ay (DT.jc (lv H)) (ag (aw (DE.chain (ao ak (ao ak (gv H))) (lv H) (ao ak (gv H)) rfl)) ah) ah) (ag (D1.Ti (cg H di (ae (lv H) af)) (aP (aM (lw H) (aM (lw H) aN)) rfl (fun Z=>⟨rfl,rfl⟩))) (ag (aw (DE.chain (lv H) (lv H) (lv H) rfl)) ah))
def xK:=eM MB 72
def M6:=fP 68 xK
def M7(K:KT):XS:=ct (dc (m1 (cP 0) (bY 68 1)) (c_ 68 2)) (ct (dR (ia (cZ (cB cU (bY 68 2) (ret (.str s0)))) (ia (cZ (cB cU (bY 68 1) (dq (bZ (ret (.str mL)) (bZ (ret (.str s0)) cm))))) (fun Z σ=>ok false σ))) (ct (dG (mN Bg (bZ (bY 68 0) (bZ (ret (.typ "bool")) cm)))) cJ) cJ) (ct (dR (cZ (mN Bg (bZ (bY 68 0) (bZ (ret (.typ "bool")) cm)))) (ct (dG (ret (.bool false))) cJ) cJ) (ct (dR (ia (cZ (cB cU (bY 68 2) (ret (.str ng)))) (ia (cZ (cB cU (bY 68 1) (dq (bZ (ret (.str mL)) (bZ (ret (.str ng)) cm))))) (fun Z σ=>ok false σ))) (ct (dG (mN Bg (bZ (bY 68 0) (bZ (ret (.typ "bytes")) cm)))) cJ) cJ) (ct (dR (vQ (cZ (mN Bg (bZ (bY 68 0) (bZ (ret (.typ "int")) cm))))) (ct (dG (ret (.bool false))) cJ) cJ) (ct (dR (cZ (cB cU (bY 68 2) (ret (.str mL)))) (ct (dG (dD K 422 (bZ (bY 68 0) (bZ (ret .none) cm)))) cJ) cJ) (ct (dG (nF (cB cU (bY 68 2) (ret (.str s7))) (dD K 422 (bZ (bY 68 0) (bZ (m1 (cP 1) (bY 68 1)) cm))))) cJ))))))
theorem Yy:DS c M6 (m+2) (dM xK) (M7 K):=ag (az (ai (lv H)) (lw H)) (ag (ay (DT.or (aG (lv H) av) (DT.or (aG (lv H) (aj (ae av (ae av af)))) DT.nG)) (ag (aw (Cm H (ae (lv H) (ae (DE.bt H.Fa Ei.1 Ei.2 (by kernel_rfl) (by kernel_rfl)) af)) CN.isin)) ah) ah) (ag (ay (aD (Cm H (ae (lv H) (ae (DE.bt H.Fa Ei.1 Ei.2 (by kernel_rfl) (by kernel_rfl)) af)) CN.isin)) (ag (aw ar) ah) ah) (ag (ay (DT.or (aG (lv H) av) (DT.or (aG (lv H) (aj (ae av (ae av af)))) DT.nG)) (ag (aw (Cm H (ae (lv H) (ae (DE.bt H.Fa O8.1 O8.2 (by kernel_rfl) (by kernel_rfl)) af)) CN.isin)) ah) ah) (ag (ay (aF (aD (Cm H (ae (lv H) (ae (DE.bt H.Fa QW.1 QW.2 (by kernel_rfl) (by kernel_rfl)) af)) CN.isin))) (ag (aw ar) ah) ah) (ag (ay (aG (lv H) av) (ag (aw (cg H di (ae (lv H) (ae aJ af)))) ah) ah) (ag (aw (aS (aH (lv H) av) (DE.mw (cg H di (ae (lv H) (ae (ai (lv H)) af)))))) ah))))))
def xv:=eM MB 19
def MD:=fP 69 xv
def ME(K:KT):XS:=ct (dc (dq (bZ (dD K 169 (bZ (bY 69 0) (bZ (bY 69 1) cm))) (bZ (ret (.fB [])) cm))) (rr 2 (fL (c_ 69 3) (fL (c_ 69 2) jt)))) (ct (AO (cZ (cB Tw (m1 (gO 169 um) (bY 69 2)) (gw cm))) (ct (pj (kX (m1 (gO 169 um) (bY 69 2))) (c_ 69 4) (ct (dc (ky K 1002 992 zm (bY 69 0) (bZ (m1 (gO 108 s4) (bY 69 4)) cm)) (c_ 69 5)) (ct (pj (Sn (dD K 133 (bZ (bY 69 0) (bZ (m1 (gO 108 s4) (bY 69 4)) cm)))) (c_ 69 6) (ct (dc (ret (.bool true)) (qp (bY 69 3) (bY 69 6))) cJ)) (ct (pj (kX (dR (cZ (cB cU (m1 (cP 0) (bY 69 5)) (ret (.str s8)))) (m1 (cP 1) (bY 69 5)) (dq cm))) (lj 2 (fL (c_ 69 6) (fL (c_ 69 7) jt))) (ct (dc (ret (.bool true)) (qp (bY 69 3) (bY 69 6))) cJ)) cJ)))) (ct (sY (ky K 169 166 ahn (bY 69 2) cm)) cJ)) 9) (ct (dG (m1 ES (bY 69 3))) cJ))
theorem Yb:DS c MD (m+2) (dM xv) (ME K):=ag (D1.ud (names:=[("levels":Str),("found":Str)]) (aj (ae (cg H di (ae (lv H) (ae (lv H) af))) (ae (aK H.Fa) af))) (by kernel_rfl) (nh H (nh H eZ.ui)) rfl) (ag (D1.Tc 9 (DT.nK D2.wm (aE H (lv H)) (au af) rfl) (ag (D1.for (DI.seq (aE H (lv H))) (lw H) (ag (az (mE H di (lv H) (ae (aE H (lv H)) af)) (lw H)) (ag (D1.for (DI.agV (cg H di (ae (lv H) (ae (aE H (lv H)) af)))) (lw H) (ag (aB ar (DA.itemF (lv H) (lv H))) ah) (fun Z Z=>rfl)) (ag (D1.for (DI.seq (aU (aG (ai (lv H)) av) (ai (lv H)) (aj af))) (aP (aM (lw H) (aM (lw H) aN)) rfl (fun Z=>⟨rfl,rfl⟩)) (ag (aB ar (DA.itemF (lv H) (lv H))) ah) (fun Z Z=>rfl)) ah))) (fun Z Z=>rfl)) (ag (D1.exp (mE H di (lv H) af)) ah))) (ag (aw (bu H (lv H) C1.sorted)) ah))
def yo:=eM MB 22
def N3:=fP 70 yo
def N4(K:KT):XS:=ct (dc (dq (bZ (dD K 180 (bZ (bY 70 0) (bZ (bY 70 1) cm))) (bZ (ret (.fB [])) cm))) (rr 2 (fL (c_ 70 3) (fL (c_ 70 2) jt)))) (ct (dR (ia (cZ (m1 jc (bY 70 2))) (ia (cZ (m1 (cP 1) (bY 70 2))) (fun Z σ=>ok false σ))) (ct (dG (bY 70 3)) cJ) cJ) (ct (pj (kX (dD K 194 (bZ (bY 70 0) (bZ (m1 (cP 0) (bY 70 2)) cm)))) (c_ 70 4) (ct (dc qv (c_ 70 5)) (ct (dR (gP (cZ (m1 k_ (bY 70 5))) (gP (cZ (cB eX (m1 (cP 0) (bY 70 5)) (ret (.str aho)))) (gP aiv (fun Z σ=>ok true σ)))) (ct (dc (dR (cZ (cB cU (m1 (cP 0) (bY 70 5)) (ret (.str ahp)))) (m1 (cP 2) (bY 70 5)) (ret .none)) (c_ 70 6)) (ct (dc (dq (bZ (m1 (cP 1) (bY 70 5)) (bZ (bY 70 6) (bZ (cB iM (bY 70 5) (ret (.int (.negSucc 0)))) cm)))) (qp (bY 70 3) (bY 70 4))) cJ)) cJ) cJ))) (ct (dG (bY 70 3)) cJ)))
theorem ZC:DS c N3 (m+2) (dM yo) (N4 K):=ag (D1.ud (names:=[("begun":Str),("found":Str)]) (aj (ae (cg H di (ae (lv H) (ae (lv H) af))) (ae (aK H.Fa) af))) (by kernel_rfl) (nh H (nh H eZ.ui)) rfl) (ag (ay (DT.or (DT.jc (lv H)) (DT.or (aD (ai (lv H))) DT.nG)) (ag (aw (lv H)) ah) ah) (ag (D1.for (DI.seq (cg H di (ae (lv H) (ae (ai (lv H)) af)))) (lw H) (ag (az DE.bad (lw H)) (ag (ay (aC (DT.k_ (lv H)) (aC (DT.eX (ai (lv H)) av) (aC DT.bad DT.lN))) (ag (az (aU (aG (ai (lv H)) av) (ai (lv H)) aJ) (lw H)) (ag (aB (aj (ae (ai (lv H)) (ae (lv H) (ae (DE.jy (lv H) DE.neg) af)))) (DA.itemF (lv H) (lv H))) ah)) ah) ah)) (fun Z Z=>rfl)) (ag (aw (lv H)) ah)))
def yp:=eM MB 24
def N5:=fP 71 yp
def N6(K:KT):XS:=ct (dc (dD K 213 (bZ (bY 71 0) (bZ (bY 71 1) cm))) (c_ 71 3)) (ct (pj (kX (m1 (cP 1) (ky K 1002 992 zm (bY 71 0) (bZ (bY 71 2) cm)))) (lj 2 (fL (c_ 71 4) (fL (c_ 71 5) jt))) (ct (dR (cZ (cB mx (bY 71 4) (bY 71 3))) (ct (dG (dq (bZ (bY 71 4) (bZ qv cm)))) cJ) cJ) (ct (dR (cZ (cB eX (m1 (cP 2) (cB iM (bY 71 3) (bY 71 4))) (bY 71 5))) (ct (dG (dq (bZ (bY 71 4) (bZ (ret (.str ahq)) cm)))) cJ) cJ) cJ))) (ct (dG (ret .none)) cJ))
theorem ZD:DS c N5 (m+2) (dM yp) (N6 K):=ag (az (cg H di (ae (lv H) (ae (lv H) af))) (lw H)) (ag (D1.for (DI.seq (ai (mE H di (lv H) (ae (lv H) af)))) (aP (aM (lw H) (aM (lw H) aN)) rfl (fun Z=>⟨rfl,rfl⟩)) (ag (ay (DT.mx (lv H) (lv H)) (ag (aw (aj (ae (lv H) (ae DE.bad af)))) ah) ah) (ag (ay (DT.eX (ai (DE.jy (lv H) (lv H))) (lv H)) (ag (aw (aj (ae (lv H) (ae av af)))) ah) ah) ah)) (fun Z Z=>rfl)) (ag (aw aJ) ah))
def yc:=eM (dM (eM MB 15)) 0
def NG:=fP 72 yc
def NH(K:KT):XS:=ct (dc (bY 72 1) (f7 169 l_ (bY 72 0))) (ct (dc (gw (bZ (dD K 108 (bZ (bY 72 2) (bZ (dq cm) cm))) cm)) (f7 169 um (bY 72 0))) (ct (dc (ret (.fB [])) (f7 169 BB (bY 72 0))) cJ))
theorem Za:DS c NG (m+2) (dM yc) (NH K):=ag (aA (lv H) (sE H (lv H))) (ag (aA (au (ae (cg H di (ae (lv H) (ae (aj af) af))) af)) (sE H (lv H))) (ag (aA (aK H.Fa) (sE H (lv H))) ah))
def xW:=eM (dM (eM MB 15)) 1
def Np:=fP 73 xW
def Nq(K:KT):XS:=ct (pj (kX (m1 (gO 169 um) (bY 73 0))) (c_ 73 1) (ct (dR (cZ (cB cU (m1 (cP 0) (m1 (gO 108 s4) (bY 73 1))) (ret (.str s3)))) (ct (dc (ret (.bool true)) (qp (m1 (gO 169 BB) (bY 73 0)) (m1 (cP 1) (m1 (gO 108 s4) (bY 73 1))))) cJ) cJ) cJ)) (ct (dc (ret (.fB [])) (c_ 73 2)) (ct (pj (kX (m1 (gO 169 um) (bY 73 0))) (c_ 73 1) (ct (pj (kX (dD K 145 (bZ (m1 (gO 169 l_) (bY 73 0)) (bZ (bY 73 1) cm)))) (c_ 73 3) (ct (dR (cZ (cB jz (m1 (gO 108 s4) (bY 73 3)) (bY 73 2))) (ct FV cJ) (ct (dR (ia (cZ (cB eX (m1 (cP 0) (m1 (gO 108 s4) (bY 73 3))) (ret (.str s3)))) (ia (cZ (cB mx (m1 (cP 1) (m1 (gO 108 s4) (bY 73 3))) (m1 (gO 169 BB) (bY 73 0)))) (fun Z σ=>ok false σ))) (ct (dc (bY 73 3) (qp (bY 73 2) (m1 (gO 108 s4) (bY 73 3)))) cJ) cJ) cJ)) cJ)) cJ)) (ct (dc (m1 ES (bY 73 2)) (f7 169 um (bY 73 0))) cJ)))
theorem YR:DS c Np (m+2) (dM xW) (Nq K):=ag (D1.for (DI.seq (aE H (lv H))) (lw H) (ag (ay (aG (ai (aE H (lv H))) av) (ag (aB ar (DA.itemF (aE H (lv H)) (ai (aE H (lv H))))) ah) ah) ah) (fun Z Z=>rfl)) (ag (az (aK H.Fa) (lw H)) (ag (D1.for (DI.seq (aE H (lv H))) (lw H) (ag (D1.for (DI.seq (cg H di (ae (aE H (lv H)) (ae (lv H) af)))) (lw H) (ag (ay (DT.jz (aE H (lv H)) (lv H)) (ag D1.bad ah) (ag (ay (DT.or (DT.eX (ai (aE H (lv H))) av) (DT.or (DT.mx (ai (aE H (lv H))) (aE H (lv H))) DT.nG)) (ag (aB (lv H) (DA.itemF (lv H) (aE H (lv H)))) ah) ah) ah)) ah) (fun Z Z=>rfl)) ah) (fun Z Z=>rfl)) (ag (aA (DE.afh H.Fa Qd.1 Qd.2 (by kernel_rfl) (by kernel_rfl) (lv H) rfl rfl) (sE H (lv H))) ah)))
def xX:=eM (dM (eM MB 9)) 0
def Nr:=fP 74 xX
def Nt(K:KT):XS:=ct (dc (bY 74 1) (f7 108 s4 (bY 74 0))) (ct (dc (bY 74 2) (f7 108 FU (bY 74 0))) (ct (dc (bY 74 3) (f7 108 FT (bY 74 0))) cJ))
theorem YS:DS c Nr (m+2) (dM xX) (Nt K):=ag (aA (lv H) (sE H (lv H))) (ag (aA (lv H) (sE H (lv H))) (ag (aA (lv H) (sE H (lv H))) ah))
def ye:=eM MB 12
def NI:=fP 75 ye
def NJ(K:KT):XS:=ct (dG (dR (cZ (cB cU (m1 (cP 0) (bY 75 1)) (ret (.str s3)))) (m1 (gO 959 tw) (cB iM (m1 (gO 1002 s3) (bY 75 0)) (m1 (cP 1) (bY 75 1)))) (ret (.fB [])))) cJ
theorem Zb:DS c NI (m+2) (dM ye) (NJ K):=ag (aw (aU (aG (ai (lv H)) av) (aE H (DE.jy (aE H (lv H)) (ai (lv H)))) (aK H.Fa))) ah
def yf:=eM MB 14
def NK:=fP 76 yf
def NL(K:KT):XS:=ct (dc (dq (bZ (ky K 1002 992 zm (bY 76 0) (bZ (m1 (gO 108 s4) (bY 76 1)) cm)) (bZ (gw cm) cm))) (rr 2 (fL (c_ 76 3) (fL (c_ 76 2) jt)))) (ct (dR (cZ (cB cU (m1 (cP 0) (bY 76 2)) (ret (.str wV)))) (ct (pj (mZ Fd (bZ (m1 (cP 1) (bY 76 2)) cm)) (lj 2 (fL (c_ 76 4) (fL (c_ 76 5) jt))) (ct (dR (cZ (m1 (cP 2) (bY 76 5))) (ct (dc (cB cU (m1 (cP 0) (m1 (cP 1) (bY 76 5))) (ret (.str wa))) (c_ 76 6)) (ct (dc (cB (eW .Add) (m1 (gO 108 FU) (bY 76 1)) (dq (bZ (dq (bZ (bY 76 4) (bZ (bY 76 6) cm))) cm))) (c_ 76 7)) (ct (sY (t_ (bY 76 3) (dD K 108 (bZ qv (bZ (bY 76 7) (bZ (m1 (gO 108 FT) (bY 76 1)) cm)))))) cJ))) cJ) cJ)) cJ) cJ) (ct (dG (bY 76 3)) cJ))
theorem Zc:DS c NK (m+2) (dM yf) (NL K):=ag (D1.ud (names:=[("base":Str),("found":Str)]) (aj (ae (mE H di (lv H) (ae (aE H (lv H)) af)) (ae (au af) af))) (by kernel_rfl) (nh H (nh H eZ.ui)) rfl) (ag (ay (aG (ai (lv H)) av) (ag (D1.for (sb H (ae (ai (lv H)) af) IN.enum) (aP (aM (lw H) (aM (lw H) aN)) rfl (fun Z=>⟨rfl,rfl⟩)) (ag (ay (aD (ai (lv H))) (ag (az (aH (ai (ai (lv H))) av) (lw H)) (ag (az (ao (aE H (lv H)) (aj (ae (aj (ae (lv H) (ae (lv H) af))) af))) (lw H)) (ag (D1.exp (aI (lv H) (cg H di (ae DE.bad (ae (lv H) (ae (aE H (lv H)) af)))))) ah))) ah) ah) (fun Z Z=>rfl)) ah) ah) (ag (aw (lv H)) ah))
def yq:=eM MB 16
def N7:=fP 77 yq
def N8(K:KT):XS:=ct (dR (cZ (cB cU (m1 (cP 0) (bY 77 1)) (ret (.str wa)))) (ct (dc (m1 (cP 1) (bY 77 1)) (c_ 77 2)) (ct (dG (dR (cZ (cB jz (m1 (cP 0) (ky K 1002 992 zm (bY 77 0) (bZ (bY 77 2) cm))) (dq (bZ (ret (.str wa)) (bZ (ret (.str s8)) cm))))) (ret .none) (dq (bZ (bY 77 2) (bZ (ret (.bool false)) cm))))) cJ)) cJ) (ct (dc (dR (cZ (cB cU (m1 (cP 0) (bY 77 1)) (ret (.str s3)))) (ky K 1002 992 zm (bY 77 0) (bZ (bY 77 1) cm)) (bY 77 1)) (c_ 77 3)) (ct (dR (gP (cZ (cB cU (m1 (cP 0) (bY 77 1)) (ret (.str s3)))) (gP (cZ (cB cU (m1 (cP 0) (bY 77 3)) (ret (.str wa)))) (fun Z σ=>ok true σ))) (ct (dG (dq (bZ (m1 (cP 1) (bY 77 3)) (bZ (ret (.bool true)) cm)))) cJ) cJ) (ct (dG (dq (bZ (bY 77 1) (bZ (ret (.bool false)) cm)))) cJ)))
theorem ZE:DS c N7 (m+2) (dM yq) (N8 K):=ag (ay (aG (ai (lv H)) av) (ag (az (ai (lv H)) (lw H)) (ag (aw (aU (DT.jz (ai (mE H di (lv H) (ae (lv H) af))) (aj (ae av (ae av af)))) aJ (aj (ae (lv H) (ae ar af))))) ah)) ah) (ag (az (aU (aG (ai (lv H)) av) (mE H di (lv H) (ae (lv H) af)) (lv H)) (lw H)) (ag (ay (aC (aG (ai (lv H)) av) (aC (aG (ai (lv H)) av) DT.lN)) (ag (aw (aj (ae (ai (lv H)) (ae ar af)))) ah) ah) (ag (aw (aj (ae (lv H) (ae ar af)))) ah)))
def xM:=eM (dM (eM MB 114)) 1
def M8:=fP 78 xM
def M9(K:KT):XS:=ct (AO (cZ (cB cU (m1 (cP 0) (bY 78 1)) (ret (.str s3)))) (ct (dR (cZ (cB mx (m1 (cP 1) (bY 78 1)) (m1 (gO 1002 s3) (bY 78 0)))) (ct FV cJ) cJ) (ct (dc (cB iM (m1 (gO 1002 s3) (bY 78 0)) (m1 (cP 1) (bY 78 1))) (c_ 78 2)) (ct (dR (cZ (m1 jc (m1 (gO 959 r9) (bY 78 2)))) (ct (dR (cZ (m1 jc (m1 (gO 1002 Ck) (bY 78 0)))) (ct FV cJ) cJ) (ct FV cJ)) cJ) (ct (dc (m1 (gO 959 r9) (bY 78 2)) (c_ 78 1)) cJ)))) 9) (ct (dG (bY 78 1)) cJ)
theorem Yz:DS c M8 (m+2) (dM xM) (M9 K):=ag (D1.Tc 9 (aG (ai (lv H)) av) (ag (ay (DT.mx (ai (lv H)) (aE H (lv H))) (ag D1.bad ah) ah) (ag (az (DE.jy (aE H (lv H)) (ai (lv H))) (lw H)) (ag (ay (DT.jc (aE H (lv H))) (ag (ay (DT.jc (aE H (lv H))) (ag D1.bad ah) ah) (ag D1.bad ah)) ah) (ag (az (aE H (lv H)) (lw H)) ah))))) (ag (aw (lv H)) ah)
def qh:=eM MB 116
def OP:=fP 79 qh
def yL(K:KT):XS:=ct (dc (dR (cZ (cB (n9 .Gt) (m1 iC (bY 79 0)) (ret (.int (.ofNat 0))))) (m1 (cP 0) (bY 79 0)) (ret (.int (.ofNat 0)))) (c_ 79 1)) (ct (dc (mN Fi (bZ (bY 79 1) (bZ (cB (eW .Sub) (ret (.int (.negSucc 0))) (bY 79 1)) cm))) (c_ 79 2)) (ct (dG (Bo (bZ (dR (cZ (cB (n9 .GtE) (bY 79 2) (cB (eW .Pow) (ret (.int (.ofNat 10))) (ret (.int (.ofNat 18)))))) (bY 79 2) (ret (.int (.ofNat 0)))) (bZ (cB (eW .Mod) (cB (eW .Mult) (cB (eW .Add) (cB (eW .Mod) (bY 79 2) (ret (.int (.ofNat 2147483629)))) (ret (.int (.ofNat 17)))) (ret (.int (.ofNat 48271)))) (ret (.int (.ofNat 2147483647)))) cm)))) cJ))
theorem aam:DS c OP (m+2) (dM qh) (yL K):=ag (az (aU (DT.cmp (bu H (lv H) C1.len) ak) (ai (lv H)) ak) (lw H)) (ag (az (Cm H (ae (lv H) (ae (ao DE.neg (lv H)) af)) CN.max2) (lw H)) (ag (aw (DE.new (ae (aU (DT.cmp (lv H) (ao ak ak)) (lv H) ak) (ae (ao (ao (ao (ao (lv H) ak) ak) ak) ak) af)))) ah))
def qg:=eM MB 117
def Oy:=fP 80 qg
def vh(K:KT):XS:=ct (dR (cZ (cB (n9 .Gt) (m1 (cP 0) (bY 80 0)) (ret (.int (.ofNat 0))))) (ct (dc (cB (eW .Mod) (m1 (cP 0) (bY 80 0)) (bY 80 1)) (c_ 80 2)) (ct (dc (cB (eW .FloorDiv) (m1 (cP 0) (bY 80 0)) (bY 80 1)) (qp (bY 80 0) (ret (.int (.ofNat 0))))) (ct (dG (bY 80 2)) cJ))) cJ) (ct (dc (cB (eW .Mod) (cB (eW .Add) (cB (eW .Mult) (m1 (cP 1) (bY 80 0)) (ret (.int (.ofNat 39373)))) (ret (.int (.ofNat 7)))) (ret (.int (.ofNat 2147483647)))) (qp (bY 80 0) (ret (.int (.ofNat 1))))) (ct (dG (cB (eW .Mod) (cB (eW .FloorDiv) (cB (eW .Mod) (cB (eW .Mult) (m1 (cP 1) (bY 80 0)) (m1 (cP 1) (bY 80 0))) (ret (.int (.ofNat 2147483629)))) (ret (.int (.ofNat 32)))) (bY 80 1))) cJ))
theorem Z4:DS c Oy (m+2) (dM qg) (vh K):=ag (ay (DT.cmp (ai (lv H)) ak) (ag (az (ao (ai (lv H)) (lv H)) (lw H)) (ag (aB (ao (ai (lv H)) (lv H)) (DA.itemF (lv H) ak)) (ag (aw (lv H)) ah))) ah) (ag (aB (ao (ao (ao (ai (lv H)) ak) ak) ak) (DA.itemF (lv H) ak)) (ag (aw (ao (ao (ao (ao (ai (lv H)) (ai (lv H))) ak) ak) (lv H))) ah))
end
inductive Tr where
 |leaf
 |node (l:Tr) (a:Nat) (v:List J→List MO→Out J) (r:Tr)
noncomputable def Bk:Tr→Nat→Option (List J→List MO→Out J)
 |.leaf,_=>none
 |.node l a v r,x=>match Nat.blt x a with
  |true=>Bk l x
  |false=>match Nat.beq x a with
   |true=>some v
   |false=>Bk r x
noncomputable def sS(P:Nat→(List J→List MO→Out J)→Prop):Tr→Prop
 |.leaf=>True
 |.node l a v r=>sS P l∧P a v∧sS P r
theorem fk{P:Nat→(List J→List MO→Out J)→Prop}:sS P .leaf:=trivial
theorem fq{P:Nat→(List J→List MO→Out J)→Prop}{l r:Tr}{a:Nat}{v:List J→List MO→Out J}(h1:sS P l)(h2:P a v)(h3:sS P r):sS P (.node l a v r):=⟨h1,h2,h3⟩
theorem H3{P:Nat→(List J→List MO→Out J)→Prop}{x:Nat}{v:List J→List MO→Out J}:∀{t:Tr},sS P t→Bk t x=some v→P x v
 |.leaf,_,h=>by cases h
 |.node l a w r,⟨h1,h2,h3⟩,h=>by
  unfold Bk at h
  split at h
  ·exact H3 h1 h
  ·split at h
   ·rename_i he
    cases h
    rw[Nat.eq_of_beq_eq_true he];exact h2
   ·exact H3 h3 h
def stepT(t:Tr):KT:=fun fv args σ=>match fv with
 |.dC a=>match Bk t a with
  |some h=>h args σ
  |none=>none
 |_=>none
noncomputable def BC:List (Nat×List J)→Nat→Option (List J)
 |[],_=>none
 |p::l,m=>match Nat.beq p.1 m with
  |true=>some p.2
  |false=>BC l m
theorem abS{l:List (Nat×List J)}{m:Nat}{d:List J}(h:BC l m=some d):(m,d)∈l:=by
 induction l with
 |nil=>cases h
 |cons p l ih=>
  unfold BC at h
  split at h
  ·rename_i he
   cases h
   rw[←Nat.eq_of_beq_eq_true he]
   exact bo
  ·exact bk _ (ih h)
def eE(k w nc:Nat)(ps:List (Bool×Nat))(ds:List (Nat×List J))(x:XS)(args:List J)(σ:List MO):Out J:=match BC ds args.length with
 |some dfl=>Jx k w nc ps dfl x args σ
 |none=>none
def TF(k w nc:Nat)(ps:List (Bool×Nat))(ds:List (Nat×List J))(x:XS)(args:List J)(σ:List MO):Out J:=forget σ.length (eE k w nc ps ds x args σ)
def pd(st:Option Stmt):List Str:=(Ff st).args.map (·.arg)
structure Fn(c:Cx)(a:Addr)(st:Option Stmt)(code:Option Addr)(ds:List (Nat×List J)):Prop where
 ex:∃fd,uD c a fd (dM st)∧fd.scope=j2 st∧(∀cc,code=some cc→fd.code=.ref cc∧fd.qualname++".<locals>."++"<lambda>"=c.lT cc)∧
  ∀m dfl,(m,dfl)∈ds→∃dV,oM c fd m (pd st) dV∧(pd st).length=m+dV.length∧dh c.bare [] c.h0 dfl dV
noncomputable def bindB(dE cn:List Str)(sc:Scope):List Str→List (Bool×Nat)→Bool
 |[],[]=>true
 |x::ns,(false,i)::ps=>r_ dE i x&&decide (sc.names.lookup x=some .local)&&bindB dE cn sc ns ps
 |x::ns,(true,j)::ps=>(match d7 cn j with|some y=>decide (y=x)|none=>false)&&decide (sc.names.lookup x=some .cell)&&bindB dE cn sc ns ps
 |_,_=>false
theorem Ej{c:Cx}{g:FC}:∀{ns:List Str} {ps:List (Bool×Nat)},bindB (c.dE g.k) g.cn g.scope ns ps=true→Binds c g ns ps
 |[],[],_=>.nil
 |[],_::_,h=>by cases h
 |_::_,[],h=>by cases h
 |x::ns,(false,i)::ps,h=>by
  unfold bindB at h
  rw[Bool.and_eq_true,Bool.and_eq_true,decide_eq_true_eq]at h
  exact .loc (ub h.1.1).1 (ub h.1.1).2 h.1.2 (Ej h.2)
 |x::ns,(true,j)::ps,h=>by
  unfold bindB at h
  rw[Bool.and_eq_true,Bool.and_eq_true,decide_eq_true_eq]at h
  refine .fg ?_ h.1.2 (Ej h.2)
  have h1:=h.1.1
  split at h1
  ·rename_i y hy
   rw[decide_eq_true_eq]at h1
   rw[←il,hy,h1]
  ·cases h1
def fp(dE:List Str)(g:FC)(st:Option Stmt)(w nc:Nat)(ps:List (Bool×Nat))(ds:List (Nat×List J)):Bool:=
 decide (g.cn=jE g.scope.names)&&wX g.cn&&Nat.beq g.cn.length nc&&Nat.beq dE.length w&&bindB dE g.cn g.scope (pd st) ps&&ds.all fun d=>J.stats d.2
section
variable{c:Cx}{A:Around}{ρ:List Addr}{σ:List MO}{s:Shared}{m:Nat}{a:Addr}{st:Option Stmt}{code:Option Addr}{ds:List (Nat×List J)}
structure gk(c:Cx)(m:Nat)(a:Nat)(v:List J→List MO→Out J):Prop where
 run:∀A ρ σ s args Vs,g0 A (m+3)→Frs c A s.heap→SR c ρ σ s→dh c ρ s.heap args Vs→Den c A (cI c) ρ s (call (.ref a) Vs) (v args σ)
theorem Fn.leaf(F:Fn c a st code ds)(H:Ctx c){k w nc:Nat}{cn:List Str}{ps:List (Bool×Nat)}{x:XS}(hB:fp (c.dE k) ⟨k,j2 st,cn,code⟩ st w nc ps ds=true)(hb:DS c ⟨k,j2 st,cn,code⟩ (m+2) (dM st) x):
  gk c m a (eE k w nc ps ds x):=by
 refine⟨fun A ρ σ s args Vs hr hf sr ra=>?_⟩
 unfold eE
 cases hd:BC ds args.length with
 |none=>exact Den.none
 |some dfl=>
  obtain⟨fd,hF,m9,hcode,Lx⟩:=F.ex
  have hm:=abS hd
  obtain⟨dV,h1,h2,h3⟩:=Lx _ _ hm
  unfold fp at hB
  rw[Bool.and_eq_true,Bool.and_eq_true,Bool.and_eq_true,Bool.and_eq_true,Bool.and_eq_true,decide_eq_true_eq]at hB
  obtain⟨⟨⟨⟨⟨b1,b2⟩,b3⟩,b4⟩,b5⟩,b6⟩:=hB
  have Ly:cn=jE fd.scope.names:=by rw[m9];exact b1
  exact acG (g:=⟨k,j2 st,cn,code⟩) hF H.Fa.nolimit m9.symm hcode Ly (by rw[←Ly];exact yN b2) (by rw[←Ly];exact aY b3) (aY b4) hb h1 h2 (Ej b5)
   (bh b6 _ hm) h3 hr hf sr ra rfl
theorem gk.forget{v:List J→List MO→Out J}(h:gk c m a v):gk c m a (fun args σ=>Mine.forget σ.length (v args σ)):=⟨fun A ρ σ s args Vs hr hf sr ra=>(h.run A ρ σ s args Vs hr hf sr ra).forget _ (Nat.le_of_eq sr.len)⟩
theorem gk.frame(k:Nat){v:List J→List MO→Out J}(h:∀φ,gk (c.hide φ) m a v):gk c m a (gC k v):=⟨fun A ρ σ s args Vs hr hf sr ra=>
 Den.gC k sr (fun hb hm=>(h (ρ.drop k++c.d9)).run A (ρ.take k) (σ.take k) s args Vs hr ⟨hf.ex⟩ (sr.hidden k hm) (ra.sub (aay k) (fun Z hi=>bc hi) hb)) ((h c.d9).run A ρ σ s args Vs hr hf sr ra)⟩
theorem Fn.afq(F:Fn c a st code ds)(H:Ctx c){k w nc:Nat}{cn:List Str}{ps:List (Bool×Nat)}{x:XS}(hB:fp (c.dE k) ⟨k,j2 st,cn,code⟩ st w nc ps ds=true)(hb:DS c ⟨k,j2 st,cn,code⟩ (m+2) (dM st) x):
 gk c m a (TF k w nc ps ds x):=(F.leaf H hB hb).forget
theorem zd{C fI:Addr}{ci:CI}{K:KT}(H:Ctx c)(hc:TB.cls C=some ci)(hi:ci.rC "__init__"=some fI)(hK:j1 c m K):gk c m C (runC C fI K):=⟨fun A ρ σ s args Vs hr hf sr ra=>
 call_cls (n:=m) (H.T.cls C ci hc) hi hK (hr.mono (by omega)) hf sr ra⟩
theorem abT{t:Tr}(h:sS (gk c m) t):j1 c (m+3) (stepT t):=by
 intro A ρ σ s fv args F Vs hr hf sr rf ra
 unfold stepT
 split
 ·rename_i a
  cases rf
  split
  ·rename_i v hv
   exact(H3 h hv).run A ρ σ s args Vs hr hf sr ra
  ·exact Den.none
 ·exact Den.none
theorem abU:j1 c m (fun Z Z Z=>none):=fun Z Z Z Z Z Z Z Z Z Z Z Z Z=>Den.none
end
def tR{α:Type}(σ:List MO)(i:Nat)(k:List (Nat×Nat)→Option α):Option α:=ej (d7 σ i) fun m=>@MO.casesOn (fun Z=>Option α) m (fun Z=>none) (fun Z=>none) (fun Z Z=>none) (fun Z=>none) (fun Z Z=>none) (fun Z=>none) (fun Z Z=>none) none none none k none
theorem acT{α:Type}{σ:List MO}{i:Nat}{k:List (Nat×Nat)→Option α}{r:α}(h:tR σ i k=some r):∃ds,d7 σ i=some (.iI ds)∧k ds=some r:=
 (eP h).elim fun m y=>@MO.casesOn (fun m=>d7 σ i=some m→@MO.casesOn (fun Z=>Option α) m (fun Z=>none) (fun Z=>none) (fun Z Z=>none) (fun Z=>none) (fun Z Z=>none) (fun Z=>none) (fun Z Z=>none) none none none k none=some r→∃ds,d7 σ i=some (.iI ds)∧k ds=some r) m (fun Z Z h=>cw h) (fun Z Z h=>cw h) (fun Z Z Z h=>cw h) (fun Z Z h=>cw h) (fun Z Z Z h=>cw h) (fun Z Z h=>cw h) (fun Z Z Z h=>cw h) (fun Z h=>cw h) (fun Z h=>cw h) (fun Z h=>cw h) (fun ds q h=>⟨ds,q,h⟩) (fun Z h=>cw h) y.1 y.2
noncomputable def lC{α β:Type}(l:List β)(k:β→List β→Option α):Option α:=@List.casesOn β (fun Z=>Option α) l none k
theorem yW{α β:Type}{l:List β}{k:β→List β→Option α}{r:α}:lC l k=some r→∃x l',l=x::l'∧k x l'=some r:=@List.casesOn β (fun l=>lC l k=some r→∃x l',l=x::l'∧k x l'=some r) l (fun h=>cw h) fun x l h=>⟨x,l,rfl,h⟩
def IS(args:List J)(σ:List MO):Out J:=l2 args fun u v=>vR u fun i=>vI v fun z=>iN z fun m=>tR σ i fun ds=>lC ds fun p ds=>gd (band (Nat.beq m p.1) (σ.all (fF σ.length))) (some (.ok (.int (.ofNat p.2)),put σ i (.iI ds)))
theorem aou{α:Type}(x:α)(l:List α):d7 (x::l) 0=some x:=rfl
theorem aov{α:Type}(x:α)(l:List α)(i:Nat):d7 (x::l) (i+1)=d7 l i:=rfl
theorem aow{α:Type}(x v:α)(l:List α):put (x::l) 0 v=v::l:=rfl
theorem aox{α:Type}(x v:α)(l:List α)(i:Nat):put (x::l) (i+1) v=x::put l i v:=rfl
theorem Q1{α:Type}:∀(l:List α) (x:α),d7 (l++[x]) l.length=some x
 |[],_=>rfl
 |_::l,x=>Q1 l x
theorem Ex{α:Type}:∀(l:List α) (x y:α),put (l++[x]) l.length y=l++[y]
 |[],_,_=>rfl
 |z::l,x,y=>by show z::put (l++[x]) l.length y=_;rw[Ex l x y];rfl
theorem Q2{α:Type}:∀(l m:List α) (i:Nat) {v:α},d7 l i=some v→d7 (l++m) i=some v
 |[],_,_,_,h=>by cases h
 |_::_,_,0,_,h=>h
 |_::l,m,i+1,_,h=>Q2 l m i h
theorem Qi{α:Type}:∀(l m:List α) (i:Nat) {v:α} (w:α),d7 l i=some v→put (l++m) i w=put l i w++m
 |[],_,_,_,_,h=>by cases h
 |_::_,_,0,_,_,h=>rfl
 |x::l,m,i+1,_,w,h=>by show x::put (l++m) i w=_;rw[Qi l m i w h];rfl
theorem vq{α:Type}:∀(l:List α) (i:Nat) {v:α} (w:α),d7 l i=some v→d7 (put l i w) i=some w
 |[],_,_,_,h=>by cases h
 |_::_,0,_,_,h=>rfl
 |x::l,i+1,_,w,h=>vq l i w h
theorem Ey{α:Type}:∀(l:List α) (i:Nat) (w:α),(put l i w).length=l.length
 |[],_,_=>rfl
 |_::_,0,_=>rfl
 |x::l,i+1,w=>by show(put l i w).length+1=_;rw[Ey l i w];rfl
theorem HV{α:Type}{l:List α}{i j:Nat}{w x:α}(h:i≠j)(e:d7 l j=some x):d7 (put l i w) j=some x:=(il _ _).trans ((congrArg (·[j]?) (lO l i w)).trans ((List.getElem?_set_ne h).trans ((il _ _).symm.trans e)))
theorem Qj{α:Type}:∀{l:List α} {i:Nat} {x:α},d7 l i=some x→put l i x=l
 |[],_,_,h=>cw h
 |_::_,0,_,h=>aV h▸rfl
 |y::_,_+1,_,h=>congrArg (y::·) (Qj h)
theorem IA{α:Type}:∀(l:List α) (i:Nat) (v w:α),put (put l i v) i w=put l i w
 |[],_,_,_=>rfl
 |_::_,0,_,_=>rfl
 |x::l,i+1,v,w=>congrArg (x::·) (IA l i v w)
theorem Qk{α:Type}{p:α→Bool}(l:List α)(i:Nat)(w:α)(h:l.all p=true)(hw:p w=true):(put l i w).all p=true:=
 List.all_eq_true.mpr fun Z hx=>(List.mem_or_eq_of_mem_set (lO l i w▸hx)).elim (bh h _) fun e=>e.symm▸hw
theorem oK{β γ:Type}{x:Out β}{k:β→List MO→Out γ}{b:β}{σ₁:List MO}{r:Out γ}(h:x=some (.ok b,σ₁))(h2:k b σ₁=r):dk x k=r:=(congrArg (dk · k) h).trans h2
theorem vk{x y:XS}{f:Fr}{σ σ1:List MO}{r:Out MF}(h:x f σ=some (.ok .next,σ1))(h2:y f σ1=r):ct x y f σ=r:=(congrArg (dk · _) h).trans h2
theorem AK{x y:XS}{f:Fr}{σ σ1:List MO}{v:J}(h:x f σ=some (.ok (.ret v),σ1)):ct x y f σ=some (.ok (.ret v),σ1):=congrArg (dk · _) h
theorem lh{α:Type}{b:Bool}{x:Option α}(h:b=true):gd b x=x:=congrArg (gd · x) h
theorem vK{α:Type}{σ:List MO}{i:Nat}{l:List J}{k:List J→Option α}(h:d7 σ i=some (.lst l)):tL σ i k=k l:=congrArg (Mine.ej · _) h
theorem Jc{α:Type}{σ:List MO}{i k':Nat}{l:List (Option J)}{k:Nat→List (Option J)→Option α}(h:d7 σ i=some (.fr k' l)):tF σ i k=k k' l:=congrArg (Mine.ej · _) h
theorem rm{k i:Nat}{f:Fr}{σ:List MO}{l:List (Option J)}{v:J}(h:d7 σ f.fr=some (.fr k l))(h2:d7 l i=some (some v)):bY k i f σ=some (.ok v,σ):=(Jc h).trans ((lh (Nat.beq_refl k)).trans (congrArg (Mine.ej · _) h2))
theorem IT{k i:Nat}{f:Fr}{σ:List MO}{l:List (Option J)}{v:J}(h:d7 σ f.fr=some (.fr k l))(h2:Nat.blt i l.length=true):c_ k i f v σ=some (.ok (),put σ f.fr (.fr k (put l i (some v)))):=(Jc h).trans ((lh (Nat.beq_refl k)).trans (lh h2))
noncomputable def rG(b:Int):Int:=(b*39373+7).fmod 2147483647
theorem abV(b:Int):ux (rG b)=true:=by
 have q1:=Int.fmod_nonneg_of_pos (b*39373+7) (b:=2147483647) (by decide)
 have q2:=Int.fmod_lt_of_pos (b*39373+7) (b:=2147483647) (by decide)
 exact Bool.and_eq_true_iff.mpr ⟨decide_eq_true (Int.lt_of_lt_of_le (by decide) q1),decide_eq_true (Int.lt_trans q2 (by decide))⟩
theorem aaO{K:KT}{S:List MO}{n i:Nat}{a b m:Int}{v2:Option J}(hf:d7 S n=some (.fr 80 [some (.loc i),some (.int m),v2]))(hi:d7 S i=some (.lst [.int a,.int b]))(wM:n≠i)(h0:decide (0<m)=true)(hm:decide (m<1073741824)=true):
  ∃v,vh K ⟨n,[]⟩ S=some (.ok (.ret (.int (j5 a b m).1)),put (put S n (.fr 80 [some (.loc i),some (.int m),v])) i (.lst [.int (j5 a b m).2.1,.int (j5 a b m).2.2])):=by
 have E0:m1 (cP 0) (bY 80 0) ⟨n,[]⟩ S=some (.ok (.int a),S):=oK (rm hf rfl) (vK hi)
 have h2:(decide (0<m)&&decide (m<1073741824))=true:=Bool.and_eq_true_iff.mpr ⟨h0,hm⟩
 have Wi:∀q,decide (a>0)=q→cZ (cB (n9 .Gt) (m1 (cP 0) (bY 80 0)) (ret (.int (.ofNat 0)))) ⟨n,[]⟩ S=some (.ok q,S):=fun q hq=>oK (oK E0 (oK rfl (congrArg (fun q=>some (Res.ok (J.bool q),S)) hq))) rfl
 unfold vh
 cases hq:decide (a>0)with
 |true=>
  have hw:j5 a b m=(a.fmod m,a.fdiv m,b):=by unfold j5;rw[hq]
  rw[hw]
  have wY:=vq S n (.fr 80 [some (.loc i),some (.int m),some (.int (a.fmod m))]) hf
  have rZ:=HV (w:=.fr 80 [some (.loc i),some (.int m),some (.int (a.fmod m))]) wM hi
  have hf2:=HV (w:=.lst [.int (a.fdiv m),.int b]) (Ne.symm wM) wY
  have s1:dc (cB (eW .Mod) (m1 (cP 0) (bY 80 0)) (bY 80 1)) (c_ 80 2) ⟨n,[]⟩ S=_:=oK (oK E0 (oK (rm hf rfl) (lh h0))) (oK (IT hf rfl) rfl)
  have s2:dc (cB (eW .FloorDiv) (m1 (cP 0) (bY 80 0)) (bY 80 1)) (qp (bY 80 0) (ret (.int (.ofNat 0)))) ⟨n,[]⟩ (put S n (.fr 80 [some (.loc i),some (.int m),some (.int (a.fmod m))]))=_:=oK (oK (oK (rm wY rfl) (vK rZ)) (oK (rm wY rfl) (lh h2))) (oK (oK (rm wY rfl) (oK rfl (vK rZ))) rfl)
  exact⟨_,AK (oK (Wi _ hq) (vk s1 (vk s2 (AK (oK (rm hf2 rfl) rfl)))))⟩
 |false=>
  have hw:j5 a b m=(((rG b*rG b).fmod 2147483629).fdiv 32|>.fmod m,a,rG b):=by unfold j5;rw[hq];rfl
  rw[hw]
  have rZ:=vq S i (.lst [.int a,.int (rG b)]) hi
  have wY:=HV (w:=.lst [.int a,.int (rG b)]) (Ne.symm wM) hf
  have E1:m1 (cP 1) (bY 80 0) ⟨n,[]⟩ S=some (.ok (.int b),S):=oK (rm hf rfl) (vK hi)
  have E2:m1 (cP 1) (bY 80 0) ⟨n,[]⟩ (put S i (.lst [.int a,.int (rG b)]))=some (.ok (.int (rG b)),_):=oK (rm wY rfl) (vK rZ)
  have hs:=abV b
  have s1:dc (cB (eW .Mod) (cB (eW .Add) (cB (eW .Mult) (m1 (cP 1) (bY 80 0)) (ret (.int (.ofNat 39373)))) (ret (.int (.ofNat 7)))) (ret (.int (.ofNat 2147483647)))) (qp (bY 80 0) (ret (.int (.ofNat 1)))) ⟨n,[]⟩ S=some (.ok .next,put S i (.lst [.int a,.int (rG b)])):=
   oK (oK (oK (oK E1 (oK rfl (lh (Bool.or_true _)))) (oK rfl rfl)) (oK rfl rfl)) (oK (oK (rm hf rfl) (oK rfl (vK hi))) rfl)
  have s2:dG (cB (eW .Mod) (cB (eW .FloorDiv) (cB (eW .Mod) (cB (eW .Mult) (m1 (cP 1) (bY 80 0)) (m1 (cP 1) (bY 80 0))) (ret (.int (.ofNat 2147483629)))) (ret (.int (.ofNat 32)))) (bY 80 1)) ⟨n,[]⟩ (put S i (.lst [.int a,.int (rG b)]))=_:=
   oK (oK (oK (oK (oK E2 (oK E2 (lh (Bool.or_eq_true_iff.mpr (.inl hs))))) (oK rfl rfl)) (oK rfl rfl)) (oK (rm wY rfl) (lh h0))) rfl
  exact⟨v2,(Qj hf).symm▸vk (oK (Wi _ hq) rfl) (vk s1 (AK s2))⟩
theorem aaP{K:KT}{σ:List MO}{i:Nat}{a b m:Int}(hi:d7 σ i=some (.lst [.int a,.int b]))(h0:0<m)(hm:m<1073741824):
  ∃y,eE 80 3 0 [(false,0),(false,1)] [(2,[])] (vh K) [.loc i,.int m] σ=some (.ok (.int (j5 a b m).1),put σ i (.lst [.int (j5 a b m).2.1,.int (j5 a b m).2.2])++[y]):=by
 have gD:i≠σ.length:=bx (aZ ((il _ _).symm.trans hi)).1
 have hn:∀x:MO,d7 (σ++[x]) σ.length=some x:=Q1 σ
 have hb:rp 80 [(false,0),(false,1)] [.loc i,.int m] ⟨σ.length,[]⟩ (σ++[.fr 80 [none,none,none]])=some (.ok (),σ++[.fr 80 [some (.loc i),some (.int m),none]]):=by
  have h1:c_ 80 0 ⟨σ.length,[]⟩ (.loc i) (σ++[.fr 80 [none,none,none]])=some (.ok (),σ++[.fr 80 [some (.loc i),none,none]]):=(IT (hn _) rfl).trans (by rw[Ex];rfl)
  have h2:c_ 80 1 ⟨σ.length,[]⟩ (.int m) (σ++[.fr 80 [some (.loc i),none,none]])=some (.ok (),σ++[.fr 80 [some (.loc i),some (.int m),none]]):=(IT (hn _) rfl).trans (by rw[Ex];rfl)
  exact oK h1 (oK h2 rfl)
 refine(aaO (K:=K) (v2:=none) (hn _) (Q2 σ [_] i hi) (Ne.symm gD) (decide_eq_true h0) (decide_eq_true hm)).elim fun v e=>⟨.fr 80 [some (.loc i),some (.int m),v],?_⟩
 rw[Ex,Qi σ _ i _ hi]at e
 show dk (rp 80 [(false,0),(false,1)] [.loc i,.int m] ⟨len σ,[]⟩ (app (app σ [.fr 80 [none,none,none]]) [])) (fun Z σ₁=>dk (vh K ⟨len σ,[]⟩ σ₁) rq)=_
 rw[len_eq,nD,nD,List.append_nil]
 exact oK hb (oK e rfl)
theorem aoy(m:Nat)(σ:List MO)(r:Int):fz m σ (.int r)=some (.int r):=rfl
theorem abW{K:KT}{σ:List MO}{i:Nat}{a b m:Int}(hi:d7 σ i=some (.lst [.int a,.int b]))(h0:0<m)(hm:m<1073741824)(rF:σ.all (fF σ.length)=true):
  TF 80 3 0 [(false,0),(false,1)] [(2,[])] (vh K) [.loc i,.int m] σ=some (.ok (.int (j5 a b m).1),put σ i (.lst [.int (j5 a b m).2.1,.int (j5 a b m).2.2])):=by
 refine(aaP (K:=K) hi h0 hm).elim fun y e=>?_
 have ht:(put σ i (.lst [.int (j5 a b m).2.1,.int (j5 a b m).2.2])++[y]).take σ.length=put σ i (.lst [.int (j5 a b m).2.1,.int (j5 a b m).2.2]):=Ey σ i (.lst [.int (j5 a b m).2.1,.int (j5 a b m).2.2])▸List.take_left
 refine(congrArg (forget σ.length) e).trans ((lh ((t9 _ _).trans (ht.symm▸Qk σ i _ rF rfl))).trans ?_)
 exact congrArg (fun z=>some (Res.ok (J.int (j5 a b m).1),z)) ((oL _ _).trans ht)
theorem SR.EV{c:Cx}{ρ:List Addr}{σ:List MO}{s:Shared}(sr:SR c ρ σ s){i:Nat}{mo mo':MO}(hi:d7 σ i=some mo)(hm:∀a,ρ[i]? =some a→eQ c ρ s.heap a mo'):SR c ρ (put σ i mo') s:=
 ⟨sr.gens,sr.os,sr.len.trans (Ey σ i mo').symm,sr.nodup,sr.fresh,sr.old,sr.d9,fun j a x e1 e2=>(Nat.decEq j i).byCases
  (fun hj=>aV (((il _ _).symm.trans (vq σ i mo' hi)).symm.trans ((congrArg ((put σ i mo')[·]?) hj).symm.trans e2))▸hm a (hj▸e1))
  fun hj=>sr.obj j a x e1 ((List.getElem?_set_ne (Ne.symm hj)).symm.trans (lO σ i mo'▸e2))⟩
theorem aan{args:List J}{σ cG:List MO}{r:Res J}(h:IS args σ=some (r,cG)):∃i k q ds,args=[.loc i,.int (.ofNat k)]∧d7 σ i=some (.iI ((k,q)::ds))∧σ.all (fF σ.length)=true∧r=.ok (.int (.ofNat q))∧cG=put σ i (.iI ds):=
 (Ik h).elim fun u y=>y.elim fun v y=>(Eo y.2).elim fun i w=>(t8 w.2).elim fun z x=>(QR x.2).elim fun k x2=>(acT x2.2).elim fun ds x3=>(yW x3.2).elim fun p x4=>x4.elim fun tx x4=>
  let g:=gK x4.2
  let b:=ew g.1
  ⟨i,k,p.2,tx,y.1.trans (w.1▸x.1▸x2.1▸rfl),x3.1.trans (x4.1▸aY b.1▸rfl),b.2,iA g.2⟩
theorem abn{c:Cx}(H:Ctx c){m:Nat}{code:Option Addr}(F:Fn c 1020 qg code [(2,[])])(hB:fp (c.dE 80) ⟨80,j2 qg,[],code⟩ qg 3 0 [(false,0),(false,1)] [(2,[])]=true){K:KT}
  (hb:DS c ⟨80,j2 qg,[],code⟩ (m+2) (dM qg) (vh K)):gk c m 1020 IS:=⟨fun A ρ σ s args Vs hr hf sr ra=>by
 refine⟨fun r cG hx Q E P=>?_⟩
 refine zz fun GG KK=>?_
 obtain⟨i,k,q,tx,he,hi,rF,nN,iD⟩:=aan hx
 obtain⟨a,ha,x,y,Wj,n',e,rv,z0,z1,z2,z3⟩:=sr.at ((il _ _).symm.trans hi)
 have cY:=sr.EV (mo':=.lst [.int x,.int y]) hi fun a' uK=>aV (ha.symm.trans uK)▸⟨Wj,n',e,rv⟩
 have hw:=abW (K:=K) (m:=Int.ofNat k) (vq σ i _ hi) (Int.ofNat_lt.mpr z0) (Int.ofNat_lt.mpr z1) ((Ey σ i (.lst [.int x,.int y])).symm▸Qk σ i _ rF rfl)
 rw[z2,IA]at hw
 refine KK (((F.afq H hB hb).run A ρ _ s _ Vs hr hf cY ra).run (.ok (.int (.ofNat q))) _ (he▸hw) Q E ⟨fun b V cC s' hr e1 fM wC=>?_,fun Z Z Z Z q=>(nomatch q)⟩)
 have fh:=fM.EV (mo':=.iI tx) (vq σ i _ hi) fun a' uK=>(fM.at ((il _ _).symm.trans (vq σ i _ hi))).elim fun a2 w=>w.2.elim fun Lz w2=>w2.elim fun n2 g=>aV (w.1.symm.trans uK)▸⟨_,_,Lz,n2,g.1,g.2,z3⟩
 exact P.ok b V cC s' (nN.trans hr) e1 (iD▸IA σ i _ _▸fh) wC⟩
theorem abo{K:KT}{l:List Int}(hl:l.length≤63):∃(told size A B:Int),
  eE 79 3 0 [(false,0)] [(1,[])] (yL K) [.lst (l.map .int)] []=some (.ok (.loc 1),[.fr 79 [some (.lst (l.map .int)),some (.int told),some (.int size)],.lst [.int A,.int B]]):=by
 have wo:short (l.map J.int)=true:=Nat.ble_eq.mpr (Nat.le_trans (Nat.le_of_eq (List.length_map _)) (Nat.le_trans hl (by decide)))
 have hT:∃told:Int,dR (cZ (cB (n9 .Gt) (m1 iC (bY 79 0)) (ret (.int (.ofNat 0))))) (m1 (cP 0) (bY 79 0)) (ret (.int (.ofNat 0))) ⟨0,[]⟩ [.fr 79 [some (.lst (l.map .int)),none,none]]=some (.ok (.int told),[.fr 79 [some (.lst (l.map .int)),none,none]]):=by
  cases l with
  |nil=>exact⟨0,rfl⟩
  |cons i l=>
   have hgt:decide ((((i::l).map J.int).length:Int)>Int.ofNat 0)=true:=decide_eq_true (Int.ofNat_lt.mpr (Nat.succ_pos _))
   have h1:cZ (cB (n9 .Gt) (m1 iC (bY 79 0)) (ret (.int (.ofNat 0)))) ⟨0,[]⟩ [.fr 79 [some (.lst ((i::l).map .int)),none,none]]=some (.ok true,[.fr 79 [some (.lst ((i::l).map .int)),none,none]]):=
    oK (oK (oK rfl (lh wo)) (oK rfl (congrArg (fun q=>some (Res.ok (J.bool q),_)) hgt))) rfl
   exact⟨i,oK h1 (oK rfl rfl)⟩
 refine hT.elim fun told hT=>?_
 have hm:∀σ,Fi [.int told,.int (Int.negSucc 0 - told)] σ=some (.ok (.int (if Int.negSucc 0 - told>told then Int.negSucc 0 - told else told)),σ):=fun σ=>rfl
 generalize(if Int.negSucc 0 - told>told then Int.negSucc 0 - told else told)=size at hm
 have hA:∀q,decide (size≥Int.ofNat 10^18)=q→dR (cZ (cB (n9 .GtE) (bY 79 2) (cB (eW .Pow) (ret (.int (.ofNat 10))) (ret (.int (.ofNat 18)))))) (bY 79 2) (ret (.int (.ofNat 0))) ⟨0,[]⟩ [.fr 79 [some (.lst (l.map .int)),some (.int told),some (.int size)]]=
   some (.ok (.int (@Bool.rec (fun Z=>Int) (Int.ofNat 0) size q)),[.fr 79 [some (.lst (l.map .int)),some (.int told),some (.int size)]]):=fun q hq=>
  have h1:cZ (cB (n9 .GtE) (bY 79 2) (cB (eW .Pow) (ret (.int (.ofNat 10))) (ret (.int (.ofNat 18))))) ⟨0,[]⟩ [.fr 79 [some (.lst (l.map .int)),some (.int told),some (.int size)]]=some (.ok q,[.fr 79 [some (.lst (l.map .int)),some (.int told),some (.int size)]]):=
   oK (oK rfl (oK (oK rfl (oK rfl rfl)) (congrArg (fun q=>some (Res.ok (J.bool q),_)) hq))) rfl
  oK h1 (@Bool.casesOn (fun q=>(@Bool.rec (fun Z=>Out J) (ret (.int (.ofNat 0)) ⟨0,[]⟩ [.fr 79 [some (.lst (l.map .int)),some (.int told),some (.int size)]]) (bY 79 2 ⟨0,[]⟩ [.fr 79 [some (.lst (l.map .int)),some (.int told),some (.int size)]]) q)=some (.ok (.int (@Bool.rec (fun Z=>Int) (Int.ofNat 0) size q)),[.fr 79 [some (.lst (l.map .int)),some (.int told),some (.int size)]])) q rfl rfl)
 refine⟨told,size,@Bool.rec (fun Z=>Int) (Int.ofNat 0) size (decide (size≥Int.ofNat 10^18)),((size.fmod (Int.ofNat 2147483629)+Int.ofNat 17)*Int.ofNat 48271).fmod (Int.ofNat 2147483647),?_⟩
 have hB:cB (eW .Mod) (cB (eW .Mult) (cB (eW .Add) (cB (eW .Mod) (bY 79 2) (ret (.int (.ofNat 2147483629)))) (ret (.int (.ofNat 17)))) (ret (.int (.ofNat 48271)))) (ret (.int (.ofNat 2147483647))) ⟨0,[]⟩ [.fr 79 [some (.lst (l.map .int)),some (.int told),some (.int size)]]=some (.ok (.int (((size.fmod (Int.ofNat 2147483629)+Int.ofNat 17)*Int.ofNat 48271).fmod (Int.ofNat 2147483647))),[.fr 79 [some (.lst (l.map .int)),some (.int told),some (.int size)]]):=
  oK (oK (oK (oK rfl (oK rfl rfl)) (oK rfl rfl)) (oK rfl (lh (Bool.or_true _)))) (oK rfl rfl)
 have hx:yL K ⟨0,[]⟩ [.fr 79 [some (.lst (l.map .int)),none,none]]=some (.ok (.ret (.loc 1)),[.fr 79 [some (.lst (l.map .int)),some (.int told),some (.int size)],.lst [.int (@Bool.rec (fun Z=>Int) (Int.ofNat 0) size (decide (size≥Int.ofNat 10^18))),.int (((size.fmod (Int.ofNat 2147483629)+Int.ofNat 17)*Int.ofNat 48271).fmod (Int.ofNat 2147483647))]]):=by
  unfold yL
  exact vk (oK hT (oK rfl rfl)) (vk (oK (oK (oK rfl (oK (oK (oK rfl (oK rfl rfl)) rfl) rfl)) (hm _)) (oK rfl rfl)) (AK (oK (oK (oK (hA _ rfl) (oK (oK hB (oK rfl rfl)) rfl)) rfl) rfl)))
 show dk (rp 79 [(false,0)] [.lst (l.map .int)] ⟨0,[]⟩ [.fr 79 [none,none,none]]) (fun Z σ₁=>dk (yL K ⟨0,[]⟩ σ₁) rq)=_
 exact oK (b:=()) (σ₁:=[.fr 79 [some (.lst (l.map .int)),none,none]]) rfl (oK hx rfl)
noncomputable def Jd(m:MO):Bool:=@MO.casesOn (fun Z=>Bool) m (fun Z=>false) (fun Z=>false) (fun Z Z=>false) (fun Z=>false) (fun Z Z=>false) (fun Z=>false) (fun Z Z=>false) false false false (fun Z=>false) true
theorem abX{m:MO}:Jd m=true→m=.lu:=@MO.casesOn (fun m=>Jd m=true→m=.lu) m (fun Z h=>cF h) (fun Z h=>cF h) (fun Z Z h=>cF h) (fun Z h=>cF h) (fun Z Z h=>cF h) (fun Z h=>cF h) (fun Z Z h=>cF h) (fun h=>cF h) (fun h=>cF h) (fun h=>cF h) (fun Z h=>cF h) (fun Z=>rfl)
def Je(args:List J)(σ:List MO):Out J:=l1 args fun u=>vR u fun p=>ej (d7 σ p) fun m=>gd (Jd m) (some (.ok (.loc (len σ+1)),app σ [.dead,.iI []]))
theorem aaQ{args:List J}{σ cG:List MO}{r:Res J}(h:Je args σ=some (r,cG)):∃p,args=[.loc p]∧d7 σ p=some .lu∧r=.ok (.loc (σ.length+1))∧cG=σ++[.dead,.iI []]:=
 (AF h).elim fun u y=>(Eo y.2).elim fun p w=>(eP w.2).elim fun m x=>let g:=gK x.2;⟨p,y.1.trans (w.1▸rfl),x.1.trans (congrArg some (abX g.1)),(iA g.2).1.trans (len_eq σ▸rfl),(iA g.2).2.trans (nD _ _)⟩
theorem SR.aiD{c:Cx}{ρ:List Addr}{σ cG:List MO}{s:Shared}(sr:SR c ρ σ s)(hl:cG.length=σ.length)(h:∀(i:Nat) (a:Addr) (mo':MO),ρ[i]? =some a→cG[i]? =some mo'→eQ c ρ s.heap a mo'):SR c ρ cG s:=
 ⟨sr.gens,sr.os,by rw[hl];exact sr.len,sr.nodup,sr.fresh,sr.old,sr.d9,h⟩
theorem acU{c:Cx}{φ ρ cC:List Addr}{σ:List MO}{s s':Shared}{X Y:Int}{fm:MO}(sr:SR c ρ σ s)(wc:∀b∈cC,s.heap.get? b=none)(e1:Ext [] s.heap cC s'.heap)(ex:Ext ρ s.heap (ρ++cC) s'.heap)(fM:SR (c.hide φ) cC [fm,.lst [.int X,.int Y]] s'):SR c (ρ++cC) (σ++[.dead,.iI []]) s':=by
 have j8:cC.length=2:=fM.len
 have hl:(ρ++cC).length=(σ++[MO.dead,.iI []]).length:=by rw[List.length_append,List.length_append,sr.len,j8];rfl
 refine⟨fM.gens,fM.os,hl,?_,fun b hb=>(bg hb).elim (sr.fresh b) (fM.fresh b),fM.old,fun b hb=>?_,fun i b mo g1 g2=>?_⟩
 ·exact List.nodup_append.mpr ⟨sr.nodup,fM.nodup,fun x hx y hy q=>(sr.live hx).elim fun o ho=>cw ((wc y hy).symm.trans (q▸ho))⟩
 ·have q:=sr.d9 b hb
  exact⟨q.1,fun z=>(bg z).elim q.2.1 fun z=>q.2.2.elim fun o q3=>cw ((wc b z).symm.trans q3),q.2.2.elim fun o q3=>(e1.live b o q3).elim fun o' q4=>⟨o',q4.1⟩⟩
 ·rcases Nat.lt_or_ge i σ.length with h1|h1
  ·exact(sr.obj i b mo ((bp (sr.len.symm▸h1)).symm.trans g1) ((bp h1).symm.trans g2)).sm ex fun o h=>e1.same b o h bz
  ·have g2:=(bB h1).symm.trans g2
   have g1:=(bB (sr.len.symm▸h1)).symm.trans g1
   rw[sr.len]at g1
   generalize i - σ.length=j at g1 g2
   match j,g2 with
   |0,g2=>exact aV g2▸(fM.obj 0 b _ g1 rfl).there
   |1,g2=>exact aV g2▸(fM.obj 1 b (.lst [.int X,.int Y]) g1 rfl).elim fun Lz w=>w.elim fun n2 k=>⟨X,Y,Lz,n2,k.1,dh.ints (l:=[X,Y]) k.2,trivial⟩
   |j+2,g2=>exact cw g2
theorem abY{c:Cx}(H:∀φ,Ctx (c.hide φ)){m:Nat}{code:Option Addr}(F:∀φ,Fn (c.hide φ) 1013 qh code [(1,[])])(hB:fp (e8 79) ⟨79,j2 qh,[],code⟩ qh 3 0 [(false,0)] [(1,[])]=true){K:KT}
  (hb:∀φ,DS (c.hide φ) ⟨79,j2 qh,[],code⟩ (m+2) (dM qh) (yL K)):gk c m 1013 Je:=⟨fun A ρ σ s args Vs hr hf sr ra=>by
 refine⟨fun r cG hx Q E P=>?_⟩
 refine zz fun GG KK=>?_
 obtain⟨p,he,hp,nN,iD⟩:=aaQ hx
 obtain⟨a,ha,e,l,Wj,n',hs,rv,hl⟩:=sr.at ((il _ _).symm.trans hp)
 obtain⟨φ,hφ⟩:∃φ,φ=ρ.filter (fun b=>decide (b≠a))++c.d9:=⟨_,rfl⟩
 have am:a∈ρ:=a0 ha
 have Cc:∀{b},b∈φ→(b∈ρ∧b≠a)∨b∈c.d9:=fun q=>(bg (hφ▸q)).imp (fun q=>let z:=List.mem_filter.mp q;⟨z.1,of_decide_eq_true z.2⟩) id
 have kY:∀b,dY c ρ b→dY (c.hide φ) [] b:=fun b hb=>⟨bz,fun q=>(Cc q).elim (fun q=>hb.1 q.1) hb.2⟩
 have KL:SR (c.hide φ) [] [] s:=⟨sr.gens,sr.os,rfl,List.nodup_nil,(fun Z q=>nomatch q),sr.old,fun b hb=>(Cc hb).elim (fun q=>⟨sr.fresh b q.1,bz,sr.live q.1⟩) (fun q=>let z:=sr.d9 b q;⟨z.1,bz,z.2.2⟩),fun i b mo q=>cw q⟩
 obtain⟨V0,rfl⟩:∃V,Vs=[V]:=(he▸ra).gr.elim fun V z=>z.elim fun L z=>⟨V,z.1.trans (congrArg (V::·) z.2.2.i9)⟩
 have hV:V0=.ref a:=(show∃b,V0=.ref b∧ρ[p]? =some b from(he▸ra).gr.elim fun V z=>z.elim fun L z=>List.head_eq_of_cons_eq z.1▸z.2.1.inv).elim fun b z=>aV (ha.symm.trans z.2)▸z.1
 have ra0:dh (c.hide φ) [] s.heap [.lst (l.map .int)] [V0]:=hV▸.cons (.lst (e.trans (congrArg some hs)) ⟨bz,fun q=>(Cc q).elim (fun q=>q.2 rfl) fun q=>(sr.d9 a q).2.1 am⟩ (rv.sub (m:=0) kY (fun i q=>absurd q (Nat.not_lt_zero _)) (OX 0 l))) .nil
 obtain⟨told,size,X,Y,ht⟩:=abo (K:=K) hl
 refine KK ((((F φ).leaf (H φ) ((H φ).dE.symm▸hB) (hb φ)).run A [] [] s _ _ hr ⟨hf.ex⟩ KL ra0).run _ _ ht Q E ⟨fun b V cC s' hr e1 fM wC=>?_,fun Z Z Z Z q=>(nomatch q)⟩)
 have wc:∀b∈cC,s.heap.get? b=none:=e1.pre.elim fun new y=>y.1▸y.2
 have ex:Ext ρ s.heap (ρ++cC) s'.heap:=⟨⟨cC,rfl,wc⟩,fun b o h Z=>e1.same b o h bz,e1.live⟩
 refine P.ok (.loc (σ.length+1)) V (ρ++cC) s' nN ex (iD▸acU sr wc e1 ex fM) ?_
 cases hr
 exact(show∃b,V=.ref b∧cC[1]? =some b from wC.inv).elim fun b z=>z.1▸.loc ((bB (sr.len▸Nat.le_add_right _ _)).trans ((congrArg (cC[·]?) ((congrArg (σ.length+1 - ·) sr.len).trans (Nat.add_sub_cancel_left ..))).trans z.2))⟩
noncomputable abbrev Dn:List (Nat×List J):=[(0,[])]
theorem Zd:fp (e8 1) Nv xY 1 0 [] Dn=true:=by kernel_rfl
noncomputable abbrev D_:List (Nat×List J):=[(2,[])]
theorem aaR:fp (e8 2) Pa yG 2 0 [(false,0),(false,1)] D_=true:=by kernel_rfl
noncomputable abbrev DM:List (Nat×List J):=[(0,[])]
theorem Z5:fp (e8 3) Od yr 0 0 [] DM=true:=by kernel_rfl
noncomputable abbrev Ea:List (Nat×List J):=[(0,[])]
theorem aaS:fp (e8 4) Pc yH 0 0 [] Ea=true:=by kernel_rfl
noncomputable abbrev C4:List (Nat×List J):=[(3,[])]
theorem YA:fp (e8 5) MS xE 3 0 [(false,0),(false,1),(false,2)] C4=true:=by kernel_rfl
noncomputable abbrev C0:List (Nat×List J):=[(3,[])]
theorem Yp:fp (e8 6) MK xB 3 0 [(false,0),(false,1),(false,2)] C0=true:=by kernel_rfl
noncomputable abbrev DN:List (Nat×List J):=[(2,[])]
theorem Z6:fp (e8 7) Of yt 7 0 [(false,0),(false,1)] DN=true:=by kernel_rfl
noncomputable abbrev DO:List (Nat×List J):=[(3,[])]
theorem Z7:fp (e8 8) Oh yu 5 0 [(false,0),(false,1),(false,2)] DO=true:=by kernel_rfl
noncomputable abbrev Dw:List (Nat×List J):=[(5,[])]
theorem ZF:fp (e8 9) NO yg 11 1 [(false,0),(false,1),(false,2),(true,0),(false,3)] Dw=true:=by kernel_rfl
noncomputable abbrev qi:List (Nat×List J):=[(5,[])]
theorem aaT:fp (e8 12) Pe yI 6 3 [(true,0),(true,1),(false,0),(false,1),(false,2)] qi=true:=by kernel_rfl
noncomputable abbrev sG:List (Nat×List J):=[(4,[])]
theorem Z8:fp (e8 16) Oj yw 3 4 [(true,0),(true,1),(true,2),(true,3)] sG=true:=by kernel_rfl
noncomputable abbrev Dx:List (Nat×List J):=[(1,[])]
theorem ZG:fp (e8 19) NQ yh 1 0 [(false,0)] Dx=true:=by kernel_rfl
noncomputable abbrev Am:List (Nat×List J):=[(1,[])]
theorem Yi:fp (e8 20) MG xw 7 0 [(false,0)] Am=true:=by kernel_rfl
noncomputable abbrev Jf:List (Nat×List J):=[(1,[])]
theorem adO:fp (e8 21) ix hZ 5 9 [(false,0)] Jf=true:=by kernel_rfl
noncomputable abbrev Dy:List (Nat×List J):=[(1,[.none]),(2,[])]
theorem ZH:fp (e8 24) NS yi 2 0 [(false,0),(false,1)] Dy=true:=by kernel_rfl
noncomputable abbrev C5:List (Nat×List J):=[(5,[])]
theorem YB:fp (e8 25) MU xF 5 0 [(false,0),(false,1),(false,2),(false,3),(false,4)] C5=true:=by kernel_rfl
noncomputable abbrev Dz:List (Nat×List J):=[(0,[])]
theorem ZI:fp (e8 26) NU yj 7 0 [] Dz=true:=by kernel_rfl
noncomputable abbrev DB:List (Nat×List J):=[(2,[.none]),(3,[])]
theorem ZJ:fp (e8 27) NW yk 3 0 [(false,0),(false,1),(false,2)] DB=true:=by kernel_rfl
noncomputable abbrev De:List (Nat×List J):=[(7,[.none]),(8,[])]
theorem YT:fp (e8 28) M_ xN 8 0 [(false,0),(false,1),(false,2),(false,3),(false,4),(false,5),(false,6),(false,7)] De=true:=by kernel_rfl
noncomputable abbrev Df:List (Nat×List J):=[(2,[.none]),(3,[])]
theorem YU:fp (e8 29) Nb xO 3 0 [(false,0),(false,1),(false,2)] Df=true:=by kernel_rfl
noncomputable abbrev C6:List (Nat×List J):=[(2,[.none]),(3,[])]
theorem YC:fp (e8 30) MX xG 3 0 [(false,0),(false,1),(false,2)] C6=true:=by kernel_rfl
noncomputable abbrev CW:List (Nat×List J):=[(3,[])]
theorem X7:fp (e8 31) My xr 3 0 [(false,0),(false,1),(false,2)] CW=true:=by kernel_rfl
noncomputable abbrev C2:List (Nat×List J):=[(4,[])]
theorem Yq:fp (e8 32) MN xC 6 0 [(false,0),(false,1),(false,2),(false,3)] C2=true:=by kernel_rfl
noncomputable abbrev CX:List (Nat×List J):=[(3,[])]
theorem X8:fp (e8 33) MA xu 3 0 [(false,0),(false,1),(false,2)] CX=true:=by kernel_rfl
noncomputable abbrev C3:List (Nat×List J):=[(2,[.none]),(3,[])]
theorem Yr:fp (e8 34) MQ xD 3 0 [(false,0),(false,1),(false,2)] C3=true:=by kernel_rfl
noncomputable abbrev DQ:List (Nat×List J):=[(3,[])]
theorem Z9:fp (e8 35) Ol yx 3 0 [(false,0),(false,1),(false,2)] DQ=true:=by kernel_rfl
noncomputable abbrev Dp:List (Nat×List J):=[(5,[])]
theorem Ze:fp (e8 36) Nx xZ 7 0 [(false,0),(false,1),(false,2),(false,3),(false,4)] Dp=true:=by kernel_rfl
noncomputable abbrev C7:List (Nat×List J):=[(5,[])]
theorem YD:fp (e8 37) MZ xH 9 1 [(true,0),(false,0),(false,1),(false,2),(false,3)] C7=true:=by kernel_rfl
noncomputable abbrev t4:List (Nat×List J):=[(4,[(.bool true)]),(5,[])]
theorem ZK:fp (e8 39) NY yl 6 1 [(true,0),(false,0),(false,1),(false,2),(false,3)] t4=true:=by kernel_rfl
noncomputable abbrev qX:List (Nat×List J):=[(2,[])]
theorem Yj:fp (e8 42) MH xx 2 0 [(false,0),(false,1)] qX=true:=by kernel_rfl
noncomputable abbrev Eb:List (Nat×List J):=[(1,[])]
theorem aaU:fp (e8 44) Pf yJ 1 0 [(false,0)] Eb=true:=by kernel_rfl
noncomputable abbrev D0:List (Nat×List J):=[(4,[])]
theorem aao:fp (e8 45) OJ yC 4 0 [(false,0),(false,1),(false,2),(false,3)] D0=true:=by kernel_rfl
noncomputable abbrev Dg:List (Nat×List J):=[(4,[])]
theorem YV:fp (e8 46) Nd xP 7 0 [(false,0),(false,1),(false,2),(false,3)] Dg=true:=by kernel_rfl
noncomputable abbrev DR:List (Nat×List J):=[(2,[])]
theorem Z_:fp (e8 47) Oo yz 4 0 [(false,0),(false,1)] DR=true:=by kernel_rfl
noncomputable abbrev DU:List (Nat×List J):=[(1,[])]
theorem aaa:fp (e8 48) Ot yA 2 0 [(false,0)] DU=true:=by kernel_rfl
noncomputable abbrev Dh:List (Nat×List J):=[(1,[])]
theorem YW:fp (e8 51) Ng xQ 1 0 [(false,0)] Dh=true:=by kernel_rfl
noncomputable abbrev Dq:List (Nat×List J):=[(2,[])]
theorem Zf:fp (e8 53) Nz x5 2 0 [(false,0),(false,1)] Dq=true:=by kernel_rfl
noncomputable abbrev C8:List (Nat×List J):=[(2,[])]
theorem YE:fp (e8 54) M1 xI 2 0 [(false,0),(false,1)] C8=true:=by kernel_rfl
noncomputable abbrev D3:List (Nat×List J):=[(1,[])]
theorem aap:fp (e8 55) OL yD 1 0 [(false,0)] D3=true:=by kernel_rfl
noncomputable abbrev DC:List (Nat×List J):=[(1,[])]
theorem ZL:fp (e8 56) NZ ym 1 0 [(false,0)] DC=true:=by kernel_rfl
noncomputable abbrev Di:List (Nat×List J):=[(1,[])]
theorem YX:fp (e8 57) Ni xR 1 0 [(false,0)] Di=true:=by kernel_rfl
noncomputable abbrev Dj:List (Nat×List J):=[(2,[])]
theorem YY:fp (e8 58) Nk xS 2 0 [(false,0),(false,1)] Dj=true:=by kernel_rfl
noncomputable abbrev D4:List (Nat×List J):=[(2,[])]
theorem aaq:fp (e8 59) ON yE 2 0 [(false,0),(false,1)] D4=true:=by kernel_rfl
noncomputable abbrev Ec:List (Nat×List J):=[(2,[])]
theorem aaV:fp (e8 60) Ph yK 2 0 [(false,0),(false,1)] Ec=true:=by kernel_rfl
noncomputable abbrev Dk:List (Nat×List J):=[(3,[])]
theorem YZ:fp (e8 61) Nm xU 5 0 [(false,0),(false,1),(false,2)] Dk=true:=by kernel_rfl
noncomputable abbrev DD:List (Nat×List J):=[(3,[])]
theorem ZM:fp (e8 62) N1 yn 3 0 [(false,0),(false,1),(false,2)] DD=true:=by kernel_rfl
noncomputable abbrev C9:List (Nat×List J):=[(3,[(.bool false)]),(4,[])]
theorem YF:fp (e8 63) M4 xJ 4 0 [(false,0),(false,1),(false,2),(false,3)] C9=true:=by kernel_rfl
noncomputable abbrev CU:List (Nat×List J):=[(4,[])]
theorem X2:fp (e8 64) Mw xq 5 0 [(false,0),(false,1),(false,2),(false,3)] CU=true:=by kernel_rfl
noncomputable abbrev Dr:List (Nat×List J):=[(1,[])]
theorem Zg:fp (e8 65) NB x6 1 0 [(false,0)] Dr=true:=by kernel_rfl
noncomputable abbrev DV:List (Nat×List J):=[(1,[])]
theorem aab:fp (e8 66) Ow yB 1 0 [(false,0)] DV=true:=by kernel_rfl
noncomputable abbrev Ds:List (Nat×List J):=[(2,[])]
theorem Zh:fp (e8 67) ND x_ 4 0 [(false,0),(false,1)] Ds=true:=by kernel_rfl
noncomputable abbrev C_:List (Nat×List J):=[(2,[])]
theorem YG:fp (e8 68) M6 xK 3 0 [(false,0),(false,1)] C_=true:=by kernel_rfl
noncomputable abbrev CY:List (Nat×List J):=[(2,[])]
theorem Yc:fp (e8 69) MD xv 8 0 [(false,0),(false,1)] CY=true:=by kernel_rfl
noncomputable abbrev DF:List (Nat×List J):=[(2,[])]
theorem ZN:fp (e8 70) N3 yo 7 0 [(false,0),(false,1)] DF=true:=by kernel_rfl
noncomputable abbrev DG:List (Nat×List J):=[(3,[])]
theorem ZO:fp (e8 71) N5 yp 6 0 [(false,0),(false,1),(false,2)] DG=true:=by kernel_rfl
noncomputable abbrev Dt:List (Nat×List J):=[(3,[])]
theorem Zi:fp (e8 72) NG yc 3 0 [(false,0),(false,1),(false,2)] Dt=true:=by kernel_rfl
noncomputable abbrev Dl:List (Nat×List J):=[(1,[])]
theorem Y0:fp (e8 73) Np xW 4 0 [(false,0)] Dl=true:=by kernel_rfl
noncomputable abbrev Dm:List (Nat×List J):=[(3,[(.bool false)]),(4,[])]
theorem Y1:fp (e8 74) Nr xX 4 0 [(false,0),(false,1),(false,2),(false,3)] Dm=true:=by kernel_rfl
noncomputable abbrev Du:List (Nat×List J):=[(2,[])]
theorem Zj:fp (e8 75) NI ye 2 0 [(false,0),(false,1)] Du=true:=by kernel_rfl
noncomputable abbrev Dv:List (Nat×List J):=[(2,[])]
theorem Zk:fp (e8 76) NK yf 8 0 [(false,0),(false,1)] Dv=true:=by kernel_rfl
noncomputable abbrev DH:List (Nat×List J):=[(2,[])]
theorem ZP:fp (e8 77) N7 yq 4 0 [(false,0),(false,1)] DH=true:=by kernel_rfl
noncomputable abbrev Dc:List (Nat×List J):=[(2,[])]
theorem YH:fp (e8 78) M8 xM 3 0 [(false,0),(false,1)] Dc=true:=by kernel_rfl
noncomputable abbrev HX:List (Nat×List J):=[(1,[])]
theorem aar:fp (e8 79) OP qh 3 0 [(false,0)] HX=true:=by kernel_rfl
noncomputable abbrev HP:List (Nat×List J):=[(2,[])]
theorem aac:fp (e8 80) Oy qg 3 0 [(false,0),(false,1)] HP=true:=by kernel_rfl
structure vO(c:Cx):Prop where
 aiE:Fn c 105 xX (none) Dm
 aiF:Fn c 133 ye (none) Du
 aiG:Fn c 145 yf (none) Dv
 aiH:Fn c 159 yc (none) Dt
 aiI:Fn c 166 xW (none) Dl
 aiJ:Fn c 180 yq (none) DH
 aiK:Fn c 194 xv (none) CY
 aiL:Fn c 213 yo (none) DF
 aiM:Fn c 227 yp (none) DG
 aiN:Fn c 239 xQ (none) Dh
 aiO:Fn c 258 x5 (none) Dq
 aiP:Fn c 270 yA (none) DU
 aiQ:Fn c 277 xI (none) C8
 aiR:Fn c 284 yD (none) D3
 aiS:Fn c 291 ym (none) DC
 aiT:Fn c 298 xR (none) Di
 aiU:Fn c 305 xS (none) Dj
 aiV:Fn c 312 yE (none) D4
 aiW:Fn c 319 yK (none) Ec
 aiX:Fn c 326 xP (none) Dg
 aiY:Fn c 354 yz (none) DR
 aiZ:Fn c 361 yC (none) D0
 ai0:Fn c 369 yx (none) DQ
 ai1:Fn c 376 xZ (none) Dp
 ai2:Fn c 381 xH (none) C7
 ai3:Fn c 387 yl (none) t4
 ai4:Fn c 392 xx (none) qX
 ai5:Fn c 399 yJ (none) Eb
 ai6:Fn c 408 x6 (none) Dr
 ai7:Fn c 415 yB (none) DV
 ai8:Fn c 422 x_ (none) Ds
 ai9:Fn c 436 xK (none) C_
 ai_:Fn c 508 xU (none) Dk
 aja:Fn c 515 yn (none) DD
 ajb:Fn c 523 xJ (none) C9
 ajc:Fn c 530 xq (none) CU
 ajd:Fn c 763 yk (none) DB
 aje:Fn c 837 xN (none) De
 ajf:Fn c 845 xO (none) Df
 ajg:Fn c 853 xG (none) C6
 ajh:Fn c 860 xr (none) CW
 aji:Fn c 874 xC (none) C2
 ajj:Fn c 881 xu (none) CX
 ajk:Fn c 903 xD (none) C3
 ajl:Fn c 956 xF (none) C5
 ajm:Fn c 970 yj (none) Dz
 ajn:Fn c 985 yi (none) Dy
 ajo:Fn c 992 xM (none) Dc
 afr:Fn c 1013 qh (none) HX
 afs:Fn c 1020 qg (none) HP
 aft:Fn c 1027 yG (none) D_
 afu:Fn c 1041 yr (none) DM
 afv:Fn c 1048 yH (none) Ea
 afw:Fn c 1055 xE (none) C4
 afx:Fn c 1062 xB (none) C0
 afy:Fn c 1069 xY (none) Dn
 afz:Fn c 1076 yt (none) DN
 afA:Fn c 1083 yu (none) DO
 afB:Fn c 1088 yg (none) Dw
 afC:Fn c 1093 yI (none) qi
 afD:Fn c 1098 yw (some 1097) sG
 afE:Fn c 1105 yh (none) Dx
 afF:Fn c 1112 xw (none) Am
 afG:Fn c 1117 hZ (some 1116) Jf
def TG(K:KT):Tr:=(.node (.node (.node (.node (.node (.node (.node .leaf 105 (eE 74 4 0 [(false,0),(false,1),(false,2),(false,3)] Dm (Nt K)) .leaf) 108 (runC 108 105 K) .leaf) 133 (gC 0 (eE 75 2 0 [(false,0),(false,1)] Du (NJ K))) (.node .leaf 145 (eE 76 8 0 [(false,0),(false,1)] Dv (NL K)) .leaf)) 159 (eE 72 3 0 [(false,0),(false,1),(false,2)] Dt (NH K)) (.node (.node .leaf 166 (eE 73 4 0 [(false,0)] Dl (Nq K)) .leaf) 169 (runC 169 159 K) (.node .leaf 180 (gC 0 (eE 77 4 0 [(false,0),(false,1)] DH (N8 K))) .leaf))) 194 (gC 0 (eE 69 8 0 [(false,0),(false,1)] CY (ME K))) (.node (.node (.node (.node .leaf 213 (gC 0 (eE 70 7 0 [(false,0),(false,1)] DF (N4 K))) .leaf) 227 (gC 0 (eE 71 6 0 [(false,0),(false,1),(false,2)] DG (N6 K))) .leaf) 239 (gC 0 (eE 51 1 0 [(false,0)] Dh (Nh K))) (.node .leaf 258 (gC 0 (eE 53 2 0 [(false,0),(false,1)] Dq (NA K))) .leaf)) 270 (gC 0 (eE 48 2 0 [(false,0)] DU (Ou K))) (.node (.node .leaf 277 (gC 0 (eE 54 2 0 [(false,0),(false,1)] C8 (M3 K))) .leaf) 284 (gC 0 (eE 55 1 0 [(false,0)] D3 (OM K))) (.node .leaf 291 (gC 0 (eE 56 1 0 [(false,0)] DC (N0 K))) .leaf)))) 298 (gC 0 (eE 57 1 0 [(false,0)] Di (Nj K))) (.node (.node (.node (.node (.node .leaf 305 (gC 0 (eE 58 2 0 [(false,0),(false,1)] Dj (Nl K))) .leaf) 312 (gC 0 (eE 59 2 0 [(false,0),(false,1)] D4 (OO K))) .leaf) 319 (gC 0 (eE 60 2 0 [(false,0),(false,1)] Ec (Pj K))) (.node .leaf 326 (eE 46 7 0 [(false,0),(false,1),(false,2),(false,3)] Dg (Nf K)) .leaf)) 354 (eE 47 4 0 [(false,0),(false,1)] DR (Oq K)) (.node (.node .leaf 361 (eE 45 4 0 [(false,0),(false,1),(false,2),(false,3)] D0 (OK K)) .leaf) 369 (gC 9 (eE 35 3 0 [(false,0),(false,1),(false,2)] DQ (Om K))) (.node .leaf 376 (gC 9 (eE 36 7 0 [(false,0),(false,1),(false,2),(false,3),(false,4)] Dp (Ny K))) .leaf))) 381 (gC 9 (eE 37 9 1 [(true,0),(false,0),(false,1),(false,2),(false,3)] C7 (M0 K))) (.node (.node (.node .leaf 387 (eE 39 6 1 [(true,0),(false,0),(false,1),(false,2),(false,3)] t4 (yy K)) .leaf) 392 (gC 0 (eE 42 2 0 [(false,0),(false,1)] qX (tZ K))) (.node .leaf 399 (gC 0 (eE 44 1 0 [(false,0)] Eb (Pg K))) .leaf)) 408 (gC 0 (eE 65 1 0 [(false,0)] Dr (NC K))) (.node (.node .leaf 415 (gC 0 (eE 66 1 0 [(false,0)] DV (Ox K))) .leaf) 422 (gC 0 (eE 67 4 0 [(false,0),(false,1)] Ds (NF K))) (.node .leaf 436 (gC 0 (eE 68 3 0 [(false,0),(false,1)] C_ (M7 K))) .leaf))))) 508 (gC 0 (eE 61 5 0 [(false,0),(false,1),(false,2)] Dk (Nn K))) (.node (.node (.node (.node (.node (.node .leaf 515 (gC 0 (eE 62 3 0 [(false,0),(false,1),(false,2)] DD (N2 K))) .leaf) 523 (gC 0 (eE 63 4 0 [(false,0),(false,1),(false,2),(false,3)] C9 (M5 K))) .leaf) 530 (gC 0 (eE 64 5 0 [(false,0),(false,1),(false,2),(false,3)] CU (Mx K))) (.node .leaf 763 (eE 27 3 0 [(false,0),(false,1),(false,2)] DB (NX K)) .leaf)) 817 (runC 817 763 K) (.node (.node .leaf 837 (eE 28 8 0 [(false,0),(false,1),(false,2),(false,3),(false,4),(false,5),(false,6),(false,7)] De (Na K)) .leaf) 845 (eE 29 3 0 [(false,0),(false,1),(false,2)] Df (Nc K)) (.node .leaf 853 (eE 30 3 0 [(false,0),(false,1),(false,2)] C6 (MY K)) .leaf))) 860 (eE 31 3 0 [(false,0),(false,1),(false,2)] CW (Mz K)) (.node (.node (.node (.node .leaf 874 (eE 32 6 0 [(false,0),(false,1),(false,2),(false,3)] C2 (MP K)) .leaf) 881 (eE 33 3 0 [(false,0),(false,1),(false,2)] CX (MC K)) .leaf) 903 (eE 34 3 0 [(false,0),(false,1),(false,2)] C3 (MR K)) (.node .leaf 935 (runC 935 837 K) .leaf)) 956 (eE 25 5 0 [(false,0),(false,1),(false,2),(false,3),(false,4)] C5 (MW K)) (.node (.node .leaf 959 (runC 959 956 K) .leaf) 970 (eE 26 7 0 [] Dz (NV K)) (.node .leaf 985 (eE 24 2 0 [(false,0),(false,1)] Dy (NT K)) .leaf)))) 992 (gC 0 (eE 78 3 0 [(false,0),(false,1)] Dc (M9 K))) (.node (.node (.node (.node (.node .leaf 1002 (runC 1002 985 K) .leaf) 1013 Je .leaf) 1020 IS (.node .leaf 1027 (gC 3 (eE 2 2 0 [(false,0),(false,1)] D_ (Pb K))) .leaf)) 1041 (gC 0 (eE 3 0 0 [] DM (Oe K))) (.node (.node .leaf 1048 (gC 0 (eE 4 0 0 [] Ea (Pd K))) .leaf) 1055 (eE 5 3 0 [(false,0),(false,1),(false,2)] C4 (MT K)) (.node .leaf 1062 (eE 6 3 0 [(false,0),(false,1),(false,2)] C0 (ML K)) .leaf))) 1069 (eE 1 1 0 [] Dn (Nw K)) (.node (.node (.node .leaf 1076 (gC 0 (eE 7 7 0 [(false,0),(false,1)] DN (Og K))) .leaf) 1083 (gC 0 (eE 8 5 0 [(false,0),(false,1),(false,2)] DO (Oi K))) (.node .leaf 1088 (gC 0 (eE 9 11 1 [(false,0),(false,1),(false,2),(true,0),(false,3)] Dw (NP K))) .leaf)) 1093 (gC 0 (eE 12 6 3 [(true,0),(true,1),(false,0),(false,1),(false,2)] qi (qZ K))) (.node (.node .leaf 1098 (gC 9 (eE 16 3 4 [(true,0),(true,1),(true,2),(true,3)] sG (vg K))) .leaf) 1105 (gC 3 (eE 19 1 0 [(false,0)] Dx (NR K))) (.node .leaf 1112 (gC 3 (eE 20 7 0 [(false,0)] Am (HI K))) .leaf))))))
noncomputable def j3:Nat→KT
 |0=>fun Z Z Z=>none
 |k+1=>stepT (TG (j3 k))
theorem acV{c:Cx}(H:∀φ,Ctx (c.hide φ))(F:∀φ,vO (c.hide φ)){m:Nat}{K:KT}(hK:∀φ,j1 (c.hide φ) m K)(φ:List Addr):sS (gk (c.hide φ) m) (TG K):=
 (fq (fq (fq (fq (fq (fq (fq fk ((F φ).aiE.leaf (H φ) (by rw[(H φ).dE];exact Y1) (YS (H φ) (hK φ))) fk) ((zd (ci:=DZ) (H φ) (by kernel_rfl) (by kernel_rfl) (hK φ))) fk) (gk.frame 0 fun ψ=>(F ψ).aiF.leaf (H ψ) (by rw[(H ψ).dE];exact Zj) (Zb (H ψ) (hK ψ))) (fq fk ((F φ).aiG.leaf (H φ) (by rw[(H φ).dE];exact Zk) (Zc (H φ) (hK φ))) fk)) ((F φ).aiH.leaf (H φ) (by rw[(H φ).dE];exact Zi) (Za (H φ) (hK φ))) (fq (fq fk ((F φ).aiI.leaf (H φ) (by rw[(H φ).dE];exact Y0) (YR (H φ) (hK φ))) fk) ((zd (ci:=D9) (H φ) (by kernel_rfl) (by kernel_rfl) (hK φ))) (fq fk (gk.frame 0 fun ψ=>(F ψ).aiJ.leaf (H ψ) (by rw[(H ψ).dE];exact ZP) (ZE (H ψ) (hK ψ))) fk))) (gk.frame 0 fun ψ=>(F ψ).aiK.leaf (H ψ) (by rw[(H ψ).dE];exact Yc) (Yb (H ψ) (hK ψ))) (fq (fq (fq (fq fk (gk.frame 0 fun ψ=>(F ψ).aiL.leaf (H ψ) (by rw[(H ψ).dE];exact ZN) (ZC (H ψ) (hK ψ))) fk) (gk.frame 0 fun ψ=>(F ψ).aiM.leaf (H ψ) (by rw[(H ψ).dE];exact ZO) (ZD (H ψ) (hK ψ))) fk) (gk.frame 0 fun ψ=>(F ψ).aiN.leaf (H ψ) (by rw[(H ψ).dE];exact YW) (YM (H ψ) (hK ψ))) (fq fk (gk.frame 0 fun ψ=>(F ψ).aiO.leaf (H ψ) (by rw[(H ψ).dE];exact Zf) (Y8 (H ψ) (hK ψ))) fk)) (gk.frame 0 fun ψ=>(F ψ).aiP.leaf (H ψ) (by rw[(H ψ).dE];exact aaa) (Z2 (H ψ) (hK ψ))) (fq (fq fk (gk.frame 0 fun ψ=>(F ψ).aiQ.leaf (H ψ) (by rw[(H ψ).dE];exact YE) (Yw (H ψ) (hK ψ))) fk) (gk.frame 0 fun ψ=>(F ψ).aiR.leaf (H ψ) (by rw[(H ψ).dE];exact aap) (aak (H ψ) (hK ψ))) (fq fk (gk.frame 0 fun ψ=>(F ψ).aiS.leaf (H ψ) (by rw[(H ψ).dE];exact ZL) (Zz (H ψ) (hK ψ))) fk)))) (gk.frame 0 fun ψ=>(F ψ).aiT.leaf (H ψ) (by rw[(H ψ).dE];exact YX) (YN (H ψ) (hK ψ))) (fq (fq (fq (fq (fq fk (gk.frame 0 fun ψ=>(F ψ).aiU.leaf (H ψ) (by rw[(H ψ).dE];exact YY) (YO (H ψ) (hK ψ))) fk) (gk.frame 0 fun ψ=>(F ψ).aiV.leaf (H ψ) (by rw[(H ψ).dE];exact aaq) (aal (H ψ) (hK ψ))) fk) (gk.frame 0 fun ψ=>(F ψ).aiW.leaf (H ψ) (by rw[(H ψ).dE];exact aaV) (aaN (H ψ) (hK ψ))) (fq fk ((F φ).aiX.leaf (H φ) (by rw[(H φ).dE];exact YV) (YL (H φ) (hK φ))) fk)) ((F φ).aiY.leaf (H φ) (by rw[(H φ).dE];exact Z_) (Z1 (H φ) (hK φ))) (fq (fq fk ((F φ).aiZ.leaf (H φ) (by rw[(H φ).dE];exact aao) (aaj (H φ) (hK φ))) fk) (gk.frame 9 fun ψ=>(F ψ).ai0.leaf (H ψ) (by rw[(H ψ).dE];exact Z9) (Z0 (H ψ) (hK ψ))) (fq fk (gk.frame 9 fun ψ=>(F ψ).ai1.leaf (H ψ) (by rw[(H ψ).dE];exact Ze) (Y7 (H ψ) (hK ψ))) fk))) (gk.frame 9 fun ψ=>(F ψ).ai2.leaf (H ψ) (by rw[(H ψ).dE];exact YD) (Yv (H ψ) (hK ψ))) (fq (fq (fq fk ((F φ).ai3.leaf (H φ) (by rw[(H φ).dE];exact ZK) (Zy (H φ) (hK φ))) fk) (gk.frame 0 fun ψ=>(F ψ).ai4.leaf (H ψ) (by rw[(H ψ).dE];exact Yj) (Yh (H ψ) (hK ψ))) (fq fk (gk.frame 0 fun ψ=>(F ψ).ai5.leaf (H ψ) (by rw[(H ψ).dE];exact aaU) (aaM (H ψ) (hK ψ))) fk)) (gk.frame 0 fun ψ=>(F ψ).ai6.leaf (H ψ) (by rw[(H ψ).dE];exact Zg) (Y9 (H ψ) (hK ψ))) (fq (fq fk (gk.frame 0 fun ψ=>(F ψ).ai7.leaf (H ψ) (by rw[(H ψ).dE];exact aab) (Z3 (H ψ) (hK ψ))) fk) (gk.frame 0 fun ψ=>(F ψ).ai8.leaf (H ψ) (by rw[(H ψ).dE];exact Zh) (Y_ (H ψ) (hK ψ))) (fq fk (gk.frame 0 fun ψ=>(F ψ).ai9.leaf (H ψ) (by rw[(H ψ).dE];exact YG) (Yy (H ψ) (hK ψ))) fk))))) (gk.frame 0 fun ψ=>(F ψ).ai_.leaf (H ψ) (by rw[(H ψ).dE];exact YZ) (YQ (H ψ) (hK ψ))) (fq (fq (fq (fq (fq (fq fk (gk.frame 0 fun ψ=>(F ψ).aja.leaf (H ψ) (by rw[(H ψ).dE];exact ZM) (ZA (H ψ) (hK ψ))) fk) (gk.frame 0 fun ψ=>(F ψ).ajb.leaf (H ψ) (by rw[(H ψ).dE];exact YF) (Yx (H ψ) (hK ψ))) fk) (gk.frame 0 fun ψ=>(F ψ).ajc.leaf (H ψ) (by rw[(H ψ).dE];exact X2) (X1 (H ψ) (hK ψ))) (fq fk ((F φ).ajd.leaf (H φ) (by rw[(H φ).dE];exact ZJ) (Zx (H φ) (hK φ))) fk)) ((zd (ci:=Eh) (H φ) (by kernel_rfl) (by kernel_rfl) (hK φ))) (fq (fq fk ((F φ).aje.leaf (H φ) (by rw[(H φ).dE];exact YT) (YJ (H φ) (hK φ))) fk) ((F φ).ajf.leaf (H φ) (by rw[(H φ).dE];exact YU) (YK (H φ) (hK φ))) (fq fk ((F φ).ajg.leaf (H φ) (by rw[(H φ).dE];exact YC) (Yu (H φ) (hK φ))) fk))) ((F φ).ajh.leaf (H φ) (by rw[(H φ).dE];exact X7) (X5 (H φ) (hK φ))) (fq (fq (fq (fq fk ((F φ).aji.leaf (H φ) (by rw[(H φ).dE];exact Yq) (Yn (H φ) (hK φ))) fk) ((F φ).ajj.leaf (H φ) (by rw[(H φ).dE];exact X8) (X6 (H φ) (hK φ))) fk) ((F φ).ajk.leaf (H φ) (by rw[(H φ).dE];exact Yr) (Yo (H φ) (hK φ))) (fq fk ((zd (ci:=DY) (H φ) (by kernel_rfl) (by kernel_rfl) (hK φ))) fk)) ((F φ).ajl.leaf (H φ) (by rw[(H φ).dE];exact YB) (Yt (H φ) (hK φ))) (fq (fq fk ((zd (ci:=DL) (H φ) (by kernel_rfl) (by kernel_rfl) (hK φ))) fk) ((F φ).ajm.leaf (H φ) (by rw[(H φ).dE];exact ZI) (Zw (H φ) (hK φ))) (fq fk ((F φ).ajn.leaf (H φ) (by rw[(H φ).dE];exact ZH) (Zv (H φ) (hK φ))) fk)))) (gk.frame 0 fun ψ=>(F ψ).ajo.leaf (H ψ) (by rw[(H ψ).dE];exact YH) (Yz (H ψ) (hK ψ))) (fq (fq (fq (fq (fq fk ((zd (ci:=Eg) (H φ) (by kernel_rfl) (by kernel_rfl) (hK φ))) fk) (abY (c:=c.hide φ) (fun ψ=>H ψ) (fun ψ=>(F ψ).afr) aar (fun ψ=>aam (H ψ) (hK ψ))) fk) (abn (H φ) (F φ).afs (by rw[(H φ).dE];exact aac) (Z4 (H φ) (hK φ))) (fq fk (gk.frame 3 fun ψ=>(F ψ).aft.leaf (H ψ) (by rw[(H ψ).dE];exact aaR) (aaJ (H ψ) (hK ψ))) fk)) (gk.frame 0 fun ψ=>(F ψ).afu.leaf (H ψ) (by rw[(H ψ).dE];exact Z5) (ZW (H ψ) (hK ψ))) (fq (fq fk (gk.frame 0 fun ψ=>(F ψ).afv.leaf (H ψ) (by rw[(H ψ).dE];exact aaS) (aaK (H ψ) (hK ψ))) fk) ((F φ).afw.leaf (H φ) (by rw[(H φ).dE];exact YA) (Ys (H φ) (hK φ))) (fq fk ((F φ).afx.leaf (H φ) (by rw[(H φ).dE];exact Yp) (Ym (H φ) (hK φ))) fk))) ((F φ).afy.leaf (H φ) (by rw[(H φ).dE];exact Zd) (Y6 (H φ) (hK φ))) (fq (fq (fq fk (gk.frame 0 fun ψ=>(F ψ).afz.leaf (H ψ) (by rw[(H ψ).dE];exact Z6) (ZX (H ψ) (hK ψ))) fk) (gk.frame 0 fun ψ=>(F ψ).afA.leaf (H ψ) (by rw[(H ψ).dE];exact Z7) (ZY (H ψ) (hK ψ))) (fq fk (gk.frame 0 fun ψ=>(F ψ).afB.leaf (H ψ) (by rw[(H ψ).dE];exact ZF) (Zt (H ψ) (hK ψ))) fk)) (gk.frame 0 fun ψ=>(F ψ).afC.leaf (H ψ) (by rw[(H ψ).dE];exact aaT) (aaL (H ψ) (hK ψ))) (fq (fq fk (gk.frame 9 fun ψ=>(F ψ).afD.leaf (H ψ) (by rw[(H ψ).dE];exact Z8) (ZZ (H ψ) (hK ψ))) fk) (gk.frame 3 fun ψ=>(F ψ).afE.leaf (H ψ) (by rw[(H ψ).dE];exact ZG) (Zu (H ψ) (hK ψ))) (fq fk (gk.frame 3 fun ψ=>(F ψ).afF.leaf (H ψ) (by rw[(H ψ).dE];exact Yi) (Yg (H ψ) (hK ψ))) fk))))))
theorem Ql{c:Cx}(H:∀φ,Ctx (c.hide φ))(F:∀φ,vO (c.hide φ)):∀k φ,j1 (c.hide φ) (3*k) (j3 k)
 |0,_=>abU
 |k+1,φ=>abT (acV H F (Ql H F k) φ)
def all2{α β:Type}(p:α→β→Bool)(l:List α):List β→Bool:=@List.rec α (fun Z=>List β→Bool) (fun m=>@List.casesOn β (fun Z=>Bool) m true (fun Z Z=>false)) (fun a Z ih m=>@List.casesOn β (fun Z=>Bool) m false (fun b m=>band (p a b) (ih m))) l
theorem Av{α β:Type}{p:α→β→Bool}{a:α}{l:List α}{m:List β}:all2 p (a::l) m=true→∃b m',m=b::m'∧p a b=true∧all2 p l m'=true:=
 @List.casesOn β (fun m=>all2 p (a::l) m=true→∃b m',m=b::m'∧p a b=true∧all2 p l m'=true) m (fun h=>cF h) (fun b m' h=>⟨b,m',rfl,ew h⟩)
theorem Ay{α β:Type}{p:α→β→Bool}{m:List β}:all2 p [] m=true→m=[]:=@List.casesOn β (fun m=>all2 p [] m=true→m=[]) m (fun Z=>rfl) (fun Z Z h=>cF h)
theorem adP{a b:Bool}(h:FE a b=true):a=b:=by cases a<;>cases b<;>first|rfl|cases h
noncomputable def isSome(x:Option Nat)(j:Nat):Bool:=@Option.casesOn Nat (fun Z=>Bool) x false (fun i=>Nat.beq i j)
theorem q_{x:Option Nat}{j:Nat}:isSome x j=true→x=some j:=@Option.casesOn Nat (fun x=>isSome x j=true→x=some j) x (fun h=>cF h) (fun i h=>congrArg some (aY h))
noncomputable def GZ(o:Option Unit):Bool:=@Option.casesOn Unit (fun Z=>Bool) o false (fun Z=>true)
theorem RL{o:Option Unit}:GZ o=true→o=some ():=@Option.casesOn Unit (fun o=>GZ o=true→o=some ()) o (fun h=>cF h) (fun Z Z=>rfl)
def gu(b:Bool):Option Unit:=gd b (some ())
def kp(p:J→J→Bool)(a b:Str×J):Bool:=band (sq a.1 b.1) (p a.2 b.2)
def Cn(idx:Nat→Option Nat)(p:J→J→Bool)(v v':J):Option Unit:=@J.casesOn (fun Z=>Option Unit) v' (vN v (some ())) (fun b=>vB v fun a=>gu (FE a b)) (fun b=>vI v fun a=>gu (rW a b)) (fun b=>vS v fun a=>gu (sq a b)) (fun m=>vT v fun l=>gu (all2 p l m)) (fun m=>vL v fun l=>gu (all2 p l m)) (fun m=>vD v fun l=>gu (all2 (kp p) l m))
 (fun C m=>BO v (fun B l=>gu (band (Nat.beq B C) (band (mW 0 m) (all2 (kp p) l m)))) (fun Z=>none)) (fun j=>vR v fun i=>gu (isSome (idx i) j)) (fun b=>vA v fun a=>gu (Nat.beq a b)) (fun Z=>none) (fun Z=>none) (fun Z=>none) (some ())
def tB(idx:Nat→Option Nat)(k:Nat):J→J→Bool:=@Nat.rec (fun Z=>J→J→Bool) (fun Z Z=>false) (fun Z ih v v'=>GZ (Cn idx ih v v')) k
section
variable{c:Cx}{A:Around}{ρ ρ₂:List Addr}{σ:List MO}{s:Shared}{h:Heap}{idx:Nat→Option Nat}
theorem Q3{a b:Str}(h:sq a b=true):a=b:=of_decide_eq_true ((pe a b).symm.trans h)
theorem td{b:Bool}(h:gu b=some ()):b=true:=(gK h).1
theorem Ez{p:J→J→Bool}(hp:∀{v v':J} {V:Value},p v v'=true→cI c ρ h v V→cI c ρ₂ h v' V):∀{l m:List J} {L:List Value},dh c ρ h l L→all2 p l m=true→dh c ρ₂ h m L
 |[],_,_,r,q=>Ay q▸r.i9▸.nil
 |_::_,_,_,r,q=>
  let⟨_,_,q0,h1,h2⟩:=Av q
  let⟨_,_,r0,a,b⟩:=r.gr
  q0▸r0▸.cons (hp h1 a) (Ez hp b h2)
theorem AL{p:J→J→Bool}(hp:∀{v v':J} {V:Value},p v v'=true→cI c ρ h v V→cI c ρ₂ h v' V):∀{l m:List (Str×J)} {L:List (Str×Value)},eI c ρ h l L→all2 (kp p) l m=true→eI c ρ₂ h m L
 |[],_,_,r,q=>Ay q▸r.i9▸.nil
 |_::_,_,_,r,q=>
  let⟨_,_,q0,h1,h2⟩:=Av q
  let⟨h3,h4⟩:=ew h1
  let⟨_,_,r0,a,b⟩:=r.gr
  q0▸r0▸Q3 h3▸.cons (hp h4 a) (AL hp b h2)
theorem cI.Cn{p:J→J→Bool}(hi:∀i j a,idx i=some j→ρ[i]? =some a→ρ₂[j]? =some a)(hs:∀a,dY c ρ a→dY c ρ₂ a)(hp:∀{v v':J} {V:Value},p v v'=true→cI c ρ h v V→cI c ρ₂ h v' V){v v':J}{V:Value}:Cn idx p v v'=some ()→cI c ρ h v V→cI c ρ₂ h v' V:=
 @J.casesOn (fun v'=>Mine.Cn idx p v v'=some ()→cI c ρ h v V→cI c ρ₂ h v' V) v'
  (fun q r=>let⟨e,_⟩:=QG q;(show V=.none from(e▸r).inv)▸.none)
  (fun b q r=>let⟨a,e,q⟩:=AE q;(show V=.bool a from(e▸r).inv)▸adP (td q)▸.bool a)
  (fun b q r=>let⟨a,e,q⟩:=t8 q;let⟨t,e⟩:=(show∃t,V=.int a t from(e▸r).inv);e▸eq_of_beq ((AR a b).symm.trans (td q))▸.int a t)
  (fun b q r=>let⟨a,e,q⟩:=Ih q;let⟨t,e⟩:=(show∃t,V=.str a t from(e▸r).inv);e▸Q3 (td q)▸.str a t)
  (fun m q r=>let⟨l,e,q⟩:=Ii q;match V,(show kU c ρ h gS l V from(e▸r).inv)with|_,.mk e hn r=>.tup e (hs _ hn) (Ez hp r (td q)))
  (fun m q r=>let⟨l,e,q⟩:=QD q;match V,(show kU c ρ h gm l V from(e▸r).inv)with|_,.mk e hn r=>.lst e (hs _ hn) (Ez hp r (td q)))
  (fun m q r=>let⟨l,e,q⟩:=Ij q;match V,(show sV c ρ h l V from(e▸r).inv)with|_,.mk e hm hn r=>.fB e hm (hs _ hn) (AL hp r (td q)))
  (fun C m q r=>(PB q).elim (fun⟨B,l,e,q⟩=>
   let⟨q1,q2⟩:=ew (td q)
   let⟨q2,q3⟩:=ew q2
   match V,(show Fp c ρ h B l V from(e▸r).inv)with|_,.mk e c1 d1 dt ne ns ex hv n1 n2 r cl=>aY q1▸.obj e c1 d1 dt ne ns ex hv (hs _ n1) (hs _ n2) (AL hp r q3) q2) fun⟨_,_,q⟩=>cw q)
  (fun j q r=>let⟨i,e,q⟩:=Eo q;let⟨a,e,g⟩:=(show∃a,V=.ref a∧ρ[i]? =some a from(e▸r).inv);e▸.loc (hi _ _ _ (q_ (td q)) g))
  (fun b q r=>let⟨a,e,q⟩:=Ep q;(show V=.ref a from(e▸r).inv)▸aY (td q)▸.dC a)
  (fun Z q=>cw q) (fun Z q=>cw q) (fun Z q=>cw q) (fun Z Z=>.ip V)
theorem cI.wk(hi:∀i j a,idx i=some j→ρ[i]? =some a→ρ₂[j]? =some a)(hs:∀a,dY c ρ a→dY c ρ₂ a):∀(k:Nat) {v v':J} {V:Value},tB idx k v v'=true→cI c ρ h v V→cI c ρ₂ h v' V
 |0,_,_,_,q,_=>cF q
 |k+1,_,_,_,q,r=>cI.Cn hi hs (fun q r=>cI.wk hi hs k q r) (RL q) r
noncomputable def G3(p:J→J→Bool)(o o':Option J):Bool:=@Option.casesOn J (fun Z=>Bool) o (@Option.casesOn J (fun Z=>Bool) o' true (fun Z=>false)) (fun v=>@Option.casesOn J (fun Z=>Bool) o' false (fun v'=>p v v'))
def TH(l:List J):Bool:=@List.casesOn J (fun Z=>Bool) l false fun a l=>@List.casesOn J (fun Z=>Bool) l false fun b l=>@List.casesOn J (fun Z=>Bool) l (GZ (vI a fun Z=>vI b fun Z=>some ())) fun Z Z=>false
def nP(idx:Nat→Option Nat)(mo mo':MO):Bool:=@MO.casesOn (fun Z=>Bool) mo' (fun m=>@MO.casesOn (fun Z=>Bool) mo (fun l=>all2 (tB idx 24) l m) (fun Z=>false) (fun Z Z=>false) (fun Z=>false) (fun Z Z=>false) (fun Z=>false) (fun Z Z=>false) false false false (fun Z=>false) false) (fun m=>@MO.casesOn (fun Z=>Bool) mo (fun Z=>false) (fun l=>all2 (kp (tB idx 24)) l m) (fun Z Z=>false) (fun Z=>false) (fun Z Z=>false) (fun Z=>false) (fun Z Z=>false) false false false (fun Z=>false) false) (fun C d'=>@MO.casesOn (fun Z=>Bool) mo (fun Z=>false) (fun Z=>false) (fun B d=>band (Nat.beq B C) (isSome (idx d) d')) (fun Z=>false) (fun Z Z=>false) (fun Z=>false) (fun Z Z=>false) false false false (fun Z=>false) false) (fun m=>@MO.casesOn (fun Z=>Bool) mo (fun Z=>false) (fun Z=>false) (fun Z Z=>false) (fun l=>all2 (kp (tB idx 24)) l m) (fun Z Z=>false) (fun Z=>false) (fun Z Z=>false) false false false (fun Z=>false) false) (fun k' m=>@MO.casesOn (fun Z=>Bool) mo (fun Z=>false) (fun Z=>false) (fun Z Z=>false) (fun Z=>false) (fun k l=>band (Nat.beq k k') (all2 (G3 (tB idx 24)) l m)) (fun Z=>false) (fun Z Z=>false) false false false (fun Z=>false) false) (fun v'=>@MO.casesOn (fun Z=>Bool) mo (fun Z=>false) (fun Z=>false) (fun Z Z=>false) (fun Z=>false) (fun Z Z=>false) (fun v=>G3 (tB idx 24) v v') (fun Z Z=>false) false false false (fun Z=>false) false) (fun c' m=>@MO.casesOn (fun Z=>Bool) mo (fun Z=>false) (fun Z=>false) (fun Z Z=>false) (fun Z=>false) (fun Z Z=>false) (fun Z=>false) (fun c l=>band (Nat.beq c c') (all2 (fun a b=>band (Nat.beq a.1 b.1) (Nat.beq a.2 b.2)) l m)) false false false (fun Z=>false) false) false true false (fun m=>@List.casesOn (Nat×Nat) (fun Z=>Bool) m (@MO.casesOn (fun Z=>Bool) mo TH (fun Z=>false) (fun Z Z=>false) (fun Z=>false) (fun Z Z=>false) (fun Z=>false) (fun Z Z=>false) false false false (fun Z=>true) false) (fun Z Z=>false)) false
theorem IB:∀{l m:List (Nat×Nat)},all2 (fun a b=>band (Nat.beq a.1 b.1) (Nat.beq a.2 b.2)) l m=true→l=m
 |[],_,q=>(Ay q).symm
 |_::_,_,q=>(Av q).elim fun Z y=>y.elim fun Z y=>let z:=ew y.2.1;y.1.symm▸Prod.ext (aY z.1) (aY z.2)▸IB y.2.2▸rfl
theorem vm{α β:Type}{p:α→β→Bool}:∀{l:List α} {m:List β},all2 p l m=true→l.length=m.length∧∀(i:Nat) (b:β),m[i]? =some b→∃a,l[i]? =some a∧p a b=true
 |[],m,q=>(Ay q).symm▸⟨rfl,fun Z Z h=>cw h⟩
 |a::l,m,q=>(Av q).elim fun b' y=>y.elim fun m' y=>
  let z:=vm y.2.2
  y.1.symm▸⟨congrArg Nat.succ z.1,fun i b=>@Nat.casesOn (fun i=>(b'::m')[i]? =some b→∃a',(a::l)[i]? =some a'∧p a' b=true) i (fun h=>⟨a,rfl,aV h▸y.2.1⟩) fun i h=>z.2 i b h⟩
theorem kW.wk(hi:∀i j a,idx i=some j→ρ[i]? =some a→ρ₂[j]? =some a)(hs:∀a,dY c ρ a→dY c ρ₂ a):∀{o o':Option J} {V:Option Value},G3 (tB idx 24) o o'=true→kW c ρ h o V→kW c ρ₂ h o' V
 |none,none,none,_,_=>trivial
 |none,none,some _,_,r=>r.elim
 |none,some _,_,q,_=>cF q
 |some _,none,_,q,_=>cF q
 |some _,some _,none,_,r=>r.elim
 |some _,some _,some _,q,r=>cI.wk hi hs 24 q r
theorem acW:∀{l:List J},TH l=true→∃x y:Int,l=[.int x,.int y]
 |[],q=>cF q
 |[_],q=>cF q
 |[_,_],q=>
  let⟨x,e1,q⟩:=t8 (RL q)
  let⟨y,e2,_⟩:=t8 q
  ⟨x,y,e1▸e2▸rfl⟩
 |_::_::_::_,q=>cF q
theorem afH(hi:∀i j a,idx i=some j→ρ[i]? =some a→ρ₂[j]? =some a)(hs:∀a,dY c ρ a→dY c ρ₂ a){a:Addr}{k:Nat}{l m:List (Option J)}(q2:all2 (G3 (tB idx 24)) l m=true)(x:eQ c ρ h a (.fr k l)):eQ c ρ₂ h a (.fr k m):=
 let g:=vm q2
 x.elim fun mm x=>⟨mm,x.1,g.1.symm.trans x.2.1,fun i y p e1 e2=>(g.2 i p e2).elim fun p0 w=>(x.2.2 i y p0 e1 w.1).wk hi hs w.2⟩
theorem adQ(hs:∀a,dY c ρ a→dY c ρ₂ a){a cc:Addr}{l:List (Nat×Nat)}(x:eQ c ρ h a (.tab cc l)):eQ c ρ₂ h a (.tab cc l):=
 let⟨hd,ps,e,tr,hp⟩:=x
 ⟨hd,ps,e,tr,fun pos=>⟨(hp pos).1,fun hq=>match codeAmong pos ps.toList,(hp pos).2 hq with|_,.mk a5 a6=>.mk a5 (hs _ a6)⟩⟩
theorem eQ.wk(hi:∀i j a,idx i=some j→ρ[i]? =some a→ρ₂[j]? =some a)(hs:∀a,dY c ρ a→dY c ρ₂ a){a:Addr}{mo mo':MO}:nP idx mo mo'=true→eQ c ρ h a mo→eQ c ρ₂ h a mo':=
 have ih:∀{v v':J} {V:Value},tB idx 24 v v'=true→cI c ρ h v V→cI c ρ₂ h v' V:=fun a b=>cI.wk hi hs 24 a b
 @MO.casesOn (fun mo'=>nP idx mo mo'=true→eQ c ρ h a mo→eQ c ρ₂ h a mo') mo' (fun m=>@MO.casesOn (fun mo=>nP idx mo (.lst m)=true→eQ c ρ h a mo→eQ c ρ₂ h a (.lst m)) mo (fun l q x=>let⟨Vs,n,e,r⟩:=x;⟨Vs,n,e,Ez ih r q⟩) (fun Z q Z=>cF q) (fun Z Z q Z=>cF q) (fun Z q Z=>cF q) (fun Z Z q Z=>cF q) (fun Z q Z=>cF q) (fun Z Z q Z=>cF q) (fun q Z=>cF q) (fun q Z=>cF q) (fun q Z=>cF q) (fun Z q Z=>cF q) (fun q Z=>cF q)) (fun m=>@MO.casesOn (fun mo=>nP idx mo (.lr m)=true→eQ c ρ h a mo→eQ c ρ₂ h a (.lr m)) mo (fun Z q Z=>cF q) (fun l q x=>let⟨L,e,hm,r⟩:=x;⟨L,e,hm,AL ih r q⟩) (fun Z Z q Z=>cF q) (fun Z q Z=>cF q) (fun Z Z q Z=>cF q) (fun Z q Z=>cF q) (fun Z Z q Z=>cF q) (fun q Z=>cF q) (fun q Z=>cF q) (fun q Z=>cF q) (fun Z q Z=>cF q) (fun q Z=>cF q)) (fun C d'=>@MO.casesOn (fun mo=>nP idx mo (.ins C d')=true→eQ c ρ h a mo→eQ c ρ₂ h a (.ins C d')) mo (fun Z q Z=>cF q) (fun Z q Z=>cF q) (fun B d q x=>let⟨q1,q2⟩:=ew q;let⟨o,da,e,c1,d1,dt,ne,r⟩:=x;⟨o,da,e,aY q1▸c1,d1,dt,ne,hi _ _ _ (q_ q2) r⟩) (fun Z q Z=>cF q) (fun Z Z q Z=>cF q) (fun Z q Z=>cF q) (fun Z Z q Z=>cF q) (fun q Z=>cF q) (fun q Z=>cF q) (fun q Z=>cF q) (fun Z q Z=>cF q) (fun q Z=>cF q)) (fun m=>@MO.casesOn (fun mo=>nP idx mo (.lS m)=true→eQ c ρ h a mo→eQ c ρ₂ h a (.lS m)) mo (fun Z q Z=>cF q) (fun Z q Z=>cF q) (fun Z Z q Z=>cF q) (fun l q x=>let⟨L,mm,e,ex,hv,r⟩:=x;⟨L,mm,e,ex,hv,AL ih r q⟩) (fun Z Z q Z=>cF q) (fun Z q Z=>cF q) (fun Z Z q Z=>cF q) (fun q Z=>cF q) (fun q Z=>cF q) (fun q Z=>cF q) (fun Z q Z=>cF q) (fun q Z=>cF q)) (fun k' m=>@MO.casesOn (fun mo=>nP idx mo (.fr k' m)=true→eQ c ρ h a mo→eQ c ρ₂ h a (.fr k' m)) mo (fun Z q Z=>cF q) (fun Z q Z=>cF q) (fun Z Z q Z=>cF q) (fun Z q Z=>cF q) (fun k l q x=>let⟨q1,q2⟩:=ew q;afH hi hs q2 (aY q1▸x)) (fun Z q Z=>cF q) (fun Z Z q Z=>cF q) (fun q Z=>cF q) (fun q Z=>cF q) (fun q Z=>cF q) (fun Z q Z=>cF q) (fun q Z=>cF q)) (fun v'=>@MO.casesOn (fun mo=>nP idx mo (.fg v')=true→eQ c ρ h a mo→eQ c ρ₂ h a (.fg v')) mo (fun Z q Z=>cF q) (fun Z q Z=>cF q) (fun Z Z q Z=>cF q) (fun Z q Z=>cF q) (fun Z Z q Z=>cF q) (fun v q x=>let⟨V,hc,r⟩:=x;⟨V,hc,r.wk hi hs q⟩) (fun Z Z q Z=>cF q) (fun q Z=>cF q) (fun q Z=>cF q) (fun q Z=>cF q) (fun Z q Z=>cF q) (fun q Z=>cF q)) (fun c' m=>@MO.casesOn (fun mo=>nP idx mo (.tab c' m)=true→eQ c ρ h a mo→eQ c ρ₂ h a (.tab c' m)) mo (fun Z q Z=>cF q) (fun Z q Z=>cF q) (fun Z Z q Z=>cF q) (fun Z q Z=>cF q) (fun Z Z q Z=>cF q) (fun Z q Z=>cF q) (fun k l q x=>let⟨q1,q2⟩:=ew q;adQ hs (aY q1▸IB q2▸x)) (fun q Z=>cF q) (fun q Z=>cF q) (fun q Z=>cF q) (fun Z q Z=>cF q) (fun q Z=>cF q)) (fun q Z=>cF q) (fun Z x=>x.there) (fun q Z=>cF q) (fun m=>@List.casesOn (Nat×Nat) (fun m=>nP idx mo (.iI m)=true→eQ c ρ h a mo→eQ c ρ₂ h a (.iI m)) m (@MO.casesOn (fun mo=>nP idx mo (.iI [])=true→eQ c ρ h a mo→eQ c ρ₂ h a (.iI [])) mo (fun l q x=>let⟨x0,y0,e0⟩:=acW q;let⟨Vs,n,e,r⟩:=x;⟨x0,y0,Vs,n,e,dh.ints (l:=[x0,y0]) (e0▸r),trivial⟩) (fun Z q Z=>cF q) (fun Z Z q Z=>cF q) (fun Z q Z=>cF q) (fun Z Z q Z=>cF q) (fun Z q Z=>cF q) (fun Z Z q Z=>cF q) (fun q Z=>cF q) (fun q Z=>cF q) (fun q Z=>cF q) (fun Z Z x=>let⟨x',y,Vs,n,e,r,_⟩:=x;⟨x',y,Vs,n,e,dh.ints (l:=[x',y]) r,trivial⟩) (fun q Z=>cF q)) (fun Z Z q Z=>cF q)) (fun q Z=>cF q)
def posOf(sel:List Nat)(i:Nat):Option Nat:=@List.rec Nat (fun Z=>Option Nat) none (fun a Z ih=>@Bool.casesOn (fun Z=>Option Nat) (Nat.beq a i) (ej ih fun j=>some (j+1)) (some 0)) sel
theorem Qm:∀{sel:List Nat} {i j:Nat},posOf sel i=some j→sel[j]? =some i
 |[],_,_,h=>cw h
 |a::sel,i,j,h=>@Bool.casesOn (fun b=>Nat.beq a i=b→@Bool.casesOn (fun Z=>Option Nat) b (ej (posOf sel i) fun j=>some (j+1)) (some 0)=some j→(a::sel)[j]? =some i) (Nat.beq a i)
  (fun Z h=>(eP h).elim fun Z y=>aV y.2▸Qm (sel:=sel) y.1) (fun e h=>aV h▸congrArg some (aY e)) rfl h
def Wk(l:List Nat):Bool:=@List.rec Nat (fun Z=>Bool) true (fun a l ih=>band (qt (l.any (Nat.beq a))) ih) l
theorem Pk:∀{l:List Nat},Wk l=true→l.Nodup
 |[],_=>.nil
 |a::l,h=>let y:=ew h;List.nodup_cons.mpr ⟨fun hm=>absurd (Nat.beq_refl a) (List.any_eq_false.mp (ET y.1) a hm),Pk y.2⟩
def G5(sel:List Nat)(σ cG:List MO):Bool:=band (Wk sel) (all2 (fun i mo'=>@Option.casesOn MO (fun Z=>Bool) (d7 σ i) false (fun mo=>nP (posOf sel) mo mo')) sel cG)
theorem SR.wk{cG:List MO}{sel:List Nat}(sr:SR c ρ σ s)(q:G5 sel σ cG=true):∃ρ₂,SR c ρ₂ cG s∧(∀i j a,posOf sel i=some j→ρ[i]? =some a→ρ₂[j]? =some a)∧∀a∈ρ₂,∃i,i∈sel∧ρ[i]? =some a:=by
 refine zz fun GG KK=>?_
 obtain⟨q0,q⟩:=ew q
 have nd:=Pk q0
 obtain⟨ql,qa⟩:=vm q
 have qD:∀j i mo',sel[j]? =some i→cG[j]? =some mo'→∃mo,σ[i]? =some mo∧nP (posOf sel) mo mo'=true:=fun j i mo' e1 e2=>(qa j mo' e2).elim fun i' w=>(l8 (x:=d7 σ i') w.2).elim fun mo u=>⟨mo,aV (w.1.symm.trans e1)▸(il _ _).symm.trans u.1,u.2⟩
 have gD:∀j i,sel[j]? =some i→∃a,ρ[i]? =some a:=fun j i e=>(qD j i _ e (bj (ql▸(aZ e).1))).elim fun mo u=>⟨_,bj (sr.len.symm▸(aZ u.1).1)⟩
 have zj:∀j i a,sel[j]? =some i→ρ[i]? =some a→(sel.map fun i=>ρ.getD i 0)[j]? =some a:=fun j i a e1 e2=>List.getElem?_map.trans ((congrArg (Option.map fun i=>ρ.getD i 0) e1).trans (congrArg some (List.getD_eq_getElem?_getD.trans (congrArg (·.getD 0) e2))))
 have Jg:∀j a,(sel.map fun i=>ρ.getD i 0)[j]? =some a→∃i,sel[j]? =some i∧ρ[i]? =some a:=fun j a e=>(Option.map_eq_some_iff.mp (List.getElem?_map.symm.trans e)).elim fun i w=>(gD j i w.1).elim fun a' u=>⟨i,w.1,u.trans ((zj j i a' w.1 u).symm.trans e)⟩
 have Ss:∀a∈sel.map (fun i=>ρ.getD i 0),∃i,i∈sel∧ρ[i]? =some a:=fun a ha=>(List.mem_iff_getElem?.mp ha).elim fun j e=>(Jg j a e).elim fun i w=>⟨i,a0 w.1,w.2⟩
 have px:∀a∈sel.map (fun i=>ρ.getD i 0),a∈ρ:=fun a ha=>(Ss a ha).elim fun Z w=>a0 w.2
 have hi:∀i j a,posOf sel i=some j→ρ[i]? =some a→(sel.map fun i=>ρ.getD i 0)[j]? =some a:=fun i j a e1 e2=>zj j i a (Qm e1) e2
 have hs:∀a,dY c ρ a→dY c (sel.map fun i=>ρ.getD i 0) a:=fun a h=>⟨fun z=>h.1 (px a z),h.2⟩
 have mH:(sel.map fun i=>ρ.getD i 0).Nodup:=List.pairwise_iff_getElem.mpr fun j k hj hk hjk e0=>by
  have e:=(bj hj).trans ((congrArg some e0).trans (bj hk).symm)
  have uC:=hk
  rw[List.length_map]at uC
  obtain⟨a,ha⟩:=gD k _ (bj uC)
  have e2:=zj k _ a (bj uC) ha
  obtain⟨i',w,u⟩:=Jg j a (e.trans e2)
  have:=(List.getElem?_inj (aZ u).1 sr.nodup).mp (u.trans ha.symm)
  exact bx hjk ((List.getElem?_inj (aZ w).1 nd).mp (w.trans (this▸(bj uC).symm)))
 refine KK ⟨_,⟨sr.gens,sr.os,(List.length_map _).trans ql,mH,fun a ha=>sr.fresh a (px a ha),sr.old,fun a ha=>let z:=sr.d9 a ha;⟨z.1,fun w=>z.2.1 (px a w),z.2.2⟩,fun j a mo' e1 e2=>?_⟩,hi,Ss⟩
 exact(Jg j a e1).elim fun i w=>(qD j i mo' w.1 e2).elim fun mo u=>(sr.obj _ _ _ w.2 u.1).wk hi hs u.2
end
section
variable{c:Cx}{g:FC}{n:Nat}{f f':Fr}{S S':List MO}{st:Stmt}{iE:List Stmt}{x:Fr→List MO→Out MF}
theorem Ext.drop{ρ cC:List Addr}{h h':Heap}(x:Ext ρ h cC h'):Ext ρ h ρ h':=⟨⟨[],by simp,fun Z ha=>nomatch ha⟩,x.same,x.live⟩
theorem Ext.more{ρ ρ₂:List Addr}{h h':Heap}(x:Ext ρ₂ h ρ₂ h')(hm:∀a∈ρ₂,a∈ρ):Ext ρ h ρ h':=⟨⟨[],by simp,fun Z ha=>nomatch ha⟩,fun b o e hb=>x.same b o e fun z=>hb (hm b z),x.live⟩
noncomputable def TabsAt(ρ:List Addr)(h:Heap):Prop:=∀i a,i<2→ρ[i]? =some a→∃ps,h.get? a=some (tabObj ps)
noncomputable def Bl(m:MO):Bool:=@MO.casesOn (fun Z=>Bool) m (fun Z=>false) (fun Z=>false) (fun Z Z=>false) (fun Z=>false) (fun Z Z=>false) (fun Z=>false) (fun Z Z=>true) false false false (fun Z=>false) false
theorem abZ{ρ:List Addr}{h:Heap}{a:Addr}{m:MO}:Bl m=true→eQ c ρ h a m→∃ps,h.get? a=some (tabObj ps):=@MO.casesOn (fun m=>Bl m=true→eQ c ρ h a m→∃ps,h.get? a=some (tabObj ps)) m (fun Z h Z=>cF h) (fun Z h Z=>cF h) (fun Z Z h Z=>cF h) (fun Z h Z=>cF h) (fun Z Z h Z=>cF h) (fun Z h Z=>cF h) (fun Z Z Z x=>x.2.elim fun ps y=>⟨ps,y.1⟩) (fun h Z=>cF h) (fun h Z=>cF h) (fun h Z=>cF h) (fun Z h Z=>cF h) (fun h Z=>cF h)
def Jh(S:List MO):Bool:=band (oB (d7 S 0) Bl) (oB (d7 S 1) Bl)
theorem SR.tabs{ρ:List Addr}{s:Shared}(sr:SR c ρ S s)(h:Jh S=true):TabsAt ρ s.heap:=fun i a hi ha=>by
 have y:=ew h
 have hm:oB (d7 S i) Bl=true:=match i,hi with
  |0,_=>y.1
  |1,_=>y.2
 exact(l8 hm).elim fun m z=>abZ z.2 (sr.obj i a m ha ((il _ _).symm.trans z.1))
theorem TabsAt.pre{ρ cC:List Addr}{h h' k:Heap}(x:TabsAt cC k)(e:Ext ρ h cC h'):TabsAt ρ k:=fun i a hi ha=>x i a hi (e.get ha)
structure Good(c:Cx)(g:FC)(n:Nat)(iE:List Stmt)(f:Fr)(S:List MO):Prop where
 run:∀A env ρ s,g0 A n→fW c g A env f ρ s.heap→SR c ρ S s→∀(Q:Flow→Shared→Prop) (E:Value→Shared→Prop),
  (∀s',Ext ρ s.heap ρ s'.heap→s'.gens=#[]→s'.os=c.os→Old c.h0 s'.heap→TabsAt ρ s'.heap→Q (.ret (.bool true)) s')→wpAny (model c.prog c.w) A (execs iE env) Q E s
theorem l9.nx{ρ:List Addr}{h:Heap}{V:Flow}:l9 c ρ h .next V→V=.next:=@Flow.casesOn (fun V=>l9 c ρ h .next V→V=.next) V (fun Z=>rfl) (fun f=>f.elim) (fun f=>f.elim) (fun Z f=>f.elim)
theorem l9.rt{ρ:List Addr}{h:Heap}{v:J}{V:Flow}:l9 c ρ h (.ret v) V→∃W,V=.ret W∧cI c ρ h v W:=@Flow.casesOn (fun V=>l9 c ρ h (.ret v) V→∃W,V=.ret W∧cI c ρ h v W) V (fun f=>f.elim) (fun f=>f.elim) (fun f=>f.elim) (fun W f=>⟨W,rfl,f⟩)
theorem Res.G7{β:Type}{a b:β}(h:Res.ok a=.ok b):a=b:=aV (congrArg (fun r=>@Res.casesOn β (fun Z=>Option β) r some fun Z=>none) h)
theorem Good.step(h1:D1 c g n st x)(hx:x f S=some (.ok .next,S'))(h2:Good c g n iE f S'):Good c g n (st::iE) f S:=⟨fun A env ρ s hr he sr Q E hQ=>by
 refine wpAny_execs_cons ((h1 A env f ρ S s hr he sr).run _ _ hx _ _ ⟨fun b V cC s' hb e1 cY rf=>?_,fun Z Z Z Z q=>(nomatch q)⟩)
 obtain rfl:=l9.nx (Res.G7 hb▸rf)
 exact h2.run A env cC s' hr (he.mono e1) cY Q E fun oj e2 h3 h4 h5 h6=>hQ oj (e1.trans e2).drop h3 h4 h5 (h6.pre e1)⟩
theorem Good.ret(h1:D1 c g n st x)(hx:x f S=some (.ok (.ret (.bool true)),S'))(ht:Jh S'=true):Good c g n (st::iE) f S:=⟨fun A env ρ s hr he sr Q E hQ=>by
 refine wpAny_execs_cons ((h1 A env f ρ S s hr he sr).run _ _ hx _ _ ⟨fun b V cC s' hb e1 cY rf=>?_,fun Z Z Z Z q=>(nomatch q)⟩)
 obtain⟨W,rfl,Ld⟩:=l9.rt (Res.G7 hb▸rf)
 obtain rfl:W=.bool true:=Ld.inv
 exact hQ s' e1.drop cY.gens cY.os cY.old ((cY.tabs ht).pre e1)⟩
def Wl(sel:List Nat)(f f':Fr):Bool:=band (band (isSome (posOf sel 0) 0) (isSome (posOf sel 1) 1))<|band (isSome (posOf sel f.fr) f'.fr) (all2 (fun i i'=>isSome (posOf sel i) i') f.cs f'.cs)
theorem Good.weak(sel:List Nat)(hw:G5 sel S S'=true)(hf:Wl sel f f'=true)(h:Good c g n iE f' S'):Good c g n iE f S:=⟨fun A env ρ s hr he sr Q E hQ=>by
 refine(sr.wk hw).elim fun ρ₂ y=>?_
 have fa:=ew hf
 have fb:=ew fa.1
 have fc:=ew fa.2
 have hi:=y.2.1
 have g2:=vm fc.2
 have cl:∀(j:Nat) (x:Str) (i':Nat),g.cn[j]? =some x→f'.cs[j]? =some i'→∃a,env.cells.lookup x=some a∧ρ₂[i']? =some a:=fun j x i' e1 e2=>(g2.2 j i' e2).elim fun i0 w=>(he.cell j x i0 e1 w.1).elim fun a q=>⟨a,q.1,hi _ _ _ (q_ w.2) q.2⟩
 exact h.run A env ρ₂ s hr ⟨he.scope,he.kind,hi _ _ _ (q_ fc.1) he.loc,he.glob,he.blt,cl,he.here,he.nM,he.code⟩ y.1 Q E fun s' e h3 h4 h5 h6=>hQ s' (e.more fun a ha=>(y.2.2 a ha).elim fun Z q=>a0 q.2) h3 h4 h5 fun i a gD ha=>h6 i a gD (match i,gD with
  |0,_=>hi _ _ _ (q_ fb.1) ha
  |1,_=>hi _ _ _ (q_ fb.2) ha)⟩
theorem ab0(z:Int)(m:Nat)(hm:0<m):∃r,r<m∧z.fmod (.ofNat m)=.ofNat r:=
 have h0:(0:Int)<.ofNat m:=Int.ofNat_lt.mpr hm
 (Int.eq_ofNat_of_zero_le (Int.fmod_nonneg_of_pos z h0)).elim fun r e=>⟨r,Int.ofNat_lt.mp (e▸Int.fmod_lt_of_pos z h0),e⟩
theorem Q4(x y:Int)(m:Nat)(hm:0<m):∃r,r<m∧(j5 x y (.ofNat m)).1=.ofNat r:=by
 unfold j5
 cases decide (x>0)<;>exact ab0 _ m hm
theorem rA.more:∀{ds:List (Nat×Nat)} {x y:Int} (m:Nat),rA x y ds→0<m→m<1073741824→∃r,r<m∧rA x y (ds++[(m,r)])
 |[],x,y,m,_,h1,h2=>(Q4 x y m h1).elim fun r h=>⟨r,h.1,h1,h2,h.2,trivial⟩
 |_::_,x,y,m,z,h1,h2=>(rA.more m z.2.2.2 h1 h2).elim fun r h=>⟨r,h.1,z.1,z.2.1,z.2.2.1,h.2⟩
theorem Good.draw(p m:Nat){ds:List (Nat×Nat)}(hp:d7 S p=some (.iI ds))(h1:Nat.blt 0 m=true)(h2:Nat.blt m 1073741824=true)(h:∀r,r<m→Good c g n iE f (put S p (.iI (ds++[(m,r)])))):Good c g n iE f S:=⟨fun A env ρ s hr he sr Q E hQ=>by
 refine zz fun GG KK=>?_
 obtain⟨a,ha,x,y,Vs,k,e,rv,z⟩:=sr.at ((il _ _).symm.trans hp)
 obtain⟨r,gD,z2⟩:=rA.more m z (Nat.blt_eq.mp h1) (Nat.blt_eq.mp h2)
 exact KK ((h r gD).run A env ρ s hr he (sr.EV hp fun a' uK=>aV (ha.symm.trans uK)▸⟨x,y,Vs,k,e,rv,z2⟩) Q E hQ)⟩
def qH(S S':List MO):Bool:=all2 (nP some) S S'
theorem SR.qH{σ cG:List MO}{ρ:List Addr}{s:Shared}(sr:SR c ρ σ s)(h:Mine.qH σ cG=true):SR c ρ cG s:=
 let g:=vm h
 sr.aiD g.1.symm fun i a mo' e1 e2=>(g.2 i mo' e2).elim fun mo w=>(sr.obj i a mo e1 w.1).wk (fun i j a e q=>aV e▸q) (fun Z q=>q) w.2
theorem Good.Su(hw:Mine.qH S S'=true)(h:Good c g n iE f S'):Good c g n iE f S:=⟨fun A env ρ s hr he sr Q E hQ=>h.run A env ρ s hr he (sr.qH hw) Q E hQ⟩
def frP(k:Nat)(f f':Fr):Bool:=band (Nat.beq f'.fr f.fr) (band (Nat.blt f.fr k) (all2 (fun i i'=>band (Nat.beq i i') (Nat.blt i k)) f'.cs (gn f'.cs.length f.cs)))
theorem Good.afI(k:Nat){f':Fr}{S1 S2:List MO}(h1:∀φ,D1 (c.hide φ) g n st x)(hlen:sO k S=true)(rF:iJ k S=true)(hf:frP k f f'=true)(hx:x f' (gn k S)=some (.ok .next,S1))(uw:iJ k S1=true)
  (hw:Mine.qH (gn k S1) S2=true) (uF:iJ k S2=true) (h2:Good c g n iE f (app S2 (S.drop k))):Good c g n (st::iE) f S:=⟨fun A env ρ s hr he sr Q E hQ=>by
 rw[t9]at rF uw uF
 rw[oL]at hx hw
 rw[nD]at h2
 have hk:=H0 hlen
 have fa:=ew hf
 have fb:=ew fa.2
 have f2:=Nat.blt_eq.mp fb.1
 have gg:=vm fb.2
 rw[oL]at gg
 have Wm:k≤ρ.length:=sr.len.symm▸hk
 have cl:∀(j:Nat) (x:Str) (i:Nat),g.cn[j]? =some x→f'.cs[j]? =some i→∃a,env.cells.lookup x=some a∧(ρ.take k)[i]? =some a:=fun j x i e1 e2=>
  have hj:=(aZ e2).1
  have e3:=bj (gg.1▸hj:j<(f.cs.take f'.cs.length).length)
  (gg.2 j _ e3).elim fun i' w=>
  have v:=ew w.2
  have ei:=aV (w.1.symm.trans e2)
  (he.cell j x i e1 ((bc hj).symm.trans (e3.trans (congrArg some ((aY v.1).symm.trans ei))))).elim fun a q=>⟨a,q.1,(bc (ei▸Nat.blt_eq.mp v.2)).trans q.2⟩
 have nL:fW (c.hide (ρ.drop k++c.d9)) g A env f' (ρ.take k) s.heap:=
  ⟨he.scope,he.kind,(aY fa.1).symm▸(bc f2).trans he.loc,he.glob,he.blt,cl,he.here,⟨he.nM.ex⟩,he.code⟩
 refine wpAny_execs_cons ((h1 (ρ.drop k++c.d9) A env f' (ρ.take k) (S.take k) s hr nL (sr.hidden k rF)).run _ _ hx _ _ ⟨fun b V cC s' hb e1 cY rf=>?_,fun Z Z Z Z q=>(nomatch q)⟩)
 obtain rfl:=l9.nx (Res.G7 hb▸rf)
 have e2:=e1.forget (m:=k) (Nat.le_of_eq (List.length_take_of_le Wm))
 have fh:=(cY.forget k uw).qH hw
 have hJ:=sr.shown k hk e2 fh uF
 have j8:S2.length=k:=fh.len.symm.trans (List.length_take_of_le (e1.EK Wm).2)
 rw[List.take_of_length_le (Nat.le_of_eq j8)]at hJ
 exact h2.run A env ρ s' hr (he.mono (e2.shown k)) hJ Q E fun oj e4 h3 h4 h5 h6=>hQ oj ((e2.shown k).trans e4) h3 h4 h5 h6⟩
end
def W0:J:=(.obj 1002 [(GJ,.none),(s3,(.fB [(GR,(.obj 959 [(uI,(.str GR)),(pQ,(.str VY)),(r9,(.tup [(.str s8),(.tup [(.tup [(.str GQ),(.tup [(.str ot),(.tup []),(.tup [(.tup [(.str ng)])]),(.bool false)])])])])),(tw,(.fB []))])),(GP,(.obj 959 [(uI,(.str GP)),(pQ,(.str VX)),(r9,(.tup [(.str ng)])),(tw,(.fB [(GQ,(.tup [(.bool false),(.tup [(.str ot),(.tup []),(.tup [(.tup [(.str ng)])]),(.bool false)]),(.str We)]))]))])),(GO,(.obj 959 [(uI,(.str GO)),(pQ,(.str GK)),(r9,(.tup [(.str wV),(.tup [(.tup [(.str Wg),(.tup [(.str s7),(.str s7)]),(.bool false)])])])),(tw,(.fB [(V_,(.tup [(.bool true),(.tup [(.str ot),(.tup []),(.tup []),(.bool false)]),(.str V9)])),(Wc,(.tup [(.bool true),(.tup [(.str ot),(.tup []),(.tup []),(.bool false)]),(.str V8)]))]))])),(GN,(.obj 959 [(uI,(.str GN)),(pQ,(.str GK)),(r9,(.tup [(.str wV),(.tup [(.tup [(.str Wf),(.tup [(.str s7),(.str s7)]),(.bool false)])])])),(tw,(.fB [(V5,(.tup [(.bool true),(.tup [(.str ot),(.tup [(.tup [(.str s7),(.str s7)])]),(.tup []),(.bool false)]),(.str V4)])),(V6,(.tup [(.bool true),(.tup [(.str ot),(.tup []),(.tup []),(.bool false)]),(.str V3)])),(V7,(.tup [(.bool true),(.tup [(.str ot),(.tup []),(.tup []),(.bool false)]),(.str VZ)]))]))])),(s2,(.obj 959 [(uI,(.str s2)),(pQ,(.str s1)),(r9,(.tup [(.str s0)])),(tw,(.fB []))]))])),(GI,(.fB [])),(GH,(.fB [])),(GF,(.fB [])),(GD,(.fB [])),(GC,(.fB [])),(GB,(.fB [])),(GA,(.lst [])),(Gz,(.lst [])),(Ck,.none),(Gy,.none),(uH,(.fB [])),(Gx,(.fB [])),(Gw,(.fB [])),(Gv,(.fB [])),(Gu,(.lst [])),(Gs,(.lst [])),(Gr,(.lst [])),(Gq,(.bool true))])
def PS(t1 t2 ds:List (Nat×Nat))(ls:List J):List MO:=[.tab 1097 t1,.tab 1116 t2,.iI ds,(.ins 935 4),(.lS [(l_,W0),(pQ,(.str s1)),(FP,(.loc 7)),(FO,(.str s6)),(BA,(.loc 5)),(FN,.none),(uJ,.none),(tv,(.loc 6)),(FL,(.tup [])),(FK,(.tup [])),(FJ,(.tup [])),(FI,(.bool false)),(FH,(.lst [])),(GX,(.fB [])),(GW,(.lst [])),(GV,(.lst [])),(uH,(.fB []))]),(.lr [(s4,(.dC 1055)),(s5,(.dC 1062))]),.lst ls,(.ins 817 8),(.lS [(uJ,.none),(GU,.none),(GS,(.fB []))])]
def wW:J:=(.tup [(.str s7),(.str s7)])
def wA:J:=(.tup [(.str s8),(.tup [])])
def wB:J:=(.tup [(.str s0)])
def wN:J:=(.tup [(.str s3),(.str s2)])
def fD:Nat→J:=fun t=>(d7 [.none,wW,wA,wB,wN,.none] t).getD .none
noncomputable def iv(n:Nat):J:=.int (.ofNat n)
def iz(w s:Nat):J:=(d7 [(.tup [(.tup [(.str s4),(iv s),(.tup [(.str r8),(.tup [(.str mL),(.str s7)]),(iv s),(.int (.ofNat 5))])]),(.tup [(.str r8),(.tup [(.str mL),(.str s7)]),(iv s),(.int (.ofNat 5))]),.none]),
 (.tup [(.tup [(.str s4),(iv s),(.tup [(.str jh),wW,(iv s),(.int (.ofNat 3))])]),(.tup [(.str jh),wW,(iv s),(.int (.ofNat 3))]),.none]),
 (.tup [(.tup [(.str s4),(iv s),(.tup [(.str jh),wB,(iv s),(.int (.ofNat 4))])]),(.tup [(.str jh),wB,(iv s),(.int (.ofNat 4))]),.none]),
 (.tup [(.tup [(.str s4),(iv s),(.tup [(.str mK),(.tup [(.str mK)]),(iv s)])]),(.tup [(.str mK),(.tup [(.str mK)]),(iv s)]),.none]),
 (.tup [(.tup [(.str s4),(iv s),(.tup [(.str pO),(.tup [(.str jv),(.tup [wW,wB])]),(iv s),(.tup [(.str qF),(.str Ci)]),(.tup [])])]),(.tup [(.str pO),(.tup [(.str jv),(.tup [wW,wB])]),(iv s),(.tup [(.str qF),(.str Ci)]),(.tup [])]),.none]),
 (.tup [(.tup [(.str s4),(iv s),(.tup [(.str pO),(.tup [(.str jv),(.tup [wW,wB,wW])]),(iv s),(.tup [(.str qF),(.str Cg)]),(.tup [])])]),(.tup [(.str pO),(.tup [(.str jv),(.tup [wW,wB,wW])]),(iv s),(.tup [(.str qF),(.str Cg)]),(.tup [])]),.none]),
 (.tup [(.tup [(.str s5),(iv s),(.str Gp),(.tup [(.str s4),(iv s),(.tup [(.str jh),(.tup [(.str mM),(.str pP),wW]),(iv s),(.int (.ofNat 7))])])]),(.tup [(.str s9),wW,(iv s),(.tup [(.str jh),(.tup [(.str mM),(.str pP),wW]),(iv s),(.int (.ofNat 7))]),(.bool false)]),(.tup [(.str s9),(.tup [(.str jv),(.tup [wW,wB])]),(iv s),(.tup [(.str jh),(.tup [(.str mM),(.str pP),wW]),(iv s),(.int (.ofNat 7))]),(.bool true)])])] w).getD .none
def Fj(s:Nat):J:=(.tup [(.str s9),(.tup [(.str jv),(.tup [wW,wB])]),(iv s),(.tup [(.str jh),(.tup [(.str mM),(.str pP),wW]),(iv s),(.int (.ofNat 7))]),(.bool true)])
noncomputable def lc(t:J):J:=.tup [.none,t]
def L2:List J:=[lc wW,lc wB]
def L4:List J:=[lc wW,lc wB,lc wW,lc wB]
def L5:List J:=[lc wW,lc wB,lc wW,lc wB,lc wW]
def LS(t1 t2 ds:List (Nat×Nat))(ls:List J)(loc:List (Option J))(T hp me many pair row wanted:Option J):List MO:=
 app (PS t1 t2 ds ls) [.fr 21 loc,.fg (some (.loc 2)),.fg T,.fg (some (.loc 3)),.fg hp,.fg me,.fg many,.fg pair,.fg row,.fg wanted]
noncomputable def f1:Fr:=⟨9,[10,11,12,13,14,15,16,17,18]⟩
noncomputable def un:Option J:=some .ip
noncomputable def T1:List (Nat×Nat):=[(980,22)]
noncomputable def Wn(m:MF):Bool:=@MF.casesOn (fun Z=>Bool) m true fun Z=>false
def rN(y:Res MF):Bool:=@Res.casesOn MF (fun Z=>Bool) y Wn fun Z=>false
theorem afJ{y:Res MF}:rN y=true→y=.ok .next:=@Res.casesOn MF (fun y=>rN y=true→y=.ok .next) y (fun m=>@MF.casesOn (fun m=>Wn m=true→Res.ok m=.ok .next) m (fun Z=>rfl) fun Z h=>cF h) fun Z h=>cF h
def zq(xs:List XS)(f:Fr)(S:List MO):Option (List MO):=@List.rec XS (fun Z=>List MO→Option (List MO)) (fun S=>some S) (fun x Z ih S=>ej (x f S) fun y=>gd (rN y.1) (ih y.2)) xs S
noncomputable def idS:List Nat:=[0,1,2,3,4,5,6,7,8,9,10,11,12,13,14,15,16,17,18]
def apt(o:Option (List MO))(sel:List Nat)(S':List MO):Bool:=oB o fun S=>G5 sel S S'
def ajp(o:Option (List MO))(S':List MO):Bool:=oB o fun S=>qH S S'
def Ji(v:J):Bool:=oB (vB v some) fun b=>b
def LB(y:Res J):Bool:=@Res.casesOn J (fun Z=>Bool) y Ji fun Z=>false
theorem Qn{v:J}(h:Ji v=true):v=.bool true:=(l8 h).elim fun b y=>(AE y.1).elim fun x z=>z.1.trans (congrArg J.bool ((aV z.2).trans y.2))
theorem adR{y:Res J}:LB y=true→y=.ok (.bool true):=@Res.casesOn J (fun y=>LB y=true→y=.ok (.bool true)) y (fun Z h=>congrArg Res.ok (Qn h)) fun Z h=>cF h
def rB(o:Out J)(p:List MO→Bool):Bool:=oB o fun y=>band (LB y.1) (p y.2)
theorem TJ{o:Out J}{p:List MO→Bool}(h:rB o p=true):∃S,o=some (.ok (.bool true),S)∧p S=true:=(l8 h).elim fun y z=>let w:=ew z.2;⟨y.2,z.1.trans (congrArg (fun r=>some (r,y.2)) (adR w.1)),w.2⟩
def Wo(m:MF):Bool:=@MF.casesOn (fun Z=>Bool) m false Ji
def rR(y:Res MF):Bool:=@Res.casesOn MF (fun Z=>Bool) y Wo fun Z=>false
theorem afK{y:Res MF}:rR y=true→y=.ok (.ret (.bool true)):=@Res.casesOn MF (fun y=>rR y=true→y=.ok (.ret (.bool true))) y (fun m=>@MF.casesOn (fun m=>Wo m=true→Res.ok m=.ok (.ret (.bool true))) m (fun h=>cF h) fun Z h=>congrArg (fun v=>Res.ok (MF.ret v)) (Qn h)) fun Z h=>cF h
def k7(xs:List XS)(S S':List MO):Bool:=ajp (zq xs f1 S) S'
def allB(n:Nat)(p:Nat→Bool):Bool:=@Nat.rec (fun Z=>Bool) true (fun i ih=>band (p i) ih) n
abbrev K0:KT:=j3 20
def BD:List (Option J):=[un,none,none,none,none]
def B1:List MO:=LS [] [] [] [] BD none none none none none none none
def B2(ds:List (Nat×Nat)):List MO:=LS T1 [] ds L2 BD none none none none none none none
def B3(w t:Nat):List MO:=LS T1 [] [] L2 BD (some (fD t)) none none none none (some (iz w 30)) none
noncomputable def S0:List MO:=[.tab 1097 [],.tab 1116 [],.lu,.fr 21 [some (.loc 2),none,none,none,none],.fg none,.fg none,.fg none,.fg none,.fg none,.fg none,.fg none,.fg none,.fg none]
noncomputable def f0:Fr:=⟨3,[4,5,6,7,8,9,10,11,12]⟩
noncomputable def TK:List Nat:=[0,1,23,19,18,17,21,15,14,3,4,5,6,7,8,9,10,11,12]
noncomputable def sd:List (Nat×Nat):=[(1001,18)]
def wl(ts:List Nat):Option J:=some (.lst (ts.map fD))
def B4(ds:List (Nat×Nat)):List MO:=LS T1 sd ds L2 BD un none none none none un none
def B6(ds:List (Nat×Nat))(ts:List Nat)(many:Nat):List MO:=LS T1 sd ds L2 BD un none none (some (iv many)) none un (wl ts)
noncomputable def rz(i:Nat):List Nat→List J
 |[]=>[]
 |w::ws=>iz w (20+i)::rz (i+1) ws
def BE(r:J):List (Option J):=[un,some r,none,none,none]
def B7(ws ts:List Nat)(hp:Bool):List MO:=LS T1 sd [] L2 (BE (.lst (rz 0 ws))) un (some (.bool hp)) none un none un (wl ts)
def Lk(lk:Nat):List J:=(d7 [L2,L4,L5] lk).getD []
def B8(ds:List (Nat×Nat))(hp:Bool)(lk:Nat):List MO:=LS T1 sd ds (Lk lk) (BE .ip) un (some (.bool hp)) none un none un un
def B9(hp:Bool)(lk w many:Nat):List MO:=LS T1 sd [] (Lk lk) (BE .ip) un (some (.bool hp)) none (some (iv many)) none (some (iz w 40)) un
noncomputable def Co:List (Nat×Nat):=[(1011,18),(1001,18)]
def wZ(ds:List (Nat×Nat))(lk:Nat):List MO:=LS T1 Co ds (Lk lk) [un,un,un,un,none] un un none un none un un
def Wq(lk a b:Nat)(me:Bool):List MO:=LS T1 Co [] (Lk lk) [un,un,un,un,none] un un (some (.bool me)) un (some (Fj 50)) un (wl [a,b])
noncomputable def cT(r:Nat):Nat:=match Nat.beq r 5 with|true=>0|false=>r
noncomputable def Wr:Fr:=⟨9,[10,11,12,13,14,15,16,17]⟩
def pF(x:XS)(S S2:List MO):Bool:=match x Wr (gn 18 S)with
 |some (.ok .next,S1)=>band (iJ 18 S1) (band (qH (gn 18 S1) S2) (iJ 18 S2))
 |_=>false
noncomputable def nz(q:Nat):Bool:=match Nat.beq q 0 with|true=>false|false=>true
noncomputable def k8(q n:Nat):Nat:=match Nat.beq q 0 with|true=>1|false=>n
noncomputable def LC(a:Nat):Bool:=Nat.blt a 2
noncomputable def Wt(b:Nat):Bool:=match Nat.beq b 0 with|true=>true|false=>Nat.beq b 3
def w0(a b:Nat):Nat:=match band (LC a) (Wt b)with|true=>0|false=>1
def nQ(a b d:Nat):Nat:=match band (LC a) (band (Wt b) (LC d))with|true=>0|false=>2
def B7u(ws:List Nat)(n:Nat)(hp:Bool):List MO:=LS T1 sd [] L2 (BE (.lst (rz 0 ws))) un (some (.bool hp)) none un none un (some (.lst (rep n .ip)))
def TL(o:Out MF):Bool:=match o with
 |some (.ok .next,S)=>(match d7 S 2 with
  |some .lu=>G5 TK S B1
  |_=>false)
 |_=>false
theorem st0:TL (QX K0 f0 S0)=true:=by kernel_rfl
theorem st1:k7 [QY K0] B1 (B2 [])=true:=by kernel_rfl
theorem st2:(allB 7 fun w=>allB 6 fun r=>k7 [QZ K0] (B2 [(7,w),(6,r)]) (B3 w (cT r)))=true:=by kernel_rfl
theorem zI:(allB 7 fun w=>allB 5 fun t=>k7 [Q0 K0] (B3 w t) (B4 []))=true:=by kernel_rfl
theorem afL:(allB 6 fun a=>allB 2 fun q=>k7 [rg K0,rh K0] (B4 [(3,0),(6,a),(2,q)]) (B6 [] [cT a] 1))=true:=by kernel_rfl
theorem afM:(allB 6 fun a=>allB 6 fun b=>allB 2 fun q=>k7 [rg K0,rh K0] (B4 [(3,1),(6,a),(6,b),(2,q)]) (B6 [] [cT a,cT b] (k8 q 2)))=true:=by kernel_rfl
theorem acX:(allB 6 fun b=>allB 6 fun d=>allB 2 fun q=>k7 [rg K0,rh K0] (B4 [(3,2),(6,0),(6,b),(6,d),(2,q)]) (B6 [] [cT 0,cT b,cT d] (k8 q 3)))=true:=by kernel_rfl
theorem acY:(allB 6 fun b=>allB 6 fun d=>allB 2 fun q=>k7 [rg K0,rh K0] (B4 [(3,2),(6,1),(6,b),(6,d),(2,q)]) (B6 [] [cT 1,cT b,cT d] (k8 q 3)))=true:=by kernel_rfl
theorem acZ:(allB 6 fun b=>allB 6 fun d=>allB 2 fun q=>k7 [rg K0,rh K0] (B4 [(3,2),(6,2),(6,b),(6,d),(2,q)]) (B6 [] [cT 2,cT b,cT d] (k8 q 3)))=true:=by kernel_rfl
theorem ac0:(allB 6 fun b=>allB 6 fun d=>allB 2 fun q=>k7 [rg K0,rh K0] (B4 [(3,2),(6,3),(6,b),(6,d),(2,q)]) (B6 [] [cT 3,cT b,cT d] (k8 q 3)))=true:=by kernel_rfl
theorem ac1:(allB 6 fun b=>allB 6 fun d=>allB 2 fun q=>k7 [rg K0,rh K0] (B4 [(3,2),(6,4),(6,b),(6,d),(2,q)]) (B6 [] [cT 4,cT b,cT d] (k8 q 3)))=true:=by kernel_rfl
theorem ac2:(allB 6 fun b=>allB 6 fun d=>allB 2 fun q=>k7 [rg K0,rh K0] (B4 [(3,2),(6,5),(6,b),(6,d),(2,q)]) (B6 [] [cT 5,cT b,cT d] (k8 q 3)))=true:=by kernel_rfl
theorem afN:(allB 7 fun a=>allB 3 fun q=>pF (pa K0) (B6 [(7,a),(3,q)] [] 1) (gn 18 (B7 [a] [] (nz q))))=true:=by kernel_rfl
theorem afO:(allB 7 fun a=>allB 7 fun b=>allB 3 fun q=>pF (pa K0) (B6 [(7,a),(7,b),(3,q)] [] 2) (gn 18 (B7 [a,b] [] (nz q))))=true:=by kernel_rfl
theorem ac3:(allB 7 fun b=>allB 7 fun d=>allB 3 fun q=>pF (pa K0) (B6 [(7,0),(7,b),(7,d),(3,q)] [] 3) (gn 18 (B7 [0,b,d] [] (nz q))))=true:=by kernel_rfl
theorem ac4:(allB 7 fun b=>allB 7 fun d=>allB 3 fun q=>pF (pa K0) (B6 [(7,1),(7,b),(7,d),(3,q)] [] 3) (gn 18 (B7 [1,b,d] [] (nz q))))=true:=by kernel_rfl
theorem ac5:(allB 7 fun b=>allB 7 fun d=>allB 3 fun q=>pF (pa K0) (B6 [(7,2),(7,b),(7,d),(3,q)] [] 3) (gn 18 (B7 [2,b,d] [] (nz q))))=true:=by kernel_rfl
theorem ac6:(allB 7 fun b=>allB 7 fun d=>allB 3 fun q=>pF (pa K0) (B6 [(7,3),(7,b),(7,d),(3,q)] [] 3) (gn 18 (B7 [3,b,d] [] (nz q))))=true:=by kernel_rfl
theorem ac7:(allB 7 fun b=>allB 7 fun d=>allB 3 fun q=>pF (pa K0) (B6 [(7,4),(7,b),(7,d),(3,q)] [] 3) (gn 18 (B7 [4,b,d] [] (nz q))))=true:=by kernel_rfl
theorem ac8:(allB 7 fun b=>allB 7 fun d=>allB 3 fun q=>pF (pa K0) (B6 [(7,5),(7,b),(7,d),(3,q)] [] 3) (gn 18 (B7 [5,b,d] [] (nz q))))=true:=by kernel_rfl
theorem ac9:(allB 7 fun b=>allB 7 fun d=>allB 3 fun q=>pF (pa K0) (B6 [(7,6),(7,b),(7,d),(3,q)] [] 3) (gn 18 (B7 [6,b,d] [] (nz q))))=true:=by kernel_rfl
theorem st8:(allB 3 fun lk=>allB 3 fun r=>allB 2 fun q=>band (k7 [Iy K0] (B8 [(3,r),(2,q)] true lk) (B9 true lk (r+4) (q+2))) (k7 [Iy K0] (B8 [(3,r),(2,q)] false lk) (B9 false lk (r+4) (q+2))))=true:=by kernel_rfl
theorem st9:(allB 3 fun lk=>allB 3 fun r=>allB 2 fun q=>band (k7 [Iz K0,Ia K0,Ib K0] (B9 true lk (r+4) (q+2)) (wZ [] lk)) (k7 [Iz K0,Ia K0,Ib K0] (B9 false lk (r+4) (q+2)) (wZ [] lk)))=true:=by kernel_rfl
theorem ajq:(allB 3 fun lk=>allB 6 fun a=>allB 6 fun b=>allB 2 fun q=>k7 [Qe K0] (wZ [(6,a),(6,b),(2,q)] lk) (Wq lk (cT a) (cT b) (Nat.beq q 0)))=true:=by kernel_rfl
def wR:List J→List MO→Out J:=eE 16 3 4 [(true,0),(true,1),(true,2),(true,3)] sG (vg (j3 19))
theorem afP(args:List J)(σ:List MO):j3 20 (.dC 1098) args σ=gC 9 wR args σ:=by kernel_rfl
noncomputable def FX(hp:Bool)(w:Nat):Bool:=match Nat.beq w 4 with|true=>false|false=>(match hp with|true=>(match Nat.beq w 6 with|true=>false|false=>true)|false=>true)
def P7:List MO:=PS T1 sd [] L2
noncomputable def ou(rows wanted:List J)(hp:Bool):List J:=[.loc 3,.lst rows,.lst wanted,.bool hp]
def kC(rows wanted:List J)(hp:Bool)(ls:List J):Bool:=rB (wR (ou rows wanted hp) P7) fun S1=>band (iJ 9 S1) (qH (gn 9 S1) (PS T1 sd [] ls))
theorem c1(hp:Bool):(allB 7 fun w=>allB 5 fun t=>kC [iz w 20] [fD t] hp L2)=true:=by kernel_rfl
theorem cu3:(allB 7 fun w=>match Nat.beq w 5 with|true=>true|false=>band (kC [iz w 20] [.ip,.ip,.ip] true L2) (kC [iz w 20] [.ip,.ip,.ip] false L2))=true:=by kernel_rfl
theorem cu2:(allB 7 fun w=>band (match FX true w with|true=>kC [iz w 20] [.ip,.ip] true L2|false=>true) (match FX false w with|true=>kC [iz w 20] [.ip,.ip] false L2|false=>true))=true:=by kernel_rfl
theorem c4:(allB 5 fun a=>allB 5 fun b=>band (kC [iz 4 20] [fD a,fD b] true (Lk (w0 a b))) (kC [iz 4 20] [fD a,fD b] false (Lk (w0 a b))))=true:=by kernel_rfl
theorem c6:(allB 5 fun a=>allB 5 fun b=>kC [iz 6 20] [fD a,fD b] true (Lk (w0 a b)))=true:=by kernel_rfl
theorem ajr:(allB 5 fun b=>allB 5 fun d=>band (kC [iz 5 20] [fD 0,fD b,fD d] true (Lk (nQ 0 b d))) (kC [iz 5 20] [fD 0,fD b,fD d] false (Lk (nQ 0 b d))))=true:=by kernel_rfl
theorem ajs:(allB 5 fun b=>allB 5 fun d=>band (kC [iz 5 20] [fD 1,fD b,fD d] true (Lk (nQ 1 b d))) (kC [iz 5 20] [fD 1,fD b,fD d] false (Lk (nQ 1 b d))))=true:=by kernel_rfl
theorem ajt:(allB 5 fun b=>allB 5 fun d=>band (kC [iz 5 20] [fD 2,fD b,fD d] true (Lk (nQ 2 b d))) (kC [iz 5 20] [fD 2,fD b,fD d] false (Lk (nQ 2 b d))))=true:=by kernel_rfl
theorem aju:(allB 5 fun b=>allB 5 fun d=>band (kC [iz 5 20] [fD 3,fD b,fD d] true (Lk (nQ 3 b d))) (kC [iz 5 20] [fD 3,fD b,fD d] false (Lk (nQ 3 b d))))=true:=by kernel_rfl
theorem ajv:(allB 5 fun b=>allB 5 fun d=>band (kC [iz 5 20] [fD 4,fD b,fD d] true (Lk (nQ 4 b d))) (kC [iz 5 20] [fD 4,fD b,fD d] false (Lk (nQ 4 b d))))=true:=by kernel_rfl
def wD:List J→List MO→Out J:=eE 20 7 0 [(false,0)] Am (HI (j3 19))
theorem afQ(args:List J)(σ:List MO):j3 20 (.dC 1112) args σ=gC 3 wD args σ:=by kernel_rfl
noncomputable def qI:List (Nat×Nat):=[(1015,22),(1011,18),(1001,18)]
def afR(l m:List (Nat×Nat)):Bool:=all2 (fun a b=>band (Nat.beq a.1 b.1) (Nat.beq a.2 b.2)) l m
def zr(m:MO)(cc:Nat)(T:List (Nat×Nat)):Bool:=@MO.casesOn (fun Z=>Bool) m (fun Z=>false) (fun Z=>false) (fun Z Z=>false) (fun Z=>false) (fun Z Z=>false) (fun Z=>false) (fun d l=>band (Nat.beq d cc) (afR l T)) false false false (fun Z=>false) false
theorem EA{m:MO}{cc:Nat}{T:List (Nat×Nat)}:zr m cc T=true→m=.tab cc T:=@MO.casesOn (fun m=>zr m cc T=true→m=.tab cc T) m (fun Z h=>cF h) (fun Z h=>cF h) (fun Z Z h=>cF h) (fun Z h=>cF h) (fun Z Z h=>cF h) (fun Z h=>cF h) (fun d l h=>let y:=ew h;(aY y.1).symm▸(IB y.2)▸rfl) (fun h=>cF h) (fun h=>cF h) (fun h=>cF h) (fun Z h=>cF h) (fun h=>cF h)
noncomputable def G9(m:MO):Option (List (Nat×Nat)):=@MO.casesOn (fun Z=>Option (List (Nat×Nat))) m (fun Z=>none) (fun Z=>none) (fun Z Z=>none) (fun Z=>none) (fun Z Z=>none) (fun Z=>none) (fun Z Z=>none) none none none some none
theorem Qo{m:MO}{ds:List (Nat×Nat)}:G9 m=some ds→m=.iI ds:=@MO.casesOn (fun m=>G9 m=some ds→m=.iI ds) m (fun Z h=>cw h) (fun Z h=>cw h) (fun Z Z h=>cw h) (fun Z h=>cw h) (fun Z Z h=>cw h) (fun Z h=>cw h) (fun Z Z h=>cw h) (fun h=>cw h) (fun h=>cw h) (fun h=>cw h) (fun Z h=>congrArg MO.iI (aV h)) (fun h=>cw h)
def J6{β:Type}(S:List MO)(k:MO→MO→MO→List MO→Option β):Option β:=lC S fun a S=>lC S fun b S=>lC S fun d S=>k a b d S
theorem Pl{β:Type}{S:List MO}{k:MO→MO→MO→List MO→Option β}{r:β}(h:J6 S k=some r):∃a b d R,S=a::b::d::R∧k a b d R=some r:=
 (yW h).elim fun a y=>y.elim fun S1 y=>(yW y.2).elim fun b z=>z.elim fun S2 z=>(yW z.2).elim fun d w=>w.elim fun R w=>⟨a,b,d,R,y.1.trans (z.1▸w.1▸rfl),w.2⟩
def Wu(S:List MO):Bool:=oB (J6 S fun a b d R=>gd (band (zr a 1097 T1) (zr b 1116 qI)) (ej (G9 d) fun ds=>gd (band (isNil ds) (isNil R)) (some ()))) fun Z=>true
def J7(a b:Nat):Bool:=rB (wD [.loc 2] [.tab 1097 T1,.tab 1116 qI,.iI [(19,a),(10,b)]]) fun S1=>Wu (gn 3 S1)
def Sv(σ:List MO):Out J:=J6 σ fun a b d R=>gd (band (zr a 1097 T1) (zr b 1116 qI)) (ej (G9 d) fun ds=>lC ds fun p ds=>lC ds fun q ds=>gd (band (Nat.beq p.1 19) (band (Nat.beq q.1 10) (isNil ds))) (some (.ok (.bool true),.tab 1097 T1::.tab 1116 qI::.iI []::R)))
def RM(fv:J)(args:List J):Bool:=oB (vA fv some) fun k=>band (Nat.beq k 1112) (oB (l1 args fun v=>vR v some) fun i=>Nat.beq i 2)
def Wv:KT:=fun fv args σ=>@Bool.casesOn (fun Z=>Out J) (RM fv args) (K0 fv args σ) (Sv σ)
def ajw(lk a b x y:Nat)(me:Bool):List MO:=LS T1 Co [(19,x),(10,y)] (Lk lk) [un,un,un,un,none] un un (some (.bool me)) un (some (Fj 50)) un (wl [a,b])
def ajx(o:Out MF):Bool:=oB o fun y=>band (rR y.1) (Jh y.2)
def rH(lk a b x y:Nat)(me:Bool):Bool:=oB (zq [Qf K0,Qg K0] f1 (ajw lk a b x y me)) fun S=>ajx (Qh Wv f1 S)
theorem ajy:(allB 10 fun a=>allB 10 fun b=>J7 a b)=true:=by kernel_rfl
theorem ajz:(allB 9 fun a=>allB 10 fun b=>J7 (a+10) b)=true:=by kernel_rfl
theorem z0(x y:Nat):(allB 5 fun a=>allB 5 fun b=>band (rH 0 a b x y true) (rH 0 a b x y false))=true:=by kernel_rfl
theorem z1(x y:Nat):(allB 5 fun a=>allB 5 fun b=>band (rH 1 a b x y true) (rH 1 a b x y false))=true:=by kernel_rfl
theorem z2(x y:Nat):(allB 5 fun a=>allB 5 fun b=>band (rH 2 a b x y true) (rH 2 a b x y false))=true:=by kernel_rfl
theorem gN{p:Nat→Bool}:∀{n:Nat},allB n p=true→∀i,i<n→p i=true
 |0,_,i,h=>absurd h (Nat.not_lt_zero _)
 |n+1,h,i,hi=>by
  have y:=ew (h:band (p n) (allB n p)=true)
  exact(Nat.lt_succ_iff_lt_or_eq.mp hi).elim (gN y.2 i) fun e=>e▸y.1
theorem adS{S:List MO}(h:Wu S=true):S=[.tab 1097 T1,.tab 1116 qI,.iI []]:=
 (l8 h).elim fun Z y=>(Pl y.1).elim fun a z=>z.elim fun b z=>z.elim fun d z=>z.elim fun R z=>let g:=gK z.2;(eP g.2).elim fun ds w=>
  let t:=ew g.1
  let u:=ew (gK w.2).1
  z.1.trans (EA t.1▸EA t.2▸Qo w.1▸vj u.1▸vj u.2▸rfl)
theorem IC{m:Nat}{v:List J→List MO→Out J}{args:List J}{σ S1:List MO}{b b':J}(h0:band (sO m σ) (band (ek m args) (iJ m σ))=true)(hv:v args (gn m σ)=some (.ok b,S1))(h1:iJ m S1=true)(h2:fz m S1 b=some b')(h3:ef m b'=true):gC m v args σ=some (.ok b',app (gn m S1) (σ.drop m)):=by
 show @Bool.casesOn (fun Z=>Out J) (band (sO m σ) (band (ek m args) (iJ m σ))) _ _=_
 rw[h0]
 exact(congrArg (Mine.ej · _) hv).trans ((lh h1).trans ((congrArg (Mine.ej · _) h2).trans (lh h3)))
theorem abp{a b:Nat}(h:J7 a b=true)(R:List MO):K0 (.dC 1112) [.loc 2] (.tab 1097 T1::.tab 1116 qI::.iI [(19,a),(10,b)]::R)=some (.ok (.bool true),.tab 1097 T1::.tab 1116 qI::.iI []::R):=
 (TJ h).elim fun S1 y=>
  have h3:=adS y.2
  (afQ _ _).trans ((IC rfl y.1 (show allR (fF 3) (gn 3 S1)=true from h3.symm▸rfl) rfl rfl).trans (congrArg (fun S=>some (Res.ok (J.bool true),app S R)) h3))
theorem abq{a b:Nat}(ha:a<19)(hb:b<10)(R:List MO):K0 (.dC 1112) [.loc 2] (.tab 1097 T1::.tab 1116 qI::.iI [(19,a),(10,b)]::R)=some (.ok (.bool true),.tab 1097 T1::.tab 1116 qI::.iI []::R):=
 abp ((Nat.lt_or_ge a 10).elim (fun h=>gN (gN ajy a h) b hb) fun h=>Nat.sub_add_cancel h▸gN (gN ajz (a - 10) (Nat.sub_lt_left_of_lt_add h ha)) b hb) R
theorem rA.lt{x y:Int}{m r:Nat}{ds:List (Nat×Nat)}(h:rA x y ((m,r)::ds)):r<m:=(Q4 x y m h.1).elim fun Z q=>Int.ofNat.inj (q.2.symm.trans h.2.2.1)▸q.1
theorem abr{fv:J}{args:List J}(h:RM fv args=true):fv=.dC 1112∧args=[.loc 2]:=
 (l8 h).elim fun k y=>(Ep y.1).elim fun k' z=>let w:=ew y.2;(l8 w.2).elim fun i u=>(AF u.1).elim fun v p=>(Eo p.2).elim fun i' q=>
  ⟨z.1.trans (congrArg J.dC ((aV z.2).trans (aY w.1))),p.1.trans (q.1▸(congrArg (fun i=>[J.loc i]) ((aV q.2).trans (aY u.2))))⟩
theorem aaW{S:List MO}{x:Res J×List MO}(h:Sv S=some x):∃a b R,S=.tab 1097 T1::.tab 1116 qI::.iI [(19,a),(10,b)]::R∧some (.ok (.bool true),.tab 1097 T1::.tab 1116 qI::.iI []::R)=some x:=
 (Pl h).elim fun a z=>z.elim fun b z=>z.elim fun d z=>z.elim fun R z=>let g:=gK z.2;let t:=ew g.1;(eP g.2).elim fun ds w=>(yW w.2).elim fun p l=>l.elim fun ds1 l=>(yW l.2).elim fun q r=>r.elim fun ds2 r=>
  let e:=gK r.2
  let f:=ew e.1
  let f':=ew f.2
  ⟨p.2,q.2,R,z.1.trans (EA t.1▸EA t.2▸Qo w.1▸l.1▸r.1▸vj f'.2▸aY f.1▸aY f'.1▸rfl),e.2⟩
theorem adT{c:Cx}{m:Nat}(h:j1 c m K0):j1 c m Wv:=by
 intro A ρ σ s fv args F Vs hr hf sr rf ra
 refine⟨fun r cG hx Q E P=>(Td hx).elim (fun hx=>?_) fun hx=>(h A ρ σ s fv args F Vs hr hf sr rf ra).run r cG hx Q E P⟩
 refine zz fun GG KK=>?_
 obtain⟨rfl,rfl⟩:=abr hx.1
 obtain⟨a,b,R,rfl,fC⟩:=aaW hx.2
 obtain⟨ad,_,X,Y,_,_,_,_,z⟩:=sr.at (i:=2) (mo:=.iI [(19,a),(10,b)]) rfl
 exact KK ((h A ρ _ s _ _ F Vs hr hf sr rf ra).run r cG ((abq z.lt (rA.lt z.2.2.2) R).trans fC) Q E P)
section
variable{c:Cx}{g:FC}{n:Nat}{f:Fr}{S S':List MO}{s1 s2 s3:Stmt}{iE:List Stmt}{x y z:XS}
theorem H4{x:XS}{xs:List XS}{f:Fr}{S S':List MO}(h:zq (x::xs) f S=some S'):∃S1,x f S=some (.ok .next,S1)∧zq xs f S1=some S':=(eP h).elim fun y z=>let w:=gK z.2;⟨y.2,z.1.trans (congrArg (fun r=>some (r,y.2)) (afJ w.1)),w.2⟩
theorem Qp{f:Fr}{S S':List MO}(h:zq [] f S=some S'):S=S':=aV h
def nR(c:Cx)(g:FC)(n:Nat)(xs:List XS)(iE rest:List Stmt):Prop:=∀{S S':List MO},zq xs f1 S=some S'→Good c g n rest f1 S'→Good c g n iE f1 S
theorem nR.nil:nR c g n [] iE iE:=fun h k=>Qp h▸k
theorem nR.cons{xs:List XS}{rest:List Stmt}(d:D1 c g n s1 x)(h:nR c g n xs iE rest):nR c g n (x::xs) (s1::iE) rest:=fun r k=>(H4 r).elim fun Z y=>Good.step d y.1 (h y.2 k)
theorem Good.J8{xs:List XS}{rest:List Stmt}(h:k7 xs S S'=true)(d:nR c g n xs iE rest)(k:Good c g n rest f1 S'):Good c g n iE f1 S:=(l8 h).elim fun Z y=>d y.1 (Good.Su y.2 k)
theorem Good.zt(h:k7 [x] S S'=true)(d1:D1 c g n s1 x)(k:Good c g n iE f1 S'):Good c g n (s1::iE) f1 S:=Good.J8 h (nR.cons d1 nR.nil) k
theorem Good.J9(h:k7 [x,y] S S'=true)(d1:D1 c g n s1 x)(d2:D1 c g n s2 y)(k:Good c g n iE f1 S'):Good c g n (s1::s2::iE) f1 S:=Good.J8 h (nR.cons d1 (nR.cons d2 nR.nil)) k
theorem Good.TM(h:k7 [x,y,z] S S'=true)(d1:D1 c g n s1 x)(d2:D1 c g n s2 y)(d3:D1 c g n s3 z)(k:Good c g n iE f1 S'):Good c g n (s1::s2::s3::iE) f1 S:=Good.J8 h (nR.cons d1 (nR.cons d2 (nR.cons d3 nR.nil))) k
theorem Good.jQ{St:List (Nat×Nat)→List MO}(m:Nat){ds:List (Nat×Nat)}(hs:∀ds,d7 (St ds) 2=some (.iI ds))(hp:∀ds tx,put (St ds) 2 (.iI tx)=St tx)(h1:Nat.blt 0 m=true)(h2:Nat.blt m 1073741824=true)(h:∀r,r<m→Good c g n iE f (St (ds++[(m,r)]))):Good c g n iE f (St ds):=
 Good.draw 2 m (hs ds) h1 h2 fun r hr=>by rw[hp];exact h r hr
end
abbrev jd(i:Nat):Stmt:=i4 (dM hZ) i
theorem jO{t1 t2 ds ls loc T hp me many pair row wanted}:d7 (LS t1 t2 ds ls loc T hp me many pair row wanted) 2=some (.iI ds):=rfl
theorem jP{t1 t2 ds tx ls loc T hp me many pair row wanted}:put (LS t1 t2 ds ls loc T hp me many pair row wanted) 2 (.iI tx)=LS t1 t2 tx ls loc T hp me many pair row wanted:=rfl
theorem mB{P:Prop}{k n:Nat}(h:n+k<k):P:=absurd h (Nat.not_lt.mpr (Nat.le_add_left k n))
theorem sT{r:Nat}(h:r<6):cT r<5:=by
 match r,h with
 |0,_=>decide
 |1,_=>decide
 |2,_=>decide
 |3,_=>decide
 |4,_=>decide
 |5,_=>decide
 |_+6,h=>exact mB h
section
variable{c:Cx}(H:∀φ,Ctx (c.hide φ))(F:∀φ,vO (c.hide φ))
include H F
theorem hK:∀φ,j1 (c.hide φ) 60 K0:=fun φ=>Ql H F 20 φ
theorem G13(lk a b:Nat)(me:Bool)(h1:lk<3)(h2:a<5)(h3:b<5):Good c ix 62 [jd 13,jd 14,jd 15] f1 (Wq lk a b me):=by
 refine Good.jQ (St:=fun ds=>LS T1 Co ds (Lk lk) [un,un,un,un,none] un un (some (.bool me)) un (some (Fj 50)) un (wl [a,b])) 19 (fun Z=>jO) (fun Z Z=>jP) rfl rfl fun x hx=>?_
 refine Good.jQ (St:=fun ds=>LS T1 Co ds (Lk lk) [un,un,un,un,none] un un (some (.bool me)) un (some (Fj 50)) un (wl [a,b])) 10 (fun Z=>jO) (fun Z Z=>jP) rfl rfl fun y hy=>?_
 have key:∀lk,lk<3→(allB 5 fun a=>allB 5 fun b=>band (rH lk a b x y true) (rH lk a b x y false))=true:=fun lk h=>match lk,h with
  |0,_=>z0 x y
  |1,_=>z1 x y
  |2,_=>z2 x y
  |_+3,h=>mB h
 have k:=ew (gN (gN (key lk h1) a h2) b h3)
 have hz:rH lk a b x y me=true:=@Bool.casesOn (fun q=>rH lk a b x y q=true) me k.2 k.1
 refine(l8 hz).elim fun S2 u=>(H4 u.1).elim fun S1 p=>(H4 p.2).elim fun S3 q=>(l8 u.2).elim fun w e=>?_
 have e2:=ew e.2
 exact Good.step (afn (H c.d9) (hK H F c.d9)) p.1 (Good.step (afo (H c.d9) (hK H F c.d9)) q.1 (Good.ret (afp (H c.d9) (adT (hK H F c.d9))) ((Qp q.2).symm▸e.1.trans (congrArg (fun r=>some (r,w.2)) (afK e2.1))) e2.2))
theorem Ww(lk:Nat)(h1:lk<3):Good c ix 62 [jd 12,jd 13,jd 14,jd 15] f1 (wZ [] lk):=by
 refine Good.jQ (St:=fun ds=>wZ ds lk) 6 (fun Z=>jO) (fun Z Z=>jP) rfl rfl fun a ha=>?_
 refine Good.jQ (St:=fun ds=>wZ ds lk) 6 (fun Z=>jO) (fun Z Z=>jP) rfl rfl fun b hb=>?_
 refine Good.jQ (St:=fun ds=>wZ ds lk) 2 (fun Z=>jO) (fun Z Z=>jP) rfl rfl fun q hq=>?_
 exact Good.zt (gN (gN (gN (gN ajq lk h1) a ha) b hb) q hq) (afm (H c.d9) (hK H F c.d9)) (G13 H F lk _ _ _ h1 (sT ha) (sT hb))
theorem G8(hp:Bool)(lk:Nat)(h1:lk<3):Good c ix 62 [jd 8,jd 9,jd 10,jd 11,jd 12,jd 13,jd 14,jd 15] f1 (B8 [] hp lk):=by
 refine Good.jQ (St:=fun ds=>B8 ds hp lk) 3 (fun Z=>jO) (fun Z Z=>jP) rfl rfl fun r hr=>?_
 refine Good.jQ (St:=fun ds=>B8 ds hp lk) 2 (fun Z=>jO) (fun Z Z=>jP) rfl rfl fun q hq=>?_
 obtain⟨k1,k2⟩:=ew (gN (gN (gN st8 lk h1) r hr) q hq)
 obtain⟨k3,k4⟩:=ew (gN (gN (gN st9 lk h1) r hr) q hq)
 cases hp
 ·exact Good.zt k2 (TA (H c.d9) (hK H F c.d9)) (Good.TM k4 (TC (H c.d9) (hK H F c.d9)) (Sq (H c.d9) (hK H F c.d9)) (Sr (H c.d9) (hK H F c.d9)) (Ww H F lk h1))
 ·exact Good.zt k1 (TA (H c.d9) (hK H F c.d9)) (Good.TM k3 (TC (H c.d9) (hK H F c.d9)) (Sq (H c.d9) (hK H F c.d9)) (Sr (H c.d9) (hK H F c.d9)) (Ww H F lk h1))
end
section
variable{c:Cx}{g:FC}{n:Nat}{f:Fr}{S S':List MO}{st:Stmt}{iE:List Stmt}{x:XS}
theorem Good.TN(p:Nat){mo mo':MO}(hp:d7 S p=some mo)(hw:nP some mo mo'=true)(h:Good c g n iE f (put S p mo')):Good c g n iE f S:=⟨fun A env ρ s hr he sr Q E hQ=>by
 exact h.run A env ρ s hr he (sr.EV hp fun a ha=>(sr.obj p a mo ha ((il _ _).symm.trans hp)).wk (fun i j a e q=>aV e▸q) (fun Z q=>q) hw) Q E hQ⟩
theorem Qq{α β:Type}{p:α→β→Bool}:∀{l l':List α} {m m':List β},all2 p l m=true→all2 p l' m'=true→all2 p (app l l') (app m m')=true
 |[],l',m,m',h,h'=>by rw[Ay h];exact h'
 |a::l,l',_,m',h,h'=>by
  obtain⟨b,m,rfl,h1,h2⟩:=Av h
  show band (p a b) (all2 p (app l l') (app m m'))=true
  rw[h1,Qq h2 h'];rfl
end
def Right(rows wanted:List J)(hp:Bool)(ls:List J):Prop:=∀R:List MO,∃S1,K0 (.dC 1098) (ou rows wanted hp) (app P7 R)=some (.ok (.bool true),app (gn 9 S1) R)∧qH (gn 9 S1) (PS T1 sd [] ls)=true
theorem right_of{rows wanted:List J}{hp:Bool}{S1:List MO}{ls:List J}(hv:wR (ou rows wanted hp) P7=some (.ok (.bool true),S1))(h1:iJ 9 S1=true)(h2:qH (gn 9 S1) (PS T1 sd [] ls)=true)(hb:ek 9 (ou rows wanted hp)=true):Right rows wanted hp ls:=fun R=>
 have h0:band (sO 9 (app P7 R)) (band (ek 9 (ou rows wanted hp)) (iJ 9 (app P7 R)))=true:=(congrArg (fun b=>band (sO 9 (app P7 R)) (band b (iJ 9 (app P7 R)))) hb).trans rfl
 ⟨S1,(afP _ _).trans (IC h0 hv h1 rfl rfl),h2⟩
theorem yO{rows wanted:List J}{hp:Bool}{ls:List J}(h:kC rows wanted hp ls=true)(hb:ek 9 (ou rows wanted hp)=true):Right rows wanted hp ls:=(TJ h).elim fun Z y=>let w:=ew y.2;right_of y.1 w.1 w.2 hb
def R7(rows wanted:List J)(hp:Bool):List MO:=[.fr 21 (BE (.lst rows)),.fg (some (.loc 2)),.fg un,.fg (some (.loc 3)),.fg (some (.bool hp)),.fg none,.fg un,.fg none,.fg un,.fg (some (.lst wanted))]
theorem x7{K:KT}{rows wanted:List J}{hp:Bool}{S':List MO}(h:K (.dC 1098) (ou rows wanted hp) (app P7 (R7 rows wanted hp))=some (.ok (.bool true),S')):Iw K f1 (app P7 (R7 rows wanted hp))=some (.ok .next,S'):=by
 have e:Iw K f1 (app P7 (R7 rows wanted hp))=dk (dk (dk (K (.dC 1098) (ou rows wanted hp) (app P7 (R7 rows wanted hp))) wj) fun b σ=>ok (!b) σ) fun b σ=>@Bool.rec (fun Z=>Out MF) (cJ f1 σ) ((ct (dG (ret (.bool false))) cJ) f1 σ) b:=rfl
 rw[e,h];rfl
theorem ID{w:Nat}(s:Nat)(h:w<7):ef 9 (iz w s)=true:=by
 match w,h with
 |0,_=>rfl
 |1,_=>rfl
 |2,_=>rfl
 |3,_=>rfl
 |4,_=>rfl
 |5,_=>rfl
 |6,_=>rfl
 |_+7,h=>exact mB h
theorem yZ{t:Nat}(h:t<5):ef 9 (fD t)=true:=by
 match t,h with
 |0,_=>rfl
 |1,_=>rfl
 |2,_=>rfl
 |3,_=>rfl
 |4,_=>rfl
 |_+5,h=>exact mB h
theorem ua{rows wanted:List J}{hp:Bool}(h1:ek 9 rows=true)(h2:ek 9 wanted=true):ek 9 (ou rows wanted hp)=true:=by
 show band true (band (ek 9 rows) (band (ek 9 wanted) (band true true)))=true
 rw[h1,h2];rfl
theorem ze{a:J}(h:ef 9 a=true):ek 9 [a]=true:=by show band (ef 9 a) true=true;rw[h];rfl
theorem IU{a:J}{l:List J}(h:ef 9 a=true)(h':ek 9 l=true):ek 9 (a::l)=true:=by show band (ef 9 a) (ek 9 l)=true;rw[h,h'];rfl
theorem zf(ws ts:List Nat)(hp:Bool):B7 ws ts hp=app P7 (R7 (rz 0 ws) (ts.map fD) hp):=rfl
theorem RN(a b:Nat):w0 a b<3:=by unfold w0;split<;>decide
theorem adU(a b d:Nat):nQ a b d<3:=by unfold nQ;split<;>decide
section
variable{c:Cx}(H:∀φ,Ctx (c.hide φ))(F:∀φ,vO (c.hide φ))
include H F
abbrev sU:List Stmt:=[jd 7,jd 8,jd 9,jd 10,jd 11,jd 12,jd 13,jd 14,jd 15]
theorem uL{rows wanted:List J}{hp:Bool}{lk:Nat}(h1:lk<3)(h:Right rows wanted hp (Lk lk)):Good c ix 62 sU f1 (app P7 (R7 rows wanted hp)):=by
 obtain⟨S1,hk,hw⟩:=h (R7 rows wanted hp)
 refine Good.step (aiC (H c.d9) (hK H F c.d9)) (x7 hk) (Good.Su (S':=B8 [] hp lk) ?_ (G8 H F hp lk h1))
 refine Qq hw ?_
 cases hp<;>rfl
theorem afS{w t:Nat}(hp:Bool)(hw:w<7)(ht:t<5):Good c ix 62 sU f1 (B7 [w] [t] hp):=by
 rw[zf]
 exact uL H F (lk:=0) (by decide) (yO (gN (gN (c1 hp) w hw) t ht) (ua (ze (ID 20 hw)) (ze (yZ ht))))
theorem afT{w a b:Nat}(hp:Bool)(hw:w<7)(ha:a<5)(hb:b<5):Good c ix 62 sU f1 (B7 [w] [a,b] hp):=by
 have zO:=ze (ID 20 hw)
 have G_:=IU (yZ ha) (ze (yZ hb))
 cases hq:FX hp w with
 |true=>
  rw[zf]
  refine Good.TN 18 (mo':=.fg (some (.lst [.ip,.ip]))) rfl rfl ?_
  have e:put (app P7 (R7 (rz 0 [w]) ([a,b].map fD) hp)) 18 (.fg (some (.lst [.ip,.ip])))=app P7 (R7 (rz 0 [w]) [.ip,.ip] hp):=rfl
  rw[e]
  have hc:kC [iz w 20] [.ip,.ip] hp L2=true:=by
   have:=gN cu2 w hw
   obtain⟨k1,k2⟩:=ew this
   cases hp
   ·rw[hq]at k2;exact k2
   ·rw[hq]at k1;exact k1
  exact uL H F (lk:=0) (by decide) (yO hc (ua zO rfl))
 |false=>
  rw[zf]
  by_cases h4:w=4
  ·subst h4
   obtain⟨k1,k2⟩:=ew (gN (gN c4 a ha) b hb)
   refine uL H F (lk:=w0 a b) (RN a b) (yO ?_ (ua zO G_))
   cases hp
   ·exact k2
   ·exact k1
  ·have h6:hp=true∧w=6:=by
    unfold FX at hq
    split at hq
    ·rename_i q;exact absurd (aY q) h4
    ·split at hq
     ·split at hq
      ·rename_i q;exact⟨rfl,aY q⟩
      ·cases hq
     ·cases hq
   obtain⟨rfl,rfl⟩:=h6
   exact uL H F (lk:=w0 a b) (RN a b) (yO (gN (gN c6 a ha) b hb) (ua zO G_))
theorem afU{w a b d:Nat}(hp:Bool)(hw:w<7)(ha:a<5)(hb:b<5)(hd:d<5):Good c ix 62 sU f1 (B7 [w] [a,b,d] hp):=by
 have zO:=ze (ID 20 hw)
 have G_:=IU (yZ ha) (IU (yZ hb) (ze (yZ hd)))
 rw[zf]
 by_cases h5:w=5
 ·subst h5
  have key:∀a,a<5→(allB 5 fun b=>allB 5 fun d=>band (kC [iz 5 20] [fD a,fD b,fD d] true (Lk (nQ a b d))) (kC [iz 5 20] [fD a,fD b,fD d] false (Lk (nQ a b d))))=true:=fun a h=>by
   match a,h with
   |0,_=>exact ajr
   |1,_=>exact ajs
   |2,_=>exact ajt
   |3,_=>exact aju
   |4,_=>exact ajv
   |_+5,h=>exact mB h
  obtain⟨k1,k2⟩:=ew (gN (gN (key a ha) b hb) d hd)
  refine uL H F (lk:=nQ a b d) (adU a b d) (yO ?_ (ua zO G_))
  cases hp
  ·exact k2
  ·exact k1
 ·refine Good.TN 18 (mo':=.fg (some (.lst [.ip,.ip,.ip]))) rfl rfl ?_
  have e:put (app P7 (R7 (rz 0 [w]) ([a,b,d].map fD) hp)) 18 (.fg (some (.lst [.ip,.ip,.ip])))=app P7 (R7 (rz 0 [w]) [.ip,.ip,.ip] hp):=rfl
  rw[e]
  have hc:kC [iz w 20] [.ip,.ip,.ip] hp L2=true:=by
   have k:=gN cu3 w hw
   have jU:Nat.beq w 5=false:=by
    cases q:Nat.beq w 5 with
    |false=>rfl
    |true=>exact absurd (aY q) h5
   simp only[jU]at k
   obtain⟨k1,k2⟩:=ew k
   cases hp
   ·exact k2
   ·exact k1
  exact uL H F (lk:=0) (by decide) (yO hc (ua zO rfl))
end
def Each:Prop:=(∀w1 w2 t1 t2 hp,w1<7→w2<7→t1<5→t2<5→Right (rz 0 [w1,w2]) ([t1,t2].map fD) hp L2)∧
 ∀w1 w2 w3 t1 t2 t3 hp,w1<7→w2<7→w3<7→t1<5→t2<5→t3<5→Right (rz 0 [w1,w2,w3]) ([t1,t2,t3].map fD) hp L2
section
variable{c:Cx}(H:∀φ,Ctx (c.hide φ))(F:∀φ,vO (c.hide φ))(E:Each)
include H F
abbrev zg:List Stmt:=jd 6::sU
theorem Jj{ds:List (Nat×Nat)}{ws ts:List Nat}{many:Nat}{hp:Bool}(h:pF (pa K0) (B6 ds [] many) (gn 18 (B7 ws [] hp))=true)(k:Good c ix 62 sU f1 (B7 ws ts hp)):Good c ix 62 zg f1 (B6 ds ts many):=by
 unfold pF at h
 split at h
 ·rename_i S1 hx
  obtain⟨h1,h⟩:=ew h
  obtain⟨h2,h3⟩:=ew h
  exact Good.afI 18 (f':=Wr) (fun φ=>aiB (H φ) (hK H F φ)) rfl rfl rfl hx h1 h2 h3 k
 ·cases h
theorem J_{ts:List Nat}(k:∀w hp,w<7→Good c ix 62 sU f1 (B7 [w] ts hp)):Good c ix 62 zg f1 (B6 [] ts 1):=by
 refine Good.jQ (St:=fun ds=>B6 ds ts 1) 7 (fun Z=>jO) (fun Z Z=>jP) rfl rfl fun a ha=>?_
 refine Good.jQ (St:=fun ds=>B6 ds ts 1) 3 (fun Z=>jO) (fun Z Z=>jP) rfl rfl fun q hq=>?_
 exact Jj H F (gN (gN afN a ha) q hq) (k a _ ha)
theorem ajA{ts:List Nat}(k:∀w w' hp,w<7→w'<7→Good c ix 62 sU f1 (B7 [w,w'] ts hp)):Good c ix 62 zg f1 (B6 [] ts 2):=by
 refine Good.jQ (St:=fun ds=>B6 ds ts 2) 7 (fun Z=>jO) (fun Z Z=>jP) rfl rfl fun a ha=>?_
 refine Good.jQ (St:=fun ds=>B6 ds ts 2) 7 (fun Z=>jO) (fun Z Z=>jP) rfl rfl fun b hb=>?_
 refine Good.jQ (St:=fun ds=>B6 ds ts 2) 3 (fun Z=>jO) (fun Z Z=>jP) rfl rfl fun q hq=>?_
 exact Jj H F (gN (gN (gN afO a ha) b hb) q hq) (k a b _ ha hb)
theorem ajB{ts:List Nat}(k:∀w w' Ha hp,w<7→w'<7→Ha<7→Good c ix 62 sU f1 (B7 [w,w',Ha] ts hp)):Good c ix 62 zg f1 (B6 [] ts 3):=by
 refine Good.jQ (St:=fun ds=>B6 ds ts 3) 7 (fun Z=>jO) (fun Z Z=>jP) rfl rfl fun a ha=>?_
 refine Good.jQ (St:=fun ds=>B6 ds ts 3) 7 (fun Z=>jO) (fun Z Z=>jP) rfl rfl fun b hb=>?_
 refine Good.jQ (St:=fun ds=>B6 ds ts 3) 7 (fun Z=>jO) (fun Z Z=>jP) rfl rfl fun d hd=>?_
 refine Good.jQ (St:=fun ds=>B6 ds ts 3) 3 (fun Z=>jO) (fun Z Z=>jP) rfl rfl fun q hq=>?_
 have key:∀a,a<7→(allB 7 fun b=>allB 7 fun d=>allB 3 fun q=>pF (pa K0) (B6 [(7,a),(7,b),(7,d),(3,q)] [] 3) (gn 18 (B7 [a,b,d] [] (nz q))))=true:=fun a h=>by
  match a,h with
  |0,_=>exact ac3
  |1,_=>exact ac4
  |2,_=>exact ac5
  |3,_=>exact ac6
  |4,_=>exact ac7
  |5,_=>exact ac8
  |6,_=>exact ac9
  |_+7,h=>exact mB h
 exact Jj H F (gN (gN (gN (key a ha) b hb) d hd) q hq) (k a b d _ ha hb hd)
include E
theorem G6{ts:List Nat}{n q:Nat}(hn:ts.length=n)(h:∀t∈ts,t<5)(h1:1≤n)(h3:n≤3)(hq:q<2):Good c ix 62 zg f1 (B6 [] ts (k8 q n)):=by
 match ts,hn with
 |[],hn=>exact absurd h1 (Nat.not_le.mpr (Nat.lt_of_le_of_lt (Nat.le_of_eq hn.symm) Nat.one_pos))
 |[a],hn=>
  subst hn
  have ha:=h a (by simp)
  have:k8 q [a].length=1:=by unfold k8;split<;>rfl
  rw[this]
  exact J_ H F fun w hp hw=>afS H F hp hw ha
 |[a,b],hn=>
  subst hn
  have ha:=h a (by simp)
  have hb:=h b (by simp)
  cases Cp:Nat.beq q 0 with
  |true=>
   have:k8 q [a,b].length=1:=by unfold k8;rw[Cp]
   rw[this]
   exact J_ H F fun w hp hw=>afT H F hp hw ha hb
  |false=>
   have:k8 q [a,b].length=2:=by unfold k8;rw[Cp];rfl
   rw[this]
   exact ajA H F fun w w' hp hw LD=>by rw[zf];exact uL H F (lk:=0) (by decide) (E.1 w w' a b hp hw LD ha hb)
 |[a,b,d],hn=>
  subst hn
  have ha:=h a (by simp)
  have hb:=h b (by simp)
  have hd:=h d (by simp)
  cases Cp:Nat.beq q 0 with
  |true=>
   have:k8 q [a,b,d].length=1:=by unfold k8;rw[Cp]
   rw[this]
   exact J_ H F fun w hp hw=>afU H F hp hw ha hb hd
  |false=>
   have:k8 q [a,b,d].length=3:=by unfold k8;rw[Cp];rfl
   rw[this]
   exact ajB H F fun w w' Ha hp hw LD ajC=>by rw[zf];exact uL H F (lk:=0) (by decide) (E.2 w w' Ha a b d hp hw LD ajC ha hb hd)
 |_::_::_::_::l,hn=>exact absurd h3 (Nat.not_le.mpr (show 3<n from hn▸Nat.le_add_left 4 l.length))
abbrev Jk:List Stmt:=jd 4::jd 5::zg
theorem G4:Good c ix 62 Jk f1 (B4 []):=by
 refine Good.jQ (St:=fun ds=>B4 ds) 3 (fun Z=>jO) (fun Z Z=>jP) rfl rfl fun r hr=>?_
 refine Good.jQ (St:=fun ds=>B4 ds) 6 (fun Z=>jO) (fun Z Z=>jP) rfl rfl fun a ha=>?_
 match r,hr with
 |0,_=>
  refine Good.jQ (St:=fun ds=>B4 ds) 2 (fun Z=>jO) (fun Z Z=>jP) rfl rfl fun q hq=>?_
  have g:=G6 H F E (ts:=[cT a]) (n:=1) (q:=q) rfl (by simp;exact sT ha) (by decide) (by decide) hq
  have:k8 q 1=1:=by unfold k8;split<;>rfl
  rw[this]at g
  exact Good.J9 (gN (gN afL a ha) q hq) (J4 (H c.d9) (hK H F c.d9)) (J5 (H c.d9) (hK H F c.d9)) g
 |1,_=>
  refine Good.jQ (St:=fun ds=>B4 ds) 6 (fun Z=>jO) (fun Z Z=>jP) rfl rfl fun b hb=>?_
  refine Good.jQ (St:=fun ds=>B4 ds) 2 (fun Z=>jO) (fun Z Z=>jP) rfl rfl fun q hq=>?_
  exact Good.J9 (gN (gN (gN afM a ha) b hb) q hq) (J4 (H c.d9) (hK H F c.d9)) (J5 (H c.d9) (hK H F c.d9)) (G6 H F E (ts:=[cT a,cT b]) (n:=2) rfl (by simp;exact⟨sT ha,sT hb⟩) (by decide) (by decide) hq)
 |2,_=>
  refine Good.jQ (St:=fun ds=>B4 ds) 6 (fun Z=>jO) (fun Z Z=>jP) rfl rfl fun b hb=>?_
  refine Good.jQ (St:=fun ds=>B4 ds) 6 (fun Z=>jO) (fun Z Z=>jP) rfl rfl fun d hd=>?_
  refine Good.jQ (St:=fun ds=>B4 ds) 2 (fun Z=>jO) (fun Z Z=>jP) rfl rfl fun q hq=>?_
  have key:∀a,a<6→(allB 6 fun b=>allB 6 fun d=>allB 2 fun q=>k7 [rg K0,rh K0] (B4 [(3,2),(6,a),(6,b),(6,d),(2,q)]) (B6 [] [cT a,cT b,cT d] (k8 q 3)))=true:=fun a h=>by
   match a,h with
   |0,_=>exact acX
   |1,_=>exact acY
   |2,_=>exact acZ
   |3,_=>exact ac0
   |4,_=>exact ac1
   |5,_=>exact ac2
   |_+6,h=>exact mB h
  exact Good.J9 (gN (gN (gN (key a ha) b hb) d hd) q hq) (J4 (H c.d9) (hK H F c.d9)) (J5 (H c.d9) (hK H F c.d9)) (G6 H F E (ts:=[cT a,cT b,cT d]) (n:=3) rfl (by simp;exact⟨sT ha,sT hb,sT hd⟩) (by decide) (by decide) hq)
 |_+3,h=>exact mB h
theorem G2:Good c ix 62 (jd 2::jd 3::Jk) f1 (B2 []):=by
 refine Good.jQ (St:=fun ds=>B2 ds) 7 (fun Z=>jO) (fun Z Z=>jP) rfl rfl fun w hw=>?_
 refine Good.jQ (St:=fun ds=>B2 ds) 6 (fun Z=>jO) (fun Z Z=>jP) rfl rfl fun r hr=>?_
 exact Good.zt (gN (gN st2 w hw) r hr) (aiz (H c.d9) (hK H F c.d9)) (Good.zt (gN (gN zI w hw) (cT r) (sT hr)) (aiA (H c.d9) (hK H F c.d9)) (G4 H F E))
theorem G1:Good c ix 62 (jd 1::jd 2::jd 3::Jk) f1 B1:=Good.zt st1 (aiy (H c.d9) (hK H F c.d9)) (G2 H F E)
theorem G0(A:Around)(env:Env)(ρ:List Addr)(s:Shared)(hr:g0 A 62)(he:fW c ix A env f0 ρ s.heap)(sr:SR c ρ S0 s)(Q:Flow→Shared→Prop)(R:Value→Shared→Prop)
  (hQ:∀s',Ext ρ s.heap ρ s'.heap→s'.gens=#[]→s'.os=c.os→Old c.h0 s'.heap→TabsAt ρ s'.heap→(∀a,ρ[2]? =some a→s'.heap.get? a=some c.lu)→Q (.ret (.bool true)) s'):wpAny (model c.prog c.w) A (execs (dM hZ) env) Q R s:=by
 rw[abR]
 have h:=st0
 unfold TL at h
 split at h
 ·rename_i S hx
  split at h
  ·rename_i h2
   refine wpAny_execs_cons ((aix (H c.d9) (hK H F c.d9) A env f0 ρ S0 s hr he sr).run _ _ hx _ _ ⟨fun b V cC s' hb e1 cY rf=>?_,fun Z Z Z Z q=>nomatch q⟩)
   obtain rfl:=l9.nx (Res.G7 hb▸rf)
   rw[il]at h2
   obtain⟨a2,uB,K4,l,Vs,n,ajD,_⟩:=cY.at h2
   have zh:∀oj:Shared,(∀a,ρ[2]? =some a→oj.heap.get? a2=some c.lu→oj.heap.get? a=some c.lu):=fun oj a ha q=>by
    have:=e1.get ha
    rw[uB]at this;cases this
    exact q
   obtain⟨ρ₂,fh,hi,hm⟩:=cY.wk h
   have jU:a2∉ρ₂:=fun q=>by
    obtain⟨i,h3,h4⟩:=hm a2 q
    have gD:=(aZ h4).1
    have apu:=(aZ uB).1
    have:i=2:=(List.getElem?_inj gD cY.nodup).mp (h4.trans uB.symm)
    subst this
    revert h3;decide
   have md:=he.mono e1
   have hf:Wl TK f0 f1=true:=rfl
   obtain⟨p0,LF⟩:=ew hf
   obtain⟨LF,f2⟩:=ew LF
   obtain⟨p0,p1⟩:=ew p0
   have g2:=(vm f2).2
   refine(G1 H F E).run A env ρ₂ s' hr ⟨md.scope,md.kind,hi _ _ _ (q_ LF) md.loc,md.glob,md.blt,fun j x i' e1 e2=>(g2 j i' e2).elim fun i0 w=>(md.cell j x i0 e1 w.1).elim fun a q=>⟨a,q.1,hi _ _ _ (q_ w.2) q.2⟩,md.here,md.nM,md.code⟩ fh Q R fun oj e h3 h4 h5 h6=>?_
   ·have e2:=e.more (ρ:=cC) fun a ha=>let⟨_,_,q⟩:=hm a ha;a0 q
    refine hQ oj (e1.trans e2).drop h3 h4 h5 (fun i a gD ha=>h6 i a gD ?_) fun a ha=>zh oj a ha ?_
    ·have uK:=e1.get ha
     match i,gD with
     |0,_=>exact hi _ _ _ (q_ p0) uK
     |1,_=>exact hi _ _ _ (q_ p1) uK
    ·obtain⟨o',q1,q2⟩:=e.same a2 _ K4 jU
     exact q1.trans (congrArg some (q2.im (by rw[ajD];rfl)))
  ·cases h
 ·cases h
end
theorem aoK{α:Type}(l:List α):gn 0 l=[]:=rfl
theorem aoL{α:Type}(n:Nat)(a:α)(l:List α):gn (n+1) (a::l)=a::gn n l:=rfl
theorem aoz{α:Type}(p:α→Bool):allR p []=true:=rfl
theorem aoA{α:Type}(p:α→Bool)(a:α)(l:List α):allR p (a::l)=band (p a) (allR p l):=rfl
theorem aoB(b:Bool):band true b=b:=rfl
theorem aoC(m:Nat):ek m []=true:=rfl
theorem aok(m:Nat)(a:J)(l:List J):ek m (a::l)=band (ef m a) (ek m l):=rfl
theorem aol(m:Nat)(l:List J):ef m (.tup l)=ek m l:=rfl
theorem aom(m:Nat)(l:List J):ef m (.lst l)=ek m l:=rfl
theorem aon(m:Nat)(i:Int):ef m (.int i)=true:=rfl
theorem aoo(m:Nat)(i:Str):ef m (.str i)=true:=rfl
theorem aoe(m:Nat)(i:Bool):ef m (.bool i)=true:=rfl
theorem aoM{α:Type}(l:List α):app [] l=l:=rfl
theorem aoN{α:Type}(a:α)(l m:List α):app (a::l) m=a::app l m:=rfl
theorem aoO{α:Type}:len ([]:List α)=0:=rfl
theorem aoP{α:Type}(a:α)(l:List α):len (a::l)=len l+1:=rfl
theorem aoQ{α:Type}(a:α):rep 0 a=[]:=rfl
theorem aoR{α:Type}(n:Nat)(a:α):rep (n+1) a=a::rep n a:=rfl
structure El where
 k:J
 tl:List J
 made:J
 th:J
 T:J
 s:Nat
def El.node(e:El):J:=.tup (e.k::iv e.s::e.tl)
noncomputable def El.row(e:El):J:=.tup [e.node,e.made,e.th]
structure El.Cl(e:El):Prop where
 k:∀m,ef m e.k=true
 tl:∀m,ek m e.tl=true
 made:∀m,ef m e.made=true
 th:∀m,ef m e.th=true
 T:∀m,ef m e.T=true
def LA(rows wanted:List J)(hp:Bool)(nm:J)(found bad:Option J):List MO:=[.fr 12 [some (iv 9),some nm,some (.bool hp),found,bad,none],.fg (some (.lst rows)),.fg (some (.lst wanted)),.fg none]
noncomputable def fA:Fr:=⟨0,[1,2,3]⟩
theorem aof(K:KT)(a b:El)(hp:Bool)(nm:J):eE 12 6 3 [(true,0),(true,1),(false,0),(false,1),(false,2)] qi (qZ K) [.lst [a.row,b.row],.lst [a.T,b.T],iv 9,nm,.bool hp] []=dk (qZ K fA (LA [a.row,b.row] [a.T,b.T] hp nm none none)) rq:=by kernel_rfl
def BF(x:Option MO):Bool:=oB x fun m=>@MO.casesOn (fun Z=>Bool) m (fun Z=>false) (fun Z=>false) (fun Z Z=>false) (fun Z=>false) (fun Z Z=>true) (fun Z=>false) (fun Z Z=>false) false false false (fun Z=>false) false
theorem abt{x:Option MO}(h:BF x=true):∃k l,x=some (.fr k l):=(l8 h).elim fun m y=>(@MO.casesOn (fun m=>@MO.casesOn (fun Z=>Bool) m (fun Z=>false) (fun Z=>false) (fun Z Z=>false) (fun Z=>false) (fun Z Z=>true) (fun Z=>false) (fun Z Z=>false) false false false (fun Z=>false) false=true→∃k l,m=.fr k l) m (fun Z h=>cF h) (fun Z h=>cF h) (fun Z Z h=>cF h) (fun Z h=>cF h) (fun k l Z=>⟨k,l,rfl⟩) (fun Z h=>cF h) (fun Z Z h=>cF h) (fun h=>cF h) (fun h=>cF h) (fun h=>cF h) (fun Z h=>cF h) (fun h=>cF h) y.2).elim fun k z=>z.elim fun l e=>⟨k,l,y.1.trans (congrArg some e)⟩
section
variable{d:Nat}{t:Fr→J→List MO→Out Unit}{q:Fr→List MO→Out Bool}{x:X}{gd:Option Nat}{v y:J}{l:List J}{f:Fr}{σ σ1 σ2:List MO}
theorem sL(hg:oi gd σ=true)(ht:t f v σ=some (.ok (),σ1))(hq:q f σ1=some (.ok true,σ1))(hx:x f σ1=some (.ok y,σ1))(hm:uf d y σ1=some (.ok (),σ2)):jG d t q x gd (v::l) f σ=jG d t q x gd l f σ2:=(lh hg).trans (oK ht (oK hq (oK hx (oK hm rfl))))
theorem ab1(hg:oi gd σ=true)(ht:t f v σ=some (.ok (),σ1))(hq:q f σ1=some (.ok false,σ1)):jG d t q x gd (v::l) f σ=jG d t q x gd l f σ1:=(lh hg).trans (oK ht (oK hq rfl))
theorem ab2(hg:oi gd σ=true)(ht:t f v σ=some (.ok (),σ1))(hq:q f σ1=some (.ok true,σ1)){k:Int}(hx:x f σ1=some (.fo k,σ2)):jG d t q x gd (v::l) f σ=some (.fo k,σ2):=(lh hg).trans (oK ht (oK hq (congrArg (dk · _) hx)))
theorem vn(hg:oi gd σ=true):jG d t q x gd [] f σ=some (.ok (),σ):=lh hg
theorem Q5{o:List MO}{i:Nat}{r:Out J}(h:BF (d7 o i)=true):tF o i (fun Z Z=>r)=r:=(abt h).elim fun Z y=>y.elim fun Z e=>Jc e
theorem rj{m:Nat}(h1:iJ m σ=true)(h2:BF (d7 σ (d+1))=true)(h3:d7 σ d=some (.lst l))(h4:ek m l=true):fin m d (some (.ok (),σ))=some (.ok (.lst l),gn m σ):=(lh h1).trans ((Q5 h2).trans ((vK h3).trans (lh h4)))
theorem ac_{m:Nat}{k:Int}(h1:iJ m σ=true)(h2:BF (d7 σ (d+1))=true):fin m d (some (.fo k,σ))=some (.fo k,gn m σ):=(lh h1).trans (Q5 h2)
end
theorem eh{m:Nat}{a:J}{l:List J}(h:ef m a=true)(h':ek m l=true):ek m (a::l)=true:=by show band (ef m a) (ek m l)=true;rw[h,h'];rfl
theorem Hb{m:Nat}{a:J}(h:ef m a=true):ek m [a]=true:=eh h rfl
theorem aoS(m:Nat){rows wanted:List J}{hp:Bool}{nm:J}{found bad:Option J}(h1:ek m rows=true)(h2:ek m wanted=true)(h3:ef m nm=true)(h4:i_ m found=true)(h5:i_ m bad=true)(R:List MO):iJ 4 (app (LA rows wanted hp nm found bad) R)=true→True:=fun Z=>trivial
theorem AV{rows wanted:List J}{hp:Bool}{nm:J}{found bad:Option J}(h1:ek 4 rows=true)(h2:ek 4 wanted=true)(h3:ef 4 nm=true)(h4:i_ 4 found=true)(h5:i_ 4 bad=true)(R:List MO):iJ 4 (app (LA rows wanted hp nm found bad) R)=true:=by
 show band ([some (iv 9),some nm,some (.bool hp),found,bad,none].all (i_ 4)) (band (ek 4 rows) (band (ek 4 wanted) (band true true)))=true
 have e:[some (iv 9),some nm,some (.bool hp),found,bad,none].all (i_ 4)=true:=by
  have e1:i_ 4 (some nm)=true:=h3
  have e2:i_ 4 (some (iv 9))=true:=rfl
  have e3:i_ 4 (some (.bool hp))=true:=rfl
  have e4:i_ 4 none=true:=rfl
  simp only[List.all_cons,List.all_nil,h4,h5,e1,e2,e3,e4,Bool.and_true]
 rw[e,h1,h2];rfl
theorem El.Cl.row{e:El}(h:e.Cl)(m:Nat):ef m e.row=true:=by
 show band (band (ef m e.k) (band true (ek m e.tl))) (band (ef m e.made) (band (ef m e.th) true))=true
 rw[h.k,h.tl,h.made,h.th];rfl
def xA(K:KT):X:=dD K 1083 (bZ (m1 (cP 1) (cB iM (dX 0) (bY 15 0))) (bZ (cB iM (dX 1) (bY 15 0)) (bZ (m1 (cP 1) (m1 (cP 0) (cB iM (dX 0) (bY 15 0)))) cm)))
def cA(K:KT):X:=jo 15 1 [0,1] (mZ uk (bZ (m1 iC (dX 0)) cm)) (c_ 15 0) (fun Z σ=>ok true σ) (xA K)
theorem aog{K:KT}{a b:El}{hp:Bool}{nm W1 W2:J}(ca:a.Cl)(cb:b.Cl)(hn:ef 4 nm=true)(w1:ef 4 W1=true)(w2:ef 4 W2=true)(k1:∀σ,K (.dC 1083) [a.made,a.T,iv a.s] σ=some (.ok W1,σ))(k2:∀σ,K (.dC 1083) [b.made,b.T,iv b.s] σ=some (.ok W2,σ)):
  cA K fA (LA [a.row,b.row] [a.T,b.T] hp nm none none)=some (.ok (.lst [W1,W2]),LA [a.row,b.row] [a.T,b.T] hp nm none none):=by
 have e0:cA K fA (LA [a.row,b.row] [a.T,b.T] hp nm none none)=fin 4 4 (jG 4 (c_ 15 0) (fun Z σ=>ok true σ) (xA K) none [iv 0,iv 1] ⟨5,[1,2]⟩ (app (LA [a.row,b.row] [a.T,b.T] hp nm none none) [.lst [],.fr 15 [none]])):=rfl
 have s1:=sL (d:=4) (t:=c_ 15 0) (q:=fun Z σ=>ok true σ) (x:=xA K) (gd:=none) (v:=iv 0) (l:=[iv 1]) (f:=⟨5,[1,2]⟩) (σ:=app (LA [a.row,b.row] [a.T,b.T] hp nm none none) [.lst [],.fr 15 [none]])
  (σ1:=app (LA [a.row,b.row] [a.T,b.T] hp nm none none) [.lst [],.fr 15 [some (iv 0)]]) (σ2:=app (LA [a.row,b.row] [a.T,b.T] hp nm none none) [.lst [W1],.fr 15 [some (iv 0)]]) rfl rfl rfl ((rfl:_=K (.dC 1083) [a.made,a.T,iv a.s] _).trans (k1 _)) rfl
 have s2:=sL (d:=4) (t:=c_ 15 0) (q:=fun Z σ=>ok true σ) (x:=xA K) (gd:=none) (v:=iv 1) (l:=[]) (f:=⟨5,[1,2]⟩) (σ:=app (LA [a.row,b.row] [a.T,b.T] hp nm none none) [.lst [W1],.fr 15 [some (iv 0)]])
  (σ1:=app (LA [a.row,b.row] [a.T,b.T] hp nm none none) [.lst [W1],.fr 15 [some (iv 1)]]) (σ2:=app (LA [a.row,b.row] [a.T,b.T] hp nm none none) [.lst [W1,W2],.fr 15 [some (iv 1)]]) rfl rfl rfl ((rfl:_=K (.dC 1083) [b.made,b.T,iv b.s] _).trans (k2 _)) rfl
 rw[e0,s1,s2,vn rfl,rj (l:=[W1,W2]) (AV (eh (ca.row 4) (Hb (cb.row 4))) (eh (ca.T 4) (Hb (cb.T 4))) hn rfl rfl _) rfl rfl (eh w1 (Hb w2))]
 rfl
theorem vo{x:X}{t:Fr→J→List MO→Out Unit}{y:XS}{f:Fr}{σ σ1 σ2:List MO}{v:J}(h1:x f σ=some (.ok v,σ1))(h2:t f v σ1=some (.ok (),σ2)):ct (dc x t) y f σ=y f σ2:=by
 unfold ct dc
 rw[h1,sI,h2]
 rfl
def qA:XT:=cZ (cB cU (m1 (cP 0) (bY 14 0)) (ret (.str iB)))
def bA:X:=jo 14 1 [] (kX (bY 12 3)) (c_ 14 0) qA (bY 14 0)
def uA:XS:=ct (dG (dR (cZ (cB eX (bY 12 4) (gw cm))) (m1 (cP 0) (bY 12 4)) (dq (bZ (gw cm) (bZ (bY 12 3) cm))))) cJ
def zA(K:KT):XS:=(ct (dR (cZ (cB eX (m1 iC (dX 0)) (ret (.int (.ofNat 1))))) (ct (dG (dq (bZ (ret (.str iB)) (bZ (bY 12 0) cm)))) cJ) cJ) (ct (dc (nF (bY 12 2) (nF (cB cU (m1 iC (dX 1)) (ret (.int (.ofNat 2)))) (m1 k_ (m1 (cP 2) (m1 (cP 0) (dX 0)))))) (c_ 12 5)) (ct (dc (dR (cZ (bY 12 5)) (m1 (cP 2) (m1 (cP 0) (dX 0))) (m1 (cP 1) (m1 (cP 0) (dX 0)))) (lA 2)) (ct (dR (ia (cZ (cB eX (m1 (cP 0) (m1 (cP 1) (dX 2))) (ret (.str jv)))) (ia (cZ (cB eX (m1 iC (m1 (cP 1) (m1 (cP 1) (dX 2)))) (m1 iC (dX 1)))) (fun Z σ=>ok false σ))) (ct (dG (dq (bZ (ret (.str iB)) (bZ (bY 12 0) cm)))) cJ) cJ) (ct (dR (cZ (cB cU (jo 13 1 [2,1] (mZ uk (bZ (m1 iC (dX 1)) cm)) (c_ 13 0) (cZ (cB mx (cB iM (dX 1) (bY 13 0)) (gw (bZ (ret .none) (bZ (cB iM (m1 (cP 1) (m1 (cP 1) (dX 0))) (bY 13 0)) cm))))) (bY 13 0)) (gw cm))) (ct (dG (dq (bZ (gw cm) (bZ (gw (bZ (dX 2) cm)) cm)))) cJ) cJ) (ct (dG (dD K 1088 (bZ (dX 2) (bZ (dX 1) (bZ (bY 12 0) (bZ (bY 12 1) (bZ (bY 12 5) cm))))))) cJ))))))
def tA(K:KT):XS:=ct (dc bA (c_ 12 4)) uA
def je(b:Bool)(l:List J)(v:J):List J:=@Bool.rec (fun Z=>List J) l (app l [v]) b
noncomputable def Ka(bad Ws:List J):J:=@List.casesOn J (fun Z=>J) bad (.tup [.lst [],.lst Ws]) (fun v Z=>v)
structure Oc(K:KT)(e:El)(W:J)(f:Bool):Prop where
 k:∀σ,K (.dC 1083) [e.made,e.T,iv e.s] σ=some (.ok W,σ)
 q:∀f' σ,bY 14 0 f' σ=some (.ok W,σ)→qA f' σ=some (.ok f,σ)
 b:∀m,ef m W=true
 o:g7 10 W=true
theorem Az{d:Nat}{t:Fr→J→List MO→Out Unit}{q:Fr→List MO→Out Bool}{x:X}{gd:Option Nat}{v:J}{l:List J}{f:Fr}{b:Bool}{S:List J→Option J→List MO}{bad:List J}{cur:Option J}(hg:oi gd (S bad cur)=true)(ht:t f v (S bad cur)=some (.ok (),S bad (some v)))
  (hq:q f (S bad (some v))=some (.ok b,S bad (some v))) (hx:x f (S bad (some v))=some (.ok v,S bad (some v))) (hm:short bad=true→uf d v (S bad (some v))=some (.ok (),S (app bad [v]) (some v))) (hs:short bad=true):
  jG d t q x gd (v::l) f (S bad cur)=jG d t q x gd l f (S (je b bad v) (some v)):=by
 cases b
 ·exact ab1 hg ht hq
 ·exact sL hg ht hq hx (hm hs)
theorem yS{d:Nat}{y:J}{l:List J}{σ:List MO}(h:d7 σ d=some (.lst l))(hs:short l=true):uf d y σ=some (.ok (),put σ d (.lst (app l [y]))):=by
 unfold uf
 rw[h,nD]
 dsimp only
 rw[hs];rfl
theorem Qr{m:Nat}:∀{l k:List J},ek m l=true→ek m k=true→ek m (app l k)=true
 |[],_,_,h=>h
 |v::l,k,h1,h2=>by
  obtain⟨h3,h4⟩:=ew (a:=ef m v) (b:=ek m l) h1
  exact eh h3 (Qr h4 h2)
theorem AA{m:Nat}{b:Bool}{l:List J}{v:J}(h1:ek m l=true)(h2:ef m v=true):ek m (je b l v)=true:=by
 cases b
 ·exact h1
 ·exact Qr h1 (Hb h2)
theorem nE{p:J→Bool}{v:J}{l:List J}(h:p v=true)(h':iU p l=true):iU p (v::l)=true:=by
 show @Bool.rec (fun Z=>Bool) false (iU p l) (p v)=true
 rw[h];exact h'
theorem Qs{p:J→Bool}:∀{l k:List J},iU p l=true→iU p k=true→iU p (app l k)=true
 |[],_,_,h=>h
 |v::l,k,h1,h2=>let⟨h3,h4⟩:=sH h1;nE h3 (Qs h4 h2)
theorem AB{p:J→Bool}{b:Bool}{l:List J}{v:J}(h1:iU p l=true)(h2:p v=true):iU p (je b l v)=true:=by
 cases b
 ·exact h1
 ·exact Qs h1 (nE h2 rfl)
theorem Q6{p q:J→Bool}(h:∀v,p v=true→q v=true):∀{l:List J},iU p l=true→iU q l=true
 |[],_=>rfl
 |_::_,h1=>let⟨h2,h3⟩:=sH h1;nE (h _ h2) (Q6 h h3)
theorem Q7{s t:List J→Bool}(h:∀l,s l=true→t l=true){v:J}:ll s v=true→ll t v=true:=
 @J.casesOn (fun v=>ll s v=true→ll t v=true) v (fun h=>h) (fun Z h=>h) (fun Z h=>h) (fun Z h=>h) (fun l=>h l) (fun l=>h l) (fun Z h=>h) (fun Z Z h=>h) (fun Z h=>h) (fun Z h=>h) (fun Z h=>h) (fun Z h=>h) (fun Z h=>h) (fun h=>h)
theorem y6:∀{n:Nat} {v:J},g7 n v=true→g7 (n+1) v=true
 |0,_,h=>Q7 (s:=fun Z=>false) (t:=iU (g7 0)) (fun Z h=>cF h) h
 |n+1,_,h=>Q7 (s:=iU (g7 n)) (t:=iU (g7 (n+1))) (fun Z h=>Q6 (fun Z=>y6 (n:=n)) h) h
theorem EB{x:X}{y:XS}{f:Fr}{σ σ1:List MO}{v:J}(h:x f σ=some (.ok v,σ1)):ct (dG x) y f σ=some (.ok (.ret v),σ1):=by unfold ct dG;rw[h];rfl
theorem Pm{β:Type}{t:XT}{x y:Fr→List MO→Out β}{f:Fr}{σ σ1:List MO}(h:t f σ=some (.ok true,σ1)):dR t x y f σ=x f σ1:=by unfold dR;rw[h];rfl
theorem Aw{x:X}{f:Fr}{σ σ1:List MO}{b:Bool}(h:x f σ=some (.ok (.bool b),σ1)):cZ x f σ=some (.ok b,σ1):=by unfold cZ;rw[h];rfl
theorem ab3{v:J}{l:List J}{σ:List MO}(h:iU (g7 11) (v::l)=true):eX (.lst (v::l)) (.lst []) σ=some (.ok (.bool true),σ):=by
 show gd (iU (g7 11) (v::l)) (ok (J.bool true) σ)=_
 rw[h];rfl
theorem RO{Ws:List J}{rows wanted:List J}{hp:Bool}{nm:J}:∀{bad:List J},iU (g7 11) bad=true→uA fA (LA rows wanted hp nm (some (.lst Ws)) (some (.lst bad)))=some (.ok (.ret (Ka bad Ws)),LA rows wanted hp nm (some (.lst Ws)) (some (.lst bad)))
 |[],_=>by kernel_rfl
 |v::l,h=>EB ((Pm (Aw (ab3 h))).trans rfl)
theorem Kb{K:KT}{a b:El}{Wa Wb:J}{fa fb hp:Bool}{nm:J}(hn:ef 4 nm=true)(ca:a.Cl)(oa:Oc K a Wa fa)(cb:b.Cl)(ob:Oc K b Wb fb):
  ∃S9,eE 12 6 3 [(true,0),(true,1),(false,0),(false,1),(false,2)] qi (qZ K) [.lst [a.row,b.row],.lst [a.T,b.T],iv 9,nm,.bool hp] []=some (.ok (Ka (je fb (je fa [] Wa) Wb) [Wa,Wb]),S9):=by
 let S0:=LA [a.row,b.row] [a.T,b.T] hp nm none none
 let S1:=LA [a.row,b.row] [a.T,b.T] hp nm (some (.lst [Wa,Wb])) none
 let F:List J→Option J→List MO:=fun l v=>app S0 [.lst l,.fr 15 [v]]
 let G:List J→Option J→List MO:=fun l v=>app S1 [.lst l,.fr 14 [v]]
 have f0:cA K fA S0=some (.ok (.lst [Wa,Wb]),S0):=by
  have e:cA K fA S0=fin 4 4 (jG 4 (c_ 15 0) (fun Z σ=>ok true σ) (xA K) none [iv 0,iv 1] ⟨5,[1,2]⟩ (F [] none)):=rfl
  rw[e,sL (l:=[iv 1]) (σ:=F [] none) (σ1:=F [] (some (iv 0))) (σ2:=F [Wa] (some (iv 0))) rfl rfl rfl (oa.k _) rfl,
   sL (l:=[]) (σ:=F [Wa] (some (iv 0))) (σ1:=F [Wa] (some (iv 1))) (σ2:=F [Wa,Wb] (some (iv 1))) rfl rfl rfl (ob.k _) rfl,vn rfl]
  exact rj (l:=[Wa,Wb]) (AV (eh (ca.row 4) (eh (cb.row 4) rfl)) (eh (ca.T 4) (eh (cb.T 4) rfl)) hn rfl rfl _) rfl rfl (eh (oa.b 4) (eh (ob.b 4) rfl))
 have f1:bA fA S1=some (.ok (.lst (je fb (je fa [] Wa) Wb)),S1):=by
  have e:bA fA S1=fin 4 4 (jG 4 (c_ 14 0) qA (bY 14 0) none [Wa,Wb] ⟨5,[]⟩ (G [] none)):=rfl
  rw[e,Az (S:=G) (l:=[Wb]) (bad:=[]) (cur:=none) rfl rfl (oa.q _ _ rfl) rfl (yS rfl) rfl,
   Az (S:=G) (l:=[]) (bad:=(je fa [] Wa)) (cur:=(some Wa)) rfl rfl (ob.q _ _ rfl) rfl (yS rfl) (by cases fa<;>rfl),vn rfl]
  exact rj (l:=(je fb (je fa [] Wa) Wb)) (AV (eh (ca.row 4) (eh (cb.row 4) rfl)) (eh (ca.T 4) (eh (cb.T 4) rfl)) hn (show i_ 4 (some (.lst [Wa,Wb]))=true from(show ek 4 [Wa,Wb]=true from(eh (oa.b 4) (eh (ob.b 4) rfl)))) rfl _) rfl rfl (AA (AA rfl (oa.b 4)) (ob.b 4))
 have st:eE 12 6 3 [(true,0),(true,1),(false,0),(false,1),(false,2)] qi (qZ K) [.lst [a.row,b.row],.lst [a.T,b.T],iv 9,nm,.bool hp] []=dk (dk (ct (dc (cA K) (c_ 12 3)) (tA K) fA S0) fun m σ=>match m with|.next=>zA K fA σ|.ret v=>ok (.ret v) σ) rq:=by kernel_rfl
 refine⟨LA [a.row,b.row] [a.T,b.T] hp nm (some (.lst [Wa,Wb])) (some (.lst (je fb (je fa [] Wa) Wb))),?_⟩
 rw[st,vo f0 (rfl:_=(some (.ok (),S1):Out Unit)),show tA K fA S1=uA fA (LA [a.row,b.row] [a.T,b.T] hp nm (some (.lst [Wa,Wb])) (some (.lst (je fb (je fa [] Wa) Wb))))from vo f1 rfl,RO (AB (AB rfl (y6 oa.o)) (y6 ob.o))]
 rfl
theorem FY{K:KT}{a b d:El}{Wa Wb Wd:J}{fa fb fd hp:Bool}{nm:J}(hn:ef 4 nm=true)(ca:a.Cl)(oa:Oc K a Wa fa)(cb:b.Cl)(ob:Oc K b Wb fb)(cd:d.Cl)(od:Oc K d Wd fd):
  ∃S9,eE 12 6 3 [(true,0),(true,1),(false,0),(false,1),(false,2)] qi (qZ K) [.lst [a.row,b.row,d.row],.lst [a.T,b.T,d.T],iv 9,nm,.bool hp] []=some (.ok (Ka (je fd (je fb (je fa [] Wa) Wb) Wd) [Wa,Wb,Wd]),S9):=by
 let S0:=LA [a.row,b.row,d.row] [a.T,b.T,d.T] hp nm none none
 let S1:=LA [a.row,b.row,d.row] [a.T,b.T,d.T] hp nm (some (.lst [Wa,Wb,Wd])) none
 let F:List J→Option J→List MO:=fun l v=>app S0 [.lst l,.fr 15 [v]]
 let G:List J→Option J→List MO:=fun l v=>app S1 [.lst l,.fr 14 [v]]
 have f0:cA K fA S0=some (.ok (.lst [Wa,Wb,Wd]),S0):=by
  have e:cA K fA S0=fin 4 4 (jG 4 (c_ 15 0) (fun Z σ=>ok true σ) (xA K) none [iv 0,iv 1,iv 2] ⟨5,[1,2]⟩ (F [] none)):=rfl
  rw[e,sL (l:=[iv 1,iv 2]) (σ:=F [] none) (σ1:=F [] (some (iv 0))) (σ2:=F [Wa] (some (iv 0))) rfl rfl rfl (oa.k _) rfl,
   sL (l:=[iv 2]) (σ:=F [Wa] (some (iv 0))) (σ1:=F [Wa] (some (iv 1))) (σ2:=F [Wa,Wb] (some (iv 1))) rfl rfl rfl (ob.k _) rfl,
   sL (l:=[]) (σ:=F [Wa,Wb] (some (iv 1))) (σ1:=F [Wa,Wb] (some (iv 2))) (σ2:=F [Wa,Wb,Wd] (some (iv 2))) rfl rfl rfl (od.k _) rfl,vn rfl]
  exact rj (l:=[Wa,Wb,Wd]) (AV (eh (ca.row 4) (eh (cb.row 4) (eh (cd.row 4) rfl))) (eh (ca.T 4) (eh (cb.T 4) (eh (cd.T 4) rfl))) hn rfl rfl _) rfl rfl (eh (oa.b 4) (eh (ob.b 4) (eh (od.b 4) rfl)))
 have f1:bA fA S1=some (.ok (.lst (je fd (je fb (je fa [] Wa) Wb) Wd)),S1):=by
  have e:bA fA S1=fin 4 4 (jG 4 (c_ 14 0) qA (bY 14 0) none [Wa,Wb,Wd] ⟨5,[]⟩ (G [] none)):=rfl
  rw[e,Az (S:=G) (l:=[Wb,Wd]) (bad:=[]) (cur:=none) rfl rfl (oa.q _ _ rfl) rfl (yS rfl) rfl,
   Az (S:=G) (l:=[Wd]) (bad:=(je fa [] Wa)) (cur:=(some Wa)) rfl rfl (ob.q _ _ rfl) rfl (yS rfl) (by cases fa<;>rfl),
   Az (S:=G) (l:=[]) (bad:=(je fb (je fa [] Wa) Wb)) (cur:=(some Wb)) rfl rfl (od.q _ _ rfl) rfl (yS rfl) (by cases fa<;>cases fb<;>rfl),vn rfl]
  exact rj (l:=(je fd (je fb (je fa [] Wa) Wb) Wd)) (AV (eh (ca.row 4) (eh (cb.row 4) (eh (cd.row 4) rfl))) (eh (ca.T 4) (eh (cb.T 4) (eh (cd.T 4) rfl))) hn (show i_ 4 (some (.lst [Wa,Wb,Wd]))=true from(show ek 4 [Wa,Wb,Wd]=true from(eh (oa.b 4) (eh (ob.b 4) (eh (od.b 4) rfl))))) rfl _) rfl rfl (AA (AA (AA rfl (oa.b 4)) (ob.b 4)) (od.b 4))
 have st:eE 12 6 3 [(true,0),(true,1),(false,0),(false,1),(false,2)] qi (qZ K) [.lst [a.row,b.row,d.row],.lst [a.T,b.T,d.T],iv 9,nm,.bool hp] []=dk (dk (ct (dc (cA K) (c_ 12 3)) (tA K) fA S0) fun m σ=>match m with|.next=>zA K fA σ|.ret v=>ok (.ret v) σ) rq:=by kernel_rfl
 refine⟨LA [a.row,b.row,d.row] [a.T,b.T,d.T] hp nm (some (.lst [Wa,Wb,Wd])) (some (.lst (je fd (je fb (je fa [] Wa) Wb) Wd))),?_⟩
 rw[st,vo f0 (rfl:_=(some (.ok (),S1):Out Unit)),show tA K fA S1=uA fA (LA [a.row,b.row,d.row] [a.T,b.T,d.T] hp nm (some (.lst [Wa,Wb,Wd])) (some (.lst (je fd (je fb (je fa [] Wa) Wb) Wd))))from vo f1 rfl,RO (AB (AB (AB rfl (y6 oa.o)) (y6 ob.o)) (y6 od.o))]
 rfl
theorem uM{k:Nat}:allR (fF k) []=true:=rfl
theorem jH{k:Nat}{o:MO}{l:List MO}(h1:fF k o=true)(h2:allR (fF k) l=true):allR (fF k) (o::l)=true:=by show band (fF k o) (allR (fF k) l)=true;rw[h1,h2];rfl
theorem se{k kk:Nat}:fF k (.fr kk [])=true:=rfl
theorem lE{k kk:Nat}{o:Option J}{l:List (Option J)}(h1:i_ k o=true)(h2:fF k (.fr kk l)=true):fF k (.fr kk (o::l))=true:=by
 show(o::l).all (i_ k)=true
 rw[List.all_cons,h1];exact h2
theorem Ek{α:Type}{p:α→Bool}:∀{a b:List α},allR p a=true→allR p b=true→allR p (app a b)=true
 |[],_,_,h=>h
 |x::a,b,h1,h2=>by
  have h1:band (p x) (allR p a)=true:=h1
  obtain⟨h3,h4⟩:=ew h1
  show band (p x) (allR p (app a b))=true
  rw[h3,Ek h4 h2];rfl
theorem IE{k:Nat}{σ:List MO}(h:allR (fF k) σ=true):iJ k σ=true:=by
 rw[t9]
 rw[allR_eq]at h
 exact List.all_eq_true.mpr fun x hx=>bh h x (List.mem_of_mem_take hx)
theorem ada{k:Nat}{R:List MO}(h0:allR (fF k) P7=true)(h:allR (fF k) R=true):iJ k (app P7 R)=true:=IE (Ek h0 h)
theorem RP{x y:XS}{f:Fr}{σ σ1:List MO}(h:x f σ=some (.ok .next,σ1)):ct x y f σ=y f σ1:=vk h rfl
theorem Q8(s:Nat):mI 12 (.tup [.str iB,iv s]) (.tup [.str iB,iv s])=true:=by
 show @Bool.rec (fun Z=>Bool) false true (Nat.beq s s)=true
 rw[Nat.beq_refl s]
theorem El.Cl.node{e:El}(h:e.Cl)(m:Nat):ef m e.node=true:=by
 show band (ef m e.k) (band true (ek m e.tl))=true
 rw[h.k,h.tl];rfl
theorem adb{m:Nat}{s:Str}{v v':J}{σ:List MO}(h1:iJ m σ=true)(h2:fz m σ v=some v'):v8 m s (some (.ok v,σ))=some (.ok v',gn m σ):=by
 show gd (iJ m σ) (ej (fz m σ v) fun v=>(some (Res.ok v,gn m σ):Out J))=_
 rw[h1,h2];rfl
theorem ab4{m:Nat}{s:Str}{k:Int}{σ:List MO}(h1:iJ m σ=true)(h2:Be (d7 σ m)=true):v8 m s (some (.fo k,σ))=some (.ok (.tup [.str s,.int k]),gn m σ):=by
 show gd (iJ m σ) (gd (Be (d7 σ m)) (some (Res.ok (J.tup [.str s,.int k]),gn m σ):Out J))=_
 rw[h1,h2];rfl
theorem Q9(m:Nat)(σ:List MO)(k:Nat)(l:List J):kg m σ (k+1) (.tup l)=omap .tup (lQ (kg m σ k) l):=rfl
theorem IF(m:Nat)(σ:List MO)(k:Nat)(l:List J):kg m σ (k+1) (.lst l)=omap .lst (lQ (kg m σ k) l):=rfl
theorem y7(p:J→Option J):lQ p []=some []:=rfl
theorem n7{p:J→Option J}{v v':J}{l l':List J}(h1:p v=some v')(h2:lQ p l=some l'):lQ p (v::l)=some (v'::l'):=by
 have e:lQ p (v::l)=@Option.rec J (fun Z=>Option (List J)) none (fun w=>@Option.rec (List J) (fun Z=>Option (List J)) none (fun m=>some (w::m)) (lQ p l)) (p v):=rfl
 rw[e,h1,h2]
theorem Qt{V:J}(h1:g7 12 V=true)(h2:mI 12 V V=true)(σ:List MO):cU V V σ=some (.ok (.bool true),σ):=by
 unfold cU
 simp only[h1,h2]
 rfl
theorem Qu{V:J}(h1:g7 12 V=true)(h2:mI 12 V V=true)(σ:List MO):eX V V σ=some (.ok (.bool false),σ):=by
 unfold eX
 simp only[h1,h2]
 rfl
def A1(K:KT):X:=(dD K 1093 (bZ (dX 1) (bZ (dX 2) (bZ (ret (.int (.ofNat 9))) (bZ (m1 iC (m1 (gO 935 tv) (dX 0))) (bZ (dX 3) cm))))))
def xV(K:KT):X:=(dD K 369 (bZ (dX 0) (bZ (bY 41 0) (bZ (bY 41 1) cm))))
def cV(K:KT):X:=jo 41 2 [0] (mZ Bz (bZ (bY 39 0) (bZ (bY 39 1) cm))) (lj 2 (fL (c_ 41 0) (fL (c_ 41 1) jt))) (fun Z σ=>ok true σ) (xV K)
def vM(K:KT):X:=dq (bZ (gw cm) (bZ (cV K) cm))
def afV(K:KT):XS:=(ct (dR (cZ (cB eX (m1 iC (bY 39 0)) (ret (.int (.ofNat 1))))) (ct (qm (ret (.str Tx)) (bY 39 2)) cJ) cJ) (ct (dc (dD K 376 (bZ (dX 0) (bZ (m1 (cP 0) (bY 39 0)) (bZ (m1 iC (bY 39 1)) (bZ (bY 39 2) (bZ (bY 39 3) cm)))))) (lj 2 (fL (c_ 39 4) (fL (c_ 39 5) jt)))) (ct (dR (cZ (cB cU (jo 40 2 [] (mZ Bz (bZ (bY 39 1) (bZ (m1 (cP 1) (m1 (cP 1) (bY 39 4))) cm))) (lj 2 (fL (c_ 40 0) (fL (c_ 40 1) jt))) (gP (cZ (m1 k_ (bY 40 0))) (gP (cZ (cB eX (bY 40 0) (bY 40 1))) (fun Z σ=>ok true σ))) (ret (.int (.ofNat 1)))) (gw cm))) (ct (dG (dq (bZ (gw cm) (bZ (gw (bZ (bY 39 4) cm)) cm)))) cJ) cJ) (ct (dG (dD K 381 (bZ (dX 0) (bZ (bY 39 4) (bZ (bY 39 1) (bZ (bY 39 2) (bZ (bY 39 5) cm))))))) cJ))))
def Cq:X:=(jo 18 1 [] (kX (dX 2)) (c_ 18 0) (fun Z σ=>ok true σ) (m1 (cP 0) (bY 18 0)))
def XX(K:KT):X:=dD K 387 (bZ (dX 0) (bZ Cq (bZ (dX 3) (bZ (ret (.int (.ofNat 9))) (bZ (dX 1) cm)))))
def A2(K:KT):X:=vv 0 1097 980 22 qr [0,3,1,2] (XX K)
def I3:XS:=(dR (ia (cZ (cB eX (bY 16 1) (bY 16 0))) (ia (cZ (cB cU (m1 (cP 0) (bY 16 0)) (ret (.str iB)))) (fun Z σ=>ok false σ))) (ct (dG (cB cU (bY 16 1) (bY 16 0))) cJ) cJ)
def A4:X:=(jo 17 1 [] (kX (m1 (cP 1) (bY 16 0))) (c_ 17 0) (fun Z σ=>ok true σ) (m1 (cP 1) (bY 17 0)))
def I5:XS:=(dR (gP (cZ (cB cU (m1 iC (bY 16 2)) (ret (.int (.ofNat 1))))) (gP (cZ (cB cU (m1 (cP 0) (m1 (cP 0) (bY 16 2))) (ret (.str jv)))) (fun Z σ=>ok true σ))) (ct (dc (m1 AQ (m1 (cP 1) (m1 (cP 0) (bY 16 2)))) (c_ 16 2)) cJ) cJ)
def A6(K:KT):X:=(cB cU (dD K 392 (bZ (m1 (cP 1) (bY 16 1)) (bZ (m1 iC (dX 2)) cm))) (bY 16 2))
def r6(K:KT):XS:=ct (dG (A6 K)) cJ
def r5(K:KT):XS:=ct I5 (r6 K)
def r4(K:KT):XS:=ct (dc A4 (c_ 16 2)) (r5 K)
def r3(K:KT):XS:=ct I3 (r4 K)
def r2(K:KT):XS:=ct (dc (A2 K) (c_ 16 1)) (r3 K)
def r1(K:KT):XS:=ct (dc (A1 K) (c_ 16 0)) (r2 K)
def zP:X:=(jo 43 1 [] (kX (bY 42 0)) (c_ 43 0) (fun Z σ=>ok true σ) (m1 (cP 1) (bY 43 0)))
def afW(K:KT):XS:=(ct (dG (m1 AQ (m1 (cP 1) (m1 (cP 1) (m1 (cP 0) (bY 42 0)))))) cJ)
noncomputable def fR:Fr:=⟨9,[10,11,12,13]⟩
def LR(rows wanted:List J)(hp:Bool)(fN told types:Option J)(R:List MO):List MO:=app P7 (.fr 16 [fN,told,types]::.fg (some (.loc 3))::.fg (some (.lst rows))::.fg (some (.lst wanted))::.fg (some (.bool hp))::R)
theorem Jl{k:Nat}{rows wanted:List J}{hp:Bool}{fN told types:Option J}{R:List MO}(h0:allR (fF k) P7=true)(h3:Nat.blt 3 k=true)(h1:ek k rows=true)(h2:ek k wanted=true)(hd:i_ k fN=true)(ht:i_ k told=true)(hy:i_ k types=true)(hR:allR (fF k) R=true):iJ k (LR rows wanted hp fN told types R)=true:=
 ada h0 (jH (lE hd (lE ht (lE hy se))) (jH (show fF k (.fg (some (.loc 3)))=true from h3) (jH (show fF k (.fg (some (.lst rows)))=true from h1) (jH (show fF k (.fg (some (.lst wanted)))=true from h2) (jH (show fF k (.fg (some (.bool hp)))=true from rfl) hR)))))
theorem afX{K:KT}{f:Fr}{σ σ2:List MO}{v:J}(h:cV K f σ=some (.ok v,σ2)):vM K f σ=some (.ok (.tup [.lst [],v]),σ2):=by
 have e:vM K f σ=dk (dk (gw cm f σ) fun u σ=>dk (dk (cV K f σ) fun w σ=>dk (cm f σ) fun l σ=>ok (w::l) σ) fun l σ=>ok (u::l) σ) fun l σ=>gd (short l) (ok (.tup l) σ):=rfl
 have e2:gw cm f σ=some (.ok (.lst []),σ):=rfl
 rw[e,e2,sI,h];rfl
theorem adV{K:KT}{f:Fr}{σ σ2:List MO}{k:Int}(h:cV K f σ=some (.fo k,σ2)):vM K f σ=some (.fo k,σ2):=by
 have e:vM K f σ=dk (dk (gw cm f σ) fun u σ=>dk (dk (cV K f σ) fun w σ=>dk (cm f σ) fun l σ=>ok (w::l) σ) fun l σ=>ok (u::l) σ) fun l σ=>gd (short l) (ok (.tup l) σ):=rfl
 have e2:gw cm f σ=some (.ok (.lst []),σ):=rfl
 rw[e,e2,sI,h];rfl
theorem adW{K:KT}{f:Fr}{σ:List MO}{v c0 c1 c3:J}(h0:dX 0 f σ=some (.ok c0,σ))(h1:dX 1 f σ=some (.ok c1,σ))(h3:dX 3 f σ=some (.ok c3,σ))(h:Cq f σ=some (.ok v,σ)):XX K f σ=K (.dC 387) [c0,v,c3,iv 9,c1] σ:=by
 have e:XX K f σ=dk (dk (dX 0 f σ) fun u σ=>dk (dk (Cq f σ) fun v σ=>dk (dk (dX 3 f σ) fun x σ=>dk (dk (ret (iv 9) f σ) fun y σ=>dk (dk (dX 1 f σ) fun z σ=>dk (cm f σ) fun l σ=>ok (z::l) σ) fun l σ=>ok (y::l) σ) fun l σ=>ok (x::l) σ) fun l σ=>ok (v::l) σ) fun l σ=>ok (u::l) σ) fun l σ=>K (.dC 387) l σ:=rfl
 have e9:ret (iv 9) f σ=some (.ok (iv 9),σ):=rfl
 have en:cm f σ=some (.ok [],σ):=rfl
 rw[e,h0,sI,h,sI,h3,sI,e9,sI,h1,sI,en];rfl
noncomputable def LT(rows wanted:List J)(hp:Bool)(fN told types:Option J):List MO:=[.fr 16 [fN,told,types],.fg (some (.loc 3)),.fg (some (.lst rows)),.fg (some (.lst wanted)),.fg (some (.bool hp))]
noncomputable def fX:Fr:=⟨15,[10,13,11,12]⟩
noncomputable def fV:Fr:=⟨16,[17]⟩
noncomputable def fI:Fr:=⟨20,[17]⟩
def base(nodes wd:List J)(hp:Bool):List MO:=[.fr 0 [],.fr 0 [],.fr 39 [some (.lst nodes),some (.lst wd),some (iv 9),some (.bool hp),none,none],.fg (some (.loc 3))]
def tV:Fr→J→List MO→Out Unit:=lj 2 (fL (c_ 41 0) (fL (c_ 41 1) jt))
def qT:XT:=fun Z σ=>ok true σ
section
variable{K8 K:KT}{rows nodes wd m7 acc:List J}{hp:Bool}{fN wl u v:J}
def T0(rows wd:List J)(hp:Bool)(fN:J)(R:List MO):List MO:=LR rows wd hp (some fN) none none R
def SV(rows nodes wd:List J)(hp:Bool)(fN:J)(acc:List J)(u v:Option J):List MO:=T0 rows wd hp fN (app (base nodes wd hp) [.pair,.lst acc,.fr 41 [u,v]])
def Cr(rows nodes wd:List J)(hp:Bool)(fN:J):List MO:=T0 rows wd hp fN (base nodes wd hp)
def LG(rows nodes wd:List J)(hp:Bool)(fN:J):List MO:=T0 rows wd hp fN (app (base nodes wd hp) [.pair])
structure Sh(rows nodes wd m7:List J)(wl:J):Prop where
 c18:∀hp fN,Cq fX (T0 rows wd hp fN [.fr 0 [],.fr 0 []])=fin 16 16 (some (.ok (),T0 rows wd hp fN [.fr 0 [],.fr 0 [],.lst nodes,.fr 18 [some wl]]))
 v1:∀K8 hp fN,cV K8 fV (Cr rows nodes wd hp fN)=fin 19 19 (jG 19 tV qT (xV K8) (some 18) m7 fI (SV rows nodes wd hp fN [] none none))
 v0:∀K8 hp fN,eE 39 6 1 [(true,0),(false,0),(false,1),(false,2),(false,3)] t4 (yy K8) [.loc 3,.lst nodes,.lst wd,iv 9,.bool hp] (T0 rows wd hp fN [.fr 0 [],.fr 0 []])=dk (dk (ct (dG (vM K8)) cJ fV (Cr rows nodes wd hp fN)) fun m σ=>match m with|.next=>afV K8 fV σ|.ret v=>ok (.ret v) σ) rq
 br:∀m,ek m rows=true
 bn:∀m,ek m nodes=true
 bt:∀m,ek m wd=true
 bl:∀m,ef m wl=true
structure Ov(K8:KT)(e:El)(W:J):Prop where
 v:∀R,K8 (.dC 369) [.loc 3,e.node,e.T] (app P7 R)=some (.ok W,app P7 R)
theorem Q_(H:Sh rows nodes wd m7 wl)(k:Nat)(h:Nat.blt 3 k=true):allR (fF k) (base nodes wd hp)=true:=jH rfl (jH rfl (jH (lE (H.bn k) (lE (H.bt k) (lE rfl (lE rfl (lE rfl (lE rfl se)))))) (jH h uM)))
theorem Jm(H:Sh rows nodes wd m7 wl)(bd:∀m,ef m fN=true){k:Nat}(h0:allR (fF k) P7=true)(h:Nat.blt 3 k=true){R:List MO}(hR:allR (fF k) R=true):iJ k (T0 rows wd hp fN R)=true:=Jl h0 h (H.br k) (H.bt k) (bd k) rfl rfl hR
theorem RQ(H:Sh rows nodes wd m7 wl)(bd:∀m,ef m fN=true):iJ 14 (LG rows nodes wd hp fN)=true:=Jm H bd (by kernel_rfl) rfl (Ek (Q_ H 14 rfl) (jH rfl uM))
theorem Sw(H:Sh rows nodes wd m7 wl)(bd:∀m,ef m fN=true){k:Nat}(h0:allR (fF k) P7=true)(h:Nat.blt 3 k=true)(ba:ek k acc=true)(bu:ef k u=true)(bv:ef k v=true):iJ k (SV rows nodes wd hp fN acc (some u) (some v))=true:=
 Jm H bd h0 h (Ek (Q_ H k h) (jH rfl (jH (show fF k (.lst acc)=true from ba) (jH (lE (show i_ k (some u)=true from bu) (lE (show i_ k (some v)=true from bv) se)) uM))))
theorem ade(H:Sh rows nodes wd m7 wl)(bd:∀m,ef m fN=true):Cq fX (T0 rows wd hp fN [.fr 0 [],.fr 0 []])=some (.ok (.lst nodes),T0 rows wd hp fN [.fr 0 [],.fr 0 []]):=by
 rw[H.c18,rj (l:=nodes) (Jm H bd (by kernel_rfl) rfl (jH rfl (jH rfl (jH (show fF 16 (.lst nodes)=true from H.bn _) (jH (lE (show i_ 16 (some wl)=true from H.bl _) se) uM))))) rfl rfl (H.bn _)]
 rfl
theorem Sx(H:Sh rows nodes wd m7 wl)(bd:∀m,ef m fN=true)(hV:K (.dC 387)=eE 39 6 1 [(true,0),(false,0),(false,1),(false,2),(false,3)] t4 (yy K8)){y:Res J}{S:List MO}(h:vM K8 fV (Cr rows nodes wd hp fN)=some (y,S)):
  A2 K fR (T0 rows wd hp fN [])=v8 14 qr (some (y,S)):=by
 have e:A2 K fR (T0 rows wd hp fN [])=v8 14 qr (XX K fX (T0 rows wd hp fN [.fr 0 [],.fr 0 []])):=by kernel_rfl
 rw[e,adW (c0:=.loc 3) (c1:=.bool hp) (c3:=.lst wd) rfl rfl rfl (ade H bd),hV,H.v0]
 unfold ct dG
 rw[h]
 cases y<;>rfl
theorem RR(n:J)(e:A1 K fR (LR rows wd hp none none none [])=K (.dC 1093) [.lst rows,.lst wd,iv 9,n,.bool hp] (LR rows wd hp none none none []))(hA:∀σ,K (.dC 1093) [.lst rows,.lst wd,iv 9,n,.bool hp] σ=some (.ok fN,σ)):
  eE 16 3 4 [(true,0),(true,1),(true,2),(true,3)] sG (vg K) (ou rows wd hp) P7=dk (r2 K fR (T0 rows wd hp fN [])) rq:=by
 have st:eE 16 3 4 [(true,0),(true,1),(true,2),(true,3)] sG (vg K) (ou rows wd hp) P7=dk (r1 K fR (LR rows wd hp none none none [])) rq:=by kernel_rfl
 rw[st,show r1 K fR (LR rows wd hp none none none [])=r2 K fR (T0 rows wd hp fN [])from vo (e.trans (hA _)) rfl]
theorem RS(a2:A2 K fR (T0 rows wd hp fN [])=some (.ok fN,T0 rows wd hp fN [])):r2 K fR (T0 rows wd hp fN [])=r3 K fR (LR rows wd hp (some fN) (some fN) none []):=vo a2 rfl
abbrev Wx(K8 K:KT):Prop:=K (.dC 387)=eE 39 6 1 [(true,0),(false,0),(false,1),(false,2),(false,3)] t4 (yy K8)
abbrev Rg(K:KT)(rows wd:List J)(hp:Bool):Prop:=∃S9,eE 16 3 4 [(true,0),(true,1),(true,2),(true,3)] sG (vg K) (ou rows wd hp) P7=some (.ok (.bool true),app P7 S9)
theorem sM{e:El}{W:J}{u v:Option J}{l:List J}(hv:∀R,K8 (.dC 369) [.loc 3,e.node,e.T] (app P7 R)=some (.ok W,app P7 R))(hs:short acc=true):
  jG 19 tV qT (xV K8) (some 18) (.tup [e.node,e.T]::l) fI (SV rows nodes wd hp fN acc u v)=jG 19 tV qT (xV K8) (some 18) l fI (SV rows nodes wd hp fN (app acc [W]) (some e.node) (some e.T)):=
 sL (σ1:=SV rows nodes wd hp fN acc (some e.node) (some e.T)) rfl rfl rfl (hv _) (yS rfl hs)
theorem AM{e:El}{k:Int}{u v:Option J}{l:List J}(hv:∀R,K8 (.dC 369) [.loc 3,e.node,e.T] (app P7 R)=some (.fo k,app P7 R)):
  jG 19 tV qT (xV K8) (some 18) (.tup [e.node,e.T]::l) fI (SV rows nodes wd hp fN acc u v)=some (.fo k,SV rows nodes wd hp fN acc (some e.node) (some e.T)):=
 ab2 (σ1:=SV rows nodes wd hp fN acc (some e.node) (some e.T)) rfl rfl rfl (hv _)
theorem AW{s:Nat}(H:Sh rows nodes wd m7 wl)(hA:∀σ,K (.dC 1093) [.lst rows,.lst wd,iv 9,.int 2,.bool hp] σ=some (.ok (.tup [.str iB,iv s]),σ))(hV:Wx K8 K)
  (hm:jG 19 tV qT (xV K8) (some 18) m7 fI (SV rows nodes wd hp (.tup [.str iB,iv s]) [] none none)=some (.fo (.ofNat s),SV rows nodes wd hp (.tup [.str iB,iv s]) acc (some u) (some v))) (ba:ek 19 acc=true) (bu:ef 19 u=true) (bv:ef 19 v=true):Rg K rows wd hp:=by
 have bd:∀m,ef m (.tup [.str iB,iv s])=true:=fun Z=>rfl
 have v2:cV K8 fV (Cr rows nodes wd hp (.tup [.str iB,iv s]))=some (.fo (.ofNat s),LG rows nodes wd hp (.tup [.str iB,iv s])):=by
  rw[H.v1,hm,ac_ (Sw H bd (by kernel_rfl) rfl ba bu bv) rfl]
  rfl
 have a2:A2 K fR (T0 rows wd hp (.tup [.str iB,iv s]) [])=some (.ok (.tup [.str iB,iv s]),T0 rows wd hp (.tup [.str iB,iv s]) []):=by
  rw[Sx H bd hV (adV v2),ab4 (RQ H bd) rfl]
  rfl
 let S2:=LR rows wd hp (some (.tup [.str iB,iv s])) (some (.tup [.str iB,iv s])) none []
 have x0:cB eX (bY 16 1) (bY 16 0) fR S2=some (.ok (.bool false),S2):=(rfl:_=eX (.tup [.str iB,iv s]) (.tup [.str iB,iv s]) S2).trans (Qu rfl (Q8 _) _)
 have x1:ia (cZ (cB eX (bY 16 1) (bY 16 0))) (ia (cZ (cB cU (m1 (cP 0) (bY 16 0)) (ret (.str iB)))) (fun Z σ=>ok false σ)) fR S2=some (.ok true,S2):=by
  unfold ia
  rw[Aw x0]
  kernel_rfl
 have x2:(cB cU (bY 16 1) (bY 16 0)) fR S2=some (.ok (.bool true),S2):=(rfl:_=cU (.tup [.str iB,iv s]) (.tup [.str iB,iv s]) S2).trans (Qt rfl (Q8 _) _)
 refine⟨LT rows wd hp (some (.tup [.str iB,iv s])) (some (.tup [.str iB,iv s])) none,?_⟩
 rw[RR (.int 2) rfl hA,RS a2,show r3 K fR S2=some (.ok (.ret (.bool true)),S2)from AK ((Pm x1).trans (EB x2))]
 rfl
structure Sg(rows wd Ws ys:List J)(n:J):Prop where
 a4:∀hp,∃S,A4 fR (LR rows wd hp (some (.tup [.lst [],.lst Ws])) (some (.tup [.lst [],.lst Ws])) none [])=fin 14 14 (some (.ok (),S))∧iJ 14 S=true∧BF (d7 S 15)=true∧d7 S 14=some (.lst ys)∧gn 14 S=LR rows wd hp (some (.tup [.lst [],.lst Ws])) (some (.tup [.lst [],.lst Ws])) none []
 i5:∀hp,I5 fR (LR rows wd hp (some (.tup [.lst [],.lst Ws])) (some (.tup [.lst [],.lst Ws])) (some (.lst ys)) [])=some (.ok .next,LR rows wd hp (some (.tup [.lst [],.lst Ws])) (some (.tup [.lst [],.lst Ws])) (some (.lst ys)) [])
 a6:∀K hp,A6 K fR (LR rows wd hp (some (.tup [.lst [],.lst Ws])) (some (.tup [.lst [],.lst Ws])) (some (.lst ys)) [])=dk (K (.dC 392) [.lst Ws,n] (LR rows wd hp (some (.tup [.lst [],.lst Ws])) (some (.tup [.lst [],.lst Ws])) (some (.lst ys)) [])) fun v σ=>dk (bY 16 2 fR σ) fun u σ=>cU v u σ
 lX:ek 14 ys=true
 bW:∀m,ek m Ws=true
theorem Ra{Ws ys:List J}{n:J}(H:Sh rows nodes wd m7 wl)(G:Sg rows wd Ws ys n)(hA:∀σ,K (.dC 1093) [.lst rows,.lst wd,iv 9,.int 2,.bool hp] σ=some (.ok (.tup [.lst [],.lst Ws]),σ))(hV:Wx K8 K)
  (hm:jG 19 tV qT (xV K8) (some 18) m7 fI (SV rows nodes wd hp (.tup [.lst [],.lst Ws]) [] none none)=some (.ok (),SV rows nodes wd hp (.tup [.lst [],.lst Ws]) Ws (some u) (some v))) (bu:ef 19 u=true) (bv:ef 19 v=true)
  (zW:∀m σ,lQ (kg m σ 12) Ws=some Ws) (hT:∀σ,K (.dC 392) [.lst Ws,n] σ=some (.ok (.lst ys),σ)) (q1:g7 12 (.tup [.lst [],.lst Ws])=true) (q3:g7 12 (.lst ys)=true) (fr:∀v,g7 12 v=true→mI 12 v v=true):Rg K rows wd hp:=by
 have bd:∀m,ef m (.tup [.lst [],.lst Ws])=true:=fun m=>by show band true (band (ek m Ws) true)=true;rw[G.bW];rfl
 have v2:cV K8 fV (Cr rows nodes wd hp (.tup [.lst [],.lst Ws]))=some (.ok (.lst Ws),LG rows nodes wd hp (.tup [.lst [],.lst Ws])):=by
  rw[H.v1,hm,rj (l:=Ws) (Sw H bd (by kernel_rfl) rfl (G.bW _) bu bv) rfl rfl (G.bW _)]
  rfl
 have hz:∀m σ,fz m σ (.tup [.lst [],.lst Ws])=some (.tup [.lst [],.lst Ws]):=fun m σ=>by
  have hl:kg m σ 13 (.lst Ws)=some (.lst Ws):=by rw[IF,zW];rfl
  have hw:lQ (kg m σ 13) [.lst [],.lst Ws]=some [.lst [],.lst Ws]:=n7 rfl (n7 hl (y7 _))
  show kg m _ 14 _=_
  rw[Q9,hw]
  rfl
 have a2:A2 K fR (T0 rows wd hp (.tup [.lst [],.lst Ws]) [])=some (.ok (.tup [.lst [],.lst Ws]),T0 rows wd hp (.tup [.lst [],.lst Ws]) []):=by
  rw[Sx H bd hV (afX v2),adb (RQ H bd) (hz _ _)]
  rfl
 let S2:=LR rows wd hp (some (.tup [.lst [],.lst Ws])) (some (.tup [.lst [],.lst Ws])) none []
 let S3:=LR rows wd hp (some (.tup [.lst [],.lst Ws])) (some (.tup [.lst [],.lst Ws])) (some (.lst ys)) []
 have x0:cB eX (bY 16 1) (bY 16 0) fR S2=some (.ok (.bool false),S2):=(rfl:_=eX (.tup [.lst [],.lst Ws]) (.tup [.lst [],.lst Ws]) S2).trans (Qu q1 (fr _ q1) _)
 have i3:I3 fR S2=some (.ok .next,S2):=by
  unfold I3 dR ia
  rw[Aw x0]
  kernel_rfl
 obtain⟨S,e4,g1,g2,g3,g4⟩:=G.a4 hp
 have a4:A4 fR S2=some (.ok (.lst ys),S2):=by
  rw[e4,rj (l:=ys) g1 g2 g3 G.lX,g4]
 have a6:A6 K fR S3=some (.ok (.bool true),S3):=by
  rw[G.a6,hT,sI]
  show cU (.lst ys) (.lst ys) _=_
  exact Qt q3 (fr _ q3) _
 refine⟨LT rows wd hp (some (.tup [.lst [],.lst Ws])) (some (.tup [.lst [],.lst Ws])) (some (.lst ys)),?_⟩
 rw[RR (.int 2) rfl hA,RS a2,show r3 K fR S2=r4 K fR S2 from RP i3,show r4 K fR S2=r5 K fR S3 from vo a4 rfl,show r5 K fR S3=r6 K fR S3 from RP (G.i5 hp),show r6 K fR S3=some (.ok (.ret (.bool true)),S3)from EB a6]
 rfl
end
theorem RT{K:KT}{Ws:List J}{n:J}{v:J}(st:eE 42 2 0 [(false,0),(false,1)] qX (tZ K) [.lst Ws,n] []=dk (dk (ct (dG zP) cJ ⟨0,[]⟩ [.fr 42 [some (.lst Ws),some n]]) fun m σ=>match m with|.next=>afW K ⟨0,[]⟩ σ|.ret v=>ok (.ret v) σ) rq)
  (f:zP ⟨0,[]⟩ [.fr 42 [some (.lst Ws),some n]]=some (.ok v,[.fr 42 [some (.lst Ws),some n]])):eE 42 2 0 [(false,0),(false,1)] qX (tZ K) [.lst Ws,n] []=some (.ok v,[.fr 42 [some (.lst Ws),some n]]):=by
 rw[st,EB f]
 rfl
theorem ajE{a b:El}(ca:a.Cl)(cb:b.Cl):Sh [a.row,b.row] [a.node,b.node] [a.T,b.T] [.tup [a.node,a.T],.tup [b.node,b.T]] b.row:=⟨fun Z Z=>by kernel_rfl,fun Z Z Z=>by kernel_rfl,fun Z Z Z=>by kernel_rfl,fun m=>(eh (ca.row m) (eh (cb.row m) rfl)),fun m=>(eh (ca.node m) (eh (cb.node m) rfl)),fun m=>(eh (ca.T m) (eh (cb.T m) rfl)),fun m=>cb.row m⟩
theorem ajF{a b:El}(ca:a.Cl)(cb:b.Cl){ha:Str}{ya:J}{ra:List J}{hb:Str}{yb:J}{rb:List J}(ba:∀m,ef m (.tup (.str ha::ya::ra))=true)(ga:∀m,ef m ya=true)(bb:∀m,ef m (.tup (.str hb::yb::rb))=true)(gb:∀m,ef m yb=true):Sg [a.row,b.row] [a.T,b.T] [.tup (.str ha::ya::ra),.tup (.str hb::yb::rb)] [ya,yb] (.int 2):=
 have bW:∀m,ek m [.tup (.str ha::ya::ra),.tup (.str hb::yb::rb)]=true:=fun m=>(eh (ba m) (eh (bb m) rfl))
 have bq:∀m,i_ m (some (.tup [.lst [],.lst [.tup (.str ha::ya::ra),.tup (.str hb::yb::rb)]]))=true:=fun m=>by show band true (band (ek m [.tup (.str ha::ya::ra),.tup (.str hb::yb::rb)]) true)=true;rw[bW];rfl
 ⟨fun hp=>⟨(LR [a.row,b.row] [a.T,b.T] hp (some (.tup [.lst [],.lst [.tup (.str ha::ya::ra),.tup (.str hb::yb::rb)]])) (some (.tup [.lst [],.lst [.tup (.str ha::ya::ra),.tup (.str hb::yb::rb)]])) none [.lst [ya,yb],.fr 17 [some (.tup (.str hb::yb::rb))]]),by kernel_rfl,Jl (by kernel_rfl) rfl (eh (ca.row _) (eh (cb.row _) rfl)) (eh (ca.T _) (eh (cb.T _) rfl)) (bq _) (bq _) rfl (jH (show fF 14 (.lst [ya,yb])=true from(show ek 14 [ya,yb]=true from(eh (ga _) (eh (gb _) rfl)))) (jH (lE (show i_ 14 (some (.tup (.str hb::yb::rb)))=true from bb _) se) uM)),rfl,rfl,rfl⟩,fun Z=>by kernel_rfl,fun Z Z=>rfl,(eh (ga 14) (eh (gb 14) rfl)),bW⟩
theorem ajG{K:KT}{ha:Str}{ya:J}{ra:List J}{hb:Str}{yb:J}{rb:List J}(ba:∀m,ef m (.tup (.str ha::ya::ra))=true)(ga:∀m,ef m ya=true)(bb:∀m,ef m (.tup (.str hb::yb::rb))=true)(gb:∀m,ef m yb=true):∃S9,eE 42 2 0 [(false,0),(false,1)] qX (tZ K) [.lst [.tup (.str ha::ya::ra),.tup (.str hb::yb::rb)],.int 2] []=some (.ok (.lst [ya,yb]),S9):=by
 let S1:List MO:=[.fr 42 [some (.lst [.tup (.str ha::ya::ra),.tup (.str hb::yb::rb)]),some (.int 2)]]
 have e:zP ⟨0,[]⟩ S1=fin 1 1 (some (.ok (),app S1 [.lst [ya,yb],.fr 43 [some (.tup (.str hb::yb::rb))]])):=by kernel_rfl
 have f:zP ⟨0,[]⟩ S1=some (.ok (.lst [ya,yb]),S1):=e.trans (rj (l:=[ya,yb]) (IE (jH (lE (show i_ 1 (some (.lst [.tup (.str ha::ya::ra),.tup (.str hb::yb::rb)]))=true from(show ek 1 [.tup (.str ha::ya::ra),.tup (.str hb::yb::rb)]=true from(eh (ba _) (eh (bb _) rfl)))) (lE rfl se)) (jH (show fF 1 (.lst [ya,yb])=true from(show ek 1 [ya,yb]=true from(eh (ga _) (eh (gb _) rfl)))) (jH (lE (show i_ 1 (some (.tup (.str hb::yb::rb)))=true from bb _) se) uM)))) rfl rfl (eh (ga _) (eh (gb _) rfl)))
 exact⟨S1,RT (by kernel_rfl) f⟩
theorem ajH{a b d:El}(ca:a.Cl)(cb:b.Cl)(cd:d.Cl):Sh [a.row,b.row,d.row] [a.node,b.node,d.node] [a.T,b.T,d.T] [.tup [a.node,a.T],.tup [b.node,b.T],.tup [d.node,d.T]] d.row:=⟨fun Z Z=>by kernel_rfl,fun Z Z Z=>by kernel_rfl,fun Z Z Z=>by kernel_rfl,fun m=>(eh (ca.row m) (eh (cb.row m) (eh (cd.row m) rfl))),fun m=>(eh (ca.node m) (eh (cb.node m) (eh (cd.node m) rfl))),fun m=>(eh (ca.T m) (eh (cb.T m) (eh (cd.T m) rfl))),fun m=>cd.row m⟩
theorem ajI{a b d:El}(ca:a.Cl)(cb:b.Cl)(cd:d.Cl){ha:Str}{ya:J}{ra:List J}{hb:Str}{yb:J}{rb:List J}{hd:Str}{yd:J}{rd:List J}(ba:∀m,ef m (.tup (.str ha::ya::ra))=true)(ga:∀m,ef m ya=true)(bb:∀m,ef m (.tup (.str hb::yb::rb))=true)(gb:∀m,ef m yb=true)(bd:∀m,ef m (.tup (.str hd::yd::rd))=true)(gd:∀m,ef m yd=true):Sg [a.row,b.row,d.row] [a.T,b.T,d.T] [.tup (.str ha::ya::ra),.tup (.str hb::yb::rb),.tup (.str hd::yd::rd)] [ya,yb,yd] (.int 3):=
 have bW:∀m,ek m [.tup (.str ha::ya::ra),.tup (.str hb::yb::rb),.tup (.str hd::yd::rd)]=true:=fun m=>(eh (ba m) (eh (bb m) (eh (bd m) rfl)))
 have bq:∀m,i_ m (some (.tup [.lst [],.lst [.tup (.str ha::ya::ra),.tup (.str hb::yb::rb),.tup (.str hd::yd::rd)]]))=true:=fun m=>by show band true (band (ek m [.tup (.str ha::ya::ra),.tup (.str hb::yb::rb),.tup (.str hd::yd::rd)]) true)=true;rw[bW];rfl
 ⟨fun hp=>⟨(LR [a.row,b.row,d.row] [a.T,b.T,d.T] hp (some (.tup [.lst [],.lst [.tup (.str ha::ya::ra),.tup (.str hb::yb::rb),.tup (.str hd::yd::rd)]])) (some (.tup [.lst [],.lst [.tup (.str ha::ya::ra),.tup (.str hb::yb::rb),.tup (.str hd::yd::rd)]])) none [.lst [ya,yb,yd],.fr 17 [some (.tup (.str hd::yd::rd))]]),by kernel_rfl,Jl (by kernel_rfl) rfl (eh (ca.row _) (eh (cb.row _) (eh (cd.row _) rfl))) (eh (ca.T _) (eh (cb.T _) (eh (cd.T _) rfl))) (bq _) (bq _) rfl (jH (show fF 14 (.lst [ya,yb,yd])=true from(show ek 14 [ya,yb,yd]=true from(eh (ga _) (eh (gb _) (eh (gd _) rfl))))) (jH (lE (show i_ 14 (some (.tup (.str hd::yd::rd)))=true from bd _) se) uM)),rfl,rfl,rfl⟩,fun Z=>by kernel_rfl,fun Z Z=>rfl,(eh (ga 14) (eh (gb 14) (eh (gd 14) rfl))),bW⟩
theorem ajJ{K:KT}{ha:Str}{ya:J}{ra:List J}{hb:Str}{yb:J}{rb:List J}{hd:Str}{yd:J}{rd:List J}(ba:∀m,ef m (.tup (.str ha::ya::ra))=true)(ga:∀m,ef m ya=true)(bb:∀m,ef m (.tup (.str hb::yb::rb))=true)(gb:∀m,ef m yb=true)(bd:∀m,ef m (.tup (.str hd::yd::rd))=true)(gd:∀m,ef m yd=true):∃S9,eE 42 2 0 [(false,0),(false,1)] qX (tZ K) [.lst [.tup (.str ha::ya::ra),.tup (.str hb::yb::rb),.tup (.str hd::yd::rd)],.int 3] []=some (.ok (.lst [ya,yb,yd]),S9):=by
 let S1:List MO:=[.fr 42 [some (.lst [.tup (.str ha::ya::ra),.tup (.str hb::yb::rb),.tup (.str hd::yd::rd)]),some (.int 3)]]
 have e:zP ⟨0,[]⟩ S1=fin 1 1 (some (.ok (),app S1 [.lst [ya,yb,yd],.fr 43 [some (.tup (.str hd::yd::rd))]])):=by kernel_rfl
 have f:zP ⟨0,[]⟩ S1=some (.ok (.lst [ya,yb,yd]),S1):=e.trans (rj (l:=[ya,yb,yd]) (IE (jH (lE (show i_ 1 (some (.lst [.tup (.str ha::ya::ra),.tup (.str hb::yb::rb),.tup (.str hd::yd::rd)]))=true from(show ek 1 [.tup (.str ha::ya::ra),.tup (.str hb::yb::rb),.tup (.str hd::yd::rd)]=true from(eh (ba _) (eh (bb _) (eh (bd _) rfl))))) (lE rfl se)) (jH (show fF 1 (.lst [ya,yb,yd])=true from(show ek 1 [ya,yb,yd]=true from(eh (ga _) (eh (gb _) (eh (gd _) rfl))))) (jH (lE (show i_ 1 (some (.tup (.str hd::yd::rd)))=true from bd _) se) uM)))) rfl rfl (eh (ga _) (eh (gb _) (eh (gd _) rfl))))
 exact⟨S1,RT (by kernel_rfl) f⟩
theorem Pn{p:J→Bool}{e:J→J→Bool}(h:∀v,p v=true→e v v=true):∀l:List J,iU p l=true→vX e l l=true
 |[],_=>rfl
 |v::l,q=>by
  obtain⟨h1,h2⟩:=sH q
  show @Bool.rec (fun Z=>Bool) false (vX e l l) (e v v)=true
  rw[h v h1]
  exact Pn h l h2
theorem Po{s:List J→List J→Bool}{t:List J→Bool}(h:∀l,t l=true→s l l=true)(v:J):ll t v=true→pz s v v=true:=
 @J.casesOn (fun v=>ll t v=true→pz s v v=true) v (fun Z=>rfl) (fun b Z=>by cases b<;>rfl) (fun i Z=>(AR i i).trans (beq_self_eq_true i)) (fun x Z=>(pe x x).trans (decide_eq_true rfl)) (fun l q=>h l q) (fun l q=>h l q) (fun Z q=>cF q) (fun Z Z q=>cF q) (fun Z q=>cF q) (fun Z q=>cF q) (fun Z q=>cF q) (fun Z q=>cF q) (fun Z q=>cF q) (fun q=>cF q)
theorem Ic:∀(n:Nat) (v:J),g7 n v=true→mI n v v=true
 |0,v,h=>Po (s:=fun Z Z=>false) (t:=fun Z=>false) (fun Z h=>cF h) v h
 |n+1,v,h=>Po (s:=vX (mI n)) (t:=iU (g7 n)) (fun l h=>Pn (fun v h=>Ic n v h) l h) v h
theorem OQ{v:List J→List MO→Out J}{args:List J}{b:J}{S9:List MO}(σ:List MO)(h:v args []=some (.ok b,S9))(h1:ek 0 args=true)(h2:fz 0 S9 b=some b)(h3:ef 0 b=true):gC 0 v args σ=some (.ok b,σ):=
 have h0:band (sO 0 σ) (band (ek 0 args) (iJ 0 σ))=true:=(congrArg (fun b=>band (sO 0 σ) (band b (iJ 0 σ))) h1).trans rfl
 IC h0 h rfl h2 h3
structure mF(e:El)(h:Str)(y:J)(r:List J):Prop where
 k:∀σ,j3 18 (.dC 1083) [e.made,e.T,iv e.s] σ=some (.ok (.tup (.str h::y::r)),σ)
 v:∀R,j3 18 (.dC 369) [.loc 3,e.node,e.T] (app P7 R)=some (.ok (.tup (.str h::y::r)),app P7 R)
 n:∀σ,cU (.str h) (.str iB) σ=some (.ok (.bool false),σ)
 b:∀m,ef m (.tup (.str h::y::r))=true
 lX:∀m,ef m y=true
 z:∀m σ,kg m σ 12 (.tup (.str h::y::r))=some (.tup (.str h::y::r))
 zy:∀m σ,kg m σ 13 y=some y
 o:g7 10 (.tup (.str h::y::r))=true
 oy:g7 11 y=true
theorem mF.oc{e:El}{h:Str}{y:J}{r:List J}(o:mF e h y r):Oc (j3 18) e (.tup (.str h::y::r)) false:=
 ⟨o.k,fun f' σ h'=>Aw (by
  show dk (dk (bY 14 0 f' σ) (cP 0)) (fun a σ=>dk (ret (.str iB) f' σ) fun b σ=>cU a b σ)=_
  rw[h']
  exact o.n σ),o.b,o.o⟩
structure jT(e:El):Prop where
 k:∀σ,j3 18 (.dC 1083) [e.made,e.T,iv e.s] σ=some (.ok (.tup [.str iB,iv e.s]),σ)
 v:∀R,j3 18 (.dC 369) [.loc 3,e.node,e.T] (app P7 R)=some (.fo (.ofNat e.s),app P7 R)
theorem jT.oc{e:El}(o:jT e):Oc (j3 18) e (.tup [.str iB,iv e.s]) true:=
 ⟨o.k,fun f' σ h'=>Aw (by
  show dk (dk (bY 14 0 f' σ) (cP 0)) (fun a σ=>dk (ret (.str iB) f' σ) fun b σ=>cU a b σ)=_
  rw[h']
  rfl),fun Z=>rfl,rfl⟩
def uN(t s:Nat):El:=⟨(.str s4),[(.tup [(.str r8),(.tup [(.str mL),(.str s7)]),(iv s),(.int (.ofNat 5))])],(.tup [(.str r8),(.tup [(.str mL),(.str s7)]),(iv s),(.int (.ofNat 5))]),.none,fD t,s⟩
theorem apv(t s:Nat):iz 0 s=(uN t s).row:=rfl
def uO(t s:Nat):El:=⟨(.str s4),[(.tup [(.str jh),(.tup [(.str s7),(.str s7)]),(iv s),(.int (.ofNat 3))])],(.tup [(.str jh),(.tup [(.str s7),(.str s7)]),(iv s),(.int (.ofNat 3))]),.none,fD t,s⟩
theorem apw(t s:Nat):iz 1 s=(uO t s).row:=rfl
def uP(t s:Nat):El:=⟨(.str s4),[(.tup [(.str jh),(.tup [(.str s0)]),(iv s),(.int (.ofNat 4))])],(.tup [(.str jh),(.tup [(.str s0)]),(iv s),(.int (.ofNat 4))]),.none,fD t,s⟩
theorem apx(t s:Nat):iz 2 s=(uP t s).row:=rfl
def uQ(t s:Nat):El:=⟨(.str s4),[(.tup [(.str mK),(.tup [(.str mK)]),(iv s)])],(.tup [(.str mK),(.tup [(.str mK)]),(iv s)]),.none,fD t,s⟩
theorem apy(t s:Nat):iz 3 s=(uQ t s).row:=rfl
def uR(t s:Nat):El:=⟨(.str s4),[(.tup [(.str pO),(.tup [(.str jv),(.tup [(.tup [(.str s7),(.str s7)]),(.tup [(.str s0)])])]),(iv s),(.tup [(.str qF),(.str Ci)]),(.tup [])])],(.tup [(.str pO),(.tup [(.str jv),(.tup [(.tup [(.str s7),(.str s7)]),(.tup [(.str s0)])])]),(iv s),(.tup [(.str qF),(.str Ci)]),(.tup [])]),.none,fD t,s⟩
theorem apz(t s:Nat):iz 4 s=(uR t s).row:=rfl
def uS(t s:Nat):El:=⟨(.str s4),[(.tup [(.str pO),(.tup [(.str jv),(.tup [(.tup [(.str s7),(.str s7)]),(.tup [(.str s0)]),(.tup [(.str s7),(.str s7)])])]),(iv s),(.tup [(.str qF),(.str Cg)]),(.tup [])])],(.tup [(.str pO),(.tup [(.str jv),(.tup [(.tup [(.str s7),(.str s7)]),(.tup [(.str s0)]),(.tup [(.str s7),(.str s7)])])]),(iv s),(.tup [(.str qF),(.str Cg)]),(.tup [])]),.none,fD t,s⟩
theorem apA(t s:Nat):iz 5 s=(uS t s).row:=rfl
def uT(t s:Nat):El:=⟨(.str s5),[(.str Gp),(.tup [(.str s4),(iv s),(.tup [(.str jh),(.tup [(.str mM),(.str pP),(.tup [(.str s7),(.str s7)])]),(iv s),(.int (.ofNat 7))])])],(.tup [(.str s9),(.tup [(.str s7),(.str s7)]),(iv s),(.tup [(.str jh),(.tup [(.str mM),(.str pP),(.tup [(.str s7),(.str s7)])]),(iv s),(.int (.ofNat 7))]),(.bool false)]),(.tup [(.str s9),(.tup [(.str jv),(.tup [(.tup [(.str s7),(.str s7)]),(.tup [(.str s0)])])]),(iv s),(.tup [(.str jh),(.tup [(.str mM),(.str pP),(.tup [(.str s7),(.str s7)])]),(iv s),(.int (.ofNat 7))]),(.bool true)]),fD t,s⟩
theorem apB(t s:Nat):iz 6 s=(uT t s).row:=rfl
theorem vr(m:Nat){t:Nat}(h:t<5):ef m (fD t)=true:=by
 match t,h with
 |0,_=>rfl
 |1,_=>rfl
 |2,_=>rfl
 |3,_=>rfl
 |4,_=>rfl
 |_+5,h=>exact mB h
theorem cl0{t:Nat}(s:Nat)(ht:t<5):(uN t s).Cl:=⟨fun Z=>rfl,fun Z=>rfl,fun Z=>rfl,fun Z=>rfl,fun m=>vr m ht⟩
theorem cl1{t:Nat}(s:Nat)(ht:t<5):(uO t s).Cl:=⟨fun Z=>rfl,fun Z=>rfl,fun Z=>rfl,fun Z=>rfl,fun m=>vr m ht⟩
theorem cl2{t:Nat}(s:Nat)(ht:t<5):(uP t s).Cl:=⟨fun Z=>rfl,fun Z=>rfl,fun Z=>rfl,fun Z=>rfl,fun m=>vr m ht⟩
theorem cl3{t:Nat}(s:Nat)(ht:t<5):(uQ t s).Cl:=⟨fun Z=>rfl,fun Z=>rfl,fun Z=>rfl,fun Z=>rfl,fun m=>vr m ht⟩
theorem cl4{t:Nat}(s:Nat)(ht:t<5):(uR t s).Cl:=⟨fun Z=>rfl,fun Z=>rfl,fun Z=>rfl,fun Z=>rfl,fun m=>vr m ht⟩
theorem cl5{t:Nat}(s:Nat)(ht:t<5):(uS t s).Cl:=⟨fun Z=>rfl,fun Z=>rfl,fun Z=>rfl,fun Z=>rfl,fun m=>vr m ht⟩
theorem cl6{t:Nat}(s:Nat)(ht:t<5):(uT t s).Cl:=⟨fun Z=>rfl,fun Z=>rfl,fun Z=>rfl,fun Z=>rfl,fun m=>vr m ht⟩
theorem adX(s:Nat):mF (uN 0 s) r8 (.tup [(.str s7),(.str s7)]) [(iv s),(.int (.ofNat 5))]:=⟨fun Z=>by kernel_rfl,fun Z=>by kernel_rfl,fun Z=>by kernel_rfl,fun Z=>rfl,fun Z=>rfl,fun Z Z=>rfl,fun Z Z=>rfl,rfl,rfl⟩
theorem adY(s:Nat):mF (uN 1 s) r8 (.tup [(.str s7),(.str s7)]) [(iv s),(.int (.ofNat 5))]:=⟨fun Z=>by kernel_rfl,fun Z=>by kernel_rfl,fun Z=>by kernel_rfl,fun Z=>rfl,fun Z=>rfl,fun Z Z=>rfl,fun Z Z=>rfl,rfl,rfl⟩
theorem adZ(s:Nat):mF (uN 2 s) wU (.tup [(.str s8),(.tup [])]) [(iv s),(.tup [(.str r8),(.tup [(.str s7),(.str s7)]),(iv s),(.int (.ofNat 5))])]:=⟨fun Z=>by kernel_rfl,fun Z=>by kernel_rfl,fun Z=>by kernel_rfl,fun Z=>rfl,fun Z=>rfl,fun Z Z=>rfl,fun Z Z=>rfl,rfl,rfl⟩
theorem ad0(s:Nat):jT (uN 3 s):=⟨fun σ=>by kernel_rfl,fun R=>by kernel_rfl⟩
theorem ad1(s:Nat):jT (uN 4 s):=⟨fun σ=>by kernel_rfl,fun R=>by kernel_rfl⟩
theorem ad2(s:Nat):mF (uO 0 s) jh (.tup [(.str s7),(.str s7)]) [(iv s),(.int (.ofNat 3))]:=⟨fun Z=>by kernel_rfl,fun Z=>by kernel_rfl,fun Z=>by kernel_rfl,fun Z=>rfl,fun Z=>rfl,fun Z Z=>rfl,fun Z Z=>rfl,rfl,rfl⟩
theorem ad3(s:Nat):mF (uO 1 s) jh (.tup [(.str s7),(.str s7)]) [(iv s),(.int (.ofNat 3))]:=⟨fun Z=>by kernel_rfl,fun Z=>by kernel_rfl,fun Z=>by kernel_rfl,fun Z=>rfl,fun Z=>rfl,fun Z Z=>rfl,fun Z Z=>rfl,rfl,rfl⟩
theorem ad4(s:Nat):mF (uO 2 s) wU (.tup [(.str s8),(.tup [])]) [(iv s),(.tup [(.str jh),(.tup [(.str s7),(.str s7)]),(iv s),(.int (.ofNat 3))])]:=⟨fun Z=>by kernel_rfl,fun Z=>by kernel_rfl,fun Z=>by kernel_rfl,fun Z=>rfl,fun Z=>rfl,fun Z Z=>rfl,fun Z Z=>rfl,rfl,rfl⟩
theorem ad5(s:Nat):jT (uO 3 s):=⟨fun σ=>by kernel_rfl,fun R=>by kernel_rfl⟩
theorem ad6(s:Nat):jT (uO 4 s):=⟨fun σ=>by kernel_rfl,fun R=>by kernel_rfl⟩
theorem ad7(s:Nat):mF (uP 0 s) jh (.tup [(.str s0)]) [(iv s),(.int (.ofNat 4))]:=⟨fun Z=>by kernel_rfl,fun Z=>by kernel_rfl,fun Z=>by kernel_rfl,fun Z=>rfl,fun Z=>rfl,fun Z Z=>rfl,fun Z Z=>rfl,rfl,rfl⟩
theorem ad8(s:Nat):jT (uP 1 s):=⟨fun σ=>by kernel_rfl,fun R=>by kernel_rfl⟩
theorem ad9(s:Nat):mF (uP 2 s) wU (.tup [(.str s8),(.tup [])]) [(iv s),(.tup [(.str jh),(.tup [(.str s0)]),(iv s),(.int (.ofNat 4))])]:=⟨fun Z=>by kernel_rfl,fun Z=>by kernel_rfl,fun Z=>by kernel_rfl,fun Z=>rfl,fun Z=>rfl,fun Z Z=>rfl,fun Z Z=>rfl,rfl,rfl⟩
theorem ad_(s:Nat):mF (uP 3 s) jh (.tup [(.str s0)]) [(iv s),(.int (.ofNat 4))]:=⟨fun Z=>by kernel_rfl,fun Z=>by kernel_rfl,fun Z=>by kernel_rfl,fun Z=>rfl,fun Z=>rfl,fun Z Z=>rfl,fun Z Z=>rfl,rfl,rfl⟩
theorem aea(s:Nat):jT (uP 4 s):=⟨fun σ=>by kernel_rfl,fun R=>by kernel_rfl⟩
theorem aeb(s:Nat):jT (uQ 0 s):=⟨fun σ=>by kernel_rfl,fun R=>by kernel_rfl⟩
theorem aec(s:Nat):jT (uQ 1 s):=⟨fun σ=>by kernel_rfl,fun R=>by kernel_rfl⟩
theorem aed(s:Nat):mF (uQ 2 s) mK (.tup [(.str s8),(.tup [])]) [(iv s)]:=⟨fun Z=>by kernel_rfl,fun Z=>by kernel_rfl,fun Z=>by kernel_rfl,fun Z=>rfl,fun Z=>rfl,fun Z Z=>rfl,fun Z Z=>rfl,rfl,rfl⟩
theorem aee(s:Nat):jT (uQ 3 s):=⟨fun σ=>by kernel_rfl,fun R=>by kernel_rfl⟩
theorem aef(s:Nat):jT (uQ 4 s):=⟨fun σ=>by kernel_rfl,fun R=>by kernel_rfl⟩
theorem aeg(s:Nat):jT (uR 0 s):=⟨fun σ=>by kernel_rfl,fun R=>by kernel_rfl⟩
theorem aeh(s:Nat):jT (uR 1 s):=⟨fun σ=>by kernel_rfl,fun R=>by kernel_rfl⟩
theorem aei(s:Nat):jT (uR 2 s):=⟨fun σ=>by kernel_rfl,fun R=>by kernel_rfl⟩
theorem aej(s:Nat):jT (uR 3 s):=⟨fun σ=>by kernel_rfl,fun R=>by kernel_rfl⟩
theorem aek(s:Nat):jT (uR 4 s):=⟨fun σ=>by kernel_rfl,fun R=>by kernel_rfl⟩
theorem ael(s:Nat):jT (uS 0 s):=⟨fun σ=>by kernel_rfl,fun R=>by kernel_rfl⟩
theorem aem(s:Nat):jT (uS 1 s):=⟨fun σ=>by kernel_rfl,fun R=>by kernel_rfl⟩
theorem aen(s:Nat):jT (uS 2 s):=⟨fun σ=>by kernel_rfl,fun R=>by kernel_rfl⟩
theorem aeo(s:Nat):jT (uS 3 s):=⟨fun σ=>by kernel_rfl,fun R=>by kernel_rfl⟩
theorem aep(s:Nat):jT (uS 4 s):=⟨fun σ=>by kernel_rfl,fun R=>by kernel_rfl⟩
theorem aeq(s:Nat):mF (uT 0 s) s9 (.tup [(.str s7),(.str s7)]) [(iv s),(.tup [(.str jh),(.tup [(.str mM),(.str pP),(.tup [(.str s7),(.str s7)])]),(iv s),(.int (.ofNat 7))]),(.bool false)]:=⟨fun Z=>by kernel_rfl,fun Z=>by kernel_rfl,fun Z=>by kernel_rfl,fun Z=>rfl,fun Z=>rfl,fun Z Z=>rfl,fun Z Z=>rfl,rfl,rfl⟩
theorem aer(s:Nat):mF (uT 1 s) s9 (.tup [(.str s7),(.str s7)]) [(iv s),(.tup [(.str jh),(.tup [(.str mM),(.str pP),(.tup [(.str s7),(.str s7)])]),(iv s),(.int (.ofNat 7))]),(.bool false)]:=⟨fun Z=>by kernel_rfl,fun Z=>by kernel_rfl,fun Z=>by kernel_rfl,fun Z=>rfl,fun Z=>rfl,fun Z Z=>rfl,fun Z Z=>rfl,rfl,rfl⟩
theorem aes(s:Nat):mF (uT 2 s) wU (.tup [(.str s8),(.tup [])]) [(iv s),(.tup [(.str s9),(.tup [(.str s7),(.str s7)]),(iv s),(.tup [(.str jh),(.tup [(.str mM),(.str pP),(.tup [(.str s7),(.str s7)])]),(iv s),(.int (.ofNat 7))]),(.bool false)])]:=⟨fun Z=>by kernel_rfl,fun Z=>by kernel_rfl,fun Z=>by kernel_rfl,fun Z=>rfl,fun Z=>rfl,fun Z Z=>rfl,fun Z Z=>rfl,rfl,rfl⟩
theorem aet(s:Nat):jT (uT 3 s):=⟨fun σ=>by kernel_rfl,fun R=>by kernel_rfl⟩
theorem aeu(s:Nat):jT (uT 4 s):=⟨fun σ=>by kernel_rfl,fun R=>by kernel_rfl⟩
noncomputable def Fx(e:El):Prop:=e.Cl∧((∃h y r,mF e h y r)∨jT e)
theorem AX{w t:Nat}(s:Nat)(hw:w<7)(ht:t<5):∃e:El,e.s=s∧e.T=fD t∧iz w s=e.row∧Fx e:=by
 match w,hw with
 |0,_=>
  refine⟨uN t s,rfl,rfl,rfl,cl0 s ht,?_⟩
  match t,ht with
  |0,_=>exact .inl ⟨_,_,_,adX s⟩
  |1,_=>exact .inl ⟨_,_,_,adY s⟩
  |2,_=>exact .inl ⟨_,_,_,adZ s⟩
  |3,_=>exact .inr (ad0 s)
  |4,_=>exact .inr (ad1 s)
  |_+5,h=>exact mB h
 |1,_=>
  refine⟨uO t s,rfl,rfl,rfl,cl1 s ht,?_⟩
  match t,ht with
  |0,_=>exact .inl ⟨_,_,_,ad2 s⟩
  |1,_=>exact .inl ⟨_,_,_,ad3 s⟩
  |2,_=>exact .inl ⟨_,_,_,ad4 s⟩
  |3,_=>exact .inr (ad5 s)
  |4,_=>exact .inr (ad6 s)
  |_+5,h=>exact mB h
 |2,_=>
  refine⟨uP t s,rfl,rfl,rfl,cl2 s ht,?_⟩
  match t,ht with
  |0,_=>exact .inl ⟨_,_,_,ad7 s⟩
  |1,_=>exact .inr (ad8 s)
  |2,_=>exact .inl ⟨_,_,_,ad9 s⟩
  |3,_=>exact .inl ⟨_,_,_,ad_ s⟩
  |4,_=>exact .inr (aea s)
  |_+5,h=>exact mB h
 |3,_=>
  refine⟨uQ t s,rfl,rfl,rfl,cl3 s ht,?_⟩
  match t,ht with
  |0,_=>exact .inr (aeb s)
  |1,_=>exact .inr (aec s)
  |2,_=>exact .inl ⟨_,_,_,aed s⟩
  |3,_=>exact .inr (aee s)
  |4,_=>exact .inr (aef s)
  |_+5,h=>exact mB h
 |4,_=>
  refine⟨uR t s,rfl,rfl,rfl,cl4 s ht,?_⟩
  match t,ht with
  |0,_=>exact .inr (aeg s)
  |1,_=>exact .inr (aeh s)
  |2,_=>exact .inr (aei s)
  |3,_=>exact .inr (aej s)
  |4,_=>exact .inr (aek s)
  |_+5,h=>exact mB h
 |5,_=>
  refine⟨uS t s,rfl,rfl,rfl,cl5 s ht,?_⟩
  match t,ht with
  |0,_=>exact .inr (ael s)
  |1,_=>exact .inr (aem s)
  |2,_=>exact .inr (aen s)
  |3,_=>exact .inr (aeo s)
  |4,_=>exact .inr (aep s)
  |_+5,h=>exact mB h
 |6,_=>
  refine⟨uT t s,rfl,rfl,rfl,cl6 s ht,?_⟩
  match t,ht with
  |0,_=>exact .inl ⟨_,_,_,aeq s⟩
  |1,_=>exact .inl ⟨_,_,_,aer s⟩
  |2,_=>exact .inl ⟨_,_,_,aes s⟩
  |3,_=>exact .inr (aet s)
  |4,_=>exact .inr (aeu s)
  |_+5,h=>exact mB h
 |_+7,h=>exact mB h
theorem afY(args:List J)(σ:List MO):j3 19 (.dC 1093) args σ=gC 0 (eE 12 6 3 [(true,0),(true,1),(false,0),(false,1),(false,2)] qi (qZ (j3 18))) args σ:=by kernel_rfl
theorem ajK(args:List J)(σ:List MO):j3 19 (.dC 392) args σ=gC 0 (eE 42 2 0 [(false,0),(false,1)] qX (tZ (j3 18))) args σ:=by kernel_rfl
theorem we:j3 19 (.dC 387)=eE 39 6 1 [(true,0),(false,0),(false,1),(false,2),(false,3)] t4 (yy (j3 18)):=by kernel_rfl
theorem Pp{rows wanted:List J}{hp:Bool}(h:∃S9,eE 16 3 4 [(true,0),(true,1),(true,2),(true,3)] sG (vg (j3 19)) (ou rows wanted hp) P7=some (.ok (.bool true),app P7 S9))(hb:ek 9 (ou rows wanted hp)=true):Right rows wanted hp L2:=by
 obtain⟨S9,h⟩:=h
 exact right_of (S1:=app P7 S9) h rfl (by kernel_rfl) hb
theorem ab5{rows wanted:List J}{nm:J}{hp:Bool}(h1:ek 0 rows=true)(h2:ek 0 wanted=true)(h3:ef 0 nm=true):ek 0 [.lst rows,.lst wanted,iv 9,nm,.bool hp]=true:=by
 show band (ek 0 rows) (band (ek 0 wanted) (band true (band (ef 0 nm) (band true true))))=true
 rw[h1,h2,h3];rfl
theorem aoD(σ:List MO)(s:Nat):fz 0 σ (.tup [.str iB,iv s])=some (.tup [.str iB,iv s]):=rfl
theorem RU{σ:List MO}{l:List J}(h:lQ (kg 0 σ 12) l=some l):fz 0 σ (.tup [.lst [],.lst l])=some (.tup [.lst [],.lst l]):=by
 have h1:kg 0 σ 13 (.lst l)=some (.lst l):=by rw[IF,h];rfl
 have h2:lQ (kg 0 σ 13) [.lst [],.lst l]=some [.lst [],.lst l]:=n7 rfl (n7 h1 (y7 _))
 show kg 0 σ 14 _=_
 rw[Q9,h2];rfl
theorem RV{σ:List MO}{l:List J}(h:lQ (kg 0 σ 13) l=some l):fz 0 σ (.lst l)=some (.lst l):=by
 show kg 0 σ 14 _=_
 rw[IF,h];rfl
theorem RW{l:List J}(h:iU (g7 10) l=true):g7 12 (.tup [.lst [],.lst l])=true:=by
 show iU (g7 11) [.lst [],.lst l]=true
 exact nE rfl (nE (show iU (g7 10) l=true from h) rfl)
theorem EW{e:El}(o:(∃h y r,mF e h y r)∨jT e):∃W f,Oc (j3 18) e W f:=o.elim (fun⟨_,_,_,o⟩=>⟨_,_,o.oc⟩) fun o=>⟨_,_,o.oc⟩
theorem vP{rows wd:List J}{hp:Bool}{d fN:J}(h:∃S9,eE 12 6 3 [(true,0),(true,1),(false,0),(false,1),(false,2)] qi (qZ (j3 18)) [.lst rows,.lst wd,iv 9,.int 2,.bool hp] []=some (.ok d,S9))(e:d=fN)(br:ek 0 rows=true)(bt:ek 0 wd=true)(hz:∀S9,fz 0 S9 fN=some fN)(bd:ef 0 fN=true)(σ:List MO):
  j3 19 (.dC 1093) [.lst rows,.lst wd,iv 9,.int 2,.bool hp] σ=some (.ok fN,σ):=by
 obtain⟨S9,h⟩:=h
 subst e
 rw[afY,OQ σ h (ab5 br bt rfl) (hz _) bd]
theorem Sy{Ws ys:List J}{n:Int}(h:∃S9,eE 42 2 0 [(false,0),(false,1)] qX (tZ (j3 18)) [.lst Ws,.int n] []=some (.ok (.lst ys),S9))(bW:ek 0 Ws=true)(hz:∀S9,fz 0 S9 (.lst ys)=some (.lst ys))(lX:ek 0 ys=true)(σ:List MO):
  j3 19 (.dC 392) [.lst Ws,.int n] σ=some (.ok (.lst ys),σ):=by
 obtain⟨S9,h⟩:=h
 rw[ajK,OQ σ h (show band (ek 0 Ws) (band true true)=true by rw[bW];rfl) (hz _) lX]
theorem Rb{m:Nat}{Ws:List J}(h:ek m Ws=true):ef m (.tup [.lst [],.lst Ws])=true:=by
 show band true (band (ek m Ws) true)=true
 rw[h];rfl
theorem aev{a b:El}(hp:Bool)(fa:Fx a)(fb:Fx b):Right [a.row,b.row] [a.T,b.T] hp L2:=by
 obtain⟨ca,oa⟩:=fa
 obtain⟨cb,ob⟩:=fb
 have H:=ajE ca cb
 refine Pp ?_ (ua (H.br 9) (H.bt 9))
 rcases oa with⟨ha,ya,ra,oa⟩|oa
 case inr=>
  obtain⟨Wb,gb,qb⟩:=EW ob
  refine AW (s:=a.s) (acc:=[]) H (vP (Kb (hp:=hp) (nm:=.int 2) rfl ca oa.oc cb qb) ?_ (H.br 0) (H.bt 0) (fun Z=>rfl) rfl) we ?_ rfl (ca.node _) (ca.T _)
  ·cases gb<;>rfl
  ·exact AM oa.v
 rcases ob with⟨hb,yb,rb,ob⟩|ob
 case inr=>
  refine AW (s:=b.s) (acc:=[.tup (.str ha::ya::ra)]) H (vP (Kb (hp:=hp) (nm:=.int 2) rfl ca oa.oc cb ob.oc) ?_ (H.br 0) (H.bt 0) (fun Z=>rfl) rfl) we ?_ (eh (oa.b _) rfl) (cb.node _) (cb.T _)
  ·rfl
  ·exact(sM oa.v rfl).trans (AM ob.v)
 have bW:ek 0 [.tup (.str ha::ya::ra),.tup (.str hb::yb::rb)]=true:=(eh (oa.b 0) (eh (ob.b 0) rfl))
 have zW:∀m σ,lQ (kg m σ 12) [.tup (.str ha::ya::ra),.tup (.str hb::yb::rb)]=some [.tup (.str ha::ya::ra),.tup (.str hb::yb::rb)]:=fun Z Z=>n7 (oa.z _ _) (n7 (ob.z _ _) (y7 _))
 exact Ra H (ajF ca cb oa.b oa.lX ob.b ob.lX) (vP (Kb rfl ca oa.oc cb ob.oc) rfl (H.br 0) (H.bt 0) (fun Z=>RU (zW _ _)) (Rb bW)) we ((sM oa.v rfl).trans ((sM ob.v rfl).trans (vn rfl))) (cb.node _) (cb.T _) zW (Sy (ajG oa.b oa.lX ob.b ob.lX) bW (fun Z=>RV (n7 (oa.zy _ _) (n7 (ob.zy _ _) (y7 _)))) (show ek 0 [ya,yb]=true from(eh (oa.lX 0) (eh (ob.lX 0) rfl)))) (RW (nE oa.o (nE ob.o rfl))) (show iU (g7 11) [ya,yb]=true from(nE oa.oy (nE ob.oy rfl))) fun v h=>Ic 12 v h
theorem aew{a b d:El}(hp:Bool)(fa:Fx a)(fb:Fx b)(fd:Fx d):Right [a.row,b.row,d.row] [a.T,b.T,d.T] hp L2:=by
 obtain⟨ca,oa⟩:=fa
 obtain⟨cb,ob⟩:=fb
 obtain⟨cd,od⟩:=fd
 have H:=ajH ca cb cd
 refine Pp ?_ (ua (H.br 9) (H.bt 9))
 rcases oa with⟨ha,ya,ra,oa⟩|oa
 case inr=>
  obtain⟨Wb,gb,qb⟩:=EW ob
  obtain⟨Wd,gd,qd⟩:=EW od
  refine AW (s:=a.s) (acc:=[]) H (vP (FY (hp:=hp) (nm:=.int 2) rfl ca oa.oc cb qb cd qd) ?_ (H.br 0) (H.bt 0) (fun Z=>rfl) rfl) we ?_ rfl (ca.node _) (ca.T _)
  ·cases gb<;>cases gd<;>rfl
  ·exact AM oa.v
 rcases ob with⟨hb,yb,rb,ob⟩|ob
 case inr=>
  obtain⟨Wd,gd,qd⟩:=EW od
  refine AW (s:=b.s) (acc:=[.tup (.str ha::ya::ra)]) H (vP (FY (hp:=hp) (nm:=.int 2) rfl ca oa.oc cb ob.oc cd qd) ?_ (H.br 0) (H.bt 0) (fun Z=>rfl) rfl) we ?_ (eh (oa.b _) rfl) (cb.node _) (cb.T _)
  ·cases gd<;>rfl
  ·exact(sM oa.v rfl).trans (AM ob.v)
 rcases od with⟨hd,yd,rd,od⟩|od
 case inr=>
  refine AW (s:=d.s) (acc:=[.tup (.str ha::ya::ra),.tup (.str hb::yb::rb)]) H (vP (FY (hp:=hp) (nm:=.int 2) rfl ca oa.oc cb ob.oc cd od.oc) ?_ (H.br 0) (H.bt 0) (fun Z=>rfl) rfl) we ?_ (eh (oa.b _) (eh (ob.b _) rfl)) (cd.node _) (cd.T _)
  ·rfl
  ·exact(sM oa.v rfl).trans ((sM ob.v rfl).trans (AM od.v))
 have bW:ek 0 [.tup (.str ha::ya::ra),.tup (.str hb::yb::rb),.tup (.str hd::yd::rd)]=true:=(eh (oa.b 0) (eh (ob.b 0) (eh (od.b 0) rfl)))
 have zW:∀m σ,lQ (kg m σ 12) [.tup (.str ha::ya::ra),.tup (.str hb::yb::rb),.tup (.str hd::yd::rd)]=some [.tup (.str ha::ya::ra),.tup (.str hb::yb::rb),.tup (.str hd::yd::rd)]:=fun Z Z=>n7 (oa.z _ _) (n7 (ob.z _ _) (n7 (od.z _ _) (y7 _)))
 exact Ra H (ajI ca cb cd oa.b oa.lX ob.b ob.lX od.b od.lX) (vP (FY rfl ca oa.oc cb ob.oc cd od.oc) rfl (H.br 0) (H.bt 0) (fun Z=>RU (zW _ _)) (Rb bW)) we ((sM oa.v rfl).trans ((sM ob.v rfl).trans ((sM od.v rfl).trans (vn rfl)))) (cd.node _) (cd.T _) zW (Sy (ajJ oa.b oa.lX ob.b ob.lX od.b od.lX) bW (fun Z=>RV (n7 (oa.zy _ _) (n7 (ob.zy _ _) (n7 (od.zy _ _) (y7 _))))) (show ek 0 [ya,yb,yd]=true from(eh (oa.lX 0) (eh (ob.lX 0) (eh (od.lX 0) rfl))))) (RW (nE oa.o (nE ob.o (nE od.o rfl)))) (show iU (g7 11) [ya,yb,yd]=true from(nE oa.oy (nE ob.oy (nE od.oy rfl)))) fun v h=>Ic 12 v h
theorem each:Each:=by
 refine⟨fun w1 w2 t1 t2 hp h1 h2 g1 g2=>?_,fun w1 w2 w3 t1 t2 t3 hp h1 h2 h3 g1 g2 g3=>?_⟩
 ·obtain⟨a,_,ea,ra,fa⟩:=AX 20 h1 g1
  obtain⟨b,_,eb,rb,fb⟩:=AX 21 h2 g2
  show Right [iz w1 20,iz w2 21] [fD t1,fD t2] hp L2
  rw[ra,rb,←ea,←eb]
  exact aev hp fa fb
 ·obtain⟨a,_,ea,ra,fa⟩:=AX 20 h1 g1
  obtain⟨b,_,eb,rb,fb⟩:=AX 21 h2 g2
  obtain⟨d,_,ed,rd,fd⟩:=AX 22 h3 g3
  show Right [iz w1 20,iz w2 21,iz w3 22] [fD t1,fD t2,fD t3] hp L2
  rw[ra,rb,rd,←ea,←eb,←ed]
  exact aew hp fa fb fd
structure KS where
 K:List (Addr×Obj)
 n:Nat
 gens:Array GenState
 drawn:Drawn
 toks:Nat
 os:OsState
 nS:List Addr
noncomputable def dS:List (Addr×Obj)→Addr→Option Obj
 |[],_=>none
 |p::l,a=>match Nat.beq p.1 a with
  |true=>some p.2
  |false=>dS l a
noncomputable def uo:List (Addr×Obj)→Addr→(Obj→Obj)→List (Addr×Obj)
 |[],_,_=>[]
 |p::l,a,f=>match Nat.beq p.1 a with
  |true=>(p.1,f p.2)::l
  |false=>p::uo l a f
noncomputable def Jn(sf:Shared→Thread→Step)(k:KS)(t:Thread):Option (KS×Thread):=@Step.casesOn (fun Z=>Option (KS×Thread)) (sf ⟨{},k.gens,k.drawn,k.toks,k.os⟩ t) (fun s' t'=>some (⟨k.K,k.n,s'.gens,s'.drawn,s'.toks,s'.os,k.nS⟩,t')) (fun Z Z=>none)
noncomputable def ob{α β:Type}(o:Option α)(k:α→Option β):Option β:=@Option.rec α (fun Z=>Option β) none k o
theorem EC{α β:Type}{o:Option α}{k:α→Option β}{r:β}:ob o k=some r→∃x,o=some x∧k x=some r:=@Option.rec α (fun o=>ob o k=some r→∃x,o=some x∧k x=some r) (fun h=>nomatch h) (fun x h=>⟨x,rfl,h⟩) o
noncomputable def gf{α:Type}(b:Bool)(x:Option α):Option α:=@Bool.rec (fun Z=>Option α) x none b
theorem Rc{α:Type}{b:Bool}{x:Option α}{r:α}:gf b x=some r→b=false∧x=some r:=@Bool.rec (fun b=>gf b x=some r→b=false∧x=some r) (fun h=>⟨rfl,h⟩) (fun h=>nomatch h) b
def stepK(sf:Shared→Thread→Step)(k:KS)(t:Thread):Option (KS×Thread):=match t.cur with
 |.load a _ c=>ob (dS k.K a) fun o=>some (k,⟨c o,t.code,t.pos,t.stack⟩)
 |.update a _ f c=>ob (dS k.K a) fun o=>gf (f o).isFreed (some (⟨uo k.K a f,k.n,k.gens,k.drawn,k.toks,k.os,a::k.nS⟩,⟨c (),t.code,t.pos,t.stack⟩))
 |.alloc o c=>gf o.isFreed (some (⟨(k.n,o)::k.K,k.n+1,k.gens,k.drawn,k.toks,k.os,k.nS⟩,⟨c k.n,t.code,t.pos,t.stack⟩))
 |.loadIfAlive a c=>ob (dS k.K a) fun o=>some (k,⟨c (some o),t.code,t.pos,t.stack⟩)
 |c=>Jn sf k ⟨c,t.code,t.pos,t.stack⟩
structure KR(k:KS)(s:Shared):Prop where
 get:∀a o,dS k.K a=some o→s.heap.get? a=some o
 n:s.heap.objs.size=k.n
 gens:s.gens=k.gens
 drawn:s.drawn=k.drawn
 toks:s.toks=k.toks
 os:s.os=k.os
theorem n3(p:Addr×Obj)(l:List (Addr×Obj))(a:Addr):dS (p::l) a=if p.1=a then some p.2 else dS l a:=by
 show(match Nat.beq p.1 a with|true=>some p.2|false=>dS l a)=_
 rw[BT.beq_eq]
 by_cases h:p.1=a<;>simp[h]
theorem abu(p:Addr×Obj)(l:List (Addr×Obj))(a:Addr)(f:Obj→Obj):uo (p::l) a f=if p.1=a then(p.1,f p.2)::l else p::uo l a f:=by
 show(match Nat.beq p.1 a with|true=>(p.1,f p.2)::l|false=>p::uo l a f)=_
 rw[BT.beq_eq]
 by_cases h:p.1=a<;>simp[h]
theorem Pq(f:Obj→Obj)(a:Addr):∀(l:List (Addr×Obj)) (b:Addr),dS (uo l a f) b=if b=a then(dS l a).map f else dS l b
 |[],b=>by simp[uo,dS]
 |p::l,b=>by
  rw[abu,n3 p l a,n3 p l b]
  by_cases h:p.1=a
  ·rw[if_pos h,if_pos h,n3]
   by_cases hb:b=a
   ·subst hb;simp[h]
   ·rw[if_neg hb]
    have:¬p.1=b:=fun q=>hb (q.symm.trans h)
    simp[this]
  ·rw[if_neg h,if_neg h,n3,Pq f a l b]
   by_cases hb:b=a
   ·subst hb;simp[h]
   ·simp[hb]
structure After(k k':KS)(s s':Shared):Prop where
 R:KR k' s'
 keep:∀b o,b∉k'.nS→s.heap.get? b=some o→s'.heap.get? b=some o
 nS:∀b,b∈k.nS→b∈k'.nS
section
variable{k k':KS}{s:Shared}
theorem After.same(R:KR k s):After k k s s:=⟨R,fun Z Z Z x=>x,fun Z x=>x⟩
theorem After.upd(R:KR k s){a:Addr}{f:Obj→Obj}{o:Obj}(e:dS k.K a=some o)(hf:(f o).isFreed=false):After k ⟨uo k.K a f,k.n,k.gens,k.drawn,k.toks,k.os,a::k.nS⟩ s ⟨s.heap.update a f,s.gens,s.drawn,s.toks,s.os⟩:=by
 have hs:Heap.SameBut a s.heap (s.heap.update a f):=Heap.SameBut.update ..
 refine⟨⟨fun b x hb=>?_,hs.1.trans R.n,R.gens,R.drawn,R.toks,R.os⟩,fun b x hb y=>(hs.2 b fun q=>hb (q▸bo)).trans y,fun b hb=>bk _ hb⟩
 rw[Pq]at hb
 by_cases q:b=a
 ·rw[if_pos q,e]at hb
  cases hb
  rw[q];exact Heap.get?_update_self f (R.get a o e) hf
 ·rw[if_neg q]at hb
  exact(hs.2 b q).trans (R.get b x hb)
theorem After.new(R:KR k s){o:Obj}(hf:o.isFreed=false):After k ⟨(k.n,o)::k.K,k.n+1,k.gens,k.drawn,k.toks,k.os,k.nS⟩ s ⟨s.heap.push o,s.gens,s.drawn,s.toks,s.os⟩:=by
 refine⟨⟨fun b x hb=>?_,(Heap.size_push ..).trans (congrArg (·+1) R.n),R.gens,R.drawn,R.toks,R.os⟩,fun b x Z y=>aX _ y,fun Z x=>x⟩
 rw[n3]at hb
 by_cases q:k.n=b
 ·rw[if_pos q]at hb
  cases hb
  exact q▸R.n▸bf _ hf
 ·rw[if_neg q]at hb
  exact aX _ (R.get b x hb)
end
noncomputable def Kc(c:Sem Fin):Bool:=match c with
 |.load .. =>true
 |.update .. =>true
 |.alloc .. =>true
 |.loadIfAlive .. =>true
 |_=>false
section
variable{den:Code→Sem Fin}{p:Program}{w:World}{k k':KS}{s:Shared}{c:Sem Fin}{cd:Code}{pos:Pos}{st:List Frame}{t':Thread}
theorem ED{c':Sem Fin}(hm:Kc c=false)(h:Kc c'=true):c≠c':=fun e=>Bool.noConfusion (h.symm.trans (e▸hm))
theorem aaX(R:KR k s)(hm:Kc c=false)(h:Jn (step den p w) k ⟨c,cd,pos,st⟩=some (k',t')):∃s',step den p w s ⟨c,cd,pos,st⟩=.go s' t'∧After k k' s s':=by
 unfold Jn at h
 cases q:step den p w ⟨{},k.gens,k.drawn,k.toks,k.os⟩ ⟨c,cd,pos,st⟩with
 |halt r s'=>rw[q]at h;cases h
 |go fu apC=>
  rw[q]at h
  cases h
  have:=W.step_heap (H:=s.heap) (fun Z Z Z=>ED hm rfl) (fun Z Z Z Z=>ED hm rfl) (fun Z Z=>ED hm rfl) (fun Z Z=>ED hm rfl) q
  rw[←R.gens,←R.drawn,←R.toks,←R.os]at this
  exact⟨_,this,⟨R.get,R.n,rfl,rfl,rfl,rfl⟩,fun b o Z x=>x,fun Z x=>x⟩
theorem goL{x:Option Obj}{o:Obj}{s:Shared}{f:Obj→Thread}{z:Step}(h:x=some o):(match x with|some o=>Step.go s (f o)|none=>z)=.go s (f o):=by rw[h]
theorem aaY{t:Thread}(R:KR k s)(h:stepK (step den p w) k t=some (k',t')):∃s',step den p w s t=.go s' t'∧After k k' s s':=by
 obtain⟨cur,code,pos,stack⟩:=t
 cases cur with
 |load a q c=>
  obtain⟨o,e,h⟩:=EC h
  cases h
  exact⟨s,goL (f:=fun o=>⟨c o,code,pos,stack⟩) (R.get a o e),.same R⟩
 |update a q f c=>
  obtain⟨o,e,h⟩:=EC h
  obtain⟨hf,h⟩:=Rc h
  cases h
  exact⟨_,if_pos (by rw[R.get a o e];rfl),.upd R e hf⟩
 |alloc o c=>
  obtain⟨hf,h⟩:=Rc h
  cases h
  exact⟨_,by rw[←R.n];rfl,.new R hf⟩
 |loadIfAlive a c=>
  obtain⟨o,e,h⟩:=EC h
  cases h
  exact⟨s,by rw[←R.get a o e];rfl,.same R⟩
 |_=>exact aaX R rfl h
end
noncomputable def EE(sf:Shared→Thread→Step)(uq:Nat)(ann:Option Value)(b:Nat):Nat→KS→Thread→Option (Flow×KS×Code×Pos)
 |0,_,_=>none
 |n+1,s,t=>@Option.rec Flow (fun Z=>Option (Flow×KS×Code×Pos)) (@Bool.rec (fun Z=>Option (Flow×KS×Code×Pos)) none (ob (stepK sf s t) fun r=>EE sf uq ann b n r.1 r.2) (stepOk uq ann t)) (fun f=>some (f,s,t.code,t.pos)) (endAt b t)
theorem N9{tb:String→Option Builtin}{p:Program}{w:World}{uq:Nat}{ann:Option Value}{b:Nat}:∀{n:Nat} {k k':KS} {s:Shared} {t:Thread} {f:Flow} {c:Code} {q:Pos},KR k s→
  EE (step (denote tb) p w) uq ann b n k t=some (f,k',c,q)→∃s',segRun tb p w uq ann b n s t=some (f,s',c,q)∧After k k' s s'
 |0,_,_,_,_,_,_,_,_,h=>nomatch h
 |n+1,k,k',s,t,f,c,q,R,h=>by
  unfold segRun
  unfold EE at h
  cases he:endAt b t with
  |some x=>
   rw[he]at h;cases h
   exact⟨s,rfl,.same R⟩
  |none=>
   rw[he]at h
   cases hk:stepOk uq ann t with
   |false=>rw[hk]at h;exact nomatch h
   |true=>
    rw[hk]at h
    obtain⟨r,hs,h⟩:=EC h
    obtain⟨fu,ajL,F⟩:=aaY R hs
    obtain⟨kL,ajM,G⟩:=N9 F.R h
    exact⟨kL,by dsimp only;rw[ajL];exact ajM,G.R,fun b o hb x=>G.keep b o hb (F.keep b o (fun hm=>hb (G.nS b hm)) x),fun b hb=>G.nS b (F.nS b hb)⟩
noncomputable abbrev pw:Program:=PySem.Challenge.pw_xm0194_01
def sf(w:World):Shared→Thread→Step:=Fast.tw8437177126325714943 (Fast.tw11892475500146522536 treeTable) pw w
theorem aex(w:World):sf w=step (denote treeTable) pw w:=by unfold sf;rw[←Fast.te8437177126325714943,←Fast.te11892475500146522536]
def w5:List Stmt:=behindTheImports pw
noncomputable def wg:Env:={scope:=pw.main.scope,locals:=mainNs,globals:=mainNs,cells:=[],code:=.ref 13,frame:=some 14}
def oV:Code:=.body w5 wg
noncomputable def lg{α:Type}(l:List α)(i:Nat)(d:α):α:=@List.rec α (fun Z=>Nat→α) (fun Z=>d) (fun a Z ih i=>@Nat.rec (fun Z=>α) a (fun j Z=>ih j) i) l i
def LH(i:Nat):Stmt:=lg w5 i (.Pass default)
structure Rw where
 s:Nat
 n:Nat
 k:Nat
 e:Nat
 c:Nat
 m:Nat
 p:Pos
noncomputable def TP:List Rw:=[⟨29,15,187,0,0,0,⟨0,0,0,0⟩⟩,⟨9,22,194,1,1,0,⟨1,0,3,12⟩⟩,⟨232,22,196,1,1,1,⟨4,0,4,8⟩⟩,⟨213,43,228,2,2,1,⟨5,0,10,24⟩⟩,⟨213,55,244,3,3,1,⟨11,0,12,8⟩⟩,⟨213,67,260,4,4,1,⟨13,0,14,8⟩⟩,⟨213,79,276,5,5,1,⟨15,0,16,8⟩⟩,⟨9,91,292,6,6,1,⟨17,0,18,8⟩⟩,⟨9,91,294,6,6,2,⟨19,0,19,8⟩⟩,⟨227,91,296,7,6,2,⟨20,0,20,4⟩⟩,⟨31,113,329,8,7,2,⟨21,0,26,32⟩⟩,⟨29,120,338,9,8,2,⟨27,0,30,76⟩⟩,⟨30,127,345,10,9,2,⟨31,0,32,48⟩⟩,⟨26,134,353,11,10,2,⟨33,0,34,69⟩⟩,⟨36,139,359,12,11,2,⟨35,0,48,13⟩⟩,⟨259,146,373,13,12,2,⟨49,0,57,16⟩⟩,⟨32,174,415,14,13,2,⟨58,0,76,40⟩⟩,⟨36,181,425,15,14,2,⟨77,0,84,24⟩⟩,⟨9,188,439,16,15,2,⟨85,0,102,15⟩⟩,⟨36,188,441,16,15,3,⟨103,0,103,8⟩⟩,⟨31,195,455,17,16,3,⟨104,0,114,24⟩⟩,⟨26,202,464,18,17,3,⟨115,0,119,19⟩⟩,⟨35,207,470,19,18,3,⟨120,0,123,76⟩⟩,⟨33,214,483,20,19,3,⟨124,0,133,16⟩⟩,⟨34,221,494,21,20,3,⟨134,0,139,20⟩⟩,⟨9,228,506,22,21,3,⟨140,0,147,15⟩⟩,⟨11,228,508,22,21,4,⟨148,0,148,8⟩⟩,⟨11,229,510,23,21,4,⟨149,0,149,4⟩⟩,⟨12,230,512,24,21,4,⟨150,0,150,5⟩⟩,⟨12,231,515,25,21,4,⟨151,0,151,5⟩⟩,⟨11,232,518,26,21,4,⟨152,0,152,4⟩⟩,⟨74,233,520,27,21,4,⟨153,0,153,3⟩⟩,⟨16,234,529,28,21,4,⟨154,0,154,16⟩⟩,⟨26,235,536,29,21,4,⟨155,0,155,7⟩⟩,⟨26,240,542,30,22,4,⟨156,0,157,51⟩⟩,⟨32,245,548,31,23,4,⟨158,0,165,74⟩⟩,⟨30,252,558,32,24,4,⟨166,0,168,69⟩⟩,⟨31,259,566,33,25,4,⟨169,0,170,80⟩⟩,⟨26,266,575,34,26,4,⟨171,0,176,24⟩⟩,⟨30,271,581,35,27,4,⟨177,0,199,70⟩⟩,⟨29,278,589,36,28,4,⟨200,0,201,27⟩⟩,⟨29,285,596,37,29,4,⟨202,0,203,53⟩⟩,⟨29,292,603,38,30,4,⟨204,0,205,28⟩⟩,⟨30,299,610,39,31,4,⟨206,0,207,57⟩⟩,⟨30,306,618,40,32,4,⟨208,0,209,52⟩⟩,⟨30,313,626,41,33,4,⟨210,0,211,75⟩⟩,⟨9,320,634,42,34,4,⟨212,0,213,48⟩⟩,⟨35,320,636,42,34,5,⟨214,0,214,8⟩⟩,⟨36,327,649,43,35,5,⟨215,0,221,46⟩⟩,⟨33,334,663,44,36,5,⟨222,0,225,50⟩⟩,⟨37,341,674,45,37,5,⟨226,0,231,104⟩⟩,⟨32,348,689,46,38,5,⟨232,0,241,86⟩⟩,⟨9,355,699,47,39,5,⟨242,0,252,15⟩⟩,⟨32,355,701,47,39,6,⟨253,0,253,8⟩⟩,⟨9,362,711,48,40,6,⟨254,0,257,40⟩⟩,⟨22,362,713,48,40,7,⟨258,0,258,8⟩⟩,⟨31,363,726,49,40,7,⟨259,0,259,5⟩⟩,⟨35,370,735,50,41,7,⟨260,0,263,70⟩⟩,⟨26,377,748,51,42,7,⟨264,0,269,35⟩⟩,⟨27,382,754,52,43,7,⟨270,0,281,53⟩⟩,⟨26,388,760,53,44,7,⟨282,0,290,62⟩⟩,⟨29,393,766,54,45,7,⟨291,0,294,30⟩⟩,⟨9,400,773,55,46,7,⟨295,0,296,88⟩⟩,⟨160,400,775,55,46,8,⟨297,0,297,8⟩⟩,⟨9,401,806,56,46,8,⟨298,0,298,4⟩⟩,⟨15,401,808,57,46,8,⟨299,0,299,9⟩⟩,⟨16,401,812,58,46,8,⟨300,0,300,9⟩⟩,⟨9,402,819,59,46,8,⟨301,0,301,11⟩⟩,⟨29,402,821,60,46,8,⟨302,0,302,10⟩⟩,⟨29,409,828,61,47,8,⟨303,0,304,25⟩⟩,⟨32,416,835,62,48,8,⟨305,0,308,65⟩⟩,⟨30,423,845,63,49,8,⟨309,0,313,32⟩⟩,⟨31,430,853,64,50,8,⟨314,0,317,17⟩⟩,⟨32,437,862,65,51,8,⟨318,0,330,56⟩⟩,⟨31,445,871,66,52,8,⟨331,0,342,41⟩⟩,⟨32,452,880,67,53,8,⟨343,0,347,53⟩⟩,⟨31,459,890,68,54,8,⟨348,0,355,61⟩⟩,⟨31,466,899,69,55,8,⟨356,0,375,72⟩⟩,⟨29,473,908,70,56,8,⟨376,0,387,41⟩⟩,⟨34,480,915,71,57,8,⟨388,0,391,58⟩⟩,⟨29,488,926,72,58,8,⟨392,0,408,51⟩⟩,⟨30,495,933,73,59,8,⟨409,0,412,38⟩⟩,⟨9,502,941,74,60,8,⟨413,0,418,16⟩⟩,⟨33,502,943,74,60,9,⟨419,0,419,8⟩⟩,⟨31,509,954,75,61,9,⟨420,0,424,51⟩⟩,⟨33,516,963,76,62,9,⟨425,0,426,101⟩⟩,⟨33,524,973,77,63,9,⟨427,0,436,75⟩⟩,⟨9,531,984,78,64,9,⟨437,0,445,60⟩⟩,⟨12,531,986,78,64,10,⟨446,0,446,8⟩⟩,⟨15,532,989,79,64,10,⟨447,0,447,10⟩⟩,⟨9,532,993,80,64,10,⟨448,0,448,11⟩⟩,⟨9,532,995,81,64,10,⟨449,0,449,10⟩⟩,⟨37,532,997,82,64,10,⟨450,0,450,11⟩⟩,⟨34,540,1011,83,65,10,⟨451,0,465,47⟩⟩,⟨26,548,1022,84,66,10,⟨466,0,474,55⟩⟩,⟨456,553,1028,85,67,10,⟨475,0,483,61⟩⟩,⟨9,619,1127,86,68,10,⟨484,0,555,84⟩⟩,⟨12,619,1129,86,68,11,⟨556,0,556,8⟩⟩,⟨12,620,1132,87,68,11,⟨557,0,557,11⟩⟩,⟨12,621,1135,88,68,11,⟨558,0,558,12⟩⟩,⟨12,622,1138,89,68,11,⟨559,0,559,12⟩⟩,⟨14,623,1141,90,68,11,⟨560,0,560,12⟩⟩,⟨684,624,1142,91,68,11,⟨561,0,561,7⟩⟩,⟨34,734,1323,92,69,11,⟨562,0,709,49⟩⟩,⟨36,742,1334,93,70,11,⟨710,0,711,62⟩⟩,⟨9,749,1348,94,71,11,⟨712,0,715,15⟩⟩,⟨459,749,1350,94,71,12,⟨716,0,716,8⟩⟩,⟨9,822,1445,95,72,12,⟨717,0,756,16⟩⟩,⟨12,822,1447,95,72,13,⟨757,0,757,8⟩⟩,⟨681,823,1450,96,72,13,⟨758,0,758,13⟩⟩,⟨9,940,1621,97,73,13,⟨759,0,838,16⟩⟩,⟨15,940,1623,97,73,14,⟨839,0,839,8⟩⟩,⟨228,943,1625,98,73,14,⟨840,0,840,5⟩⟩,⟨35,964,1660,99,74,14,⟨841,0,847,30⟩⟩,⟨307,971,1673,100,75,14,⟨848,0,856,283⟩⟩,⟨9,1007,1738,101,76,14,⟨857,0,896,20⟩⟩,⟨31,1007,1740,101,76,15,⟨897,0,897,8⟩⟩,⟨31,1014,1749,102,77,15,⟨898,0,901,91⟩⟩,⟨30,1021,1758,103,78,15,⟨902,0,908,54⟩⟩,⟨30,1028,1766,104,79,15,⟨909,0,910,44⟩⟩,⟨28,1035,1774,105,80,15,⟨911,0,919,41⟩⟩,⟨28,1042,1780,106,81,15,⟨920,0,921,25⟩⟩,⟨31,1049,1786,107,82,15,⟨922,0,923,28⟩⟩,⟨31,1056,1795,108,83,15,⟨924,0,925,18⟩⟩,⟨29,1063,1804,109,84,15,⟨926,0,927,64⟩⟩,⟨35,1070,1811,110,85,15,⟨928,0,931,114⟩⟩,⟨33,1077,1824,111,86,15,⟨932,0,939,45⟩⟩,⟨26,1084,1835,112,87,15,⟨940,0,952,103⟩⟩,⟨26,1089,1841,113,88,15,⟨953,0,963,78⟩⟩,⟨26,1094,1847,114,89,15,⟨964,0,977,58⟩⟩,⟨29,1099,1853,115,90,15,⟨978,0,986,57⟩⟩,⟨35,1106,1860,116,91,15,⟨987,0,988,97⟩⟩,⟨26,1113,1873,117,92,15,⟨989,0,995,86⟩⟩,⟨0,1118,1879,118,93,15,⟨996,0,1016,49⟩⟩]
noncomputable def Wy:List (String×Nat×Value):=[("_wall",193,(.ref 21)),("ChanError",227,(.ref 39)),("NameFault",243,(.ref 52)),("TypeFault",259,(.ref 64)),("ConstFault",275,(.ref 76)),("FlowFault",291,(.ref 88)),("MAIN",295,(.str (Str.ofString "main") 294)),("Reached",328,(.ref 108)),("own_name",337,(.ref 119)),("without_pointer",344,(.ref 126)),("own_methods",352,(.ref 133)),("members_at",358,(.ref 138)),("embedded_in",372,(.ref 145)),("Levels",414,(.ref 169)),("start_type",424,(.ref 180)),("find_member",438,(.ref 187)),("names_of_methods",454,(.ref 194)),("member_or_none",463,(.ref 201)),("is_in_set",469,(.ref 206)),("method_set",482,(.ref 213)),("lack_of",493,(.ref 220)),("implements",505,(.ref 227)),("TEXT",509,(.ref 228)),("TRUTH",511,(.ref 229)),("WHOLE",514,(.ref 230)),("RUNE",517,(.ref 231)),("NIL",519,(.ref 232)),("UNTYPED_DEFAULTS",528,(.ref 233)),("NILABLE",535,(.ref 234)),("joined_texts",541,(.ref 239)),("signature_text",547,(.ref 244)),("field_text",557,(.ref 251)),("braced_text",565,(.ref 258)),("chan_text",574,(.ref 265)),("type_text",580,(.ref 270)),("underlying_of",588,(.ref 277)),("is_named",595,(.ref 284)),("is_untyped",602,(.ref 291)),("default_type",609,(.ref 298)),("is_interface",617,(.ref 305)),("is_truth",625,(.ref 312)),("has_nil",633,(.ref 319)),("read_receive",648,(.ref 326)),("read_key",662,(.ref 333)),("want_possible",673,(.ref 340)),("read_assertion",688,(.ref 347)),("read_pair",698,(.ref 354)),("truth_as",710,(.ref 361)),("DEEDS",725,(.ref 362)),("one_value",734,(.ref 369)),("tuple_value",747,(.ref 376)),("parted_values",753,(.ref 381)),("all_values",759,(.ref 387)),("types_of_values",765,(.ref 392)),("is_deed",772,(.ref 399)),("BITS",805,(.ref 400)),("MOST_BITS",807,(.int 512 806)),("MOST_TEXT",811,(.int 1048576 810)),("COMPARISONS",818,(.ref 401)),("WRONG_RUNE",820,(.bytes #[239,191,189] 819)),("is_unsigned",827,(.ref 408)),("int_range",834,(.ref 415)),("is_in_range",844,(.ref 422)),("within_range",852,(.ref 429)),("representable",861,(.ref 436)),("const_unary",870,(.ref 444)),("const_quotient",879,(.ref 451)),("const_shift",889,(.ref 458)),("int_binary",898,(.ref 465)),("const_compared",907,(.ref 472)),("sort_of_const",914,(.ref 479)),("const_binary",925,(.ref 487)),("rune_octets",932,(.ref 494)),("const_convert",940,(.ref 501)),("is_like_chan",953,(.ref 508)),("meets_face",962,(.ref 515)),("is_assignable",972,(.ref 523)),("is_const_assignable",983,(.ref 530)),("SYNC_TYPES",988,(.ref 531)),("MOST_LENGTH",992,(.int 1048576 991)),("MOST_PARTS",994,(.int 2000 993)),("MOST_LEVELS",996,(.int 100 995)),("type_entry",1010,(.ref 539)),("exported_entry",1021,(.ref 547)),("want_few_parts",1027,(.ref 552)),("TypeReader",1126,(.ref 614)),("UNTYPED_INT",1131,(.ref 619)),("UNTYPED_RUNE",1134,(.ref 620)),("UNTYPED_BOOL",1137,(.ref 621)),("UNTYPED_TEXT",1140,(.ref 622)),("NUMBERS",1141,(.ref 623)),("ConstReader",1322,(.ref 729)),("const_of",1333,(.ref 741)),("type_of",1347,(.ref 748)),("Scope",1444,(.ref 817)),("UNTYPED_TRUTH",1449,(.ref 822)),("Checker",1620,(.ref 935)),("PLAIN",1624,(.ref 942)),("NamedRow",1659,(.ref 959)),("known_rows",1672,(.ref 970)),("World",1737,(.ref 1002)),("_law_reel",1748,(.ref 1013)),("_law_wound",1757,(.ref 1020)),("_law_one",1765,(.ref 1027)),("_law_tried",1773,(.ref 1034)),("_law_whole",1779,(.ref 1041)),("_law_any",1785,(.ref 1048)),("_law_read_told",1794,(.ref 1055)),("_law_read_unary",1803,(.ref 1062)),("_law_checker",1810,(.ref 1069)),("_law_value",1823,(.ref 1076)),("_law_taken",1834,(.ref 1083)),("_law_parted",1840,(.ref 1088)),("_law_all",1846,(.ref 1093)),("_law_right",1852,(.ref 1098)),("_law_wanted",1859,(.ref 1105)),("_law_deeds_right",1872,(.ref 1112)),("law",1878,(.ref 1117))]
noncomputable def E8:List (String×Nat×Value):=[("__doc__",166,.none),("__package__",167,.none),("__loader__",168,(.builtin "__main__.__loader__#opaque")),("__spec__",169,.none),("__annotations__",170,(.ref 6)),("__builtins__",171,(.ref 4)),("__file__",173,(.str (Str.ofString "/claim/cut.py") 172)),("__cached__",174,.none)]
noncomputable def NAM:List Value:=[(.str (Str.ofString "__main__") 164),(.str (Str.ofString "chancore.errors") 194),(.str (Str.ofString "chancore.lookup") 292),(.str (Str.ofString "chancore.method_sets") 439),(.str (Str.ofString "chancore.types") 506),(.str (Str.ofString "chancore.check_exprs") 634),(.str (Str.ofString "chancore.check_loops") 699),(.str (Str.ofString "chancore.check_statements") 711),(.str (Str.ofString "chancore.consts") 773),(.str (Str.ofString "chancore.assign") 941),(.str (Str.ofString "chancore.type_exprs") 984),(.str (Str.ofString "chancore.const_exprs") 1127),(.str (Str.ofString "chancore.scopes") 1348),(.str (Str.ofString "chancore.check_state") 1445),(.str (Str.ofString "chancore.world") 1621),(.str (Str.ofString "law_xm0194_01") 1738)]
noncomputable def ajN:List (Int×Addr):=[(1,20),(5,27),(11,48),(13,60),(15,72),(17,84),(21,96),(27,118),(31,125),(33,132),(35,137),(49,144),(58,151),(77,179),(85,186),(104,193),(115,200),(120,205),(124,212),(134,219),(140,226),(156,238),(158,243),(166,250),(169,257),(171,264),(177,269),(200,276),(202,283),(204,290),(206,297),(208,304),(210,311),(212,318),(215,325),(222,332),(226,339),(232,346),(242,353),(254,360),(260,368),(264,375),(270,380),(282,386),(291,391),(295,398),(303,407),(305,414),(309,421),(314,428),(318,435),(331,443),(343,450),(348,457),(356,464),(376,471),(388,478),(392,486),(409,493),(413,500),(420,507),(425,514),(427,522),(437,529),(451,538),(466,546),(475,551),(484,558),(562,629),(710,740),(712,747),(717,754),(759,828),(841,948),(848,969),(857,976),(898,1012),(902,1019),(909,1026),(911,1033),(920,1040),(922,1047),(924,1054),(926,1061),(928,1068),(932,1075),(940,1082),(953,1087),(964,1092),(978,1097),(987,1104),(989,1111),(996,1116)]
def rw(i:Nat):Rw:=lg TP i ⟨0,0,0,0,0,0,default⟩
noncomputable def ent(w:World)(x:String×Nat×Value):DictEntry:=⟨PyData.keyHash w.params (Str.ofString x.1),.str (Str.ofString x.1) x.2.1,x.2.2⟩
def o3(w:World)(i:Nat):Obj:=⟨.type "dict",none,.dict ⟨ent w ("__name__",165,lg NAM (rw i).m .none)::(E8++Wy.take (rw i).e).map (ent w)⟩ (Nat.add 9 (rw i).e),#[]⟩
def LI(i:Nat):Obj:=⟨.none,none,.fields ⟨(ajN.take (rw i).c).flatMap fun x=>[.int x.1 0,.int 0 0,.ref x.2]⟩,#[]⟩
noncomputable def Wz:Obj:={cls:=.type "code",data:=.fields #[.str (Str.ofString "<module>") 182,.str (Str.ofString "<module>") 183,.str (Str.ofString "/claim/cut.py") 184,.int 1 0,.int 0 0,.int 0 0,.int 0 0,.int 0 0,.ref 11,.bool false,.int 181 0,.ref 12,.none,.none,.none,.none,.int 185 0,.int 1 0,.str (Str.ofString "/claim/cut.py") 186]}
def ni(w:World):Obj:={cls:=.type "dict",data:=.dict #[ent w ("__module__",203,.str (Str.ofString "chancore.errors") 194),ent w ("__firstlineno__",207,.int 5 206),ent w ("__init__",217,.ref 36),ent w ("__static_attributes__",220,.ref 37),ent w ("__weakref__",222,.ref 40),ent w ("__doc__",223,.none)] 3}
def o2(w:World)(i:Nat):Obj:=⟨.none,none,(match Nat.ble i 2 with|true=>.dict #[]|false=>.dict #[ent w ("type.__subclasses__.Exception.0",224,.int 39 0),ent w ("type.__subclasses__.Exception.n",225,.int 1 0)] 2),#[]⟩
noncomputable def mh(i:Nat):Obj:={cls:=.type "type",data:=.cls {name:=Str.ofString "ChanError",bases:=[.type "Exception"],mro:=[.ref 39,.type "Exception",.type "BaseException",.type "object"],ns:=38,qualname:=Str.ofString "ChanError",subclasses:=[.ref 52,.ref 64,.ref 76,.ref 88].take (Nat.sub i 3)},slots:=#[some (.ref 22),none,some (.str (Str.ofString "ChanError") 196),some (.str (Str.ofString "ChanError") 204),some (.builtin "Exception.__new__"),some (.bool true)]}
def kk(w:World)(b:Bool)(i:Nat):List (Addr×Obj):=(3,o3 w i)::(12,LI i)::(4,boot_o_4 w.params)::(13,Wz)::(0,boot_o_0 w.params)::(2,o2 w i)::(match b with|true=>[(38,ni w),(39,mh i)]|false=>[])
def ks(w:World)(os:OsState)(i:Nat):KS:=⟨kk w (Nat.ble 3 i) i,(rw i).n,⟨[]⟩,boot_drawn,(rw i).k,os,[]⟩
def run(w:World)(os:OsState)(i:Nat):Option (Flow×KS×Code×Pos):=EE (sf w) 11 (some (.ref 6)) 1 (Nat.succ (rw i).s) (ks w os i) (piecesOf [LH i] wg oV (rw i).p [topFrame default])
noncomputable def WA(n:Nat)(l:List Addr):Bool:=l.all fun a=>Nat.ble n a||Nat.beq a 3||Nat.beq a 12||Nat.beq a 2||Nat.beq a 39
noncomputable def rK(r:Option (Flow×KS×Code×Pos)):List (Addr×Obj):=match r with|some (_,k,_)=>k.K|none=>[]
noncomputable def rT(r:Option (Flow×KS×Code×Pos)):List Addr:=match r with|some (_,k,_)=>k.nS|none=>[]
def news(w:World)(os:OsState)(i:Nat):List (Addr×Obj):=(rK (run w os i)).take (Nat.sub (rw (Nat.succ i)).n (rw i).n)
def EF(w:World)(os:OsState)(i:Nat):Prop:=run w os i=some (.next,⟨news w os i++kk w (Nat.ble 3 i) (Nat.succ i),(rw (Nat.succ i)).n,⟨[]⟩,boot_drawn,(rw (Nat.succ i)).k,os,rT (run w os i)⟩,oV,(rw (Nat.succ i)).p)
theorem Rd{P:World→Prop}(h:∀(w:World) b,P (w.withFollow "special-get-raises" b))(w:World):P w:=by
 have:=h w (w.params.followText "special-get-raises")
 rwa [World.withFollow_self]at this
theorem aoh{α:Type}(a:α)(l:List α)(d:α):lg (a::l) 0 d=a:=rfl
theorem ab6{α:Type}(a:α)(l:List α)(i:Nat)(d:α):lg (a::l) (i+1) d=lg l i d:=rfl
theorem Rf{α:Type}(d:α):∀(l:List α) (i:Nat),i<l.length→l.drop i=lg l i d::l.drop (i+1)
 |a::l,0,_=>rfl
 |a::l,i+1,h=>by
  rw[List.drop_succ_cons,List.drop_succ_cons,ab6]
  exact Rf d l i (Nat.lt_of_succ_lt_succ h)
theorem Rh:w5.length=133:=by kernel_rfl
noncomputable def Bm(l:List (Addr×Obj)):Nat→Nat→Bool
 |_,0=>true
 |n,k+1=>match dS l n with
  |some _=>Bm l (Nat.succ n) k
  |none=>false
noncomputable def zu(a:Addr):Prop:=a=3∨a=12∨a=2∨a=39
noncomputable abbrev B0:List Frame:=[topFrame default]
noncomputable def te(o:Obj):Bool:=match o.cls with|.type n=>(match decide (n="list")with|true=>false|false=>true)|_=>true
structure PK(w:World)(os:OsState)(i:Nat):Prop where
 ok:EF w os i
 nS:WA (rw i).n (rT (Mine.run w os i))=true
 new:(news w os i).all (fun p=>Nat.ble (rw i).n p.1)=true
 full:Bm (news w os i) (rw i).n (Nat.sub (rw (Nat.succ i)).n (rw i).n)=true
 nol:(news w os i).all (fun p=>te p.2)=true
theorem dH{w:World}{os:OsState}{i:Nat}(a:EF w os i:=by unfold EF;kernel_rfl)(b:WA (rw i).n (rT (Mine.run w os i))=true:=by kernel_rfl)(c:(news w os i).all (fun p=>Nat.ble (rw i).n p.1)=true:=by kernel_rfl)(d:Bm (news w os i) (rw i).n (Nat.sub (rw (Nat.succ i)).n (rw i).n)=true:=by kernel_rfl)(e:(news w os i).all (fun p=>te p.2)=true:=by kernel_rfl):PK w os i:=⟨a,b,c,d,e⟩
theorem Em{l l':List (Addr×Obj)}{a:Addr}{o:Obj}(h:dS l a=some o):dS (l++l') a=some o:=by
 induction l with
 |nil=>cases h
 |cons p l ih=>
  rw[List.cons_append,n3]
  rw[n3]at h
  split
  ·rename_i e;rw[if_pos e]at h;exact h
  ·rename_i e;rw[if_neg e]at h;exact ih h
theorem afZ{w:World}{os:OsState}{i:Nat}(P:PK w os i){s:Shared}(R:KR (ks w os i) s):
  ∃s',segRun treeTable pw w 11 (some (.ref 6)) 1 (Nat.succ (rw i).s) s (piecesOf [LH i] wg oV (rw i).p B0)=some (.next,s',oV,(rw (Nat.succ i)).p)∧
   KR ⟨news w os i++kk w (Nat.ble 3 i) (Nat.succ i),(rw (Nat.succ i)).n,⟨[]⟩,boot_drawn,(rw (Nat.succ i)).k,os,rT (run w os i)⟩ s'∧
   ∀b o,¬zu b→s.heap.get? b=some o→s'.heap.get? b=some o:=by
 have h:=P.ok
 unfold EF at h
 conv at h=>lhs;unfold run
 rw[aex]at h
 obtain⟨s',e,F⟩:=N9 R h
 refine⟨s',e,F.R,fun b o nf g=>F.keep b o (fun hm=>?_) g⟩
 have t:=bh P.nS b hm
 have lt:b<(rw i).n:=by have q:=R.n;have q':=Heap.lt_size g;rw[q]at q';exact q'
 simp only[Bool.or_eq_true,Nat.ble_eq,Nat.beq_eq]at t
 rcases t with(((t|t)|t)|t)|t
 ·exact absurd lt (Nat.not_lt.mpr t)
 ·exact nf (.inl t)
 ·exact nf (.inr (.inl t))
 ·exact nf (.inr (.inr (.inl t)))
 ·exact nf (.inr (.inr (.inr t)))
theorem KR.other{k k':KS}{s:Shared}(R:KR k s)(h:∀a o,dS k'.K a=some o→s.heap.get? a=some o)(e:k'.n=k.n)(e1:k'.gens=k.gens)(e2:k'.drawn=k.drawn)(e3:k'.toks=k.toks)(e4:k'.os=k.os):KR k' s:=
 ⟨h,R.n.trans e.symm,R.gens.trans e1.symm,R.drawn.trans e2.symm,R.toks.trans e3.symm,R.os.trans e4.symm⟩
theorem ab7{n:Nat}{l l':List (Addr×Obj)}{a:Addr}(h:l.all (fun p=>Nat.ble n p.1)=true)(ha:a<n):dS (l++l') a=dS l' a:=by
 induction l with
 |nil=>rfl
 |cons p l ih=>
  rw[List.all_cons,Bool.and_eq_true,Nat.ble_eq]at h
  rw[List.cons_append,n3,if_neg (fun e:p.1=a=>absurd (e▸ha) (Nat.not_lt.mpr h.1))]
  exact ih h.2
theorem Qv{a:Addr}{o:Obj}:∀{l:List (Addr×Obj)},dS l a=some o→a∈l.map (·.1)
 |[],h=>nomatch h
 |p::l,h=>by
  rw[n3]at h
  by_cases q:p.1=a
  ·exact q▸bo
  ·rw[if_neg q]at h;exact bk _ (Qv h)
theorem Qw{a:Addr}:∀{l:List (Addr×Obj)},a∈l.map (·.1)→∃o,dS l a=some o
 |p::l,h=>by
  rw[n3]
  by_cases q:p.1=a
  ·exact⟨p.2,if_pos q⟩
  ·rw[if_neg q];exact Qw ((List.mem_cons.mp h).resolve_left (Ne.symm q))
theorem adf{w:World}{b:Bool}{i j:Nat}{a:Addr}{o:Obj}(h:dS (kk w b i) a=some o):∃o',dS (kk w b j) a=some o':=by
 have:=Qv h
 cases b<;>exact Qw this
noncomputable def zQ:Nat→Nat→Nat
 |0,_=>0
 |d+1,i=>Nat.add (Nat.succ (rw i).s) (zQ d (i+1))
theorem aoi{w:World}{b:Bool}{i:Nat}{a:Addr}{o:Obj}(h:dS (kk w false i) a=some o):dS (kk w b i) a=some o:=by
 cases b
 ·exact h
 ·exact Em (l':=[(38,ni w),(39,mh i)]) h
theorem chain{w:World}{os:OsState}(P:∀i,i<133→PK w os i)(kN:dS (news w os 2) 38=some (ni w))(jW:dS (news w os 2) 39=some (mh 3)):∀(d i:Nat) (s:Shared),i+d=133→KR (ks w os i) s→
  ∃s',KR (ks w os 133) s'∧(∀b o,¬zu b→s.heap.get? b=some o→s'.heap.get? b=some o)∧
   (∀j,i≤j→j<133→∀a o,¬zu a→dS (news w os j) a=some o→s'.heap.get? a=some o)∧
   ∀N r,topRun treeTable pw w 11 (some (.ref 6)) N s' (restOf [] wg oV (rw 133).p B0)=some r→
    topRun treeTable pw w 11 (some (.ref 6)) (zQ d i+N) s (restOf (w5.drop i) wg oV (rw i).p B0)=some r
 |0,i,s,e,R=>by
  obtain rfl:i=133:=e
  refine⟨s,R,fun Z Z Z x=>x,fun j h1 h2=>absurd h2 (Nat.not_lt.mpr h1),fun N r h=>?_⟩
  rw[List.drop_eq_nil_of_le (Nat.le_of_eq Rh),zQ,Nat.zero_add]
  exact h
 |d+1,i,s,e,R=>by
  have hi:i<133:=by omega
  obtain⟨cD,h1,BG,fr⟩:=afZ (P i hi) R
  have ajO:KR (ks w os (i+1)) cD:=by
   refine BG.other (fun a o h=>?_) rfl rfl rfl rfl rfl
   have key:∀{a:Addr} {o:Obj},dS (kk w (Nat.ble 3 i) (i+1)) a=some o→cD.heap.get? a=some o:=fun{a o} h=>by
    obtain⟨o',h'⟩:=adf (j:=i) h
    have lt:a<(rw i).n:=by have q:=R.n;have q':=Heap.lt_size (R.get a o' h');rw[q]at q';exact q'
    exact BG.get a o ((ab7 (P i hi).new lt).trans h)
   by_cases e2:i=2
   ·subst e2
    have h':dS ((kk w false 3)++[(38,ni w),(39,mh 3)]) a=some o:=h
    by_cases q:a=38
    ·subst q
     have e3:dS (kk w false 3++[(38,ni w),(39,mh 3)]) 38=some (ni w):=rfl
     rw[e3]at h';cases h'
     exact BG.get 38 _ (Em kN)
    ·by_cases q':a=39
     ·subst q'
      have e3:dS (kk w false 3++[(38,ni w),(39,mh 3)]) 39=some (mh 3):=rfl
      rw[e3]at h';cases h'
      exact BG.get 39 _ (Em jW)
     ·refine key (a:=a) (o:=o) ?_
      show dS (kk w false 3) a=some o
      rw[←h']
      simp only[kk,List.cons_append,List.nil_append,n3]
      simp[dS,Ne.symm q,Ne.symm q',n3]
   ·have e3:Nat.ble 3 (i+1)=Nat.ble 3 i:=by
     rw[Bool.eq_iff_iff,Nat.ble_eq,Nat.ble_eq];omega
    have h':dS (kk w (Nat.ble 3 (i+1)) (i+1)) a=some o:=h
    rw[e3]at h'
    exact key h'
  obtain⟨s',R',WB,nw,run⟩:=chain P kN jW d (i+1) cD (by omega) ajO
  refine⟨s',R',fun b o nf g=>WB b o nf (fr b o nf g),fun j h1 h2 a o nf g=>?_,fun N r h=>?_⟩
  ·by_cases q:j=i
   ·subst q
    exact WB a o nf (BG.get a o (Em g))
   ·exact nw j (by omega) h2 a o nf g
  ·have:=run N r h
   rw[Rf (.Pass default) w5 i (by rw[Rh];exact hi)]
   have k:=piece_app (rest:=w5.drop (i+1)) h1 this
   have e4:zQ (d+1) i+N=(rw i).s.succ+(zQ d (i+1)+N):=Nat.add_assoc _ _ _
   rw[e4]
   exact k
noncomputable def nT(w:World)(os:OsState):Shared:=⟨boot_heap w.params,⟨[]⟩,boot_drawn,boot_toks,os⟩
def pre(w:World)(os:OsState):Option (Shared×Thread):=Fast.tw15667345088766844465 treeTable pw w 11 (some (.ref 6)) 12 (nT w os) (topStub pw)
def lq(w:World)(os:OsState):Shared:=match pre w os with|some (s,_)=>s|none=>nT w os
theorem aey(w:World)(os:OsState):pre w os=some (lq w os,⟨Fast.tw11892475500146522536 treeTable oV,oV,default,B0⟩):=by kernel_rfl
def tE(w:World)(os:OsState)(a:Addr):Obj:=((lq w os).heap.get? a).getD default
theorem adg(w:World)(os:OsState):(lq w os).heap.get? 3=some (o3 w 0)∧(lq w os).heap.get? 12=some (LI 0)∧(lq w os).heap.get? 4=some (boot_o_4 w.params)∧(lq w os).heap.get? 13=some Wz∧(lq w os).heap.get? 0=some (boot_o_0 w.params)∧
 (lq w os).heap.get? 2=some (o2 w 0):=⟨by kernel_rfl,by kernel_rfl,by kernel_rfl,by kernel_rfl,by kernel_rfl,by kernel_rfl⟩
theorem ab8(w:World)(os:OsState):(lq w os).heap.objs.size=15∧(lq w os).gens=⟨[]⟩∧(lq w os).drawn=boot_drawn∧(lq w os).toks=187∧(lq w os).os=os∧(lq w os).heap.life=(boot_heap w.params).life:=
 ⟨by kernel_rfl,by kernel_rfl,by kernel_rfl,by kernel_rfl,by kernel_rfl,by kernel_rfl⟩
theorem ab9(w:World)(os:OsState):((List.range 15).all fun a=>((lq w os).heap.get? a).isSome)=true:=by kernel_rfl
noncomputable def FZ(P:Addr→Obj→Prop):List (Addr×Obj)→Prop
 |[]=>True
 |p::l=>P p.1 p.2∧FZ P l
theorem FZ.get{P:Addr→Obj→Prop}{a:Addr}{o:Obj}:∀{l:List (Addr×Obj)},FZ P l→dS l a=some o→P a o
 |[],_,h=>nomatch h
 |p::l,⟨h1,h2⟩,h=>by
  rw[n3]at h
  by_cases q:p.1=a
  ·rw[if_pos q]at h;exact q▸aV h▸h1
  ·rw[if_neg q]at h;exact h2.get h
theorem aez(w:World)(os:OsState):KR (ks w os 0) (lq w os):=
 let⟨h3,Cs,h4,h13,h0,h2⟩:=adg w os
 let⟨r1,r2,r3,r4,r5,_⟩:=ab8 w os
 ⟨fun Z Z h=>FZ.get (l:=kk w false 0) (P:=fun a o=>(lq w os).heap.get? a=some o) ⟨h3,Cs,h4,h13,h0,h2,trivial⟩ h,r1,r2,r3,r4,r5⟩
theorem adh(w:World)(os:OsState):topGo treeTable pw w 11 (some (.ref 6)) 12 (nT w os) (topStub pw)=some (lq w os,⟨denote treeTable oV,oV,default,B0⟩):=by
 have h:=aey w os
 unfold pre at h
 rw[←Fast.te15667345088766844465,←Fast.te11892475500146522536]at h
 exact h
theorem adi(w:World)(s:Shared)(q:Pos):topRun treeTable pw w 11 (some (.ref 6)) 2 s (restOf [] wg oV q B0)=some s:=by
 obtain⟨heap,gens,drawn,toks,os⟩:=s
 kernel_rfl
theorem abv(w:World)(s:Shared):segRun treeTable pw w 11 (some (.ref 6)) 1 1 s (blockOf w5 wg oV default B0)=some (.next,s,oV,(rw 0).p):=by
 kernel_rfl
def MM:Nat:=Nat.add 12 (Nat.add 1 (Nat.add (zQ 133 0) 2))
theorem af0:Nat.ble MM 20000=true:=by kernel_rfl
structure w6(w:World)(os:OsState)(s:Shared):Prop where
 kr:KR (ks w os 133) s
 old:∀b o,¬zu b→(lq w os).heap.get? b=some o→s.heap.get? b=some o
 new:∀j,j<133→∀a o,¬zu a→dS (news w os j) a=some o→s.heap.get? a=some o
 run:topRun treeTable pw w 11 (some (.ref 6)) MM (nT w os) (topStub pw)=some s
theorem WC{w:World}{os:OsState}(P:∀i,i<133→PK w os i)(kN:dS (news w os 2) 38=some (ni w))(jW:dS (news w os 2) 39=some (mh 3)):∃s,w6 w os s:=by
 obtain⟨s,R,old,new,run⟩:=chain P kN jW 133 0 (lq w os) rfl (aez w os)
 exact⟨s,R,old,fun j h=>new j (Nat.zero_le _) h,go_top (adh w os) (piece_block (abv w _) (run 2 s (adi w s _)))⟩
theorem Oz{p:Program}{w:World}{uq:Nat}{ann:Option Value}{tb:String→Option Builtin}:∀(n:Nat) (s:Shared) (t:Thread) (cD:Shared),topRun tb p w uq ann n s t=some cD→cD.heap.life=s.heap.life
 |0,s,t,cD,h=>by simp[topRun]at h
 |n+1,s,t,cD,h=>by
  unfold topRun at h
  split at h
  ·cases h;rfl
  ·split at h
   ·cases h
   ·split at h
    ·rename_i s' t' e
     exact(Oz n s' t' cD h).trans (step_life _ p w s s' t t' e)
    ·cases h
noncomputable def pcR(l:List Rw)(a:Nat):Nat:=@List.rec Rw (fun Z=>Nat) 0 (fun r Z ih=>@Bool.rec (fun Z=>Nat) 0 (Nat.succ ih) (Nat.ble r.n a)) l
def ur(a:Nat):Nat:=pcR (TP.drop 1) a
def rI(w:World)(os:OsState)(a:Nat):Obj:=match Nat.beq a 3 with
 |true=>o3 w 133
 |false=>match Nat.beq a 12 with
  |true=>LI 133
  |false=>match Nat.beq a 2 with
   |true=>o2 w 133
   |false=>match Nat.beq a 39 with
    |true=>mh 133
    |false=>match Nat.blt a 15 with
     |true=>tE w os a
     |false=>(dS (news w os (ur a)) a).getD default
noncomputable def zR(f:Nat→Obj):Nat→Nat→List Obj
 |_,0=>[]
 |n,k+1=>f n::zR f (Nat.succ n) k
def HW(w:World)(os:OsState):Heap:=⟨⟨zR (rI w os) 0 1118⟩,(boot_heap w.params).life⟩
def q0:Program:={pw with main:={pw.main with body:=[LH 132]}}
noncomputable def y8:List Str:=(Wy.take 117).map fun x=>Str.ofString x.1
theorem af1(w:World)(os:OsState):Fast.tw4187177175401517315 q0 y8 (importedModules pw.main.body) (fun Z=>true) true ⟨HW w os,⟨[]⟩,boot_drawn,1879,os⟩=openGood q0 y8:=by kernel_rfl
theorem OR{l:List (Addr×Obj)}:∀{k n a:Nat},Bm l n k=true→n≤a→a<n+k→∃o,dS l a=some o
 |0,n,a,_,h1,h2=>by omega
 |k+1,n,a,h,h1,h2=>by
  unfold Bm at h
  split at h
  ·rename_i o e
   by_cases q:a=n
   ·subst q;exact⟨o,e⟩
   ·exact OR h (by omega) (by omega)
  ·cases h
theorem Ri(f:Nat→Obj):∀(k n i:Nat),i<k→(zR f n k)[i]? =some (f (n+i))
 |k+1,n,0,_=>rfl
 |k+1,n,i+1,h=>by
  show(zR f (n+1) k)[i]? =_
  rw[Ri f k (n+1) i (by omega),show n+1+i=n+(i+1) by omega]
theorem Rj(f:Nat→Obj):∀(k n:Nat),(zR f n k).length=k
 |0,_=>rfl
 |k+1,n=>by
  show(zR f (n+1) k).length+1=_
  rw[Rj]
def F0(a:Nat):Bool:=Nat.blt (ur a) 133&&Nat.ble (rw (ur a)).n a&&Nat.blt a (Nat.add (rw (ur a)).n (Nat.sub (rw (Nat.succ (ur a))).n (rw (ur a)).n))
noncomputable def Fl:Nat→Nat→Bool
 |_,0=>true
 |n,k+1=>match F0 n with
  |true=>Fl (Nat.succ n) k
  |false=>false
theorem Qx:Fl 15 1103=true:=by kernel_rfl
theorem Ie:∀{k n a:Nat},Fl n k=true→n≤a→a<n+k→F0 a=true
 |0,n,a,_,h1,h2=>by omega
 |k+1,n,a,h,h1,h2=>by
  unfold Fl at h
  split at h
  ·rename_i e
   by_cases q:a=n
   ·subst q;exact e
   ·exact Ie h (by omega) (by omega)
  ·cases h
theorem w6.at{w:World}{os:OsState}{s:Shared}(P:∀i,i<133→PK w os i)(R:w6 w os s){a:Nat}(ha:a<1118):s.heap.get? a=some (rI w os a):=by
 unfold rI
 simp only[BT.beq_eq]
 by_cases h3:a=3
 ·subst h3;exact R.kr.get 3 _ rfl
 by_cases Cs:a=12
 ·subst Cs;exact R.kr.get 12 _ rfl
 by_cases h2:a=2
 ·subst h2;exact R.kr.get 2 _ rfl
 by_cases jW:a=39
 ·subst jW;exact R.kr.get 39 _ rfl
 have nf:¬zu a:=fun q=>q.elim h3 fun q=>q.elim Cs fun q=>q.elim h2 jW
 simp only[h3,Cs,h2,jW,decide_false]
 cases hb:Nat.blt a 15 with
 |true=>
  have lt:a<15:=by rw[Nat.blt_eq]at hb;exact hb
  have:=bh (ab9 w os) a (List.mem_range.mpr lt)
  obtain⟨o,e⟩:=Option.isSome_iff_exists.mp this
  refine R.old a _ nf ?_
  show _=some (tE w os a)
  unfold tE
  rw[e];rfl
 |false=>
  have ge:15≤a:=by
   have:¬a<15:=fun q=>by rw[←Nat.blt_eq,hb]at q;cases q
   omega
  have hp:=Ie Qx ge (by omega)
  unfold F0 at hp
  rw[Bool.and_eq_true,Bool.and_eq_true,Nat.blt_eq,Nat.ble_eq,Nat.blt_eq]at hp
  obtain⟨o,e⟩:=OR (P _ hp.1.1).full hp.1.2 hp.2
  refine R.new _ hp.1.1 a _ nf ?_
  rw[e];rfl
theorem w6.heap{w:World}{os:OsState}{s:Shared}(P:∀i,i<133→PK w os i)(R:w6 w os s):s.heap=HW w os:=by
 have l:s.heap.life=(boot_heap w.params).life:=Oz _ _ _ _ R.run
 have n:s.heap.objs.size=1118:=R.kr.n
 obtain⟨⟨objs,life⟩,gens,drawn,toks,o⟩:=s
 dsimp only at l n
 subst l
 show Heap.mk _ _=Heap.mk _ _
 congr 1
 obtain⟨L⟩:=objs
 congr 1
 refine List.ext_getElem? fun i=>?_
 by_cases h:i<1118
 ·rw[Ri _ _ _ _ h,Nat.zero_add]
  have:=((Heap.get?_eq_some _ _ _).mp (R.at P h)).1
  simpa using this
 ·rw[List.getElem?_eq_none (by simpa using Nat.le_trans (Nat.le_of_eq n) (Nat.not_lt.mp h)),List.getElem?_eq_none (by rw[Rj];omega)]
theorem w6.eq{w:World}{os:OsState}{s:Shared}(P:∀i,i<133→PK w os i)(R:w6 w os s):s=⟨HW w os,⟨[]⟩,boot_drawn,1879,os⟩:=by
 have h:=R.heap P
 have k:=R.kr
 obtain⟨heap,gens,drawn,toks,o⟩:=s
 obtain⟨_,_,g,d,t,e⟩:=k
 dsimp only at h g d t e
 subst h;subst g;subst d;subst e
 have t':toks=1879:=t
 subst t'
 rfl
theorem ab_:opening pw=plainProg pw.main.scope.names:=by kernel_rfl
theorem aca(s:Shared):fenceModules? pw s=some s:=by kernel_rfl
def kz(w:World):OsState:=match fencedOpening treeTable pw w 20000 with
 |some s=>s.os
 |none=>default
theorem opened(w:World):fencedOpening treeTable pw w 20000=some (nT w (kz w)):=by
 obtain⟨s,e,e'⟩:=Option.map_eq_some_iff.mp (boot_open (p:=pw) (N:=20000) ab_ (by rfl) aca w)
 have:kz w=s.os:=by unfold kz;rw[e]
 rw[this,e]
 obtain⟨h,g,d,k,o⟩:=s
 obtain⟨rfl,rfl,rfl,rfl⟩:h=boot_heap w.params∧g=⟨[]⟩∧d=boot_drawn∧k=boot_toks:=by simpa using e'
 rfl
theorem adj(w:World)(os:OsState):(((nT w os).heap.isNs mainGlobals&&(nT w os).gens.size==0),(nT w os).heap.objs.size,(nT w os).heap.nsMap mainGlobals "__annotations__")=(true,11,some (.ref 6)):=by kernel_rfl
theorem lka(w:World)(os:OsState):staticsOk (importedModules pw.main.body) (nT w os).heap (HW w os)=true:=by kernel_rfl
theorem lkb(w:World)(os:OsState):namesBound pw (HW w os)=true:=by kernel_rfl
theorem lkc(w:World)(os:OsState):gensDone ⟨HW w os,⟨[]⟩,boot_drawn,1879,os⟩=true:=by kernel_rfl
theorem lkd(w:World)(os:OsState):laidKept (nT w os).heap (HW w os)=true:=by kernel_rfl
theorem aeA{w:World}{os:OsState}(r:topRun treeTable pw w 11 (some (.ref 6)) 20000 (nT w os) (topStub pw)=some ⟨HW w os,⟨[]⟩,boot_drawn,1879,os⟩):
  topFrom treeTable pw w 20000 (nT w os)=some ⟨HW w os,⟨[]⟩,boot_drawn,1879,os⟩:=by
 have z:=adj w os
 rw[Prod.mk.injEq,Prod.mk.injEq]at z
 obtain⟨z1,z2,z3⟩:=z
 unfold topFrom
 rw[z1,z2,z3,r]
 dsimp only[Option.bind_some]
 rw[lka,lkb,lkc,lkd]
 rfl
theorem adk{w:World}(r:topRun treeTable pw w 11 (some (.ref 6)) 20000 (nT w (kz w)) (topStub pw)=some ⟨HW w (kz w),⟨[]⟩,boot_drawn,1879,kz w⟩):
  openEnds treeTable pw w 20000=some ⟨HW w (kz w),⟨[]⟩,boot_drawn,1879,kz w⟩:=by
 unfold openEnds
 rw[opened w,Option.bind_some]
 exact aeA r
theorem aeB{w:World}{os:OsState}(P:∀i,i<133→PK w os i)(kN:dS (news w os 2) 38=some (ni w))(jW:dS (news w os 2) 39=some (mh 3)):
  topRun treeTable pw w 11 (some (.ref 6)) 20000 (nT w os) (topStub pw)=some ⟨HW w os,⟨[]⟩,boot_drawn,1879,os⟩:=by
 obtain⟨s,R⟩:=WC P kN jW
 obtain rfl:=R.eq P
 have r:=topRun_mono (20000 - MM) _ _ _ _ R.run
 rw[show MM+(20000 - MM)=20000 from Nat.add_sub_cancel' (Nat.le_of_ble_eq_true af0)]at r
 exact r
theorem af2(P:∀w os i,i<133→PK w os i)(kN:∀w os,dS (news w os 2) 38=some (ni w))(jW:∀w os,dS (news w os 2) 39=some (mh 3)):
  LeftO pw q0 y8 (fun Z=>true) (fun s=>s.heap) (fun w=>HW w (kz w)) 20000:=fun w=>by
 rw[adk (aeB (P w (kz w)) (kN w (kz w)) (jW w (kz w))),Option.map_some]
 have lk:=af1 w (kz w)
 rw[←Fast.te4187177175401517315]at lk
 exact congrArg some (Prod.ext lk rfl)
abbrev LL:OpenLaw:=PySem.Challenge.rw_xm0194_01
theorem b1:(sreFenced LL.prog.main&&((moduleNames LL.prog.main.body).isEmpty||lookedIntoSs (moduleNames LL.prog.main.body) LL.prog.main.body))=true:=by
 rw[Fast.te11788848310118352699,Fast.te9807087744658564304]
 kernel_rfl
theorem b2:namesResolve LL.prog=true:=by
 rw[Fast.te8377067652309620493]
 kernel_rfl
theorem b3:(LL.prog.boundNames.all (fun n=>!worldNames.contains n))=true:=by
 kernel_rfl
theorem b5:namesMeet LL.prog LL.prog.main.body (fun Z n=>attrL n)=true:=by
 rw[Fast.te17119622794617984870]
 kernel_rfl
theorem b41:(["vars","dir","locals"]:List Str).filter (readsOut LL.prog LL.prog.main.body)=[]:=by
 rw[Fast.te13343964577679436407]
 kernel_rfl
theorem b4:noRoadLSs {strict:=!(importedModules LL.prog.main.body).all cThrough.contains,foot:=none,bare:=[]} LL.prog.main.body=true:=by
 rw[Fast.te8326940854005059898]
 kernel_rfl
theorem ct1:noRoadLSs {strict:=true,foot:=some LL.bound',writes:=LL.writes,may:=LL.may} LL.footing=true:=by
 rw[Fast.te8326940854005059898]
 kernel_rfl
theorem d1:defStands LL.about LL.above=true:=by
 rw[Fast.te9558739934217749035]
 kernel_rfl
theorem d2:LL.bound'.all (fun n=>!builtinNamed n||LL.about==[n]||!LL.reads n)=true:=by
 rw[Fast.named_eq,Fast.te6984425678791042302]
 kernel_rfl
theorem d3:namesMeet LL.prog LL.footing (fun sc n=>(!(["type","isinstance","issubclass","getattr","hasattr"]:List Str).contains n||sc.names.lookup n==some .globalImplicit)&&
  (LL.may !=some n||sc.kind==.module||sc.names.lookup n==some .globalImplicit))=true:=by
 rw[Fast.te17119622794617984870]
 kernel_rfl
theorem d4:(LL.own.contains LL.name&&LL.own.eraseDups.length==LL.own.length&&LL.own.all (fun n=>!builtinNamed n))=true:=by
 rw[Fast.named_eq]
 kernel_rfl
theorem d5:namesMeet LL.prog LL.above (fun Z n=>!LL.own.contains n)=true:=by
 rw[Fast.te17119622794617984870]
 kernel_rfl
theorem d6:(namesMeet LL.prog LL.footing fun sc n=>sc.kind==.module||sc.names.lookup n !=some .globalExplicit)=true:=by
 rw[Fast.te17119622794617984870]
 kernel_rfl
theorem a2:LL.namesIt=true:=by
 rw[Fast.te16286561074155671207]
 kernel_rfl
theorem a3:noClassBlock LL.prog LL.footing=true:=by
 rw[Fast.te8179353310426384613]
 kernel_rfl
theorem a4:LL.footing.all footLine=true:=by
 rw[Fast.te10501279942588096481]
 kernel_rfl
theorem b4':noRoadLSs {strict:=!(importedModules LL.prog.main.body).all cThrough.contains,foot:=none,bare:=(["vars","dir","locals"]:List Str).filter (readsOut LL.prog LL.prog.main.body)} LL.prog.main.body=true:=by
 rw[b41];exact b4
theorem aaZ:looksOpen LL.prog=true:=look_both (look_both (look_both (look_both b1 b2) b3) b4') b5
theorem abw:LL.row.partSaid=true:=by
 unfold OpenRow.partSaid
 iterate 13 (refine look_both ?_ (by kernel_rfl))
 exact aaZ
theorem acb:LL.row.wellSaid=true:=by
 unfold OpenRow.wellSaid
 exact look_both (look_both abw (by kernel_rfl)) (by kernel_rfl)
theorem acd:LL.wellSaid=true:=by
 unfold OpenLaw.wellSaid
 exact look_both (look_both (look_both (look_both (look_both (look_both (look_both (look_both (look_both (look_both (look_both (look_both (look_both (look_both (look_both (look_both (look_both (look_both acb (by kernel_rfl)) a4) a3) (by kernel_rfl)) (by kernel_rfl)) ct1) d1) a2) (by kernel_rfl)) d2) (by kernel_rfl)) (by kernel_rfl)) d3) (Bool.and_eq_true_iff.mp (Bool.and_eq_true_iff.mp d4).1).1) (Bool.and_eq_true_iff.mp (Bool.and_eq_true_iff.mp d4).1).2) (Bool.and_eq_true_iff.mp d4).2) d5) d6
def LJ(w:World)(h:Heap):Prop:=∀b o,(HW w (kz w)).get? b=some o→h.get? b=some o
def EX:Option (DefRec×List (Str×Expr)):=defOf q0 LL.row.name
theorem ajP:(chainsOk q0&&opensWell LL.row.prog&&(frees LL.row.toRowW&&LL.row.within.isEmpty))=true:=by decide+kernel
theorem aeC:LL.row.prog.bare:=⟨rfl,rfl,rfl,rfl,rfl,by decide+kernel⟩
theorem af3:LL.row.toRowW.promised:=by w_witness2
theorem TQ:∀d kwd,EX=some (d,kwd)→LL.row.prog.theDef LL.row.name=some (d.params,d.body,d.scope)∧kwWritten? d.params.kwonlyargs d.params.kw_defaults=some kwd:=fun d kwd h=>by cases h;exact⟨rfl,rfl⟩
theorem adl(P:∀w os i,i<133→PK w os i)(kN:∀w os,dS (news w os 2) 38=some (ni w))(jW:∀w os,dS (news w os 2) 39=some (mh 3))(ok:LL.wellSaid=true)
 (hc:∀d kwd,EX=some (d,kwd)→WalkO q0 y8 (fun Z Z=>True) LJ LL.row.toRowW d kwd (fun f vs=>call f vs)):LL.Holds:=by
 refine holds_law ok fun ajQ=>?_
 obtain⟨⟨d,kwd⟩,hd⟩:∃x,EX=some x:=⟨_,rfl⟩
 exact holds_open (q:=q0) (loose:=y8) (Xt:=fun Z=>true) (XP:=fun Z Z=>True) (Yf:=fun s=>s.heap) (Ya:=fun w=>HW w (kz w)) (YP:=LJ) (N:=20000) (af2 P kN jW)
  (fun w s e b o x=>by rw[show s.heap=_ from e];exact x) (fun w h h' a k b o x=>k b o (a b o x)) (fun Z Z=>trivial) (fun Z Z Z Z Z=>trivial) (d:=d) (kwd:=kwd) hd (TQ d kwd hd).1 (TQ d kwd hd).2 (fun s Z=>recFacts_nil rfl) (by rfl) ajQ ajP aeC af3 (hc d kwd hd)
structure FD where
 cls:Value
 body:List Stmt
 scope:Scope
 params:Arguments
 dfl:Value
 kw:Value
noncomputable def Kd(v:Value):Option Addr:=@Value.casesOn (fun Z=>Option Addr) v none none none (fun Z=>none) (fun Z Z=>none) (fun Z Z=>none) (fun Z Z=>none) (fun Z Z=>none) (fun Z=>none) (fun Z=>none) some
theorem abx{v:Value}{b:Addr}:Kd v=some b→v=.ref b:=@Value.casesOn (fun v=>Kd v=some b→v=.ref b) v (fun h=>cw h) (fun h=>cw h) (fun h=>cw h) (fun Z h=>cw h) (fun Z Z h=>cw h) (fun Z Z h=>cw h) (fun Z Z h=>cw h) (fun Z Z h=>cw h) (fun Z h=>cw h) (fun Z h=>cw h) (fun Z h=>congrArg Value.ref (aV h))
noncomputable def Ct(v:Value):Option Str:=@Value.casesOn (fun Z=>Option Str) v none none none (fun Z=>none) (fun Z Z=>none) (fun Z Z=>none) (fun x Z=>some x) (fun Z Z=>none) (fun Z=>none) (fun Z=>none) (fun Z=>none)
theorem Qy{v:Value}{x:Str}:Ct v=some x→∃t,v=.str x t:=@Value.casesOn (fun v=>Ct v=some x→∃t,v=.str x t) v (fun h=>cw h) (fun h=>cw h) (fun h=>cw h) (fun Z h=>cw h) (fun Z Z h=>cw h) (fun Z Z h=>cw h) (fun Z t h=>⟨t,congrArg (Value.str · t) (aV h)⟩) (fun Z Z h=>cw h) (fun Z h=>cw h) (fun Z h=>cw h) (fun Z h=>cw h)
noncomputable def F1(v:Value):Bool:=@Value.casesOn (fun Z=>Bool) v false true true (fun Z=>true) (fun Z Z=>true) (fun Z Z=>true) (fun Z Z=>true) (fun Z Z=>true) (fun Z=>true) (fun Z=>true) (fun Z=>true)
theorem Rk{v:Value}(h:F1 v=true):v≠.none:=fun e=>cF ((congrArg F1 e).symm.trans h)
def LK(v:Value)(a:Nat):Bool:=oB (Kd v) fun b=>Nat.beq b a
theorem RX{v:Value}{a:Nat}(h:LK v a=true):v=.ref a:=(l8 h).elim fun Z y=>(abx y.1).trans (congrArg Value.ref (aY y.2))
def WD(vs:Array Value)(q:Str):Bool:=oB (vs[1]? :Option Value) fun v=>oB (Ct v) fun x=>sq x q
theorem ajR{x y:Str}(h:sq x y=true):x=y:=of_decide_eq_true ((pe _ _).symm.trans h)
theorem aeD{vs:Array Value}{q:Str}(h:WD vs q=true):∃t,vs[1]? =some (.str q t):=(l8 h).elim fun Z y=>(l8 y.2).elim fun Z z=>(Qy z.1).elim fun t e=>⟨t,y.1.trans (congrArg some (e.trans (congrArg (Value.str · t) (ajR z.2))))⟩
noncomputable def Fm(d:Data):Option FuncData:=@Data.casesOn (fun Z=>Option FuncData) d none (fun Z=>none) (fun Z Z=>none) (fun Z Z=>none) (fun Z Z Z=>none) (fun Z Z=>none) (fun Z=>none) some (fun Z=>none) (fun Z=>none) none
theorem OS{d:Data}{f:FuncData}:Fm d=some f→d=.func f:=@Data.casesOn (fun d=>Fm d=some f→d=.func f) d (fun h=>cw h) (fun Z h=>cw h) (fun Z Z h=>cw h) (fun Z Z h=>cw h) (fun Z Z Z h=>cw h) (fun Z Z h=>cw h) (fun Z h=>cw h) (fun Z h=>congrArg Data.func (aV h)) (fun Z h=>cw h) (fun Z h=>cw h) (fun h=>cw h)
noncomputable def Jo(d:Data):Option (Array Value):=@Data.casesOn (fun Z=>Option (Array Value)) d none (fun Z=>none) (fun Z Z=>none) (fun Z Z=>none) (fun Z Z Z=>none) (fun Z Z=>none) (fun Z=>none) (fun Z=>none) (fun Z=>none) some none
theorem aa0{d:Data}{f:Array Value}:Jo d=some f→d=.fields f:=@Data.casesOn (fun d=>Jo d=some f→d=.fields f) d (fun h=>cw h) (fun Z h=>cw h) (fun Z Z h=>cw h) (fun Z Z h=>cw h) (fun Z Z Z h=>cw h) (fun Z Z h=>cw h) (fun Z h=>cw h) (fun Z h=>cw h) (fun Z h=>cw h) (fun Z h=>congrArg Data.fields (aV h)) (fun h=>cw h)
noncomputable def Fo(d:Data):Option (Array DictEntry):=@Data.casesOn (fun Z=>Option (Array DictEntry)) d none (fun Z=>none) (fun Z Z=>none) (fun es Z=>some es) (fun Z Z Z=>none) (fun Z Z=>none) (fun Z=>none) (fun Z=>none) (fun Z=>none) (fun Z=>none) none
theorem aa1{d:Data}{es:Array DictEntry}:Fo d=some es→∃n,d=.dict es n:=@Data.casesOn (fun d=>Fo d=some es→∃n,d=.dict es n) d (fun h=>cw h) (fun Z h=>cw h) (fun Z Z h=>cw h) (fun Z n h=>⟨n,congrArg (Data.dict · n) (aV h)⟩) (fun Z Z Z h=>cw h) (fun Z Z h=>cw h) (fun Z h=>cw h) (fun Z h=>cw h) (fun Z h=>cw h) (fun Z h=>cw h) (fun h=>cw h)
noncomputable def TR(b:FuncBody):Option (List Stmt):=match b with|.stmts b=>some b|_=>none
theorem aby{b:FuncBody}{l:List Stmt}(h:TR b=some l):b=.stmts l:=by cases b<;>first|exact congrArg _ (aV h)|exact cw h
noncomputable def Ke{α:Type}(l:List α):Bool:=@List.casesOn α (fun Z=>Bool) l true fun Z Z=>false
theorem adm{α:Type}{l:List α}:Ke l=true→l=[]:=@List.casesOn α (fun l=>Ke l=true→l=[]) l (fun Z=>rfl) fun Z Z h=>cF h
def e6(l:List (Addr×Obj))(a cc:Nat):Option FD:=ej (dS l a) fun o=>ej (Fm o.data) fun fd=>ej (dS l cc) fun oc=>ej (Jo oc.data) fun vs=>ej (TR fd.body) fun b=>
 gd (band (F1 oc.cls) (band (LK fd.code cc) (band (WD vs fd.qualname) (band (Ke fd.closure) (band (Nat.beq fd.globals mainGlobals) (Nat.beq fd.builtins builtinsNs)))))) (some ⟨o.cls,b,fd.scope,fd.params,fd.defaults,fd.kwdefaults⟩)
structure FnAt(h:Heap)(a cc:Nat)(D:FD)(fd:FuncData):Prop where
 obj:∃o,h.get? a=some o∧o.cls=D.cls∧o.data=.func fd
 code:∃oc vs t,h.get? cc=some oc∧oc.cls≠.none∧oc.data=.fields vs∧vs[1]? =some (.str fd.qualname t)
 cd:fd.code=.ref cc
 body:fd.body=.stmts D.body
 scope:fd.scope=D.scope
 params:fd.params=D.params
 dfl:fd.defaults=D.dfl
 kw:fd.kwdefaults=D.kw
 Gb:fd.closure=[]
 glob:fd.globals=mainGlobals
 blt:fd.builtins=builtinsNs
theorem AY{l:List (Addr×Obj)}{a cc:Nat}{D:FD}{h:Heap}(e:e6 l a cc=some D)(ha:∀o,dS l a=some o→h.get? a=some o)(hc:∀o,dS l cc=some o→h.get? cc=some o):∃fd,FnAt h a cc D fd:=
 (eP e).elim fun o y=>(eP y.2).elim fun fd y2=>(eP y2.2).elim fun oc y3=>(eP y3.2).elim fun vs y4=>(eP y4.2).elim fun b y5=>
  let g:=gK y5.2
  let b1:=ew g.1
  let b2:=ew b1.2
  let b3:=ew b2.2
  let b4:=ew b3.2
  let b5:=ew b4.2
  ⟨fd,aV g.2▸⟨⟨o,ha _ y.1,rfl,OS y2.1⟩,(aeD b3.1).elim fun t u=>⟨oc,vs,t,hc _ y3.1,Rk b1.1,aa0 y4.1,u⟩,RX b2.1,aby y5.1,rfl,rfl,rfl,rfl,adm b4.1,aY b5.1,aY b5.2⟩⟩
noncomputable def isFun(k:ScopeKind):Bool:=decide (k=.function)
def w7(sc:Scope):Bool:=band (isFun sc.kind) (band (qt sc.isCoroutine) (qt sc.isGenerator))
theorem aeE{sc:Scope}(h:w7 sc=true):sc.isCoroutine=false∧sc.isGenerator=false∧sc.kind=.function:=let y:=ew h;let z:=ew y.2;⟨ET z.1,ET z.2,of_decide_eq_true y.1⟩
noncomputable def TS(α:Type):Nat→Type
 |0=>α
 |n+1=>Value→TS α n
noncomputable def cur{α:Type}:(n:Nat)→(List Value→α)→TS α n
 |0,f=>f []
 |n+1,f=>fun v=>cur n fun l=>f (v::l)
theorem Rl{α:Type}:∀{n:Nat} {f g:List Value→α},cur n f=cur n g→∀Vs:List Value,Vs.length=n→f Vs=g Vs
 |0,f,g,h,Vs,e=>(List.eq_nil_of_length_eq_zero e).symm▸h
 |n+1,f,g,h,Vs,e=>match Vs,e with
  |v::Vs,e=>Rl (congrFun h v) Vs (Nat.succ.inj e)
noncomputable def pf(q:Str)(p:Arguments)(d k:Value):FuncData:={(default:FuncData)with qualname:=q,params:=p,defaults:=d,kwdefaults:=k}
theorem Rm(fd:FuncData)(args:Args):bindArgs fd args=bindArgs (pf fd.qualname fd.params fd.defaults fd.kwdefaults) args:=rfl
def eY(st:Option Stmt)(d:Value):FD:=⟨.type "function",dM st,j2 st,Ff st,d,.none⟩
def uU(st:Option Stmt)(d:Value)(K:Frag)(m:Nat)(dV:List Value):Prop:=∀(S:Setting) (q:Str),cur m (fun Vs=>peek K S (bindArgs (pf q (Ff st) d .none) ⟨Vs,[]⟩))=cur m (fun Vs=>some ((pd st).zip (Vs++dV)))
section
variable{c:Cx}{a cc m dA:Nat}{fd:FuncData}{st:Option Stmt}{d V:Value}{v:J}{l:List (Addr×Obj)}{code:Option Addr}
theorem oM.peek{ns:List Str}{dV:List Value}{K:Frag}(hK:∀a o,K.lookup a=some o→c.h0.get? a=some o∧o.cls≠.none)(h:∀S,cur m (fun Vs=>PySem.W.peek K S (bindArgs fd ⟨Vs,[]⟩))=cur m (fun Vs=>some (ns.zip (Vs++dV)))):oM c fd m ns dV:=fun A s Vs Q E hm old hQ=>
 (Looks.of_peek (K:=K) (h:=s.heap) (fun a o e=>old.get_of_cls (hK a o e).1 (hK a o e).2) (Rl (h _) Vs hm)).here hQ
theorem FnAt.bind{K:Frag}{dV:List Value}(x:FnAt c.h0 a cc (eY st d) fd)(hK:∀a o,K.lookup a=some o→c.h0.get? a=some o∧o.cls≠.none)(h:uU st d K m dV):oM c fd m (pd st) dV:=by
 refine oM.peek hK fun S=>?_
 have:=h S fd.qualname
 have e:∀Vs,bindArgs fd ⟨Vs,[]⟩=bindArgs (pf fd.qualname (Ff st) d .none) ⟨Vs,[]⟩:=fun Vs=>by
  rw[Rm fd,x.params,x.dfl,x.kw];rfl
 simp only[e]
 exact this
theorem FnAt.fn(x:FnAt c.h0 a cc (eY st d) fd)(hs:w7 (j2 st)=true):uD c a fd (dM st):=
 let s:=aeE hs
 ⟨x.obj.elim fun o e=>⟨o,e.1,e.2.1▸(fun q=>nomatch q),e.2.2⟩,x.code.elim fun oc y=>y.elim fun vs y=>y.elim fun t f=>⟨cc,oc,vs,t,x.cd,f.1,f.2.1,f.2.2.1,f.2.2.2⟩,x.body,x.Gb,x.scope▸s.1,x.scope▸s.2.1,x.scope▸s.2.2,x.glob,x.blt⟩
theorem Frag.in1{dA:Addr}{o:Obj}(h:c.h0.get? dA=some o)(hn:o.cls≠.none):∀a' o',List.lookup a' [(dA,o)]=some o'→c.h0.get? a'=some o'∧o'.cls≠.none:=fun a' o' e=>
 have k:=Frag.in_of (K:=[(dA,o)]) (as:=[dA]) (h:=c.h0) rfl (congrArg (fun x=>[x]) h) a' o' e
 (Nat.decEq a' dA).byCases (fun q=>⟨k,aV (h.symm.trans (q▸k))▸hn⟩) fun q=>cw ((show List.lookup a' [(dA,o)]=none by rw[List.lookup_cons,beq_eq_false_iff_ne.mpr q];rfl).symm.trans e)
noncomputable def lam:Str:=".<locals>."
def Hc(l:List (Addr×Obj))(a:Nat):Option Str:=ej (dS l a) fun o=>ej (Fm o.data) fun fd=>some fd.qualname
def qB(c:Cx)(a:Nat)(code:Option Addr)(l:List (Addr×Obj)):Prop:=∀mJ,code=some mJ→∃q,Hc l a=some q∧q++".<locals>."++"<lambda>"=c.lT mJ
theorem FnAt.cdq(x:FnAt c.h0 a cc (eY st d) fd)(ha:∀o,dS l a=some o→c.h0.get? a=some o)(k6:∀mJ,code=some mJ→mJ=cc)(hq:qB c a code l):∀mJ,code=some mJ→fd.code=.ref mJ∧fd.qualname++".<locals>."++"<lambda>"=c.lT mJ:=fun mJ e=>
 (hq mJ e).elim fun q h=>⟨k6 mJ e▸x.cd,(eP h.1).elim fun o y=>(eP y.2).elim fun fd' z=>x.obj.elim fun o' f=>
  have:fd=fd':=Data.func.inj (f.2.2.symm.trans (aV (f.1.symm.trans (ha _ y.1))▸OS z.1))
  (this▸aV z.2:fd.qualname=q)▸h.2⟩
theorem Fn.pl(e:e6 l a cc=some (eY st .none))(ha:∀o,dS l a=some o→c.h0.get? a=some o)(hc:∀o,dS l cc=some o→c.h0.get? cc=some o)(hs:w7 (j2 st)=true)(hm:Nat.beq (pd st).length m=true)(hb:uU st .none [] m [])(k6:∀mJ,code=some mJ→mJ=cc)(hq:qB c a code l):Fn c a st code [(m,[])]:=
 (AY e ha hc).elim fun fd x=>⟨fd,x.fn hs,x.scope,x.cdq ha k6 hq,fun m' dfl px=>
  have q:=Prod.mk.inj (a_ px)
  ⟨[],q.1▸x.bind (K:=[]) (fun Z Z q=>cw q) hb,q.1▸aY hm,q.2▸.nil⟩⟩
theorem Fn.df(e:e6 l a cc=some (eY st (.ref dA)))(ed:dS l dA=some (gS [V] 0))(ha:∀o,dS l a=some o→c.h0.get? a=some o)(hc:∀o,dS l cc=some o→c.h0.get? cc=some o)(hd:∀o,dS l dA=some o→c.h0.get? dA=some o)(hs:w7 (j2 st)=true)(hm:Nat.beq (pd st).length (m+1)=true)
  (zG:uU st (.ref dA) [(dA,gS [V] 0)] m [V]) (LM:uU st (.ref dA) [(dA,gS [V] 0)] (m+1) []) (hv:cI c.bare [] c.h0 v V):Fn c a st none [(m,[v]),(m+1,[])]:=
 have hK:=Frag.in1 (c:=c) (hd _ ed) (fun q=>nomatch q)
 (AY e ha hc).elim fun fd x=>⟨fd,x.fn hs,x.scope,(fun Z q=>nomatch q),fun m' dfl px=>(List.mem_cons.mp px).elim
  (fun q=>have q:=Prod.mk.inj q;⟨[V],q.1▸x.bind hK zG,q.1▸aY hm,q.2▸.cons hv .nil⟩)
  fun q=>have q:=Prod.mk.inj (a_ q);⟨[],q.1▸x.bind hK LM,q.1▸aY hm,q.2▸.nil⟩⟩
end
def Cu(l:List (Option Value))(i:Nat):Option Value:=match d7 l i with|some v=>v|none=>none
def TU(o:Option Obj):CP:=match o with
 |some ⟨_,dd,.cls cd,sl⟩=>⟨cd.name,cd.qualname,0,cd.bases,cd.slotNames,cd.subclasses,cd.collection,dd,Cu sl.toList 0,Cu sl.toList 1,Cu sl.toList 2,Cu sl.toList 3,Cu sl.toList 5⟩
 |_=>⟨⟨#[]⟩,⟨#[]⟩,0,[],[],[],none,none,none,none,none,none,none⟩
abbrev qJ(l:List (Addr×Obj))(C N:Nat)(bm:List Value)(Kl:String):Prop:=dS l C=some (({TU (dS l C)with N:=N}:CP).mk' C bm true false Kl)
def BH(v:Value)(x:Str):Bool:=oB (Ct v) fun y=>sq y x
theorem adn(v:Value)(x:Str):v.isStr x=BH v x:=@Value.casesOn (fun v=>v.isStr x=BH v x) v rfl rfl rfl (fun Z=>rfl) (fun Z Z=>rfl) (fun Z Z=>rfl) (fun Z Z=>(pe _ _).symm) (fun Z Z=>rfl) (fun Z=>rfl) (fun Z=>rfl) (fun Z=>rfl)
def kM(l:List DictEntry)(x:Str):Option Value:=@List.rec DictEntry (fun Z=>Option Value) none (fun e Z ih=>@Bool.rec (fun Z=>Option Value) ih (some e.val) (BH e.key x)) l
theorem Rn(x:Str):∀l:List DictEntry,(l.find? fun e=>e.key.isStr x).map (·.val)=kM l x
 |[]=>rfl
 |e::l=>by
  have h:kM (e::l) x=@Bool.rec (fun Z=>Option Value) (kM l x) (some e.val) (BH e.key x):=rfl
  rw[h,←Rn x l,List.find?_cons,adn]
  cases BH e.key x<;>rfl
theorem Pr(es:Array DictEntry)(x:Str):nsFind es x=kM es.toList x:=by
 rw[←Rn]
 unfold nsFind findBy
 rw[←Array.find?_toList]
def ajS(e:DictEntry):Bool:=oB (Ct e.key) fun Z=>true
def BI(o:Option Obj):Option (List DictEntry):=ej o fun o=>ej (Fo o.data) fun es=>gd (band (F1 o.cls) (es.toList.all ajS)) (some es.toList)
theorem vt{o:Obj}{L:List DictEntry}(e:BI (some o)=some L):o.cls≠.none∧∀(h:Heap) (N:Addr),h.get? N=some o→h.Ns N (kM L):=
 (eP (o:=Fo o.data) e).elim fun es y=>let g:=gK y.2;let b:=ew g.1;⟨Rk b.1,fun h N hN=>(aa1 y.1).elim fun n z=>⟨o,es,n,hN,z,fun x hx=>(l8 (bh b.2 x (Array.mem_toList_iff.mpr hx))).elim fun s w=>(Qy w.1).elim fun t u=>⟨s,t,u⟩,fun name=>(Pr es name).trans (congrArg (kM · name) (aV g.2))⟩⟩
noncomputable def LN(o:Option Value):Bool:=@Option.casesOn Value (fun Z=>Bool) o true fun Z=>false
theorem aeF{o:Option Value}:LN o=true→o=none:=@Option.casesOn Value (fun o=>LN o=true→o=none) o (fun Z=>rfl) fun Z h=>cF h
def WE(o:Option Value)(a:Nat):Bool:=oB o fun v=>LK v a
theorem aeG{o:Option Value}{a:Nat}(h:WE o a=true):o=some (.ref a):=(l8 h).elim fun Z y=>y.1.trans (congrArg some (RX y.2))
def nU(o:Option Obj)(free:List Str)(refs:List (Str×Nat)):Bool:=oB (BI o) fun L=>band (free.all fun x=>LN (kM L x)) (refs.all fun p=>WE (kM L p.1) p.2)
theorem vw{o:Obj}{free:List Str}{refs:List (Str×Nat)}(h:nU (some o) free refs=true):∃L,BI (some o)=some L∧(∀x∈free,kM L x=none)∧∀x a,(x,a)∈refs→kM L x=some (.ref a):=
 (l8 h).elim fun L y=>let b:=ew y.2;⟨L,y.1,fun x hx=>aeF (bh b.1 x hx),fun x a hx=>aeG (bh b.2 (x,a) hx)⟩
theorem Qz{o:Option Obj}{free:List Str}{refs:List (Str×Nat)}(h:nU o free refs=true):∃o',o=some o':=(l8 h).elim fun Z y=>(eP y.1).elim fun o z=>⟨o,z.1⟩
theorem QA{l:List (Str×Nat)}{x:Str}{a:Addr}(h:qu l x=some a):(x,a)∈l:=by
 induction l with
 |nil=>cases h
 |cons p l ih=>
  unfold qu at h
  split at h
  ·rename_i e
   cases h
   rw[decide_eq_true_eq]at e
   rw[←e];exact bo
  ·exact bk _ (ih h)
section
variable{c:Cx}{l:List (Addr×Obj)}
theorem jF.of{C N:Nat}{ci:CI}{fr:List Str}{mt:List (Str×Nat)}(he:qJ l C N [.type "object"] "object.__new__")(hn:nU (dS l N) fr mt=true)(hC:∀o,dS l C=some o→c.h0.get? C=some o)(hN:∀o,dS l N=some o→c.h0.get? N=some o)
  (wJ:ci=⟨fun x=>ma fr x,fun x=>qu mt x⟩) (hf:∀x a,(x,a)∈mt→∃of,c.h0.get? a=some of∧of.cls=.type "function") (hq:ma fr "__getattribute__"=true∧ma fr "__getattr__"=true∧ma fr "__setattr__"=true):jF c C ci:=by
 subst wJ
 obtain⟨oN,eN⟩:=Qz hn
 rw[eN]at hn
 obtain⟨L,h1,h2,h3⟩:=vw hn
 obtain⟨n1,n2⟩:=vt h1
 exact⟨⟨{TU (dS l C)with N:=N},kM L,oN,hC _ he,n2 _ _ (hN _ eN),hN _ eN,n1,fun x hx=>h2 x (H_ hx),fun x a hx=>⟨h3 x a (QA hx),hf x a (QA hx)⟩⟩,hq⟩
theorem Fn.isFn{a cc:Nat}{st:Option Stmt}{d:Value}(e:e6 l a cc=some (eY st d))(ha:∀o,dS l a=some o→c.h0.get? a=some o)(hc:∀o,dS l cc=some o→c.h0.get? cc=some o):∃of,c.h0.get? a=some of∧of.cls=.type "function":=by
 obtain⟨fd,x⟩:=AY e ha hc
 obtain⟨o,e1,e2,_⟩:=x.obj
 exact⟨o,e1,e2⟩
end
def HN:Option Stmt:=eM PySem.Challenge.pw_xm0194_01.main.body 119
def CZ:Option Stmt:=eM (dM (eM PySem.Challenge.pw_xm0194_01.main.body 2)) 0
noncomputable def Kf(w:World)(p:Str×Tok×Value):DictEntry:=⟨hashStr w p.1,.str p.1 p.2.1,p.2.2⟩
def BJ(w:World)(l:List (Str×Tok×Value))(n:Nat):Obj:={cls:=.type "dict",data:=.dict ⟨l.map (Kf w)⟩ n}
def Hd(l:List (Addr×Obj))(cc P:Nat):Bool:=@Option.casesOn Obj (fun Z=>Bool) (dS l cc) false fun o=>codeHdIn [(cc,o)] cc P
theorem aeH{l:List (Addr×Obj)}{cc P:Nat}{h:Heap}(hb:Hd l cc P=true)(g:∀o,dS l cc=some o→h.get? cc=some o):CodeHd h cc P:=
 @Option.casesOn Obj (fun x=>(∀o,x=some o→h.get? cc=some o)→@Option.casesOn Obj (fun Z=>Bool) x false (fun o=>codeHdIn [(cc,o)] cc P)=true→CodeHd h cc P) (dS l cc) (fun Z e=>cF e)
  (fun o g e=>codeHd_of_K (Frag.in_of (K:=[(cc,o)]) (as:=[cc]) rfl (congrArg (fun x=>[x]) (g o rfl))) e) g hb
def nj(i a:Nat):Bool:=band (Nat.beq (ur a) i) (band (Nat.ble 15 a) (band (Nat.blt a 1118) (match wb [39,1095,1114] a with|true=>false|false=>true)))
structure Known(w:World)(os:OsState)(h:Heap):Prop where
 new:∀i a,nj i a=true→∀o,dS (news w os i) a=some o→h.get? a=some o
 top:h.get? 3=some (o3 w 133)
 dC:h.get? 2=some (o2 w 133)
 c39:h.get? 39=some (mh 133)
 old:∀a,Nat.blt a 2=true∨a=4→h.get? a=some (tE w os a)
section
variable{w:World}{os:OsState}{c:Cx}(K:Known w os c.h0){i a cc m dA:Nat}{st:Option Stmt}{V:Value}{v:J}
include K
theorem f_(e:e6 (news w os i) a cc=some (eY st .none))(ok:band (nj i a) (band (nj i cc) (band (w7 (j2 st)) (Nat.beq (pd st).length m)))=true:=by kernel_rfl)(hb:uU st .none [] m []:=by exact fun Z Z=>by kernel_rfl):Fn c a st none [(m,[])]:=by
 obtain⟨k1,k⟩:=ew ok
 obtain⟨k2,k⟩:=ew k
 obtain⟨k3,k4⟩:=ew k
 exact Fn.pl e (K.new i a k1) (K.new i cc k2) k3 k4 hb (fun Z q=>by cases q) (fun Z q=>by cases q)
theorem WG{code:Addr}{q:Str}(e:e6 (news w os i) a cc=some (eY st .none))(ok:band (nj i a) (band (nj i cc) (band (w7 (j2 st)) (Nat.beq (pd st).length m)))=true)(hb:uU st .none [] m [])(hc:code=cc)(hq:Hc (news w os i) a=some q)(hq2:q++".<locals>."++"<lambda>"=c.lT cc):
  Fn c a st (some code) [(m,[])]:=by
 subst hc
 obtain⟨k1,k⟩:=ew ok
 obtain⟨k2,k⟩:=ew k
 obtain⟨k3,k4⟩:=ew k
 exact Fn.pl e (K.new i a k1) (K.new i _ k2) k3 k4 hb (fun Z q=>by cases q;rfl) (fun Z q=>by cases q;exact⟨_,hq,hq2⟩)
theorem tG(hv:cI c.bare [] c.h0 v V)(e:e6 (news w os i) a cc=some (eY st (.ref dA)))(ed:dS (news w os i) dA=some (gS [V] 0))(ok:band (nj i a) (band (nj i cc) (band (nj i dA) (band (w7 (j2 st)) (Nat.beq (pd st).length (m+1)))))=true:=by kernel_rfl)
  (zG:uU st (.ref dA) [(dA,gS [V] 0)] m [V]:=by exact fun Z Z=>by kernel_rfl) (LM:uU st (.ref dA) [(dA,gS [V] 0)] (m+1) []:=by exact fun Z Z=>by kernel_rfl):Fn c a st none [(m,[v]),(m+1,[])]:=by
 obtain⟨k1,k⟩:=ew ok
 obtain⟨k2,k⟩:=ew k
 obtain⟨k5,k⟩:=ew k
 obtain⟨k3,k4⟩:=ew k
 exact Fn.df e ed (K.new i a k1) (K.new i cc k2) (K.new i dA k5) k3 k4 zG LM hv
theorem n8{d:Value}(e:e6 (news w os i) a cc=some (eY st d))(ok:band (nj i a) (nj i cc)=true:=by kernel_rfl):∃of,c.h0.get? a=some of∧of.cls=.type "function":=
 Fn.isFn e (K.new i a (ew ok).1) (K.new i cc (ew ok).2)
theorem zv{C N:Nat}{ci:CI}{fr:List Str}{mt:List (Str×Nat)}(he:qJ (news w os i) C N [.type "object"] "object.__new__")(hn:nU (dS (news w os i) N) fr mt=true)(ok:band (nj i C) (nj i N)=true)
  (wJ:ci=⟨fun x=>ma fr x,fun x=>qu mt x⟩) (hf:∀p∈mt,∃of,c.h0.get? p.2=some of∧of.cls=.type "function") (hq:band (ma fr "__getattribute__") (band (ma fr "__getattr__") (ma fr "__setattr__"))=true):jF c C ci:=
 jF.of he hn (K.new i C (ew ok).1) (K.new i N (ew ok).2) wJ (fun x a h=>hf (x,a) h) ⟨(ew hq).1,(ew (ew hq).2).1,(ew (ew hq).2).2⟩
theorem pG{Vs:List Value}{l:List J}(e:dS (news w os i) a=some (gS Vs 0))(ok:nj i a=true)(h:dh c.bare [] c.h0 l Vs):cI c.bare [] c.h0 (.tup l) (.ref a):=.tup (K.new i a ok _ e) ⟨bz,bz⟩ h
omit K in
theorem Pt(w:World):∀l:List (Str×Tok×Value),Pairs (strKind c.prog w) (l.map (Kf w)) (l.map fun p=>(p.1,p.2.2))
 |[]=>.nil
 |p::l=>.cons (by show(p.1==p.1)=true;simp) rfl (Pt w l)
theorem TV{L:List (Str×Tok×Value)}{l:List (Str×J)}{n:Nat}(hw:c.w=w)(e:dS (news w os i) a=some (BJ w L n))(ok:nj i a=true)(hs:Nat.beq a sysModules=false)(mH:wX (L.map (·.1))=true)(h:eI c.bare [] c.h0 l (L.map fun p=>(p.1,p.2.2))):cI c.bare [] c.h0 (.fB l) (.ref a):=by
 have ge:=K.new i a ok _ e
 refine .fB (L:=L.map fun p=>(p.1,p.2.2)) ⟨_,_,_,ge,⟨rfl,rfl,rfl⟩,rfl,fun x hx=>?_,?_,?_⟩ (fun q=>by rw[q]at hs;cases hs) ⟨bz,bz⟩ h
 ·have hx:x∈L.map (Kf w):=by simpa using hx
  obtain⟨p,hp,rfl⟩:=List.mem_map.mp hx
  refine⟨p.1,?_,?_⟩
  ·show(p.1==p.1)=true;simp
  ·subst hw;rfl
 ·subst hw;exact Pt _ L
 ·rw[List.map_map]
  exact yN mH
end
section
variable{c:Cx}
theorem Fn.callee{a:Addr}{st:Option Stmt}{code:Option Addr}{ds:List (Nat×List J)}(F:Fn c a st code ds):Callee c a:=by
 obtain⟨fd,hF,_⟩:=F.ex
 obtain⟨o,h1,h2,h3⟩:=hF.obj
 exact⟨o,h1,h2,.inl ⟨fd,h3⟩⟩
theorem jF.callee{C:Addr}{ci:CI}(F:jF c C ci):Callee c C:=by
 obtain⟨p,mN,oN,h,_⟩:=F.ex
 exact⟨_,h,(fun q=>nomatch q),.inr ⟨p,_,_,_,_,rfl⟩⟩
theorem ace{l:List Nat}{x:Nat}(h:wb l x=true):x∈l:=by
 induction l with
 |nil=>cases h
 |cons y l ih=>
  unfold wb at h
  split at h
  ·rename_i q;rw[Nat.eq_of_beq_eq_true q];exact bo
  ·exact bk _ (ih h)
theorem acf{C:Addr}{ci:CI}(h:Jb C=some ci)(h1:jF c 1002 Eg)(h2:jF c 959 DL)(h3:jF c 817 Eh)(h4:jF c 935 DY)(h5:jF c 169 D9)(h6:jF c 108 DZ):jF c C ci:=by
 unfold Jb at h
 split at h
 ·rename_i q;cases h;rw[Nat.eq_of_beq_eq_true q];exact h1
 split at h
 ·rename_i q;cases h;rw[Nat.eq_of_beq_eq_true q];exact h2
 split at h
 ·rename_i q;cases h;rw[Nat.eq_of_beq_eq_true q];exact h3
 split at h
 ·rename_i q;cases h;rw[Nat.eq_of_beq_eq_true q];exact h4
 split at h
 ·rename_i q;cases h;rw[Nat.eq_of_beq_eq_true q];exact h5
 split at h
 ·rename_i q;cases h;rw[Nat.eq_of_beq_eq_true q];exact h6
 ·cases h
theorem acg{a b:Str}(h:sq a b=true):a=b:=of_decide_eq_true ((pe a b).symm.trans h)
theorem Pu{x:Str}{v:J}:∀{l:List (Str×J)},pg l x=some v→(x,v)∈l
 |[],h=>cw h
 |p::l,h=>by
  have h:@Bool.rec (fun Z=>Option J) (pg l x) (some p.2) (sq p.1 x)=some v:=h
  cases q:sq p.1 x with
  |true=>rw[q]at h;cases h;rw[←acg q];exact bo
  |false=>rw[q]at h;exact bk _ (Pu h)
noncomputable def BK:List (Str×J)→List (Str×Nat)
 |[]=>[]
 |(x,v)::l=>(match v with|.dC a=>(x,a)::BK l|_=>BK l)
theorem QB{x:Str}{a:Nat}:∀{l:List (Str×J)},(x,.dC a)∈l→(x,a)∈BK l
 |(y,v)::l,h=>by
  rcases List.mem_cons.mp h with h|h
  ·cases h
   exact bo
  ·have:=QB h
   cases v<;>first|exact bk _ this|exact this
noncomputable def Kg(p:Str×J):Bool:=match p.2 with|.dC _=>false|_=>true
theorem ado{w:World}{m:Str→Option Value}{P:J→Value→Prop}(hs:∀x a,(x,a)∈BK Bi→m x=some (.ref a))(hp:∀a,P (.dC a) (.ref a))(hr:∀p∈Bi.filter Kg,p.2.sW=true∧∃V,m p.1=some V∧P p.2 V){x:Str}{v:J}(h:GL x=some v):v.sW=true∧∃V,m x=some V∧P v V:=by
 have hm:=Pu h
 cases hn:Kg (x,v)with
 |true=>exact hr (x,v) (List.mem_filter.mpr ⟨hm,hn⟩)
 |false=>
  cases v with
  |dC a=>exact⟨rfl,_,hs x a (QB hm),hp a⟩
  |_=>cases hn
noncomputable def QE:List Pos:=[⟨8,8,8,17⟩,⟨8,8,8,26⟩,⟨8,27,8,31⟩,⟨8,33,8,40⟩,⟨8,8,8,41⟩,⟨8,8,8,41⟩,⟨9,8,9,12⟩,⟨9,8,9,20⟩,⟨9,23,9,30⟩,⟨9,8,9,30⟩,⟨10,8,10,12⟩,⟨10,8,10,17⟩,⟨10,20,10,24⟩,⟨10,8,10,24⟩]
noncomputable def QT:List Pos:=[⟨913,15,913,19⟩,⟨913,15,913,21⟩,⟨913,8,913,21⟩,⟨914,11,914,20⟩,⟨914,4,915,41⟩,⟨916,11,916,21⟩,⟨916,4,917,42⟩,⟨918,11,918,20⟩,⟨919,16,919,28⟩,⟨919,30,919,35⟩,⟨919,30,919,40⟩,⟨919,15,919,41⟩,⟨919,8,919,41⟩,⟨918,4,919,41⟩,⟨912,4,919,41⟩]
def pE(k:Nat):Pos:=lg QE k default
def pT(k:Nat):Pos:=lg QT k default
def He(k:Nat):Stmt:=match dM HN with
 |[.Try _ hs _ _ _]=>(match d7 hs k with
  |some (.ExceptHandler _ _ [b] _)=>b
  |_=>.Pass default)
 |_=>.Pass default
theorem aeI:dM CZ=Ew pE:=by kernel_rfl
theorem aeJ:dM HN=O3 pT 0 0 (He 0) (He 1) qr:=by kernel_rfl
noncomputable def ajT(l:List (Str×NameKind)):Bool:=l.all fun x=>match x.2 with|.cell=>false|_=>true
theorem Ro{l:List (Str×NameKind)}(h:ajT l=true):∀x∈l,x.2≠.cell:=fun x hx q=>by
 have:=bh h x hx
 rw[q]at this;cases this
end
section
variable(w:World)(os:OsState)
theorem p0:PK w os 0:=dH
theorem p1:PK w os 1:=dH
theorem p2:PK w os 2∧e6 (news w os 2) 36 35=some (eY CZ (.ref 29))∧dS (news w os 2) 29=some (gS [.int 0 208] 0)∧dS (news w os 2) 38=some (ni w)∧dS (news w os 2) 39=some (mh 3):=⟨dH,by kernel_rfl,by kernel_rfl,by kernel_rfl,by kernel_rfl⟩
theorem p3:PK w os 3∧qJ (news w os 3) 52 51 (.ref 39::tq) "Exception.__new__":=⟨dH,by kernel_rfl⟩
theorem p4:PK w os 4∧qJ (news w os 4) 64 63 (.ref 39::tq) "Exception.__new__"∧nU (dS (news w os 4) 63) ["__init__","__setattr__","message","spot","__getattribute__","__getattr__"] []=true:=⟨dH,by kernel_rfl,by kernel_rfl⟩
theorem p5:PK w os 5∧qJ (news w os 5) 76 75 (.ref 39::tq) "Exception.__new__":=⟨dH,by kernel_rfl⟩
theorem p6:PK w os 6:=dH
theorem p7:PK w os 7:=dH
theorem p8:PK w os 8:=dH
theorem p9:PK w os 9∧e6 (news w os 9) 105 104=some (eY xX (.ref 98))∧dS (news w os 9) 98=some (gS [.bool false] 0)∧qJ (news w os 9) 108 107 [.type "object"] "object.__new__"∧nU (dS (news w os 9) 107) [s4,FT,FU,pB,pC,pD] [(("__init__":Str),105)]=true:=⟨dH,by kernel_rfl,by kernel_rfl,by kernel_rfl,by kernel_rfl⟩
theorem p10:PK w os 10:=dH
theorem p11:PK w os 11:=dH
theorem WH:PK w os 12∧e6 (news w os 12) 133 132=some (eY ye .none):=⟨dH,by kernel_rfl⟩
theorem p13:PK w os 13:=dH
theorem WI:PK w os 14∧e6 (news w os 14) 145 144=some (eY yf .none):=⟨dH,by kernel_rfl⟩
theorem w8:PK w os 15∧e6 (news w os 15) 159 158=some (eY yc .none)∧e6 (news w os 15) 166 165=some (eY xW .none)∧qJ (news w os 15) 169 168 [.type "object"] "object.__new__"∧nU (dS (news w os 15) 168) [um,l_,BB,pB,pC,pD] [(("go_on":Str),166),(("__init__":Str),159)]=true:=⟨dH,by kernel_rfl,by kernel_rfl,by kernel_rfl,by kernel_rfl⟩
theorem WJ:PK w os 16∧e6 (news w os 16) 180 179=some (eY yq .none):=⟨dH,by kernel_rfl⟩
theorem p17:PK w os 17:=dH
theorem p18:PK w os 18:=dH
theorem WK:PK w os 19∧e6 (news w os 19) 194 193=some (eY xv .none):=⟨dH,by kernel_rfl⟩
theorem p20:PK w os 20:=dH
theorem p21:PK w os 21:=dH
theorem WL:PK w os 22∧e6 (news w os 22) 213 212=some (eY yo .none):=⟨dH,by kernel_rfl⟩
theorem p23:PK w os 23:=dH
theorem WM:PK w os 24∧e6 (news w os 24) 227 226=some (eY yp .none):=⟨dH,by kernel_rfl⟩
theorem p25:PK w os 25:=dH
theorem WN:PK w os 26∧dS (news w os 26) 228=some (gS [.str ng 508] 0):=⟨dH,by kernel_rfl⟩
theorem LP:PK w os 27∧dS (news w os 27) 229=some (gS [.str s0 510] 0):=⟨dH,by kernel_rfl⟩
theorem WO:PK w os 28∧dS (news w os 28) 230=some (gS [.str s7 512,.str s7 513] 0):=⟨dH,by kernel_rfl⟩
theorem WQ:PK w os 29∧dS (news w os 29) 231=some (gS [.str s7 515,.str zo 516] 0):=⟨dH,by kernel_rfl⟩
theorem WR:PK w os 30∧dS (news w os 30) 232=some (gS [.str mK 518] 0):=⟨dH,by kernel_rfl⟩
theorem WS:PK w os 31∧dS (news w os 31) 233=some (BJ w [(s0,520,.ref 229),(s7,521,.ref 230),(JL,522,.ref 231),(ng,523,.ref 228)] 4):=Rd (P:=fun w=>PK w os 31∧dS (news w os 31) 233=some (BJ w [(s0,520,.ref 229),(s7,521,.ref 230),(JL,522,.ref 231),(ng,523,.ref 228)] 4)) (fun w b=>by cases b<;>exact⟨dH,by kernel_rfl⟩) w
theorem WT:PK w os 32∧dS (news w os 32) 234=some (gS [.str wa 529,.str ot 530,.str JK 531,.str FR 532,.str mM 533,.str s8 534] 0):=⟨dH,by kernel_rfl⟩
theorem WU:PK w os 33∧e6 (news w os 33) 239 238=some (eY xQ .none):=⟨dH,by kernel_rfl⟩
theorem p34:PK w os 34:=dH
theorem p35:PK w os 35:=dH
theorem WV:PK w os 36∧e6 (news w os 36) 258 257=some (eY x5 .none):=⟨dH,by kernel_rfl⟩
theorem p37:PK w os 37:=dH
theorem WW:PK w os 38∧e6 (news w os 38) 270 269=some (eY yA .none):=⟨dH,by kernel_rfl⟩
theorem WX:PK w os 39∧e6 (news w os 39) 277 276=some (eY xI .none):=⟨dH,by kernel_rfl⟩
theorem WY:PK w os 40∧e6 (news w os 40) 284 283=some (eY yD .none):=⟨dH,by kernel_rfl⟩
theorem WZ:PK w os 41∧e6 (news w os 41) 291 290=some (eY ym .none):=⟨dH,by kernel_rfl⟩
theorem W3:PK w os 42∧e6 (news w os 42) 298 297=some (eY xR .none):=⟨dH,by kernel_rfl⟩
theorem W4:PK w os 43∧e6 (news w os 43) 305 304=some (eY xS .none):=⟨dH,by kernel_rfl⟩
theorem W5:PK w os 44∧e6 (news w os 44) 312 311=some (eY yE .none):=⟨dH,by kernel_rfl⟩
theorem W6:PK w os 45∧e6 (news w os 45) 319 318=some (eY yK .none):=⟨dH,by kernel_rfl⟩
theorem p46:PK w os 46:=dH
theorem W7:PK w os 47∧e6 (news w os 47) 326 325=some (eY xP .none):=⟨dH,by kernel_rfl⟩
theorem p48:PK w os 48:=dH
theorem p49:PK w os 49:=dH
end
section
variable(w:World)(os:OsState)
theorem p50:PK w os 50:=dH
theorem W8:PK w os 51∧e6 (news w os 51) 354 353=some (eY yz .none):=⟨dH,by kernel_rfl⟩
theorem p52:PK w os 52:=dH
theorem W9:PK w os 53∧e6 (news w os 53) 361 360=some (eY yC .none):=⟨dH,by kernel_rfl⟩
theorem p54:PK w os 54:=dH
theorem W_:PK w os 55∧dS (news w os 55) 362=some (gS [.str Cj 713,.str Lj 714,.str Ll 715,.str Lm 716,.str Ln 717,.str Lo 718,.str Lp 719,.str Lq 720,.str Lr 721,.str Ls 722,.str Lu 723,.str Lv 724] 0):=⟨dH,by kernel_rfl⟩
theorem Xa:PK w os 56∧e6 (news w os 56) 369 368=some (eY yx .none):=⟨dH,by kernel_rfl⟩
theorem Xb:PK w os 57∧e6 (news w os 57) 376 375=some (eY xZ .none):=⟨dH,by kernel_rfl⟩
theorem Xc:PK w os 58∧e6 (news w os 58) 381 380=some (eY xH .none):=⟨dH,by kernel_rfl⟩
theorem LQ:PK w os 59∧e6 (news w os 59) 387 386=some (eY yl (.ref 382))∧dS (news w os 59) 382=some (gS [.bool true] 0):=⟨dH,by kernel_rfl,by kernel_rfl⟩
theorem Xd:PK w os 60∧e6 (news w os 60) 392 391=some (eY xx .none):=⟨dH,by kernel_rfl⟩
theorem Xe:PK w os 61∧e6 (news w os 61) 399 398=some (eY yJ .none):=⟨dH,by kernel_rfl⟩
theorem p62:PK w os 62:=dH
theorem Xf:PK w os 63∧dS (news w os 63) 400=some (BJ w [(s7,775,.int 64 776),(JM,777,.int 8 778),(JN,779,.int 16 780),(zo,781,.int 32 782),(JO,783,.int 64 784),(JP,785,.int 64 786),(JQ,787,.int 8 788),(JR,789,.int 16 790),(JS,791,.int 32 792),(JT,793,.int 64 794)] 10):=Rd (P:=fun w=>PK w os 63∧dS (news w os 63) 400=some (BJ w [(s7,775,.int 64 776),(JM,777,.int 8 778),(JN,779,.int 16 780),(zo,781,.int 32 782),(JO,783,.int 64 784),(JP,785,.int 64 786),(JQ,787,.int 8 788),(JR,789,.int 16 790),(JS,791,.int 32 792),(JT,793,.int 64 794)] 10)) (fun w b=>by cases b<;>exact⟨dH,by kernel_rfl⟩) w
theorem p64:PK w os 64:=dH
theorem p65:PK w os 65:=dH
theorem p66:PK w os 66:=dH
theorem p67:PK w os 67:=dH
theorem Xg:PK w os 68∧e6 (news w os 68) 408 407=some (eY x6 .none):=⟨dH,by kernel_rfl⟩
theorem Xh:PK w os 69∧e6 (news w os 69) 415 414=some (eY yB .none):=⟨dH,by kernel_rfl⟩
theorem Xi:PK w os 70∧e6 (news w os 70) 422 421=some (eY x_ .none):=⟨dH,by kernel_rfl⟩
theorem p71:PK w os 71:=dH
theorem Xj:PK w os 72∧e6 (news w os 72) 436 435=some (eY xK .none):=⟨dH,by kernel_rfl⟩
theorem p73:PK w os 73:=dH
theorem p74:PK w os 74:=dH
theorem p75:PK w os 75:=dH
theorem p76:PK w os 76:=dH
theorem p77:PK w os 77:=dH
theorem p78:PK w os 78:=dH
theorem p79:PK w os 79:=dH
theorem p80:PK w os 80:=dH
theorem p81:PK w os 81:=dH
theorem p82:PK w os 82:=dH
theorem Xk:PK w os 83∧e6 (news w os 83) 508 507=some (eY xU .none):=⟨dH,by kernel_rfl⟩
theorem Xl:PK w os 84∧e6 (news w os 84) 515 514=some (eY yn .none):=⟨dH,by kernel_rfl⟩
theorem LU:PK w os 85∧e6 (news w os 85) 523 522=some (eY xJ (.ref 516))∧dS (news w os 85) 516=some (gS [.bool false] 0):=⟨dH,by kernel_rfl,by kernel_rfl⟩
theorem Xm:PK w os 86∧e6 (news w os 86) 530 529=some (eY xq .none):=⟨dH,by kernel_rfl⟩
theorem p87:PK w os 87:=dH
theorem p88:PK w os 88:=dH
theorem p89:PK w os 89:=dH
theorem p90:PK w os 90:=dH
theorem p91:PK w os 91:=dH
theorem p92:PK w os 92:=dH
theorem p93:PK w os 93:=dH
theorem p94:PK w os 94:=dH
theorem p95:PK w os 95:=dH
theorem p96:PK w os 96:=dH
theorem p97:PK w os 97:=dH
theorem p98:PK w os 98:=dH
theorem p99:PK w os 99:=dH
end
section
variable(w:World)(os:OsState)
theorem ajU:PK w os 100:=dH
theorem ajV:PK w os 101:=dH
theorem ajW:PK w os 102:=dH
theorem ajX:PK w os 103:=dH
theorem ajY:PK w os 104:=dH
theorem ajZ:PK w os 105:=dH
theorem zw:PK w os 106∧e6 (news w os 106) 763 762=some (eY yk (.ref 756))∧dS (news w os 106) 756=some (gS [.none] 0)∧qJ (news w os 106) 817 816 [.type "object"] "object.__new__"∧nU (dS (news w os 106) 816) [GS,GU,uJ,pB,pC,pD] [(("__init__":Str),763)]=true:=⟨dH,by kernel_rfl,by kernel_rfl,by kernel_rfl,by kernel_rfl⟩
theorem aj0:PK w os 107:=dH
theorem TX:PK w os 108∧dS (news w os 108) 822=some (gS [.str mL 1447,.str s0 1448] 0):=⟨dH,by kernel_rfl⟩
theorem kZ:PK w os 109∧e6 (news w os 109) 837 836=some (eY xN (.ref 830))∧dS (news w os 109) 830=some (gS [.none] 0)∧e6 (news w os 109) 845 844=some (eY xO (.ref 838))∧dS (news w os 109) 838=some (gS [.none] 0)∧e6 (news w os 109) 853 852=some (eY xG (.ref 846))∧dS (news w os 109) 846=some (gS [.none] 0)∧e6 (news w os 109) 860 859=some (eY xr .none)∧e6 (news w os 109) 874 873=some (eY xC .none)∧e6 (news w os 109) 881 880=some (eY xu .none)∧e6 (news w os 109) 903 902=some (eY xD (.ref 896))∧dS (news w os 109) 896=some (gS [.none] 0)∧qJ (news w os 109) 935 934 [.type "object"] "object.__new__"∧nU (dS (news w os 109) 934) [tv,BA,l_,uH,GV,GW,GX,FH,FI,FJ,FK,FL,uJ,FN,FO,FP,pQ,pB,pC,pD] [(("value_made":Str),860),(("expr":Str),845),(("coerce":Str),874),(("takes_type":Str),881),(("value":Str),853),(("hidden":Str),903),(("__init__":Str),837)]=true:=⟨dH,by kernel_rfl,by kernel_rfl,by kernel_rfl,by kernel_rfl,by kernel_rfl,by kernel_rfl,by kernel_rfl,by kernel_rfl,by kernel_rfl,by kernel_rfl,by kernel_rfl,by kernel_rfl,by kernel_rfl⟩
theorem aj1:PK w os 110:=dH
theorem F2:PK w os 111∧dS (news w os 111) 942=some (gS [.str ot 1623,.ref 940,.ref 941,.bool false] 0)∧dS (news w os 111) 940=some (gS [] 0)∧dS (news w os 111) 941=some (gS [] 0):=⟨dH,by kernel_rfl,by kernel_rfl,by kernel_rfl⟩
theorem BL:PK w os 112∧e6 (news w os 112) 956 955=some (eY xF .none)∧qJ (news w os 112) 959 958 [.type "object"] "object.__new__"∧nU (dS (news w os 112) 958) [tw,r9,pQ,uI,pB,pC,pD] [(("__init__":Str),956)]=true:=⟨dH,by kernel_rfl,by kernel_rfl,by kernel_rfl⟩
theorem TY:PK w os 113∧e6 (news w os 113) 970 969=some (eY yj .none):=⟨dH,by kernel_rfl⟩
theorem uu:PK w os 114∧e6 (news w os 114) 985 984=some (eY yi (.ref 978))∧dS (news w os 114) 978=some (gS [.none] 0)∧e6 (news w os 114) 992 991=some (eY xM .none)∧qJ (news w os 114) 1002 1001 [.type "object"] "object.__new__"∧nU (dS (news w os 114) 1001) [s3,Ck,Gq,Gr,Gs,Gu,Gv,Gw,Gx,uH,Gy,Gz,GA,GB,GC,GD,GF,GH,GI,GJ,pB,pC,pD] [(("base_of":Str),992),(("__init__":Str),985)]=true:=⟨dH,by kernel_rfl,by kernel_rfl,by kernel_rfl,by kernel_rfl,by kernel_rfl⟩
theorem aj2:PK w os 115:=dH
theorem TZ:PK w os 116∧e6 (news w os 116) 1013 1012=some (eY qh .none):=⟨dH,by kernel_rfl⟩
theorem T2:PK w os 117∧e6 (news w os 117) 1020 1019=some (eY qg .none):=⟨dH,by kernel_rfl⟩
theorem T3:PK w os 118∧e6 (news w os 118) 1027 1026=some (eY yG .none):=⟨dH,by kernel_rfl⟩
theorem T4:PK w os 119∧e6 (news w os 119) 1034 1033=some (eY HN .none):=⟨dH,by kernel_rfl⟩
theorem T5:PK w os 120∧e6 (news w os 120) 1041 1040=some (eY yr .none):=⟨dH,by kernel_rfl⟩
theorem T6:PK w os 121∧e6 (news w os 121) 1048 1047=some (eY yH .none):=⟨dH,by kernel_rfl⟩
theorem T7:PK w os 122∧e6 (news w os 122) 1055 1054=some (eY xE .none):=⟨dH,by kernel_rfl⟩
theorem T8:PK w os 123∧e6 (news w os 123) 1062 1061=some (eY xB .none):=⟨dH,by kernel_rfl⟩
theorem T9:PK w os 124∧e6 (news w os 124) 1069 1068=some (eY xY .none):=⟨dH,by kernel_rfl⟩
theorem T_:PK w os 125∧e6 (news w os 125) 1076 1075=some (eY yt .none):=⟨dH,by kernel_rfl⟩
theorem Ua:PK w os 126∧e6 (news w os 126) 1083 1082=some (eY yu .none):=⟨dH,by kernel_rfl⟩
theorem Ub:PK w os 127∧e6 (news w os 127) 1088 1087=some (eY yg .none):=⟨dH,by kernel_rfl⟩
theorem Uc:PK w os 128∧e6 (news w os 128) 1093 1092=some (eY yI .none):=⟨dH,by kernel_rfl⟩
theorem zx:PK w os 129∧e6 (news w os 129) 1098 1097=some (eY yw .none)∧dS (news w os 129) 1095=some (tabObj #[])∧Hd (news w os 129) 1097 1095=true∧Hc (news w os 129) 1098=some J3:=⟨dH,by kernel_rfl,by kernel_rfl,by kernel_rfl,by kernel_rfl⟩
theorem Ud:PK w os 130∧e6 (news w os 130) 1105 1104=some (eY yh .none):=⟨dH,by kernel_rfl⟩
theorem Ue:PK w os 131∧e6 (news w os 131) 1112 1111=some (eY xw .none):=⟨dH,by kernel_rfl⟩
theorem zB:PK w os 132∧e6 (news w os 132) 1117 1116=some (eY hZ .none)∧dS (news w os 132) 1114=some (tabObj #[])∧Hd (news w os 132) 1116 1114=true∧Hc (news w os 132) 1117=some ("law":Str):=⟨dH,by kernel_rfl,by kernel_rfl,by kernel_rfl,by kernel_rfl⟩
end
def wh(cc:Addr):Str:=match Nat.beq cc 1097 with|true=>J3++".<locals>."++"<lambda>"|false=>("law":Str)++".<locals>."++"<lambda>"
section
variable{w:World}{os:OsState}{c:Cx}(K:Known w os c.h0)
include K
theorem Ug:Fn c 105 xX none Dm:=tG K (.bool _) (p9 w os).2.1 (p9 w os).2.2.1
theorem Uh:Fn c 133 ye none Du:=f_ K (WH w os).2
theorem Ui:Fn c 145 yf none Dv:=f_ K (WI w os).2
theorem Uj:Fn c 159 yc none Dt:=f_ K (w8 w os).2.1
theorem Uk:Fn c 166 xW none Dl:=f_ K (w8 w os).2.2.1
theorem Ul:Fn c 180 yq none DH:=f_ K (WJ w os).2
theorem Um:Fn c 194 xv none CY:=f_ K (WK w os).2
theorem Un:Fn c 213 yo none DF:=f_ K (WL w os).2
theorem Uo:Fn c 227 yp none DG:=f_ K (WM w os).2
theorem Up:Fn c 239 xQ none Dh:=f_ K (WU w os).2
theorem Uq:Fn c 258 x5 none Dq:=f_ K (WV w os).2
theorem Ur:Fn c 270 yA none DU:=f_ K (WW w os).2
theorem Us:Fn c 277 xI none C8:=f_ K (WX w os).2
theorem Ut:Fn c 284 yD none D3:=f_ K (WY w os).2
theorem Uu:Fn c 291 ym none DC:=f_ K (WZ w os).2
theorem Uv:Fn c 298 xR none Di:=f_ K (W3 w os).2
theorem Uw:Fn c 305 xS none Dj:=f_ K (W4 w os).2
theorem Ux:Fn c 312 yE none D4:=f_ K (W5 w os).2
theorem Uy:Fn c 319 yK none Ec:=f_ K (W6 w os).2
theorem Uz:Fn c 326 xP none Dg:=f_ K (W7 w os).2
theorem UA:Fn c 354 yz none DR:=f_ K (W8 w os).2
theorem UB:Fn c 361 yC none D0:=f_ K (W9 w os).2
theorem UC:Fn c 369 yx none DQ:=f_ K (Xa w os).2
theorem UD:Fn c 376 xZ none Dp:=f_ K (Xb w os).2
theorem UE:Fn c 381 xH none C7:=f_ K (Xc w os).2
theorem UG:Fn c 387 yl none t4:=tG K (.bool _) (LQ w os).2.1 (LQ w os).2.2
theorem UH:Fn c 392 xx none qX:=f_ K (Xd w os).2
theorem UI:Fn c 399 yJ none Eb:=f_ K (Xe w os).2
theorem UJ:Fn c 408 x6 none Dr:=f_ K (Xg w os).2
theorem UK:Fn c 415 yB none DV:=f_ K (Xh w os).2
theorem UL:Fn c 422 x_ none Ds:=f_ K (Xi w os).2
theorem UM:Fn c 436 xK none C_:=f_ K (Xj w os).2
theorem UN:Fn c 508 xU none Dk:=f_ K (Xk w os).2
theorem UO:Fn c 515 yn none DD:=f_ K (Xl w os).2
theorem UP:Fn c 523 xJ none C9:=tG K (.bool _) (LU w os).2.1 (LU w os).2.2
theorem UQ:Fn c 530 xq none CU:=f_ K (Xm w os).2
theorem UR:Fn c 763 yk none DB:=tG K .none (zw w os).2.1 (zw w os).2.2.1
theorem US:Fn c 837 xN none De:=tG K .none (kZ w os).2.1 (kZ w os).2.2.1
theorem UT:Fn c 845 xO none Df:=tG K .none (kZ w os).2.2.2.1 (kZ w os).2.2.2.2.1
theorem UU:Fn c 853 xG none C6:=tG K .none (kZ w os).2.2.2.2.2.1 (kZ w os).2.2.2.2.2.2.1
theorem UW:Fn c 860 xr none CW:=f_ K (kZ w os).2.2.2.2.2.2.2.1
theorem UX:Fn c 874 xC none C2:=f_ K (kZ w os).2.2.2.2.2.2.2.2.1
theorem UY:Fn c 881 xu none CX:=f_ K (kZ w os).2.2.2.2.2.2.2.2.2.1
theorem UZ:Fn c 903 xD none C3:=tG K .none (kZ w os).2.2.2.2.2.2.2.2.2.2.1 (kZ w os).2.2.2.2.2.2.2.2.2.2.2.1
theorem U0:Fn c 956 xF none C5:=f_ K (BL w os).2.1
theorem U1:Fn c 970 yj none Dz:=f_ K (TY w os).2
theorem U2:Fn c 985 yi none Dy:=tG K .none (uu w os).2.1 (uu w os).2.2.1
theorem U3:Fn c 992 xM none Dc:=f_ K (uu w os).2.2.2.1
theorem Sz:Fn c 1013 qh none HX:=f_ K (TZ w os).2
theorem SA:Fn c 1020 qg none HP:=f_ K (T2 w os).2
theorem SD:Fn c 1027 yG none D_:=f_ K (T3 w os).2
theorem SE:Fn c 1041 yr none DM:=f_ K (T5 w os).2
theorem SG:Fn c 1048 yH none Ea:=f_ K (T6 w os).2
theorem SH:Fn c 1055 xE none C4:=f_ K (T7 w os).2
theorem SI:Fn c 1062 xB none C0:=f_ K (T8 w os).2
theorem SJ:Fn c 1069 xY none Dn:=f_ K (T9 w os).2
theorem SK:Fn c 1076 yt none DN:=f_ K (T_ w os).2
theorem SM:Fn c 1083 yu none DO:=f_ K (Ua w os).2
theorem SN:Fn c 1088 yg none Dw:=f_ K (Ub w os).2
theorem SO:Fn c 1093 yI none qi:=f_ K (Uc w os).2
theorem SP(hq:c.lT=wh):Fn c 1098 yw (some 1097) sG:=WG K (zx w os).2.1 (by kernel_rfl) (fun Z Z=>by kernel_rfl) rfl (zx w os).2.2.2.2 (by rw[hq];rfl)
theorem SQ:Fn c 1105 yh none Dx:=f_ K (Ud w os).2
theorem SS:Fn c 1112 xw none Am:=f_ K (Ue w os).2
theorem SU(hq:c.lT=wh):Fn c 1117 hZ (some 1116) Jf:=WG K (zB w os).2.1 (by kernel_rfl) (fun Z Z=>by kernel_rfl) rfl (zB w os).2.2.2.2 (by rw[hq];rfl)
theorem SW:jF c 1002 Eg:=zv K (uu w os).2.2.2.2.1 (uu w os).2.2.2.2.2 (by kernel_rfl) rfl (aW ⟨n8 K (uu w os).2.2.2.1,(aW ⟨n8 K (uu w os).2.1,(List.forall_mem_nil _)⟩)⟩) (by kernel_rfl)
theorem U4:jF c 959 DL:=zv K (BL w os).2.2.1 (BL w os).2.2.2 (by kernel_rfl) rfl (aW ⟨n8 K (BL w os).2.1,(List.forall_mem_nil _)⟩) (by kernel_rfl)
theorem U5:jF c 817 Eh:=zv K (zw w os).2.2.2.1 (zw w os).2.2.2.2 (by kernel_rfl) rfl (aW ⟨n8 K (zw w os).2.1,(List.forall_mem_nil _)⟩) (by kernel_rfl)
theorem U6:jF c 935 DY:=zv K (kZ w os).2.2.2.2.2.2.2.2.2.2.2.2.1 (kZ w os).2.2.2.2.2.2.2.2.2.2.2.2.2 (by kernel_rfl) rfl (aW ⟨n8 K (kZ w os).2.2.2.2.2.2.2.1,(aW ⟨n8 K (kZ w os).2.2.2.1,(aW ⟨n8 K (kZ w os).2.2.2.2.2.2.2.2.1,(aW ⟨n8 K (kZ w os).2.2.2.2.2.2.2.2.2.1,(aW ⟨n8 K (kZ w os).2.2.2.2.2.1,(aW ⟨n8 K (kZ w os).2.2.2.2.2.2.2.2.2.2.1,(aW ⟨n8 K (kZ w os).2.1,(List.forall_mem_nil _)⟩)⟩)⟩)⟩)⟩)⟩)⟩) (by kernel_rfl)
theorem U7:jF c 169 D9:=zv K (w8 w os).2.2.2.1 (w8 w os).2.2.2.2 (by kernel_rfl) rfl (aW ⟨n8 K (w8 w os).2.2.1,(aW ⟨n8 K (w8 w os).2.1,(List.forall_mem_nil _)⟩)⟩) (by kernel_rfl)
theorem U8:jF c 108 DZ:=zv K (p9 w os).2.2.2.1 (p9 w os).2.2.2.2 (by kernel_rfl) rfl (aW ⟨n8 K (p9 w os).2.1,(List.forall_mem_nil _)⟩) (by kernel_rfl)
theorem aj3(hq:c.lT=wh):vO c:=⟨Ug K,Uh K,Ui K,Uj K,Uk K,Ul K,Um K,Un K,Uo K,Up K,Uq K,Ur K,Us K,Ut K,Uu K,Uv K,Uw K,Ux K,Uy K,Uz K,UA K,UB K,UC K,UD K,UE K,UG K,UH K,UI K,UJ K,UK K,UL K,UM K,UN K,UO K,UP K,UQ K,UR K,US K,UT K,UU K,UW K,UX K,UY K,UZ K,U0 K,U1 K,U2 K,U3 K,Sz K,SA K,SD K,SE K,SG K,SH K,SI K,SJ K,SK K,SM K,SN K,SO K,SP K hq,SQ K,SS K,SU K hq⟩
theorem RY(hT:c.cT=64):∃rX q u kk b1 b2,AS c GL 1034 rX q u kk b1 b2 qr:=by
 obtain⟨fd,x⟩:=AY (h:=c.h0) (T4 w os).2 (K.new 119 1034 (by kernel_rfl)) (K.new 119 1033 (by kernel_rfl))
 have Hf:=K.new 4 64 (by kernel_rfl) _ (p4 w os).2.1
 refine⟨fd,pT,0,0,He 0,He 1,by rw[←aeJ];exact x.fn (by kernel_rfl),?_,?_,?_,?_,?_,?_,fun V=>?_,⟨52,by kernel_rfl,⟨_,_,_,_,K.new 3 52 (by kernel_rfl) _ (p3 w os).2⟩,⟨_,_,by rw[hT];exact Hf,rfl,rfl⟩⟩,
  ⟨76,by kernel_rfl,⟨_,_,_,_,K.new 5 76 (by kernel_rfl) _ (p5 w os).2⟩,⟨_,_,by rw[hT];exact Hf,rfl,rfl⟩⟩,by rw[hT];kernel_rfl⟩
 ·rw[x.scope];exact Ro (by kernel_rfl)
 ·rw[x.scope];kernel_rfl
 ·rw[x.scope];kernel_rfl
 ·rw[x.scope];kernel_rfl
 ·rw[x.scope];kernel_rfl
 ·rw[x.scope];kernel_rfl
 ·rw[Rm fd,x.params,x.dfl,x.kw]
  generalize fd.qualname=q
  kernel_rfl
omit K in
theorem cE(w:World):nU (some (ni w)) ["__setattr__","message","spot","__getattribute__","__getattr__"] [("__init__",36)]=true:=by kernel_rfl
theorem aj4(hT:c.cT=64):∃fI fd p,mY c fI fd p:=by
 obtain⟨fd,x⟩:=AY (h:=c.h0) (p2 w os).2.1 (K.new 2 36 (by kernel_rfl)) (K.new 2 35 (by kernel_rfl))
 have e29:=K.new 2 29 (by kernel_rfl) _ (p2 w os).2.2.1
 have Hf:=K.new 4 64 (by kernel_rfl) _ (p4 w os).2.1
 have LV:=(p4 w os).2.2
 obtain⟨oN,eN⟩:=Qz LV
 rw[eN]at LV
 obtain⟨L,h1,h2,_⟩:=vw LV
 obtain⟨n1,n2⟩:=vt h1
 have hN:=K.new 4 63 (by kernel_rfl) _ eN
 obtain⟨L',wI,Hg,zL⟩:=vw (cE w)
 obtain⟨n1',n2'⟩:=vt wI
 have hP:=K.new 2 38 (by kernel_rfl) _ (p2 w os).2.2.2.1
 have b:oM c fd 3 (pd CZ) []:=x.bind (Frag.in1 (c:=c) e29 (fun q=>nomatch q)) (fun Z Z=>by kernel_rfl)
 rw[show pd CZ=[("self":Str),("message":Str),("spot":Str)]from by kernel_rfl]at b
 obtain⟨o,f1,f2,f3⟩:=x.obj
 have m:=fun(k:Nat) (s:Str) (h:(["__init__","__setattr__","message","spot","__getattribute__","__getattr__"]:List Str)[k]? =some s)=>h2 s (a0 h)
 have m':=fun(k:Nat) (s:Str) (h:(["__setattr__","message","spot","__getattribute__","__getattr__"]:List Str)[k]? =some s)=>Hg s (a0 h)
 have no:∀y:Str,y="__setattr__"∨y="message"∨y="spot"∨y="__getattribute__"∨y="__getattr__"→kM L y=none∧kM L' y=none:=fun y hy=>by
  rcases hy with rfl|rfl|rfl|rfl|rfl
  ·exact⟨m 1 _ rfl,m' 0 _ rfl⟩
  ·exact⟨m 2 _ rfl,m' 1 _ rfl⟩
  ·exact⟨m 3 _ rfl,m' 2 _ rfl⟩
  ·exact⟨m 4 _ rfl,m' 3 _ rfl⟩
  ·exact⟨m 5 _ rfl,m' 4 _ rfl⟩
 refine⟨36,fd,pE,⟨⟨_,39,false,_,_,_,_,kM L,kM L'⟩,oN,_,⟨by rw[hT];exact Hf,n2 _ _ hN,K.c39,n2' _ 38 hP,m 0 _ rfl,zL _ _ (bo),no⟩,hN,n1,(fun q=>nomatch q),hP,n1'⟩,by rw[←aeI];exact x.fn (by kernel_rfl),⟨o,f1,f2⟩,by kernel_rfl,?_,?_,?_,?_,?_,b⟩
 ·rw[x.scope];exact Ro (by kernel_rfl)
 ·rw[x.scope];kernel_rfl
 ·rw[x.scope];kernel_rfl
 ·rw[x.scope];kernel_rfl
 ·rw[x.scope];kernel_rfl
theorem gtb(hq:c.lT=wh)(hT:c.cT=64):qs c TB:=by
 have hc:Callee c 1034:=by
  obtain⟨fd,q,u,kk,b1,b2,x⟩:=RY K hT
  obtain⟨o,h1,h2,h3⟩:=x.fn.obj
  exact⟨o,h1,h2,.inl ⟨fd,h3⟩⟩
 exact⟨fun C ci h=>acf h (SW K) (U4 K) (U5 K) (U6 K) (U7 K) (U8 K),fun a h=>(aW ⟨(Ug K).callee,(aW ⟨(U8 K).callee,(aW ⟨(Uh K).callee,(aW ⟨(Ui K).callee,(aW ⟨(Uj K).callee,(aW ⟨(Uk K).callee,(aW ⟨(U7 K).callee,(aW ⟨(Ul K).callee,(aW ⟨(Um K).callee,(aW ⟨(Un K).callee,(aW ⟨(Uo K).callee,(aW ⟨(Up K).callee,(aW ⟨(Uq K).callee,(aW ⟨(Ur K).callee,(aW ⟨(Us K).callee,(aW ⟨(Ut K).callee,(aW ⟨(Uu K).callee,(aW ⟨(Uv K).callee,(aW ⟨(Uw K).callee,(aW ⟨(Ux K).callee,(aW ⟨(Uy K).callee,(aW ⟨(Uz K).callee,(aW ⟨(UA K).callee,(aW ⟨(UB K).callee,(aW ⟨(UC K).callee,(aW ⟨(UD K).callee,(aW ⟨(UE K).callee,(aW ⟨(UG K).callee,(aW ⟨(UH K).callee,(aW ⟨(UI K).callee,(aW ⟨(UJ K).callee,(aW ⟨(UK K).callee,(aW ⟨(UL K).callee,(aW ⟨(UM K).callee,(aW ⟨(UN K).callee,(aW ⟨(UO K).callee,(aW ⟨(UP K).callee,(aW ⟨(UQ K).callee,(aW ⟨(UR K).callee,(aW ⟨(U5 K).callee,(aW ⟨(US K).callee,(aW ⟨(UT K).callee,(aW ⟨(UU K).callee,(aW ⟨(UW K).callee,(aW ⟨(UX K).callee,(aW ⟨(UY K).callee,(aW ⟨(UZ K).callee,(aW ⟨(U6 K).callee,(aW ⟨(U0 K).callee,(aW ⟨(U4 K).callee,(aW ⟨(U1 K).callee,(aW ⟨(U2 K).callee,(aW ⟨(U3 K).callee,(aW ⟨(SW K).callee,(aW ⟨(Sz K).callee,(aW ⟨(SA K).callee,(aW ⟨(SD K).callee,(aW ⟨hc,(aW ⟨(SE K).callee,(aW ⟨(SG K).callee,(aW ⟨(SH K).callee,(aW ⟨(SI K).callee,(aW ⟨(SJ K).callee,(aW ⟨(SK K).callee,(aW ⟨(SM K).callee,(aW ⟨(SN K).callee,(aW ⟨(SO K).callee,(aW ⟨(SP K hq).callee,(aW ⟨(SQ K).callee,(aW ⟨(SS K).callee,(aW ⟨(SU K hq).callee,(List.forall_mem_nil _)⟩)⟩)⟩)⟩)⟩)⟩)⟩)⟩)⟩)⟩)⟩)⟩)⟩)⟩)⟩)⟩)⟩)⟩)⟩)⟩)⟩)⟩)⟩)⟩)⟩)⟩)⟩)⟩)⟩)⟩)⟩)⟩)⟩)⟩)⟩)⟩)⟩)⟩)⟩)⟩)⟩)⟩)⟩)⟩)⟩)⟩)⟩)⟩)⟩)⟩)⟩)⟩)⟩)⟩)⟩)⟩)⟩)⟩)⟩)⟩)⟩)⟩)⟩)⟩)⟩)⟩)⟩)⟩)⟩)⟩)⟩) a (ace h)⟩
def RF:List (Str×Nat):=[("__builtins__",4),(J0,400),(JZ,362),(JY,232),(JX,234),(J1,942),(JV,229),(JW,233),(JU,822)]
omit K in
theorem gB(w:World):nU (some (o3 w 133)) EU (RF++BK Bi)=true:=by kernel_rfl
omit K in
theorem gI(w:World):(match BI (some (o3 w 133))with|some L=>kM L J2|none=>none)=some (.int 512 806):=by kernel_rfl
omit K in
theorem bB0(w:World)(os:OsState):nU (some (tE w os 0)) [] []=true:=by kernel_rfl
omit K in
theorem bN0(w:World)(os:OsState):EU.map (fun x=>match BI (some (tE w os 0))with|some L=>kM L x|none=>none)=EU.map bootBuiltins:=by kernel_rfl
omit K in
theorem af4:Bi.filter Kg=[(J0,AU),(JZ,Iv),(J2,DK),(JY,zc),(JX,H2),(J1,yV),(JV,Iu),(JW,HH),(JU,HJ)]:=by kernel_rfl
theorem aeK(hw:c.w=w):Facts c GL qG:=by
 obtain⟨L,h1,h2,h3⟩:=vw (gB w)
 obtain⟨n1,n2⟩:=vt h1
 have gi:=gI w
 rw[h1]at gi
 obtain⟨L0,b1,_,_⟩:=vw (bB0 w os)
 obtain⟨b2,b3⟩:=vt b1
 have bn:=bN0 w os
 rw[b1]at bn
 have bn:=List.map_inj_left.mp bn
 refine⟨⟨_,kM L,K.top,n1,n2 _ _ K.top,fun x v h=>ado (w:=w) (P:=fun v V=>cI c.bare [] c.h0 v V) (m:=kM L) (fun x a h=>h3 x a (List.mem_append_right _ h)) (fun a=>.dC a) ?_ h,fun x hx=>h2 x (H_ hx)⟩,
  ⟨_,kM L0,K.old 0 (.inl rfl),b2,b3 _ _ (K.old 0 (.inl rfl)),fun x hx=>bn x (H_ hx)⟩,⟨kM _,⟨_,_,_,K.dC,rfl,fun e he=>?_,fun name=>Pr _ name⟩,by kernel_rfl⟩,⟨_,K.old 1 (.inl rfl)⟩⟩
 ·rw[af4]
  exact(aW ⟨⟨by kernel_rfl,_,h3 _ 400 (List.mem_append_left _ (a0 (i:=1) rfl)),(TV K hw (Xf w os).2 (by kernel_rfl) (by kernel_rfl) (by kernel_rfl) (.cons (.int _ _) (.cons (.int _ _) (.cons (.int _ _) (.cons (.int _ _) (.cons (.int _ _) (.cons (.int _ _) (.cons (.int _ _) (.cons (.int _ _) (.cons (.int _ _) (.cons (.int _ _) .nil)))))))))))⟩,(aW ⟨⟨by kernel_rfl,_,h3 _ 362 (List.mem_append_left _ (a0 (i:=2) rfl)),(pG K (W_ w os).2 (by kernel_rfl) (.cons (.str _ _) (.cons (.str _ _) (.cons (.str _ _) (.cons (.str _ _) (.cons (.str _ _) (.cons (.str _ _) (.cons (.str _ _) (.cons (.str _ _) (.cons (.str _ _) (.cons (.str _ _) (.cons (.str _ _) (.cons (.str _ _) .nil)))))))))))))⟩,(aW ⟨⟨rfl,_,gi,.int _ _⟩,(aW ⟨⟨by kernel_rfl,_,h3 _ 232 (List.mem_append_left _ (a0 (i:=3) rfl)),(pG K (WR w os).2 (by kernel_rfl) (.cons (.str _ _) .nil))⟩,(aW ⟨⟨by kernel_rfl,_,h3 _ 234 (List.mem_append_left _ (a0 (i:=4) rfl)),(pG K (WT w os).2 (by kernel_rfl) (.cons (.str _ _) (.cons (.str _ _) (.cons (.str _ _) (.cons (.str _ _) (.cons (.str _ _) (.cons (.str _ _) .nil)))))))⟩,(aW ⟨⟨by kernel_rfl,_,h3 _ 942 (List.mem_append_left _ (a0 (i:=5) rfl)),(pG K (F2 w os).2.1 (by kernel_rfl) (.cons (.str _ _) (.cons (pG K (F2 w os).2.2.1 (by kernel_rfl) .nil) (.cons (pG K (F2 w os).2.2.2 (by kernel_rfl) .nil) (.cons (.bool _) .nil)))))⟩,(aW ⟨⟨by kernel_rfl,_,h3 _ 229 (List.mem_append_left _ (a0 (i:=6) rfl)),(pG K (LP w os).2 (by kernel_rfl) (.cons (.str _ _) .nil))⟩,(aW ⟨⟨by kernel_rfl,_,h3 _ 233 (List.mem_append_left _ (a0 (i:=7) rfl)),(TV K hw (WS w os).2 (by kernel_rfl) (by kernel_rfl) (by kernel_rfl) (.cons (pG K (LP w os).2 (by kernel_rfl) (.cons (.str _ _) .nil)) (.cons (pG K (WO w os).2 (by kernel_rfl) (.cons (.str _ _) (.cons (.str _ _) .nil))) (.cons (pG K (WQ w os).2 (by kernel_rfl) (.cons (.str _ _) (.cons (.str _ _) .nil))) (.cons (pG K (WN w os).2 (by kernel_rfl) (.cons (.str _ _) .nil)) .nil)))))⟩,(aW ⟨⟨by kernel_rfl,_,h3 _ 822 (List.mem_append_left _ (a0 (i:=8) rfl)),(pG K (TX w os).2 (by kernel_rfl) (.cons (.str _ _) (.cons (.str _ _) .nil)))⟩,(List.forall_mem_nil _)⟩)⟩)⟩)⟩)⟩)⟩)⟩)⟩)⟩)
 ·simp only[Array.mem_def,List.mem_cons,List.not_mem_nil,or_false]at he
  rcases he with rfl|rfl<;>exact⟨_,_,rfl⟩
theorem aj5:Bv c:=by
 obtain⟨L,h1,h2,h3⟩:=vw (gB w)
 obtain⟨n1,n2⟩:=vt h1
 exact⟨_,kM L,4,_,K.top,n1,n2 _ _ K.top,h3 _ 4 (List.mem_append_left _ bo),by decide,by decide,K.old 4 (.inr rfl),by kernel_rfl,by kernel_rfl,by kernel_rfl⟩
theorem aj6(hn:c.dE=e8)(hq:c.lT=wh)(hT:c.cT=64)(hw:c.w=w):Ctx c:=⟨hn,hT,gtb K hq hT,aeK K hw,aj5 K,aj4 K hT,RY K hT⟩
end
section
variable{w:World}{os:OsState}(P:∀w os i,i<133→PK w os i)(kN:∀w os,dS (news w os 2) 38=some (ni w))(jW:∀w os,dS (news w os 2) 39=some (mh 3))
include P kN jW
theorem EY{a:Addr}(ha:a<1118):(HW w os).get? a=some (rI w os a):=by
 obtain⟨s,R⟩:=WC (P w os) (kN w os) (jW w os)
 rw[←R.heap (P w os)]
 exact R.at (P w os) ha
end
theorem ach{l:List (Addr×Obj)}{a:Addr}{o:Obj}(h:dS l a=some o):(a,o)∈l:=by
 induction l with
 |nil=>cases h
 |cons p l ih=>
  rw[n3]at h
  split at h
  ·rename_i e;cases h;rw[←e];exact bo
  ·exact bk _ (ih h)
theorem yX{o:Obj}(h:te o=true):o.cls≠.type "list":=fun q=>by
 unfold te at h
 rw[q]at h
 simp at h
theorem aci{w:World}{os:OsState}{i a:Nat}{o:Obj}(ok:nj i a=true)(h:dS (news w os i) a=some o):rI w os a=o∧a<1118∧a∉[1095,1114]∧a≠39:=by
 obtain⟨k1,k⟩:=ew ok
 obtain⟨k2,k⟩:=ew k
 obtain⟨k3,k4⟩:=ew k
 have k1:=aY k1
 have k2:=bw k2
 have k3:a<1118:=by rw[Nat.blt_eq]at k3;exact k3
 have k5:a∉[39,1095,1114]:=fun hm=>by
  have:wb [39,1095,1114] a=true:=by
   simp only[List.mem_cons,List.not_mem_nil,or_false]at hm
   rcases hm with rfl|rfl|rfl<;>rfl
  rw[this]at k4;cases k4
 have Hh:a≠39:=fun q=>k5 (by rw[q];simp)
 refine⟨?_,k3,fun hm=>k5 (bk _ hm),Hh⟩
 unfold rI
 simp only[BT.beq_eq]
 have b:Nat.blt a 15=false:=by
  cases q:Nat.blt a 15 with
  |false=>rfl
  |true=>rw[Nat.blt_eq]at q;omega
 have e3:a≠3:=by omega
 have LW:a≠12:=by omega
 have e2:a≠2:=by omega
 simp only[e3,LW,e2,Hh,decide_false,b,k1,h]
 rfl
noncomputable def zS(h:Heap)(ad:Addr):Heap:=hideAll h [1095,1114,ad]
section
variable{w:World}{os:OsState}(P:∀w os i,i<133→PK w os i)(kN:∀w os,dS (news w os 2) 38=some (ni w))(jW:∀w os,dS (news w os 2) 39=some (mh 3))
include P kN jW
theorem known{h:Heap}{ad:Addr}{l:Obj}(Y:∀b o,(HW w os).get? b=some o→h.get? b=some o)(hl:h.get? ad=some l)(hc:l.cls=.type "list"):Known w os (zS h ad):=by
 have G:=fun{a:Addr} (ha:a<1118)=>Y a _ (EY (w:=w) (os:=os) P kN jW ha)
 have key:∀{a:Addr} {o:Obj},h.get? a=some o→a∉[1095,1114]→o.cls≠.type "list"→(zS h ad).get? a=some o:=fun{a o} e n c=>hideAll_get _ e fun q=>by
  have:a=ad:=by
   simp only[List.mem_cons,List.not_mem_nil,or_false]at q n
   rcases q with q|q|q
   ·exact absurd (.inl q) n
   ·exact absurd (.inr q) n
   ·exact q
  subst this
  rw[hl]at e;cases e
  exact c hc
 refine⟨fun i a ok o e=>?_,?_,?_,?_,fun a ha=>?_⟩
 ·obtain⟨k1,k2,k3,k4⟩:=aci ok e
  have:=G k2
  rw[k1]at this
  have hi:i<133:=by
   cases Nat.lt_or_ge i 133 with
   |inl h=>exact h
   |inr om=>
    exfalso
    have:=ew ok
    have q:=aY this.1
    have hp:=Ie Qx (bw (ew this.2).1) (by omega)
    unfold F0 at hp
    rw[Bool.and_eq_true,Bool.and_eq_true,Nat.blt_eq]at hp
    omega
  exact key this k3 (yX (bh (P w os i hi).nol (a,o) (ach e)))
 ·exact key (G (a:=3) (by decide)) (by decide) (yX (by show te (o3 w 133)=true;kernel_rfl))
 ·exact key (G (a:=2) (by decide)) (by decide) (fun q=>by cases q)
 ·exact key (G (a:=39) (by decide)) (by decide) (yX (by show te (mh 133)=true;kernel_rfl))
 ·have:a=0∨a=1∨a=4:=by rw[Nat.blt_eq]at ha;omega
  rcases this with rfl|rfl|rfl
  ·exact key (G (a:=0) (by decide)) (by decide) (yX (by show te (tE w os 0)=true;kernel_rfl))
  ·exact key (G (a:=1) (by decide)) (by decide) (yX (by show te (tE w os 1)=true;kernel_rfl))
  ·exact key (G (a:=4) (by decide)) (by decide) (yX (by show te (tE w os 4)=true;kernel_rfl))
end
theorem items_int{R:WRecords}:∀{xs:List WData},WShape.hasItems R xs .int=true→∃l:List Int,xs=l.map .int
 |[],_=>⟨[],rfl⟩
 |d::xs,h=>by
  have h':WShape.has R d .int=true∧WShape.hasItems R xs .int=true:=by simpa [WShape.hasItems]using h
  obtain⟨i,rfl⟩:=hasW_int h'.1
  obtain⟨l,rfl⟩:=items_int h'.2
  exact⟨i::l,rfl⟩
theorem Pw{W:Params}{h:Heap}{c:Cx}{ρ:List Addr}:∀{l:List Int} {vs:List Value},WellAll W h vs (l.map .int)→dh c ρ h (l.map .int) vs
 |[],_,.nil=>.nil
 |i::l,_,.cons (.int _ t) r=>.cons (.int i t) (Pw r)
theorem adp{args:List WData}(h:LL.row.toRowW.claim.pre args=true):∃l:List Int,args=[.list (l.map .int)]∧l.length≤63:=by
 obtain⟨h1,h2⟩:=pre_splitW h
 obtain⟨d,r,rfl,h3,h4⟩:=hasAllW_cons h1
 obtain rfl:=hasAllW_nil h4
 obtain⟨xs,rfl,h5⟩:=hasW_list h3
 obtain⟨l,rfl⟩:=items_int h5
 refine⟨l,rfl,?_⟩
 by_cases q:l.length≤63
 ·exact q
 ·exfalso
  have h2:WTm.holds LL.row.toRowW.records (.and (.not (.lt (.lit (.int 63)) (.len (.arg 0)))) (.lit (.bool true))) {args:=[.list (l.map .int)]}=true:=h2
  have:(63:Int)<(l.length:Int):=by omega
  have hl:W.less? (.int 63) (.int (l.length:Int))=some (decide ((63:Int)<(l.length:Int))):=rfl
  simp[WTm.holds,WTm.value,hl,this]at h2
theorem af5{h:Heap}{a:Addr}{m m':Str→Option Value}(x:h.Ns a m)(y:h.Ns a m')(n:Str):m n=m' n:=by
 obtain⟨o,es,ep,h1,h2,_,h3⟩:=x
 obtain⟨o',uz,zC,wI,Hg,_,zL⟩:=y
 rw[h1]at wI;cases wI
 rw[h2]at Hg;cases Hg
 rw[←h3,zL]
theorem aeL(w:World):nU (some (o3 w 133)) [] [("law",1117)]=true:=by kernel_rfl
theorem Rp{w:World}{os:OsState}{i a:Nat}{o:Obj}(h:dS (news w os i) a=some o)(q:band (Nat.beq (ur a) i) (band (Nat.ble 15 a) (match wb [39] a with|true=>false|false=>true))=true):rI w os a=o:=by
 obtain⟨k1,k⟩:=ew q
 obtain⟨k2,k4⟩:=ew k
 have k1:=aY k1
 have k2:=bw k2
 have Hh:a≠39:=fun q=>by subst q;cases k4
 unfold rI
 simp only[BT.beq_eq]
 have b:Nat.blt a 15=false:=by
  cases q:Nat.blt a 15 with
  |false=>rfl
  |true=>rw[Nat.blt_eq]at q;omega
 have e3:a≠3:=by omega
 have LW:a≠12:=by omega
 have e2:a≠2:=by omega
 simp only[e3,LW,e2,Hh,decide_false,b,k1,h]
 rfl
theorem adq(w:World)(os:OsState):rI w os 1095=tabObj #[]:=Rp (zx w os).2.2.1 (by kernel_rfl)
theorem ads(w:World)(os:OsState):rI w os 1114=tabObj #[]:=Rp (zB w os).2.2.1 (by kernel_rfl)
theorem Hi{w:World}{os:OsState}{h:Heap}(K:Known w os h){i cc P:Nat}(okc:nj i cc=true)(hb:Hd (news w os i) cc P=true):CodeHd h cc P:=aeH hb fun o e=>K.new i cc okc o e
theorem U9{c:Cx}{ρ:List Addr}{h:Heap}{a cc:Addr}(hd:CodeHd c.h0 cc a)(e:h.get? a=some (tabObj #[])):eQ c ρ h a (.tab cc []):=
 ⟨hd,#[],e,trivial,fun pos=>⟨fun Z=>rfl,fun q=>nomatch q⟩⟩
section
variable{w:World}{os:OsState}(P:∀w os i,i<133→PK w os i)(kN:∀w os,dS (news w os 2) 38=some (ni w))(jW:∀w os,dS (news w os 2) 39=some (mh 3))
theorem acj(c:Cx)(hn:c.dE=e8)(hq:c.lT=wh)(hT:c.cT=64)(hw:c.w=w)(K:Known w os c.h0)(E:Each){s:Shared}{ad:Addr}(sr:SR c [1095,1114,ad] [.tab 1097 [],.tab 1116 [],.lu] s){Q:Value→Shared→Prop}{R:Value→Shared→Prop}
  (hQ:∀s',(∀b o,s.heap.get? b=some o→∃o',s'.heap.get? b=some o')→s'.gens=#[]→s'.os=c.os→Old c.h0 s'.heap→(∃ps,s'.heap.get? 1095=some (tabObj ps))→(∃ps,s'.heap.get? 1114=some (tabObj ps))→s'.heap.get? ad=some c.lu→Q (.bool true) s'):
  wpAny (model c.prog c.w) callerA (call (.ref 1117) [.ref ad]) Q R s:=by
 have H:∀φ,Ctx (c.hide φ):=fun φ=>aj6 (c:=c.hide φ) K hn hq hT hw
 have F:∀φ,vO (c.hide φ):=fun φ=>aj3 (c:=c.hide φ) K hq
 obtain⟨fd,hF,m9,hcode,Lx⟩:=(F c.d9).afG.ex
 obtain⟨dV,h1,h2,h3⟩:=Lx 1 [] (List.mem_singleton.mpr rfl)
 have hB:=adO
 unfold fp at hB
 rw[Bool.and_eq_true,Bool.and_eq_true,Bool.and_eq_true,Bool.and_eq_true,Bool.and_eq_true,decide_eq_true_eq]at hB
 obtain⟨⟨⟨⟨⟨b1,b2⟩,b3⟩,b4⟩,b5⟩,b6⟩:=hB
 have uE:ix.cn=jE (j2 hZ).names:=b1
 have hr:g0 callerA (62+1):=⟨rfl,by decide,by decide⟩
 refine PN (c:=c) (g:=ix) (n:=62) (w:=5) (nc:=9) (m:=1) (ps:=[(false,0)]) (dfl:=[]) (args:=[.loc 2]) (σ₁:=S0) hF (H c.d9).Fa.nolimit m9.symm hcode (by rw[m9];exact b1) (by rw[m9,←uE];exact yN b2) (by rw[m9,←uE];exact aY b3) (by rw[hn];exact aY b4)
  h1 h2 (Ej (by rw[hn];exact b5)) (bh b6 (1,[]) (List.mem_singleton.mpr rfl)) h3 hr ⟨[],rfl,fun Z q=>nomatch q⟩ sr (.cons (.loc rfl) .nil) rfl (by rfl) fun h_ cW cD e1 cY he=>?_
 refine Mine.G0 H F E (callerA.deeper h_) h_ cW cD (hr.deeper h_) he cY _ _ fun s' e2 g o old tb sc=>?_
 have live:∀b o,s.heap.get? b=some o→∃o',s'.heap.get? b=some o':=fun b o q=>by
  obtain⟨o1,q1,_⟩:=e1.live b o q
  obtain⟨o2,q2,_⟩:=e2.live b o1 q1
  exact⟨o2,q2⟩
 exact hQ s' live g o old (tb 0 1095 (by decide) (e1.get rfl)) (tb 1 1114 (by decide) (e1.get rfl)) (sc ad (e1.get rfl))
include P kN jW
theorem walk(E:Each)(d:DefRec)(kwd:List (Str×Expr))(hd:EX=some (d,kwd)):WalkO q0 y8 (fun Z Z=>True) LJ LL.row.toRowW d kwd (fun f vs=>call f vs):=by
 intro w apD cD mg mb G Y a o pm cd doc dV kV h1 h2 h3 h4 h5 hg args vals as wc apE hrd af6 apF
 have pN:d.name=("law":Str):=(defOf_name hd).trans rfl
 have g3:cD.heap.get? 3=some (o3 w 133):=Y 3 _ (EY P kN jW (a:=3) (by decide))
 obtain⟨L,l1,_,l3⟩:=vw (aeL w)
 have ha:a=1117:=by
  have:=af5 G.T.g ((vt l1).2 cD.heap 3 g3) ("law":Str)
  rw[←pN,h5,pN,l3 _ 1117 List.mem_cons_self]at this
  cases this;rfl
 subst ha
 obtain⟨l,rfl,hlen⟩:=adp wc
 cases af6 with
 |cons r1 r2=>
 cases r2
 cases r1 with
 |@list ad vl _ e1 wl=>
 have K:=known P kN jW (w:=w) (os:=kz w) Y e1 rfl
 have gt:cD.heap.get? 1095=some (tabObj #[]):=Y 1095 _ ((EY P kN jW (a:=1095) (by decide)).trans (congrArg some (adq w (kz w))))
 have LX:cD.heap.get? 1114=some (tabObj #[]):=Y 1114 _ ((EY P kN jW (a:=1114) (by decide)).trans (congrArg some (ads w (kz w))))
 have n1:ad≠1095:=fun q=>by rw[q,gt]at e1;cases e1
 have n2:ad≠1114:=fun q=>by rw[q,LX]at e1;cases e1
 have d9:∀{b:Addr},b∉[1095,1114,ad]→∀o,cD.heap.get? b=some o→(zS cD.heap ad).get? b=some o:=fun n o e=>hideAll_get _ e n
 have back:∀{b:Addr} {o:Obj},(zS cD.heap ad).get? b=some o→cD.heap.get? b=some o:=fun e=>of_hideAll _ e
 have aj7:Old (zS cD.heap ad) cD.heap:=⟨OldK.of_keep fun b o e=>back e,fun o e=>back e⟩
 have sr:SR {prog:=LL.row.toRowW.prog,w:=w,h0:=zS cD.heap ad,os:=cD.os,dE:=e8,cT:=64,lT:=wh,lu:=gm vl 0} [1095,1114,ad] [.tab 1097 [],.tab 1116 [],.lu] cD:=by
  refine⟨hg,rfl,rfl,?_,fun b hb=>hideAll_none _ hb,aj7,fun Z q=>(nomatch q),fun i b mo g1 g2=>?_⟩
  ·refine List.nodup_cons.mpr ⟨?_,List.nodup_cons.mpr ⟨?_,List.nodup_cons.mpr ⟨bz,List.nodup_nil⟩⟩⟩
   ·simp only[List.mem_cons,List.not_mem_nil,or_false]
    exact fun q=>q.elim (fun q=>by cases q) fun q=>n1 q.symm
   ·simp only[List.mem_cons,List.not_mem_nil,or_false]
    exact fun q=>n2 q.symm
  ·match i,g1,g2 with
   |0,g1,g2=>
    cases g1;cases g2
    exact U9 (Hi K (okc:=by kernel_rfl) (zx w (kz w)).2.2.2.1) gt
   |1,g1,g2=>
    cases g1;cases g2
    exact U9 (Hi K (okc:=by kernel_rfl) (zB w (kz w)).2.2.2.1) LX
   |2,g1,g2=>
    cases g1;cases g2
    exact⟨e1,l,vl,0,rfl,Pw wl,hlen⟩
   |i+3,g1,g2=>cases g1
 refine acj (w:=w) (os:=kz w) _ rfl rfl rfl rfl K E sr fun s' live g o old t1 t2 sc=>?_
 refine⟨.inl ⟨_,.bool true,[],rfl,fun cls=>rfl,.bool true,postW_of (r:=LL.row.toRowW) (d:=.bool true) (X:=true) (by kernel_rfl) (by kernel_rfl) rfl,fun Z=>⟨List.nodup_nil,fun Z q=>nomatch q⟩⟩,⟨fun b ob e=>?_,live⟩,o,.of_eq g⟩
 by_cases hb:b∈[1095,1114,ad]
 ·simp only[List.mem_cons,List.not_mem_nil,or_false]at hb
  rcases hb with rfl|rfl|rfl
  ·rw[gt]at e;cases e
   obtain⟨ps,t1⟩:=t1
   refine .inr (.inl ⟨?_,rfl,#[],ps,rfl,by rw[t1];simp⟩)
   obtain⟨oc,vs,_,_,_,_,_,_,_,c1,c2,c3,c4,_⟩:=(Hi K (okc:=by kernel_rfl) (zx w (kz w)).2.2.2.1:CodeHd _ 1097 1095)
   exact⟨1097,oc,vs,back c1,c2,c3,c4⟩
  ·rw[LX]at e;cases e
   obtain⟨ps,t2⟩:=t2
   refine .inr (.inl ⟨?_,rfl,#[],ps,rfl,by rw[t2];simp⟩)
   obtain⟨oc,vs,_,_,_,_,_,_,_,c1,c2,c3,c4,_⟩:=(Hi K (okc:=by kernel_rfl) (zB w (kz w)).2.2.2.1:CodeHd _ 1116 1114)
   exact⟨1116,oc,vs,back c1,c2,c3,c4⟩
  ·rw[e1]at e;cases e
   exact .inl sc
 ·have e':=d9 hb ob e
  rcases old.old b ob e' with q|⟨⟨cc,oc,vs,c1,c2,c3⟩,q⟩|⟨rfl,_⟩
  ·exact .inl q
  ·exact .inr (.inl ⟨⟨cc,oc,vs,back c1,c2,c3⟩,q⟩)
  ·exact .inl (old.sW ob e')
end
theorem below{P:Nat→Prop}{n:Nat}(h:∀i,i<n→P i)(hn:P n):∀i,i<n+1→P i:=fun i hi=>(Nat.lt_succ_iff_lt_or_eq.mp hi).elim (h i) fun q=>q▸hn
theorem af7{P:Nat→Prop}:∀i,i<0→P i:=fun i h=>absurd h (Nat.not_lt_zero i)
theorem af8(w:World)(os:OsState):∀i,i<45→PK w os i:=(below (below (below (below (below (below (below (below (below (below (below (below (below (below (below (below (below (below (below (below (below (below (below (below (below (below (below (below (below (below (below (below (below (below (below (below (below (below (below (below (below (below (below (below (below af7 (p0 w os)) (p1 w os)) (p2 w os).1) (p3 w os).1) (p4 w os).1) (p5 w os).1) (p6 w os)) (p7 w os)) (p8 w os)) (p9 w os).1) (p10 w os)) (p11 w os)) (WH w os).1) (p13 w os)) (WI w os).1) (w8 w os).1) (WJ w os).1) (p17 w os)) (p18 w os)) (WK w os).1) (p20 w os)) (p21 w os)) (WL w os).1) (p23 w os)) (WM w os).1) (p25 w os)) (WN w os).1) (LP w os).1) (WO w os).1) (WQ w os).1) (WR w os).1) (WS w os).1) (WT w os).1) (WU w os).1) (p34 w os)) (p35 w os)) (WV w os).1) (p37 w os)) (WW w os).1) (WX w os).1) (WY w os).1) (WZ w os).1) (W3 w os).1) (W4 w os).1) (W5 w os).1)
theorem af9(w:World)(os:OsState):∀i,i<90→PK w os i:=(below (below (below (below (below (below (below (below (below (below (below (below (below (below (below (below (below (below (below (below (below (below (below (below (below (below (below (below (below (below (below (below (below (below (below (below (below (below (below (below (below (below (below (below (below (af8 w os) (W6 w os).1) (p46 w os)) (W7 w os).1) (p48 w os)) (p49 w os)) (p50 w os)) (W8 w os).1) (p52 w os)) (W9 w os).1) (p54 w os)) (W_ w os).1) (Xa w os).1) (Xb w os).1) (Xc w os).1) (LQ w os).1) (Xd w os).1) (Xe w os).1) (p62 w os)) (Xf w os).1) (p64 w os)) (p65 w os)) (p66 w os)) (p67 w os)) (Xg w os).1) (Xh w os).1) (Xi w os).1) (p71 w os)) (Xj w os).1) (p73 w os)) (p74 w os)) (p75 w os)) (p76 w os)) (p77 w os)) (p78 w os)) (p79 w os)) (p80 w os)) (p81 w os)) (p82 w os)) (Xk w os).1) (Xl w os).1) (LU w os).1) (Xm w os).1) (p87 w os)) (p88 w os)) (p89 w os))
theorem SX(w:World)(os:OsState):∀i,i<133→PK w os i:=(below (below (below (below (below (below (below (below (below (below (below (below (below (below (below (below (below (below (below (below (below (below (below (below (below (below (below (below (below (below (below (below (below (below (below (below (below (below (below (below (below (below (below (af9 w os) (p90 w os)) (p91 w os)) (p92 w os)) (p93 w os)) (p94 w os)) (p95 w os)) (p96 w os)) (p97 w os)) (p98 w os)) (p99 w os)) (ajU w os)) (ajV w os)) (ajW w os)) (ajX w os)) (ajY w os)) (ajZ w os)) (zw w os).1) (aj0 w os)) (TX w os).1) (kZ w os).1) (aj1 w os)) (F2 w os).1) (BL w os).1) (TY w os).1) (uu w os).1) (aj2 w os)) (TZ w os).1) (T2 w os).1) (T3 w os).1) (T4 w os).1) (T5 w os).1) (T6 w os).1) (T7 w os).1) (T8 w os).1) (T9 w os).1) (T_ w os).1) (Ua w os).1) (Ub w os).1) (Uc w os).1) (zx w os).1) (Ud w os).1) (Ue w os).1) (zB w os).1)
theorem proved:LL.Holds:=adl (fun w os=>SX w os) (fun w os=>(p2 w os).2.2.2.1) (fun w os=>(p2 w os).2.2.2.2) acd (walk (fun w os=>SX w os) (fun w os=>(p2 w os).2.2.2.1) (fun w os=>(p2 w os).2.2.2.2) each)
end
end Mine
theorem PySem.Challenge.cw_xm0194_01_holds : PySem.Challenge.rw_xm0194_01.Holds :=
 Mine.proved
