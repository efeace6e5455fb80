import PyProof.Rows.All
import Wide.All
import OpenK.AllK
import Wide.FinOn
import KE.KUnpack
import KE.KTryMore
import KE.KMatchCls
import PySem.Challenge.RW_np0149_02
set_option Elab.async false
set_option maxHeartbeats 2000000
set_option linter.all false
set_option tactic.hygienic false
set_option genSizeOf false
set_option genInjectivity false
set_option genCtorIdx false
set_option backward.match.sparseCases false
set_option bootstrap.genMatcherCode false
set_option compiler.extract_closed false
set_option maxRecDepth 100000
open PySem PySem.W PyProof.Rows PySem.Calls
namespace Mine
theorem TD{a m n:Nat}(h:a<=m)(k:Nat.ble m n=true:=by rfl):a<=n:=Nat.le_trans h (Nat.le_of_ble_eq_true k)
theorem nD{a b n:Nat}(h:a+b<=n):a<=n:=Nat.le_trans (Nat.le_add_right a b) h
theorem AP{a b n:Nat}(h:b+a<=n):a<=n:=Nat.le_trans (Nat.le_add_left a b) h
theorem Cg{a b n:Nat}(h:max a b<=n):a<=n:=Nat.le_trans (Nat.le_max_left a b) h
theorem xd{a b n:Nat}(h:max b a<=n):a<=n:=Nat.le_trans (Nat.le_max_right b a) h
theorem eL{a b:Nat}(h:a=b):a<=b:=Nat.le_of_eq h
theorem eR{a b:Nat}(h:a=b):b<=a:=Nat.le_of_eq h.symm
theorem BB{L R a b:Nat}(h:a<=b)(k:L+b<=R+a:=by simp+arith only):L<=R:=Nat.le_of_add_le_add_right (Nat.le_trans k (Nat.add_le_add_left h R))
theorem LB{L R a b c d:Nat}(h:a<=b)(g:c<=d)(k:L+(b+d)<=R+(a+c):=by simp+arith only):L<=R:=BB (Nat.add_le_add h g) k
theorem fJ{L R a b c d e f:Nat}(h:a<=b)(g:c<=d)(i:e<=f)(k:L+(b+d+f)<=R+(a+c+e):=by simp+arith only):L<=R:=LB (Nat.add_le_add h g) i k
theorem Eg{k a b n:Nat}(h:k*max a b<=n):k*a<=n:=Nat.le_trans (Nat.mul_le_mul_left k (Nat.le_max_left a b)) h
theorem Fg{k a b n:Nat}(h:k*max b a<=n):k*a<=n:=Nat.le_trans (Nat.mul_le_mul_left k (Nat.le_max_right b a)) h
theorem Nd{a b c d:Nat}(h:a=b)(k:c+b=d+a:=by simp+arith only):c=d:=by rw[h]at k;exact Nat.add_right_cancel k
theorem ce{T m t k e:Nat}(h:T=m+t)(g:T=k+e):k - m=t - e:=((Nat.add_sub_add_right k e m).symm.trans (by rw[<-g,h])).trans (Nat.add_sub_add_left m t e)
noncomputable def TS:List Addr:=[84,139,146,153,181,188,195,202,209,216,223,230,237,244,251,258,265,272,279,286,293,301,308,315,322,329,336,343,360,371,378,385,392,399,491,498,505,519,526,643]
noncomputable def QZ:List Addr:=[652,659,666,673,680,687,692,699,706,713,720,725,730,737,744,751,758,765,772,779]
noncomputable def EX:List (List Nat):=[[99,111,100,101],[118,97,108,117,101],[101,114,114,111,114,99,111,100,101],[108,101,118,101,108],[114,101,116],[105,110,102,111],[105,115,95,110,111,116,101,100],[108,105,110,101],[101,120,116,114,97]]
noncomputable def eP:List (List Nat):=[[116,111,111,108,115],[105,110,108,105,110,101],[108,105,109,105,116],[102,117,101,108],[100,101,112,116,104],[115,112,101,110,116],[101,112,111,99,104],[102,114,97,109,101],[99,111,114,111,117,116,105,110,101],[118,97,114,115],[99,111,109,109,97,110,100,115],[102,105,114,115,116,115]]
noncomputable def xS:List (List Nat):=[[107,105,110,100],[118,97,108,117,101],[116,114,97,99,101,115],[105,115,95,98,117,115,121],[105,115,95,101,108,101,109,101,110,116],[119,114,105,116,101,115]]
noncomputable def YS:List (List Nat×Addr):=[([114,117,110],442),([114,101,97,100],576),([99,97,108,108],456),([116,111,111,108],421),([115,112,101,110,100],428),([98,101,103,105,110],640),([112,108,97,99,101],555),([114,101,97,100,95,118,97,114],562),([119,114,105,116,101,95,118,97,114],569),([119,114,105,116,101],583),([112,117,116],612),([114,101,109,111,118,101],619),([97,100,100],626)]
noncomputable def PE(C:Addr)(n:List Nat):Bool:=(C==84&&EX.contains n)||(C==643&&eP.contains n)||(C==360&&xS.contains n)
noncomputable def uL(C:Addr)(n:List Nat):Option Addr:=if C=643 then YS.lookup n else none
noncomputable def Fa(C:Addr)(n:List Nat):Option Addr:=if C=480/\n=[95,95,105,110,105,116,95,95]then some 414 else none
noncomputable def PZ(a:Addr):Bool:=(TS++QZ).contains a
noncomputable def aU(a:Addr):Bool:=a==84
noncomputable def va(a:Addr):Bool:=a==105||a==126
section
set_option genCtorIdx true
inductive V where
 | none
 | bool (b:Bool)
 | int (i:Int)
 | str (s:List Nat)
 | tup (vs:List V)
 | loc (l:Nat)
 | val (v:Value)
 | script
inductive O where
 | list (vs:List V)
 | dict (kvs:List (List Nat×V)) (ep:Nat)
 | ad (kvs:List (List Nat×V))
 | inst (C:Addr) (dl:Nat)
 | exc (C:Addr) (dl:Nat)
 | exc0 (C:Addr)
structure G where
 prog:Program
 w:World
 K:Frag
 bA:Heap
 big:∃b o,100<=b/\bA.get? b=some o
 os:OsState
 sa:Addr
 ns:List Int
inductive Vc(s:List Nat)(v:Value):Prop
 | mk (t:Tok) (e:v= .str ⟨s.toArray⟩ t) (z:s.length<=sizeLine) (c:∀c∈s,c < 0x110000)
inductive ac(h:Heap)(n:Nat)(R:List Value->Prop)(v:Value):Prop
 | mk (a:Addr) (os:Array Value) (e:v= .ref a) (t:IsTup h a os) (z:n<=2^30) (r:R os.toList)
inductive xY(U:List Addr)(l:Nat)(v:Value):Prop
 | mk (a:Addr) (h:U[l]?=some a) (e:v= .ref a)
mutual
noncomputable def VA(g:G)(h:Heap)(U:List Addr):V->Value->Prop
 | .none,v=>v= .none
 | .bool b,v=>v= .bool b
 | .int i,v=>∃t,v= .int i t
 | .str s,v=>Vc s v
 | .tup vs,v=>ac h vs.length (fun xs=>PA g h U vs xs) v
 | .loc l,v=>xY U l v
 | .val w,v=>v=w
 | .script,v=>v= .ref g.sa
noncomputable def PA(g:G)(h:Heap)(U:List Addr):List V->List Value->Prop
 | [],[]=>True
 | v::vs,x::xs=>VA g h U v x/\PA g h U vs xs
 | _,_=>False
end
noncomputable def Rc(g:G)(h:Heap)(U:List Addr)(kv:List Nat×V)(e:Str×Value):Prop:=
 e.1=⟨kv.1.toArray⟩/\kv.1.length<=sizeLine/\(∀c∈kv.1,c < 0x110000)/\VA g h U kv.2 e.2
noncomputable def sB(g:G)(h:Heap)(U:List Addr):List (List Nat×V)->List (Str×Value)->Prop
 | [],[]=>True
 | kv::kvs,e::es=>Rc g h U kv e/\sB g h U kvs es
 | _,_=>False
noncomputable def TA(k:List Nat):List (List Nat×V)->Option V
 | []=>none
 | (k',v)::r=>if k'=k then some v else TA k r
theorem TA.r1{k:List Nat}:TA k []=(none):=rfl
theorem TA.r2{k:List Nat}:TA k ((k',v)::r)=(if k'=k then some v else TA k r):=rfl
noncomputable def jK(g:G)(h:Heap)(U:List Addr):Option V->Option Value->Prop
 | none,none=>True
 | some v,some x=>VA g h U v x
 | _,_=>False
noncomputable def DF(o:Obj):Prop:=o.cls= .type "traceback"/\∃vs,o.data= .fields vs/\3 < vs.size
noncomputable def pQ(g:G)(h:Heap)(vs:Array Value):Prop:=4 < vs.size/\(vs[1]?=some .none\/∃tb o,vs[1]?=some (.ref tb)/\g.bA.get? tb=none/\h.get? tb=some o/\DF o)
inductive oZ(g:G)(h:Heap)(U:List Addr)(a:Addr)(vs:List V):Prop
 | mk (os:Array Value) (n:Nat) (e:h.get? a=some {cls:= .type "list",data:= .seq os n}) (z:vs.length<=2^30) (r:PA g h U vs os.toList)
inductive jZ(g:G)(h:Heap)(U:List Addr)(a:Addr)(kvs:List (List Nat×V))(ep:Nat):Prop
 | mk (ps:List (Str×Value)) (d:h.DictAt (strKind g.prog g.w) a ps ep) (z:kvs.length<=sizeLine) (r:sB g h U kvs ps)
inductive Kf(g:G)(h:Heap)(U:List Addr)(a:Addr)(kvs:List (List Nat×V)):Prop
 | mk (o:Obj) (m:Str->Option Value) (e:h.get? a=some o) (c:o.cls= .type "dict") (n:h.Ns a m) (z:∀es n,o.data= .dict es n->es.size<=kvs.length) (r:∀k:List Nat,jK g h U (TA k kvs) (m ⟨k.toArray⟩))
inductive nZ(h:Heap)(U:List Addr)(a C:Addr)(dl:Nat):Prop
 | mk (x:aU C=false) (dx:Addr) (d:U[dl]?=some dx) (e:h.get? a=some (instObj C dx))
inductive tY(g:G)(h:Heap)(U:List Addr)(a C:Addr)(dl:Nat):Prop
 | mk (x:aU C=true) (dx:Addr) (vs:Array Value) (d:U[dl]?=some dx) (e:h.get? a=some {cls:= .ref C,dict:=some dx,data:= .fields vs}) (t:pQ g h vs)
inductive kZ(h:Heap)(a C:Addr):Prop
 | mk (x:aU C=true) (vs:Array Value) (e:h.get? a=some {cls:= .ref C,data:= .fields vs}) (z:4 < vs.size) (t:vs[1]?=some .none)
noncomputable def IG(g:G)(h:Heap)(U:List Addr)(a:Addr):O->Prop
 | .list vs=>oZ g h U a vs
 | .dict kvs ep=>jZ g h U a kvs ep
 | .ad kvs=>Kf g h U a kvs
 | .inst C dl=>nZ h U a C dl
 | .exc C dl=>tY g h U a C dl
 | .exc0 C=>kZ h a C
noncomputable def bG:Value->Bool
 | .type n=>n=="list"||n=="dict"
 | .ref _=>true
 | _=>false
theorem IG.own{g:G}{h:Heap}{U:List Addr}{a:Addr}{x:O}(r:IG g h U a x):∃o,h.get? a=some o/\bG o.cls=true:=by
 induction x using O.casesOn with
 | list vs=>obtain⟨os,n,e,_⟩:=r;exact⟨_,e,rfl⟩
 | dict kvs ep=>obtain⟨ps,⟨o,es,e,x,_⟩,_⟩:=r;exact⟨_,e,by rw[x.1];rfl⟩
 | ad kvs=>obtain⟨o,m,e,c,_⟩:=r;exact⟨_,e,by rw[c];rfl⟩
 | inst C dl=>obtain⟨_,dx,_,e⟩:=r;exact⟨_,e,rfl⟩
 | exc C dl=>obtain⟨_,dx,vs,_,e,_⟩:=r;exact⟨_,e,rfl⟩
 | exc0 C=>obtain⟨_,vs,e,_⟩:=r;exact⟨_,e,rfl⟩
structure St(g:G)(s:Shared)(U:List Addr)(J:List O):Prop where
 base:∀b o,g.bA.get? b=some o->s.heap.get? b=some o
 nodup:U.Nodup
 fresh:∀a∈U,g.bA.get? a=none/\100<=a
 len:U.length=J.length
 objs:∀(l:Nat) (a:Addr) (x:O),U[l]?=some a->J[l]?=some x->IG g s.heap U a x
 gens:s.gens= #[]
 os:s.os=g.os
theorem St.at{g:G}{s:Shared}{U:List Addr}{J:List O}(S:St g s U J){a:Addr}(h:a∈U):∃o,s.heap.get? a=some o/\bG o.cls=true:=by
 obtain⟨l,hl,rfl⟩:=List.getElem_of_mem h
 have:l < J.length:=S.len ▸ hl
 exact(S.objs l _ _ (List.getElem?_eq_getElem hl) (List.getElem?_eq_getElem this)).own
theorem SO{h:Heap}{a:Addr}(q:h.objs.size<=a):h.get? a=none:=by
 induction e:h.get? a using Option.casesOn with
 | none=>rfl
 | some o=>exact absurd (Heap.lt_size e) (Nat.not_lt.mpr q)
theorem St.new{g:G}{s:Shared}{U:List Addr}{J:List O}(S:St g s U J):g.bA.get? s.heap.objs.size=none/\100<=s.heap.objs.size:=by
 constructor
 ·induction e:g.bA.get? s.heap.objs.size using Option.casesOn with
  | none=>rfl
  | some o=>exact absurd (Heap.lt_size (S.base _ _ e)) (Nat.lt_irrefl _)
 ·obtain⟨b,o,hb,e⟩:=g.big
  exact Nat.le_of_lt (Nat.lt_of_le_of_lt hb (Heap.lt_size (S.base _ _ e)))
theorem St.notin{g:G}{s:Shared}{U:List Addr}{J:List O}(S:St g s U J){a:Addr}{o:Obj}(h:s.heap.get? a=some o)(hc:bG o.cls=false):a∉U:=fun m=>by
 obtain⟨o',e,c⟩:=S.at m
 rw[h]at e;cases e;rw[hc]at c;cases c
theorem St.lt{g:G}{s:Shared}{U:List Addr}{J:List O}(S:St g s U J){a:Addr}(h:a∈U):a < s.heap.objs.size:=by
 obtain⟨o,e,_⟩:=S.at h
 exact Heap.lt_size e
theorem St.obj{g:G}{s:Shared}{U:List Addr}{J:List O}(S:St g s U J){l:Nat}{x:O}(h:J[l]?=some x):∃a,U[l]?=some a/\IG g s.heap U a x:=by
 obtain⟨hl,_⟩:=List.getElem?_eq_some_iff.mp h
 have:l < U.length:=S.len ▸ hl
 exact⟨U[l],List.getElem?_eq_getElem this,S.objs l _ _ (List.getElem?_eq_getElem this) h⟩
noncomputable def AC(o:Obj):Prop:=∃es n,o.data= .dict es n
noncomputable def uM(o o':Obj):Prop:=o'=o\/(o.cls= .type "frame"/\∃sl,o'={o with slots:=sl})\/(o.cls= .type "traceback"/\(DF o->DF o'))
inductive iJ(h:Heap)(a:Addr):Prop
 | mk (o:Obj) (vs:Array Value) (tb c:Addr) (e:h.get? a=some o) (k:o.cls= .ref c) (d:o.data= .fields vs) (t:vs[1]?=some (.ref tb))
structure NA(h h':Heap)(U rA:List Addr)(X:List Addr):Prop where
 pre:∃new,rA=U++new/\∀a∈new,h.get? a=none
 keep:∀b o,h.get? b=some o->b∉U->b∉X->∃o',h'.get? b=some o'/\uM o o'
 shape:∀b o,h.get? b=some o->b∉U->∃o',h'.get? b=some o'/\o'.cls=o.cls/\(AC o->AC o')
 alive:∀b o,h.get? b=some o->∃o',h'.get? b=some o'
 tbs:∀a,iJ h a->iJ h' a
theorem uM.refl(o:Obj):uM o o:= .inl rfl
theorem uM.eq{o o':Obj}(k:uM o o')(h:o.cls≠ .type "frame")(h2:o.cls≠ .type "traceback"):o'=o:=by
 rcases k with q | ⟨e,_⟩ | ⟨e,_⟩
 ·exact q
 ·exact absurd e h
 ·exact absurd e h2
theorem NA.refl(h:Heap)(U:List Addr)(X:List Addr):NA h h U U X:=
 ⟨⟨[],by simp,fun u0 m=>nomatch m⟩,fun b o e u0 u0=>⟨o,e, .refl o⟩,fun b o e u0=>⟨o,e,rfl,id⟩,fun b o e=>⟨o,e⟩,fun u0 q=>q⟩
theorem NA.tup{h h':Heap}{U rA X:List Addr}(S:NA h h' U rA X)(hX:∀b∈X,∀os,¬IsTup h b os)(zO:∀b∈U,∀o,h.get? b=some o->bG o.cls=true){a:Addr}{os:Array Value}(t:IsTup h a os):IsTup h' a os:=by
 obtain⟨o,e,c,n,d⟩:=t
 have n1:a∉U:=fun m=>by have:=zO a m o e;rw[c]at this;cases this
 have n2:a∉X:=fun m=>hX a m os ⟨o,e,c,n,d⟩
 obtain⟨o',e',k⟩:=S.keep a o e n1 n2
 have:o'=o:=k.eq (by rw[c];decide) (by rw[c];decide)
 subst this
 exact⟨o',e',c,n,d⟩
mutual
theorem VA.congr{g:G}{h h':Heap}{U rA:List Addr}(ht:∀a os,IsTup h a os->IsTup h' a os)(zO:∀(l:Nat) (a:Addr),U[l]?=some a->rA[l]?=some a):
 ∀(v:V) (x:Value),VA g h U v x->VA g h' rA v x
 | .none,_,r=>r
 | .bool _,_,r=>r
 | .int _,_,r=>r
 | .str _,_,r=>r
 | .tup vs,_,⟨a,os,e,t,z,r⟩=>⟨a,os,e,ht _ _ t,z,PA.congr ht zO vs _ r⟩
 | .loc l,_,⟨a,e,q⟩=>⟨a,zO _ _ e,q⟩
 | .val _,_,r=>r
 | .script,_,r=>r
theorem PA.congr{g:G}{h h':Heap}{U rA:List Addr}(ht:∀a os,IsTup h a os->IsTup h' a os)(zO:∀(l:Nat) (a:Addr),U[l]?=some a->rA[l]?=some a):
 ∀(vs:List V) (xs:List Value),PA g h U vs xs->PA g h' rA vs xs
 | [],[],_=>trivial
 | v::vs,x::xs,⟨a,b⟩=>⟨VA.congr ht zO v x a,PA.congr ht zO vs xs b⟩
 | [],_::_,r=>r.elim
 | _::_,[],r=>r.elim
end
theorem sB.congr{g:G}{h h':Heap}{U rA:List Addr}(ht:∀a os,IsTup h a os->IsTup h' a os)(zO:∀(l:Nat) (a:Addr),U[l]?=some a->rA[l]?=some a):
 ∀(vs:List (List Nat×V)) (xs:List (Str×Value)),sB g h U vs xs->sB g h' rA vs xs
 | [],[],_=>trivial
 | v::vs,x::xs,⟨⟨a1,a2,a3,a4⟩,b⟩=>⟨⟨a1,a2,a3,VA.congr ht zO _ _ a4⟩,sB.congr ht zO vs xs b⟩
 | [],_::_,r=>r.elim
 | _::_,[],r=>r.elim
theorem pQ.congr{g:G}{h h':Heap}{vs:Array Value}(T:pQ g h vs)(hb:∀b o,h.get? b=some o->DF o->∃o',h'.get? b=some o'/\DF o'):pQ g h' vs:=by
 obtain⟨h1,h2⟩:=T
 refine⟨h1,?_⟩
 rcases h2 with q | ⟨tb,o,e,f,q,z⟩
 ·exact .inl q
 ·obtain⟨o',e',z'⟩:=hb tb o q z
  exact .inr ⟨tb,o',e,f,e',z'⟩
theorem IG.congr{g:G}{h h':Heap}{U rA:List Addr}{a:Addr}{x:O}(r:IG g h U a x)(ha:h'.get? a=h.get? a)(ht:∀a os,IsTup h a os->IsTup h' a os)(zO:∀(l:Nat) (a:Addr),U[l]?=some a->rA[l]?=some a)
 (hb:∀b o,h.get? b=some o->DF o->∃o',h'.get? b=some o'/\DF o'):IG g h' rA a x:=by
 induction x using O.casesOn with
 | list vs=>obtain⟨os,n,e,z,q⟩:=r;exact⟨os,n,ha.trans e,z,PA.congr ht zO _ _ q⟩
 | dict kvs ep=>obtain⟨ps,⟨o,es,e,x⟩,z,q⟩:=r;exact⟨ps,⟨o,es,ha.trans e,x⟩,z,sB.congr ht zO _ _ q⟩
 | ad kvs=>
   obtain⟨o,m,e,c,⟨o',es,ep,e',x⟩,z,q⟩:=r
   refine⟨o,m,ha.trans e,c,⟨o',es,ep,ha.trans e',x⟩,z,fun k=>?_⟩
   have:=q k
   revert this
   cases TA k kvs <;>cases m ⟨k.toArray⟩ <;>first | exact id | exact VA.congr ht zO _ _
 | inst C dl=>obtain⟨x0,dx,e,q⟩:=r;exact⟨x0,dx,zO _ _ e,ha.trans q⟩
 | exc C dl=>obtain⟨x0,dx,vs,e,q,t⟩:=r;exact⟨x0,dx,vs,zO _ _ e,ha.trans q,t.congr hb⟩
 | exc0 C=>obtain⟨x0,vs,q,t,u⟩:=r;exact⟨x0,vs,ha.trans q,t,u⟩
theorem NA.loc{h h':Heap}{U rA X:List Addr}(S:NA h h' U rA X):∀(l:Nat) (a:Addr),U[l]?=some a->rA[l]?=some a:=by
 obtain⟨new,rfl,_⟩:=S.pre
 intro l a e
 obtain⟨hl,q⟩:=List.getElem?_eq_some_iff.mp e
 rw[List.getElem?_append_left hl];exact e
theorem NA.memIff{h h':Heap}{U rA X:List Addr}(S:NA h h' U rA X){b:Addr}{o:Obj}(hb:h.get? b=some o)(n:b∉U):b∉rA:=by
 obtain⟨new,rfl,hn⟩:=S.pre
 intro m
 rcases List.mem_append.mp m with q | q
 ·exact n q
 ·have:=hn b q;rw[hb]at this;cases this
theorem uM.trans{a b c:Obj}(x:uM a b)(y:uM b c)(hc:b.cls=a.cls):uM a c:=by
 rcases x with rfl | ⟨e,sl,rfl⟩ | ⟨e,f⟩
 ·exact y
 ·rcases y with rfl | ⟨e',sl',rfl⟩ | ⟨e',_⟩
  ·exact .inr (.inl ⟨e,_,rfl⟩)
  ·exact .inr (.inl ⟨e,sl',rfl⟩)
  ·have:a.cls= .type "traceback":=e'
   rw[e]at this;exact absurd this (by decide)
 ·rcases y with rfl | ⟨e',_,_⟩ | ⟨e',f'⟩
  ·exact .inr (.inr ⟨e,f⟩)
  ·rw[hc,e]at e';exact absurd e' (by decide)
  ·exact .inr (.inr ⟨e,fun t=>f' (f t)⟩)
theorem NA.trans{KB ZD KC:Heap}{BA bB GF X:List Addr}(x:NA KB ZD BA bB X)(y:NA ZD KC bB GF X):NA KB KC BA GF X:=by
 refine⟨?_,fun b o e n1 n2=>?_,fun b o e n1=>?_,fun b o e=>let ⟨o',e'⟩:=x.alive b o e;y.alive b o' e',fun a q=>y.tbs a (x.tbs a q)⟩
 ·obtain⟨n,rfl,hn⟩:=x.pre
  obtain⟨n',rfl,hn'⟩:=y.pre
  refine⟨n++n',by simp,fun a m=>?_⟩
  rcases List.mem_append.mp m with q | q
  ·exact hn a q
  ·induction e:KB.get? a using Option.casesOn with
   | none=>rfl
   | some o=>
     obtain⟨o',e'⟩:=x.alive a o e
     have:=hn' a q
     rw[e']at this;cases this
 ·obtain⟨o',e',k⟩:=x.keep b o e n1 n2
  obtain⟨o'',e'',k'⟩:=y.keep b o' e' (x.memIff e n1) n2
  obtain⟨p,ep,cp,_⟩:=x.shape b o e n1
  rw[e']at ep;cases ep
  exact⟨o'',e'',k.trans k' cp⟩
 ·obtain⟨o',e',c,d⟩:=x.shape b o e n1
  obtain⟨o'',e'',c',d'⟩:=y.shape b o' e' (x.memIff e n1)
  exact⟨o'',e'',c'.trans c,fun q=>d' (d q)⟩
theorem NA.mono{h h':Heap}{U rA X Y:List Addr}(x:NA h h' U rA X)(hXY:∀b∈X,b∈Y):NA h h' U rA Y:=
 ⟨x.pre,fun b o e n1 n2=>x.keep b o e n1 fun m=>n2 (hXY b m),x.shape,x.alive,x.tbs⟩
section
variable{g:G}{s:Shared}{U:List Addr}{J:List O}
theorem St.ownAll(S:St g s U J):∀b∈U,∀o,s.heap.get? b=some o->bG o.cls=true:=fun b m o e=>by
 obtain⟨o',e',c⟩:=S.at m
 rw[e]at e';cases e';exact c
theorem VA.step{h':Heap}{rA X:List Addr}(S:St g s U J)(T:NA s.heap h' U rA X)(hX:∀b∈X,∀os,¬IsTup s.heap b os){v:V}{x:Value}(r:VA g s.heap U v x):VA g h' rA v x:=
 VA.congr (fun u0 u0 t=>T.tup hX S.ownAll t) T.loc v x r
theorem PA.step{h':Heap}{rA X:List Addr}(S:St g s U J)(T:NA s.heap h' U rA X)(hX:∀b∈X,∀os,¬IsTup s.heap b os){v:List V}{x:List Value}(r:PA g s.heap U v x):PA g h' rA v x:=
 PA.congr (fun u0 u0 t=>T.tup hX S.ownAll t) T.loc v x r
theorem VA.step0{h':Heap}{rA:List Addr}(S:St g s U J)(T:NA s.heap h' U rA []){v:V}{x:Value}(r:VA g s.heap U v x):VA g h' rA v x:=r.step S T fun u0 m=>nomatch m
theorem PA.step0{h':Heap}{rA:List Addr}(S:St g s U J)(T:NA s.heap h' U rA []){v:List V}{x:List Value}(r:PA g s.heap U v x):PA g h' rA v x:=r.step S T fun u0 m=>nomatch m
theorem St.toks(S:St g s U J)(t:Nat):St g {s with toks:=t} U J:=⟨S.base,S.nodup,S.fresh,S.len,S.objs,S.gens,S.os⟩
theorem nC{h:Heap}(o:Obj){a:Addr}{os:Array Value}(t:IsTup h a os):IsTup (h.push o) a os:=let ⟨x,e,r⟩:=t;⟨x,Heap.get?_push_of_some _ e,r⟩
theorem St.pushU(S:St g s U J)(o:Obj):St g {s with heap:=s.heap.push o} U J where
 base:=fun b x e=>Heap.get?_push_of_some _ (S.base b x e)
 nodup:=S.nodup
 fresh:=S.fresh
 len:=S.len
 objs:=fun l a x e q=>by
  have r:=S.objs l a x e q
  obtain⟨y,ey,_⟩:=r.own
  exact r.congr ((Heap.get?_push_of_some _ ey).trans ey.symm) (fun u0 u0 t=>nC o t) (fun u0 u0 e=>e) fun b y e z=>⟨y,Heap.get?_push_of_some _ e,z⟩
 gens:=S.gens
 os:=S.os
theorem NA.pushU(h:Heap)(U:List Addr)(o:Obj):NA h (h.push o) U U []:=
 ⟨⟨[],by simp,fun u0 m=>nomatch m⟩,fun b x e u0 u0=>⟨x,Heap.get?_push_of_some _ e, .refl x⟩,fun b x e u0=>⟨x,Heap.get?_push_of_some _ e,rfl,id⟩,fun b x e=>⟨x,Heap.get?_push_of_some _ e⟩,fun a ⟨x,vs,tb,c,e,k,d,t⟩=>⟨x,vs,tb,c,Heap.get?_push_of_some _ e,k,d,t⟩⟩
theorem St.pushT(S:St g s U J)(o:Obj)(x:O)(ho:o.isFreed=false)(r:IG g (s.heap.push o) (U++[s.heap.objs.size]) s.heap.objs.size x):St g {s with heap:=s.heap.push o} (U++[s.heap.objs.size]) (J++[x]) where
 base:=fun b y e=>Heap.get?_push_of_some _ (S.base b y e)
 nodup:=List.nodup_append.mpr ⟨S.nodup,by simp,fun a m b m'=>by
  rw[List.mem_singleton.mp m']
  exact Nat.ne_of_lt (S.lt m)⟩
 fresh:=fun a m=>by
  rcases List.mem_append.mp m with q | q
  ·exact S.fresh a q
  ·rw[List.mem_singleton.mp q];exact S.new
 len:=by simp[S.len]
 objs:=fun l a y e q=>by
  by_cases hl:l < U.length
  ·rw[List.getElem?_append_left hl]at e
   rw[List.getElem?_append_left (S.len ▸ hl)]at q
   have r':=S.objs l a y e q
   obtain⟨z,ez,_⟩:=r'.own
   refine r'.congr ((Heap.get?_push_of_some _ ez).trans ez.symm) (fun u0 u0 t=>nC o t) (fun l a e=>?_) fun b z e z'=>⟨z,Heap.get?_push_of_some _ e,z'⟩
   rw[List.getElem?_append_left (List.getElem?_eq_some_iff.mp e).1];exact e
  ·have hl':U.length<=l:=Nat.le_of_not_lt hl
   rw[List.getElem?_append_right hl']at e
   rw[List.getElem?_append_right (S.len ▸ hl'), <-S.len]at q
   have h0:l - U.length=0:=by
    have:=(List.getElem?_eq_some_iff.mp e).1
    simpa using this
   rw[h0]at e q
   cases e;cases q
   exact r
 gens:=S.gens
 os:=S.os
theorem NA.pushT(h:Heap)(U:List Addr)(o:Obj):NA h (h.push o) U (U++[h.objs.size]) []:=
 ⟨⟨[h.objs.size],rfl,fun a m=>SO (Nat.le_of_eq (List.mem_singleton.mp m).symm)⟩,fun b x e u0 u0=>⟨x,Heap.get?_push_of_some _ e, .refl x⟩,fun b x e u0=>⟨x,Heap.get?_push_of_some _ e,rfl,id⟩,fun b x e=>⟨x,Heap.get?_push_of_some _ e⟩,fun a ⟨x,vs,tb,c,e,k,d,t⟩=>⟨x,vs,tb,c,Heap.get?_push_of_some _ e,k,d,t⟩⟩
theorem HC(U:List Addr)(a:Addr):(U++[a])[U.length]?=some a:=by simp
end
end
set_option genCtorIdx true in
inductive bF where
 | ok (v:V)
 | exn (l:Nat)
noncomputable def Oc(g:G)(h:Heap)(env:Env):Prop:=
 env.scope.kind= .function/\∃L o,env.frame=some L/\g.bA.get? L=none/\h.get? L=some o/\o.cls= .type "frame"/\AC o
structure Cx(g:G)(A:Around)(s:Shared)(U:List Addr)(d:Nat)(hd:Option Nat):Prop where
 depth:A.depth+d<=980
 units:A.units+60*(d+1)<=9000
 hand:match hd with | none=>A.handled=none | some l=>∃a,U[l]?=some a/\A.handled=some (.ref a)
 stk:∃fr,A.frames=some fr/\∀env∈fr,Oc g s.heap env
inductive wA(g:G)(h:Heap)(U:List Addr)(X:List Addr)(Q:V->List O->Prop)(v:Value)(s':Shared):Prop
 | mk (mv:V) (LA:List O) (rA:List Addr) (q:Q mv LA) (r:VA g s'.heap rA mv v) (S:St g s' rA LA) (T:NA h s'.heap U rA X)
inductive vY(J:List O)(l:Nat):Prop
 | mk (C:Addr) (dl:Nat) (h:J[l]?=some (.exc C dl))
inductive dA(g:G)(h:Heap)(U:List Addr)(X:List Addr)(E:Nat->List O->Prop)(e:Value)(s':Shared):Prop
 | mk (l:Nat) (LA:List O) (rA:List Addr) (a:Addr) (q:E l LA) (r:rA[l]?=some a) (e:e= .ref a) (x:vY LA l) (S:St g s' rA LA) (T:NA h s'.heap U rA X)
noncomputable def kD(s:Shared)(e:Value):Prop:=∃a,e= .ref a/\iJ s.heap a
noncomputable def zY(g:G)(h:Heap)(U:List Addr)(R:bF->List O->Prop)(r:Result)(s':Shared):Prop:=match r with
 | .ok (.ret v)=>wA g h U [] (fun v J=>R (.ok v) J) v s'
 | .ok _=>False
 | .error e=>dA g h U [] (fun l J=>R (.exn l) J) e s'/\kD s' e
noncomputable def CallOk(g:G)(d:Nat)(hd:Option Nat)(f:Value)(vs:List V)(J:List O)(R:bF->List O->Prop):Prop:=
 ∀(A:Around) (s:Shared) (U:List Addr) (xs:List Value),Cx g A s U d hd->St g s U J->PA g s.heap U vs xs->
  codeAny (model g.prog g.w) A (.call f ⟨xs,[]⟩) (zY g s.heap U R) s
noncomputable def CU(vs:List V)(D:Prop)(f:Nat->List Nat->Prop):Prop:=match vs with
 | []=>D
 | a::r=>match a with
   | .loc l=>(match r with
     | []=>D
     | b::r=>match b with
       | .str s=>(match r with
         | []=>f l s
         | _::_=>D)
       | _=>D)
   | _=>D
mutual
inductive IE where
 | var (i:Nat)
 | glob (v:Value)
 | none
 | bool (b:Bool)
 | int (i:Int)
 | str (s:List Nat)
 | bin (op:Operator) (a b:IE)
 | cmp (op:CmpOp) (a b:IE)
 | cmp2 (a:IE) (op1:CmpOp) (b:IE) (op2:CmpOp) (c:IE)
 | and (es:jJ)
 | neg (a:IE)
 | ite (c:IT) (a b:IE)
 | tup (es:jJ)
 | lst (es:jJ)
 | dct (ks:List (List Nat)) (vs:jJ)
 | idx (a i:IE)
 | slc (a lo hi:IE)
 | slc3 (a lo st:IE)
 | attr (a:IE) (n:List Nat)
 | call (f:IE) (as:jJ)
 | meth (o:IE) (n:List Nat) (as:jJ)
 | comp (e:IE) (cap:List Nat) (tgt:List Nat) (it:IE)
 | compR (e:IE) (cap:List Nat) (tgt:Nat) (hi:IE)
inductive jJ where
 | nil
 | cons (e:IE) (r:jJ)
inductive IT where
 | e (e:IE)
 | not (t:IT)
 | and (ts:YU)
 | or (ts:YU)
inductive YU where
 | nil
 | cons (t:IT) (r:YU)
end
mutual
inductive IS where
 | assign (i:Nat) (e:IE)
 | unpk (is:List Nat) (e:IE)
 | swap (is:List Nat) (es:jJ)
 | setAttr (o:IE) (n:List Nat) (e:IE)
 | setAttr2 (o1:IE) (n1:List Nat) (o2:IE) (n2:List Nat) (e:IE)
 | setIdx (o i e:IE)
 | aug (i:Nat) (op:Operator) (e:IE)
 | augAttr (o:IE) (n:List Nat) (op:Operator) (e:IE)
 | expr (e:IE)
 | ret (e:IE)
 | ret0
 | ite (c:IT) (a b:pE)
 | whl (c:IT) (b:pE)
 | for1 (i:Nat) (it:IE) (b:pE)
 | forT (is:List Nat) (it:IE) (b:pE)
 | forR0 (i:Nat) (hi:IE) (b:pE)
 | forE (i j:Nat) (it:IE) (b:pE)
 | raise (e:IE)
 | tryE (b:pE) (C:Addr) (i:Nat) (hb:pE)
 | tryF (b f:pE)
 | brk
 | pass
inductive pE where
 | nil
 | cons (s:IS) (r:pE)
end
noncomputable def jQ{α:Type}(s:List α)(i:Int):Option α:=if 0<=i then s[i.toNat]? else if 0<=i+s.length then s[(i+s.length).toNat]? else none
noncomputable def rD(n:Nat)(i:Int):Nat:=if i < 0 then(i+n).toNat else min i.toNat n
noncomputable def Ag(n:Nat):V->Option Nat
 | .none=>some 0
 | .int i=>some (rD n i)
 | _=>none
noncomputable def tf(n:Nat):V->Option Nat
 | .none=>some n
 | .int i=>some (rD n i)
 | _=>none
noncomputable def PG{α:Type}(s:List α)(lo hi:Nat):List α:=(s.take hi).drop lo
noncomputable def KP(op:Operator)(a b:V):Option V:=match a with
 | .int a=>(match b with
   | .int b=>(match op with
     | .Add=>some (.int (a+b))
     | .Sub=>some (.int (a - b))
     | .Mult=>if a.natAbs < 2^32/\b.natAbs < 2^32 then some (.int (a*b))else none
     | .FloorDiv=>if 0 < b/\b.natAbs.log2 < 9000 then some (.int (Int.fdiv a b))else none
     | .Mod=>if 0 < b/\b.natAbs.log2 < 9000 then some (.int (Int.fmod a b))else none
     | .Pow=>if a=10/\b=60 then some (.int (10^60))else none
     | _=>none)
   | _=>none)
 | .str a=>(match op with
   | .Add=>(match b with
     | .str b=>if a.length+b.length<=sizeLine then some (.str (a++b))else none
     | _=>none)
   | .Mult=>(match b with
     | .int n=>if a=[119]/\n=60 then some (.str (List.replicate 60 119))else none
     | _=>none)
   | _=>none)
 | _=>none
theorem BF{α:Type}{v:α}{P:Prop}(h:none=some v):P:=nomatch h
noncomputable def ma:O->Option (List V)
 | .list vs=>some vs
 | _=>none
noncomputable def dictOf:O->Option (List (List Nat×V))
 | .dict kvs _=>some kvs
 | _=>none
noncomputable def CB(J:List O)(l:Nat):Option (List V):=(J[l]?).bind ma
theorem XA{J:List O}{l:Nat}{xs:List V}(h:J[l]?=some (.list xs)):CB J l=some xs:=by unfold CB;rw[h];rfl
theorem KR{J:List O}{l:Nat}{vs:List V}(h:CB J l=some vs):J[l]?=some (.list vs):=by
 unfold CB at h
 rcases e:J[l]? with _ | o
 ·rw[e]at h;exact BF h
 ·rw[e]at h
  induction o using O.casesOn with
  | list k=>cases h;rfl
  | _=>exact BF h
noncomputable def dictAt(J:List O)(l:Nat):Option (List (List Nat×V)):=(J[l]?).bind dictOf
theorem nF{J:List O}{l:Nat}{kvs:List (List Nat×V)}{ep:Nat}(h:J[l]?=some (.dict kvs ep)):dictAt J l=some kvs:=by unfold dictAt;rw[h];rfl
theorem YL{J:List O}{l:Nat}{kvs:List (List Nat×V)}(h:dictAt J l=some kvs):∃ep,J[l]?=some (.dict kvs ep):=by
 unfold dictAt at h
 rcases e:J[l]? with _ | o
 ·rw[e]at h;exact BF h
 ·rw[e]at h
  induction o using O.casesOn with
  | dict k ep=>cases h;exact⟨ep,rfl⟩
  | _=>exact BF h
noncomputable def oI(J:List O)(l:Nat):Option (List (List Nat×V)):=match J[l]? with | some (.ad kvs)=>some kvs | _=>none
noncomputable def uD(J:List O)(l:Nat):Option (Addr×Nat×List (List Nat×V)):=match J[l]? with
 | some (.inst C dl)=>(oI J dl).map fun kvs=>(C,dl,kvs)
 | some (.exc C dl)=>(oI J dl).map fun kvs=>(C,dl,kvs)
 | _=>none
noncomputable def VB(k:List Nat)(v:V):List (List Nat×V)->List (List Nat×V)
 | []=>[(k,v)]
 | (k',v')::r=>if k'=k then(k',v)::r else(k',v')::VB k v r
theorem VB.r1{k:List Nat}{v:V}:VB k v []=([(k,v)]):=rfl
theorem VB.r2{k:List Nat}{v:V}:VB k v ((k',v')::r)=(if k'=k then(k',v)::r else(k',v')::VB k v r):=rfl
noncomputable def OV:V->Option PyData
 | .none=>some .none
 | .bool b=>some (.bool b)
 | .int i=>some (.int i)
 | .str s=>some (.str ⟨s.toArray⟩)
 | _=>none
noncomputable def LR(f:V->Option PyData):List V->Option (List PyData)
 | []=>some []
 | v::vs=>match f v with
   | some d=>(match LR f vs with
     | some ds=>some (d::ds)
     | none=>none)
   | none=>none
noncomputable def toD(J:List O):Nat->V->Option PyData
 | 0,v=>OV v
 | n+1,v=>match v with
   | .tup vs=>(LR (toD J n) vs).map .tuple
   | .loc l=>(CB J l).bind fun vs=>(LR (toD J n) vs).map .list
   | v=>OV v
noncomputable def iG(J:List O)(n:Nat)(vs:List V):Option (List PyData):=LR (toD J n) vs
theorem XR{J:List O}{n:Nat}:iG J n []=some []:=rfl
theorem eI{J:List O}{n:Nat}{v:V}{vs:List V}:iG J n (v::vs)=match toD J n v with
 | some d=>(match iG J n vs with
   | some ds=>some (d::ds)
   | none=>none)
 | none=>none:=rfl
theorem cQ{J:List O}{n:Nat}{vs:List V}:toD J (n+1) (.tup vs)=(iG J n vs).map .tuple:=rfl
theorem cZ{J:List O}{n l:Nat}:toD J (n+1) (.loc l)=(CB J l).bind fun vs=>(iG J n vs).map .list:=rfl
theorem aM{J:List O}{n l:Nat}{vs:List V}(h:J[l]?=some (.list vs)):toD J (n+1) (.loc l)=(iG J n vs).map .list:=by rw[cZ,XA h];rfl
theorem wN{J:List O}:∀{n:Nat} {s:List Nat},toD J n (.str s)=some (.str ⟨s.toArray⟩)
 | 0,_=>rfl
 | _+1,_=>rfl
theorem sS{J:List O}:∀{n:Nat} {s:Int},toD J n (.int s)=some (.int s)
 | 0,_=>rfl
 | _+1,_=>rfl
noncomputable def ZU(J:List O)(n:Nat)(a b:V):Option Bool:=(toD J 80 a).bind fun D=>(toD J n b).map fun D'=>PyData.eqv D D'
theorem qJ{J:List O}{n:Nat}{a b:V}{D D':PyData}(e1:toD J 80 a=some D)(e2:toD J n b=some D'):ZU J n a b=some (PyData.eqv D D'):=by unfold ZU;rw[e1,e2];rfl
noncomputable def ae:V->Option (List Nat)
 | .str s=>some s
 | _=>none
noncomputable def rd:V->Option Int
 | .int s=>some s
 | _=>none
noncomputable def fD:List V->Option (List (List Nat))
 | []=>some []
 | v::r=>(ae v).bind fun s=>(fD r).map (s:: ·)
noncomputable def UG:List V->Option (List Int)
 | []=>some []
 | v::r=>(rd v).bind fun s=>(UG r).map (s:: ·)
noncomputable def Rb(x:List Nat)(s:List Nat):Option Bool:=match x with
 | [c]=>some (s.contains c)
 | _=>none
noncomputable def yP(J:List O)(x c:V):Option Bool:=match x with
 | .str x=>(match c with
   | .tup vs=>(fD vs).map fun ss=>ss.contains x
   | .str s=>Rb x s
   | .loc l=>(dictAt J l).map fun kvs=>(TA x kvs).isSome
   | _=>none)
 | .int x=>(match c with
   | .tup vs=>(UG vs).map fun ss=>ss.contains x
   | .loc l=>(CB J l).bind fun vs=>(UG vs).map fun ss=>ss.contains x
   | _=>none)
 | _=>none
noncomputable def gE:V->Option Bool
 | .none=>some true
 | .val _=>none
 | _=>some false
noncomputable def Tg(a b:V):Option Bool:=match b with
 | .none=>gE a
 | _=>none
noncomputable def VL(J:List O)(op:CmpOp)(a b:V):Option Bool:=match op with
 | .Eq=>ZU J 8 a b
 | .NotEq=>(ZU J 8 a b).map (!·)
 | .Lt=>(match a with | .int a=>(match b with | .int b=>some (decide (a < b)) | _=>none) | _=>none)
 | .LtE=>(match a with | .int a=>(match b with | .int b=>some (decide (a<=b)) | _=>none) | _=>none)
 | .Gt=>(match a with | .int a=>(match b with | .int b=>some (decide (b < a)) | _=>none) | _=>none)
 | .GtE=>(match a with | .int a=>(match b with | .int b=>some (decide (b<=a)) | _=>none) | _=>none)
 | .In=>yP J a b
 | .NotIn=>(yP J a b).map (!·)
 | .Is=>Tg a b
 | .IsNot=>(Tg a b).map (!·)
theorem sQ{J:List O}{a b:V}:VL J .Eq a b=ZU J 8 a b:=rfl
theorem Ha{J:List O}{a b:V}:VL J .NotEq a b=(ZU J 8 a b).map (!·):=rfl
noncomputable def cM(J:List O):V->Option Bool
 | .none=>some false
 | .bool b=>some b
 | .int i=>some (decide (i≠0))
 | .str s=>some (!s.isEmpty)
 | .tup vs=>some (!vs.isEmpty)
 | .loc l=>match J[l]? with
   | some (.list vs)=>some (!vs.isEmpty)
   | some (.dict kvs _)=>some (!kvs.isEmpty)
   | _=>none
 | _=>none
noncomputable def CR(g:G)(J:List O)(x y:V):Option V:=match x with
 | .str s=>(match y with
   | .int i=>(jQ s i).map fun c=> .str [c]
   | _=>none)
 | .tup vs=>(match y with
   | .int i=>jQ vs i
   | _=>none)
 | .loc l=>(match y with
   | .int i=>(CB J l).bind fun vs=>jQ vs i
   | .str k=>(dictAt J l).bind (TA k)
   | _=>none)
 | .script=>(match y with
   | .int i=>(jQ g.ns i).map .int
   | _=>none)
 | _=>none
noncomputable def aG:V->Bool
 | .val (.builtin _)=>false
 | _=>true
noncomputable def wH(g:G)(J:List O)(v:V)(n:List Nat):Option V:=match v with
 | .loc l=>(uD J l).bind fun x=>if PE x.1 n=true then(TA n x.2.2).bind fun v=>if aG v=true then some v else none else none
 | _=>none
noncomputable def UE(J:List O)(a lo hi:V)(Q:V->List O->Prop):Prop:=match a with
 | .str s=>∃i j,Ag s.length lo=some i/\tf s.length hi=some j/\Q (.str (PG s i j)) J
 | .loc l=>∃vs i j,CB J l=some vs/\vs.length<=100000/\Ag vs.length lo=some i/\tf vs.length hi=some j/\Q (.loc J.length) (J++[.list (PG vs i j)])
 | _=>False
noncomputable def eX(J:List O)(op:Operator)(a b:V)(Q:V->List O->Prop):Prop:=match a with
 | .loc x=>(match b with
   | .loc y=>op= .Add/\∃xs ys,CB J x=some xs/\CB J y=some ys/\xs.length+ys.length<=100000/\Q (.loc J.length) (J++[.list (xs++ys)])
   | _=>False)
 | _=>∃v,KP op a b=some v/\Q v J
noncomputable def tG(J:List O)(n:Nat):V->Option (List V)
 | .tup vs=>if vs.length=n then some vs else none
 | .loc l=>(CB J l).bind fun vs=>if vs.length=n then some vs else none
 | _=>none
noncomputable def iA(sep:List Nat):List (List Nat)->List Nat
 | []=>[]
 | [x]=>x
 | x::y::r=>x++sep++iA sep (y::r)
theorem iA.r1{sep:List Nat}:iA sep []=([]):=rfl
theorem iA.r2{sep:List Nat}:iA sep [x]=(x):=rfl
theorem iA.r3{sep:List Nat}:iA sep (x::y::r)=(x++sep++iA sep (y::r)):=rfl
noncomputable def OF(s:List Nat)(c:Nat)(i:Nat):Int:=match (s.drop i).findIdx? (· ==c)with
 | some j=>((i+j:Nat):Int)
 | none=> -1
noncomputable def qA(c:Nat):List Nat->List (List Nat)
 | []=>[[]]
 | x::r=>if x=c then[]::qA c r else match qA c r with
   | []=>[[x]]
   | y::ys=>(x::y)::ys
theorem qA.r1{c:Nat}:qA c []=([[]]):=rfl
theorem qA.r2{c:Nat}:qA c (x::r)=(if x=c then[]::qA c r else match qA c r with
 | []=>[[x]]
 | y::ys=>(x::y)::ys):=rfl
noncomputable def zf(g:G)(J:List O):V->Option Nat
 | .str s=>some s.length
 | .tup vs=>some vs.length
 | .script=>some g.ns.length
 | .loc l=>match J[l]? with
   | some (.list vs)=>some vs.length
   | some (.dict kvs _)=>some kvs.length
   | _=>none
 | _=>none
noncomputable def EH(g:G)(hd:Option Nat)(f:Value)(vs:List V)(J:List O)(Q:V->List O->Prop):Prop:=match f with
 | .builtin f=>
   if f="len" then(match vs with
    | [v]=>∃n,zf g J v=some n/\Q (.int n) J
    | _=>False)
   else if f="ord" then(match vs with
    | [v]=>(match v with
      | .str s=>(match s with
        | [c]=>Q (.int c) J
        | _=>False)
      | _=>False)
    | _=>False)
   else if f="chr" then(match vs with
    | [v]=>(match v with
      | .int i=>0<=i/\i < 55296/\Q (.str [i.toNat]) J
      | _=>False)
    | _=>False)
   else if f="isinstance" then(match vs with
    | [x,y]=>(match y with
      | .val c=>(match x with
        | .str _=>(match c with
          | .ref C=>va C=true/\Q (.bool false) J
          | _=>False)
        | .tup _=>c= .type "tuple"/\Q (.bool true) J
        | _=>False)
      | _=>False)
    | _=>False)
   else if f="sum" then(match vs with
    | [v]=>(match v with
      | .loc l=>hd=none/\∃vs ns,CB J l=some vs/\UG vs=some ns/\Q (.int ns.sum) J
      | _=>False)
    | _=>False)
   else False
 | .type f=>
   if f="tuple" then(match vs with
    | [v]=>(match v with
      | .loc l=>∃vs,CB J l=some vs/\vs.length<=100000/\Q (.tup vs) J
      | _=>False)
    | _=>False)
   else if f="list" then(match vs with
    | [v]=>(match v with
      | .loc l=>∃vs,CB J l=some vs/\vs.length<=100000/\Q (.loc J.length) (J++[.list vs])
      | _=>False)
    | _=>False)
   else False
 | _=>False
noncomputable def FO(vs:List V)(f:V->Prop):Prop:=match vs with
 | []=>False
 | v::r=>match r with
   | []=>f v
   | _::_=>False
noncomputable def yZ(vs:List V)(f:V->V->Prop):Prop:=match vs with
 | []=>False
 | v::r=>FO r (f v)
noncomputable def nS(v:V)(f:Nat->Prop):Prop:=match v with
 | .str t=>(match t with
   | []=>False
   | c::t=>match t with
     | []=>f c
     | _::_=>False)
 | _=>False
noncomputable def HY(v:V)(f:Int->Prop):Prop:=match v with
 | .int i=>f i
 | _=>False
noncomputable def na(v:V)(f:Nat->Prop):Prop:=match v with
 | .loc l=>f l
 | _=>False
noncomputable def Ze(v:V)(f:List Nat->Prop):Prop:=match v with
 | .str s=>f s
 | _=>False
noncomputable def DB(J:List O)(s:List Nat)(n:List Nat)(vs:List V)(Q:V->List O->Prop):Prop:=
 if n=[102,105,110,100]then(match vs with
  | []=>False
  | v::r=>nS v fun c=>match r with
    | []=>Q (.int (OF s c 0)) J
    | w::r=>FO (w::r) fun w=>HY w fun i=>0<=i/\i<=s.length/\Q (.int (OF s c i.toNat)) J)
 else if n=[106,111,105,110]then FO vs fun v=>na v fun l=>∃xs ss,CB J l=some xs/\fD xs=some ss/\(ss.map List.length).sum+ss.length*s.length<=16777216/\(iA s ss).length<=sizeLine/\Q (.str (iA s ss)) J
 else if n=[99,111,117,110,116]then FO vs fun v=>nS v fun c=>Q (.int (s.count c)) J
 else if n=[115,112,108,105,116]then FO vs fun v=>nS v fun c=>s.length<=1000000/\Q (.loc J.length) (J++[.list ((qA c s).map .str)])
 else False
noncomputable def cH:List (List Nat):=[[102,105,110,100],[106,111,105,110],[99,111,117,110,116],[115,112,108,105,116]]
noncomputable def wF:List (List Nat):=[[97,112,112,101,110,100],[101,120,116,101,110,100],[112,111,112],[105,110,115,101,114,116]]
noncomputable def oF:List (List Nat):=[[112,111,112]]
noncomputable def TB(J:List O)(l:Nat)(xs:List V)(n:List Nat)(vs:List V)(Q:V->List O->Prop):Prop:=
 if n=[97,112,112,101,110,100]then FO vs fun v=>xs.length<=100000/\Q .none (J.set l (.list (xs++[v])))
 else if n=[101,120,116,101,110,100]then FO vs fun v=>na v fun y=>∃ys,CB J y=some ys/\y≠l/\xs.length+ys.length<=100000/\Q .none (J.set l (.list (xs++ys)))
 else if n=[112,111,112]then FO vs fun v=>v= .int 1/\match xs with
  | []=>False
  | x::t=>match t with
    | []=>False
    | y::r=>r.length<=100000/\Q y (J.set l (.list (x::r)))
 else if n=[105,110,115,101,114,116]then yZ vs fun w v=>w= .int 1/\match xs with
  | []=>False
  | x::r=>r.length<=100000/\Q .none (J.set l (.list (x::v::r)))
 else False
noncomputable def lE(J:List O)(l:Nat)(kvs:List (List Nat×V))(n:List Nat)(vs:List V)(Q:V->List O->Prop):Prop:=
 if n=[112,111,112]then yZ vs fun v w=>w= .none/\Ze v fun k=>TA k kvs=none/\Q .none J
 else False
noncomputable def KM(v:Value):Option Addr:=match v with
 | .ref a=>some a
 | _=>none
theorem LM{v:Value}{a:Addr}(h:KM v=some a):v= .ref a:=by
 induction v using Value.casesOn with
 | ref b=>cases h;rfl
 | _=>cases h
noncomputable def FV(r:CFound):Option Value:=match r with
 | .val v=>some v
 | _=>none
noncomputable def MR(K:Frag)(C:Addr)(n:List Nat):Option Addr:=(findIn K (.ref C) ⟨n.toArray⟩).bind fun o=>o.bind fun v=>(KM v).bind fun f=>if isFn K (.ref f)&&keepIn K (.ref f)&&plainGet K C ⟨n.toArray⟩then some f else none
noncomputable def FZ(K:Frag)(C:Addr)(n:List Nat):Option Addr:=(typeIn K (.ref C)).bind fun mc=>if readsIn K C mc&&specialIn K (.ref C) "__getattribute__"==some (some (.builtin "type.__getattribute__"))then
 (findCls K (.ref C) mc ⟨n.toArray⟩).bind fun r=>(FV r).bind fun v=>(KM v).bind fun f=>if isFn K (.ref f)&&keepIn K (.ref f)then some f else none else none
noncomputable def eD(cap:List Nat)(Z:List (Option V)):List (Option V):=(List.range Z.length).map fun i=>if cap.contains i then(Z[i]?).join else none
noncomputable def IC(Z:List (Option V)):List Nat->List V->List (Option V)
 | [],_=>Z
 | i::is,vs=>match vs with
   | []=>Z
   | v::vs=>IC (Z.set i (some v)) is vs
theorem dW{Z:List (Option V)}{vs:List V}:IC Z [] vs=Z:=rfl
theorem SM{Z:List (Option V)}{i:Nat}{is:List Nat}{v:V}{vs:List V}:IC Z (i::is) (v::vs)=IC (Z.set i (some v)) is vs:=rfl
noncomputable def pe(J:List O)(tgt:List Nat)(x:V):Option (List V):=match tgt with
 | [_]=>some [x]
 | _=>tG J tgt.length x
noncomputable def WM(x y z:V)(J:List O)(Q:V->List O->Prop):Prop:=match x with
 | .script=>HY y fun i=>HY z fun n=>0<=i/\n=5/\∀js:List Int,js.length<=63->Q (.loc J.length) (J++[.list (js.map .int)])
 | _=>False
inductive Fl where
 | next
 | brk
 | ret (v:V)
noncomputable def aX(op:Operator)(x y:V):Option V:=match x with
 | .int a=>(match y with
   | .int b=>(match op with
     | .Add=>some (.int (a+b))
     | .Sub=>some (.int (a - b))
     | _=>none)
   | _=>none)
 | .str a=>(match y with
   | .str b=>(match op with
     | .Add=>if a.length+b.length<=sizeLine then some (.str (a++b))else none
     | _=>none)
   | _=>none)
 | _=>none
noncomputable def iO(l:List Value):Bool:=l==[.type "object"]||l==[.type "Exception", .type "BaseException", .type "object"]
noncomputable def TJ:List Value->Bool
 | []=>iO []
 | v::r=>match KM v with
   | some _=>TJ r
   | none=>iO (v::r)
noncomputable def YK(K:Frag)(C:Addr)(n:List Nat):Bool:=
 findIn K (.ref C) "__setattr__"==some (some (.builtin "object.__setattr__"))&&(clsIn K C).any (fun cd=>TJ cd.mro)&&(subIn K (.ref C) (.type "object")==some true)&&(takerIn K C ⟨n.toArray⟩==some none)&&hasDictIn K C
noncomputable def MO:O->Option Addr
 | .exc0 C=>some C
 | _=>none
noncomputable def tH(g:G)(J:List O)(x:V)(n:List Nat)(v:V)(Q:List O->Prop):Prop:=match x with
 | .loc l=>(match (J[l]?).bind MO with
   | some C=>PE C n=true/\n.length<=1000/\Q ((J++[O.ad [(n,v)]]).set l (O.exc C J.length))
   | none=>∃C dl kvs,uD J l=some (C,dl,kvs)/\PE C n=true/\kvs.length<=1000/\n.length<=1000/\Q (J.set dl (.ad (VB n v kvs))))
 | _=>False
noncomputable def jE(J:List O)(x i v:V)(Q:List O->Prop):Prop:=match x with
 | .loc l=>(match i with
   | .str k=>∃kvs,dictAt J l=some kvs/\kvs.length<=100000/\∀ep,Q (J.set l (.dict (VB k v kvs) ep))
   | .int i=>∃xs,CB J l=some xs/\(if 0<=i then i.toNat < xs.length/\Q (J.set l (.list (xs.set i.toNat v)))else 0<=i+xs.length/\Q (J.set l (.list (xs.set (i+xs.length).toNat v))))
   | _=>False)
 | _=>False
noncomputable def cC(J:List O)(x:V)(k:Nat):Option (Option V):=match x with
 | .tup vs=>some vs[k]?
 | .loc l=>match J[l]? with
   | some (.list vs)=>some vs[k]?
   | _=>none
 | _=>none
structure pA where
 np:Nat
 nm:List (List Nat)
 dflt:List V
 body:pE
noncomputable def pA.start(F:pA)(vs:List V):List (Option V):=
 let vs:=vs++F.dflt.drop (F.dflt.length - (F.np - vs.length))
 vs.map some++List.replicate (F.nm.length - F.np) none
theorem OA:sizeLine=16777216:=rfl
noncomputable def zQ(K:Frag)(C:Addr)(n:List Nat):Bool:=findIn K (.ref C) "__getattribute__"==some (some (.builtin "BaseException.__getattribute__"))&&findIn K (.ref C) "__getattr__"==some none&&hasDictIn K C&&(match findIn K (.ref C) ⟨n.toArray⟩with | some a=>noGet K a | none=>false)
noncomputable def ES(K:Frag)(C:Addr)(n:List Nat):Bool:=plainGet K C ⟨n.toArray⟩&&hasDictIn K C&&(match findIn K (.ref C) ⟨n.toArray⟩with | some a=>noGet K a | none=>false)
structure xC(g:G):Prop where
 K:g.K.In g.bA
 glob:∃mg,g.bA.Ns mainGlobals mg
 blt:∃mb,g.bA.Ns builtinsNs mb/\∀x:Str,x≠"__name__"->mb x=bootBuiltins x
 nolimit:g.bA.NoLimit
 tab:∀C n,PE C n=true->(if aU C=true then zQ g.K C n=true else ES g.K C n=true)/\YK g.K C n=true
 mth:∀C n f,uL C n=some f->MR g.K C n=some f
 cm:∀C n f,Fa C n=some f->FZ g.K C n=some f
 kp:∀a,PZ a=true->keepIn g.K (.ref a)=true
 nst:∀C,va C=true->isNotIn g.K "str" C=true
 exc:∀C,aU C=true->subIn g.K (.ref C) (.type "BaseException")=some true/\(subIn g.K (.ref C) (.type "Exception")=some true/\hasDictIn g.K C=true)/\typeIn g.K (.ref C)=some (.type "type")/\exmOne g.K (.ref C) (.ref C)=some true
 script:∃vs,g.bA.IsList g.sa vs/\IntsAre vs.toList g.ns/\g.ns.length<=63
section
variable{g:G}{s:Shared}{U:List Addr}{J:List O}
theorem PA.len{h:Heap}:∀{vs:List V} {xs:List Value},PA g h U vs xs->xs.length=vs.length
 | [],[],_=>rfl
 | v::vs,x::xs,⟨_,b⟩=>congrArg (· +1) (PA.len b)
 | [],_::_,r=>r.elim
 | _::_,[],r=>r.elim
theorem PA.get{h:Heap}:∀{vs:List V} {xs:List Value},PA g h U vs xs->∀{i:Nat} {v:V},vs[i]?=some v->∃x,xs[i]?=some x/\VA g h U v x
 | [],[],_,i,v,e=>by simp at e
 | v::vs,x::xs,⟨a,b⟩,i,w,e=>by
   induction i using Nat.casesOn with
   | zero=>simp at e;subst e;exact⟨x,rfl,a⟩
   | succ i=>simpa using PA.get b (i:=i) (v:=w) (by simpa using e)
 | [],_::_,r,_,_,_=>r.elim
 | _::_,[],r,_,_,_=>r.elim
theorem PA.append{h:Heap}:∀{vs ws:List V} {xs ys:List Value},PA g h U vs xs->PA g h U ws ys->PA g h U (vs++ws) (xs++ys)
 | [],_,[],_,_,b=>b
 | v::vs,_,x::xs,_,⟨a,r⟩,b=>⟨a,PA.append r b⟩
 | [],_,_::_,_,r,_=>r.elim
 | _::_,_,[],_,r,_=>r.elim
theorem PA.set{h:Heap}:∀{vs:List V} {xs:List Value},PA g h U vs xs->∀{i:Nat} {v:V} {x:Value},VA g h U v x->PA g h U (vs.set i v) (xs.set i x)
 | [],[],_,_,_,_,_=>trivial
 | v::vs,x::xs,⟨a,b⟩,i,w,y,r=>by
   induction i using Nat.casesOn with
   | zero=>exact⟨r,b⟩
   | succ i=>exact⟨a,PA.set b r⟩
 | [],_::_,r,_,_,_,_=>r.elim
 | _::_,[],r,_,_,_,_=>r.elim
theorem PA.drop{h:Heap}:∀{vs:List V} {xs:List Value} (n:Nat),PA g h U vs xs->PA g h U (vs.drop n) (xs.drop n)
 | _,_,0,r=>by simpa using r
 | [],[],n+1,r=>trivial
 | v::vs,x::xs,n+1,⟨_,r⟩=>by simpa using PA.drop n r
 | [],_::_,_+1,r=>r.elim
 | _::_,[],_+1,r=>r.elim
theorem PA.take{h:Heap}:∀{vs:List V} {xs:List Value} (n:Nat),PA g h U vs xs->PA g h U (vs.take n) (xs.take n)
 | _,_,0,r=>by simp;exact trivial
 | [],[],n+1,r=>trivial
 | v::vs,x::xs,n+1,⟨a,r⟩=>⟨a,PA.take n r⟩
 | [],_::_,_+1,r=>r.elim
 | _::_,[],_+1,r=>r.elim
theorem BN{h h':Heap}{a:Addr}{o:Obj}(hs:Heap.SameBut a h h')(ho:h.get? a=some o)(hc:bG o.cls=true):∀b os,IsTup h b os->IsTup h' b os:=fun b os t=>by
 obtain⟨x,e,c,r⟩:=t
 have:b≠a:=by rintro rfl;rw[ho]at e;cases e;rw[c]at hc;cases hc
 exact⟨x,(hs.2 b this).trans e,c,r⟩
theorem cO{h h':Heap}{a:Addr}{o:Obj}(hs:Heap.SameBut a h h')(ho:h.get? a=some o)(hc:bG o.cls=true):∀b x,h.get? b=some x->DF x->∃x',h'.get? b=some x'/\DF x':=fun b x e t=>by
 have:b≠a:=by rintro rfl;rw[ho]at e;cases e;rw[t.1]at hc;cases hc
 exact⟨x,(hs.2 b this).trans e,t⟩
theorem St.update(S:St g s U J){l:Nat}{a:Addr}{x':O}(hl:U[l]?=some a){h':Heap}(hs:Heap.SameBut a s.heap h')(r:IG g h' U a x')(t:Nat):St g {s with heap:=h',toks:=t} U (J.set l x'):=by
 have hm:a∈U:=List.mem_of_getElem? hl
 obtain⟨o,ho,hc⟩:=S.at hm
 refine⟨fun b y e=>?_,S.nodup,S.fresh,by simp[S.len],fun l' a' y e q=>?_,S.gens,S.os⟩
 ·have:b≠a:=by
   rintro rfl
   rw[(S.fresh _ hm).1]at e;cases e
  exact(hs.2 b this).trans (S.base b y e)
 ·by_cases hll:l=l'
  ·subst hll
   rw[hl]at e;cases e
   have:l < J.length:=S.len ▸ (List.getElem?_eq_some_iff.mp hl).1
   rw[List.getElem?_set_self this]at q;cases q
   exact r
  ·rw[List.getElem?_set_ne hll]at q
   have hne:a'≠a:=by
    rintro rfl
    obtain⟨h1,e1⟩:=List.getElem?_eq_some_iff.mp hl
    obtain⟨h2,e2⟩:=List.getElem?_eq_some_iff.mp e
    exact hll ((List.getElem_inj S.nodup).mp (e1.trans e2.symm))
   exact(S.objs l' a' y e q).congr (hs.2 _ hne) (BN hs ho hc) (fun u0 u0 e=>e) (cO hs ho hc)
theorem NA.update{h h':Heap}{l:Nat}{a:Addr}(hl:U[l]?=some a)(hs:Heap.SameBut a h h')(hb:∀o,h.get? a=some o->∃o',h'.get? a=some o')(ht:iJ h a->iJ h' a):NA h h' U U []:=
 ⟨⟨[],by simp,fun u0 m=>nomatch m⟩,fun b o e n u0=>⟨o,(hs.2 b fun q=>n (q ▸ List.mem_of_getElem? hl)).trans e, .refl o⟩,fun b o e n=>⟨o,(hs.2 b fun q=>n (q ▸ List.mem_of_getElem? hl)).trans e,rfl,id⟩,fun b o e=>by
   by_cases q:b=a
   ·subst q;exact hb o e
   ·exact⟨o,(hs.2 b q).trans e⟩,fun b q=>by
   by_cases k:b=a
   ·subst k;exact ht q
   ·obtain⟨x,vs,tb,c,e,r,u,v⟩:=q;exact⟨x,vs,tb,c,(hs.2 b k).trans e,r,u,v⟩⟩
theorem St.quiet(S:St g s U J){s':Shared}(hb:∀b o,g.bA.get? b=some o->s.heap.get? b=some o->s'.heap.get? b=some o)(zO:∀b∈U,s'.heap.get? b=s.heap.get? b)(ht:∀a os,IsTup s.heap a os->IsTup s'.heap a os)
 (htb:∀b o,s.heap.get? b=some o->DF o->∃o',s'.heap.get? b=some o'/\DF o') (hg:s'.gens=s.gens) (ho:s'.os=s.os):St g s' U J where
 base:=fun b o e=>hb b o e (S.base b o e)
 nodup:=S.nodup
 fresh:=S.fresh
 len:=S.len
 objs:=fun l a x e q=>(S.objs l a x e q).congr (zO a (List.mem_of_getElem? e)) ht (fun u0 u0 e=>e) htb
 gens:=hg.trans S.gens
 os:=ho.trans S.os
theorem St.ext(S:St g s U J){h':Heap}(k:∀b o,s.heap.get? b=some o->h'.get? b=some o)(t:Nat):St g {s with heap:=h',toks:=t} U J:=
 S.quiet (fun b o u0 e=>k b o e) (fun b m=>by obtain⟨o,e,_⟩:=S.at m;exact(k b o e).trans e.symm) (fun a os ⟨o,e,r⟩=>⟨o,k a o e,r⟩) (fun b o e t=>⟨o,k b o e,t⟩) rfl rfl
theorem NA.ext{h h':Heap}(U:List Addr)(k:∀b o,h.get? b=some o->h'.get? b=some o)(X:List Addr):NA h h' U U X:=
 ⟨⟨[],by simp,fun u0 m=>nomatch m⟩,fun b o e u0 u0=>⟨o,k b o e, .refl o⟩,fun b o e u0=>⟨o,k b o e,rfl,id⟩,fun b o e=>⟨o,k b o e⟩,fun a ⟨x,vs,tb,c,e,r,u,v⟩=>⟨x,vs,tb,c,k a x e,r,u,v⟩⟩
theorem VQ{α:Type}{l:List α}{i:Nat}{x:α}(h:l[i]?=some x):l.set i x=l:=by
 obtain⟨hl,rfl⟩:=List.getElem?_eq_some_iff.mp h
 exact List.set_getElem_self hl
theorem St.track(S:St g s U J){a:Addr}(x:O)(hn:a∉U)(h0:g.bA.get? a=none)(h1:100<=a)(r:IG g s.heap (U++[a]) a x):St g s (U++[a]) (J++[x]) where
 base:=S.base
 nodup:=List.nodup_append.mpr ⟨S.nodup,by simp,fun b m b' m'=>by
  rw[List.mem_singleton.mp m']
  rintro rfl
  exact hn m⟩
 fresh:=fun b m=>by
  rcases List.mem_append.mp m with q | q
  ·exact S.fresh b q
  ·rw[List.mem_singleton.mp q];exact⟨h0,h1⟩
 len:=by simp[S.len]
 objs:=fun l b y e q=>by
  by_cases hl:l < U.length
  ·rw[List.getElem?_append_left hl]at e
   rw[List.getElem?_append_left (S.len ▸ hl)]at q
   exact(S.objs l b y e q).congr rfl (fun u0 u0 t=>t) (fun l b e=>by rw[List.getElem?_append_left (List.getElem?_eq_some_iff.mp e).1];exact e) fun b z e z'=>⟨z,e,z'⟩
  ·have hl':U.length<=l:=Nat.le_of_not_lt hl
   rw[List.getElem?_append_right hl']at e
   rw[List.getElem?_append_right (S.len ▸ hl'), <-S.len]at q
   have h0:l - U.length=0:=by
    have:=(List.getElem?_eq_some_iff.mp e).1
    simpa using this
   rw[h0]at e q
   cases e;cases q
   exact r
 gens:=S.gens
 os:=S.os
theorem NA.track{h h':Heap}{rA X:List Addr}(T:NA h h' U rA X){a:Addr}(hn:h.get? a=none):NA h h' U (rA++[a]) X:=by
 obtain⟨⟨new,e,hp⟩,t2,t3,t4,t5⟩:=T
 refine⟨⟨new++[a],by rw[e];simp,fun b m=>?_⟩,t2,t3,t4,t5⟩
 rcases List.mem_append.mp m with q | q
 ·exact hp b q
 ·rw[List.mem_singleton.mp q];exact hn
theorem St.grow(S:St g s U J){h':Heap}(k:∀b o,s.heap.get? b=some o->h'.get? b=some o)(t:Nat)(x:O)(r:IG g h' (U++[s.heap.objs.size]) s.heap.objs.size x):St g {s with heap:=h',toks:=t} (U++[s.heap.objs.size]) (J++[x]):=by
 have DA:St g {s with heap:=h',toks:=t} U J:=
  {base:=fun b o e=>k b o (S.base b o e)
   nodup:=S.nodup
   fresh:=S.fresh
   len:=S.len
   objs:=fun l a y e q=>by
    have r:=S.objs l a y e q
    obtain⟨z,ez,_⟩:=r.own
    exact r.congr ((k a z ez).trans ez.symm) (fun a os ⟨o,e,r⟩=>⟨o,k a o e,r⟩) (fun u0 u0 e=>e) fun b y e z=>⟨y,k b y e,z⟩
   gens:=S.gens
   os:=S.os}
 exact DA.track x (fun m=>absurd (S.lt m) (Nat.lt_irrefl _)) S.new.1 S.new.2 r
theorem NA.grow{h h':Heap}(U:List Addr)(k:∀b o,h.get? b=some o->h'.get? b=some o):NA h h' U (U++[h.objs.size]) []:=
 ⟨⟨[h.objs.size],rfl,fun a m=>SO (Nat.le_of_eq (List.mem_singleton.mp m).symm)⟩,fun b o e u0 u0=>⟨o,k b o e, .refl o⟩,fun b o e u0=>⟨o,k b o e,rfl,id⟩,fun b o e=>⟨o,k b o e⟩,fun a ⟨x,vs,tb,c,e,r,u,v⟩=>⟨x,vs,tb,c,k a x e,r,u,v⟩⟩
inductive fg(g:G)(h:Heap)(U:List Addr)(v:V)(xs:List Value):Prop
 | mk (x:Value) (e:xs=[x]) (r:VA g h U v x)
inductive pg(g:G)(h:Heap)(U:List Addr)(v w:V)(xs:List Value):Prop
 | mk (x y:Value) (e:xs=[x,y]) (r:VA g h U v x) (t:VA g h U w y)
inductive dg(g:G)(h:Heap)(U:List Addr)(v:V)(vs:List V)(xs:List Value):Prop
 | mk (x:Value) (r':List Value) (e:xs=x::r') (r:VA g h U v x) (t:PA g h U vs r')
inductive Mf(g:G)(h:Heap)(U:List Addr)(v w:V)(vs:List V)(xs:List Value):Prop
 | mk (x y:Value) (r':List Value) (e:xs=x::y::r') (r:VA g h U v x) (u:VA g h U w y) (t:PA g h U vs r')
theorem PA.one{h:Heap}{v:V}{xs:List Value}(r:PA g h U [v] xs):fg g h U v xs:=by
 rcases xs with _ | ⟨x,_ | ⟨_,_⟩⟩
 ·exact r.elim
 ·exact⟨x,rfl,r.1⟩
 ·exact r.2.elim
theorem PA.two{h:Heap}{v w:V}{xs:List Value}(r:PA g h U [v,w] xs):pg g h U v w xs:=by
 rcases xs with _ | ⟨x,_ | ⟨y,_ | ⟨_,_⟩⟩⟩
 ·exact r.elim
 ·exact r.2.elim
 ·exact⟨x,y,rfl,r.1,r.2.1⟩
 ·exact r.2.2.elim
theorem PA.zero{h:Heap}{xs:List Value}(r:PA g h U [] xs):xs=[]:=by
 rcases xs with _ | ⟨_,_⟩
 ·rfl
 ·exact r.elim
theorem LG{vs:List V}{f:V->Prop}(h:FO vs f):∃v,vs=[v]/\f v:=by
 rcases vs with _ | ⟨v,_ | ⟨_,_⟩⟩ <;>first | exact⟨v,rfl,h⟩ | exact h.elim
theorem nR{vs:List V}{f:V->V->Prop}(h:yZ vs f):∃v w,vs=[v,w]/\f v w:=by
 rcases vs with _ | ⟨v,_ | ⟨w,_ | ⟨_,_⟩⟩⟩ <;>first | exact⟨v,w,rfl,h⟩ | exact h.elim
theorem YJ{v:V}{f:Nat->Prop}(h:nS v f):∃c,v= .str [c]/\f c:=by
 induction v using V.casesOn with
 | str t=>rcases t with _ | ⟨c,_ | ⟨_,_⟩⟩ <;>first | exact⟨c,rfl,h⟩ | exact h.elim
 | _=>exact h.elim
theorem WO{v:V}{f:Int->Prop}(h:HY v f):∃i,v= .int i/\f i:=by
 induction v using V.casesOn with
 | int i=>exact⟨i,rfl,h⟩
 | _=>exact h.elim
theorem VS{v:V}{f:Nat->Prop}(h:na v f):∃l,v= .loc l/\f l:=by
 induction v using V.casesOn with
 | loc i=>exact⟨i,rfl,h⟩
 | _=>exact h.elim
theorem YY{v:V}{f:List Nat->Prop}(h:Ze v f):∃s,v= .str s/\f s:=by
 induction v using V.casesOn with
 | str i=>exact⟨i,rfl,h⟩
 | _=>exact h.elim
theorem CF{bA:Heap}{UA X:List Addr}{Q:V->List O->Prop}{v:Value}{s':Shared}{mv:V}{LA:List O}{rA:List Addr}(hq:Q mv LA)(r:VA g s'.heap rA mv v)(S:St g s' rA LA)(T:NA bA s'.heap UA rA X):wA g bA UA X Q v s':=⟨mv,LA,rA,hq,r,S,T⟩
theorem dD(S:St g s U J){Q:V->List O->Prop}{v:Value}{mv:V}(hq:Q mv J)(r:VA g s.heap U mv v)(t:Nat):wA g s.heap U [] Q v {s with toks:=t}:=⟨mv,J,U,hq,r,S.toks t, .refl ..⟩
theorem KQ(S:St g s U J){Q:V->List O->Prop}{v:Value}{mv:V}(hq:Q mv J)(r:VA g s.heap U mv v):wA g s.heap U [] Q v s:=⟨mv,J,U,hq,r,S, .refl ..⟩
theorem wA.mono{bA:Heap}{UA X:List Addr}{Q Q':V->List O->Prop}{v:Value}{s':Shared}(p:wA g bA UA X Q v s')(k:∀v J,Q v J->Q' v J):wA g bA UA X Q' v s':=let ⟨a,b,c,q,r,S,T⟩:=p;⟨a,b,c,k _ _ q,r,S,T⟩
theorem wA.from{bA KB:Heap}{UA BA X:List Addr}{Q:V->List O->Prop}{v:Value}{s':Shared}(T:NA bA KB UA BA X)(p:wA g KB BA X Q v s'):wA g bA UA X Q v s':=let ⟨a,b,c,q,r,S,T'⟩:=p;⟨a,b,c,q,r,S,T.trans T'⟩
theorem dA.from{bA KB:Heap}{UA BA X:List Addr}{Q:Nat->List O->Prop}{v:Value}{s':Shared}(T:NA bA KB UA BA X)(p:dA g KB BA X Q v s'):dA g bA UA X Q v s':=let ⟨l,b,c,a,q,r,e,x,S,T'⟩:=p;⟨l,b,c,a,q,r,e,x,S,T.trans T'⟩
theorem dA.mono{bA:Heap}{UA X:List Addr}{Q Q':Nat->List O->Prop}{v:Value}{s':Shared}(p:dA g bA UA X Q v s')(k:∀v J,Q v J->Q' v J):dA g bA UA X Q' v s':=let ⟨l,b,c,a,q,r,e,x,S,T⟩:=p;⟨l,b,c,a,k _ _ q,r,e,x,S,T⟩
inductive rZ(g:G)(s:Shared)(U:List Addr)(l:Nat)(vs:List V):Prop
 | mk (a:Addr) (os:Array Value) (n:Nat) (h:U[l]?=some a) (e:s.heap.get? a=some {cls:= .type "list",data:= .seq os n}) (z:vs.length<=2^30) (r:PA g s.heap U vs os.toList)
inductive qZ(g:G)(s:Shared)(U:List Addr)(l:Nat)(vs:List (List Nat×V)):Prop
 | mk (a:Addr) (ps:List (Str×Value)) (h:U[l]?=some a) (d:s.heap.DictOf (strKind g.prog g.w) a ps) (z:vs.length<=sizeLine) (r:sB g s.heap U vs ps)
theorem St.list(S:St g s U J){l:Nat}{vs:List V}(h:CB J l=some vs):rZ g s U l vs:=by
 obtain⟨a,ha,os,n,ho,z,r⟩:=S.obj (KR h)
 exact⟨a,os,n,ha,ho,z,r⟩
theorem St.dict(S:St g s U J){l:Nat}{vs:List (List Nat×V)}(h:dictAt J l=some vs):qZ g s U l vs:=by
 obtain⟨ep,e⟩:=YL h
 obtain⟨a,ha,os,⟨o,es,ho⟩,z,r⟩:=S.obj e
 exact⟨a,os,ha,⟨o,es,_,ho⟩,z,r⟩
theorem OD{h:Heap}{a:Addr}{os:Array Value}{n:Nat}(e:h.get? a=some {cls:= .type "list",data:= .seq os n}):h.IsList a os:=⟨_,e,rfl,n,rfl⟩
variable{A:Around}{d:Nat}{hd:Option Nat}{E:Value->Shared->Prop}
theorem eB(x:List Nat):(⟨x.toArray⟩:Str).length=x.length:=by simp[Str.length]
theorem Cx.room(C:Cx g A s U d hd):A.units+60 < cLine:=by have:=C.units;show _ < 9900;exact BB this
end
section
variable{g:G}{d:Nat}{hd:Option Nat}{J:List O}{Z:List (Option V)}{QV:V->List O->Prop}{QV1:V->Prop}{QM:List O->Prop}
theorem CallOk.mono{g:G}{d:Nat}{hd:Option Nat}{f:Value}{vs:List V}{J:List O}{R R':bF->List O->Prop}(h:CallOk g d hd f vs J R)(hR:∀r J,R r J->R' r J):CallOk g d hd f vs J R':=by
 intro A s U xs C S rr
 refine codeAny_mono (h A s U xs C S rr) fun r s' p=>?_
 rcases r with e | (_ | _ | _ | v)
 ·exact⟨dA.mono p.1 fun u0 u0=>hR _ _,p.2⟩
 ·exact p.elim
 ·exact p.elim
 ·exact p.elim
 ·exact wA.mono p fun u0 u0=>hR _ _
theorem CallOk.up{g:G}{d d':Nat}{hd:Option Nat}{f:Value}{vs:List V}{J:List O}{R:bF->List O->Prop}(h:CallOk g d hd f vs J R)(hd':d<=d'):CallOk g d' hd f vs J R:=
 fun A s U xs C S rr=>h A s U xs ⟨by have:=C.depth;exact(LB this hd'),by have:=C.units;lia,C.hand,C.stk⟩ S rr
theorem vX(n:Nat)(a b:List Nat):ZU J n (.str a) (.str b)=some (decide (a=b)):=by
 have:ZU J n (.str a) (.str b)=some ((⟨a.toArray⟩:Str)==⟨b.toArray⟩):=by rw[qJ wN wN,PyData.eqv]
 rw[this]
 congr 1
 by_cases h:a=b
 ·subst h;simp
 ·rw[decide_eq_false h,beq_eq_false_iff_ne]
  intro q
  injection q with q
  exact h (by simpa using congrArg Array.toList q)
theorem uX(n:Nat)(a b:Int):ZU J n (.int a) (.int b)=some (decide (a=b)):=by
 have:ZU J n (.int a) (.int b)=some (a==b):=by rw[qJ sS sS,PyData.eqv]
 rw[this]
 congr 1
theorem pO{α:Type}(J l:List α)(i:Nat)(x:α):(J++l).set (J.length+i) x=J++l.set i x:=by
 rw[List.set_append_right _ _ (by exact Nat.le_add_right _ _),Nat.add_sub_cancel_left]
theorem VM{α:Type}(J l:List α)(y x:α):(J++y::l).set J.length x=J++x::l:=pO J (y::l) 0 x
theorem nB{α:Type}(J l:List α)(i:Nat):(J++l)[J.length+i]?=l[i]?:=by rw[List.getElem?_append_right (by exact Nat.le_add_right _ _),Nat.add_sub_cancel_left]
theorem AA{α:Type}(J l:List α)(x:α):(J++x::l)[J.length]?=some x:=nB J (x::l) 0
theorem nM{C:Addr}{n:List Nat}{v:V}{Q:List O->Prop}(ht:PE C n=true)(hn:n.length<=1000)(h:Q (J++[.exc C (J.length+1), .ad [(n,v)]])):tH g (J++[.exc0 C]) (.loc J.length) n v Q:=by
 unfold tH;dsimp only
 rw[AA]
 refine⟨ht,hn,?_⟩
 rw[List.append_assoc]
 show Q ((J++O.exc0 C::[_]).set J.length _)
 rw[VM,List.length_append]
 exact h
theorem zN{l dl:Nat}{C:Addr}{kvs:List (List Nat×V)}{n:List Nat}{v:V}{Q:List O->Prop}(hl:J[l]?=some (.exc C dl))(hd:J[dl]?=some (.ad kvs))(ht:PE C n=true)(hk:kvs.length<=1000)(hn:n.length<=1000)(h:Q (J.set dl (.ad (VB n v kvs)))):tH g J (.loc l) n v Q:=by
 unfold tH;dsimp only
 rw[hl]
 exact⟨C,dl,kvs,by unfold uD oI;rw[hl];dsimp only;rw[hd];rfl,ht,hk,hn,h⟩
theorem dR{l dl:Nat}{C:Addr}{kvs:List (List Nat×V)}{n:List Nat}{v:V}{Q:List O->Prop}(hl:J[l]?=some (.inst C dl))(hd:J[dl]?=some (.ad kvs))(ht:PE C n=true)(hk:kvs.length<=1000)(hn:n.length<=1000)(h:Q (J.set dl (.ad (VB n v kvs)))):tH g J (.loc l) n v Q:=by
 unfold tH;dsimp only
 rw[hl]
 exact⟨C,dl,kvs,by unfold uD oI;rw[hl];dsimp only;rw[hd];rfl,ht,hk,hn,h⟩
theorem cR{l dl:Nat}{C:Addr}{kvs:List (List Nat×V)}{n:List Nat}{v:V}(hl:J[l]?=some (.exc C dl))(hd:J[dl]?=some (.ad kvs))(ht:PE C n=true)(hk:TA n kvs=some v)(ho:aG v=true)(h:QV1 v):∃w,wH g J (.loc l) n=some w/\QV1 w:=by
 refine⟨v,?_,h⟩
 unfold wH uD oI;dsimp only
 rw[hl];dsimp only;rw[hd]
 show(if PE C n=true then _ else _)=_
 rw[if_pos ht]
 show(TA n kvs).bind _=_
 rw[hk]
 exact if_pos ho
theorem fQ{l dl:Nat}{C:Addr}{kvs:List (List Nat×V)}{n:List Nat}{v:V}(hl:J[l]?=some (.inst C dl))(hd:J[dl]?=some (.ad kvs))(ht:PE C n=true)(hk:TA n kvs=some v)(ho:aG v=true)(h:QV1 v):∃w,wH g J (.loc l) n=some w/\QV1 w:=by
 refine⟨v,?_,h⟩
 unfold wH uD oI;dsimp only
 rw[hl];dsimp only;rw[hd]
 show(if PE C n=true then _ else _)=_
 rw[if_pos ht]
 show(TA n kvs).bind _=_
 rw[hk]
 exact if_pos ho
theorem vO{a:List Nat}{k:Nat}(h:QV (.str (a.take k)) J):UE J (.str a) .none (.int (k:Int)) QV:=by
 refine⟨0,_,rfl,rfl,?_⟩
 unfold PG rD
 rw[if_neg (by lia)]
 simpa[<-List.take_take]using h
theorem LE{l:Nat}{vs:List V}(hl:J[l]?=some (.list vs))(hn:vs.length<=100000)(h:QV (.tup vs) J):EH g hd (.type "tuple") [.loc l] J QV:=⟨vs,XA hl,hn,h⟩
theorem nG{l:Nat}{vs:List V}(hl:J[l]?=some (.list vs))(h:QV (.int (vs.length:Int)) J):EH g hd (.builtin "len") [.loc l] J QV:=⟨vs.length,by show(match J[l]? with | some (.list vs)=>some vs.length | some (.dict kvs _)=>some kvs.length | _=>none)=_;rw[hl],h⟩
end
inductive Sp where
 | at(r:bF) (J:List O)
 | to (v:V) (Φ:List O->Prop)
 | exn (Φ:Nat->List O->Prop)
 | val (Φ:V->List O->Prop)
noncomputable def Sp.R:Sp->bF->List O->Prop
 | .at r J,r',LA=>r'=r/\LA=J
 | .to v Φ,r',LA=>r'= .ok v/\Φ LA
 | .exn Φ,r',LA=>∃l,r'= .exn l/\Φ l LA
 | .val Φ,r',LA=>∃v,r'= .ok v/\Φ v LA
noncomputable def Sp.K(K:V->List O->Prop)(E:Nat->List O->Prop):Sp->Prop
 | .at r J=>(match r with | .ok v=>K v J | .exn l=>E l J)
 | .to v Φ=>(∀J,Φ J->K v J->False)->False
 | .exn Φ=>(∀l J,Φ l J->E l J->False)->False
 | .val Φ=>(∀v J,Φ v J->K v J->False)->False
noncomputable def MA(g:G)(d:Nat)(hd:Option Nat)(a:Addr)(vs:List V)(J:List O)(S:Sp):Prop:=CallOk g d hd (.ref a) vs J S.R
noncomputable def WV:List (Option V)->Nat->(V->Prop)->Prop
 | [],_,_=>True
 | o::r,i,K=>match i with
   | 0=>(match o with | some v=>K v | none=>True)
   | i+1=>WV r i K
noncomputable def yG:List (Option V)->Nat->Option V->(List (Option V)->Prop)->Prop
 | [],_,_,K=>K []
 | o::r,i,v,K=>match i with
   | 0=>K (v::r)
   | i+1=>yG r i v fun r=>K (o::r)
noncomputable def KD:List Nat->List V->List (Option V)->(List (Option V)->Prop)->Prop
 | [],_,Z,K=>K Z
 | i::is,vs,Z,K=>match vs with
   | v::vs=>yG Z i (some v) fun Z=>KD is vs Z K
   | []=>K Z
noncomputable def bS:Nat->(List (Option V)->Prop)->Prop
 | 0,K=>K []
 | n+1,K=>bS n fun r=>K (none::r)
noncomputable def oS:List V->Nat->(List (Option V)->Prop)->Prop
 | [],n,K=>bS n K
 | v::vs,n,K=>oS vs n fun r=>K (some v::r)
noncomputable def zb(b:Bool)(A B:Prop):Prop:=∀r,b=r->match r with | true=>A | false=>B
noncomputable def wR(W:(V->List O->Prop)->Prop)(K:V->List O->Prop):Prop:=∀v J,(∀{Q:V->List O->Prop},Q v J->W Q)->K v J
noncomputable def Fd(J:List O)(x y z:V)(K:V->List O->Prop):Prop:=match x with
 | .str s=>∀v,(∀{Q:V->List O->Prop},Q (.str v) J->UE J (.str s) y z Q)->K (.str v) J
 | x=>wR (UE J x y z) K
noncomputable def Dd(J:List O)(op:Operator)(x y:V)(K:V->List O->Prop):Prop:=match x with
 | .int a=>(match y with
   | .int b=>(match op with
     | .Add=>K (.int (a+b)) J
     | .Sub=>K (.int (a - b)) J
     | _=>∀v,KP op (.int a) (.int b)=some v->K v J)
   | _=>True)
 | .loc l=>wR (eX J op (.loc l) y) K
 | x=>∀v,KP op x y=some v->K v J
noncomputable def bJ(x y:V)(f:Int->Int->Prop):Prop:=match x with
 | .int a=>(match y with
   | .int b=>f a b
   | _=>True)
 | _=>True
noncomputable def AW(x y:V)(K:Bool->Prop):Prop:=match y with
 | .none=>(match gE x with
   | some b=>K b
   | none=>True)
 | _=>True
noncomputable def nf(x y:V)(K:Bool->Prop)(D:Prop):Prop:=match x with
 | .str a=>(match y with
   | .str b=>K (decide (a=b))
   | _=>D)
 | .int a=>(match y with
   | .int b=>K (decide (a=b))
   | _=>D)
 | _=>D
noncomputable def oa(x y:V)(K:Bool->Prop)(D:Prop):Prop:=match x with
 | .str a=>(match y with
   | .tup vs=>∀ss,fD vs=some ss->K (ss.contains a)
   | .str s=>(match a with
     | []=>True
     | c::r=>match r with
       | []=>K (s.contains c)
       | _::_=>True)
   | _=>D)
 | _=>D
noncomputable def HV(J:List O)(op:CmpOp)(x y:V)(K:Bool->Prop):Prop:=match op with
 | .Lt=>bJ x y fun a b=>K (decide (a < b))
 | .LtE=>bJ x y fun a b=>K (decide (a<=b))
 | .Gt=>bJ x y fun a b=>K (decide (b < a))
 | .GtE=>bJ x y fun a b=>K (decide (b<=a))
 | .Is=>AW x y K
 | .IsNot=>AW x y fun b=>K (!b)
 | .Eq=>nf x y K (∀b,VL J .Eq x y=some b->K b)
 | .NotEq=>nf x y (fun b=>K (!b)) (∀b,VL J .NotEq x y=some b->K b)
 | .In=>oa x y K (∀b,yP J x y=some b->K b)
 | .NotIn=>oa x y (fun b=>K (!b)) (∀b,yP J x y=some b->K (!b))
noncomputable def tQ(J:List O)(v:V)(K:Bool->Prop):Prop:=match v with
 | .none=>K false
 | .bool b=>K b
 | .int i=>K (decide (i≠0))
 | .str s=>K (!s.isEmpty)
 | .tup vs=>K (!vs.isEmpty)
 | v=>∀b,cM J v=some b->K b
noncomputable def Ma(g:G)(hd:Option Nat)(f:Value)(vs:List V)(J:List O)(K:V->List O->Prop):Prop:=match vs with
 | [.str s]=>(match f with
   | .builtin f=>(match f=="len" with
     | true=>K (.int s.length) J
     | false=>wR (EH g hd (.builtin f) [.str s] J) K)
   | f=>wR (EH g hd f [.str s] J) K)
 | vs=>wR (EH g hd f vs J) K
noncomputable def RP(J:List O)(n:Nat)(v:V)(K:List V->Prop):Prop:=match v with
 | .tup vs=>(match Nat.beq vs.length n with | true=>K vs | false=>True)
 | v=>∀vs,tG J n v=some vs->K vs
noncomputable def La(op:Operator)(x y:V)(K:V->Prop):Prop:=match x with
 | .int a=>(match y with
   | .int b=>(match op with
     | .Add=>K (.int (a+b))
     | .Sub=>K (.int (a - b))
     | _=>True)
   | _=>True)
 | x=>∀v,aX op x y=some v->K v
noncomputable def WL(inv:List O->Prop)(step:V->List O->(V->List O->Prop)->Prop):List V->List O->List V->(List V->List O->Prop)->Prop
 | [],J,acc,K=>inv J->K acc J
 | x::xs,J,acc,K=>inv J->step x J fun v LA=>WL inv step xs LA (acc++[v]) K
noncomputable def yH(hd:Option Nat)(K:Prop):Prop:=match hd with | none=>K | some _=>True
noncomputable def rX(J:List O)(tgt:List Nat)(x:V)(K:List V->Prop):Prop:=match tgt with
 | [_]=>K [x]
 | _=>RP J tgt.length x K
noncomputable def Ed(J:List O)(x:V)(K:List V->(List O->Prop)->Prop):Prop:=match x with
 | .tup vs=>K vs fun u0=>True
 | .loc l=>∀o,J[l]?=some o->match o with
   | .list vs=>K vs fun J=>CB J l=some vs
   | .dict kvs ep=>K (kvs.map fun kv=>V.str kv.1) fun J=>J[l]?=some (.dict kvs ep)
   | _=>True
 | _=>True
noncomputable def jf(e:IE)(f:Int->Prop)(A:Prop):Prop:=match e with
 | .int n=>f n
 | _=>A
mutual
noncomputable def dE(g:G)(d:Nat)(hd:Option Nat):IE->List (Option V)->List O->(V->List O->Prop)->(Nat->List O->Prop)->Prop
 | .var i,Z,J,K,_=>WV Z i fun v=>K v J
 | .glob v,_,J,K,_=>K (.val v) J
 | .none,_,J,K,_=>K .none J
 | .bool b,_,J,K,_=>K (.bool b) J
 | .int i,_,J,K,_=>K (.int i) J
 | .str s,_,J,K,_=>K (.str s) J
 | .bin op a b,Z,J,K,E=>dE g d hd a Z J (fun x J=>dE g d hd b Z J (fun y J=>Dd J op x y K) E) E
 | .cmp op a b,Z,J,K,E=>dE g d hd a Z J (fun x J=>dE g d hd b Z J (fun y J=>HV J op x y fun r=>K (.bool r) J) E) E
 | .cmp2 a op1 b op2 c,Z,J,K,E=>dE g d hd a Z J (fun x J=>dE g d hd b Z J (fun y J=>HV J op1 x y fun r=>jf c (fun n=>HV J op2 y (.int n) fun r2=>K (.bool (r&&r2)) J) True) E) E
 | .and es,Z,J,K,E=>Ka g d hd es Z J K E
 | .neg a,Z,J,K,E=>dE g d hd a Z J (fun x J=>match x with | .int i=>K (.int (-i)) J | _=>True) E
 | .ite c a b,Z,J,K,E=>dT g d hd c Z J (fun J=>dE g d hd a Z J K E) (fun J=>dE g d hd b Z J K E) E
 | .tup es,Z,J,K,E=>uK g d hd es Z J (fun vs J=>match Nat.ble vs.length 1000 with | true=>K (.tup vs) J | false=>True) E
 | .lst es,Z,J,K,E=>uK g d hd es Z J (fun vs J=>match Nat.ble vs.length 1000 with | true=>K (.loc J.length) (J++[.list vs]) | false=>True) E
 | .dct ks es,Z,J,K,E=>uK g d hd es Z J (fun vs J=>vs.length=ks.length->vs.length<=15->(∀ep,K (.loc J.length) (J++[.dict ((ks.zip vs).foldl (fun m kv=>VB kv.1 kv.2 m) []) ep])->False)->False) E
 | .idx a i,Z,J,K,E=>dE g d hd a Z J (fun x J=>dE g d hd i Z J (fun y J=>∀v,CR g J x y=some v->K v J) E) E
 | .slc a lo hi,Z,J,K,E=>dE g d hd a Z J (fun x J=>dE g d hd lo Z J (fun y J=>dE g d hd hi Z J (fun z J=>Fd J x y z K) E) E) E
 | .slc3 a lo st,Z,J,K,E=>dE g d hd a Z J (fun x J=>dE g d hd lo Z J (fun y J=>dE g d hd st Z J (fun z J=>∀Φ,WM x y z J Φ->(∀v J,Φ v J->K v J->False)->False) E) E) E
 | .attr a n,Z,J,K,E=>dE g d hd a Z J (fun x J=>∀v,wH g J x n=some v->K v J) E
 | .call f as,Z,J,K,E=>dE g d hd f Z J (fun x J=>match x with
  | .val v=>(match v with
    | .ref a=>(match PZ a with | true=>uK g d hd as Z J (fun vs J=>∀S:Sp,MA g d hd a vs J S->S.K K E) E | false=>True)
    | .builtin f=>uK g d hd as Z J (fun vs J=>Ma g hd (.builtin f) vs J K) E
    | .type f=>uK g d hd as Z J (fun vs J=>Ma g hd (.type f) vs J K) E
    | _=>True)
  | _=>True) E
 | .meth o n as,Z,J,K,E=>dE g d hd o Z J (fun x J=>match x with
  | .str s=>(match cH.contains n with | true=>uK g d hd as Z J (fun vs J=>wR (DB J s n vs) K) E | false=>True)
  | .val v=>(match v with
    | .ref C=>(match Fa C n with | some f=>uK g d hd as Z J (fun vs J=>∀S:Sp,MA g d hd f vs J S->S.K K E) E | none=>True)
    | .type T=>(match T=="Exception"&&n==[95,95,105,110,105,116,95,95]with
      | true=>uK g d hd as Z J (fun vs J=>CU vs True fun l u0=>((∃C dl,J[l]?=some (.exc C dl))\/∃C,J[l]?=some (.exc0 C))->K .none J) E
      | false=>True)
    | _=>True)
  | .loc l=>∀o,J[l]?=some o->match o with
    | .list _=>(match wF.contains n with | true=>uK g d hd as Z J (fun vs J=>∀xs,CB J l=some xs->wR (TB J l xs n vs) K) E | false=>True)
    | .dict _ _=>(match oF.contains n with | true=>uK g d hd as Z J (fun vs J=>∀xs,dictAt J l=some xs->wR (lE J l xs n vs) K) E | false=>True)
    | .inst C dl=>(match uL C n with
      | some f=>∀kvs,oI J dl=some kvs->TA n kvs=none->uK g d hd as Z J (fun vs J=>∀S:Sp,MA g d hd f (.loc l::vs) J S->S.K K E) E
      | none=>True)
    | _=>True
  | _=>True) E
 | .comp e cap tgt it,Z,J,K,E=>dE g d hd it Z J (fun x J=>yH hd (Ed J x fun xs inv=>xs.length<=10000->
  WL inv (fun x J K=>rX J tgt x fun vs=>KD tgt vs (eD cap Z) fun Z=>dE g d hd e Z J K (fun u0 u0=>True)) xs J [] (fun vs J=>K (.loc J.length) (J++[.list vs])))) E
 | .compR e cap tgt hi,Z,J,K,E=>dE g d hd hi Z J (fun x J=>yH hd (match x with
  | .int n=>0<=n->n<=1000->WL (fun u0=>True) (fun x J K=>yG (eD cap Z) tgt (some x) fun Z=>dE g d hd e Z J K (fun u0 u0=>True)) ((List.range n.toNat).map fun(i:Nat)=>V.int (i:Int)) J [] (fun vs J=>K (.loc J.length) (J++[.list vs]))
  | _=>True)) E
noncomputable def uK(g:G)(d:Nat)(hd:Option Nat):jJ->List (Option V)->List O->(List V->List O->Prop)->(Nat->List O->Prop)->Prop
 | .nil,_,J,K,_=>K [] J
 | .cons e r,Z,J,K,E=>dE g d hd e Z J (fun v J=>uK g d hd r Z J (fun vs J=>K (v::vs) J) E) E
noncomputable def Ka(g:G)(d:Nat)(hd:Option Nat):jJ->List (Option V)->List O->(V->List O->Prop)->(Nat->List O->Prop)->Prop
 | .nil,_,J,_,_=>True
 | .cons e .nil,Z,J,K,E=>dE g d hd e Z J K E
 | .cons e r,Z,J,K,E=>dE g d hd e Z J (fun v J=>tQ J v fun b=>zb b (Ka g d hd r Z J K E) (K v J)) E
noncomputable def dT(g:G)(d:Nat)(hd:Option Nat):IT->List (Option V)->List O->(List O->Prop)->(List O->Prop)->(Nat->List O->Prop)->Prop
 | .not a,Z,J,T,F,E=>dT g d hd a Z J F T E
 | .and es,Z,J,T,F,E=>GV g d hd es Z J T F E
 | .or es,Z,J,T,F,E=>Na g d hd es Z J T F E
 | .e e,Z,J,T,F,E=>dE g d hd e Z J (fun v J=>tQ J v fun b=>zb b (T J) (F J)) E
noncomputable def GV(g:G)(d:Nat)(hd:Option Nat):YU->List (Option V)->List O->(List O->Prop)->(List O->Prop)->(Nat->List O->Prop)->Prop
 | .nil,_,J,T,_,_=>T J
 | .cons e r,Z,J,T,F,E=>dT g d hd e Z J (fun J=>GV g d hd r Z J T F E) F E
noncomputable def Na(g:G)(d:Nat)(hd:Option Nat):YU->List (Option V)->List O->(List O->Prop)->(List O->Prop)->(Nat->List O->Prop)->Prop
 | .nil,_,J,_,F,_=>F J
 | .cons e r,Z,J,T,F,E=>dT g d hd e Z J T (fun J=>Na g d hd r Z J T F E) E
end
noncomputable def uI(step:(Nat->List (Option V)->List O->Prop)->Nat->List (Option V)->List O->Prop)(Z:List (Option V))(J:List O):Prop:=
 (∀P:Nat->List (Option V)->List O->Prop,(∀k Z J,P k Z J->step P k Z J)->P 0 Z J->False)->False
noncomputable def vI(N:List (Option V)->List O->Prop)(K:Fl->List (Option V)->List O->Prop)(fl:Fl)(Z:List (Option V))(J:List O):Prop:=match fl with
 | .next=>N Z J
 | .brk=>K .next Z J
 | .ret v=>K (.ret v) Z J
noncomputable def wM(N:List (Option V)->List O->Prop)(K:Fl->List (Option V)->List O->Prop)(fl:Fl)(Z:List (Option V))(J:List O):Prop:=match fl with
 | .next=>N Z J
 | fl=>K fl Z J
noncomputable def IV(g:G)(J:List O)(x:V)(n:List Nat)(v:V)(K:List O->Prop):Prop:=∀LA,(∀{Q:List O->Prop},Q LA->tH g J x n v Q)->K LA
noncomputable def QP(C:Addr)(i:Nat)(B:Nat->List (Option V)->List O->(Fl->List (Option V)->List O->Prop)->(Nat->List (Option V)->List O->Prop)->Prop)(K:Fl->List (Option V)->List O->Prop)(E:Nat->List (Option V)->List O->Prop)(l:Nat)(Z:List (Option V))(J:List O):Prop:=
 ∀dl,J[l]?=some (.exc C dl)->yG Z i (some (.loc l)) fun Z=>B l Z J (fun fl Z J=>yG Z i none fun Z=>K fl Z J) (fun l Z J=>yG Z i none fun Z=>E l Z J)
mutual
noncomputable def dS(g:G)(d:Nat)(hd:Option Nat):IS->List (Option V)->List O->(Fl->List (Option V)->List O->Prop)->(Nat->List (Option V)->List O->Prop)->Prop
 | .assign i e,Z,J,K,E=>dE g d hd e Z J (fun v J=>yG Z i (some v) fun Z=>K .next Z J) (fun l J=>E l Z J)
 | .unpk is e,Z,J,K,E=>dE g d hd e Z J (fun v J=>yH hd (RP J is.length v fun vs=>KD is vs Z fun Z=>K .next Z J)) (fun l J=>E l Z J)
 | .swap is es,Z,J,K,E=>uK g d hd es Z J (fun vs J=>yH hd (match Nat.beq vs.length is.length with | true=>KD is vs Z fun Z=>K .next Z J | false=>True)) (fun l J=>E l Z J)
 | .setAttr o n e,Z,J,K,E=>dE g d hd e Z J (fun v J=>dE g d hd o Z J (fun x J=>IV g J x n v (K .next Z)) (fun l J=>E l Z J)) (fun l J=>E l Z J)
 | .setAttr2 o1 n1 o2 n2 e,Z,J,K,E=>dE g d hd e Z J (fun v J=>yH hd (match v with
  | .tup [a,b]=>dE g d hd o1 Z J (fun x J=>IV g J x n1 a (fun J=>dE g d hd o2 Z J (fun y J=>IV g J y n2 b (K .next Z)) (fun l J=>E l Z J))) (fun l J=>E l Z J)
  | _=>True)) (fun l J=>E l Z J)
 | .setIdx o i e,Z,J,K,E=>dE g d hd e Z J (fun v J=>dE g d hd o Z J (fun x J=>dE g d hd i Z J (fun k J=>∀Φ,jE J x k v Φ->(∀J,Φ J->K .next Z J->False)->False) (fun l J=>E l Z J)) (fun l J=>E l Z J)) (fun l J=>E l Z J)
 | .aug i op e,Z,J,K,E=>WV Z i fun x=>dE g d hd e Z J (fun v J=>La op x v fun r=>yG Z i (some r) fun Z=>K .next Z J) (fun l J=>E l Z J)
 | .augAttr o n op e,Z,J,K,E=>dE g d hd o Z J (fun x J=>∀y,wH g J x n=some y->dE g d hd e Z J (fun v J=>La op y v fun r=>IV g J x n r (K .next Z)) (fun l J=>E l Z J)) (fun l J=>E l Z J)
 | .expr e,Z,J,K,E=>dE g d hd e Z J (fun u0 J=>K .next Z J) (fun l J=>E l Z J)
 | .ret e,Z,J,K,E=>dE g d hd e Z J (fun v J=>K (.ret v) Z J) (fun l J=>E l Z J)
 | .ret0,Z,J,K,E=>K (.ret .none) Z J
 | .ite c a b,Z,J,K,E=>dT g d hd c Z J (fun J=>dB g d hd a Z J K E) (fun J=>dB g d hd b Z J K E) (fun l J=>E l Z J)
 | .whl c b,Z,J,K,E=>uI (fun P u0 Z J=>dT g d hd c Z J (fun J=>dB g d hd b Z J (vI (P 0) K) E) (fun J=>K .next Z J) (fun l J=>E l Z J)) Z J
 | .for1 i it b,Z,J,K,E=>dE g d hd it Z J (fun x J=>yH hd (match x with
  | .tup vs=>uI (fun P k Z J=>∀r,vs[k]?=r->match r with
    | none=>K .next Z J
    | some v=>yG Z i (some v) fun Z=>dB g d hd b Z J (vI (P (k+1)) K) E) Z J
  | .loc l=>∀o,J[l]?=some o->match o with
    | .dict kvs ep=>uI (fun P k Z J=>J[l]?=some (.dict kvs ep)->∀r,kvs[k]?=r->match r with
      | none=>K .next Z J
      | some v=>yG Z i (some (.str v.1)) fun Z=>dB g d hd b Z J (vI (P (k+1)) K) E) Z J
    | .list _=>uI (fun P k Z J=>∀r,cC J x k=some r->match r with
      | none=>K .next Z J
      | some v=>yG Z i (some v) fun Z=>dB g d hd b Z J (vI (P (k+1)) K) E) Z J
    | _=>True
  | _=>True)) (fun l J=>E l Z J)
 | .forT is it b,Z,J,K,E=>dE g d hd it Z J (fun x J=>yH hd (uI (fun P k Z J=>∀r,cC J x k=some r->match r with
         | none=>K .next Z J
         | some v=>RP J is.length v fun vs=>KD is vs Z fun Z=>dB g d hd b Z J (vI (P (k+1)) K) E) Z J)) (fun l J=>E l Z J)
 | .forR0 i hi b,Z,J,K,E=>dE g d hd hi Z J (fun y J=>yH hd (match y with
  | .int hi=> -1000<=hi->hi<=1000->uI (fun P k Z J=>zb (decide ((k:Int) < hi)) (yG Z i (some (.int (k:Int))) fun Z=>dB g d hd b Z J (vI (P (k+1)) K) E) (K .next Z J)) Z J
  | _=>True)) (fun l J=>E l Z J)
 | .forE i j it b,Z,J,K,E=>dE g d hd it Z J (fun x J=>yH hd (match x with
  | .loc l=>∀vs,CB J l=some vs->uI (fun P k Z J=>∀r,cC J (.loc l) k=some r->match r with
   | none=>K .next Z J
   | some v=>yG Z i (some (.int k)) fun Z=>yG Z j (some v) fun Z=>dB g d hd b Z J (vI (P (k+1)) K) E) Z J
  | _=>True)) (fun l J=>E l Z J)
 | .raise e,Z,J,K,E=>dE g d hd e Z J (fun x J=>match x with
  | .loc l=>∀C dl,J[l]?=some (.exc C dl)->(hd=none\/hd=some l)->E l Z J
  | _=>True) (fun l J=>E l Z J)
 | .tryE b C i hb,Z,J,K,E=>dB g d hd b Z J K (QP C i (fun l=>dB g d (some l) hb) K E)
 | .tryF b f,Z,J,K,E=>dB g d hd b Z J (fun fl Z J=>dB g d hd f Z J (wM (K fl) fun u0 u0 u0=>True) E)
  (fun l Z J=>dB g d (some l) f Z J (wM (E l) fun u0 u0 u0=>True) E)
 | .brk,Z,J,K,E=>K .brk Z J
 | .pass,Z,J,K,E=>K .next Z J
noncomputable def dB(g:G)(d:Nat)(hd:Option Nat):pE->List (Option V)->List O->(Fl->List (Option V)->List O->Prop)->(Nat->List (Option V)->List O->Prop)->Prop
 | .nil,Z,J,K,E=>K .next Z J
 | .cons s .nil,Z,J,K,E=>dS g d hd s Z J K E
 | .cons s r,Z,J,K,E=>dS g d hd s Z J (wM (fun Z J=>dB g d hd r Z J K E) K) E
end
theorem nn{p:Prop}(h:¬¬p):p:=Classical.byContradiction h
noncomputable def NK{α:Type}(K:α->List O->Prop)(v:α)(J:List O):Prop:=¬K v J
section
variable{g:G}{d:Nat}{hd:Option Nat}{J:List O}{K:V->List O->Prop}{KE:Nat->List O->Prop}
noncomputable def NR(K:V->List O->Prop)(KE:Nat->List O->Prop)(r:bF)(J:List O):Prop:=match r with | .ok v=>¬K v J | .exn l=>¬KE l J
theorem rU{a:Addr}{vs:List V}(h:¬∀S:Sp,MA g d hd a vs J S->S.K K KE):CallOk g d hd (.ref a) vs J (NR K KE):=nn fun n=>h fun S w=>by
 induction S using Sp.casesOn with
 | «at» r LA=>induction r using bF.casesOn with
   | ok v=>exact nn fun k=>n (w.mono fun u0 u0 ⟨a,b⟩=>by subst a;subst b;exact k)
   | exn l=>exact nn fun k=>n (w.mono fun u0 u0 ⟨a,b⟩=>by subst a;subst b;exact k)
 | to v Φ=>exact fun k=>n (w.mono fun u0 u0 ⟨a,b⟩=>by subst a;exact fun q=>k _ b q)
 | exn Φ=>exact fun k=>n (w.mono fun u0 u0 ⟨_,a,b⟩=>by subst a;exact fun q=>k _ _ b q)
 | val Φ=>exact fun k=>n (w.mono fun u0 u0 ⟨_,a,b⟩=>by subst a;exact fun q=>k _ _ b q)
theorem df{W:(V->List O->Prop)->Prop}(h:¬wR W K):W (NK K):=nn fun n=>h fun v J w=>nn fun q=>n (w q)
theorem ff{x y z:V}(h:¬Fd J x y z K):UE J x y z (NK K):=nn fun n=>h (by
 induction x using V.casesOn with
 | str s=>exact fun v w=>nn fun q=>n (w q)
 | _=>exact fun v J w=>nn fun q=>n (w q))
theorem bf{op:Operator}{x y:V}(h:¬Dd J op x y K):eX J op x y (NK K):=nn fun n=>h (by
 induction x using V.casesOn with
 | int a=>induction y using V.casesOn with
   | int b=>
     have g:∀v,KP op (.int a) (.int b)=some v->K v J:=fun v e=>nn fun q=>n ⟨v,e,q⟩
     induction op using PySem.Operator.casesOn <;>first | exact g _ rfl | exact g
   | _=>trivial
 | loc l=>exact fun v J w=>nn fun q=>n (w q)
 | _=>exact fun v e=>nn fun q=>n ⟨v,e,q⟩)
theorem qc{f:Value}{vs:List V}(h:¬Ma g hd f vs J K):EH g hd f vs J (NK K):=nn fun n=>by
 have o:wR (EH g hd f vs J) K:=fun v J w=>nn fun q=>n (w q)
 refine h ?_
 rcases vs with _ | ⟨v,_ | ⟨w,r⟩⟩
 ·exact o
 ·induction v using V.casesOn with
  | str s=>induction f using Value.casesOn with
    | builtin f=>
      show match f=="len" with | true=>K (.int s.length) J | false=>wR (EH g hd (.builtin f) [.str s] J) K
      induction q:f=="len" using Bool.casesOn with
      | true=>have q:=eq_of_beq q;subst q;exact nn fun q=>n ⟨_,rfl,q⟩
      | false=>exact o
    | _=>exact o
  | _=>exact o
 ·induction v using V.casesOn <;>exact o
theorem bR{x y:V}{f:Int->Int->Prop}(h:∀a b,x= .int a->y= .int b->f a b):bJ x y f:=by
 induction x using V.casesOn with
 | int a=>induction y using V.casesOn with
   | int b=>exact h a b rfl rfl
   | _=>trivial
 | _=>trivial
theorem CQ{x y:V}{K:Bool->Prop}(h:∀b,y= .none->gE x=some b->K b):AW x y K:=by
 induction y using V.casesOn with
 | none=>
   show match gE x with | some b=>K b | none=>True
   induction e:gE x using Option.casesOn with
   | none=>trivial
   | some b=>exact h b rfl e
 | _=>trivial
theorem MV{x y:V}{K:Bool->Prop}{D:Prop}(h:∀b,ZU J 8 x y=some b->K b)(d:D):nf x y K D:=by
 induction x using V.casesOn with
 | str a=>induction y using V.casesOn with
   | str b=>exact h _ (vX (J:=J) 8 a b)
   | _=>exact d
 | int a=>induction y using V.casesOn with
   | int b=>exact h _ (uX (J:=J) 8 a b)
   | _=>exact d
 | _=>exact d
theorem XS{x y:V}{K:Bool->Prop}{D:Prop}(h:∀b,yP J x y=some b->K b)(d:D):oa x y K D:=by
 induction x using V.casesOn with
 | str a=>induction y using V.casesOn with
   | tup vs=>exact fun ss e=>h _ (congrArg (Option.map fun ss:List (List Nat)=>ss.contains a) e)
   | str s=>rcases a with _ | ⟨c,_ | ⟨_,_⟩⟩ <;>first | trivial | exact h _ rfl
   | _=>exact d
 | _=>exact d
theorem bX{op:CmpOp}{x y:V}{K:Bool->Prop}(h:¬HV J op x y K):∃r,VL J op x y=some r/\¬K r:=nn fun n=>h (by
 have g:∀b,VL J op x y=some b->K b:=fun b e=>nn fun q=>n ⟨b,e,q⟩
 clear h n
 induction op using PySem.CmpOp.casesOn with
 | Is=>exact CQ fun b e1 e2=>g _ (by rw[e1];exact e2)
 | IsNot=>exact CQ fun b e1 e2=>g _ (by rw[e1];exact congrArg (Option.map (!·)) e2)
 | Eq=>exact MV (J:=J) (fun b e=>g _ e) g
 | NotEq=>exact MV (J:=J) (fun b e=>g _ (congrArg (Option.map (!·)) e)) g
 | In=>exact XS (J:=J) (fun b e=>g _ e) g
 | NotIn=>exact XS (J:=J) (fun b e=>g _ (congrArg (Option.map (!·)) e)) fun b e=>g _ (congrArg (Option.map (!·)) e)
 | _=>exact bR fun a b e1 e2=>g _ (by rw[e1,e2];rfl))
theorem sU{v:V}{K:Bool->Prop}(h:¬tQ J v K):∃b,cM J v=some b/\¬K b:=nn fun n=>h (by
 have g:∀b,cM J v=some b->K b:=fun b e=>nn fun q=>n ⟨b,e,q⟩
 induction v using V.casesOn <;>first | exact g _ rfl | exact g)
noncomputable def NI(b:Bool)(A B:Prop):Prop:=match b with | true=>¬A | false=>¬B
theorem yb{b:Bool}{A B:Prop}(h:¬zb b A B):NI b A B:=by
 cases b
 ·exact fun q=>h fun r e=>by subst e;exact q
 ·exact fun q=>h fun r e=>by subst e;exact q
theorem cf{p:Prop} [Decidable p]{A B:Prop}(h:¬zb (decide p) A B):(p/\¬A)\/(¬p/\¬B):=by
 by_cases q:p
 ·rw[decide_eq_true q]at h;exact .inl ⟨q,yb h⟩
 ·rw[decide_eq_false q]at h;exact .inr ⟨q,yb h⟩
theorem DY{i:Nat}{K:V->Prop}:∀{Z:List (Option V)},(∀v,Z[i]?=some (some v)->K v)->WV Z i K:=by
 induction i with
 | zero=>intro Z h;induction Z using List.casesOn with
   | nil=>trivial
   | cons o r=>induction o using Option.casesOn with
     | none=>trivial
     | some v=>exact h v rfl
 | succ i ih=>intro Z h;induction Z using List.casesOn with
   | nil=>trivial
   | cons o r=>exact ih fun v e=>h v (by simpa using e)
theorem CL{v:Option V}:∀{i:Nat} {Z:List (Option V)} {K:List (Option V)->Prop},yG Z i v K=K (Z.set i v)
 | _,[],_=>rfl
 | 0,_::_,_=>rfl
 | i+1,o::r,K=>by show yG r i v _=_;rw[CL];rfl
theorem aI:∀{is:List Nat} {vs:List V} {Z:List (Option V)} {K:List (Option V)->Prop},KD is vs Z K=K (IC Z is vs)
 | [],[],_,_=>rfl
 | [],_::_,_,_=>rfl
 | _::_,[],_,_=>rfl
 | i::is,v::vs,Z,K=>by show yG Z i (some v) _=_;rw[CL,aI];rfl
theorem BQ:∀{n:Nat} {K:List (Option V)->Prop},bS n K=K (List.replicate n none)
 | 0,_=>rfl
 | n+1,K=>by show bS n _=_;rw[BQ];rfl
theorem XQ:∀{vs:List V} {n:Nat} {K:List (Option V)->Prop},oS vs n K=K (vs.map some++List.replicate n none)
 | [],_,_=>BQ
 | v::vs,n,K=>by show oS vs n _=_;rw[XQ];rfl
theorem FE{i:Nat}{v:Option V}{Z:List (Option V)}{K:List (Option V)->Prop}(h:K (Z.set i v)):yG Z i v K:=by rw[CL];exact h
theorem bI{is:List Nat}{vs:List V}{Z:List (Option V)}{K:List (Option V)->Prop}(h:K (IC Z is vs)):KD is vs Z K:=by rw[aI];exact h
theorem vc{i:Nat}{Z:List (Option V)}{K:V->Prop}(h:¬WV Z i K):∃v,Z[i]?=some (some v)/\¬K v:=nn fun n=>h (DY fun v e=>nn fun q=>n ⟨v,e,q⟩)
theorem pR{n:Nat}{v:V}{K:List V->Prop}(h:¬RP J n v K):∃vs,tG J n v=some vs/\¬K vs:=nn fun q=>by
 have g:∀b,tG J n v=some b->K b:=fun b e=>nn fun k=>q ⟨b,e,k⟩
 refine h ?_
 induction v using V.casesOn with
 | tup vs=>
   show match Nat.beq vs.length n with | true=>K vs | false=>True
   induction e:Nat.beq vs.length n using Bool.casesOn with
   | true=>exact g _ (if_pos (Nat.eq_of_beq_eq_true e))
   | false=>trivial
 | _=>exact g
theorem pc{op:Operator}{x y:V}{K:V->Prop}(h:¬La op x y K):∃v,aX op x y=some v/\¬K v:=nn fun n=>by
 have g:∀b,aX op x y=some b->K b:=fun b e=>nn fun k=>n ⟨b,e,k⟩
 refine h ?_
 induction x using V.casesOn with
 | int a=>induction y using V.casesOn with
   | int b=>induction op using PySem.Operator.casesOn <;>first | exact g _ rfl | trivial
   | _=>trivial
 | _=>exact g
theorem rG{K:Prop}(h:¬yH hd K):hd=none/\¬K:=by
 induction hd using Option.casesOn with
 | none=>exact⟨rfl,h⟩
 | some _=>exact absurd trivial h
theorem uc{n m:Nat}{K:Prop}(h:¬match Nat.ble n m with | true=>K | false=>True):n<=m/\¬K:=by
 induction e:Nat.ble n m using Bool.casesOn with
 | true=>rw[e]at h;exact⟨Nat.le_of_ble_eq_true e,h⟩
 | false=>rw[e]at h;exact absurd trivial h
theorem gf{tgt:List Nat}{x:V}{K:List V->Prop}(h:¬rX J tgt x K):∃vs,pe J tgt x=some vs/\¬K vs:=by
 rcases tgt with _ | ⟨t,_ | ⟨t2,r⟩⟩
 ·exact pR h
 ·exact⟨_,rfl,h⟩
 ·exact pR h
theorem cX{x:V}{n:List Nat}{v:V}{K:List O->Prop}(h:¬IV g J x n v K):tH g J x n v (fun J=>¬K J):=nn fun q=>h fun u0 w=>nn fun k=>q (w k)
theorem qI{step:(Nat->List (Option V)->List O->Prop)->Nat->List (Option V)->List O->Prop}{Z:List (Option V)}(h:¬uI step Z J)(P:Nat->List (Option V)->List O->Prop)(hP:∀k Z J,¬step (fun k Z J=>¬P k Z J) k Z J->P k Z J):P 0 Z J:=
 nn fun n0=>h fun f=>f (fun k Z J=>¬P k Z J) (fun k Z J np=>nn fun ns=>np (hP k Z J ns)) n0
end
theorem JU{J:List O}{x y z:V}{Q Q':V->List O->Prop}(k:∀v J,Q v J->Q' v J)(h:WM x y z J Q):WM x y z J Q':=by
 induction x using V.casesOn with
 | script=>induction y using V.casesOn with
   | int i=>induction z using V.casesOn with
     | int n=>exact⟨h.1,h.2.1,fun js hj=>k _ _ (h.2.2 js hj)⟩
     | _=>exact h.elim
   | _=>exact h.elim
 | _=>exact h.elim
theorem UQ{J:List O}{x i v:V}{Q Q':List O->Prop}(k:∀J,Q J->Q' J)(h:jE J x i v Q):jE J x i v Q':=by
 induction x using V.casesOn with
 | loc l=>induction i using V.casesOn with
   | str s=>obtain⟨a,b,c,h⟩:=h;exact⟨a,b,c,fun ep=>k _ (h ep)⟩
   | int i=>
     obtain⟨a,b,h⟩:=h
     refine⟨a,b,?_⟩
     split at h
     ·rename_i q;rw[if_pos q];exact⟨h.1,k _ h.2⟩
     ·rename_i q;rw[if_neg q];exact⟨h.1,k _ h.2⟩
   | _=>exact h.elim
 | _=>exact h.elim
theorem wc{x y z:V}{J:List O}{K:V->List O->Prop}(h:¬∀Φ,WM x y z J Φ->(∀v J,Φ v J->K v J->False)->False):WM x y z J (NK K):=nn fun n=>h fun Φ w f=>n (JU f w)
theorem dX{x i v:V}{J:List O}{K:List O->Prop}(h:¬∀Φ,jE J x i v Φ->(∀J,Φ J->K J->False)->False):jE J x i v (fun J=>¬K J):=nn fun n=>h fun Φ w f=>n (UQ f w)
noncomputable def cF(K:bF->List O->Prop)(fl:Fl)(Z:List (Option V))(J:List O):Prop:=match fl with
 | .ret v=>K (.ok v) J
 | .next=>K (.ok .none) J
 | .brk=>True
noncomputable def JF(K:bF->List O->Prop)(l:Nat)(Z:List (Option V))(J:List O):Prop:=K (.exn l) J
noncomputable def pE.fst:pE->IS
 | .cons s _=>s
 | .nil=> .pass
noncomputable def IS.hb:IS->pE
 | .tryE _ _ _ b=>b
 | _=> .nil
noncomputable def IS.tb:IS->pE
 | .tryE b _ _ _=>b
 | _=> .nil
noncomputable def IS.wb:IS->pE
 | .whl _ b=>b
 | _=> .nil
noncomputable def pE.tl:pE->pE
 | .cons _ r=>r
 | .nil=> .nil
noncomputable def dF(g:G)(d:Nat)(hd:Option Nat)(F:pA)(vs:List V)(J:List O)(K:bF->List O->Prop):Prop:=
 oS (vs++F.dflt.drop (F.dflt.length - (F.np - vs.length))) (F.nm.length - F.np) fun Z=>dB g d hd F.body Z J (cF K) (JF K)
section
open PyData
theorem yV(a b:Int)(h2:b.natAbs.log2 < 9000):Builtin.divisionGoesByPylong a b=false:=PyProof.noPylong_of_log2 h2
section
variable{g:G}{s:Shared}{U:List Addr}{J:List O}{A:Around}{d:Nat}{hd:Option Nat}{E:Value->Shared->Prop}
theorem Dc{α:Type}{c:Prop}{i:Decidable c}{a v:α}(h:(if c then some a else none)=some v):c/\a=v:=by
 by_cases q:c
 ·rw[if_pos q]at h;exact⟨q,Option.some.inj h⟩
 ·rw[if_neg q]at h;cases h
theorem cps_append(a b:List Nat):((⟨a.toArray⟩:Str)++(⟨b.toArray⟩:Str))=(⟨(a++b).toArray⟩:Str):=by
 apply Str.ext'
 rw[Str.cps_append]
 simp
theorem fX(C:Cx g A s U d hd)(S:St g s U J){op:Operator}{x y:V}{a b:Value}{Q:V->List O->Prop}(ra:VA g s.heap U x a)(rb:VA g s.heap U y b)(h:eX J op x y Q):
 wpAny (model g.prog g.w) A (binaryOp op a b) (wA g s.heap U [] Q) E s:=by
 induction x using V.casesOn with
 | loc la=>induction y using V.casesOn with
   | loc lb=>
     obtain⟨rfl,xs,ys,hx,hy,hn,hq⟩:=h
     obtain⟨p,os,n,hp,ho,z,r⟩:=S.list hx
     obtain⟨p',os',n',hp',ho',z',r'⟩:=S.list hy
     obtain⟨qg,yI,rfl⟩:=ra
     obtain⟨sg,Sd,rfl⟩:=rb
     rw[hp]at yI;cases yI
     rw[hp']at Sd;cases Sd
     have l1:=r.len;have l2:=r'.len
     simp only[Array.length_toList]at l1 l2
     refine PySem.P.add_list ho ho' ?_ (by rw[l1,l2,OA];exact TD hn)
     refine CF hq ⟨_,?_,rfl⟩ (S.pushT _ (.list (xs++ys)) rfl ⟨os++os',0,Heap.get?_push_size _ rfl,by simp;exact TD hn,?_⟩) (.pushT ..)
     ·rw[<-S.len];exact HC ..
     ·rw[Array.toList_append]
      refine PA.congr (fun u0 u0 t=>nC _ t) (fun l a e=>?_) _ _ (r.append r')
      rw[List.getElem?_append_left (List.getElem?_eq_some_iff.mp e).1];exact e
   | _=>exact h.elim
 | int i=>
   obtain⟨v,hv,hq⟩:=h
   induction y using V.casesOn with
   | int j=>
     obtain⟨t,rfl⟩:=ra;obtain⟨u,rfl⟩:=rb
     induction op using PySem.Operator.casesOn with
     | Add=>cases hv;exact wpAny_add_int (dD S hq ⟨_,rfl⟩ _)
     | Sub=>cases hv;exact PySem.P.sub_int (dD S hq ⟨_,rfl⟩ _)
     | Mult=>
       obtain⟨hb,rfl⟩:=Dc hv
       refine mul_int (dD S hq ⟨_,rfl⟩ _) (PySem.IntMulOk.of_left (PySem.intBits_le_64 ?_ ?_)) <;>lia
     | FloorDiv=>
       obtain⟨hb,rfl⟩:=Dc hv
       exact floordiv_int (by lia) (dD S hq ⟨_,rfl⟩ _) (.inl (yV _ _ hb.2))
     | Mod=>
       obtain⟨hb,rfl⟩:=Dc hv
       exact mod_int (by lia) (dD S hq ⟨_,rfl⟩ _)
     | Pow=>
       obtain⟨⟨rfl,rfl⟩,rfl⟩:=Dc hv
       exact PySem.AutoIntOps.pow_4 (by decide) (by decide) (by decide) (by decide) (by decide+kernel) (dD S hq ⟨_,rfl⟩ _)
     | _=>exact BF hv
   | _=>exact BF hv
 | str s=>
   obtain⟨v,hv,hq⟩:=h
   induction op using PySem.Operator.casesOn with
   | Add=>induction y using V.casesOn with
     | str s2=>
       obtain⟨hb,rfl⟩:=Dc hv
       obtain⟨t,rfl,z1,c1⟩:=ra;obtain⟨u,rfl,z2,c2⟩:=rb
       refine add_str (fun t' tk=>?_) (by rw[eB,eB];exact hb)
       rw[cps_append]
       exact dD S hq ⟨_,rfl,by simpa using hb,fun c m=>(List.mem_append.mp m).elim (c1 c) (c2 c)⟩ _
     | _=>exact BF hv
   | Mult=>induction y using V.casesOn with
     | int n=>
       obtain⟨⟨rfl,rfl⟩,rfl⟩:=Dc hv
       obtain⟨t,rfl,z1,c1⟩:=ra;obtain⟨u,rfl⟩:=rb
       refine PySem.SB.mul (by refine⟨by decide,fun u0 u0=>by decide,fun u0 u0=>by decide⟩) fun t' k=>?_
       exact dD S hq ⟨_,rfl,by decide,by decide⟩ _
     | _=>exact BF hv
   | _=>exact BF hv
 | _=>obtain⟨v,hv,hq⟩:=h;exact BF hv
theorem WI(Y:xC g)(S:St g s U J){l:Nat}{a:Addr}(h:U[l]?=some a):(a==sysModules)=false:=by
 have:=S.fresh a (List.mem_of_getElem? h)
 have:(a:Nat)≠1:=Nat.ne_of_gt (Nat.lt_of_lt_of_le (by decide:(1:Nat) < 100) this.2)
 simpa[sysModules]using this
theorem sB.len{h:Heap}:∀{vs:List (List Nat×V)} {xs:List (Str×Value)},sB g h U vs xs->xs.length=vs.length
 | [],[],_=>rfl
 | v::vs,x::xs,⟨_,b⟩=>congrArg (· +1) (sB.len b)
 | [],_::_,r=>r.elim
 | _::_,[],r=>r.elim
noncomputable def cb:Option O->Option Bool
 | some (.list vs)=>some (!vs.isEmpty)
 | some (.dict kvs _)=>some (!kvs.isEmpty)
 | _=>none
theorem xN(Y:xC g)(S:St g s U J){x:V}{a:Value}{b:Bool}{Q:Bool->Shared->Prop}(ra:VA g s.heap U x a)(h:cM J x=some b)(hq:∀t,Q b {s with toks:=t}):
 wpAny (model g.prog g.w) A (truthy a) Q E s:=by
 induction x using V.casesOn with
 | none=>cases h;subst ra;exact PyProof.Rows.truthy_none (hq _)
 | bool b=>cases h;subst ra;exact wpAny_truthy_bool (hq _)
 | int i=>
   cases h;obtain⟨t,rfl⟩:=ra
   refine PyProof.Rows.truthy_int ?_
   have:=hq s.toks
   have e:(i !=0)=decide (i≠0):=by by_cases h:i=0 <;>simp[h]
   rw[e];exact this
 | str x=>
   cases h;obtain⟨t,rfl,z,_⟩:=ra
   refine PySem.P.truthy_str (by rw[eB];rw[OA]at z;lia) ?_
   have:=hq (s.toks+1+1)
   rw[eB]
   have e:(((x.length:Nat):Int) !=0)=!x.isEmpty:=by induction x using List.casesOn <;>simp;lia
   rw[e];exact this
 | tup vs=>
   cases h;obtain⟨t,os,rfl,ht,z,r⟩:=ra
   have l1:=r.len
   simp only[Array.length_toList]at l1
   refine PyProof.Rows.truthy_tuple ht (by lia) ?_
   have e:(!os.isEmpty)=!vs.isEmpty:=by
    have:os.isEmpty=vs.isEmpty:=by
     rw[Bool.eq_iff_iff]
     simp only[Array.isEmpty_iff_size_eq_zero,List.isEmpty_iff_length_eq_zero,l1]
    rw[this]
   rw[e];exact hq _
 | loc l=>
   obtain⟨p,hp,rfl⟩:=ra
   have h:cb J[l]?=some b:=h
   rcases e:J[l]? with _ | (⟨vs⟩ | ⟨vs,ep⟩ | _ | _ | _ | _) <;>rw[e]at h <;>first | exact BF h | skip
   ·cases h
    obtain⟨p',hp',os,n,ho,z,r⟩:=S.obj e
    rw[hp]at hp';cases hp'
    have l1:=r.len
    simp only[Array.length_toList]at l1
    refine wpAny_truthy_list (OD ho) (by lia) ?_
    have e:(!os.isEmpty)=!vs.isEmpty:=by
     have:os.isEmpty=vs.isEmpty:=by
      rw[Bool.eq_iff_iff]
      simp only[Array.isEmpty_iff_size_eq_zero,List.isEmpty_iff_length_eq_zero,l1]
     rw[this]
    rw[e];exact hq _
   ·cases h
    obtain⟨p',hp',ps,⟨o,es,ho⟩,z,r⟩:=S.obj e
    rw[hp]at hp';cases hp'
    have l1:=r.len
    replace ho:s.heap.DictOf (strKind g.prog g.w) p ps:=⟨o,es,_,ho⟩
    refine wpAny_truthy_dict (WI Y S hp) ho (by rw[OA]at z;lia) ?_
    have e:(!ps.isEmpty)=!vs.isEmpty:=by
     have:ps.isEmpty=vs.isEmpty:=by
      rw[Bool.eq_iff_iff]
      simp only[List.isEmpty_iff_length_eq_zero,l1]
     rw[this]
    rw[e];exact hq _
 | _=>exact BF h
theorem nW{x:List Nat}(h:∀c∈x,c < 0x110000):PyData.strOk (⟨x.toArray⟩:Str)=true:=by
 unfold PyData.strOk
 rw[<-Array.all_toList]
 simpa using h
theorem ZP(n:Nat){v:V}{x:Value}{D:PyData}(r:VA g s.heap U v x)(e:OV v=some D):(∃as,Reads s.heap x D as)/\D.canLay0=true/\D.depth<=n:=by
 induction v using V.casesOn with
 | none=>cases e;subst r;exact⟨⟨_, .none⟩,rfl,Nat.zero_le _⟩
 | bool b=>cases e;subst r;exact⟨⟨_, .bool _⟩,rfl,Nat.zero_le _⟩
 | int b=>cases e;obtain⟨t,rfl⟩:=r;exact⟨⟨_, .int _ _⟩,rfl,Nat.zero_le _⟩
 | str b=>cases e;obtain⟨t,rfl,_,c⟩:=r;exact⟨⟨_, .str _ _⟩,by simp[canLay0,nW c],Nat.zero_le _⟩
 | _=>exact BF e
theorem WS{f:V->Option PyData}{n:Nat}(hf:∀v x D,VA g s.heap U v x->f v=some D->(∃as,Reads s.heap x D as)/\D.canLay0=true/\D.depth<=n):
 ∀{vs:List V} {xs:List Value} {Ds:List PyData},PA g s.heap U vs xs->LR f vs=some Ds->(∃as,ReadsAll s.heap xs Ds as)/\canLayAll0 Ds=true/\depthAll Ds<=n:=by
 intro vs
 induction vs with
 | nil=>intro xs Ds r e;cases e;induction xs using List.casesOn with
   | nil=>exact⟨⟨_, .nil⟩,rfl,Nat.zero_le _⟩
   | cons _ _=>exact r.elim
 | cons v vs ih=>intro xs Ds r e;induction xs using List.casesOn with
   | nil=>exact r.elim
   | cons x xs=>
     have e:(match f v with | some d=>(match LR f vs with | some ds=>some (d::ds) | Option.none=>Option.none) | Option.none=>Option.none)=some Ds:=e
     induction e1:f v using Option.casesOn with
     | none=>rw[e1]at e;cases e
     | some d=>
       induction e2:LR f vs using Option.casesOn with
       | none=>rw[e1,e2]at e;cases e
       | some ds=>
         rw[e1,e2]at e
         cases e
         obtain⟨⟨a1,q1⟩,q2,q3⟩:=hf v x d r.1 e1
         obtain⟨⟨a2,p1⟩,p2,p3⟩:=ih r.2 e2
         exact⟨⟨_, .cons q1 p1⟩,by simp[canLayAll0,q2,p2],by simp only[depthAll];exact Nat.max_le.mpr ⟨q3,p3⟩⟩
theorem dH(S:St g s U J):∀(n:Nat) (v:V) (x:Value) (D:PyData),VA g s.heap U v x->toD J n v=some D->(∃as,Reads s.heap x D as)/\D.canLay0=true/\D.depth<=n:=by
 intro n
 induction n with
 | zero=>intro v x D r e;exact ZP 0 r e
 | succ n ih=>
   intro v x D r e
   induction v using V.casesOn with
   | tup vs=>
     obtain⟨ds,e1,rfl⟩:=Option.map_eq_some_iff.mp (e)
     obtain⟨a,os,rfl,⟨o,ho,hc,k,hd⟩,_,r⟩:=r
     obtain⟨⟨as,q1⟩,q2,q3⟩:=WS ih r e1
     exact⟨⟨_, .tuple ho hc hd q1⟩,by simpa[canLay0]using q2,by simp[depth];exact q3⟩
   | loc l=>
     obtain⟨vs,hv,e⟩:=Option.bind_eq_some_iff.mp (e)
     ·obtain⟨ds,e1,rfl⟩:=Option.map_eq_some_iff.mp e
      obtain⟨a,os,k,ha,ho,_,r'⟩:=S.list hv
      obtain⟨a',ha',rfl⟩:=r
      rw[ha]at ha';cases ha'
      obtain⟨⟨as,q1⟩,q2,q3⟩:=WS ih r' e1
      exact⟨⟨_, .list ho rfl rfl q1⟩,by simpa[canLay0]using q2,by simp[depth];exact q3⟩
   | _=>exact ZP (n+1) r e
end
end
section
variable{g:G}{s:Shared}{U:List Addr}{J:List O}{A:Around}{d:Nat}{hd:Option Nat}{E:Value->Shared->Prop}
theorem eK:∀(vs:List V) (ss:List (List Nat)),fD vs=some ss->iG J 0 vs=some (ss.map fun x=> .str ⟨x.toArray⟩)
 | [],_,e=>by cases e;rfl
 | v::vs,ss,e=>by
   obtain⟨x,ex,e⟩:=Option.bind_eq_some_iff.mp e
   obtain⟨r,e',rfl⟩:=Option.map_eq_some_iff.mp e
   induction v using V.casesOn with
   | str x=>cases ex;rw[eI,wN,eK vs r e'];rfl
   | _=>exact BF ex
theorem NH:∀(vs:List V) (ss:List Int),UG vs=some ss->iG J 0 vs=some (ss.map fun x=> .int x)
 | [],_,e=>by cases e;rfl
 | v::vs,ss,e=>by
   obtain⟨x,ex,e⟩:=Option.bind_eq_some_iff.mp e
   obtain⟨r,e',rfl⟩:=Option.map_eq_some_iff.mp e
   induction v using V.casesOn with
   | int x=>cases ex;rw[eI,sS,NH vs r e'];rfl
   | _=>exact BF ex
theorem JP(x:List Nat)(ss:List (List Nat)):((ss.map fun x=>PyData.str ⟨x.toArray⟩).any fun y=>PyData.eqv y (.str ⟨x.toArray⟩))=ss.contains x:=by
 induction ss with
 | nil=>rfl
 | cons y r ih=>
   simp only[List.map_cons,List.any_cons,List.contains_cons,ih]
   congr 1
   by_cases h:y=x
   ·subst h;simp[PyData.eqv]
   ·have h1:x≠y:=Ne.symm h
    have h2:¬(⟨y.toArray⟩:Str)=⟨x.toArray⟩:=fun q=>h (by simpa using q)
    simp only[PyData.eqv]
    rw[beq_eq_false_iff_ne.mpr h2,beq_eq_false_iff_ne.mpr h1]
theorem pI(x:Int)(ss:List Int):((ss.map fun x=>PyData.int x).any fun y=>PyData.eqv y (.int x))=ss.contains x:=by
 induction ss with
 | nil=>rfl
 | cons y r ih=>
   simp only[List.map_cons,List.any_cons,List.contains_cons,ih]
   congr 1
   by_cases h:y=x
   ·subst h;simp[PyData.eqv]
   ·have h1:x≠y:=Ne.symm h
    simp only[PyData.eqv]
    rw[beq_eq_false_iff_ne.mpr h,beq_eq_false_iff_ne.mpr h1]
theorem GT{h:Heap}{a:Option V}{b:Option Value}(k:jK g h U a b):b.isSome=a.isSome:=by
 induction a using Option.casesOn <;>induction b using Option.casesOn <;>first | rfl | exact False.elim k
theorem EE{h:Heap}:∀{kvs:List (List Nat×V)} {ps:List (Str×Value)},sB g h U kvs ps->∀k:List Nat,jK g h U (TA k kvs) (valueAt ps ⟨k.toArray⟩)
 | [],[],_,k=>trivial
 | (k',v)::kvs,(k'',x)::ps,⟨⟨e,_,_,r⟩,rs⟩,k=>by
   have e':k''=⟨k'.toArray⟩:=e
   subst e'
   simp only[TA.r1,TA.r2,valueAt,List.find?_cons]
   by_cases h:k'=k
   ·subst h;simp;exact r
   ·have:¬(⟨k'.toArray⟩:Str)=⟨k.toArray⟩:=fun q=>h (by simpa using q)
    simp only[h,this,if_false,decide_false]
    have ih:=EE rs k
    simpa[valueAt]using ih
 | [],_::_,r,_=>r.elim
 | _::_,[],r,_=>r.elim
theorem zD(k:List Nat)(t:Tok):(strKind g.prog g.w).is ⟨k.toArray⟩ (.str ⟨k.toArray⟩ t)=true:=by
 exact PySem.W.isStrOf_self (⟨k.toArray⟩:Str) t
theorem tV(Y:xC g)(C:Cx g A s U d hd)(S:St g s U J){x y:V}{a b:Value}{r:Bool}(ra:VA g s.heap U x a)(rb:VA g s.heap U y b)(h:yP J x y=some r):
 (∀(Q:Value->Shared->Prop),(∀t,Q (.bool r) {s with toks:=t})->wpAny (model g.prog g.w) A (compareOp .In a b) Q E s)/\
 (∀(Q:Value->Shared->Prop),(∀t,Q (.bool (!r)) {s with toks:=t})->wpAny (model g.prog g.w) A (compareOp .NotIn a b) Q E s):=by
 have room:=C.room
 induction x using V.casesOn with
 | str x=>induction y using V.casesOn with
   | tup vs=>
     obtain⟨ss,e,rfl⟩:=Option.map_eq_some_iff.mp h
     have t1:toD J 1 (.tup vs)=some (.tuple (ss.map fun x=> .str ⟨x.toArray⟩)):=by simp[cQ,eK vs ss e]
     obtain⟨⟨as,q1⟩,q2,q3⟩:=dH S 1 _ _ _ rb t1
     obtain⟨⟨bs,p1⟩,p2,p3⟩:=dH S 1 (.str x) _ _ ra rfl
     have z:A.units+1+min (PyData.depthAll (ss.map fun x=> .str ⟨x.toArray⟩)) (PyData.depth (.str (⟨x.toArray⟩:Str))) < cLine:=by simp[PyData.depth];exact BB room
     refine⟨fun Q hq=>PySem.SeqAt.in_tuple_reads q1 p1 (by simpa[PyData.canLay0]using q2) p2 z ?_,fun Q hq=>PySem.SeqAt.notIn_tuple_reads q1 p1 (by simpa[PyData.canLay0]using q2) p2 z ?_⟩
     ·rw[JP];exact hq s.toks
     ·rw[JP];exact hq s.toks
   | str vs=>
     rcases x with _ | ⟨c,_ | ⟨c2,x⟩⟩ <;>first | exact BF h | skip
     ·cases h
      obtain⟨t,rfl,_⟩:=ra;obtain⟨u,rfl,_⟩:=rb
      have e:(!(Builtin.Str.occurrences (⟨vs.toArray⟩:Str) ⟨#[c]⟩ 0 (⟨vs.toArray⟩:Str).length 1).isEmpty)=vs.contains c:=by
       rw[PySem.StrLaws.found_one]
       by_cases h:c∈vs <;>simp[h]
      refine⟨fun Q hq=>PySem.P.in_str ?_,fun Q hq=>PySem.P.notIn_str ?_⟩
      ·have:=hq s.toks;rw[<-e]at this;exact this
      ·have:=hq s.toks;rw[<-e]at this;exact this
   | loc l=>
     obtain⟨kvs,hv,rfl⟩:=Option.map_eq_some_iff.mp h
     obtain⟨p,ps,hp,ho,z,r⟩:=S.dict hv
     obtain⟨p',hp',rfl⟩:=rb
     rw[hp]at hp';cases hp'
     obtain⟨t,rfl,_⟩:=ra
     have e:(valueAt ps (⟨x.toArray⟩:Str)).isSome=(TA x kvs).isSome:=by
      have:=EE r x
      exact GT this
     refine⟨fun Q hq=>wpAny_in_of (zD x t) (WI Y S hp) ho.mapOf ?_,fun Q hq=>wpAny_notIn_of (zD x t) (WI Y S hp) ho.mapOf ?_⟩
     ·rw[e];exact hq _
     ·rw[e];exact hq _
   | _=>exact BF h
 | int x=>induction y using V.casesOn with
   | tup vs=>
     obtain⟨ss,e,rfl⟩:=Option.map_eq_some_iff.mp h
     have t1:toD J 1 (.tup vs)=some (.tuple (ss.map fun x=> .int x)):=by simp[cQ,NH vs ss e]
     obtain⟨⟨as,q1⟩,q2,q3⟩:=dH S 1 _ _ _ rb t1
     obtain⟨⟨bs,p1⟩,p2,p3⟩:=dH S 1 (.int x) _ _ ra rfl
     have z:A.units+1+min (PyData.depthAll (ss.map fun x=> .int x)) (PyData.depth (.int x)) < cLine:=by simp[PyData.depth];exact BB room
     refine⟨fun Q hq=>PySem.SeqAt.in_tuple_reads q1 p1 (by simpa[PyData.canLay0]using q2) p2 z ?_,fun Q hq=>PySem.SeqAt.notIn_tuple_reads q1 p1 (by simpa[PyData.canLay0]using q2) p2 z ?_⟩
     ·rw[pI];exact hq s.toks
     ·rw[pI];exact hq s.toks
   | loc l=>
     obtain⟨vs,hv,h⟩:=Option.bind_eq_some_iff.mp h
     obtain⟨ss,e,rfl⟩:=Option.map_eq_some_iff.mp h
     have t1:toD J 1 (.loc l)=some (.list (ss.map fun x=> .int x)):=by simp[cZ,hv,NH vs ss e]
     obtain⟨⟨as,q1⟩,q2,q3⟩:=dH S 1 _ _ _ rb t1
     obtain⟨⟨bs,p1⟩,p2,p3⟩:=dH S 1 (.int x) _ _ ra rfl
     have z:A.units+1+min (PyData.depthAll (ss.map fun x=> .int x)) (PyData.depth (.int x)) < cLine:=by simp[PyData.depth];exact BB room
     refine⟨fun Q hq=>PySem.SeqAt.in_list_reads q1 p1 (by simpa[PyData.canLay0]using q2) p2 z ?_,fun Q hq=>PySem.SeqAt.notIn_list_reads q1 p1 (by simpa[PyData.canLay0]using q2) p2 z ?_⟩
     ·rw[pI];exact hq s.toks
     ·rw[pI];exact hq s.toks
   | _=>exact BF h
 | _=>exact BF h
theorem XN{x:V}{a:Value}{r:Bool}(ra:VA g s.heap U x a)(h:gE x=some r):plainIs a .none=true/\(a== .none)=r:=by
 induction x using V.casesOn with
 | none=>cases h;subst ra;exact⟨rfl,rfl⟩
 | bool b=>cases h;subst ra;exact⟨rfl,rfl⟩
 | int i=>cases h;obtain⟨t,rfl⟩:=ra;exact⟨rfl,rfl⟩
 | str i=>cases h;obtain⟨t,rfl,_⟩:=ra;exact⟨rfl,rfl⟩
 | tup i=>cases h;obtain⟨t,os,rfl,_⟩:=ra;exact⟨rfl,rfl⟩
 | loc l=>cases h;obtain⟨t,_,rfl⟩:=ra;exact⟨rfl,rfl⟩
 | val v=>cases h
 | script=>cases h;cases ra;exact⟨rfl,rfl⟩
theorem HO(Y:xC g)(C:Cx g A s U d hd)(S:St g s U J){op:CmpOp}{x y:V}{a b:Value}{r:Bool}{Q:Value->Shared->Prop}(ra:VA g s.heap U x a)(rb:VA g s.heap U y b)(h:VL J op x y=some r)
 (hq:∀t,Q (.bool r) {s with toks:=t}):wpAny (model g.prog g.w) A (compareOp op a b) Q E s:=by
 have room:=C.room
 have eqd:∀r,ZU J 8 x y=some r->∃D D' as bs,Reads s.heap a D as/\Reads s.heap b D' bs/\D.canLay0=true/\D'.canLay0=true/\A.units+min D.depth D'.depth < cLine/\PyData.eqv D D'=r:=by
  intro r h
  obtain⟨D,e1,h⟩:=Option.bind_eq_some_iff.mp h
  obtain⟨D',e2,rfl⟩:=Option.map_eq_some_iff.mp h
  ·obtain⟨⟨as,q1⟩,q2,q3⟩:=dH S 80 _ _ _ ra e1
   obtain⟨⟨bs,p1⟩,p2,p3⟩:=dH S 8 _ _ _ rb e2
   exact⟨D,D',as,bs,q1,p1,q2,p2,by have:=Nat.min_le_right D.depth D'.depth;exact(fJ this p3 room),rfl⟩
 induction op using PySem.CmpOp.casesOn with
 | Eq=>
   obtain⟨D,D',as,bs,q1,q2,q3,q4,q5,q6⟩:=eqd _ h
   exact PySem.SeqAt.compareEq_reads q1 q2 q3 q4 q5 (by rw[q6];exact hq s.toks)
 | NotEq=>
   obtain⟨r',h',rfl⟩:=Option.map_eq_some_iff.mp h;clear h;have h:=h'
   obtain⟨D,D',as,bs,q1,q2,q3,q4,q5,q6⟩:=eqd _ h
   exact PySem.SeqAt.compareNe_reads q1 q2 q3 q4 q5 (by rw[q6];exact hq s.toks)
 | Lt=>induction x using V.casesOn with
   | int i=>induction y using V.casesOn with
     | int j=>cases h;obtain⟨t,rfl⟩:=ra;obtain⟨u,rfl⟩:=rb;exact lt_int (hq s.toks)
     | _=>exact BF h
   | _=>exact BF h
 | LtE=>induction x using V.casesOn with
   | int i=>induction y using V.casesOn with
     | int j=>cases h;obtain⟨t,rfl⟩:=ra;obtain⟨u,rfl⟩:=rb;exact PyProof.Rows.le_int (hq s.toks)
     | _=>exact BF h
   | _=>exact BF h
 | Gt=>induction x using V.casesOn with
   | int i=>induction y using V.casesOn with
     | int j=>cases h;obtain⟨t,rfl⟩:=ra;obtain⟨u,rfl⟩:=rb;exact PyProof.Rows.gt_int (hq s.toks)
     | _=>exact BF h
   | _=>exact BF h
 | GtE=>induction x using V.casesOn with
   | int i=>induction y using V.casesOn with
     | int j=>cases h;obtain⟨t,rfl⟩:=ra;obtain⟨u,rfl⟩:=rb;exact PyProof.Rows.ge_int (hq s.toks)
     | _=>exact BF h
   | _=>exact BF h
 | In=>
   exact(tV Y C S ra rb h).1 Q hq
 | NotIn=>
   obtain⟨r',h',rfl⟩:=Option.map_eq_some_iff.mp h;clear h;have h:=h'
   exact(tV Y C S ra rb h).2 Q hq
 | Is=>induction y using V.casesOn with
   | none=>
     subst rb
     obtain⟨q1,q2⟩:=XN ra h
     exact wpAny_is_plain q1 (by rw[q2];exact hq s.toks)
   | _=>exact BF h
 | IsNot=>
   obtain⟨r',h',rfl⟩:=Option.map_eq_some_iff.mp h;clear h;have h:=h'
   induction y using V.casesOn with
   | none=>
     subst rb
     obtain⟨q1,q2⟩:=XN ra h
     exact wpAny_isNot_plain q1 (by rw[q2];exact hq s.toks)
   | _=>exact BF h
end
noncomputable def cE(n:Nat):Option Int->Nat
 | none=>0
 | some i=>rD n i
noncomputable def bE(n:Nat):Option Int->Nat
 | none=>n
 | some i=>rD n i
theorem yU(a b:Nat):((min a b:Nat):Int)=min (a:Int) b:=by
 rcases Nat.le_total a b with h | h
 ·rw[Nat.min_eq_left h,Int.min_eq_left (Int.ofNat_le.mpr h)]
 ·rw[Nat.min_eq_right h,Int.min_eq_right (Int.ofNat_le.mpr h)]
theorem SL(n:Nat)(i:Int):max 0 (min (if i < 0 then i+n else i) (n:Int))=((rD n i:Nat):Int):=by
 unfold rD
 by_cases h:i < 0
 ·rw[if_pos h,if_pos h,Int.min_eq_left (Int.add_le_of_le_sub_right (by rw[Int.sub_self];exact Int.le_of_lt h)),Int.ofNat_toNat,Int.max_comm]
 ·have h:=Int.not_lt.mp h
  rw[if_neg (Int.not_lt.mpr h),if_neg (Int.not_lt.mpr h),yU,Int.toNat_of_nonneg h,Int.max_eq_right (Int.le_min.mpr ⟨h,Int.natCast_nonneg n⟩)]
theorem QW(a b:Nat):sliceRange (a:Int) (b:Int) 1=(List.range (b - a)).map fun k=>a+k:=by
 unfold sliceRange
 simp only[show(1:Int)>0 by decide,if_true]
 have ec:(if(a:Int) < b then((b:Int) - a+1 - 1) / 1 else 0).toNat=b - a:=by
  by_cases h:(a:Int) < b
  ·rw[if_pos h,Int.add_sub_cancel,Int.ediv_one,Int.toNat_sub]
  ·rw[if_neg h,Nat.sub_eq_zero_of_le (Int.ofNat_le.mp (Int.not_lt.mp h))];rfl
 rw[ec]
 refine List.map_congr_left fun k u0=>?_
 rw[Int.one_mul, <-Int.natCast_add,Int.toNat_natCast]
theorem Qb(lo hi:Option Int)(n:Nat):Builtin.Str.strSliceIndices lo hi 1 n=(List.range (bE n hi - cE n lo)).map fun k=>cE n lo+k:=by
 rw[<-QW]
 unfold Builtin.Str.strSliceIndices
 simp only[show(1:Int)>0 by decide,if_true]
 cases lo <;>cases hi <;>simp only[cE,bE,SL] <;>rfl
theorem FQ(n:Nat)(hi:Option Int):bE n hi<=n:=by
 induction hi using Option.casesOn with
 | none=>exact Nat.le_refl _
 | some i=>simp only[bE,rD];split <;>lia
theorem Db{α:Type}(x:List α)(a b:Nat)(hb:b<=x.length):((List.range (b - a)).map fun k=>a+k).filterMap (x[·]?)=PG x a b:=by
 unfold PG
 by_cases h:a<=b
 ·rw[List.filterMap_map]
  have:(x.take b).drop a=(List.range (b - a)).filterMap fun k=>x[a+k]?:=by
   apply List.ext_getElem?
   intro i
   rw[List.getElem?_drop,List.getElem?_take]
   have key:∀m,m<=b - a->((List.range m).filterMap fun k=>x[a+k]?)=((x.drop a).take m):=by
    intro m
    induction m with
    | zero=>intro _;simp
    | succ m ih=>
      intro hm
      rw[List.range_succ,List.filterMap_append,ih (by exact(nD hm)),List.take_add_one]
      congr 1
      rw[List.getElem?_drop]
      cases h:x[a+m]? <;>simp[h]
   rw[key _ (Nat.le_refl _),List.getElem?_take,List.getElem?_drop]
   by_cases q:i < b - a
   ·rw[if_pos q,if_pos (by lia)]
   ·rw[if_neg q,if_neg (by lia)]
  rw[this];rfl
 ·have:b - a=0:=by lia
  rw[this]
  simp
  lia
noncomputable def eS:V->Option (Option Int)
 | .none=>some none
 | .int i=>some (some i)
 | _=>none
theorem vP{n:Nat}{v:V}{i:Nat}(h:Ag n v=some i):∃o,eS v=some o/\i=cE n o:=by
 induction v using V.casesOn with
 | none=>cases h;exact⟨none,rfl,rfl⟩
 | int i=>cases h;exact⟨some _,rfl,rfl⟩
 | _=>exact BF h
theorem cP{n:Nat}{v:V}{i:Nat}(h:tf n v=some i):∃o,eS v=some o/\i=bE n o:=by
 induction v using V.casesOn with
 | none=>cases h;exact⟨none,rfl,rfl⟩
 | int i=>cases h;exact⟨some _,rfl,rfl⟩
 | _=>exact BF h
theorem HQ{g:G}{h:Heap}{U:List Addr}{v:V}{x:Value}{o:Option Int}(r:VA g h U v x)(e:eS v=some o):∃p:Option (Int×Tok),x=partValue p/\p.map (·.1)=o:=by
 induction v using V.casesOn with
 | none=>cases e;subst r;exact⟨none,rfl,rfl⟩
 | int i=>cases e;obtain⟨t,rfl⟩:=r;exact⟨some (_,t),rfl,rfl⟩
 | _=>exact BF e
section
variable{g:G}{s:Shared}{U:List Addr}{J:List O}{A:Around}{d:Nat}{hd:Option Nat}{E:Value->Shared->Prop}
theorem pX{α:Type}{x:List α}{i j:Nat}{c:α}(h:c∈PG x i j):c∈x:=List.mem_of_mem_take (List.mem_of_mem_drop h)
theorem JO{α:Type}(x:List α)(i j:Nat):(PG x i j).length<=x.length:=by unfold PG;simp;lia
theorem LU(S:St g s U J){x:List Nat}{t:Tok}{lo hi:Option (Int×Tok)}{a:Addr}{Q:Value->Shared->Prop}(hs:s.heap.IsSlice a lo hi none)
 (hq:∀t' k,Q (.str ⟨(PG x (cE x.length (lo.map (·.1))) (bE x.length (hi.map (·.1)))).toArray⟩ t') {s with toks:=k}) (hz:x.length<=sizeLine):
 wpAny (model g.prog g.w) A (getItem (.str ⟨x.toArray⟩ t) (.ref a)) Q E s:=by
 refine wpAny_getItem_str_slice hs rfl ?_
 have e:(slicePicked (⟨x.toArray⟩:Str) lo hi none)=(List.range (bE x.length (hi.map (·.1)) - cE x.length (lo.map (·.1)))).map fun k=>cE x.length (lo.map (·.1))+k:=by
  unfold slicePicked
  rw[eB]
  exact Qb _ _ _
 have e2:(slicePicked (⟨x.toArray⟩:Str) lo hi none).filterMap ((⟨x.toArray⟩:Str).cps[·]?)=PG x (cE x.length (lo.map (·.1))) (bE x.length (hi.map (·.1))):=by
  rw[e]
  have:=Db x (cE x.length (lo.map (·.1))) (bE x.length (hi.map (·.1))) (FQ _ _)
  simpa using this
 unfold sliceMade
 rw[e2]
 split
 ·rename_i h
  have hlen:(slicePicked (⟨x.toArray⟩:Str) lo hi none).length=x.length:=by
   simp only[Bool.and_eq_true,beq_iff_eq]at h
   rw[h.2,eB]
  rw[e,List.length_map,List.length_range]at hlen
  have h1:=FQ x.length (hi.map (·.1))
  have:PG x (cE x.length (lo.map (·.1))) (bE x.length (hi.map (·.1)))=x:=by
   by_cases h0:x.length=0
   ·have:=List.length_eq_zero_iff.mp h0;rw[this];simp[PG]
   ·have a1:cE x.length (lo.map (·.1))=0:=by lia
    have a2:bE x.length (hi.map (·.1))=x.length:=by lia
    rw[a1,a2];simp[PG]
  have z:=hq t s.toks
  rw[this]at z
  exact z
 ·exact⟨by rw[eB];exact Nat.le_trans (JO ..) hz,hq _ _⟩
end
section
variable{M:Model}{A:Around}{E:Value->Shared->Prop}{s:Shared}
theorem XI{vs:List Value}{m:Sem Value}{Q:Value->Shared->Prop}(h:wpAny M A m Q E s):wpAny M A (operate vs m) Q E s:=fun Γ p Ac=>by
 rw[Sem.wp_operate];exact h Γ p Ac
theorem XM{slice:Expr}{o i:Value}{Q:Value->Shared->Prop}(h:wpAny M A (getItem o i) Q E s):wpAny M A (subscripted slice false o i) Q E s:=by
 induction slice using Expr.casesOn with
 | Slice l u st p=>rcases st with _ | st <;>exact XI h
 | _=>exact XI h
end
section
variable{prog:Program}{w:World}{A:Around}{E:Value->Shared->Prop}{s:Shared}
theorem VF{value slice:Expr}{o i:Value}{T id:String}{Q:Value->Shared->Prop}(hT:s.TypeIs o T)(hl:typeLookup (.type T) "__getitem__"=pure (some (.builtin id)))
 (h:wpAny (model prog w) A (getItem o i) Q E s):wpAny (model prog w) A (subscriptTail value slice o i) Q E s:=by
 have g1:wpAny (model prog w) A (getitemInPython o) (fun b s'=>b=false/\s'=s) E s:=by
  exact wpAny_bind (wpAny_specialOf hT hl (wpAny_pure ⟨rfl,rfl⟩))
 refine wpAny_bind (wpAny_mono g1 (fun b s' h'=>?_) fun u0 u0 x=>x)
 obtain⟨rfl,rfl⟩:=h'
 exact wpAny_bind (wpAny_mono (XM h) (fun r s'' hr=>wpAny_bind (wpAny_letTemporaryGo (wpAny_pure hr))) fun u0 u0 x=>x)
end
section
variable{g:G}{s:Shared}{U:List Addr}{J:List O}{A:Around}{d:Nat}{hd:Option Nat}{E:Value->Shared->Prop}
inductive SeqAt{α:Type}(xs:List α)(i:Int)(v:α):Prop
 | mk (a: -(xs.length:Int)<=i) (b:i < xs.length) (j:Nat) (e:seqIndex? i xs.length=some j) (h:xs[j]?=some v)
theorem oO{α:Type}{xs:List α}{i:Int}{v:α}(h:jQ xs i=some v):SeqAt xs i v:=by
 unfold jQ at h
 split at h
 ·rename_i h0
  have:=(List.getElem?_eq_some_iff.mp h).1
  refine⟨by lia,by lia,i.toNat,?_,h⟩
  unfold seqIndex?
  have h1:¬i < 0:=by lia
  simp only[h1,if_false]
  rw[if_pos (by simp;lia)]
 ·split at h
  ·rename_i h0 h1
   have:=(List.getElem?_eq_some_iff.mp h).1
   refine⟨by lia,by lia,(i+xs.length).toNat,?_,h⟩
   unfold seqIndex?
   have h2:i < 0:=by lia
   simp only[h2,if_true]
   rw[if_pos (by simp;lia)]
  ·cases h
theorem bW{i:Int}{n j:Nat}(e:seqIndex? i n=some j)(h:i < 0):j=(i+n).toNat:=by
 unfold seqIndex? at e
 rw[if_pos h]at e
 dsimp only at e
 split at e
 ·cases e;rfl
 ·cases e
theorem cW{i:Int}{n j:Nat}(e:seqIndex? i n=some j)(h:¬i < 0):j=i.toNat:=by
 unfold seqIndex? at e
 rw[if_neg h]at e
 dsimp only at e
 split at e
 ·cases e;rfl
 ·cases e
theorem ia(Y:xC g)(S:St g s U J){x y v:V}{a b:Value}{value slice:Expr}{Q:Value->Shared->Prop}(ra:VA g s.heap U x a)(rb:VA g s.heap U y b)(h:CR g J x y=some v)
 (hq:∀w t,VA g s.heap U v w->Q w {s with toks:=t}):wpAny (model g.prog g.w) A (subscriptTail value slice a b) Q E s:=by
 induction x using V.casesOn with
 | str x=>induction y using V.casesOn with
   | int i=>
     obtain⟨c,e,rfl⟩:=Option.map_eq_some_iff.mp h
     obtain⟨t,rfl,z,ok⟩:=ra;obtain⟨u,rfl⟩:=rb
     obtain⟨l1,l2,j,e1,e2⟩:=oO e
     rw[OA]at z
     refine VF (T:="str") rfl PySem.F.slot_str_getitem.lookup (PySem.P.getItem_str (c:=c) (by simp;lia) ?_ ?_)
     ·rw[eB,e1];simpa using e2
     ·exact hq _ _ ⟨_,rfl,by rw[OA];exact Nat.le_of_ble_eq_true rfl,fun c' m=>by rw[List.mem_singleton.mp m];exact ok c (List.mem_of_getElem? e2)⟩
   | _=>exact BF h
 | tup vs=>induction y using V.casesOn with
   | int i=>
     obtain⟨t,os,rfl,ht,z,r⟩:=ra;obtain⟨u,rfl⟩:=rb
     obtain⟨l1,l2,j,e1,e2⟩:=oO h
     obtain⟨w,hw,rw'⟩:=r.get e2
     have l:=r.len
     simp only[Array.length_toList]at l
     refine VF (T:="tuple") (by obtain⟨o,ho,hc,_⟩:=ht;exact⟨o,ho,hc⟩) PySem.F.slot_tuple_getitem.lookup (PyProof.Rows.getItem_tuple ht (by lia) (by lia) (by rw[l];exact e1) (by simpa using hw) (hq _ s.toks rw'))
   | _=>exact BF h
 | loc l=>induction y using V.casesOn with
   | int i=>
     obtain⟨vs,hv,h⟩:=Option.bind_eq_some_iff.mp h
     obtain⟨p,os,n,hp,ho,z,r⟩:=S.list hv
     obtain⟨p',hp',rfl⟩:=ra
     rw[hp]at hp';cases hp'
     obtain⟨u,rfl⟩:=rb
     obtain⟨l1,l2,j,e1,e2⟩:=oO h
     obtain⟨w,hw,rw'⟩:=r.get e2
     have l:=r.len
     simp only[Array.length_toList]at l
     have hl:=OD ho
     refine VF (T:="list") hl.typeIs slot_list_getitem.lookup ?_
     by_cases h0:i < 0
     ·obtain rfl:=bW e1 h0
      refine wpAny_getItem_list_neg hl h0 (by lia) (by lia) ?_ (hq _ s.toks rw')
      rw[l];simpa using hw
     ·obtain rfl:=cW e1 h0
      exact wpAny_getItem_list hl (by lia) (by lia) (by simpa using hw) (hq _ s.toks rw')
   | str k=>
     obtain⟨kvs,hv,h⟩:=Option.bind_eq_some_iff.mp h
     obtain⟨p,ps,hp,ho,z,r⟩:=S.dict hv
     obtain⟨p',hp',rfl⟩:=ra
     rw[hp]at hp';cases hp'
     obtain⟨t,rfl,_⟩:=rb
     have q:=EE r k
     rw[h]at q
     induction e:valueAt ps (⟨k.toArray⟩:Str)using Option.casesOn with
     | none=>rw[e]at q;exact q.elim
     | some w=>
       rw[e]at q
       exact VF (T:="dict") ho.mapOf.typeIs slot_dict_getitem.lookup (wpAny_getItem_of (zD k t) ho.mapOf e (hq _ _ q))
   | _=>exact BF h
 | script=>induction y using V.casesOn with
   | int i=>
     obtain⟨n,e,rfl⟩:=Option.map_eq_some_iff.mp h
     cases ra
     obtain⟨u,rfl⟩:=rb
     obtain⟨vs,hvs,hi,hz⟩:=Y.script
     have hl:s.heap.IsList g.sa vs:=by obtain⟨o,ho,r⟩:=hvs;exact⟨o,S.base _ _ ho,r⟩
     obtain⟨l1,l2,j,e1,e2⟩:=oO e
     have hlen:vs.size=g.ns.length:=by have:=hi.length;simpa using this
     have key:∀{xs:List Value} {ns:List Int},IntsAre xs ns->∀{j:Nat} {n:Int},ns[j]?=some n->∃t,xs[j]?=some (.int n t):=by
      intro xs ns h
      induction h with
      | nil=>intro j n e;simp at e
      | cons i t _ ih=>
        intro j n e
        induction j using Nat.casesOn with
        | zero=>simp at e;subst e;exact⟨_,rfl⟩
        | succ j=>simpa using ih (by simpa using e)
     obtain⟨t,ht⟩:=key hi e2
     refine VF (T:="list") hl.typeIs slot_list_getitem.lookup ?_
     by_cases h0:i < 0
     ·obtain rfl:=bW e1 h0
      refine wpAny_getItem_list_neg hl h0 (by lia) (by lia) ?_ (hq _ s.toks ⟨t,rfl⟩)
      rw[hlen];simpa using ht
     ·obtain rfl:=cW e1 h0
      exact wpAny_getItem_list hl (by lia) (by lia) (by simpa using ht) (hq _ s.toks ⟨t,rfl⟩)
   | _=>exact BF h
 | _=>exact BF h
end
section
open Sem (wp)
theorem DN(name:Str)(hh:Int)(key v:Value)(o:Obj):(Obj.putName name hh key v o).cls=o.cls/\(AC o->AC (Obj.putName name hh key v o)):=by
 rw[Obj.putName_eq]
 obtain⟨c,d,dt,sl⟩:=o
 set_option tactic.hygienic true in cases dt <;>try exact⟨rfl,id⟩
 rename_i es n
 unfold Obj.putNameByArray
 dsimp only
 split
 ·exact⟨rfl,fun u0=>⟨_,_,rfl⟩⟩
 ·exact⟨rfl,fun u0=>⟨_,_,rfl⟩⟩
section
variable{M:Model}{A:Around}{E:Value->Shared->Prop}{s:Shared}
inductive ig(es:Array DictEntry)(name:Str)(v:Value)(o':Obj):Prop
 | mk (es':Array DictEntry) (ep':Nat) (d:o'.data= .dict es' ep') (f:o'.isFreed=false) (k:StrKeys es') (m:∀x,nsFind es' x=if x=name then some v else nsFind es x) (z:es'.size<=es.size+1) (z2:nsFind es name≠none->es'.size<=es.size)
theorem RR{es:Array DictEntry}{ep:Nat}{o:Obj}{name:Str}{hh:Int}{t:Tok}{v:Value}(hd:o.data= .dict es ep)(hk:StrKeys es):ig es name v (Obj.putName name hh (.str name t) v o):=by
 obtain⟨c,d,dt,sl⟩:=o
 subst hd
 induction hi:es.findIdx? (·.key.isStr name)using Option.casesOn with
 | some i=>
   simp only[Obj.putName_eq,Obj.putNameByArray,hi]
   exact⟨_,_,rfl,rfl,hk.modify _ _,fun x=>findBy_modify (fun n v=>v.isStr n) Value.isStr_inj es name x v i hi,by simp,fun u0=>by simp⟩
 | none=>
   simp only[Obj.putName_eq,Obj.putNameByArray,hi]
   refine⟨_,_,rfl,rfl,hk.push _ _ _ _,fun x=>findBy_push (fun n v=>v.isStr n) es name x _ _ v (fun y=>?_) hi,by simp,fun hne=>(hne ?_).elim⟩
   ·show(name==y)=decide (y=name)
    by_cases h:y=name
    ·subst h;simp
    ·have:¬name=y:=fun e=>h e.symm
     simp[h,this]
   ·unfold nsFind findBy
    rw[Array.findIdx?_eq_none_iff]at hi
    rw[Array.find?_eq_none.mpr]
    ·rfl
    ·intro x hx;have:=hi x hx;simpa using this
theorem uJ{M:Model}{a:Addr}{m:Str->Option Value}{name:Str}{v:Value}{Q:Unit->Shared->Prop}(hn:s.heap.Ns a m)
 (h:∀h',h'.Ns a (fun x=>if x=name then some v else m x)->Heap.SameBut a s.heap h'->(∀o es n,s.heap.get? a=some o->o.data= .dict es n->∃o' es' n',h'.get? a=some o'/\o'.cls=o.cls/\o'.data= .dict es' n'/\es'.size<=es.size+1/\(m name≠none->es'.size<=es.size))->Q () {s with heap:=h',toks:=s.toks+1}):
 wpAny M A (nsSet a name v) Q E s:=
 fun Γ p u0=>by
 obtain⟨o,es,ep,ho,hd,hk,hm⟩:=hn
 simp only[nsSet,strHash,Sem.wp_bind',Sem.wp_cmd_ask,Sem.wp_pure',Sem.wp_cmd_mkText]
 rw[Sem.wp_loadPart_of M Γ _ p {s with toks:=s.toks+1} (o:=o) _ ho]
 have hany:es.any (·.refKey)=false:=by
  rw[Array.any_eq_false'];intro e he;obtain⟨n,t,h⟩:=hk e he;simp[DictEntry.refKey,h]
 simp only[hd,aRefKeyMayBeTheName_eq,aRefKeyMayBeTheNameByArray,hany,Bool.and_false,Bool.false_eq_true,if_false,Sem.wp_cmd_updatePart]
 obtain⟨es',ep',d',f',k',fm,z,z2⟩:=RR (name:=name) (hh:=if name.cps.isEmpty=true then 0 else reduceHash (M.w.params.strHash name.cps)) (t:=s.toks) (v:=v) hd hk
 have e:=Heap.get?_update_self (Obj.putName name (if name.cps.isEmpty=true then 0 else reduceHash (M.w.params.strHash name.cps)) (.str name s.toks) v) ho f'
 refine⟨by rw[ho];rfl,h _ ⟨_,es',ep',e,d',k',fun x=>(fm x).trans (by rw[hm])⟩ (Heap.SameBut.update ..) fun o1 es1 n1 e1 ed=>?_⟩
 rw[ho]at e1;cases e1
 rw[hd]at ed;cases ed
 exact⟨_,es',ep',e,(DN ..).1,d',z,fun q=>z2 (by rw[hm];exact q)⟩
theorem EW{a:Addr}{m:Str->Option Value}{name:Str}{v:Value}{Q:Unit->Shared->Prop}(hn:s.heap.Ns a m)
 (h:∀h',h'.Ns a (fun x=>if x=name then some v else m x)->Heap.SameBut a s.heap h'->(∀o,s.heap.get? a=some o->∃o',h'.get? a=some o'/\o'.cls=o.cls/\AC o')->Q () {s with heap:=h',toks:=s.toks+1}):
 wpAny M A (nsSet a name v) Q E s:=uJ hn fun h' N hs hz=>h h' N hs fun o e=>by
 obtain⟨Fe,es,ep,ho,hd,_⟩:=hn
 rw[ho]at e;cases e
 obtain⟨o',es',n',e',c',d',_⟩:=hz _ _ _ ho hd
 exact⟨o',e',c',_,_,d'⟩
theorem iF{env:Env}{name:Str}{m:Str->Option Value}{v:Value}{Q:Unit->Shared->Prop}(hk:env.scope.kind= .function)(hl:env.kindOf name=some .local)(hn:s.heap.Ns env.locals m)
 (h:∀h',h'.Ns env.locals (fun x=>if x=name then some v else m x)->Heap.SameBut env.locals s.heap h'->(∀o,s.heap.get? env.locals=some o->∃o',h'.get? env.locals=some o'/\o'.cls=o.cls/\AC o')->Q () {s with heap:=h',toks:=s.toks+1}):
 wpAny M A (storeName env name v) Q E s:=by
 rw[storeName_local hl (by rw[hk];rfl)]
 exact EW hn h
end
noncomputable def CZ(env:Env)(h:Heap)(m:Str->Option Value)(x:Str)(w:Value):Prop:=
 (env.kindOf x=some .local/\m x=some w)\/((env.kindOf x=some .cell\/env.kindOf x=some .free)/\∃c,env.cells.lookup x=some c/\h.IsCell c (some w))
noncomputable def OC(env:Env):List Addr:=env.locals::env.cells.map (·.2)
structure Fm(g:G)(nm:List (List Nat))(s:Shared)(U:List Addr)(env:Env)(Z:List (Option V)):Prop where
 kind:env.scope.kind= .function
 glob:env.globals=mainGlobals
 blt:env.builtins=builtinsNs
 frame:∃f,env.frame=some f
 nodup:nm.Nodup
 len:Z.length=nm.length
 above:∀a∈OC env,g.bA.get? a=none
 out:∀a∈OC env,a∉U
 lcls:∃o,s.heap.get? env.locals=some o/\(o.cls= .type "frame"\/o.cls= .type "dict")/\AC o
 ccls:∀c∈env.cells.map (·.2),∃o v,s.heap.get? c=some o/\o.cls= .type "cell"/\o.data= .cell v
 once:(env.cells.map (·.2)).Nodup
 vars:∃m,s.heap.Ns env.locals m/\∀(i:Nat) (x:List Nat) (v:V),nm[i]?=some x->Z[i]?=some (some v)->∃w,CZ env s.heap m ⟨x.toArray⟩ w/\VA g s.heap U v w
section
variable{g:G}{s:Shared}{U:List Addr}{J:List O}{A:Around}{d:Nat}{hd:Option Nat}{E:Value->Shared->Prop}{nm:List (List Nat)}{env:Env}{Z:List (Option V)}
theorem XC{x:Str}{c:Addr}{l:List (Str×Addr)}(h:l.lookup x=some c):c∈l.map (·.2):=by
 induction l with
 | nil=>cases h
 | cons p r ih=>
   obtain⟨a,b⟩:=p
   simp only[List.lookup_cons]at h
   split at h
   ·cases h;simp
   ·simp;exact .inr (by simpa using ih h)
theorem Fm.noTup(F:Fm g nm s U env Z):∀b∈OC env,∀os,¬IsTup s.heap b os:=fun b hb os t=>by
 obtain⟨o,e,c,n,dd⟩:=t
 rcases List.mem_cons.mp hb with rfl | hb
 ·obtain⟨o',e',_,es,ep,d'⟩:=F.lcls
  rw[e]at e';cases e';rw[dd]at d';cases d'
 ·obtain⟨o',v,e',_,d'⟩:=F.ccls b hb
  rw[e]at e';cases e';rw[dd]at d';cases d'
theorem Fm.step{s':Shared}{rA:List Addr}(F:Fm g nm s U env Z)(S:St g s U J)(T:NA s.heap s'.heap U rA []):Fm g nm s' rA env Z:=by
 have lt:∀a∈OC env,∃o,s.heap.get? a=some o:=fun a ha=>by
  rcases List.mem_cons.mp ha with rfl | ha
  ·obtain⟨o,e,_⟩:=F.lcls;exact⟨o,e⟩
  ·obtain⟨o,v,e,_⟩:=F.ccls a ha;exact⟨o,e⟩
 have cell:∀c∈env.cells.map (·.2),∀o,s.heap.get? c=some o->s'.heap.get? c=some o:=fun c hc o e=>by
  obtain⟨Ab,v,yI,KO,_⟩:=F.ccls c hc
  rw[e]at yI;cases yI
  obtain⟨o',e',k⟩:=T.keep c o e (F.out c (List.mem_cons_of_mem _ hc)) (fun m=>nomatch m)
  rw[k.eq (by rw[KO];decide) (by rw[KO];decide)]at e'
  exact e'
 refine⟨F.kind,F.glob,F.blt,F.frame,F.nodup,F.len,F.above,fun a ha=>(lt a ha).elim fun u0 e=>T.memIff e (F.out a ha),?_,fun c hc=>?_,F.once,?_⟩
 ·obtain⟨o,e,c,hd⟩:=F.lcls
  obtain⟨o',e',c',d'⟩:=T.shape _ o e (F.out _ (.head _))
  exact⟨o',e',by rw[c'];exact c,d' hd⟩
 ·obtain⟨o,v,e,c1,hd⟩:=F.ccls c hc
  exact⟨o,v,cell _ hc o e,c1,hd⟩
 ·obtain⟨m,⟨o,es,ep,e,hd,hk⟩,hv⟩:=F.vars
  refine⟨m,?_,fun i x v hx hs=>?_⟩
  ·obtain⟨o',e',k⟩:=T.keep _ o e (F.out _ (.head _)) (fun m=>nomatch m)
   obtain⟨Ab,yI,KO,_⟩:=F.lcls
   rw[e]at yI;cases yI
   rcases k with rfl | ⟨_,sl,rfl⟩ | ⟨q,_⟩
   ·exact⟨_,es,ep,e',hd,hk⟩
   ·exact⟨_,es,ep,e',hd,hk⟩
   ·rcases KO with KO | KO <;>rw[KO]at q <;>exact absurd q (by decide)
  ·obtain⟨w,hw,r⟩:=hv i x v hx hs
   refine⟨w,?_,r.step0 S T⟩
   rcases hw with q | ⟨k,c,hc,o',e',q⟩
   ·exact .inl q
   ·exact .inr ⟨k,c,hc,o',cell c (XC hc) _ e',q⟩
theorem TK(S:St g s U J)(F:Fm g nm s U env Z){i:Nat}{v:V}{id:Str}{Q:Value->Shared->Prop}(hx:nm[i]?=some id.cps.toList)(hv:Z[i]?=some (some v))
 (hcd:(id==("__classdict__":Str))=false) (hq:∀w,VA g s.heap U v w->Q w s):wpAny (model g.prog g.w) A (loadName env id) Q E s:=by
 obtain⟨m,hm,vs⟩:=F.vars
 obtain⟨w,hw,r⟩:=vs i _ v hx hv
 obtain⟨⟨id⟩⟩:=id
 rcases hw with⟨k,e⟩ | ⟨k | k,c,hc,ic⟩
 ·exact wpAny_loadName_local F.kind k hm e (hq _ r)
 ·exact wpAny_loadName_cell F.kind k hc ic (hq _ r)
 ·exact wpAny_loadName_free F.kind k hc ic (hq _ r) hcd
theorem MY(S:St g s U J)(F:Fm g nm s U env Z){i:Nat}{x:List Nat}{v:V}{pos:Pos}{id:Str}{Q:V->List O->Prop}(hx:nm[i]?=some x)(hv:Z[i]?=some (some v))(hid:id=⟨x.toArray⟩)(hd:(id==("__debug__":Str))=false)
 (hcd:(id==("__classdict__":Str))=false) (hq:Q v J):wpAny (model g.prog g.w) A (eval (.Name id pos) env) (wA g s.heap U [] Q) E s:=by
 subst hid
 exact wpAny_Name (TK S F hx hv hcd fun u0 r=>KQ S hq r) hd
end
end
structure CC where
 nm:List (List Nat)
 sc:Scope
 K:Frag
noncomputable def mH(K:Frag)(x:Str):Option Value:=match nsIn K mainGlobals x with
 | some (some v)=>some v
 | some none=>if x==("__name__":Str)then none else bootBuiltins x
 | none=>none
noncomputable def YH(id:Str):Bool:=!(id==("__debug__":Str))&&!(id==("__classdict__":Str))
noncomputable def xf:Option NameKind->Bool
 | some k=>k== .local||k== .cell||k== .free
 | none=>false
noncomputable def ja:Option NameKind->Bool
 | some k=>k== .local||k== .cell
 | none=>false
theorem sP{k:Option NameKind}(h:ja k=true):k=some .local\/k=some .cell:=by
 rcases k with _ | k
 ·exact Bool.noConfusion h
 ·exact(Bool.or_eq_true_iff.mp h).imp (fun e=>congrArg some (eq_of_beq e)) fun e=>congrArg some (eq_of_beq e)
noncomputable def CC.isVar(c:CC)(i:Nat)(id:Str):Bool:=(c.nm[i]?==some id.cps.toList)&&YH id&&xf (c.sc.names.lookup id)
noncomputable def CC.isLoc(c:CC)(i:Nat)(id:Str):Bool:=(c.nm[i]?==some id.cps.toList)&&YH id&&ja (c.sc.names.lookup id)
noncomputable def CC.isLocal(c:CC)(i:Nat)(id:Str):Bool:=(c.nm[i]?==some id.cps.toList)&&YH id&&(c.sc.names.lookup id==some .local)
noncomputable def CC.isGlob(c:CC)(v:Value)(id:Str):Bool:=YH id&&(c.sc.names.lookup id==some .globalImplicit)&&(mH c.K id==some v)
noncomputable def AM(s:List Nat)(x:Str):Bool:=x.cps.toList==s&&decide (s.length<=10000)&&s.all fun c=>decide (c < 0x110000)
noncomputable def iH:Expr->Bool
 | .Call (.Name id _) [] [] _=>id==("super":Str)
 | _=>false
noncomputable def pP:Expr->Bool
 | .Slice .. =>true
 | _=>false
noncomputable def RS:Expr->Bool
 | .Attribute .. =>true
 | _=>false
set_option backward.match.sparseCases true in
noncomputable def gC:Expr->Bool
 | .Starred .. =>true
 | _=>false
noncomputable def vD:Expr->Bool
 | .Set .. =>true
 | _=>false
noncomputable def mW:Option Expr->Option Str
 | none=>none
 | some e=>match e with
   | .Constant c _ _=>(match c with
     | .str x=>some x
     | _=>none)
   | _=>none
noncomputable def FH:List (List Nat)->List (Option Expr)->Bool
 | [],q=>q.isEmpty
 | k::ks,q=>match q with
   | []=>false
   | e::r=>(match mW e with
     | some x=>AM k x&&FH ks r
     | none=>false)
noncomputable def mL:Expr->Bool
 | .ListComp .. =>true
 | .SetComp .. =>true
 | .DictComp .. =>true
 | _=>false
noncomputable def CC.inner(c:CC)(sc:Scope):CC:={c with sc:={sc with names:=sc.names.map fun p=>if p.2== .free&&c.sc.names.lookup p.1==some .cell then(p.1, .cell)else p}}
noncomputable def AN:Expr->Option Str
 | .Name id _=>some id
 | _=>none
noncomputable def aR:Expr->Option (List Expr)
 | .Tuple vs _ _=>some vs
 | _=>none
noncomputable def YG(p:Nat->Str->Bool):List Nat->List Expr->Bool
 | [],ts=>ts.isEmpty
 | i::is,ts=>match ts with
   | []=>false
   | t::r=>match AN t with
     | some id=>p i id&&YG p is r
     | none=>false
noncomputable def pB(c:CC)(is:List Nat)(ts:List Expr):Bool:=YG c.isLocal is ts
noncomputable def zF(c:CC)(is:List Nat)(ts:List Expr):Bool:=YG c.isLoc is ts
noncomputable def vN(c:CC)(is:List Nat)(t:Expr):Bool:=match is with
 | []=>false
 | i::r=>match r with
   | []=>(match AN t with
     | some id=>c.isLocal i id
     | none=>false)
   | _::_=>match aR t with
     | some ts=>pB c is ts
     | none=>false
noncomputable def MF(c:CC)(sc:Scope):List Nat->Bool
 | []=>true
 | i::r=>(match c.nm[i]? with
   | some x=>c.sc.names.lookup ⟨x.toArray⟩==some .cell&&sc.names.lookup ⟨x.toArray⟩==some .free
   | none=>false)&&MF c sc r
theorem MF.r1{c:CC}{sc:Scope}:MF c sc []=(true):=rfl
theorem MF.r2{c:CC}{sc:Scope}:MF c sc (i::r)=((match c.nm[i]? with
 | some x=>c.sc.names.lookup ⟨x.toArray⟩==some .cell&&sc.names.lookup ⟨x.toArray⟩==some .free
 | none=>false)&&MF c sc r):=rfl
noncomputable def aW(c:CC)(sc:Scope):Bool:=sc.kind== .function&&decide (sc.names.map (·.1)).Nodup&&sc.names.all fun p=>p.2== .local||p.2== .globalImplicit||(p.2== .free&&c.sc.names.lookup p.1==some .cell)
noncomputable def VG(c:CC)(f:Expr):Bool:=match AN f with
 | some id=>c.isGlob (.type "range") id
 | none=>false
noncomputable def RD{α:Type}(o:Option α)(P:α->Prop):Prop:=match o with | some a=>P a | none=>True
noncomputable def EC{α:Type}(b:Bool)(o:Option α):Option α:=match b with | true=>o | false=>none
section
variable{α β:Type}{o:Option α}{P:α->Prop}
theorem RD.bind{f:α->Option β}{Q:β->Prop}(h:RD o P)(k:∀{a},P a->RD (f a) Q):RD (o.bind f) Q:=by
 induction o using Option.casesOn with
 | none=>trivial
 | some a=>exact k h
theorem RD.map{f:α->β}{Q:β->Prop}(h:RD o P)(k:∀{a},P a->Q (f a)):RD (o.map f) Q:=by
 induction o using Option.casesOn with
 | none=>trivial
 | some a=>exact k h
theorem RD.when{b:Bool}(k:b=true->RD o P):RD (EC b o) P:=by
 induction b using Bool.casesOn with
 | false=>trivial
 | true=>exact k rfl
end
noncomputable def CC.at(c:CC)(id:Str):Nat:=c.nm.findIdx (· ==id.cps.toList)
noncomputable def CC.places(c:CC)(ts:List Expr):List Nat:=ts.filterMap fun t=>(AN t).map c.at
noncomputable def CC.tgt(c:CC)(t:Expr):List Nat:=match t with
 | .Tuple ts _ _=>c.places ts
 | t=>c.places [t]
noncomputable def YO(ks:List (Option Expr)):List (List Nat):=ks.filterMap fun e=>(mW e).map fun x=>x.cps.toList
noncomputable def CC.cap(c:CC)(sc:Scope):List Nat:=(List.range c.nm.length).filter fun i=>sc.names.lookup ⟨(c.nm.getD i []).toArray⟩==some .free
noncomputable def jF(f:Expr->Option IE):List Expr->Option jJ
 | []=>some .nil
 | x::xs=>EC (!gC x) ((f x).bind fun a=>(jF f xs).map (.cons a))
noncomputable def EL(f:Expr->Option IT):List Expr->Option YU
 | []=>some .nil
 | x::xs=>(f x).bind fun a=>(EL f xs).map (.cons a)
noncomputable def YR(c:CC)(id:Str):Option IE:=match c.isVar (c.at id) id with
 | true=>some (.var (c.at id))
 | false=>(mH c.K id).bind fun v=>EC (c.isGlob v id) (some (.glob v))
noncomputable def tS:Const->Option IE
 | .none=>some .none
 | .bool b=>some (.bool b)
 | .int i=>some (.int i)
 | .str x=>EC (AM x.cps.toList x) (some (.str x.cps.toList))
 | _=>none
noncomputable def bM(f:Expr->Option IE):Option Expr->Option IE
 | none=>some .none
 | some x=>f x
noncomputable def sW(f:Expr->Option IE)(l:Expr)(ops:List CmpOp)(rs:List Expr):Option IE:=match ops with
 | []=>none
 | o::ops=>match ops with
   | _::_=>none
   | []=>match rs with
     | []=>none
     | r::rs=>match rs with
       | _::_=>none
       | []=>EC (!vD r) ((f l).bind fun a=>(f r).map fun b=> .cmp o a b)
noncomputable def qd:Expr->Option Int
 | .Constant k _ _=>(match k with
   | .int i=>some i
   | _=>none)
 | _=>none
noncomputable def Zb(f:Expr->Option IE)(l:Expr)(ops:List CmpOp)(rs:List Expr):Option IE:=match ops with
 | []=>none
 | o::ops=>match ops with
   | []=>sW f l [o] rs
   | o2::ops=>match ops with
     | _::_=>none
     | []=>match rs with
       | []=>none
       | r::rs=>match rs with
         | []=>none
         | r2::rs=>match rs with
           | _::_=>none
           | []=>EC (!vD r) ((f l).bind fun a=>(f r).bind fun b=>(qd r2).map fun n=> .cmp2 a o b o2 (.int n))
noncomputable def ue(f:Expr->Option IE)(v s:Expr):Option IE:=(f v).bind fun a=>match s with
 | .Slice l u st _=>(match st with
   | none=>(bM f l).bind fun lo=>(bM f u).map fun hi=> .slc a lo hi
   | some x=>match l with
     | none=>none
     | some l=>match u with
       | some _=>none
       | none=>(f l).bind fun lo=>(f x).map fun st=> .slc3 a lo st)
 | s=>EC (!pP s) ((f s).map fun i=> .idx a i)
noncomputable def Yb(f:Expr->Option IE)(g:Expr)(as:List Expr)(pos:Pos):Option IE:=EC (decide (as.length<=20)) ((jF f as).bind fun es=>match g with
 | .Attribute v n ap=>EC (!iH v&&(ap.endLine==pos.line)) ((f v).map fun o=> .meth o n.cps.toList es)
 | g=>EC (!RS g) ((f g).map fun a=> .call a es))
noncomputable def UJ(c:CC)(it:Expr):Option Expr:=match it with
 | .Call f xs kws _=>EC (VG c f) (match kws with
   | _::_=>none
   | []=>match xs with
     | []=>none
     | x::xs=>match xs with
       | _::_=>none
       | []=>EC (!gC x) (some x))
 | _=>none
noncomputable def tW(f:CC->Expr->Option IE)(c:CC)(e:Expr)(sc:Scope)(gens:List Comprehension):Option IE:=match gens with
 | []=>none
 | gn::r=>match r with
   | _::_=>none
   | []=>match gn with
     | ⟨t,iter,ifs,n⟩=>match ifs with
       | _::_=>none
       | []=>EC (decide (n=0)&&aW c sc&&MF c sc (c.cap sc)&&vN (c.inner sc) ((c.inner sc).tgt t) t&&decide (∀i∈(c.inner sc).tgt t,i∉c.cap sc)&&!vD iter) ((f (c.inner sc) e).bind fun b=>match UJ c iter with
         | some x=>(match t with
           | .Name id _=>(f c x).map fun hi=> .compR b (c.cap sc) (c.at id) hi
           | _=>none)
         | none=>(f c iter).map fun it=> .comp b (c.cap sc) ((c.inner sc).tgt t) it)
noncomputable def jW(E:CC->Expr->Option IE)(T:CC->Expr->Option IT)(c:CC)(e:Expr):Option IE:=match e with
 | .Name id _=>YR c id
 | .Constant k _ _=>tS k
 | .BinOp l op r _=>(E c l).bind fun a=>(E c r).map fun b=> .bin op a b
 | .Compare l ops rs _=>sW (E c) l ops rs
 | .BoolOp op vs _=>(match op with
   | .And=>(jF (E c) vs).map .and
   | .Or=>none)
 | .UnaryOp op x _=>(match op with
   | .USub=>(E c x).map .neg
   | _=>none)
 | .IfExp t a b _=>(T c t).bind fun t=>(E c a).bind fun a=>(E c b).map fun b=> .ite t a b
 | .Tuple vs _ _=>(jF (E c) vs).map .tup
 | .List vs _=>(jF (E c) vs).map .lst
 | .Dict ks vs _=>EC (FH (YO ks) ks&&decide ((YO ks).length=vs.length/\(YO ks).length<=15)) ((jF (E c) vs).map (.dct (YO ks)))
 | .Subscript v s _=>ue (E c) v s
 | .Attribute v n _=>EC (!iH v) ((E c v).map fun a=> .attr a n.cps.toList)
 | .Call f as kws pos=>(match kws with
   | []=>Yb (E c) f as pos
   | _::_=>none)
 | .ListComp elt gens sc _=>tW E c elt sc gens
 | _=>none
noncomputable def lW(E:CC->Expr->Option IE)(T:CC->Expr->Option IT)(c:CC)(e:Expr):Option IT:=match e with
 | .UnaryOp op x _=>(match op with
   | .Not=>(T c x).map .not
   | _=>none)
 | .BoolOp op vs _=>(match op with
   | .And=>(EL (T c) vs).map .and
   | .Or=>(EL (T c) vs).map .or)
 | .IfExp _ _ _ _=>none
 | .Compare l ops rs _=>(Zb (E c) l ops rs).map .e
 | e=>(E c e).map .e
noncomputable def dQ:Nat->(CC->Expr->Option IE)×(CC->Expr->Option IT)
 | 0=>(fun u0 u0=>none,fun u0 u0=>none)
 | n+1=>(jW (dQ n).1 (dQ n).2,lW (dQ n).1 (dQ n).2)
noncomputable def YE(ts:List Expr):List Str:=ts.filterMap fun | .Name id _=>some id | _=>none
noncomputable def YM(ts vs:List Expr):Bool:=(YE ts).eraseDups.length==(YE ts).length&&(ts.length==2||ts.length==3)&&vs.length==ts.length&&ts.all (fun t=>(ts.head?.map (·.pos.line)).getD 0==t.pos.line)&&!vs.any gC&&!vs.all (foldedForSure 8)&&!vs.all (constantsAlone 8)
section
variable(E:CC->Expr->Option IE)(T:CC->Expr->Option IT)(B:CC->List Stmt->Option pE)(c:CC)
noncomputable def qQ:List Expr->Option (Expr×Str×Expr×Str)
 | []=>none
 | t::r=>match t with
   | .Attribute x n _=>(match r with
     | []=>none
     | u::r=>match u with
       | .Attribute y m _=>(match r with | []=>some (x,n,y,m) | _::_=>none)
       | _=>none)
   | _=>none
noncomputable def ZR(ts:List Expr)(v:Expr):Option IS:=match qQ ts with
 | some (x,n,y,m)=>(E c v).bind fun e=>(E c x).bind fun a=>(E c y).map fun b=> .setAttr2 a n.cps.toList b m.cps.toList e
 | none=>match aR v with
   | some vs=>EC (pB c (c.places ts) ts&&decide (c.places ts).Nodup&&YM ts vs) ((jF (E c) vs).map (.swap (c.places ts)))
   | none=>EC (zF c (c.places ts) ts&&decide (2<=(c.places ts).length)) ((E c v).map (.unpk (c.places ts)))
noncomputable def qW(t v:Expr):Option IS:=match t with
 | .Name id _=>EC (c.isLoc (c.at id) id&&!mL v) ((E c v).map (.assign (c.at id)))
 | .Tuple ts _ _=>ZR E c ts v
 | .Attribute x n _=>(E c v).bind fun e=>(E c x).map fun o=> .setAttr o n.cps.toList e
 | .Subscript x k _=>EC (!pP k) ((E c v).bind fun e=>(E c x).bind fun o=>(E c k).map fun i=> .setIdx o i e)
 | _=>none
noncomputable def se(t:Expr)(op:Operator)(v:Expr):Option IS:=match t with
 | .Name id _=>EC (c.isLoc (c.at id) id) ((E c v).map (.aug (c.at id) op))
 | .Attribute x n _=>(E c v).bind fun e=>(E c x).map fun o=> .augAttr o n.cps.toList op e
 | _=>none
noncomputable def LO(it:Expr):Option Expr:=match it with
 | .Call f xs kws _=>(match f with
   | .Name id _=>EC (c.isGlob (.type "enumerate") id) (match kws with
     | _::_=>none
     | []=>match xs with
       | []=>none
       | x::xs=>match xs with
         | _::_=>none
         | []=>EC (!gC x) (some x))
   | _=>none)
 | _=>none
noncomputable def te(t it:Expr)(b:pE):Option IS:=match t with
 | .Name id _=>EC (c.isLocal (c.at id) id) (match UJ c it with
   | some x=>(E c x).map fun hi=> .forR0 (c.at id) hi b
   | none=>EC (!vD it) ((E c it).map fun i=> .for1 (c.at id) i b))
 | .Tuple ts _ _=>(match LO c it with
   | some x=>(match c.places ts with
     | []=>none
     | i::r=>match r with
       | []=>none
       | j::r=>match r with
         | []=>EC (pB c [i,j] ts) ((E c x).map fun e=> .forE i j e b)
         | _::_=>none)
   | none=>EC (pB c (c.places ts) ts&&decide (2<=(c.places ts).length)&&!vD it) ((E c it).map fun i=> .forT (c.places ts) i b))
 | _=>none
noncomputable def ve(b:List Stmt)(hs:List ExceptHandler)(f:List Stmt):Option IS:=match hs with
 | []=>EC (!f.isEmpty) ((B c b).bind fun b=>(B c f).map fun f=> .tryF b f)
 | h::r=>match r with
   | _::_=>none
   | []=>match f with
     | _::_=>none
     | []=>match h with
       | .ExceptHandler t n hb _=>match t with
         | none=>none
         | some t=>match n with
           | none=>none
           | some n=>match t with
             | .Name id _=>(mH c.K id).bind fun v=>(KM v).bind fun C=>EC (c.isGlob (.ref C) id&&c.isLocal (c.at n) n&&!hb.isEmpty) ((B c b).bind fun b=>(B c hb).map fun hb=> .tryE b C (c.at n) hb)
             | _=>none
noncomputable def kW(st:Stmt):Option IS:=match st with
 | .Assign ts v _=>(match ts with
   | []=>none
   | t::r=>match r with
     | []=>qW E c t v
     | _::_=>none)
 | .AugAssign t op v _=>se E c t op v
 | .Expr v _=>EC (!mL v) ((E c v).map .expr)
 | .Return v _=>(match v with
   | some v=>(E c v).map .ret
   | none=>some .ret0)
 | .If t a b _=>(T c t).bind fun t=>(B c a).bind fun a=>(B c b).map fun b=> .ite t a b
 | .While t b o _=>(match o with
   | []=>(T c t).bind fun t=>(B c b).map fun b=> .whl t b
   | _::_=>none)
 | .For t it b o _=>(match o with
   | []=>(B c b).bind fun b=>te E c t it b
   | _::_=>none)
 | .Raise x y _=>(match x with
   | some x=>(match y with
     | none=>(E c x).map .raise
     | some _=>none)
   | none=>none)
 | .Try b hs o f _=>(match o with
   | []=>ve B c b hs f
   | _::_=>none)
 | .Break _=>some .brk
 | .Pass _=>some .pass
 | _=>none
end
noncomputable def bb(f:Stmt->Option IS):List Stmt->Option pE
 | []=>some .nil
 | x::xs=>(f x).bind fun a=>(bb f xs).map (.cons a)
noncomputable def Hf:Nat->CC->List Stmt->Option pE
 | 0=>fun u0 u0=>none
 | n+1=>fun c b=>bb (kW (dQ 40).1 (dQ 40).2 (Hf n) c) b
section
open PySem.Builtin.Str
noncomputable def ED(s:List Nat)(c lo n:Nat):List Nat:=(List.range' lo n).filter fun i=>s[i]?==some c
theorem pU(s:List Nat)(c i:Nat):(i+(⟨#[c]⟩:Str).length<=(⟨s.toArray⟩:Str).length/\subAt ⟨s.toArray⟩ ⟨#[c]⟩ i=true)↔s[i]?=some c:=by
 have:=StrLaws.subAt_one ⟨s.toArray⟩ c i
 simpa using this
theorem GW(s:List Nat)(c limit:Nat):∀(n lo:Nat) (arr:Array Nat) (free:Nat),free<=lo->arr.size+n<=limit->
 (forIn (List.range' lo n) (arr,free) (StrLaws.occBody ⟨s.toArray⟩ ⟨#[c]⟩ (⟨s.toArray⟩:Str).length limit)).run.fst.toList=arr.toList++ED s c lo n:=by
 intro n
 induction n with
 | zero=>intro lo arr free _ _;simp[ED]
 | succ n ih=>
   intro lo arr free h1 h2
   rw[List.range'_succ,List.forIn_cons]
   have ha:=pU s c lo
   by_cases hc:s[lo]?=some c
   ·have hb:StrLaws.occBody ⟨s.toArray⟩ ⟨#[c]⟩ (⟨s.toArray⟩:Str).length limit lo (arr,free)=pure (ForInStep.yield (arr.push lo,lo+1)):=by
     unfold StrLaws.occBody
     rw[if_pos]
     ·rfl
     ·obtain⟨q1,q2⟩:=ha.mpr hc
      exact⟨⟨⟨by show arr.size < limit;exact BB h2,h1⟩,q1⟩,q2⟩
    rw[hb]
    have:=ih (lo+1) (arr.push lo) (lo+1) (Nat.le_refl _) (by simp;exact BB h2)
    have hh:ED s c lo (n+1)=lo::ED s c (lo+1) n:=by
     unfold ED;rw[List.range'_succ,List.filter_cons];simp[hc]
    rw[hh]
    simp only[pure_bind]
    rw[this];simp
   ·have hb:StrLaws.occBody ⟨s.toArray⟩ ⟨#[c]⟩ (⟨s.toArray⟩:Str).length limit lo (arr,free)=pure (ForInStep.yield (arr,free)):=by
     unfold StrLaws.occBody
     rw[if_neg]
     rintro ⟨⟨_,q1⟩,q2⟩
     exact hc (ha.mp ⟨q1,q2⟩)
    rw[hb]
    have:=ih (lo+1) arr free (by exact BB h1) (by exact BB h2)
    have hh:ED s c lo (n+1)=ED s c (lo+1) n:=by
     unfold ED;rw[List.range'_succ,List.filter_cons];simp[hc]
    rw[hh]
    simp only[pure_bind]
    rw[this]
theorem ZV(s:List Nat)(c lo n:Nat)(h:s.length<=lo+n):ED s c lo (n+1)=ED s c lo n:=by
 unfold ED
 rw[List.range'_concat,List.filter_append]
 have:s[lo+n]?=none:=List.getElem?_eq_none h
 simp[this]
theorem eO(s:List Nat)(c:Nat):occurrences ⟨s.toArray⟩ ⟨#[c]⟩ 0 (⟨s.toArray⟩:Str).length ((⟨s.toArray⟩:Str).length+1)=ED s c 0 s.length:=by
 rw[StrLaws.occ_eq,eB]
 have:=GW s c (s.length+1) (s.length+1 - 0) 0 #[] 0 (Nat.le_refl _) (by simp)
 rw[eB]at this
 rw[this]
 simp only[List.nil_append,Nat.sub_zero]
 exact ZV s c 0 s.length (by exact Nat.le_add_left _ _)
theorem pT(x:Nat)(s:List Nat)(c lo n:Nat):ED (x::s) c (lo+1) n=(ED s c lo n).map (· +1):=by
 unfold ED
 have h0:List.range' (lo+1) n=(List.range' lo n).map (1+ ·):=by rw[List.map_add_range',Nat.add_comm]
 rw[h0,List.filter_map]
 have:(fun i=>(x::s)[i]?==some c)∘(fun x=>1+x)=fun i=>s[i]?==some c:=by
  funext i
  simp[Nat.add_comm 1 i]
 rw[this]
 congr 1
 funext i
 simp+arith only
theorem qT(x:Nat)(s:List Nat)(c n:Nat):ED (x::s) c 0 (n+1)=(if x=c then[0]else[])++(ED s c 0 n).map (· +1):=by
 rw[<-pT x s c 0 n]
 unfold ED
 rw[List.range'_succ,List.filter_cons]
 by_cases h:x=c <;>simp[h]
theorem ON(s:List Nat)(c:Nat):(ED s c 0 s.length).length=s.count c:=by
 induction s with
 | nil=>rfl
 | cons x s ih=>
   rw[List.length_cons,qT,List.length_append,List.length_map,ih,List.count_cons]
   by_cases h:x=c <;>simp[h,Nat.add_comm]
theorem UU(s:List Nat)(c:Nat):Txt.count ⟨s.toArray⟩ ⟨#[c]⟩=((s.count c:Nat):Int):=by
 unfold Txt.count
 rw[eO,ON]
theorem VP(s:List Nat)(c lo:Nat):(∀i,lo<=i->s[i]?≠some c)/\OF s c lo= -1\/∃i:Nat,lo<=i/\s[i]?=some c/\(∀k,lo<=k->k < i->s[k]?≠some c)/\OF s c lo=(i:Int):=by
 unfold OF
 induction h:(s.drop lo).findIdx? (· ==c)using Option.casesOn with
 | none=>
   left
   refine⟨fun i hi e=>?_,rfl⟩
   rw[List.findIdx?_eq_none_iff]at h
   have hm:c∈s.drop lo:=by
    refine List.mem_iff_getElem?.mpr ⟨i - lo,?_⟩
    rw[List.getElem?_drop]
    rw[show lo+(i - lo)=i from Nat.add_sub_of_le (by assumption)];exact e
   have:=h c hm
   simp at this
 | some j=>
   right
   obtain⟨hj,h1,h2⟩:=List.findIdx?_eq_some_iff_getElem.mp h
   refine⟨lo+j,by exact Nat.le_add_right _ _,?_,fun k hk hk2 e=>?_,rfl⟩
   ·have h1':(s.drop lo)[j]=c:=by simpa using h1
    have:(s.drop lo)[j]?=some c:=by rw[List.getElem?_eq_getElem hj,h1']
    rw[List.getElem?_drop]at this
    exact this
   ·have:=h2 (k - lo) (by lia)
    have hk3:(s.drop lo)[k - lo]?=some c:=by rw[List.getElem?_drop,show lo+(k - lo)=k from Nat.add_sub_of_le (by assumption)];exact e
    rw[List.getElem?_eq_getElem (by lia)]at hk3
    simp at hk3 this
    exact this hk3
theorem DQ(s:List Nat)(c lo:Nat):(match occurrences ⟨s.toArray⟩ ⟨#[c]⟩ lo (⟨s.toArray⟩:Str).length 1 with | i::_=>(i:Int) | []=> -1)=OF s c lo:=by
 have hat:∀i,StrLaws.At ⟨s.toArray⟩ ⟨#[c]⟩ (⟨s.toArray⟩:Str).length i↔s[i]?=some c:=fun i=>pU s c i
 rcases StrLaws.occ_head_from ⟨s.toArray⟩ ⟨#[c]⟩ lo 1 (Nat.le_refl _)with⟨e,h⟩ | ⟨i,r,e,h1,h2,h3⟩
 ·rw[e]
  rcases VP s c lo with⟨_,e2⟩ | ⟨j,hj,hj2,_,_⟩
  ·exact e2.symm
  ·exact absurd ((hat j).mpr hj2) (h j hj)
 ·rw[e]
  rcases VP s c lo with⟨hn,_⟩ | ⟨j,hj,hj2,hj3,e2⟩
  ·exact absurd ((hat i).mp h2) (hn i h1)
  ·rw[e2]
   rcases Nat.lt_trichotomy i j with q | q | q
   ·exact absurd ((hat i).mp h2) (hj3 i h1 q)
   ·rw[q]
   ·exact absurd ((hat j).mpr hj2) (h3 j hj q)
noncomputable def vA(s:List Nat)(p:Nat):List Nat->List (List Nat)
 | []=>[s.drop p]
 | c::r=>(s.take c).drop p::vA s (c+1) r
theorem vA.r1{s:List Nat}{p:Nat}:vA s p []=([s.drop p]):=rfl
theorem vA.r2{s:List Nat}{p:Nat}:vA s p (c::r)=((s.take c).drop p::vA s (c+1) r):=rfl
theorem NL(s:List Nat):∀(cuts:List Nat) (p:Nat),((p::cuts.map (· +1)).zip (cuts++[s.length])).map (fun(i,j)=>strSub ⟨s.toArray⟩ i j)=(vA s p cuts).map fun l=>(⟨l.toArray⟩:Str)
 | [],p=>by
   simp[vA.r1,vA.r2,strSub]
   exact List.take_of_length_le (by simp)
 | c::r,p=>by
   have:=NL s r (c+1)
   simp only[List.map_cons,List.cons_append,List.zip_cons_cons,vA.r1,vA.r2]at this ⊢
   rw[this]
   congr 1
   simp[strSub,List.drop_take]
theorem DM(s:List Nat)(c:Nat):∀(n p:Nat),p+n=s.length->vA s p (ED s c p n)=qA c (s.drop p)
 | 0,p,h=>by
   have:s.drop p=[]:=List.drop_eq_nil_of_le (by exact BB (eR h))
   simp[ED,vA.r1,vA.r2,this,qA.r1,qA.r2]
 | n+1,p,h=>by
   have hp:p < s.length:=by exact BB (eL h)
   have hd:s.drop p=s[p]::s.drop (p+1):=List.drop_eq_getElem_cons hp
   have ih:=DM s c n (p+1) (by exact Nd h)
   rw[hd]
   by_cases hc:s[p]=c
   ·have:ED s c p (n+1)=p::ED s c (p+1) n:=by
     unfold ED;rw[List.range'_succ,List.filter_cons];simp[hc,List.getElem?_eq_getElem hp]
    rw[this]
    simp only[vA.r1,vA.r2,qA.r1,qA.r2,hc,if_true,ih]
    congr 1
    simp
   ·have:ED s c p (n+1)=ED s c (p+1) n:=by
     unfold ED;rw[List.range'_succ,List.filter_cons];simp[hc,List.getElem?_eq_getElem hp]
    rw[this]
    simp only[qA.r1,qA.r2,if_neg hc, <-ih]
    have hlow:∀i∈ED s c (p+1) n,p+1<=i:=fun i m=>by
     unfold ED at m
     have:=(List.mem_filter.mp m).1
     exact(List.mem_range'_1.mp this).1
    induction hh:ED s c (p+1) n using List.casesOn with
    | nil=>simp only[vA.r1,vA.r2];rw[hd]
    | cons c0 r=>
      have hc0:=hlow c0 (by rw[hh];exact .head _)
      simp only[vA.r1,vA.r2]
      congr 1
      have ht:p < (s.take c0).length:=by rw[List.length_take];lia
      rw[List.drop_eq_getElem_cons ht]
      simp
theorem oK(s:List Nat)(c:Nat):partsBetween ⟨s.toArray⟩ (ED s c 0 s.length) (⟨#[c]⟩:Str).length=(qA c s).map fun l=>(⟨l.toArray⟩:Str):=by
 unfold partsBetween
 have h1:(⟨#[c]⟩:Str).length=1:=rfl
 rw[h1,eB,NL,DM s c s.length 0 (by simp+arith only)]
 simp
theorem bK(s:List Nat)(c:Nat)(h:c∉s):qA c s=[s]:=by
 induction s with
 | nil=>rfl
 | cons x s ih=>
   simp only[List.mem_cons,not_or]at h
   (first | rw[qA.r1,if_neg (fun e=>h.1 e.symm),ih h.2] | rw[qA.r2,if_neg (fun e=>h.1 e.symm),ih h.2])
theorem aV{s:List Nat}{c:Nat}(h:ED s c 0 s.length=[]):c∉s:=by
 intro m
 have:=ON s c
 rw[h]at this
 have h2:=List.count_pos_iff.mpr m
 rw[<-this]at h2
 exact absurd h2 (by simp)
theorem fG(c:Nat):∀(s:List Nat) (l:List Nat),l∈qA c s->l.length<=s.length/\∀x∈l,x∈s
 | [],l,h=>by simp[qA.r1,qA.r2]at h;subst h;simp
 | x::s,l,h=>by
   (first | rw[qA.r1]at h | rw[qA.r2]at h)
   split at h
   ·rcases List.mem_cons.mp h with rfl | h
    ·simp
    ·obtain⟨h1,h2⟩:=fG c s l h
     exact⟨by simp;exact BB h1,fun y m=>List.mem_cons_of_mem _ (h2 y m)⟩
   ·set_option tactic.hygienic true in split at h
    ·simp at h;subst h;simp
    ·rename_i y ys e
     rcases List.mem_cons.mp h with rfl | h
     ·obtain⟨h1,h2⟩:=fG c s y (by rw[e];exact .head _)
      refine⟨by simp;assumption,fun z m=>?_⟩
      rcases List.mem_cons.mp m with rfl | m
      ·exact .head _
      ·exact List.mem_cons_of_mem _ (h2 z m)
     ·obtain⟨h1,h2⟩:=fG c s l (by rw[e];exact List.mem_cons_of_mem _ h)
      exact⟨by simp;exact BB h1,fun y m=>List.mem_cons_of_mem _ (h2 y m)⟩
theorem cI(c:Nat):∀s:List Nat,(qA c s).length<=s.length+1
 | []=>by simp[qA.r1,qA.r2]
 | x::s=>by
   have:=cI c s
   (first | rw[qA.r1] | rw[qA.r2])
   split
   ·simp;assumption
   ·set_option tactic.hygienic true in split
    ·simp
    ·rename_i y ys e
     rw[e]at this
     simp at this ⊢;exact BB this
theorem aP(sep:List Nat):∀(r:List (List Nat)) (acc:List Nat),(r.map fun l=>(⟨l.toArray⟩:Str)).foldl (fun a p=>a++(⟨sep.toArray⟩:Str).cps++p.cps) acc.toArray=(acc++(r.map (sep++ ·)).flatten).toArray
 | [],acc=>by simp
 | x::r,acc=>by
   have:=aP sep r (acc++sep++x)
   simp only[List.map_cons,List.foldl_cons,List.flatten_cons]
   simp only[List.append_toArray]at this ⊢
   rw[this]
   simp
theorem KJ(sep:List Nat):∀(x:List Nat) (r:List (List Nat)),iA sep (x::r)=x++(r.map (sep++ ·)).flatten
 | x,[]=>by simp[iA.r1,iA.r2,iA.r3]
 | x,y::r=>by
   (first | rw[iA.r1,KJ sep y r] | rw[iA.r2,KJ sep y r] | rw[iA.r3,KJ sep y r])
   simp
theorem wW(sep:List Nat)(ss:List (List Nat)):Txt.join ⟨sep.toArray⟩ (ss.map fun l=>(⟨l.toArray⟩:Str))=⟨(iA sep ss).toArray⟩:=by
 unfold Txt.join glued
 induction ss using List.casesOn with
 | nil=>rfl
 | cons x r=>
   have:=aP sep r x
   simp only[List.map_cons,List.drop_succ_cons,List.drop_zero,List.headD_cons]
   rw[this,KJ]
end
inductive UD(g:G)(h:Heap)(U:List Addr)(Q:List V->List O->Prop)(vs:List Value)(s':Shared):Prop
 | mk (mv:List V) (LA:List O) (rA:List Addr) (q:Q mv LA) (r:PA g s'.heap rA mv vs) (S:St g s' rA LA) (T:NA h s'.heap U rA [])
inductive BK(g:G)(h:Heap)(U:List Addr)(Q:Bool->List O->Prop)(b:Bool)(s':Shared):Prop
 | mk (LA:List O) (rA:List Addr) (q:Q b LA) (S:St g s' rA LA) (T:NA h s'.heap U rA [])
section
variable{g:G}{s:Shared}{U:List Addr}{J:List O}{A:Around}{d:Nat}{hd:Option Nat}
theorem Cx.step{s':Shared}{rA X:List Addr}(C:Cx g A s U d hd)(S:St g s U J)(T:NA s.heap s'.heap U rA X):Cx g A s' rA d hd:=by
 refine⟨C.depth,C.units,?_,?_⟩
 ·have:=C.hand
  induction hd using Option.casesOn with
  | none=>exact this
  | some l=>obtain⟨a,e,q⟩:=this;exact⟨a,T.loc _ _ e,q⟩
 ·obtain⟨fr,e,h⟩:=C.stk
  refine⟨fr,e,fun env m=>?_⟩
  obtain⟨k,L,o,f,ab,ho,hc,hd⟩:=h env m
  obtain⟨o',ho',hc',hd'⟩:=T.shape L o ho (S.notin ho (by rw[hc];rfl))
  exact⟨k,L,o',f,ab,ho',hc'.trans hc,hd' hd⟩
theorem UD.mono{bA:Heap}{UA:List Addr}{Q Q':List V->List O->Prop}{v:List Value}{s':Shared}(p:UD g bA UA Q v s')(k:∀v J,Q v J->Q' v J):UD g bA UA Q' v s':=let ⟨a,b,c,q,r,S,T⟩:=p;⟨a,b,c,k _ _ q,r,S,T⟩
theorem BK.from{bA KB:Heap}{UA BA:List Addr}{Q:Bool->List O->Prop}{v:Bool}{s':Shared}(T:NA bA KB UA BA [])(p:BK g KB BA Q v s'):BK g bA UA Q v s':=let ⟨b,c,q,S,T'⟩:=p;⟨b,c,q,S,T.trans T'⟩
theorem SV{bA:Heap}{UA:List Addr}{t:Sem Value}{Q:V->List O->Prop}{E:Nat->List O->Prop}(T:NA bA s.heap UA U [])(h:wpAny (model g.prog g.w) A t (wA g s.heap U [] Q) (dA g s.heap U [] E) s):
 wpAny (model g.prog g.w) A t (wA g bA UA [] Q) (dA g bA UA [] E) s:=wpAny_mono h (fun u0 u0 p=>p.from T) fun u0 u0 p=>p.from T
theorem JZ{bA:Heap}{UA:List Addr}{t:Sem Bool}{Q:Bool->List O->Prop}{E:Nat->List O->Prop}(T:NA bA s.heap UA U [])(h:wpAny (model g.prog g.w) A t (BK g s.heap U Q) (dA g s.heap U [] E) s):
 wpAny (model g.prog g.w) A t (BK g bA UA Q) (dA g bA UA [] E) s:=wpAny_mono h (fun u0 u0 p=>p.from T) fun u0 u0 p=>p.from T
theorem xT{o:Obj}{es:Array DictEntry}{ep:Nat}{m:Str->Option Value}(hd:o.data= .dict es ep)(hk:StrKeys es)(hm:∀name,nsFind es name=m name)(x:Str):lookIn x o=some (m x):=by
 unfold lookIn
 rw[hd]
 dsimp only
 have h1:nsFind es x=(es.toList.find? (·.key.isStr x)).map (·.val):=by
  unfold nsFind findBy
  rw[<-Array.find?_toList]
 rw[<-hm x,h1]
 induction e:es.toList.find? (·.key.isStr x)using Option.casesOn with
 | some y=>rfl
 | none=>
   have hany:es.toList.any (·.refKey)=false:=by
    rw[Array.any_toList,Array.any_eq_false'];intro e he;obtain⟨n,t,h⟩:=hk e he;simp[DictEntry.refKey,h]
   simp[hany]
inductive gR(g:G)(s:Shared)(U:List Addr)(J:List O)(l:Nat)(a C:Addr)(dl:Nat)(kvs:List (List Nat×V)):Prop
 | mk (ox od:Obj) (dx:Addr) (m:Str->Option Value) (es:Array DictEntry) (ep:Nat) (I:InstAt s.heap a ox C (some od)) (e1:ox.dict=some dx) (e2:U[dl]?=some dx) (e3:J[dl]?=some (.ad kvs)) (e4:s.heap.get? dx=some od)
   (e5:od.cls= .type "dict") (e6:od.data= .dict es ep) (e7:es.size<=kvs.length) (N:s.heap.Ns dx m) (hl:∀x,lookIn x od=some (m x)) (rr:∀k:List Nat,jK g s.heap U (TA k kvs) (m ⟨k.toArray⟩)) (x:aU C=true->∃dl,J[l]?=some (.exc C dl))
theorem WX{l:Nat}{kvs:List (List Nat×V)}(h:oI J l=some kvs):J[l]?=some (.ad kvs):=by
 unfold oI at h
 rcases e:J[l]? with _ | o
 ·rw[e]at h;cases h
 ·rw[e]at h
  induction o using O.casesOn with
  | ad k=>cases h;rfl
  | _=>cases h
theorem lP(S:St g s U J){l:Nat}{a C:Addr}{dl:Nat}{kvs:List (List Nat×V)}{ox:Obj}{dx:Addr}(ho:s.heap.get? a=some ox)(hc:ox.cls= .ref C)(hn:notCls ox=true)(hd:ox.dict=some dx)(hdx:U[dl]?=some dx)(hk:oI J dl=some kvs)
 (hx:aU C=true->∃dl,J[l]?=some (.exc C dl)):gR g s U J l a C dl kvs:=by
 have e:=WX hk
 obtain⟨od,m,e1,c1,N,z,rr⟩:=S.objs _ _ _ hdx e
 obtain⟨o',es,ep,e2,d2,k2,m2⟩:=id N
 rw[e1]at e2;cases e2
 exact⟨ox,od,dx,m,es,ep,⟨ho,hc,hn,by rw[hd];exact e1⟩,hd,hdx,e,e1,c1,d2,z _ _ d2,N,xT d2 k2 m2,rr,hx⟩
theorem VO(S:St g s U J){l:Nat}{a C:Addr}{dl:Nat}{kvs:List (List Nat×V)}(h:uD J l=some (C,dl,kvs))(ha:U[l]?=some a):gR g s U J l a C dl kvs:=by
 unfold uD at h
 rcases e:J[l]? with _ | o
 ·rw[e]at h;cases h
 ·rw[e]at h
  induction o using O.casesOn with
  | inst C' dl'=>
    obtain⟨kv,hk,h⟩:=Option.map_eq_some_iff.mp h
    cases h
    obtain⟨x0,dx,hdx,ho⟩:=S.objs _ _ _ ha e
    exact lP S ho rfl rfl rfl hdx hk fun q=>by rw[x0]at q;cases q
  | exc C' dl'=>
    obtain⟨kv,hk,h⟩:=Option.map_eq_some_iff.mp h
    cases h
    obtain⟨x0,dx,vs,hdx,ho,_⟩:=S.objs _ _ _ ha e
    exact lP S ho rfl rfl rfl hdx hk fun u0=>⟨_,e⟩
  | _=>cases h
theorem IN{K:Frag}{C:Addr}(h:hasDictIn K C=true):∃cd,clsIn K C=some cd/\cd.hasDict=true:=by
 unfold hasDictIn at h
 induction e:clsIn K C using Option.casesOn with
 | none=>rw[e]at h;cases h
 | some cd=>rw[e]at h;exact⟨cd,rfl,h⟩
theorem WP{K:Frag}{C:Addr}{od:Obj}{n:Str}{v:Value}(hd:hasDictIn K C=true)(hg:(match findIn K (.ref C) n with | some a=>noGet K a | none=>false)=true)(hl:lookIn n od=some (some v)):findObj K C (some od) n=some (.value v):=by
 obtain⟨cd,hc,hh⟩:=IN hd
 unfold findObj
 rw[hc,Option.bind_some]
 induction hf:findIn K (.ref C) n using Option.casesOn with
 | none=>rw[hf]at hg;cases hg
 | some at'=>
   rw[hf]at hg
   rw[Option.bind_some]
   have own:PySem.W.ownOf cd (some od) n=some (some v):=by unfold PySem.W.ownOf;rw[hh];exact hl
   induction at' using Option.casesOn with
   | none=>rw[own];rfl
   | some a=>
     have hsp:specialIn K a "__get__"=some none:=by
      have:(specialIn K a "__get__"==some none)=true:=hg
      simpa using this
     show(specialIn K a "__get__").bind _=_;rw[hsp];rw[own];rfl
section
variable{E:Value->Shared->Prop}{prog:Program}{w:World}{K:Frag}{x C:Addr}{ox:Obj}{od:Option Obj}{name:Str}{expr:Bool}{Q:Value->Shared->Prop}
theorem EY{v:Value}(X:K.In s.heap)(I:InstAt s.heap x ox C od)(hga:findIn K (.ref C) "__getattribute__"=some (some (.builtin "BaseException.__getattribute__")))(hk:findIn K (.ref C) "__getattr__"=some none)
 (hb:subIn K (.ref C) (.type "BaseException")=some true) (hf:findObj K C od name=some (.value v)) (hh:handedIn v=true) (h:Q v {s with toks:=s.toks+1}):wpAny (model prog w) A (getAttr (.ref x) name expr) Q E s:=by
 obtain⟨hp,g,d,t,os⟩:=s
 have L0:=I.type (M:=model prog w)
 have L1:=looks_findIn (M:=model prog w) X hga
 have L2:=looks_findIn (M:=model prog w) X hk
 have L3:=looks_find (M:=model prog w) X I hf
 have ga:=PySem.F.excAttr_ValueError.ga
 have hs:Looks (model prog w) hp (isInstance (.ref x) (.type "BaseException")) true:=L0.andThen (looks_subIn X hb)
 refine wpAny_bind (wpAny_mkText (wpAny_holding (wpAny_bind (L0.at (wpAny_bind (L1.at ?_))))))
 dsimp only
 have hx2:(Value.builtin "BaseException.__getattribute__"==Value.builtin "object.__getattribute__")=false:=by decide+kernel
 rw[hx2,Bool.and_false,if_neg Bool.false_ne_true]
 unfold getAttrByItsOwn hookBefore
 rw[if_pos (show onTheHeap (Value.ref C)=true from rfl)]
 refine wpAny_bind (L2.at (wpAny_bind (wpAny_attempt (wpAny_holding ?_))))
 unfold callGetattribute
 rw[show(expr&&onTheHeap (Value.builtin "BaseException.__getattribute__"))=false from by induction expr using Bool.casesOn <;>rfl,if_neg Bool.false_ne_true]
 unfold boundAndCalled
 rw[ga.bind]
 refine wpAny_bind (wpAny_pure (wpAny_call ?_))
 have hk1:builtinKind "BaseException.__getattribute__"=some .slot:=by decide+kernel
 have hk2:splitId "BaseException.__getattribute__"=some ("BaseException","__getattribute__"):=by decide+kernel
 show codeAny _ _ (.call (.builtin "BaseException.__getattribute__") ⟨[.ref x, .str name t],[]⟩) _ _
 refine codeAny_call_builtin ga.plain PySem.F.entry_bexc_ga (@check_slot (model prog w) _ _ ⟨hp,g,d,t+1,os⟩ "BaseException.__getattribute__" "BaseException" "__getattribute__" (.ref x) [.str name t] [] _ hk1 hk2 hs (PySem.F.args_bexc_ga _ _) ?_)
 refine wpAny_bind (wpAny_pure (wpAny_bind (wpAny_pure (wpAny_bind (L0.at (wpAny_bind (L3.at ?_)))))))
 refine wpAny_pure ?_
 show wpAny _ _ (handedOut v) _ _ _
 rw[handedOut_of hh];exact wpAny_pure h
end
theorem NM{h:Heap}{v:V}{x:Value}(r:VA g h U v x)(ok:aG v=true):handedIn x=true:=by
 induction v using V.casesOn with
 | none=>subst r;rfl
 | bool b=>subst r;rfl
 | int i=>obtain⟨t,rfl⟩:=r;rfl
 | str s=>obtain⟨t,rfl,_⟩:=r;rfl
 | tup vs=>obtain⟨a,os,rfl,_⟩:=r;rfl
 | loc l=>obtain⟨a,_,rfl⟩:=r;rfl
 | val w=>subst r;induction x using Value.casesOn <;>first | rfl | cases ok
 | script=>subst r;rfl
theorem oR(Y:xC g)(C:Cx g A s U d hd)(S:St g s U J){x:V}{n:List Nat}{v:V}{a:Value}{E:Value->Shared->Prop}{Q:V->List O->Prop}(ra:VA g s.heap U x a)(h:wH g J x n=some v)(hq:Q v J):
 wpAny (model g.prog g.w) A (getAttr a ⟨n.toArray⟩ true) (wA g s.heap U [] Q) E s:=by
 induction x using V.casesOn with
 | loc l=>
   have h:((uD J l).bind fun x=>if PE x.1 n=true then(TA n x.2.2).bind fun v=>if aG v=true then some v else none else none)=some v:=h
   obtain⟨a,ha,rfl⟩:=ra
   induction hi:uD J l using Option.casesOn with
   | none=>rw[hi]at h;cases h
   | some t=>
     obtain⟨Cl,dl,kvs⟩:=t
     rw[hi]at h
     simp only[Option.bind_some]at h
     set_option tactic.hygienic true in split at h
     ·rename_i ht
      induction hk:TA n kvs using Option.casesOn with
      | none=>rw[hk]at h;cases h
      | some v'=>
        rw[hk]at h
        simp only[Option.bind_some]at h
        set_option tactic.hygienic true in split at h
        ·rename_i hok
         cases h
         obtain⟨ox,od,dx,m,es,ep,I,_,_,_,_,_,_,_,_,hl,rr,_⟩:=VO S hi ha
         have hr:=rr n
         rw[hk]at hr
         induction hm:m ⟨n.toArray⟩using Option.casesOn with
         | none=>rw[hm]at hr;exact hr.elim
         | some x=>
           rw[hm]at hr
           have hlx:=hl ⟨n.toArray⟩
           rw[hm]at hlx
           have K:g.K.In s.heap:=Y.K.keeps S.base
           have tb:=(Y.tab Cl n ht).1
           have fin:=dD S (Q:=Q) hq hr (s.toks+1)
           by_cases hx:aU Cl=true
           ·rw[if_pos hx]at tb
            unfold zQ at tb
            simp only[Bool.and_eq_true,beq_iff_eq]at tb
            obtain⟨⟨⟨t1,t2⟩,t3⟩,t4⟩:=tb
            exact EY K I t1 t2 (Y.exc Cl hx).1 (WP t3 t4 hlx) (NM hr hok) fin
           ·rw[if_neg hx]at tb
            unfold ES plainGet at tb
            simp only[Bool.and_eq_true,beq_iff_eq]at tb
            obtain⟨⟨⟨t1,t2⟩,t3⟩,t4⟩:=tb
            exact get_value K I t1 (WP t3 t4 hlx) (NM hr hok) fin
        ·cases h
     ·cases h
 | _=>exact BF h
theorem oL{h:Heap}{v:V}{x:Value}{o:Option Int}(r:VA g h U v x)(e:eS v=some o):IsPart x o:=by
 induction v using V.casesOn with
 | none=>cases e;subst r;exact .none
 | int i=>cases e;obtain⟨t,rfl⟩:=r;exact .int _ _
 | _=>exact BF e
theorem MN(n:Nat)(i:Int):clipAt n i=rD n i:=by
 have:=clipAt_cast n i
 have:=SL n i
 lia
theorem mN{h:Heap}{vs:List Value}{ns:List Int}(hi:IntsAre vs ns):∀l:List Nat,∃js:List Int,js.length<=l.length/\PA g h U (js.map .int) (l.filterMap (vs[·]?))
 | []=>⟨[],Nat.le_refl _,trivial⟩
 | k::l=>by
   obtain⟨js,h1,h2⟩:=mN hi l
   rw[List.filterMap_cons]
   induction e:vs[k]? using Option.casesOn with
   | none=>exact⟨js,by simp;exact BB h1,h2⟩
   | some x=>
     obtain⟨n,t,rfl⟩:∃n t,x= .int n t:=by
      clear h1 h2
      induction hi generalizing k with
      | nil=>simp at e
      | cons n t _ ih=>
        induction k using Nat.casesOn with
        | zero=>simp at e;exact⟨n,t,e.symm⟩
        | succ k=>exact ih k (by simpa using e)
     exact⟨n::js,by simp;assumption,⟨⟨t,rfl⟩,h2⟩⟩
theorem dM{h:Shared}{a:Addr}{os:Array Value}{n:Nat}(e:h.heap.get? a=some {cls:= .type "list",data:= .seq os n}):h.TypeIs (.ref a) "list":=⟨_,e,rfl⟩
theorem gW(Y:xC g)(C:Cx g A s U d hd)(S:St g s U J){value slice:Expr}{x y z:V}{a b c:Value}{E:Value->Shared->Prop}{Q:V->List O->Prop}(ra:VA g s.heap U x a)(rb:VA g s.heap U y b)(rc:VA g s.heap U z c)(h:UE J x y z Q):
 wpAny (model g.prog g.w) A (subscriptTail value slice a (.ref s.heap.objs.size)) (wA g s.heap U [] Q) E {s with heap:=s.heap.push {cls:= .type "slice",data:= .fields #[b,c, .none]}}:=by
 have DA:=S.pushU {cls:= .type "slice",data:= .fields #[b,c, .none]}
 have HA:=NA.pushU s.heap U {cls:= .type "slice",data:= .fields #[b,c, .none]}
 induction x using V.casesOn with
 | str x=>
   obtain⟨i,j,h1,h2,hq⟩:=h
   obtain⟨t,rfl,hz,hc⟩:=ra
   obtain⟨o1,e1,rfl⟩:=vP h1
   obtain⟨o2,e2,rfl⟩:=cP h2
   obtain⟨p1,rfl,q1⟩:=HQ rb e1
   obtain⟨p2,rfl,q2⟩:=HQ rc e2
   refine VF (T:="str") rfl PySem.F.slot_str_getitem.lookup ?_
   refine LU DA (lo:=p1) (hi:=p2) ⟨_,Heap.get?_push_size _ rfl,rfl,rfl⟩ (fun t' k=>?_) hz
   rw[q1,q2]
   refine CF hq ⟨t',rfl,Nat.le_trans (JO ..) hz,fun c m=>hc c (pX m)⟩ (DA.toks k) HA
 | loc l=>
   obtain⟨vs,i,j,hl,hsz,h1,h2,hq⟩:=h
   obtain⟨a,ha,rfl⟩:=ra
   obtain⟨o1,e1,rfl⟩:=vP h1
   obtain⟨o2,e2,rfl⟩:=cP h2
   obtain⟨a',os,n,ha',ho,hz,rr⟩:=DA.list hl
   rw[ha]at ha';cases ha'
   refine VF (T:="list") (dM ho) PySem.slot_list_getitem.lookup ?_
   have hlen:=rr.len
   rw[Array.length_toList]at hlen
   refine wpAny_getItem_list_slice (OD ho) (.new _ _ _ _) (oL rb e1) (oL rc e2) .none (by simp) ?_ (by rw[OA];exact LB (eL hlen) hsz)
   have hc:(slicePick os o1 o2 none).toList=PG os.toList (cE vs.length o1) (bE vs.length o2):=by
    rw[slicePick_plain]
    unfold PG
    rw[List.drop_take]
    have e1:o1.elim 0 (clipAt os.size)=cE vs.length o1:=by induction o1 using Option.casesOn <;>simp[cE,MN,hlen]
    have e2:o2.elim os.size (clipAt os.size)=bE vs.length o2:=by induction o2 using Option.casesOn <;>simp[bE,MN,hlen]
    rw[e1,e2]
   have nA:=NA.pushT (s.heap.push {cls:= .type "slice",data:= .fields #[b,c, .none]}) U {cls:= .type "list",data:= .seq (slicePick os o1 o2 none)}
   refine CF hq ⟨_,?_,rfl⟩ (DA.pushT _ (.list (PG vs (cE vs.length o1) (bE vs.length o2))) rfl ⟨slicePick os o1 o2 none,0,Heap.get?_push_size _ rfl,?_,?_⟩) (HA.trans nA)
   ·rw[<-DA.len];exact HC ..
   ·have:=JO vs (cE vs.length o1) (bE vs.length o2);exact Nat.le_trans this hz
   ·rw[hc]
    exact((rr.take _).drop _).step0 DA nA
 | _=>exact h.elim
theorem Ia{st:Int}{m:Nat}(h:0<=st)(hm:m<=63):(sliceRange st (m:Int) 5).length<=63:=by
 unfold sliceRange
 simp only[show(5:Int)>0 from by decide,if_true,List.length_map,List.length_range]
 split <;>lia
theorem KU(Y:xC g)(C:Cx g A s U d hd)(S:St g s U J){value slice:Expr}{x y z:V}{a b c:Value}{E:Value->Shared->Prop}{Q:V->List O->Prop}(ra:VA g s.heap U x a)(rb:VA g s.heap U y b)(rc:VA g s.heap U z c)
 (h:WM x y z J Q):
 wpAny (model g.prog g.w) A (subscriptTail value slice a (.ref s.heap.objs.size)) (wA g s.heap U [] Q) E {s with heap:=s.heap.push {cls:= .type "slice",data:= .fields #[b, .none,c]}}:=by
 induction x using V.casesOn with
 | script=>
   obtain⟨i,rfl,h⟩:=WO h
   obtain⟨n,rfl,hi,rfl,hq⟩:=WO h
   subst ra
   obtain⟨tb,rfl⟩:=rb
   obtain⟨tc,rfl⟩:=rc
   obtain⟨vs,hl,hints,h63⟩:=Y.script
   have hlen:vs.size=g.ns.length:=by have:=hints.length;simpa using this
   have DA:=S.pushU {cls:= .type "slice",data:= .fields #[.int i tb, .none, .int 5 tc]}
   have HA:=NA.pushU s.heap U {cls:= .type "slice",data:= .fields #[.int i tb, .none, .int 5 tc]}
   obtain⟨o,ho,hc,n,hd⟩:=hl
   have fL:=DA.base _ _ ho
   refine VF (T:="list") ⟨o,fL,hc⟩ PySem.F.slot_list_getitem.lookup ?_
   refine wpAny_getItem_list_slice ⟨o,fL,hc,n,hd⟩ (.new _ _ _ _) (.int _ _) .none (.int _ _) (by decide) ?_ (by rw[OA];exact LB (eL hlen) h63)
   have nA:=NA.pushT (s.heap.push {cls:= .type "slice",data:= .fields #[.int i tb, .none, .int 5 tc]}) U {cls:= .type "list",data:= .seq (slicePick vs (some i) none (some 5))}
   obtain⟨js,hj,rr⟩:=mN (g:=g) (U:=U++[(s.heap.push {cls:= .type "slice",data:= .fields #[.int i tb, .none, .int 5 tc]}).objs.size]) (h:=(s.heap.push {cls:= .type "slice",data:= .fields #[.int i tb, .none, .int 5 tc]}).push {cls:= .type "list",data:= .seq (slicePick vs (some i) none (some 5))}) hints (sliceRange (sliceBounds (some i) none (some 5) vs.size).1 (sliceBounds (some i) none (some 5) vs.size).2.1 (sliceBounds (some i) none (some 5) vs.size).2.2)
   have hcnt:(sliceRange (sliceBounds (some i) none (some 5) vs.size).1 (sliceBounds (some i) none (some 5) vs.size).2.1 (sliceBounds (some i) none (some 5) vs.size).2.2).length<=63:=by
    refine Ia (st:=max 0 (min (if i < 0 then i+vs.size else i) vs.size)) (m:=vs.size) ?_ (by exact Nat.le_trans (eL hlen) h63)
    lia
   have hpk:(slicePick vs (some i) none (some 5)).toList=(sliceRange (sliceBounds (some i) none (some 5) vs.size).1 (sliceBounds (some i) none (some 5) vs.size).2.1 (sliceBounds (some i) none (some 5) vs.size).2.2).filterMap (vs.toList[·]?):=by
    unfold slicePick
    simp
   refine CF (hq js (Nat.le_trans hj hcnt)) ⟨_,?_,rfl⟩ (DA.pushT _ (.list (js.map .int)) rfl ⟨slicePick vs (some i) none (some 5),0,Heap.get?_push_size _ rfl,?_,?_⟩) (HA.trans nA)
   ·rw[<-DA.len];exact HC ..
   ·simp;exact LB hcnt hj
   ·rw[hpk];exact rr
 | _=>exact h.elim
theorem JY{h:Heap}:∀{vs:List V} {ns:List Int} {xs:List Value},UG vs=some ns->PA g h U vs xs->IntsAre xs ns:=by
 intro vs
 induction vs with
 | nil=>intro ns xs e r;cases e;induction xs using List.casesOn with
   | nil=>exact .nil
   | cons _ _=>exact r.elim
 | cons v vs ih=>intro ns xs e r;induction xs using List.casesOn with
   | nil=>exact r.elim
   | cons x xs=>induction v using V.casesOn with
     | int i=>
       obtain⟨⟨t,rfl⟩,rr⟩:=r
       obtain⟨m,q,rfl⟩:=Option.map_eq_some_iff.mp (e)
       exact .cons i t (ih q rr)
     | _=>exact BF e
noncomputable def yf:Option O->Option Nat
 | some (.list vs)=>some vs.length
 | some (.dict kvs _)=>some kvs.length
 | _=>none
theorem tU(Y:xC g)(C:Cx g A s U d hd)(S:St g s U J){f:Value}{vs:List V}{xs:List Value}{E:Value->Shared->Prop}{Q:V->List O->Prop}(r:PA g s.heap U vs xs)(h:EH g hd f vs J Q):
 wpAny (model g.prog g.w) A (call f xs) (wA g s.heap U [] Q) E s:=by
 induction f using Value.casesOn with
 | builtin f=>
   unfold EH at h
   dsimp only at h
   by_cases q:f="len"
   ·rw[if_pos q]at h;subst q
    rcases vs with _ | ⟨v,_ | ⟨v2,vs⟩⟩ <;>first | exact h.elim | skip
    obtain⟨n,hn,hq⟩:=h
    obtain⟨x,rfl,rv⟩:=r.one
    ·have fin:wA g s.heap U [] Q (.int (n:Int) (s.toks+1)) {s with toks:=s.toks+1+1}:=dD S hq ⟨_,rfl⟩ _
     induction v using V.casesOn with
     | str s=>
       cases hn
       obtain⟨t,rfl,hz,_⟩:=rv
       rw[<-eB]at fin
       exact PySem.P.len_str (by rw[eB];rw[OA]at hz;lia) fin
     | tup vs=>
       cases hn
       obtain⟨a,os,rfl,t,hz,rr⟩:=rv
       have hlen:=rr.len
       rw[Array.length_toList]at hlen
       rw[<-hlen]at fin hz
       exact PyProof.Rows.len_tuple t (by lia) fin
     | script=>
       cases hn
       subst rv
       obtain⟨vs,hl,hints,h63⟩:=Y.script
       have hlen:vs.size=g.ns.length:=by have:=hints.length;simpa using this
       rw[<-hlen]at fin h63
       obtain⟨o,ho,r⟩:=hl
       exact call_len_list ⟨o,S.base _ _ ho,r⟩ (by lia) fin
     | loc l=>
       obtain⟨a,ha,rfl⟩:=rv
       have hn:yf J[l]?=some n:=hn
       rcases hl:J[l]? with _ | (⟨ws⟩ | ⟨kvs,ep⟩ | _ | _ | _ | _) <;>rw[hl]at hn <;>first | exact BF hn | skip
       ·cases hn
        obtain⟨os,m,ho,hz,rr⟩:=S.objs _ a _ ha hl
        have hlen:=rr.len
        rw[Array.length_toList]at hlen
        rw[<-hlen]at fin hz
        exact call_len_list (OD ho) (by lia) fin
       ·cases hn
        obtain⟨ps,D,hz,rr⟩:=S.objs _ a _ ha hl
        have hlen:=rr.len
        rw[<-hlen]at fin hz
        exact call_len_dict (WI Y S ha) D.dictOf (by rw[OA]at hz;lia) fin
     | _=>exact BF hn
   rw[if_neg q]at h;clear q
   by_cases q:f="ord"
   ·rw[if_pos q]at h;subst q
    rcases vs with _ | ⟨v,_ | ⟨v2,vs⟩⟩ <;>first | exact h.elim | skip
    set_option tactic.hygienic true in induction v using V.casesOn <;>first | exact h.elim | skip
    rename_i s
    rcases s with _ | ⟨c,_ | ⟨c2,s⟩⟩ <;>first | exact h.elim | skip
    obtain⟨x,rfl,t,rfl,_⟩:=r.one
    exact PySem.P.ord_of_char (dD S h ⟨_,rfl⟩ _)
   rw[if_neg q]at h;clear q
   by_cases q:f="chr"
   ·rw[if_pos q]at h;subst q
    rcases vs with _ | ⟨v,_ | ⟨v2,vs⟩⟩ <;>first | exact h.elim | skip
    set_option tactic.hygienic true in induction v using V.casesOn <;>first | exact h.elim | skip
    rename_i i
    obtain⟨x,rfl,t,rfl⟩:=r.one
    ·obtain⟨h1,h2,hq⟩:=h
     refine PySem.P.chr_of_int ?_ (dD S hq ⟨_,rfl,by rw[OA];simp,fun c m=>?_⟩ _)
     ·simp;lia
     ·rw[List.mem_singleton.mp m];lia
   rw[if_neg q]at h;clear q
   by_cases q:f="isinstance"
   ·rw[if_pos q]at h;subst q
    rcases vs with _ | ⟨v,_ | ⟨v2,_ | ⟨v3,vs⟩⟩⟩ <;>first | exact h.elim | skip
    set_option tactic.hygienic true in induction v2 using V.casesOn <;>first | exact h.elim | skip
    rename_i cv
    induction v using V.casesOn with
    | str sx=>induction cv using Value.casesOn with
      | ref Cl=>
        obtain⟨x,y,rfl,⟨t,rfl,_⟩,rfl⟩:=r.two
        ·obtain⟨hn,hq⟩:=h
         exact isn_call (K:=g.K) (P:=fun u0=>True) (Y.K.keeps S.base) (fun M=>Looks.of_pure rfl) (Y.nst _ hn) (by simp) trivial (fun p h=>str_cls p h) (dD S hq rfl _)
      | _=>exact h.elim
    | tup ws=>
      obtain⟨rfl,h⟩:=h
      obtain⟨x,y,rfl,⟨a,os,rfl,⟨o,e,c,_⟩,_⟩,rfl⟩:=r.two
      ·exact PySem.IsiPair.tuple_tuple e c (KQ S h rfl)
    | _=>exact h.elim
   rw[if_neg q]at h;clear q
   by_cases q:f="sum"
   ·rw[if_pos q]at h;subst q
    rcases vs with _ | ⟨v,_ | ⟨v2,vs⟩⟩ <;>first | exact h.elim | skip
    set_option tactic.hygienic true in induction v using V.casesOn <;>first | exact h.elim | skip
    rename_i l
    obtain⟨rfl,vs,ns,hl,hi,hq⟩:=h
    obtain⟨x,rfl,a,ha,rfl⟩:=r.one
    ·obtain⟨a',os,m,ha',ho,hz,rr⟩:=S.list hl
     rw[ha]at ha';cases ha'
     have hints:=JY hi rr
     obtain⟨ys,hx⟩:=hints.allInts.items
     have e0:os=intItems ys:=by rw[<-hx]
     refine sum_intListG (xs:=ys) C.hand (by rw[<-e0];exact OD ho) fun h' tk t' hk=>?_
     have e1:ns=ys.toList.map (·.1):=by
      rw[<-nums_intItems, <-e0]
      exact(hints.numsOf).symm
     have e2:preSum (numAt ys) ys.size=ns.sum:=by
      rw[preSum_eq,List.take_of_length_le (by simp),e1]
     rw[e2]
     exact CF hq ⟨_,rfl⟩ (S.ext hk tk) (NA.ext U hk [])
   rw[if_neg q]at h;clear q
   exact h.elim
 | type f=>
   unfold EH at h
   dsimp only at h
   by_cases q:f="tuple"
   ·rw[if_pos q]at h;subst q
    rcases vs with _ | ⟨v,_ | ⟨v2,vs⟩⟩ <;>first | exact h.elim | skip
    set_option tactic.hygienic true in induction v using V.casesOn <;>first | exact h.elim | skip
    rename_i l
    obtain⟨vs,hl,hz',hq⟩:=h
    obtain⟨x,rfl,a,ha,rfl⟩:=r.one
    ·obtain⟨a',os,m,ha',ho,hz,rr⟩:=S.list hl
     rw[ha]at ha';cases ha'
     have hlen:=rr.len
     rw[Array.length_toList]at hlen
     refine call_tuple_list (OD ho) (fun h' hk=>?_) (by rw[OA];exact LB (eL hlen) hz')
     have DA:=S.ext hk s.toks
     have HA:=NA.ext U hk []
     have nA:=HA.trans (NA.pushU h' U {cls:= .type "tuple",data:= .seq os})
     exact CF hq ⟨_,os,rfl,⟨_,Heap.get?_push_size _ rfl,rfl,0,rfl⟩,by assumption,rr.step0 S nA⟩ (DA.pushU _) nA
   rw[if_neg q]at h;clear q
   by_cases q:f="list"
   ·rw[if_pos q]at h;subst q
    rcases vs with _ | ⟨v,_ | ⟨v2,vs⟩⟩ <;>first | exact h.elim | skip
    set_option tactic.hygienic true in induction v using V.casesOn <;>first | exact h.elim | skip
    rename_i l
    obtain⟨vs,hl,hz',hq⟩:=h
    obtain⟨x,rfl,a,ha,rfl⟩:=r.one
    ·obtain⟨a',os,m,ha',ho,hz,rr⟩:=S.list hl
     rw[ha]at ha';cases ha'
     have hlen:=rr.len
     rw[Array.length_toList]at hlen
     refine call_list_seq a (.inl rfl) ho rfl rfl (fun h' c' hk hD=>?_) (by rw[OA];exact LB (eL hlen) hz')
     have HA:=NA.grow U hk
     refine CF hq ⟨_,?_,rfl⟩ (S.grow hk s.toks (.list vs) ⟨os,c',hD,hz,rr.step0 S HA⟩) HA
     rw[<-S.len];exact HC ..
   rw[if_neg q]at h;clear q
   exact h.elim
 | _=>exact h.elim
end
section
open PySem.Builtin.Str
noncomputable def FP(g:G)(h:Heap)(U:List Addr):List (List Nat)->List V->List (Value×Value)->Prop
 | [],[],[]=>True
 | k::ks,v::vs,p::r=>(∃t,p.1= .str ⟨k.toArray⟩ t)/\VA g h U v p.2/\FP g h U ks vs r
 | _,_,_=>False
inductive fU(g:G)(h:Heap)(U:List Addr)(ks:List (List Nat))(Q:List V->List O->Prop)(ps:List (Value×Value))(s':Shared):Prop
 | mk (mv:List V) (LA:List O) (rA:List Addr) (q:Q mv LA) (r:FP g s'.heap rA ks mv ps) (S:St g s' rA LA) (T:NA h s'.heap U rA [])
section
variable{g:G}{s:Shared}{U:List Addr}{J:List O}{A:Around}{d:Nat}{hd:Option Nat}
theorem vH{f:Value}{trees:List (Bool×Sem Value)}(hp:trees.any (·.1)=false){Q:Args->Shared->Prop}{E:Value->Shared->Prop}{s:Shared}{M:Model}{A:Around}(h:wpAny M A (spliced trees) (fun vs s'=>Q ⟨vs,[]⟩ s') E s):wpAny M A (evalArgs f true trees []) Q E s:=by
 induction trees using List.casesOn with
 | nil=>
   refine wpAny_bind (wpAny_mono h (fun vs s' h'=>?_) fun u0 u0 x=>x)
   refine wpAny_holding ?_
   exact wpAny_bind (wpAny_pure (wpAny_bind (wpAny_pure (wpAny_pure h'))))
 | cons t r=>
   obtain⟨b,t⟩:=t
   induction b using Bool.casesOn with
   | true=>simp at hp
   | false=>exact Calls.evalArgs_plain h
theorem PL{f:Value}{xs:List Value}{Q:V->List O->Prop}{E:Nat->List O->Prop}{bA:Heap}{UA:List Addr}{CA:Shared}{BA:List Addr}(T:NA bA CA.heap UA BA [])
 (h:codeAny (model g.prog g.w) A (.call f ⟨xs,[]⟩) (zY g CA.heap BA (fun r J=>match r with | .ok v=>Q v J | .exn l=>E l J)) CA):
 wpAny (model g.prog g.w) A (call f xs) (wA g bA UA [] Q) (dA g bA UA [] E) CA:=by
 refine wpAny_call (codeAny_mono h fun r s' p=>?_)
 rcases r with e | (_ | _ | _ | v)
 ·exact p.1.from T
 ·exact p.elim
 ·exact p.elim
 ·exact p.elim
 ·exact wA.from T p
theorem QT(Y:xC g)(C:Cx g A s U d hd)(S:St g s U J){a:Addr}{pos:Pos}{trees:List (Bool×Sem Value)}{Q:V->List O->Prop}{E:Nat->List O->Prop}(hp:trees.any (·.1)=false)(hk:PZ a=true)
 (h:wpAny (model g.prog g.w) A (spliced trees) (UD g s.heap U (fun vs J=>CallOk g d hd (.ref a) vs J (fun r J=>match r with | .ok v=>Q v J | .exn l=>E l J))) (dA g s.heap U [] E) s):
 wpAny (model g.prog g.w) A (callWith pos (.ref a) [] trees []) (wA g s.heap U [] Q) (dA g s.heap U [] E) s:=by
 refine callWith_of (P:=fun h=>g.K.In h) (by rw[hp];rfl) (fun h X=>keeps_K (Y.kp a hk) h X) (vH hp (wpAny_mono h (fun xs CA p=>?_) fun u0 u0 e=>e))
 obtain⟨mvs,JA,BA,q,r,DA,HA⟩:=p
 exact⟨Y.K.keeps DA.base,PL HA (q A CA BA xs (C.step S HA) DA r)⟩
theorem wU(Y:xC g)(C:Cx g A s U d hd)(S:St g s U J){f:String}{pos:Pos}{trees:List (Bool×Sem Value)}{Q:V->List O->Prop}{E:Nat->List O->Prop}(hp:trees.any (·.1)=false)
 (h:wpAny (model g.prog g.w) A (spliced trees) (UD g s.heap U (fun vs J=>EH g hd (.builtin f) vs J Q)) (dA g s.heap U [] E) s):
 wpAny (model g.prog g.w) A (callWith pos (.builtin f) [] trees []) (wA g s.heap U [] Q) (dA g s.heap U [] E) s:=by
 refine PySem.Calls.callWith_builtin hp (vH hp (wpAny_mono h (fun xs CA p=>?_) fun u0 u0 e=>e))
 obtain⟨mvs,JA,BA,q,r,DA,HA⟩:=p
 exact wpAny_mono (tU Y (C.step S HA) DA r q) (fun u0 u0 p=>p.from HA) fun u0 u0 e=>e
theorem xU(Y:xC g)(C:Cx g A s U d hd)(S:St g s U J){f:String}{pos:Pos}{trees:List (Bool×Sem Value)}{Q:V->List O->Prop}{E:Nat->List O->Prop}(hp:trees.any (·.1)=false)
 (h:wpAny (model g.prog g.w) A (spliced trees) (UD g s.heap U (fun vs J=>EH g hd (.type f) vs J Q)) (dA g s.heap U [] E) s):
 wpAny (model g.prog g.w) A (callWith pos (.type f) [] trees []) (wA g s.heap U [] Q) (dA g s.heap U [] E) s:=by
 refine PyProof.Rows.callWith_type hp (vH hp (wpAny_mono h (fun xs CA p=>?_) fun u0 u0 e=>e))
 obtain⟨mvs,JA,BA,q,r,DA,HA⟩:=p
 exact wpAny_mono (tU Y (C.step S HA) DA r q) (fun u0 u0 p=>p.from HA) fun u0 u0 e=>e
theorem ZT{r:CFound}{v:Value}(h:FV r=some v):r= .val v:=by
 induction r using CFound.casesOn with
 | val b=>cases h;rfl
 | _=>cases h
theorem rL{α:Type}{p:Prop} [Decidable p]{o:Option α}{a:α}(h:(if p then o else none)=some a):p/\o=some a:=by
 by_cases q:p
 ·rw[if_pos q]at h;exact⟨q,h⟩
 ·rw[if_neg q]at h;cases h
theorem AU{K:Frag}{C:Addr}{n:List Nat}{f:Addr}(h:MR K C n=some f):findIn K (.ref C) ⟨n.toArray⟩=some (some (.ref f))/\typeIn K (.ref f)=some (.type "function")/\keepIn K (.ref f)=true/\
 findIn K (.ref C) "__getattribute__"=some (some (.builtin "object.__getattribute__"))/\findIn K (.ref C) "__getattr__"=some none:=by
 obtain⟨o,e1,h⟩:=Option.bind_eq_some_iff.mp h
 obtain⟨v,e2,h⟩:=Option.bind_eq_some_iff.mp h
 obtain⟨f',e3,h⟩:=Option.bind_eq_some_iff.mp h
 obtain⟨hc,h⟩:=rL h
 cases h
 unfold isFn plainGet at hc
 simp only[Bool.and_eq_true,beq_iff_eq]at hc
 exact⟨by rw[e1,e2,LM e3],hc.1.1,hc.1.2,hc.2.1,hc.2.2⟩
theorem kP(Y:xC g)(C:Cx g A s U d hd)(S:St g s U J){l:Nat}{a Cl:Addr}{dl:Nat}{kvs:List (List Nat×V)}{f:Addr}{n:List Nat}{pos:Pos}{pl:Sem Bool}{trees:List (Bool×Sem Value)}{Q:V->List O->Prop}{E:Nat->List O->Prop}
 (hl:J[l]?=some (.inst Cl dl)) (ha:U[l]?=some a) (hk:oI J dl=some kvs) (hn:TA n kvs=none) (hm:uL Cl n=some f) (hp:trees.any (·.1)=false)
 (h:wpAny (model g.prog g.w) A (spliced trees) (UD g s.heap U (fun vs J=>CallOk g d hd (.ref f) (.loc l::vs) J (fun r J=>match r with | .ok v=>Q v J | .exn l=>E l J))) (dA g s.heap U [] E) s):
 wpAny (model g.prog g.w) A (getMethod (.ref a) ⟨n.toArray⟩ pl) (fun fm cA=>wpAny (model g.prog g.w) A (callWith pos fm.1 fm.2 trees []) (wA g s.heap U [] Q) (dA g s.heap U [] E) cA) (dA g s.heap U [] E) s:=by
 have hi:uD J l=some (Cl,dl,kvs):=by unfold uD;rw[hl];simp[hk]
 obtain⟨ox,od,dx,m,es,ep,I,_,_,_,_,_,_,_,_,hlk,rr,_⟩:=VO S hi ha
 obtain⟨m1,m2,m3,m4,m5⟩:=AU (Y.mth _ _ _ hm)
 have hr:=rr n
 rw[hn]at hr
 have hsh:shadowIn (some od) ⟨n.toArray⟩=some false:=by
  show(lookIn ⟨n.toArray⟩ od).map (·.isSome)=some false
  rw[hlk]
  induction q:m ⟨n.toArray⟩using Option.casesOn with
  | none=>rfl
  | some x=>rw[q]at hr;exact hr.elim
 refine method_fn (Y.K.keeps S.base) I m4 m5 m1 m2 hsh ?_
 refine callWith_of (P:=fun h=>g.K.In h) (by rw[hp];rfl) (fun h X=>keeps_K m3 h X) (vH hp (wpAny_mono h (fun xs CA p=>?_) fun u0 u0 e=>e))
 obtain⟨mvs,JA,BA,q,r,DA,HA⟩:=p
 exact⟨Y.K.keeps DA.base,PL HA (q A CA BA (.ref a::xs) (C.step S HA) DA ⟨⟨a,HA.loc _ _ ha,rfl⟩,r⟩)⟩
theorem rQ(Y:xC g)(C:Cx g A s U d hd)(S:St g s U J){Cl f:Addr}{n:List Nat}{pos:Pos}{pl:Sem Bool}{trees:List (Bool×Sem Value)}{Q:V->List O->Prop}{E:Nat->List O->Prop}
 (hm:Fa Cl n=some f) (hp:trees.any (·.1)=false)
 (h:∀t,wpAny (model g.prog g.w) A (spliced trees) (UD g s.heap U (fun vs J=>CallOk g d hd (.ref f) vs J (fun r J=>match r with | .ok v=>Q v J | .exn l=>E l J))) (dA g s.heap U [] E) {s with toks:=t}):
 wpAny (model g.prog g.w) A (getMethod (.ref Cl) ⟨n.toArray⟩ pl) (fun fm cA=>wpAny (model g.prog g.w) A (callWith pos fm.1 fm.2 trees []) (wA g s.heap U [] Q) (dA g s.heap U [] E) cA) (dA g s.heap U [] E) s:=by
 have hm:=Y.cm _ _ _ hm
 have K:g.K.In s.heap:=Y.K.keeps S.base
 obtain⟨mc,e1,hm⟩:=Option.bind_eq_some_iff.mp hm
 obtain⟨hc,hm⟩:=rL hm
 simp only[Bool.and_eq_true,beq_iff_eq]at hc
 obtain⟨r,e2,hm⟩:=Option.bind_eq_some_iff.mp hm
 obtain⟨v,e3,hm⟩:=Option.bind_eq_some_iff.mp hm
 obtain⟨f',e4,hm⟩:=Option.bind_eq_some_iff.mp hm
 obtain⟨hk,hm⟩:=rL hm
 cases hm
 have hk:=Bool.and_eq_true_iff.mp hk
 rw[ZT e3,LM e4]at e2
 refine method_cls K hc.2 (cls_value K hc.1 e2 rfl ?_)
 refine callWith_of (P:=fun h=>g.K.In h) (by rw[hp];rfl) (fun h X=>keeps_K hk.2 h X) (vH hp (wpAny_mono (h _) (fun xs CA p=>?_) fun u0 u0 e=>e))
 obtain⟨mvs,JA,BA,q,r,DA,HA⟩:=p
 exact⟨Y.K.keeps DA.base,PL HA (q A CA BA xs (C.step S HA) DA r)⟩
theorem XK{h h':Heap}(ht:∀a os,IsTup h a os->IsTup h' a os):∀{ks:List (List Nat)} {vs:List V} {xs:List (Value×Value)},FP g h U ks vs xs->FP g h' U ks vs xs
 | [],[],[],_=>trivial
 | _::_,_::_,_::_,⟨a,b,c⟩=>⟨a,VA.congr ht (fun u0 u0 e=>e) _ _ b,XK ht c⟩
 | [],_::_,_,r=>r.elim
 | [],[],_::_,r=>r.elim
 | _::_,[],_,r=>r.elim
 | _::_,_::_,[],r=>r.elim
theorem mM{α:Type}{M:Model}{a:α}{Q:α->Shared->Prop}{E:Value->Shared->Prop}{s:Shared}(h:wpAny M A (pure a) Q E s)(hA:∃Γ:Ctx,Γ.In A):Q a s:=by
 obtain⟨Γ,Ac⟩:=hA
 exact h Γ default Ac
theorem cV{e:Option Expr}{x:Str}(h:mW e=some x):∃n p,e=some (.Constant (.str x) n p):=by
 induction e using Option.casesOn with
 | none=>exact BF h
 | some e=>induction e using Expr.casesOn with
   | Constant v n p=>induction v using PySem.Const.casesOn with
     | str kx=>exact⟨n,p,by rw[Option.some.inj (h)]⟩
     | _=>exact BF h
   | _=>exact BF h
theorem zI{k:List Nat}{ks:List (List Nat)}{keys:List (Option Expr)}(h:FH (k::ks) keys=true):∃kx n p r,keys=some (.Constant (.str kx) n p)::r/\AM k kx=true/\FH ks r=true:=by
 induction keys using List.casesOn with
 | nil=>exact Bool.noConfusion (show false=true from h)
 | cons e r=>
   have h:(match mW e with | some x=>AM k x&&FH ks r | none=>false)=true:=h
   induction q:mW e using Option.casesOn with
   | none=>rw[q]at h;exact Bool.noConfusion h
   | some x=>
     rw[q]at h
     obtain⟨n,p,rfl⟩:=cV q
     exact⟨x,n,p,r,rfl,Bool.and_eq_true_iff.mp h⟩
theorem UT:∀{ks:List (List Nat)} {keys:List (Option Expr)},FH ks keys=true->ks.length=keys.length:=by
 intro ks
 induction ks with
 | nil=>intro keys h;induction keys using List.casesOn with
   | nil=>rfl
   | cons k r=>exact Bool.noConfusion (h)
 | cons k ks ih=>
   intro keys h
   obtain⟨x,n,p,r,rfl,_,h⟩:=zI h
   exact congrArg (· +1) (ih h)
theorem TT:∀{ks:List (List Nat)} {keys:List (Option Expr)},FH ks keys=true->keys.all (·.isSome)=true:=by
 intro ks
 induction ks with
 | nil=>intro keys h;induction keys using List.casesOn with
   | nil=>rfl
   | cons k r=>exact Bool.noConfusion (show false=true from h)
 | cons k ks ih=>
   intro keys h
   obtain⟨x,n,p,r,rfl,_,h2⟩:=zI h
   show(true&&r.all (·.isSome))=true
   rw[Bool.true_and];exact ih h2
theorem zU:∀{ks:List (List Nat)} {keys:List (Option Expr)},FH ks keys=true->∀k∈ks,k.length<=sizeLine/\∀c∈k,c < 0x110000:=by
 intro ks
 induction ks with
 | nil=>intro keys h k m;cases m
 | cons k ks ih=>
   intro keys h k' m
   obtain⟨x,n,p,r,rfl,h1,h⟩:=zI h
   rcases List.mem_cons.mp m with rfl | m
   ·unfold AM at h1
    simp only[Bool.and_eq_true,beq_iff_eq,decide_eq_true_eq,List.all_eq_true]at h1
    exact⟨by rw[OA];exact TD h1.1.2,h1.2⟩
   ·exact ih h k' m
theorem EM(k:List Nat)(v:V):∀kvs:List (List Nat×V),(VB k v kvs).length<=kvs.length+1
 | []=>by simp[VB.r1,VB.r2]
 | (k',v')::r=>by
   have:=EM k v r
   (first | rw[VB.r1] | rw[VB.r2]);split <;>simp <;>assumption
theorem dI{h:Heap}{k:List Nat}{v:V}{x:Value}(hk:k.length<=sizeLine/\∀c∈k,c < 0x110000)(rv:VA g h U v x):∀{kvs:List (List Nat×V)} {ps:List (Str×Value)},sB g h U kvs ps->(ps.map (·.1)).Nodup->sB g h U (VB k v kvs) (stored ps (⟨k.toArray⟩:Str) x)
 | [],[],_,_=>⟨⟨rfl,hk.1,hk.2,rv⟩,trivial⟩
 | (k',v')::kvs,(p1,p2)::ps,⟨⟨e1,e2,e3,e4⟩,rr⟩,hn=>by
   simp only[List.map_cons,List.nodup_cons]at hn
   have e1':p1=⟨k'.toArray⟩:=e1
   subst e1'
   by_cases hkk:k'=k
   ·subst hkk
    (first | rw[VB.r1,if_pos rfl] | rw[VB.r2,if_pos rfl])
    have hno:∀p∈ps,¬p.1=(⟨k'.toArray⟩:Str):=fun p m e=>hn.1 (List.mem_map.mpr ⟨p,m,e⟩)
    have:stored (((⟨k'.toArray⟩:Str),p2)::ps) ⟨k'.toArray⟩ x=(⟨k'.toArray⟩,x)::ps:=by
     unfold stored
     rw[if_pos (by simp)]
     simp only[List.map_cons,if_true]
     congr 1
     conv=>rhs;rw[<-List.map_id ps]
     refine List.map_congr_left fun p m=>?_
     rw[if_neg (hno p m)];rfl
    rw[this]
    exact⟨⟨rfl,e2,e3,rv⟩,rr⟩
   ·(first | rw[VB.r1,if_neg hkk] | rw[VB.r2,if_neg hkk])
    have hne:¬(⟨k'.toArray⟩:Str)=⟨k.toArray⟩:=fun e=>hkk (by have:=congrArg (fun s:Str=>s.cps.toList) e;simpa using this)
    have:stored (((⟨k'.toArray⟩:Str),p2)::ps) ⟨k.toArray⟩ x=(⟨k'.toArray⟩,p2)::stored ps ⟨k.toArray⟩ x:=by
     unfold stored
     simp only[List.any_cons,hne,decide_false,Bool.false_or,List.map_cons,if_false]
     split <;>rfl
    rw[this]
    exact⟨⟨rfl,e2,e3,e4⟩,dI hk rv rr hn.2⟩
 | [],_::_,r,_=>r.elim
 | _::_,[],r,_=>r.elim
theorem St.other(S:St g s U J){d:Addr}(hn:d∉U)(h0:g.bA.get? d=none){o:Obj}(ho:s.heap.get? d=some o)(hc:o.cls= .type "dict"){h':Heap}(hs:Heap.SameBut d s.heap h')(t:Nat):St g {s with heap:=h',toks:=t} U J/\∀a os,IsTup s.heap a os->IsTup h' a os:=by
 have ht:∀a os,IsTup s.heap a os->IsTup h' a os:=fun a os ⟨y,e,c,r⟩=>⟨y,(hs.2 a fun q=>by subst q;rw[ho]at e;cases e;rw[hc]at c;exact absurd c (by decide)).trans e,c,r⟩
 refine⟨S.quiet (fun b y e e'=>(hs.2 b fun q=>by subst q;rw[h0]at e;cases e).trans e') (fun b m=>hs.2 b fun q=>hn (q ▸ m)) ht (fun b y e t=>⟨y,(hs.2 b fun q=>by subst q;rw[ho]at e;cases e;rw[t.1]at hc;exact absurd hc (by decide)).trans e,t⟩) rfl rfl,ht⟩
theorem ZQ{E:Value->Shared->Prop}{d:Addr}:∀{ks:List (List Nat)} {vs:List V} {xs:List (Value×Value)} {s:Shared} {kvs:List (List Nat×V)} {ps:List (Str×Value)} (S:St g s U J),d∉U->g.bA.get? d=none->s.heap.DictOf (PySem.strKind g.prog g.w) d ps->sB g s.heap U kvs ps->(∀k∈ks,k.length<=sizeLine/\∀c∈k,c < 0x110000)->FP g s.heap U ks vs xs->kvs.length+ks.length<=100->∀{Q:PUnit->Shared->Prop},
 (∀h' t,St g {s with heap:=h',toks:=t} U J->Heap.SameBut d s.heap h'->∀ps',h'.DictOf (PySem.strKind g.prog g.w) d ps'->sB g h' U ((ks.zip vs).foldl (fun m kv=>VB kv.1 kv.2 m) kvs) ps'->((ks.zip vs).foldl (fun m kv=>VB kv.1 kv.2 m) kvs).length<=sizeLine->Q () {s with heap:=h',toks:=t})->
 wpAny (model g.prog g.w) A (storeAll d xs) Q E s:=by
 intro ks
 induction ks with
 | nil=>
   intro vs xs s kvs ps S hd h0 D rr hk r hz Q k
   induction vs using List.casesOn with
   | cons _ _=>induction xs using List.casesOn <;>exact r.elim
   | nil=>induction xs using List.casesOn with
     | cons _ _=>exact r.elim
     | nil=>exact wpAny_pure (k s.heap s.toks S (.refl ..) ps D rr (by simp at hz ⊢;rw[OA];exact TD hz))
 | cons key ks ih=>
   intro vs xs s kvs ps S hd h0 D rr hk r hz Q k
   induction vs using List.casesOn with
   | nil=>induction xs using List.casesOn <;>exact r.elim
   | cons v vs=>induction xs using List.casesOn with
    | nil=>exact r.elim
    | cons p xs=>
     obtain⟨p1,p2⟩:=p
     obtain⟨⟨t,e⟩,rv,r⟩:=r
     have e':p1= .str ⟨key.toArray⟩ t:=e
     subst e'
     unfold storeAll
     rw[List.forIn_cons]
     have hlen:=rr.len
     simp only[List.length_cons]at hz
     refine wpAny_bind (wpAny_bind (wpAny_dictSet_pairs (k:=(⟨key.toArray⟩:Str)) (zD key t) D (fun h' D' hs=>?_) (by rw[hlen,OA];exact TD (nD hz))))
     refine wpAny_pure ?_
     obtain⟨o,es,ep,ho,X,_⟩:=id D
     obtain⟨S',ht⟩:=S.other hd h0 ho X.1 hs (s.toks+1)
     have nd:(ps.map (·.1)).Nodup:=by obtain⟨_,_,_,_,_,_,_,_,hn⟩:=D;exact hn
     have rr':sB g h' U (VB key v kvs) (stored ps (⟨key.toArray⟩:Str) p2):=sB.congr ht (fun u0 u0 e=>e) _ _ (dI (hk key (.head _)) rv rr nd)
     have hl2:=EM key v kvs
     refine ih S' hd h0 D' rr' (fun q m=>hk q (List.mem_cons_of_mem _ m)) (XK ht r) (by exact LB hl2 hz) fun h'' t' S'' hs' ps' D'' rr'' hz'=>?_
     exact k h'' t' S'' (hs.trans hs') ps' D'' rr'' hz'
theorem aT(Y:xC g)(C:Cx g A s U d hd)(S:St g s U J){env:Env}{keys:List (Option Expr)}{values:List Expr}{pos:Pos}{ks:List (List Nat)}{E:Nat->List O->Prop}{Q:V->List O->Prop}(hk:FH ks keys=true)(hl:ks.length=values.length)(hle:ks.length<=15)
 (h:wpAny (model g.prog g.w) A (evalPairs (pairTrees keys values env pos)) (fU g (s.heap.push {cls:= .type "dict",data:= .dict #[]}) U ks (fun vs J=>vs.length=ks.length/\vs.length<=15/\∀ep,Q (.loc J.length) (J++[.dict ((ks.zip vs).foldl (fun m kv=>VB kv.1 kv.2 m) []) ep])))
  (dA g (s.heap.push {cls:= .type "dict",data:= .dict #[]}) U [] E) {s with heap:=s.heap.push {cls:= .type "dict",data:= .dict #[]}}):
 wpAny (model g.prog g.w) A (eval (.Dict keys values pos) env) (wA g s.heap U [] Q) (dA g s.heap U [] E) s:=by
 have hks:=UT hk
 have hnew:=S.new
 have hnr:s.heap.objs.size∉U:=fun m=>absurd (S.lt m) (Nat.lt_irrefl _)
 have fin:∀{cA:Shared} {JA:List O} {BA:List Addr} {kvs:List (List Nat×V)} {ps:List (Str×Value)},St g cA BA JA->s.heap.objs.size∉BA->(∃new,BA=U++new/\∀a∈new,s.heap.get? a=none)->(∀b o,s.heap.get? b=some o->b∉U->∃o',cA.heap.get? b=some o'/\uM o o')->NA s.heap cA.heap U BA []->
  cA.heap.DictOf (PySem.strKind g.prog g.w) s.heap.objs.size ps->sB g cA.heap BA kvs ps->kvs.length<=sizeLine->(∀ep,Q (.loc JA.length) (JA++[.dict kvs ep]))->wA g s.heap U [] Q (.ref s.heap.objs.size) cA:=by
  intro cA JA BA kvs ps eA hn _ _ T D rr hz q
  obtain⟨ep,D⟩:=D.dictAt
  refine CF (q ep) ⟨_,?_,rfl⟩ (eA.track (.dict kvs ep) hn hnew.1 hnew.2 ⟨ps,D,hz,sB.congr (fun u0 u0 t=>t) (fun l b e=>by rw[List.getElem?_append_left (List.getElem?_eq_some_iff.mp e).1];exact e) _ _ rr⟩) (T.track (SO (Nat.le_refl _)))
  rw[<-eA.len];exact HC ..
 by_cases h0:keys=[]
 ·subst h0
  have hv:values=[]:=by
   have:ks.length=0:=by rw[hks];rfl
   rw[this]at hl;exact List.length_eq_zero_iff.mp hl.symm
  have hkn:ks=[]:=List.length_eq_zero_iff.mp (by rw[hks];rfl)
  subst hv hkn
  refine fun Γ p Ac=>wpAny_Dict_empty (M:=model g.prog g.w) (A:=A) ?_ Γ p Ac
  have h':wpAny (model g.prog g.w) A (pure []) _ _ _:=h
  have h'':=mM h' ⟨Γ,Ac⟩
  obtain⟨mvs,JA,BA,⟨hl1,_,q⟩,r,DA,HA⟩:=h''
  have hm0:mvs=[]:=List.length_eq_zero_iff.mp hl1
  subst hm0
  have T:=(NA.pushU s.heap U {cls:= .type "dict",data:= .dict #[]}).trans HA
  have hn1:s.heap.objs.size∉BA:=HA.memIff (Heap.get?_push_size _ rfl) hnr
  exact fin DA hn1 T.pre (fun b o e n=>T.keep b o e n (fun m=>nomatch m)) T (kvs:=[]) (.new _) trivial (by simp) q
 ·refine wpAny_Dict_any (TT hk) (by rw[<-hks];exact hl) h0 (by rw[<-hks];exact hle) (wpAny_mono h (fun ps CA p=>?_) fun u0 u0 e=>dA.from (.pushU ..) e)
  obtain⟨mvs,JA,BA,⟨hl1,_,q⟩,r,DA,HA⟩:=p
  have hd0:(s.heap.push {cls:= .type "dict",data:= .dict #[]}).get? s.heap.objs.size=some {cls:= .type "dict",data:= .dict #[]}:=Heap.get?_push_size _ rfl
  have hn1:s.heap.objs.size∉BA:=HA.memIff hd0 hnr
  obtain⟨o',e',k⟩:=HA.keep _ _ hd0 hnr (fun m=>nomatch m)
  have:=k.eq (by decide) (by decide)
  subst this
  have D0:CA.heap.DictOf (PySem.strKind g.prog g.w) s.heap.objs.size []:=⟨_, #[],0,e',⟨rfl,rfl,rfl⟩,rfl,fun u0 he=>by simp at he,Pairs.nil,List.nodup_nil⟩
  refine ZQ DA hn1 hnew.1 (kvs:=[]) D0 trivial (zU hk) r (by show 0+ks.length<=100;exact BB hle) fun h' t eA hs ps' D rr hz=>?_
  have T0:=(NA.pushU s.heap U {cls:= .type "dict",data:= .dict #[]}).trans HA
  have T:NA s.heap h' U BA []:=by
   have ne:∀b o,s.heap.get? b=some o->b≠s.heap.objs.size:=fun b o e=>Nat.ne_of_lt (Heap.lt_size e)
   refine⟨T0.pre,fun b o e n1 n2=>?_,fun b o e n=>?_,fun b o e=>?_,fun a q=>?_⟩
   ·obtain⟨o',e',k⟩:=T0.keep b o e n1 n2
    exact⟨o',(hs.2 b (ne b o e)).trans e',k⟩
   ·obtain⟨o',e',k⟩:=T0.shape b o e n
    exact⟨o',(hs.2 b (ne b o e)).trans e',k⟩
   ·obtain⟨o',e'⟩:=T0.alive b o e
    exact⟨o',(hs.2 b (ne b o e)).trans e'⟩
   ·obtain⟨o,_,_,_,e,_⟩:=id q
    obtain⟨o',vs',tb',c',e',r,u,v⟩:=T0.tbs a q
    exact⟨o',vs',tb',c',(hs.2 a (ne a o e)).trans e',r,u,v⟩
  exact fin eA hn1 T.pre (fun b o e n=>T.keep b o e n (fun m=>nomatch m)) T D rr hz q
theorem SU{K:Frag}{C:Addr}(h:subIn K (.ref C) (.type "Exception")=some true){M:Model}{s:Shared}(X:K.In s.heap){a:Addr}{dx:Option Addr}{vs:Array Value}(ho:s.heap.get? a=some {cls:= .ref C,dict:=dx,data:= .fields vs}):Looks M s.heap (isInstance (.ref a) (.type "Exception")) true:=by
 intro A Q E s' k q
 exact wpAny_bind (wpAny_typeOf_ref (k _ _ ho) ((looks_subIn X h) A Q E s' k q))
theorem LQ{C:Addr}{M:Model}{s:Shared}{E:Value->Shared->Prop}{whole:Bool}{sig:Manifest.Signature}{a:Addr}{dx:Option Addr}{vs:Array Value}{n:String}{Q:String->Shared->Prop}(hs:sig.receiver= .self)(ho:s.heap.get? a=some {cls:= .ref C,dict:=dx,data:= .fields vs})
 (hn:Looks M s.heap (typeNameWhole (.ref C)) n) (h:∀x,Q x s):wpAny M A (Bind.printed "*" whole sig (some (.ref a))) Q E s:=by
 unfold Bind.printed Bind.receiverType
 rw[if_neg (by decide),hs]
 refine wpAny_bind (m:=(if(Manifest.Receiver.self==Manifest.Receiver.cls)=true then pure (Value.ref a)else typeOf (Value.ref a))) ?_
 rw[if_neg (by decide)]
 exact wpAny_typeOf_ref ho (wpAny_bind (hn.here (wpAny_pure (h _))))
theorem gT{K:Frag}{C:Addr}(h:subIn K (.ref C) (.type "Exception")=some true)(hd:hasDictIn K C=true){M:Model}{s:Shared}(X:K.In s.heap){a:Addr}{dx:Option Addr}{vs:Array Value}(ho:s.heap.get? a=some {cls:= .ref C,dict:=dx,data:= .fields vs}){y:Value}{Q:Unit->Shared->Prop}{E:Value->Shared->Prop}(q:Q () s):
 wpAny M A (checkBuiltinCall "Exception.__init__" ⟨[.ref a,y],[]⟩) Q E s:=by
 have hc:=PyProof.Rows.excClass_Exception
 simp only[checkBuiltinCall,hc.initKind,hc.initSplit,hc.initSig]
 refine wpAny_bind ((SU h X ho).here ?_)
 simp only[Bool.not_true,Bool.false_eq_true,if_false]
 obtain⟨n,hn⟩:=mc_name (M:=M) X hd
 refine wpAny_bind (m:=Bind.printed "*" true _ _) (LQ (a:=a) rfl ho hn fun full=>?_)
 refine wpAny_bind (m:=Bind.printed "Exception" false _ _) (PyProof.Rows.printed_name hc.notStar ?_)
 show wpAny M A (Sem.onRaise (Bind.check _ full "Exception" _ []) _) Q E s
 rw[PyProof.Rows.check_varPos]
 exact wpAny_pure q
theorem IW{vs:List V}{f f':Nat->List Nat->Prop}(k:∀l s,¬f l s->f' l s)(h:¬CU vs True f):CU vs False f':=by
 rcases vs with _ | ⟨a,r⟩
 ·exact h trivial
 ·induction a using V.casesOn with
  | loc l=>
    rcases r with _ | ⟨b,r⟩
    ·exact h trivial
    ·induction b using V.casesOn with
     | str s=>rcases r with _ | ⟨_,_⟩ <;>first | exact k _ _ h | exact h trivial
     | _=>exact h trivial
  | _=>exact h trivial
theorem OY{vs:List V}{f:Nat->List Nat->Prop}(h:CU vs False f):∃l s,vs=[.loc l, .str s]/\f l s:=by
 rcases vs with _ | ⟨a,r⟩
 ·exact h.elim
 ·induction a using V.casesOn with
  | loc l=>
    rcases r with _ | ⟨b,r⟩
    ·exact h.elim
    ·induction b using V.casesOn with
     | str s=>rcases r with _ | ⟨_,_⟩ <;>first | exact⟨l,s,rfl,h⟩ | exact h.elim
     | _=>exact h.elim
  | _=>exact h.elim
theorem vQ(Y:xC g)(C:Cx g A s U d hd)(S:St g s U J){pos:Pos}{pl:Sem Bool}{trees:List (Bool×Sem Value)}{Q:V->List O->Prop}{E:Nat->List O->Prop}(hp:trees.any (·.1)=false)
 (h:∀t,wpAny (model g.prog g.w) A (spliced trees) (UD g s.heap U (fun vs J=>CU vs False fun l u0=>((∃C dl,J[l]?=some (.exc C dl))\/∃C,J[l]?=some (.exc0 C))/\Q .none J)) (dA g s.heap U [] E) {s with toks:=t}):
 wpAny (model g.prog g.w) A (getMethod (.type "Exception") ⟨#[95,95,105,110,105,116,95,95]⟩ pl) (fun fm cA=>wpAny (model g.prog g.w) A (callWith pos fm.1 fm.2 trees []) (wA g s.heap U [] Q) (dA g s.heap U [] E) cA) (dA g s.heap U [] E) s:=by
 obtain⟨mg,hmg⟩:=Y.glob
 have F0:Fr ({objs:= #[]}:Heap) mainGlobals s.heap mg:=⟨hmg.keeps S.base,fun b o e=>by simp[Heap.get?]at e,Nat.zero_le _⟩
 have X0:Frag.In [] ({objs:= #[]}:Heap):=fun a o e=>by cases e
 have e1:findCls [] (.type "Exception") (.type "type") ⟨#[95,95,105,110,105,116,95,95]⟩=some (.val (.builtin "Exception.__init__")):=by kernel_rfl
 refine method_type F0 X0 (by rfl) (by decide+kernel) e1 (by decide+kernel) ?_
 refine PySem.Calls.callWith_builtin hp (vH hp (wpAny_mono (h _) (fun xs CA p=>?_) fun u0 u0 e=>e))
 obtain⟨mvs,JA,BA,q,r,DA,HA⟩:=p
 obtain⟨l,sx,rfl,hex,hq⟩:=OY q
 obtain⟨x,y,rfl,⟨a,ha,rfl⟩,⟨ty,rfl,_⟩⟩:=r.two
 have hob:∃Cl xo dxo vs,JA[l]?=some xo/\aU Cl=true/\CA.heap.get? a=some {cls:= .ref Cl,dict:=dxo,data:= .fields vs}/\pQ g CA.heap vs/\(∀h' vs',vs'.size=vs.size->vs'[1]?=vs[1]?->h'.get? a=some {cls:= .ref Cl,dict:=dxo,data:= .fields vs'}->pQ g h' vs'->IG g h' BA a xo):=by
  rcases hex with⟨Cl,dl,hl⟩ | ⟨Cl,hl⟩
  ·obtain⟨hx,dx,vs,hdx,ho,tb⟩:=DA.objs l a _ ha hl
   exact⟨Cl,_,some dx,vs,hl,hx,ho,tb,fun h' vs' u0 u0 e t=>⟨hx,dx,vs',hdx,e,t⟩⟩
  ·obtain⟨hx,vs,ho,t1,t2⟩:=DA.objs l a _ ha hl
   exact⟨Cl,_,none,vs,hl,hx,ho,⟨t1, .inl t2⟩,fun h' vs' z1 z2 e u0=>⟨hx,vs',e,by rw[z1];exact t1,by rw[z2];exact t2⟩⟩
 obtain⟨Cl,xo,dxo,vs,hl,hx,ho,⟨tb1,tb2⟩,hrep⟩:=hob
 have Uf:g.K.In CA.heap:=Y.K.keeps DA.base
 have hc:=PyProof.Rows.excClass_Exception
 show wpAny _ A (call (.builtin "Exception.__init__") [.ref a, .str ⟨sx.toArray⟩ ty]) _ _ CA
 refine wpAny_call (codeAny_call_builtin hc.init.plain hc.initEntry (gT (Y.exc Cl hx).2.1.1 (Y.exc Cl hx).2.1.2 Uf ho ?_))
 unfold Builtin.«BaseException.__init__»
 dsimp only
 rw[if_neg (by simp)]
 have GS:=Heap.get?_push_of_some (h:=CA.heap) {cls:= .type "tuple",data:= .seq #[.str ⟨sx.toArray⟩ ty]} ho
 refine wpAny_bind (wpAny_newObj_type (wpAny_bind (wpAny_bind (wpAny_field GS rfl (x:=vs[0]) (by simp) (wpAny_bind (wpAny_setField GS rfl (by exact BB tb1) ?_))))) (by show 1<=sizeLine;rw[OA];exact Nat.le_add_left _ _))
 have hne:a≠CA.heap.objs.size:=Nat.ne_of_lt (DA.lt (List.mem_of_getElem? ha))
 have eA:=DA.pushU {cls:= .type "tuple",data:= .seq #[.str ⟨sx.toArray⟩ ty]}
 have hself:=Heap.get?_update_self (Obj.mapFields (·.setIfInBounds 0 (Value.ref CA.heap.objs.size))) GS rfl
 have hv1:∀x,(vs.setIfInBounds 0 (Value.ref CA.heap.objs.size))[1]?=some x↔vs[1]?=some x:=fun x=>by rw[Array.getElem?_setIfInBounds_ne (by exact Nat.ne_of_lt (Nat.lt_succ_self _))]
 have tb:pQ g ((CA.heap.push {cls:= .type "tuple",data:= .seq #[.str ⟨sx.toArray⟩ ty]}).update a (Obj.mapFields (·.setIfInBounds 0 (Value.ref CA.heap.objs.size)))) (vs.setIfInBounds 0 (Value.ref CA.heap.objs.size)):=by
  refine⟨by rw[Array.size_setIfInBounds];exact tb1,?_⟩
  rcases tb2 with q | ⟨tb,o,e,f,q,z⟩
  ·exact .inl ((hv1 _).mpr q)
  ·refine .inr ⟨tb,o,(hv1 _).mpr e,f,?_,z⟩
   have hta:tb≠a:=fun h=>by subst h;rw[ho]at q;cases q;cases z.1
   exact(Heap.get?_update_other _ _ (Ne.symm hta)).trans (Heap.get?_push_of_some _ q)
 have iB:=eA.update ha (Heap.SameBut.update _ a (Obj.mapFields (·.setIfInBounds 0 (Value.ref CA.heap.objs.size)))) (x':=xo) (hrep _ _ (by rw[Array.size_setIfInBounds]) (by rw[Array.getElem?_setIfInBounds_ne (by exact Nat.ne_of_lt (Nat.lt_succ_self _))]) hself tb) CA.toks
 rw[VQ hl]at iB
 have XB:NA s.heap ((CA.heap.push {cls:= .type "tuple",data:= .seq #[.str ⟨sx.toArray⟩ ty]}).update a (Obj.mapFields (·.setIfInBounds 0 (Value.ref CA.heap.objs.size)))) U BA []:=(HA.trans (.pushU ..)).trans (NA.update ha (Heap.SameBut.update ..) (fun o e=>⟨_,hself⟩) fun⟨o',vs',tb',c',q1,q2,q3,q4⟩=>by
  rw[GS]at q1;cases q1;cases q3
  exact⟨_,_,tb',_,hself,rfl,rfl,(hv1 _).mpr q4⟩)
 have fin:wA g s.heap U [] Q .none {CA with heap:=(CA.heap.push {cls:= .type "tuple",data:= .seq #[.str ⟨sx.toArray⟩ ty]}).update a (Obj.mapFields (·.setIfInBounds 0 (Value.ref CA.heap.objs.size)))}:=CF hq rfl iB XB
 generalize vs[0]=y
 induction y using Value.casesOn <;>first | exact wpAny_letGo (wpAny_pure fin) | exact wpAny_pure (wpAny_pure fin)
theorem OQ{h:Heap}:∀(ls:List (List Nat)) (l:List (Str×Tok)),l.map (·.1)=ls.map (fun x=>(⟨x.toArray⟩:Str))->(∀x∈ls,x.length<=sizeLine/\∀c∈x,c < 0x110000)->PA g h U (ls.map .str) (strValues l)
 | [],[],_,_=>trivial
 | x::ls,p::l,e,k=>by
   simp only[List.map_cons,List.cons.injEq]at e
   obtain⟨p1,p2⟩:=p
   have:p1=⟨x.toArray⟩:=e.1
   subst this
   exact⟨⟨p2,rfl,(k x (.head _)).1,(k x (.head _)).2⟩,OQ ls l e.2 fun y m=>k y (List.mem_cons_of_mem _ m)⟩
 | [],_::_,e,_=>by simp at e
 | _::_,[],e,_=>by simp at e
theorem bY{h:Heap}:∀{vs:List V} {ss:List (List Nat)} {xs:List Value},fD vs=some ss->PA g h U vs xs->StrsAre xs (ss.map fun x=>(⟨x.toArray⟩:Str))/\∀x∈ss,∀c∈x,c < 0x110000:=by
 intro vs
 induction vs with
 | nil=>intro ss xs e r;cases e;induction xs using List.casesOn with
   | nil=>exact⟨.nil,fun u0 m=>nomatch m⟩
   | cons _ _=>exact r.elim
 | cons v vs ih=>intro ss xs e r;induction xs using List.casesOn with
   | nil=>exact r.elim
   | cons x xs=>induction v using V.casesOn with
     | str s=>
       obtain⟨⟨t,rfl,_,hc⟩,rr⟩:=r
       obtain⟨m,q,rfl⟩:=Option.map_eq_some_iff.mp (e)
       obtain⟨h1,h2⟩:=ih q rr
       refine⟨.cons _ t h1,fun y hm=>?_⟩
       rcases List.mem_cons.mp hm with rfl | hm
       ·exact hc
       ·exact h2 y hm
     | _=>exact BF e
theorem aN(sep:List Nat):∀(ss:List (List Nat)) (c:Nat),c∈iA sep ss->(∀c∈sep,c < 0x110000)->(∀x∈ss,∀c∈x,c < 0x110000)->c < 0x110000
 | [],c,m,_,_=>by simp[iA.r1,iA.r2,iA.r3]at m
 | [x],c,m,_,h=>h x (.head _) c m
 | x::y::r,c,m,h1,h2=>by
   (first | rw[iA.r1]at m | rw[iA.r2]at m | rw[iA.r3]at m)
   rcases List.mem_append.mp m with m | m
   ·rcases List.mem_append.mp m with m | m
    ·exact h2 x (.head _) c m
    ·exact h1 c m
   ·exact aN sep (y::r) c m h1 fun z hz=>h2 z (List.mem_cons_of_mem _ hz)
theorem mV{x:List Nat}{c:Nat}(m:c∈x):PySem.Builtin.Str.strKind ⟨[c].toArray⟩<=PySem.Builtin.Str.strKind ⟨x.toArray⟩:=by
 unfold PySem.Builtin.Str.strKind
 have h1:(⟨x.toArray⟩:Str).cps.all (· < 256)=x.all (· < 256):=by simp
 have h2:(⟨x.toArray⟩:Str).cps.all (· < 65536)=x.all (· < 65536):=by simp
 have h3:(⟨[c].toArray⟩:Str).cps.all (· < 256)=decide (c < 256):=by simp
 have h4:(⟨[c].toArray⟩:Str).cps.all (· < 65536)=decide (c < 65536):=by simp
 rw[h1,h2,h3,h4]
 by_cases a:c < 256
 ·simp only[a,decide_true,if_true];split <;>(try split) <;>(first | exact Nat.le_refl _ | exact Nat.le_add_left _ _)
 ·have:x.all (· < 256)=false:=by
   rw[List.all_eq_false];exact⟨c,m,by simpa using a⟩
  rw[this]
  simp only[a,decide_false,Bool.false_eq_true,if_false]
  by_cases b:c < 65536
  ·simp only[b,decide_true,if_true];split <;>(first | exact Nat.le_refl _ | exact Nat.le_add_left _ _)
  ·have:x.all (· < 65536)=false:=by
    rw[List.all_eq_false];exact⟨c,m,by simpa using b⟩
   rw[this]
   simp[b]
theorem VR(Y:xC g)(C:Cx g A s U d hd)(S:St g s U J){x n:List Nat}{a:Value}{pos:Pos}{pl:Sem Bool}{trees:List (Bool×Sem Value)}{Q:V->List O->Prop}{E:Nat->List O->Prop}(ra:VA g s.heap U (.str x) a)(hn:n∈cH)(hp:trees.any (·.1)=false)
 (h:wpAny (model g.prog g.w) A (spliced trees) (UD g s.heap U (fun vs J=>DB J x n vs Q)) (dA g s.heap U [] E) s):
 wpAny (model g.prog g.w) A (getMethod a ⟨n.toArray⟩ pl) (fun fm cA=>wpAny (model g.prog g.w) A (callWith pos fm.1 fm.2 trees []) (wA g s.heap U [] Q) (dA g s.heap U [] E) cA) (dA g s.heap U [] E) s:=by
 obtain⟨tx,rfl,hz,hcp⟩:=ra
 have core:∀{id:String},(∀xs mvs CA BA JA,DB JA x n mvs Q->PA g CA.heap BA mvs xs->St g CA BA JA->wpAny (model g.prog g.w) A (call (.builtin id) (.str ⟨x.toArray⟩ tx::xs)) (wA g CA.heap BA [] Q) (dA g s.heap U [] E) CA)->
  wpAny (model g.prog g.w) A (callWith pos (.builtin id) [.str ⟨x.toArray⟩ tx] trees []) (wA g s.heap U [] Q) (dA g s.heap U [] E) s:=by
  intro id k
  refine PySem.Calls.callWith_builtin hp (vH hp (wpAny_mono h (fun xs CA p=>?_) fun u0 u0 e=>e))
  obtain⟨mvs,JA,BA,q,r,DA,HA⟩:=p
  exact wpAny_mono (k xs mvs CA BA JA q r DA) (fun u0 u0 p=>p.from HA) fun u0 u0 e=>e
 simp only[cH,List.mem_cons,List.not_mem_nil,or_false]at hn
 rcases hn with rfl | rfl | rfl | rfl
 ·have e:(⟨[102,105,110,100].toArray⟩:Str)="find":=by decide
  rw[e]
  refine PySem.GM.find (core fun xs mvs CA BA JA q r DA=>?_)
  unfold DB at q
  rw[if_pos rfl]at q
  rcases mvs with _ | ⟨v,_ | ⟨w,mvs⟩⟩
  ·exact q.elim
  ·obtain⟨c,rfl,q⟩:=YJ q
   obtain⟨y,rfl,t,rfl,_⟩:=r.one
   refine PySem.SC.find ?_
   rw[show PySem.Txt.find ⟨x.toArray⟩ ⟨[c].toArray⟩=OF x c 0 from DQ x c 0]
   exact dD DA q ⟨_,rfl⟩ _
  ·obtain⟨c,rfl,q2⟩:=YJ q
   obtain⟨w,e,q3⟩:=LG q2
   clear q q2
   cases e
   obtain⟨i,rfl,hi,hi2,q⟩:=WO q3
   obtain⟨y,z,rfl,⟨t,rfl,_⟩,⟨u,rfl⟩⟩:=r.two
   refine PySem.SC.find3 ?_
   have hf:fromIndex (⟨x.toArray⟩:Str).length i=i.toNat:=by
    unfold fromIndex
    rw[eB]
    rw[if_neg (Int.not_lt.mpr hi),Int.max_eq_right hi]
   rw[show PySem.Txt.find3 ⟨x.toArray⟩ ⟨[c].toArray⟩ i=OF x c i.toNat from by unfold PySem.Txt.find3;rw[hf];exact DQ x c i.toNat]
   exact dD DA q ⟨_,rfl⟩ _
 ·have e:(⟨[106,111,105,110].toArray⟩:Str)="join":=by decide
  rw[e]
  refine PySem.GM.join (core fun xs mvs CA BA JA q r DA=>?_)
  unfold DB at q
  rw[if_neg (by decide),if_pos rfl]at q
  ·obtain⟨v,rfl,q⟩:=LG q
   obtain⟨l,rfl,ys,ss,hl,hs,h1,h2,q⟩:=VS q
   obtain⟨y,rfl,a,ha,rfl⟩:=r.one
   obtain⟨a',os,m,ha',ho,hz',rr⟩:=DA.list hl
   rw[ha]at ha';cases ha'
   obtain⟨hstrs,hcp'⟩:=bY hs rr
   refine join_list (OD ho) hstrs ?_ fun t' k=>?_
   ·rw[List.length_map,eB,List.map_map]
    have:((fun s:Str=>s.length)∘fun x:List Nat=>(⟨x.toArray⟩:Str))=List.length:=by funext x;exact eB x
    rw[this];exact h1
   ·rw[wW]
    refine dD DA q ⟨t',rfl,h2,fun c m=>?_⟩ _
    exact aN x ss c m hcp hcp'
 ·have e:(⟨[99,111,117,110,116].toArray⟩:Str)="count":=by decide
  rw[e]
  refine PySem.GM.count (core fun xs mvs CA BA JA q r DA=>?_)
  unfold DB at q
  rw[if_neg (by decide),if_neg (by decide),if_pos rfl]at q
  ·obtain⟨v,rfl,q⟩:=LG q
   obtain⟨c,rfl,q⟩:=YJ q
   obtain⟨y,rfl,t,rfl,_⟩:=r.one
   refine PySem.SC.count ?_
   have:=UU x c
   rw[this]
   exact dD DA q ⟨_,rfl⟩ _
 ·have e:(⟨[115,112,108,105,116].toArray⟩:Str)="split":=by decide
  rw[e]
  refine PySem.GM.split (core fun xs mvs CA BA JA q r DA=>?_)
  unfold DB at q
  rw[if_neg (by decide),if_neg (by decide),if_neg (by decide),if_pos rfl]at q
  ·obtain⟨v,rfl,q⟩:=LG q
   obtain⟨c,rfl,hx,q⟩:=YJ q
   obtain⟨y,rfl,t,rfl,_⟩:=r.one
   have hok:∀y∈qA c x,y.length<=sizeLine/\∀d∈y,d < 0x110000:=fun y m=>by
    obtain⟨h1,h2⟩:=fG c x y m
    exact⟨Nat.le_trans h1 hz,fun d hd=>hcp d (h2 d hd)⟩
   have fin:∀(l:List (Str×Tok)) (k:Nat),l.map (·.1)=(qA c x).map (fun x=>(⟨x.toArray⟩:Str))->wA g CA.heap BA [] Q (.ref CA.heap.objs.size) {CA with heap:=CA.heap.push {cls:= .type "list",data:= .seq (strValues l).toArray},toks:=k}:=by
    intro l k e
    refine CF q ⟨_,?_,rfl⟩ ((DA.pushT _ (.list ((qA c x).map .str)) rfl ⟨(strValues l).toArray,0,Heap.get?_push_size _ rfl,?_,?_⟩).toks k) (.pushT ..)
    ·rw[<-DA.len];exact HC ..
    ·have:=cI c x
     rw[List.length_map];lia
    ·exact OQ _ _ e hok
   have hy:((⟨[c].toArray⟩:Str).length==0)=false:=rfl
   cases h1:(decide ((⟨x.toArray⟩:Str).length < (⟨[c].toArray⟩:Str).length)||decide (PySem.Builtin.Str.strKind ⟨x.toArray⟩ < PySem.Builtin.Str.strKind ⟨[c].toArray⟩))
   ·cases hf:(occurrences ⟨x.toArray⟩ ⟨[c].toArray⟩ 0 (⟨x.toArray⟩:Str).length ((⟨x.toArray⟩:Str).length+1)).isEmpty
    ·have hp:partsBetween ⟨x.toArray⟩ (occurrences ⟨x.toArray⟩ ⟨[c].toArray⟩ 0 (⟨x.toArray⟩:Str).length ((⟨x.toArray⟩:Str).length+1)) (⟨[c].toArray⟩:Str).length=(qA c x).map fun l=>(⟨l.toArray⟩:Str):=by
      have:=eO x c
      show partsBetween _ (occurrences ⟨x.toArray⟩ ⟨#[c]⟩ 0 _ _) (⟨#[c]⟩:Str).length=_
      rw[this];exact oK x c
     refine call_meets PySem.F.slot_str_split (typeIs_str _ _ _) PySem.F.entry_str_split (PySem.F.args_str_split_2 _ _) (meets_str_split_sep _ _ tx t h1 hy hf (by rw[eB];exact hz) ?_) ?_
     ·rw[hp,List.length_map];have:=cI c x;rw[OA];exact(LB this hx)
     ·show wants _ _ _ {CA with toks:=_,heap:=CA.heap.push {cls:= .type "list",data:= .seq (strsFrom CA.toks (partsBetween ⟨x.toArray⟩ (occurrences ⟨x.toArray⟩ ⟨[c].toArray⟩ 0 (⟨x.toArray⟩:Str).length ((⟨x.toArray⟩:Str).length+1)) (⟨[c].toArray⟩:Str).length)).toArray}}
      rw[strsFrom_eq,hp]
      exact fin _ _ (numbered_texts _ _)
    ·refine call_meets PySem.F.slot_str_split (typeIs_str _ _ _) PySem.F.entry_str_split (PySem.F.args_str_split_2 _ _) (meets_str_split_not_found _ _ tx t h1 hy hf) (fin [(⟨x.toArray⟩,tx)] CA.toks ?_)
     rw[bK x c (aV ?_)]; · rfl
     have:=eO x c
     have hf':(occurrences ⟨x.toArray⟩ ⟨#[c]⟩ 0 (⟨x.toArray⟩:Str).length ((⟨x.toArray⟩:Str).length+1)).isEmpty=true:=hf
     rw[this]at hf'
     exact List.isEmpty_iff.mp hf'
   ·refine call_meets PySem.F.slot_str_split (typeIs_str _ _ _) PySem.F.entry_str_split (PySem.F.args_str_split_2 _ _) (meets_str_split_cannot_occur _ _ tx t h1) (fin [(⟨x.toArray⟩,tx)] CA.toks ?_)
    rw[bK x c ?_]; · rfl
    intro m
    simp only[Bool.or_eq_true,decide_eq_true_eq]at h1
    rcases h1 with h1 | h1
    ·rw[eB,eB]at h1
     have:=List.length_pos_of_mem m
     simp at h1;rw[h1]at m;cases m
    ·exact absurd h1 (Nat.not_lt.mpr (mV m))
theorem PA.cons1{h:Heap}{v:V}{vs:List V}{xs:List Value}(r:PA g h U (v::vs) xs):dg g h U v vs xs:=by
 match xs,r with
 | x::r',⟨a,b⟩=>exact⟨x,r',rfl,a,b⟩
theorem PA.cons2{h:Heap}{v w:V}{vs:List V}{xs:List Value}(r:PA g h U (v::w::vs) xs):Mf g h U v w vs xs:=by
 match xs,r with
 | x::y::r',⟨a,b,c⟩=>exact⟨x,y,r',rfl,a,b,c⟩
theorem uP(Y:xC g)(C:Cx g A s U d hd)(S:St g s U J){l:Nat}{zW:List V}{a:Addr}{n:List Nat}{pos:Pos}{pl:Sem Bool}{trees:List (Bool×Sem Value)}{Q:V->List O->Prop}{E:Nat->List O->Prop}(hl:J[l]?=some (.list zW))(ha:U[l]?=some a)(hn:n∈wF)(hp:trees.any (·.1)=false)
 (h:wpAny (model g.prog g.w) A (spliced trees) (UD g s.heap U (fun vs J=>∃xs,CB J l=some xs/\TB J l xs n vs Q)) (dA g s.heap U [] E) s):
 wpAny (model g.prog g.w) A (getMethod (.ref a) ⟨n.toArray⟩ pl) (fun fm cA=>wpAny (model g.prog g.w) A (callWith pos fm.1 fm.2 trees []) (wA g s.heap U [] Q) (dA g s.heap U [] E) cA) (dA g s.heap U [] E) s:=by
 have core:∀{id:String},(∀xs mvs ws CA BA JA os m,BA[l]?=some a->CB JA l=some ws->CA.heap.get? a=some {cls:= .type "list",data:= .seq os m}->ws.length<=2^30->PA g CA.heap BA ws os.toList->TB JA l ws n mvs Q->PA g CA.heap BA mvs xs->St g CA BA JA->
  wpAny (model g.prog g.w) A (call (.builtin id) (.ref a::xs)) (wA g CA.heap BA [] Q) (dA g s.heap U [] E) CA)->
  wpAny (model g.prog g.w) A (callWith pos (.builtin id) [.ref a] trees []) (wA g s.heap U [] Q) (dA g s.heap U [] E) s:=by
  intro id k
  refine PySem.Calls.callWith_builtin hp (vH hp (wpAny_mono h (fun xs CA p=>?_) fun u0 u0 e=>e))
  obtain⟨mvs,JA,BA,⟨ws,hw,q⟩,r,DA,HA⟩:=p
  obtain⟨a',os,m,ha',ho,hz,rr⟩:=DA.list hw
  rw[HA.loc _ _ ha]at ha';cases ha'
  exact wpAny_mono (k xs mvs ws CA BA JA os m (HA.loc _ _ ha) hw ho hz rr q r DA) (fun u0 u0 p=>p.from HA) fun u0 u0 e=>e
 obtain⟨Ug,xg,gP,_⟩:=S.objs l a _ ha hl
 have fin:∀{CA:Shared} {BA:List Addr} {JA:List O} {os os':Array Value} {m m':Nat} {ws':List V} {v:V} {x:Value} {h':Heap},St g CA BA JA->BA[l]?=some a->CA.heap.get? a=some {cls:= .type "list",data:= .seq os m}->Heap.SameBut a CA.heap h'->h'.get? a=some {cls:= .type "list",data:= .seq os' m'}->
  PA g CA.heap BA ws' os'.toList->VA g CA.heap BA v x->ws'.length<=2^30->Q v (JA.set l (.list ws'))->wA g CA.heap BA [] Q x {CA with heap:=h'}:=by
  intro CA BA JA os os' m m' ws' v x h' DA rE ho hs ho' rr rv hz q
  have HA:NA CA.heap h' BA BA []:=NA.update rE hs (fun o e=>⟨_,ho'⟩) fun⟨o',vs',tb',c',q1,q2,_,_⟩=>by rw[ho]at q1;cases q1;cases q2
  exact CF q (rv.step0 DA HA) (DA.update rE hs (x':= .list ws') ⟨os',m',ho',hz,rr.step0 DA HA⟩ CA.toks) HA
 simp only[wF,List.mem_cons,List.not_mem_nil,or_false]at hn
 have big:∀{n:Nat},n<=100001->n<=sizeLine:=fun h=>by rw[OA];exact TD h
 have gm:∀{nm:Str} {id:String} {R:Value×List Value->Shared->Prop} {E':Value->Shared->Prop},Slot "list" nm id->typeOf (.builtin id)=pure (.type "method_descriptor")->R (.builtin id,[.ref a]) s->wpAny (model g.prog g.w) A (getMethod (.ref a) nm pl) R E' s:=
  fun sl ty h=>getMethod_builtin (dM gP) PySem.F.plainAttrs_list sl ty (fun b e=>by cases e;exact⟨_,gP,rfl⟩) h
 rcases hn with rfl | rfl | rfl | rfl
 ·have e:(⟨[97,112,112,101,110,100].toArray⟩:Str)="append":=by decide
  rw[e]
  refine gm PySem.F.slot_list_append PySem.F.type_list_append (core fun xs mvs ws CA BA JA os m rE hw ho hz rr q r DA=>?_)
  have hlen:=rr.len
  rw[Array.length_toList]at hlen
  unfold TB at q
  rw[if_pos rfl]at q
  ·obtain⟨v,rfl,h1,q⟩:=LG q
   obtain⟨x,rfl,rv⟩:=r.one
   refine append_at ho (fun h' hs ho'=>?_) (big (by exact LB h1 (eL hlen)))
   exact fin DA rE ho hs ho' (by rw[Array.toList_push];exact rr.append ⟨rv,trivial⟩) (v:= .none) rfl (by simp;exact TD h1) q
 ·have e:(⟨[101,120,116,101,110,100].toArray⟩:Str)="extend":=by decide
  rw[e]
  refine gm PySem.F.slot_list_extend PySem.F.type_list_extend (core fun xs mvs ws CA BA JA os m rE hw ho hz rr q r DA=>?_)
  have hlen:=rr.len
  rw[Array.length_toList]at hlen
  unfold TB at q
  rw[if_neg (by decide),if_pos rfl]at q
  ·obtain⟨v,rfl,q⟩:=LG q
   obtain⟨y,rfl,ys,hy,hne,h1,q⟩:=VS q
   obtain⟨x,rfl,b,hb,rfl⟩:=r.one
   obtain⟨b',os2,m2,hb',ho2,hz2,rr2⟩:=DA.list hy
   rw[hb]at hb';cases hb'
   have hlen2:=rr2.len
   rw[Array.length_toList]at hlen2
   refine call_meets PySem.F.slot_list_extend (dM ho) PySem.F.entry_list_extend (PySem.F.args_list_extend_2 _ _) (PySem.AutoSeq1.list_extend_list_list_0 a os m b os2 m2 ?_ (big (by exact LB h1 (eL hlen))) (by have:=big (n:=os.size+os2.size) (by exact fJ (eL hlen2) h1 (eL hlen));exact TD this)) ⟨ho,ho2,?_⟩
   ·have:Builtin.List.listTooLong (os.size+os2.size)=false:=by
     unfold Builtin.List.listTooLong
     have:=big (n:=os.size+os2.size) (by exact fJ (eL hlen2) h1 (eL hlen))
     simp;assumption
    rw[this];simp
   ·have hself:=Heap.get?_update_self (Obj.mapSeq fun x=>x++os2) ho rfl
    exact fin DA rE ho (Heap.SameBut.update ..) hself (by rw[Array.toList_append];exact rr.append rr2) (v:= .none) rfl (by simp;exact TD h1) q
 ·have e:(⟨[112,111,112].toArray⟩:Str)="pop":=by decide
  rw[e]
  refine gm PySem.F.slot_list_pop PySem.F.type_list_pop (core fun xs mvs ws CA BA JA os m rE hw ho hz rr q r DA=>?_)
  have hlen:=rr.len
  rw[Array.length_toList]at hlen
  unfold TB at q
  rw[if_neg (by decide),if_neg (by decide),if_pos rfl]at q
  ·obtain⟨v,rfl,rfl,q2⟩:=LG q
   clear q
   rcases ws with _ | ⟨x0,_ | ⟨y0,rest⟩⟩
   ·exact(show False from q2).elim
   ·exact(show False from q2).elim
   ·obtain⟨x,rfl,t,rfl⟩:=r.one
    obtain⟨h1,q⟩:=q2
    obtain⟨xa,ya,ra,e1,rx,ry,rr'⟩:=PA.cons2 rr
    have eo:os=(xa::ya::ra).toArray:=by rw[<-e1,Array.toArray_toList]
    subst eo
    have hself:=Heap.get?_update_self (Obj.mapSeq fun xs=>xs.eraseIdxIfInBounds 1) ho rfl
    have hsz:(xa::ya::ra).toArray.size=ra.length+2:=by simp
    refine call_meets PySem.F.slot_list_pop (dM ho) PySem.F.entry_list_pop (PySem.F.args_list_pop_2 _ _) (PySem.MeetsSeq.list_pop_at a _ m 1 t 1 ya (by decide) ?_ (by simp) ?_) ⟨ho,?_⟩
    ·unfold seqIndex?;rw[hsz];simp;lia
    ·rw[hsz];have:=rr'.len;rw[OA];exact(LB (eL this) h1)
    ·refine fin DA rE ho (Heap.SameBut.update ..) hself ?_ ry (by simp at hz ⊢;exact TD hz) q
     have:((xa::ya::ra).toArray.eraseIdxIfInBounds 1).toList=xa::ra:=by simp[Array.eraseIdxIfInBounds]
     rw[this];exact⟨rx,rr'⟩
 ·have e:(⟨[105,110,115,101,114,116].toArray⟩:Str)="insert":=by decide
  rw[e]
  refine gm PySem.F.slot_list_insert PySem.F.type_list_insert (core fun xs mvs ws CA BA JA os m rE hw ho hz rr q r DA=>?_)
  have hlen:=rr.len
  rw[Array.length_toList]at hlen
  unfold TB at q
  rw[if_neg (by decide),if_neg (by decide),if_neg (by decide),if_pos rfl]at q
  ·obtain⟨w,v,rfl,rfl,q2⟩:=nR q
   clear q
   rcases ws with _ | ⟨x0,rest⟩
   ·exact(show False from q2).elim
   ·obtain⟨x,y,rfl,⟨t,rfl⟩,rv⟩:=r.two
    obtain⟨h1,q⟩:=q2
    obtain⟨xa,ra,e1,rx,rr'⟩:=PA.cons1 rr
    have eo:os=(xa::ra).toArray:=by rw[<-e1,Array.toArray_toList]
    subst eo
    have hself:=Heap.get?_update_self (Obj.mapSeq fun xs:Array Value=>have k:=if(1:Int) < 0 then((1:Int)+(xs.size:Int)).toNat else min (1:Int).toNat xs.size;(xs.extract 0 k).push y++xs.extract k) ho rfl
    have hl2:=rr'.len
    refine call_meets PySem.F.slot_list_insert (dM ho) PySem.F.entry_list_insert (PySem.F.args_list_insert_3 _ _ _) (PySem.AutoSeq1.list_insert_list_int_val_1 a _ m 1 t y (by decide) (by simp;rw[OA];exact LB (eL hl2) h1)) ⟨ho,?_⟩
    refine fin DA rE ho (Heap.SameBut.update ..) hself ?_ (v:= .none) rfl (by simp;exact TD h1) q
    have:((((xa::ra).toArray.extract 0 (min 1 (xa::ra).toArray.size)).push y)++(xa::ra).toArray.extract (min 1 (xa::ra).toArray.size)).toList=xa::y::ra:=by simp
    show PA g CA.heap BA _ ((((xa::ra).toArray.extract 0 (min 1 (xa::ra).toArray.size)).push y)++(xa::ra).toArray.extract (min 1 (xa::ra).toArray.size)).toList
    rw[this];exact⟨rx,rv,rr'⟩
theorem SP(Y:xC g)(C:Cx g A s U d hd)(S:St g s U J){l:Nat}{zW:List (List Nat×V)}{a:Addr}{n:List Nat}{pos:Pos}{pl:Sem Bool}{trees:List (Bool×Sem Value)}{Q:V->List O->Prop}{E:Nat->List O->Prop}{ep:Nat}(hl:J[l]?=some (.dict zW ep))(ha:U[l]?=some a)(hn:n∈oF)(hp:trees.any (·.1)=false)
 (h:wpAny (model g.prog g.w) A (spliced trees) (UD g s.heap U (fun vs J=>∃xs,dictAt J l=some xs/\lE J l xs n vs Q)) (dA g s.heap U [] E) s):
 wpAny (model g.prog g.w) A (getMethod (.ref a) ⟨n.toArray⟩ pl) (fun fm cA=>wpAny (model g.prog g.w) A (callWith pos fm.1 fm.2 trees []) (wA g s.heap U [] Q) (dA g s.heap U [] E) cA) (dA g s.heap U [] E) s:=by
 simp only[oF,List.mem_cons,List.not_mem_nil,or_false]at hn
 subst hn
 obtain⟨VZ,Of,_⟩:=S.objs l a _ ha hl
 have e:(⟨[112,111,112].toArray⟩:Str)="pop":=by decide
 rw[e]
 obtain⟨Fe,Qg,gP,fc,_⟩:=Of
 refine getMethod_builtin (T:="dict") ⟨Fe,gP,fc.1⟩ PySem.F.plainAttrs_dict PySem.F.slot_dict_pop PySem.F.type_dict_pop (fun b e=>by cases e;exact⟨_,gP,fc.2.1⟩) ?_
 refine PySem.Calls.callWith_builtin hp (vH hp (wpAny_mono h (fun xs CA p=>?_) fun u0 u0 e=>e))
 obtain⟨mvs,JA,BA,⟨kvs,hk,q⟩,r,DA,HA⟩:=p
 unfold lE at q
 rw[if_pos rfl]at q
 ·obtain⟨v,w,rfl,rfl,q2⟩:=nR q
  clear q
  obtain⟨k,rfl,h0,q⟩:=YY q2
  obtain⟨x,y,rfl,⟨t,rfl,_⟩,ry⟩:=r.two
  subst ry
  obtain⟨a',ps,ha',D,hz,rr⟩:=DA.dict hk
  rw[HA.loc _ _ ha]at ha';cases ha'
  have hv:=EE rr k
  rw[h0]at hv
  have hv':valueAt ps (⟨k.toArray⟩:Str)=none:=by
   induction q:valueAt ps (⟨k.toArray⟩:Str)using Option.casesOn with
   | none=>rfl
   | some x=>rw[q]at hv;exact hv.elim
  have fin:wA g s.heap U [] Q .none {CA with toks:=CA.toks+1}:=CF q rfl (DA.toks _) HA
  refine call_meetsIn PySem.F.slot_dict_pop D.mapOf.typeIs PySem.F.entry_dict_pop (PySem.F.args_dict_pop_3 _ _ _) (meets_dict_pop_default (PySem.strKind g.prog g.w) a (zD k t) (WI Y DA (HA.loc _ _ ha)) rfl .none) ⟨ps,D,hv',fin⟩
end
end
section
variable{g:G}{A:Around}{d:Nat}{hd:Option Nat}{c:CC}{env:Env}
theorem kH{id:Str}(h:YH id=true):(id==("__debug__":Str))=false/\(id==("__classdict__":Str))=false:=by
 unfold YH at h
 simpa using h
theorem hV{i:Nat}{id:Str}(h:c.isVar i id=true):c.nm[i]?=some id.cps.toList/\YH id=true:=by
 unfold CC.isVar at h
 simp only[Bool.and_eq_true,beq_iff_eq]at h
 exact h.1
theorem qR{id:Str}{v:Value}{s:Shared}{U:List Addr}{J:List O}(Y:xC g)(S:St g s U J)(hK:g.K=c.K)(hs:env.scope.names=c.sc.names)(F:env.scope.kind= .function)(hg:env.globals=mainGlobals)(hb:env.builtins=builtinsNs)(h:c.isGlob v id=true)
 {pos:Pos} {Q:Value->Shared->Prop} {E:Value->Shared->Prop} (hq:Q v s):wpAny (model g.prog g.w) A (eval (.Name id pos) env) Q E s:=by
 unfold CC.isGlob at h
 simp only[Bool.and_eq_true,beq_iff_eq]at h
 obtain⟨⟨h1,h2⟩,h3⟩:=h
 obtain⟨mg,hmg⟩:=Y.glob
 have hmg':s.heap.Ns mainGlobals mg:=hmg.keeps S.base
 have K':g.K.In s.heap:=Y.K.keeps S.base
 refine Name_function_global F (by unfold Env.kindOf;rw[hs];exact h2) ?_ (kH h1).1
 unfold mH at h3
 rw[<-hK]at h3
 set_option tactic.hygienic true in split at h3
 ·rename_i w e
  cases h3
  exact loadGlobal_global (by rw[hg];exact hmg') (mg_of K' hmg' e) hq
 ·rename_i e
  split at h3
  ·set_option tactic.hygienic true in cases h3
  ·rename_i hn
   obtain⟨mb,hmb,hb'⟩:=Y.blt
   refine loadGlobal_builtin (by rw[hg];exact hmg') (mg_none_of K' hmg' e) (by rw[hb];exact hmb.keeps S.base) ?_ hq
   rw[hb' id (by simpa using hn)];exact h3
 ·cases h3
theorem aC{e:Expr}{r:List Expr}(h:gC e=false):starEach (e::r) env=(false,eval e env)::starEach r env:=by
 induction e using Expr.casesOn <;>first | rfl | cases h
theorem LF(pos:Pos)(t:Sem Value)(r:List (Bool×Sem Value)):backTo pos ((false,t)::r)=(false,t)::backTo pos r:=rfl
class inductive BH(P:IE->Expr->Prop):jJ->List Expr->Prop
 | nil:BH P .nil []
 | cons {e:IE} {r:jJ} {x:Expr} {xs:List Expr} (h:gC x=false) (p:P e x) (q:BH P r xs):BH P (.cons e r) (x::xs)
class inductive FT(P:IT->Expr->Prop):YU->List Expr->Prop
 | nil:FT P .nil []
 | cons {e:IT} {r:YU} {x:Expr} {xs:List Expr} (p:P e x) (q:FT P r xs):FT P (.cons e r) (x::xs)
theorem zJ{P:IE->Expr->Prop}{f:Expr->Option IE}(h:∀x,RD (f x) fun e=>P e x):∀xs,RD (jF f xs) fun es=>BH P es xs
 | []=> .nil
 | x::xs=> .when fun s=>(h x).bind fun p=>(zJ h xs).map fun q=> .cons (Bool.not_eq_true' _ ▸ s) p q
theorem fI{P:IT->Expr->Prop}{f:Expr->Option IT}(h:∀x,RD (f x) fun e=>P e x):∀xs,RD (EL f xs) fun es=>FT P es xs
 | []=> .nil
 | x::xs=>(h x).bind fun p=>(fI h xs).map fun q=> .cons p q
theorem YI{P:IE->Expr->Prop}(pos:Pos){es:jJ}{xs:List Expr}(h:BH P es xs):(backTo pos (starEach xs env)).any (·.1)=false:=by
 induction h with
 | nil=>rfl
 | cons h _ _ ih=>rw[aC h,LF];exact ih
theorem zV{op:CmpOp}{r:Expr}(h:vD r=false):behindInMarks op r=false:=by
 induction r using Expr.casesOn <;>first | rfl | cases h
theorem aS{o:Expr}{attr:Str}{whole:Sem Value}(h:iH o=false):attributeBase o attr env whole=whole:=by
 induction o using Expr.casesOn with
 | Call f as kws p=>
   induction f using Expr.casesOn with
   | Name id q=>
     rcases as with _ | ⟨_,_⟩
     ·rcases kws with _ | ⟨_,_⟩
      ·have h:(id==("super":Str))=false:=h
       have:(id !="super")=true:=by rw[bne,h];rfl
       delta attributeBase
       dsimp only
       rw[this];rfl
      ·rfl
     ·rfl
   | _=>rfl
 | _=>rfl
noncomputable def SE(g:G)(A:Around)(d:Nat)(hd:Option Nat)(c:CC)(env:Env)(ie:IE)(e:Expr):Prop:=
 ∀{Z:List (Option V)} {J:List O} {K:V->List O->Prop} {E:Nat->List O->Prop},¬dE g d hd ie Z J K E->∀{s:Shared} {U:List Addr},Cx g A s U d hd->St g s U J->Fm g c.nm s U env Z->
  wpAny (model g.prog g.w) A (eval e env) (wA g s.heap U [] (NK K)) (dA g s.heap U [] (NK E)) s
noncomputable def kg(g:G)(A:Around)(d:Nat)(hd:Option Nat)(c:CC)(env:Env)(es:jJ)(xs:List Expr):Prop:=
 ∀{Z:List (Option V)} {J:List O} {K:List V->List O->Prop} {E:Nat->List O->Prop},¬uK g d hd es Z J K E->∀{s:Shared} {U:List Addr} (pos:Pos),Cx g A s U d hd->St g s U J->Fm g c.nm s U env Z->
  wpAny (model g.prog g.w) A (spliced (backTo pos (starEach xs env))) (UD g s.heap U (NK K)) (dA g s.heap U [] (NK E)) s
noncomputable def jg(g:G)(A:Around)(d:Nat)(hd:Option Nat)(c:CC)(env:Env)(es:jJ)(xs:List Expr):Prop:=
 ∀(ks:List (List Nat)) (keys:List (Option Expr)),FH ks keys=true->ks.length=xs.length->∀{Z:List (Option V)} {J:List O} {K:List V->List O->Prop} {E:Nat->List O->Prop},¬uK g d hd es Z J K E->∀{s:Shared} {U:List Addr} (pos:Pos),Cx g A s U d hd->St g s U J->Fm g c.nm s U env Z->
  wpAny (model g.prog g.w) A (evalPairs (pairTrees keys xs env pos)) (fU g s.heap U ks (NK K)) (dA g s.heap U [] (NK E)) s
noncomputable def Xf(g:G)(A:Around)(d:Nat)(hd:Option Nat)(c:CC)(env:Env)(es:jJ)(xs:List Expr):Prop:=
 ∀{Z:List (Option V)} {J:List O} {K:V->List O->Prop} {E:Nat->List O->Prop},¬Ka g d hd es Z J K E->∀{s:Shared} {U:List Addr} (pos:Pos),Cx g A s U d hd->St g s U J->Fm g c.nm s U env Z->
  wpAny (model g.prog g.w) A (boolOp pos .And (evalEach xs env)) (wA g s.heap U [] (NK K)) (dA g s.heap U [] (NK E)) s
noncomputable def NT(T F:List O->Prop)(b:Bool)(J:List O):Prop:=NI b (T J) (F J)
noncomputable def ST(g:G)(A:Around)(d:Nat)(hd:Option Nat)(c:CC)(env:Env)(t:IT)(e:Expr):Prop:=
 ∀{Z:List (Option V)} {J:List O} {T F:List O->Prop} {E:Nat->List O->Prop},¬dT g d hd t Z J T F E->∀{s:Shared} {U:List Addr},Cx g A s U d hd->St g s U J->Fm g c.nm s U env Z->
  wpAny (model g.prog g.w) A (isTrue e env (eval e env)) (BK g s.heap U (NT T F)) (dA g s.heap U [] (NK E)) s
noncomputable def ng(g:G)(A:Around)(d:Nat)(hd:Option Nat)(c:CC)(env:Env)(t:YU)(e:List Expr):Prop:=
 ∀{Z:List (Option V)} {J:List O} {T F:List O->Prop} {E:Nat->List O->Prop},¬GV g d hd t Z J T F E->∀{s:Shared} {U:List Addr},Cx g A s U d hd->St g s U J->Fm g c.nm s U env Z->
  wpAny (model g.prog g.w) A (allTrue .And e env) (BK g s.heap U (NT T F)) (dA g s.heap U [] (NK E)) s
noncomputable def og(g:G)(A:Around)(d:Nat)(hd:Option Nat)(c:CC)(env:Env)(t:YU)(e:List Expr):Prop:=
 ∀{Z:List (Option V)} {J:List O} {T F:List O->Prop} {E:Nat->List O->Prop},¬Na g d hd t Z J T F E->∀{s:Shared} {U:List Addr},Cx g A s U d hd->St g s U J->Fm g c.nm s U env Z->
  wpAny (model g.prog g.w) A (allTrue .Or e env) (BK g s.heap U (NT T F)) (dA g s.heap U [] (NK E)) s
theorem two{a:IE}{x:Expr}(ha:SE g A d hd c env a x){Z:List (Option V)}{J:List O}{K:V->List O->Prop}{E:Nat->List O->Prop}(h:¬dE g d hd a Z J K E){s:Shared}{U:List Addr}(C:Cx g A s U d hd)(S:St g s U J)(F:Fm g c.nm s U env Z)
 {R:Value->Shared->Prop}
 (k:∀v CA mv JA BA,¬K mv JA->VA g CA.heap BA mv v->Cx g A CA BA d hd->St g CA BA JA->Fm g c.nm CA BA env Z->NA s.heap CA.heap U BA []->R v CA):
 wpAny (model g.prog g.w) A (eval x env) R (dA g s.heap U [] (NK E)) s:=
 wpAny_mono (ha h C S F) (fun v CA p=>by
  obtain⟨mv,JA,BA,q,r,DA,T⟩:=p
  exact k v CA mv JA BA q r (C.step S T) DA (F.step S T) T) fun u0 u0 e=>e
structure Gd(g:G)(c:CC)(env:Env):Prop where
 K:g.K=c.K
 names:env.scope.names=c.sc.names
 cells:∀x,env.scope.names.lookup x=some .cell->∃a,env.cells.lookup x=some a
end
noncomputable def AE(g:G)(c:CC)(ie:IE)(e:Expr):Prop:=∀(A:Around) (d:Nat) (hd:Option Nat) (env:Env),Gd g c env->SE g A d hd c env ie e
noncomputable def AT(g:G)(c:CC)(t:IT)(e:Expr):Prop:=∀(A:Around) (d:Nat) (hd:Option Nat) (env:Env),Gd g c env->ST g A d hd c env t e
section
variable{g:G}{A:Around}{d:Nat}{hd:Option Nat}{c:CC}{env:Env}
theorem EQ{s:List Nat}{x:Str}(h:AM s x=true):x=⟨s.toArray⟩/\s.length<=sizeLine/\∀c∈s,c < 0x110000:=by
 unfold AM at h
 simp only[Bool.and_eq_true,beq_iff_eq,decide_eq_true_eq,List.all_eq_true]at h
 obtain⟨⟨h1,h2⟩,h3⟩:=h
 refine⟨?_,by rw[OA];omega,h3⟩
 obtain⟨a⟩:=x
 simp at h1
 subst h1
 simp
theorem aY{n:Str}{x:List Nat}(h:n.cps.toList=x):n=⟨x.toArray⟩:=by
 obtain⟨a⟩:=n;simp at h;subst h;simp
theorem MM{M:Model}{vs keep:List Value}{Q:Unit->Shared->Prop}{E:Value->Shared->Prop}{s:Shared}(h:Q () s):wpAny M A (release vs keep) Q E s:=fun Γ p u0=>by
 rw[Sem.wp_release];exact h
theorem uV{o:Expr}{name:Str}{apos pos:Pos}{args:List Expr}{Q:Value->Shared->Prop}{E:Value->Shared->Prop}{s:Shared}{es:jJ}{P:IE->Expr->Prop}(hsup:iH o=false)(hline:(apos.endLine==pos.line)=true)(hc:BH P es args)(hlen:args.length<=20)
 (h:wpAny (model g.prog g.w) A (eval o env) (fun ov CA=>∀pl:Sem Bool,wpAny (model g.prog g.w) A (getMethod ov name pl) (fun fm cA=>wpAny (model g.prog g.w) A (callWith pos fm.1 fm.2 (backTo pos (starEach args env)) []) Q E cA) E CA) E s):
 wpAny (model g.prog g.w) A (eval (.Call (.Attribute o name apos) args [] pos) env) Q E s:=by
 rw[arm_eval_Call,aS hsup]
 refine wpAny_bind (wpAny_mono h (fun ov CA KB=>wpAny_bind (wpAny_standAt ?_)) fun u0 u0 e=>e)
 have hform:methodCallForm (args.length+([]:List Keyword).length) (backTo pos (starEach args env)) (backToKw pos (keywordEach [] env))=true:=by
  unfold methodCallForm
  have:=YI (env:=env) pos hc
  have h1:(backTo pos (starEach args env)).all (fun x=>!x.1)=true:=by
   rw[List.all_eq_true]
   intro x hx
   have:=List.any_eq_false.mp this x hx
   simpa using this
  rw[h1]
  rw[show backToKw pos (keywordEach [] env)=[]from rfl]
  simp;omega
 have hpos:methodCallPos true o env apos pos=pure pos:=by unfold methodCallPos;simp[hline]
 unfold methodCall
 rw[hform]
 refine wpAny_bind (wpAny_holding ?_)
 exact wpAny_mono (KB (do return (<-importBound o env).getD true)) (fun fm cA KC=>wpAny_bind (wpAny_of_eq hpos KC)) fun u0 u0 e=>e
end
section
variable{g:G}{s:Shared}{U:List Addr}{J:List O}{A:Around}{d:Nat}{hd:Option Nat}{M:Model}{E:Value->Shared->Prop}{env:Env}
theorem Cx.fun(C:Cx g A s U d hd){fr:List Env}(h:A.frames=some fr):s.heap.FunFrames g.bA fr/\∀L∈fr.filterMap (·.frame),g.bA.get? L=none/\∃o,s.heap.get? L=some o/\o.cls= .type "frame"/\AC o:=by
 obtain⟨fr',e,k⟩:=C.stk
 rw[h]at e;cases e
 clear h
 induction fr with
 | nil=>exact⟨trivial,fun u0 m=>nomatch m⟩
 | cons env r ih=>
   obtain⟨i1,i2⟩:=ih fun env m=>k env (List.mem_cons_of_mem _ m)
   obtain⟨k1,L,o,f,ab,ho,hc,hdd⟩:=k env (.head _)
   refine⟨⟨by rw[k1];decide,⟨L,o,f,?_,ho,fun vs q=>?_⟩,i1⟩,fun L' m=>?_⟩
   ·exact ab
   ·obtain⟨es,n,e⟩:=hdd
    rw[e]at q;cases q
   ·rw[List.filterMap_cons,f]at m
    rcases List.mem_cons.mp m with rfl | m
    ·exact⟨ab,o,ho,hc,hdd⟩
    ·exact i2 L' m
theorem St.slots(S:St g s U J){F:List Addr}(hF:∀L∈F,g.bA.get? L=none/\∃o,s.heap.get? L=some o/\o.cls= .type "frame"/\AC o){h':Heap}(x:Heap.SlotsOnly F s.heap h'):
 St g {s with heap:=h'} U J/\NA s.heap h' U U []:=by
 have other:∀b o,s.heap.get? b=some o->o.cls≠ .type "frame"->h'.get? b=some o:=fun b o e n=>(x.2.1 b fun m=>by
  obtain⟨_,o',e',c,_⟩:=hF b m
  rw[e]at e';cases e';exact n c).trans e
 constructor
 ·refine S.quiet (fun b o e e'=>(x.2.1 b fun m=>?_).trans e') (fun b m=>?_) (fun a os ⟨o,e,c,r⟩=>⟨o,other a o e (by rw[c];decide),c,r⟩) (fun b o e t=>⟨o,other b o e (by rw[t.1];decide),t⟩) rfl rfl
  ·rw[(hF b m).1]at e;cases e
  ·obtain⟨o,e,c⟩:=S.at m
   exact(other b o e (by intro q;rw[q]at c;cases c)).trans e.symm
 ·refine⟨⟨[],by simp,fun u0 m=>nomatch m⟩,fun b o e u0 u0=>?_,fun b o e u0=>?_,fun b o e=>let ⟨_,q⟩:=x.2.2 b o e;⟨_,q⟩,fun a ⟨y,vs,tb,c,e,c1,d1,r⟩=>let ⟨sl,q⟩:=x.2.2 a y e;⟨_,vs,tb,c,q,c1,d1,r⟩⟩
  ·obtain⟨sl,q⟩:=x.2.2 b o e
   by_cases m:b∈F
   ·obtain⟨_,o',e',c,_⟩:=hF b m
    rw[e]at e';cases e'
    exact⟨_,q, .inr (.inl ⟨c,sl,rfl⟩)⟩
   ·exact⟨o,(x.2.1 b m).trans e, .refl o⟩
  ·obtain⟨sl,q⟩:=x.2.2 b o e
   exact⟨_,q,rfl,fun⟨es,n,z⟩=>⟨es,n,z⟩⟩
theorem St.exc(S:St g s U J){l:Nat}{a C:Addr}{dl:Nat}(hl:J[l]?=some (.exc C dl))(ha:U[l]?=some a):tY g s.heap U a C dl:=S.objs l a _ ha hl
theorem St.xc(S:St g s U J){l:Nat}{a C:Addr}{dl:Nat}(hl:J[l]?=some (.exc C dl))(ha:U[l]?=some a):aU C=true:=by obtain⟨x,_⟩:=S.objs l a _ ha hl;exact x
theorem TP(C:Cx g A s U d hd)(S:St g s U J){outer:List Env}(hf:A.frames=some (env::outer)){L:Addr}(hL:env.frame=some L){l:Nat}{a Cl:Addr}{dl:Nat}(he:J[l]?=some (.exc Cl dl))(ha:U[l]?=some a){head:Value}{hadNext:Bool}
 {Q:Unit->Shared->Prop} (h:∀h',St g {s with heap:=h'} U J->NA s.heap h' U U []->kD {s with heap:=h'} (.ref a)->Q () {s with heap:=h'}):
 wpAny M A (do let fo <-frameOf env;let pl <-entryPlaceOf L hadNext;let b <-EntryCells.newEntry head fo .none (rawInt L) .none pl;setField (.ref a) 1 b) Q E s:=by
 obtain⟨F1,F2⟩:=C.fun hf
 refine wpAny_bind (wpAny_frameOf_fun hf F1 hL fun KB MS=>?_)
 obtain⟨DA,HA⟩:=S.slots F2 MS
 refine wpAny_bind (wpAny_entryPlaceOf fun pl hpl=>?_)
 refine wpAny_bind (wpAny_newObj_type ?_ (hpl.sizeOk5 _ _ _ _ _))
 generalize hto:({cls:= .type "traceback",dict:=none,data:= .fields ([head, .ref L, .none,rawInt L, .none]++(if pl.isEmpty then List.replicate 6 Value.none else pl)).toArray}:Obj)=to
 have tb:DF to:=by subst hto;exact⟨rfl,_,rfl,by simp only[List.size_toArray,List.length_append,List.length_cons,List.length_nil] <;>simp+arith only⟩
 have eA:St g {s with heap:=KB.push to} U J:=DA.pushU to
 obtain⟨_,dx,vs,hdx,ho,T1,T2⟩:=eA.exc he ha
 refine wpAny_setField ho rfl (by exact BB T1) ?_
 have ho':=Heap.get?_update_self (Obj.mapFields (·.setIfInBounds 1 (Value.ref KB.objs.size))) ho (Obj.isFreed_of_fields (Obj.data_mapFields rfl _))
 have htn:a≠KB.objs.size:=Nat.ne_of_lt (DA.lt (List.mem_of_getElem? ha))
 have iB:=eA.update ha (Heap.SameBut.update (KB.push to) a (Obj.mapFields (·.setIfInBounds 1 (Value.ref KB.objs.size)))) (x':= .exc Cl dl) (by
  refine⟨S.xc he ha,dx,_,hdx,ho',by rw[Array.size_setIfInBounds];exact T1, .inr ⟨KB.objs.size,to,by rw[Array.getElem?_setIfInBounds_self_of_lt (by exact BB T1)],DA.new.1,?_,tb⟩⟩
  exact(Heap.get?_update_other _ _ htn).trans (Heap.get?_push_size _ (by subst hto;rfl))) s.toks
 rw[VQ he]at iB
 refine h _ iB ?_ ⟨a,rfl,_,_,KB.objs.size,_,ho',rfl,rfl,by rw[Array.getElem?_setIfInBounds_self_of_lt (by exact BB T1)]⟩
 exact(HA.trans (.pushU KB U to)).trans (NA.update ha (Heap.SameBut.update ..) (fun o e=>⟨_,ho'⟩) fun u0=>⟨_,_,KB.objs.size,_,ho',rfl,rfl,by rw[Array.getElem?_setIfInBounds_self_of_lt (by exact BB T1)]⟩)
theorem bQ(S:St g s U J){tb:Addr}{o:Obj}(hn:g.bA.get? tb=none)(ho:s.heap.get? tb=some o)(ht:DF o)(x:Value):
 St g {s with heap:=s.heap.update tb (Obj.mapFields (·.setIfInBounds 3 x))} U J/\NA s.heap (s.heap.update tb (Obj.mapFields (·.setIfInBounds 3 x))) U U []:=by
 obtain⟨hc,vs,hd,hz⟩:=ht
 have hself:=Heap.get?_update_self (Obj.mapFields (·.setIfInBounds 3 x)) ho (Obj.isFreed_of_fields (Obj.data_mapFields hd _))
 have hs:=Heap.SameBut.update s.heap tb (Obj.mapFields (·.setIfInBounds 3 x))
 have tb':DF (Obj.mapFields (·.setIfInBounds 3 x) o):=⟨(Obj.cls_mapFields _ _).trans hc,_,Obj.data_mapFields hd _,by simpa using hz⟩
 constructor
 ·refine S.quiet (fun b o' e e'=>(hs.2 b fun q=>?_).trans e') (fun b m=>hs.2 b fun q=>?_) (fun a os ⟨y,e,c,r⟩=>⟨y,(hs.2 a fun q=>?_).trans e,c,r⟩) (fun b y e t=>?_) rfl rfl
  ·subst q;rw[hn]at e;cases e
  ·subst q;exact S.notin ho (by rw[hc];rfl) m
  ·subst q;rw[ho]at e;cases e;rw[c]at hc;exact absurd hc (by decide)
  ·by_cases q:b=tb
   ·subst q;exact⟨_,hself,tb'⟩
   ·exact⟨y,(hs.2 b q).trans e,t⟩
 ·refine⟨⟨[],by simp,fun u0 m=>nomatch m⟩,fun b y e u0 u0=>?_,fun b y e u0=>?_,fun b y e=>?_,fun b ⟨y,vs',tb',c',e,c1,r,u⟩=>⟨y,vs',tb',c',(hs.2 b fun q=>by subst q;rw[ho]at e;cases e;rw[hc]at c1;cases c1).trans e,c1,r,u⟩⟩
  ·by_cases q:b=tb
   ·subst q;rw[ho]at e;cases e;exact⟨_,hself, .inr (.inr ⟨hc,fun u0=>tb'⟩)⟩
   ·exact⟨y,(hs.2 b q).trans e, .refl y⟩
  ·by_cases q:b=tb
   ·subst q;rw[ho]at e;cases e;exact⟨_,hself,Obj.cls_mapFields _ _,fun⟨es,n,z⟩=>by rw[hd]at z;cases z⟩
   ·exact⟨y,(hs.2 b q).trans e,rfl,id⟩
  ·by_cases q:b=tb
   ·subst q;exact⟨_,hself⟩
   ·exact⟨y,(hs.2 b q).trans e⟩
theorem ZG(C:Cx g A s U d hd)(S:St g s U J){outer:List Env}(hf:A.frames=some (env::outer)){l:Nat}{a Cl:Addr}{dl:Nat}(he:J[l]?=some (.exc Cl dl))(ha:U[l]?=some a)
 {Q:Unit->Shared->Prop} (h:∀h',St g {s with heap:=h'} U J->NA s.heap h' U U []->kD {s with heap:=h'} (.ref a)->Q () {s with heap:=h'}):
 wpAny M A (noteFrame (.ref a) env) Q E s:=by
 obtain⟨_,dx,vs,hdx,ho,T1,T2⟩:=S.exc he ha
 have hL:∃L,env.frame=some L:=by
  obtain⟨fr,e,k⟩:=C.stk
  rw[hf]at e;cases e
  obtain⟨_,L,_,f,_⟩:=k env (.head _)
  exact⟨L,f⟩
 obtain⟨L,hL⟩:=hL
 unfold noteFrame
 simp only[hL]
 rcases T2 with T2 | ⟨tb,ob,T2,hn,hob,ht⟩
 ·refine wpAny_bind (wpAny_field ho rfl T2 ?_)
  rw[if_neg (by decide)]
  exact TP C S hf hL he ha h
 ·refine wpAny_bind (wpAny_field ho rfl T2 ?_)
  rw[if_pos (show(Value.ref tb !=Value.none)=true from by simp)]
  have ht':=ht
  obtain⟨hc,ws,hd',hz⟩:=ht
  refine wpAny_bind (wpAny_field hob hd' (x:=ws[3]) (by simp) ?_)
  split
  ·exact wpAny_pure (h _ S (.refl ..) ⟨a,rfl,_,vs,tb,_,ho,rfl,rfl,T2⟩)
  ·refine wpAny_bind (wpAny_setField hob hd' hz ?_)
   obtain⟨DA,HA⟩:=bQ S hn hob ht' .none
   exact TP (C.step S HA) DA hf hL he ha fun h' S' T' q=>h h' S' (HA.trans T') q
theorem kD.obj(S:St g s U J){l:Nat}{a Cl:Addr}{dl:Nat}(he:J[l]?=some (.exc Cl dl))(ha:U[l]?=some a)(q:kD s (.ref a)):
 ∃dx vs tb o,s.heap.get? a=some {cls:= .ref Cl,dict:=some dx,data:= .fields vs}/\vs[1]?=some (.ref tb)/\g.bA.get? tb=none/\s.heap.get? tb=some o/\DF o:=by
 obtain⟨_,dx,vs,hdx,ho,T1,T2⟩:=S.exc he ha
 obtain⟨a',q1,o',vs',tb',_,q2,_,q3,q4⟩:=q
 cases q1
 rw[ho]at q2;cases q2
 cases q3
 rcases T2 with T2 | ⟨tb,ob,T2,hn,hob,ht⟩
 ·rw[T2]at q4;cases q4
 ·exact⟨dx,vs,tb,ob,ho,T2,hn,hob,ht⟩
theorem sD(S:St g s U J){l:Nat}{a Cl:Addr}{dl:Nat}(he:J[l]?=some (.exc Cl dl))(ha:U[l]?=some a)(fr:Option Addr)
 {Q:Unit->Shared->Prop} (h:∀h',St g {s with heap:=h'} U J->NA s.heap h' U U []->(kD s (.ref a)->kD {s with heap:=h'} (.ref a))->Q () {s with heap:=h'}):
 wpAny M A (setFlight (.ref a) fr) Q E s:=by
 obtain⟨_,dx,vs,hdx,ho,T1,T2⟩:=S.exc he ha
 rcases T2 with T2 | ⟨tb,ob,T2,hn,hob,ht⟩
 ·refine wpAny_bind (wpAny_field ho rfl T2 ?_)
  rw[if_neg (by decide)]
  exact wpAny_pure (h _ S (.refl ..) id)
 ·refine wpAny_bind (wpAny_field ho rfl T2 ?_)
  rw[if_pos (by simp)]
  have ht':=ht
  obtain⟨hc,ws,hd',hz⟩:=ht
  refine wpAny_setField hob hd' hz ?_
  obtain⟨DA,HA⟩:=bQ S hn hob ht' (fr.elim Value.none fun f=>rawInt f)
  refine h _ DA HA fun u0=>?_
  have hne:a≠tb:=fun q=>by subst q;rw[ho]at hob;cases hob;cases hc
  exact⟨a,rfl,_,vs,tb,_,(Heap.get?_update_other _ _ (Ne.symm hne)).trans ho,rfl,rfl,T2⟩
theorem uR(S:St g s U J){l:Nat}{a Cl:Addr}{dl:Nat}(he:J[l]?=some (.exc Cl dl))(ha:U[l]?=some a)(q:kD s (.ref a))
 {Q:Value->Shared->Prop} (h:∀h',St g {s with heap:=h'} U J->NA s.heap h' U U []->kD {s with heap:=h'} (.ref a)->Q (.ref a) {s with heap:=h'}):
 cameBackBy M A env Q (.ref a) s:=by
 obtain⟨dx,vs,tb,o,ho,T2,hn,hob,ht⟩:=kD.obj S he ha q
 refine wpAny_bind (wpAny_field ho rfl T2 ?_)
 rw[if_neg (by simp)]
 exact sD S he ha _ fun h' S' T' q'=>h h' S' T' (q' q)
theorem lN(S:St g s U J){l:Nat}{a Cl:Addr}{dl:Nat}(he:J[l]?=some (.exc Cl dl))(ha:U[l]?=some a)(q:kD s (.ref a)){α:Type}{what:String}{Q:α->Shared->Prop}
 (h:∀h',St g {s with heap:=h'} U J->NA s.heap h' U U []->kD {s with heap:=h'} (.ref a)->E (.ref a) {s with heap:=h'}):
 wpAny M A (PySem.passOn what (.ref a) env) Q E s:=by
 obtain⟨dx,vs,tb,o,ho,T2,hn,hob,ht⟩:=kD.obj S he ha q
 refine wpAny_bind (wpAny_field ho rfl T2 ?_)
 rw[if_neg (by simp)]
 exact wpAny_bind (sD S he ha _ fun h' S' T' q'=>wpAny_throw (h h' S' T' (q' q)))
end
section
variable{g:G}{s:Shared}{U:List Addr}{J:List O}{A:Around}{d:Nat}{hd:Option Nat}{E:Value->Shared->Prop}{env:Env}{nm:List (List Nat)}{Z:List (Option V)}
theorem SZ{α:Type}{a:α}{P:Prop}(h:none=some a):P:=nomatch h
theorem qU(S:St g s U J){op:Operator}{x y z:V}{a b:Value}{Q:Value->Shared->Prop}(ra:VA g s.heap U x a)(rb:VA g s.heap U y b)(h:aX op x y=some z)
 (hq:∀w t,VA g s.heap U z w->Q w {s with toks:=t}):wpAny (model g.prog g.w) A (inplaceOp op a b) Q E s:=by
 induction x using V.casesOn with
 | int i=>induction y using V.casesOn with
   | int j=>induction op using PySem.Operator.casesOn with
     | Add=>
       cases h
       obtain⟨t,rfl⟩:=ra;obtain⟨u,rfl⟩:=rb
       exact PySem.AutoIntOps.iadd_0 (hq _ _ ⟨_,rfl⟩)
     | Sub=>
       cases h
       obtain⟨t,rfl⟩:=ra;obtain⟨u,rfl⟩:=rb
       exact PySem.AutoIntOps.isub_0 (hq _ _ ⟨_,rfl⟩)
     | _=>exact SZ h
   | _=>exact SZ h
 | str i=>induction y using V.casesOn with
   | str j=>induction op using PySem.Operator.casesOn with
     | Add=>
       have h:(if i.length+j.length<=sizeLine then some (V.str (i++j))else none)=some z:=h
       by_cases hb:i.length+j.length<=sizeLine
       ·rw[if_pos hb]at h
        cases h
        obtain⟨t,rfl,z1,c1⟩:=ra;obtain⟨u,rfl,z2,c2⟩:=rb
        refine PyProof.Rows.iadd_str (fun t' tk=>?_) (by rw[eB,eB];exact hb)
        refine hq _ _ ⟨t',by rw[cps_append],by simpa using hb,fun c m=>?_⟩
        rcases List.mem_append.mp m with m | m
        ·exact c1 c m
        ·exact c2 c m
       ·rw[if_neg hb]at h;exact SZ h
     | _=>exact SZ h
   | _=>exact SZ h
 | _=>exact SZ h
variable{M:Model}
theorem Fm.locals(S:St g s U J)(F:Fm g nm s U env Z){h':Heap}(hs:Heap.SameBut env.locals s.heap h')(hc:∀o,s.heap.get? env.locals=some o->∃o',h'.get? env.locals=some o'/\o'.cls=o.cls/\AC o')(t:Nat):
 St g {s with heap:=h',toks:=t} U J/\NA s.heap h' U U (OC env):=by
 obtain⟨o,ho,hcl,hdo⟩:=F.lcls
 have hb:∀b x,s.heap.get? b=some x->x.cls≠ .type "frame"->x.cls≠ .type "dict"->h'.get? b=some x:=fun b x e n1 n2=>(hs.2 b fun q=>by
  subst q;rw[ho]at e;cases e
  rcases hcl with q | q
  ·exact n1 q
  ·exact n2 q).trans e
 constructor
 ·refine S.quiet (fun b x e e'=>(hs.2 b fun q=>?_).trans e') (fun b m=>hs.2 b fun q=>?_) (fun a os ⟨x,e,c,r⟩=>⟨x,hb a x e (by rw[c];decide) (by rw[c];decide),c,r⟩) (fun b x e t=>⟨x,hb b x e (by rw[t.1];decide) (by rw[t.1];decide),t⟩) rfl rfl
  ·subst q;rw[F.above _ (.head _)]at e;cases e
  ·subst q;exact F.out _ (.head _) m
 ·refine⟨⟨[],by simp,fun u0 m=>nomatch m⟩,fun b x e u0 n=>⟨x,(hs.2 b fun q=>n (by subst q;exact .head _)).trans e, .refl x⟩,fun b x e u0=>?_,fun b x e=>?_,fun b ⟨y,vs',tb',c',e,c1,d1,r⟩=>⟨y,vs',tb',c',hb b y e (by rw[c1];intro q;cases q) (by rw[c1];intro q;cases q),c1,d1,r⟩⟩
  by_cases q:b=env.locals
  ·subst q
   obtain⟨o',e',c',d'⟩:=hc x e
   exact⟨o',e',c',fun u0=>d'⟩
  ·exact⟨x,(hs.2 b q).trans e,rfl,id⟩
  by_cases q:b=env.locals
  ·subst q
   obtain⟨o',e',_⟩:=hc x e
   exact⟨o',e'⟩
  ·exact⟨x,(hs.2 b q).trans e⟩
theorem RE(F:Fm g nm s U env Z):env.locals∉env.cells.map (·.2):=fun m=>by
 obtain⟨o,v,e,c,_⟩:=F.ccls _ m
 obtain⟨o',e',c',_⟩:=F.lcls
 rw[e]at e';cases e'
 rcases c' with c' | c' <;>rw[c]at c' <;>exact absurd c' (by decide)
theorem mS{i j:Nat}{v:Option V}{x:V}(h:(Z.set i v)[j]?=some (some x)):(j=i/\v=some x)\/(j≠i/\Z[j]?=some (some x)):=by
 by_cases e:i=j
 ·subst e
  rw[List.getElem?_set_self']at h
  induction q:Z[i]? using Option.casesOn with
  | none=>rw[q]at h;cases h
  | some y=>rw[q]at h;simp at h;exact .inl ⟨rfl,h⟩
 ·rw[List.getElem?_set_ne e]at h
  exact .inr ⟨fun q=>e q.symm,h⟩
theorem vV(F:Fm g nm s U env Z){i j:Nat}{x y:List Nat}(hx:nm[i]?=some x)(hy:nm[j]?=some y)(h:j≠i):(⟨y.toArray⟩:Str)≠⟨x.toArray⟩:=fun q=>by
 have:y=x:=by
  have:=congrArg (fun s:Str=>s.cps.toList) q
  simpa using this
 subst this
 obtain⟨h1,e1⟩:=List.getElem?_eq_some_iff.mp hx
 obtain⟨h2,e2⟩:=List.getElem?_eq_some_iff.mp hy
 exact h ((List.getElem_inj F.nodup).mp (e2.trans e1.symm))
theorem Fm.setLocal(S:St g s U J)(F:Fm g nm s U env Z){i:Nat}{x:List Nat}(hx:nm[i]?=some x)(hk:env.kindOf ⟨x.toArray⟩=some .local){m:Str->Option Value}(hv:∀(i:Nat) (x:List Nat) (v:V),nm[i]?=some x->Z[i]?=some (some v)->∃w,CZ env s.heap m ⟨x.toArray⟩ w/\VA g s.heap U v w)
 {h':Heap} {w:Option Value} {v:Option V} (hn:h'.Ns env.locals (fun y=>if y=⟨x.toArray⟩then w else m y))
 (hs:Heap.SameBut env.locals s.heap h') (hc:∀o,s.heap.get? env.locals=some o->∃o',h'.get? env.locals=some o'/\o'.cls=o.cls/\AC o') (t:Nat)
 (hw:∀y,v=some y->∃z,w=some z/\VA g s.heap U y z):Fm g nm {s with heap:=h',toks:=t} U env (Z.set i v):=by
 obtain⟨S',T⟩:=F.locals S hs hc t
 have up:∀{y:V} {z:Value},VA g s.heap U y z->VA g h' U y z:=fun r=>r.step S T F.noTup
 refine⟨F.kind,F.glob,F.blt,F.frame,F.nodup,by simp[F.len],F.above,F.out,?_,fun c hc'=>?_,F.once,_,hn,fun j y u hy hu=>?_⟩
 ·obtain⟨o,ho,hcl,hdo⟩:=F.lcls
  obtain⟨o',e',c',d'⟩:=hc o ho
  exact⟨o',e',by rw[c'];exact hcl,d'⟩
 ·obtain⟨o,u,e,c1,d1⟩:=F.ccls c hc'
  exact⟨o,u,(hs.2 c fun q=>RE F (q ▸ hc')).trans e,c1,d1⟩
 ·rcases mS hu with⟨rfl,rfl⟩ | ⟨hne,hu⟩
  ·rw[hx]at hy;cases hy
   obtain⟨z,rfl,r⟩:=hw u rfl
   exact⟨z, .inl ⟨hk,by simp⟩,up r⟩
  ·obtain⟨z,hz,r⟩:=hv j y u hy hu
   refine⟨z,?_,up r⟩
   rcases hz with⟨k,e⟩ | ⟨k,c,hcl,o',e',q⟩
   ·exact .inl ⟨k,by simp only[if_neg (vV F hx hy hne)];exact e⟩
   ·exact .inr ⟨k,c,hcl,o',(hs.2 c fun q=>RE F (q ▸ XC hcl)).trans e',q⟩
theorem QL{l:List (Str×Addr)}(hn:(l.map (·.2)).Nodup){x y:Str}{c:Addr}(hx:l.lookup x=some c)(hy:l.lookup y=some c):x=y:=by
 induction l with
 | nil=>cases hx
 | cons p r ih=>
   obtain⟨a,b⟩:=p
   simp only[List.map_cons,List.nodup_cons]at hn
   simp only[List.lookup_cons]at hx hy
   split at hx
   ·rename_i e1
    cases hx
    split at hy
    ·rename_i e2
     rw[eq_of_beq e1,eq_of_beq e2]
    ·exact absurd (XC hy) hn.1
   ·split at hy
    ·cases hy
     exact absurd (XC hx) hn.1
    ·exact ih hn.2 hx hy
theorem cK(S:St g s U J)(F:Fm g nm s U env Z){i:Nat}{x:List Nat}{id:Str}(hx:nm[i]?=some x)(hid:id=⟨x.toArray⟩)(hk:env.kindOf id=some .local\/env.kindOf id=some .cell/\∃c,env.cells.lookup id=some c)
 {v:V} {w:Value} (r:VA g s.heap U v w) {Q:Unit->Shared->Prop}
 (h:∀h' t,St g {s with heap:=h',toks:=t} U J->Fm g nm {s with heap:=h',toks:=t} U env (Z.set i (some v))->NA s.heap h' U U (OC env)->Q () {s with heap:=h',toks:=t}):
 wpAny M A (storeName env id w) Q E s:=by
 subst hid
 obtain⟨m,hm,hv⟩:=F.vars
 rcases hk with hk | ⟨hk,c,hc⟩
 ·refine iF F.kind hk hm fun h' hn hs hc=>?_
  obtain⟨S',T⟩:=F.locals S hs hc (s.toks+1)
  exact h _ _ S' (F.setLocal S hx hk hv (v:=some v) hn hs hc _ fun y e=>by cases e;exact⟨w,rfl,r⟩) T
 ·have hcm:=XC hc
  obtain⟨o,u,ho,ocl,od⟩:=F.ccls c hcm
  unfold storeName
  rw[hk,F.kind]
  refine wpAny_bind (wpAny_cellOf hc ?_)
  refine wpAny_bind (wpAny_load ho ?_)
  rw[od]
  refine wpAny_update ho ?_
  have hself:=Heap.get?_update_self (fun o=>{o with data:= .cell (some w)}) ho rfl
  have hs:=Heap.SameBut.update s.heap c (fun o=>{o with data:= .cell (some w)})
  generalize hh:s.heap.update c (fun o=>{o with data:= .cell (some w)})=h' at hself hs
  have hne:env.locals≠c:=fun q=>RE F (q ▸ hcm)
  have hb:∀b x,s.heap.get? b=some x->x.cls≠ .type "cell"->h'.get? b=some x:=fun b x e n1=>(hs.2 b fun q=>by
   subst q;rw[ho]at e;cases e;exact n1 ocl).trans e
  have S':St g {s with heap:=h',toks:=s.toks} U J:=by
   refine S.quiet (fun b x e e'=>(hs.2 b fun q=>?_).trans e') (fun b m=>hs.2 b fun q=>?_) (fun a os ⟨x,e,c,r⟩=>⟨x,hb a x e (by rw[c];decide),c,r⟩) (fun b x e t=>⟨x,hb b x e (by rw[t.1];decide),t⟩) rfl rfl
   ·subst q;rw[F.above _ (List.mem_cons_of_mem _ hcm)]at e;cases e
   ·subst q;exact F.out _ (List.mem_cons_of_mem _ hcm) m
  have T:NA s.heap h' U U (OC env):=by
   refine⟨⟨[],by simp,fun u0 m=>nomatch m⟩,fun b x e u0 n=>⟨x,(hs.2 b fun q=>n (by subst q;exact List.mem_cons_of_mem _ hcm)).trans e, .refl x⟩,fun b x e u0=>?_,fun b x e=>?_,fun b ⟨y,vs',tb',c',e,c1,d1,r⟩=>⟨y,vs',tb',c',hb b y e (by rw[c1];intro q;cases q),c1,d1,r⟩⟩
   by_cases q:b=c
   ·subst q
    rw[ho]at e;cases e
    exact⟨_,hself,rfl,fun⟨es,n,z⟩=>by rw[od]at z;cases z⟩
   ·exact⟨x,(hs.2 b q).trans e,rfl,id⟩
   by_cases q:b=c
   ·subst q;exact⟨_,hself⟩
   ·exact⟨x,(hs.2 b q).trans e⟩
  have up:∀{y:V} {z:Value},VA g s.heap U y z->VA g h' U y z:=fun r=>r.step S T F.noTup
  refine h h' s.toks S' ⟨F.kind,F.glob,F.blt,F.frame,F.nodup,by simp[F.len],F.above,F.out,?_,fun c' hc'=>?_,F.once,m,?_,fun j y u' hy hu=>?_⟩ T
  ·obtain⟨o,ho,hcl,hdo⟩:=F.lcls
   exact⟨o,(hs.2 _ hne).trans ho,hcl,hdo⟩
  ·by_cases q:c'=c
   ·subst q;exact⟨_,some w,hself,ocl,rfl⟩
   ·obtain⟨o',u',e',c1,d1⟩:=F.ccls c' hc'
    exact⟨o',u',(hs.2 c' q).trans e',c1,d1⟩
  ·obtain⟨o',es,ep,e',r⟩:=hm
   exact⟨o',es,ep,(hs.2 _ hne).trans e',r⟩
  ·rcases mS hu with⟨rfl,q⟩ | ⟨hne',hu⟩
   ·cases q
    rw[hx]at hy;cases hy
    exact⟨w, .inr ⟨.inl hk,c,hc,_,hself,rfl⟩,up r⟩
   ·obtain⟨z,hz,r⟩:=hv j y u' hy hu
    refine⟨z,?_,up r⟩
    rcases hz with q | ⟨k,c',hcl,o',e',q⟩
    ·exact .inl q
    ·refine .inr ⟨k,c',hcl,o',(hs.2 c' fun q'=>?_).trans e',q⟩
     subst q'
     exact vV F hx hy hne' (QL F.once hcl hc)
theorem QG(name:Str)(o:Obj):(Obj.dropName name o).cls=o.cls/\(AC o->AC (Obj.dropName name o)):=by
 rw[Obj.dropName_eq]
 obtain⟨c,d,dt,sl⟩:=o
 cases dt <;>try exact⟨rfl,id⟩
 unfold Obj.dropNameByArray
 dsimp only
 split
 ·exact⟨rfl,fun u0=>⟨_,_,rfl⟩⟩
 ·exact⟨rfl,fun u0=>⟨_,_,rfl⟩⟩
theorem FS(S:St g s U J)(F:Fm g nm s U env Z){i:Nat}{x:List Nat}{id:Str}{pos:Pos}(hx:nm[i]?=some x)(hid:id=⟨x.toArray⟩)(hk:env.kindOf id=some .local)
 {Q:Unit->Shared->Prop}
 (h:∀h' t,St g {s with heap:=h',toks:=t} U J->Fm g nm {s with heap:=h',toks:=t} U env (Z.set i none)->NA s.heap h' U U (OC env)->Q () {s with heap:=h',toks:=t}):
 wpAny M A (do bindName env id .none;unbindBehindTheSuite env id pos) Q E s:=by
 subst hid
 obtain⟨m,hm,hv⟩:=F.vars
 refine wpAny_bind (wpAny_bindName (iF F.kind hk hm fun KB gd MS Yd=>?_))
 refine wpAny_onRaise ?_
 refine wpAny_bind (wpAny_point (wpAny_bind ?_))
 unfold deleteName
 simp only[hk,F.kind]
 rw[if_neg (by intro q;cases q)]
 have T0:∀h',Heap.SameBut env.locals KB h'->Heap.SameBut env.locals s.heap h':=fun h' q=>MS.trans q
 obtain⟨o,es,ep,ho,hdo,hkk,hmm⟩:=id gd
 have hany:es.any (·.refKey)=false:=by
  rw[Array.any_eq_false'];intro e he;obtain⟨n,t,h⟩:=hkk e he;simp[DictEntry.refKey,h]
 have hsome:es.any (·.key.isStr ⟨x.toArray⟩)=true:=by
  have:=hmm ⟨x.toArray⟩
  simp only[if_true]at this
  have h2:(nsFind es ⟨x.toArray⟩).isSome=true:=by rw[this];rfl
  simp only[nsFind,findBy,Option.isSome_map,Array.find?_isSome]at h2
  obtain⟨y,hy,hp⟩:=h2
  rw[Array.any_eq_true]
  obtain⟨i,hi,rfl⟩:=Array.mem_iff_getElem.mp hy
  exact⟨i,hi,hp⟩
 have hhas:nsHas ⟨x.toArray⟩ o=pure true:=by
  rw[nsHas_eq];unfold nsHasByArray;rw[hdo]
  show(if(es.any fun y=>y.key.isStr _)=true then _ else _)=_
  rw[if_pos hsome]
 refine wpAny_bind (wpAny_bind (wpAny_loadPart ho ?_))
 rw[hhas]
 refine wpAny_bind (wpAny_pure ?_)
 simp only[if_true]
 refine wpAny_bind (wpAny_updatePart ho (wpAny_pure ?_))
 simp only[Bool.not_true,Bool.false_eq_true,if_false]
 refine wpAny_pure (wpAny_point ?_)
 have hs:=MS.trans (Heap.SameBut.update KB env.locals (Obj.dropName ⟨x.toArray⟩))
 have hfree:(Obj.dropName ⟨x.toArray⟩ o).isFreed=false:=by
  obtain⟨es',n',q⟩:=(QG ⟨x.toArray⟩ o).2 ⟨_,_,hdo⟩
  generalize Obj.dropName ⟨x.toArray⟩ o=o' at q
  obtain⟨c,d,dt,sl⟩:=o'
  subst q;rfl
 have hself:=Heap.get?_update_self (Obj.dropName ⟨x.toArray⟩) ho hfree
 have hc:∀o',s.heap.get? env.locals=some o'->∃o'',(KB.update env.locals (Obj.dropName ⟨x.toArray⟩)).get? env.locals=some o''/\o''.cls=o'.cls/\AC o'':=fun o' e=>by
  obtain⟨o1,e1,c1,_⟩:=Yd o' e
  rw[ho]at e1;cases e1
  exact⟨_,hself,(QG _ _).1.trans c1,(QG _ _).2 ⟨_,_,hdo⟩⟩
 have hn:∃v,(KB.update env.locals (Obj.dropName ⟨x.toArray⟩)).Ns env.locals (fun y=>if y=⟨x.toArray⟩then v else m y):=by
  obtain⟨cl,d,dt,sl⟩:=o
  subst hdo
  induction hi:es.findIdx? (·.key.isStr ⟨x.toArray⟩)using Option.casesOn with
  | some i=>
    refine⟨nsFind (es.eraseIdxIfInBounds i) ⟨x.toArray⟩,_,_,ep+1,hself,(by simp only[Obj.dropName_eq,Obj.dropNameByArray,hi] <;>rfl),hkk.erase i,fun y=>?_⟩
    show nsFind (es.eraseIdxIfInBounds i) y=_
    by_cases hx':y=⟨x.toArray⟩
    ·subst hx';simp only[if_true]
    ·rw[nsFind_erase_other hi hx',hmm];simp only[if_neg hx']
  | none=>
    refine⟨some .none,_,_,ep,hself,(by simp only[Obj.dropName_eq,Obj.dropNameByArray,hi] <;>rfl),hkk,fun y=>?_⟩
    exact hmm y
 obtain⟨v,hn⟩:=hn
 obtain⟨S',T⟩:=F.locals S hs hc (s.toks+1)
 exact h _ _ S' (F.setLocal S hx hk hv (v:=none) hn hs hc _ fun y e=>by cases e) T
end
noncomputable def gU(g:G)(h:Heap)(U:List Addr):Fl->Flow->Prop
 | .next,f=>f= .next
 | .brk,f=>f= .brk
 | .ret v,f=>∃x,f= .ret x/\VA g h U v x
inductive lD(g:G)(nm:List (List Nat))(env:Env)(h:Heap)(U:List Addr)(Q:Fl->List (Option V)->List O->Prop)(f:Flow)(s':Shared):Prop
 | mk (fl:Fl) (gK:List (Option V)) (LA:List O) (rA:List Addr) (q:Q fl gK LA) (r:gU g s'.heap rA fl f) (S:St g s' rA LA) (F:Fm g nm s' rA env gK) (T:NA h s'.heap U rA (OC env))
inductive xB(g:G)(nm:List (List Nat))(env:Env)(h:Heap)(U:List Addr)(E:Nat->List (Option V)->List O->Prop)(e:Value)(s':Shared):Prop
 | mk (l:Nat) (gK:List (Option V)) (LA:List O) (rA:List Addr) (a:Addr) (q:E l gK LA) (r:rA[l]?=some a) (e:e= .ref a) (x:vY LA l) (S:St g s' rA LA) (F:Fm g nm s' rA env gK) (T:NA h s'.heap U rA (OC env))
section
variable{g:G}{s:Shared}{U:List Addr}{J:List O}{A:Around}{d:Nat}{hd:Option Nat}{env:Env}{nm:List (List Nat)}{Z:List (Option V)}
variable{bA KB:Heap}{UA BA:List Addr}{Q Q':Fl->List (Option V)->List O->Prop}{E E':Nat->List (Option V)->List O->Prop}{f:Flow}{e:Value}{s':Shared}
theorem lD.from(T:NA bA KB UA BA (OC env))(p:lD g nm env KB BA Q f s'):lD g nm env bA UA Q f s':=let ⟨a,b,c,d,q,r,S,F,T'⟩:=p;⟨a,b,c,d,q,r,S,F,T.trans T'⟩
theorem xB.from(T:NA bA KB UA BA (OC env))(p:xB g nm env KB BA E e s'):xB g nm env bA UA E e s':=let ⟨a,b,c,d,x,q,r,y,z,S,F,T'⟩:=p;⟨a,b,c,d,x,q,r,y,z,S,F,T.trans T'⟩
theorem NA.x{h h':Heap}{U rA:List Addr}{X:List Addr}(T:NA h h' U rA []):NA h h' U rA X:=T.mono fun u0 m=>nomatch m
theorem dA.toX{E:Nat->List (Option V)->List O->Prop}(S:St g s U J)(F:Fm g nm s U env Z)(p:dA g s.heap U [] (fun l J=>E l Z J) e s'):xB g nm env s.heap U E e s':=by
 obtain⟨l,LA,rA,a,q,r,y,z,S',T⟩:=p
 exact⟨l,Z,LA,rA,a,q,r,y,z,S',F.step S T,T.x⟩
theorem gU.step{h':Heap}{rA X:List Addr}(S:St g s U J)(T:NA s.heap h' U rA X)(hX:∀b∈X,∀os,¬IsTup s.heap b os){fl:Fl}(r:gU g s.heap U fl f):gU g h' rA fl f:=by
 induction fl using Fl.casesOn with
 | next=>exact r
 | brk=>exact r
 | ret v=>obtain⟨x,e,r⟩:=r;exact⟨x,e,r.step S T hX⟩
theorem Cx.mark'(C:Cx g A s U d hd){l:Nat}{a:Addr}(h:U[l]?=some a):Cx g (A.mark (some (.ref a))) s U d (some l):=
 ⟨C.depth,C.units,⟨a,h,rfl⟩,C.stk⟩
theorem xB.noted(C:Cx g A s U d hd)(S:St g s U J){outer:List Env}(hf:A.frames=some (env::outer))(p:xB g nm env s.heap U E e s')
 {R:Value->Shared->Prop} (h:∀s'',xB g nm env s.heap U E e s''->kD s'' e->R e s''):notedBy (model g.prog g.w) A env R e s':=by
 obtain⟨l,gK,LA,rA,a,q,r,rfl,⟨Cl,dl,z⟩,S',F',T⟩:=p
 exact ZG (C.step S T) S' hf z r fun h' S'' T' tb=>h _ ⟨l,gK,LA,rA,a,q,r,rfl,⟨Cl,dl,z⟩,S'',F'.step S' T',T.trans T'.x⟩ tb
theorem xB.came(p:xB g nm env bA U E e s')(tb:kD s' e){R:Value->Shared->Prop}(h:∀s'',xB g nm env bA U E e s''->kD s'' e->R e s''):cameBackBy (model g.prog g.w) A env R e s':=by
 obtain⟨l,gK,LA,rA,a,q,r,rfl,⟨Cl,dl,z⟩,S',F',T⟩:=p
 exact uR S' z r tb fun h' S'' T' tb=>h _ ⟨l,gK,LA,rA,a,q,r,rfl,⟨Cl,dl,z⟩,S'',F'.step S' T',T.trans T'.x⟩ tb
theorem xB.out(C:Cx g A s U d hd)(S:St g s U J){outer:List Env}(hf:A.frames=some (env::outer))(p:xB g nm env s.heap U E e s'):
 notedBy (model g.prog g.w) A env (fun e s'=>cameBackBy (model g.prog g.w) A env (xB g nm env s.heap U E) e s') e s':=
 p.noted C S hf fun u0 p tb=>p.came tb fun u0 p u0=>p
variable{R:Result->Shared->Prop}{N:Value->Shared->Prop}
theorem AX{test:Expr}{body:List Stmt}
 (h:wpAny (model g.prog g.w) A (isTrue test env (eval test env)) (fun b cA=>
  if b then wpAny (model g.prog g.w) A (execs body env) (fun f eC=>match f with
   | .next | .cont=>codeAny (model g.prog g.w) A (.whileLoop test body [] env) R eC
   | .brk=>R (.ok .next) eC
   | .ret v=>R (.ok (.ret v)) eC) (notedBy (model g.prog g.w) A env fun e s'=>R (.error e) s') cA
  else R (.ok .next) cA)
  (notedBy (model g.prog g.w) A env fun e s'=>R (.error e) s') s):codeAny (model g.prog g.w) A (.whileLoop test body [] env) R s:=by
 refine codeAny_of_tree ?_
 show wpAny _ A ((whileTurn test body [] env).onRaise (fun x=>do noteFrame x env;theTreesLotGoes x)) _ _ s
 refine wpAny_noted ?_
 simp only[whileTurn]
 refine wpAny_bind (wpAny_mono h (fun b cA ZD=>?_) fun u0 u0 h'=>h')
 induction b using Bool.casesOn with
 | false=>
   simp only[Bool.false_eq_true,if_false]at ZD ⊢
   rw[execs_nil]
   exact wpAny_bind (wpAny_pure (wpAny_pure ZD))
 | true=>
   simp only[if_true]at ZD ⊢
   refine wpAny_bind (wpAny_mono ZD (fun f eC KC=>?_) fun u0 u0 h'=>h')
   induction f using PySem.Flow.casesOn with
   | next=>exact wpAny_pure ⟨rfl,KC⟩
   | cont=>exact wpAny_pure ⟨rfl,KC⟩
   | brk=>exact wpAny_pure KC
   | ret v=>exact wpAny_pure KC
theorem PV{target:Expr}{it:Value}{body:List Stmt}
 (h:wpAny (model g.prog g.w) A (pyNext it) (fun r CA=>match r with
  | none=>R (.ok .next) CA
  | some v=>wpAny (model g.prog g.w) A (letOwnedTupleGo target it v) (fun u0 aJ=>
   wpAny (model g.prog g.w) A (assign target env v) (fun u0 cA=>wpAny (model g.prog g.w) A (execs body env) (fun f eC=>match f with
    | .next | .cont=>codeAny (model g.prog g.w) A (.forLoop target it body [] env) R eC
    | .brk=>R (.ok .next) eC
    | .ret v=>R (.ok (.ret v)) eC) (notedBy (model g.prog g.w) A env fun e s'=>R (.error e) s') cA) (notedBy (model g.prog g.w) A env fun e s'=>R (.error e) s') aJ)
   (notedBy (model g.prog g.w) A env fun e s'=>R (.error e) s') CA) (notedBy (model g.prog g.w) A env fun e s'=>R (.error e) s') s):
 codeAny (model g.prog g.w) A (.forLoop target it body [] env) R s:=by
 refine codeAny_of_tree ?_
 show wpAny _ A ((forTurn target it body [] env).onRaise (fun x=>do noteFrame x env;theTreesLotGoes x)) _ _ s
 refine wpAny_noted ?_
 simp only[forTurn]
 refine wpAny_bind (wpAny_standAt (wpAny_bind (wpAny_onRaise (wpAny_mono h (fun r CA KB=>?_) fun u0 u0 h'=>wpAny_standAt h'))))
 induction r using Option.casesOn with
 | none=>exact wpAny_pure ⟨rfl,codeAny_block (by rw[execs_nil];exact wpAny_pure KB)⟩
 | some v=>
   refine wpAny_bind (wpAny_mono KB (fun u0 aJ jd=>?_) fun u0 u0 h'=>h')
   refine wpAny_bind (wpAny_mono jd (fun u0 cA ZD=>wpAny_bind (wpAny_mono ZD (fun f eC KC=>?_) fun u0 u0 h'=>h')) fun u0 u0 h'=>h')
   induction f using PySem.Flow.casesOn with
   | next=>exact wpAny_pure ⟨rfl,KC⟩
   | cont=>exact wpAny_pure ⟨rfl,KC⟩
   | brk=>exact wpAny_pure KC
   | ret v=>exact wpAny_pure KC
noncomputable def aa(n:String):Bool:=n=="list_iterator"||n=="tuple_iterator"||n=="range_iterator"||n=="dict_keyiterator"||n=="enumerate"
noncomputable def PF:Value->Bool
 | .type n=>aa n
 | _=>false
noncomputable def yO(h:Heap)(Y:List Addr):Prop:=∀y∈Y,∃o,h.get? y=some o/\PF o.cls=true
noncomputable def tM(Y:List Addr)(h h':Heap):Prop:=∀b o,b∉Y->h.get? b=some o->h'.get? b=some o
theorem tM.refl(Y:List Addr)(h:Heap):tM Y h h:=fun u0 u0 u0 e=>e
theorem tM.trans{Y:List Addr}{a b c:Heap}(x:tM Y a b)(y:tM Y b c):tM Y a c:=fun q o n e=>y q o n (x q o n e)
theorem xK{v:Value}(h:PF v=true):bG v=false/\v≠ .type "tuple"/\v≠ .type "frame"/\v≠ .type "traceback"/\v≠ .type "cell"/\v≠ .type "dict":=by
 induction v using Value.casesOn <;>first | exact Bool.noConfusion (show false=true from h) | skip
 have h:aa _=true:=h
 simp only[aa,Bool.or_eq_true,beq_iff_eq]at h
 rcases h with(((rfl | rfl) | rfl) | rfl) | rfl <;>refine⟨rfl,?_,?_,?_,?_,?_⟩ <;>decide
variable{Y:List Addr}
theorem yO.ne(H:yO s.heap Y){b:Addr}{o:Obj}(e:s.heap.get? b=some o)(n:PF o.cls=false):b∉Y:=fun m=>by
 obtain⟨o',e',q⟩:=H b m
 rw[e]at e';cases e';rw[n]at q;cases q
theorem yO.notin(S:St g s U J)(H:yO s.heap Y):∀y∈Y,y∉U:=fun y m=>by
 obtain⟨o,e,q⟩:=H y m
 exact S.notin e (xK q).1
theorem yO.noEnv(F:Fm g nm s U env Z)(H:yO s.heap Y):∀y∈Y,y∉OC env:=fun y m k=>by
 obtain⟨o,e,q⟩:=H y m
 obtain⟨_,_,h1,_,h2,h3⟩:=xK q
 rcases List.mem_cons.mp k with rfl | k
 ·obtain⟨o',e',c,_⟩:=F.lcls
  rw[e]at e';cases e'
  rcases c with c | c
  ·exact h1 c
  ·exact h3 c
 ·obtain⟨o',v,e',c,_⟩:=F.ccls y k
  rw[e]at e';cases e';exact h2 c
theorem yO.kept{h':Heap}{rA:List Addr}(S:St g s U J)(F:Fm g nm s U env Z)(H:yO s.heap Y)(T:NA s.heap h' U rA (OC env)):∀y o,y∈Y->s.heap.get? y=some o->h'.get? y=some o:=fun y o m e=>by
 obtain⟨o',e',q⟩:=H y m
 rw[e]at e';cases e'
 obtain⟨_,_,h1,h2,_,_⟩:=xK q
 obtain⟨o',e',k⟩:=T.keep y o e (yO.notin S H y m) (yO.noEnv F H y m)
 rw[k.eq h1 h2]at e';exact e'
theorem nE{o:Obj}{v:Value}(h:o.cls=v)(q:PF v=false):PF o.cls=false:=by rw[h];exact q
theorem PY{v:Value}(h:bG v=true):PF v=false:=by
 induction e:PF v using Bool.casesOn with
 | false=>rfl
 | true=>rw[(xK e).1]at h;cases h
theorem IsTup.but{h':Heap}(H:yO s.heap Y)(B:tM Y s.heap h'){a:Addr}{os:Array Value}(t:IsTup s.heap a os):IsTup h' a os:=by
 obtain⟨o,e,c,r⟩:=t
 exact⟨o,B a o (H.ne e (nE c rfl)) e,c,r⟩
theorem St.but(S:St g s U J)(H:yO s.heap Y)(hY:∀y∈Y,g.bA.get? y=none){h':Heap}(B:tM Y s.heap h')(t:Nat):St g {s with heap:=h',toks:=t} U J:=
 S.quiet (fun b o e e'=>B b o (fun m=>by rw[hY b m]at e;cases e) e') (fun b m=>by obtain⟨o,e,c⟩:=S.at m;exact(B b o (H.ne e (PY c)) e).trans e.symm)
   (fun a os t=>IsTup.but H B t) (fun b o e t=>⟨o,B b o (H.ne e (nE t.1 rfl)) e,t⟩) rfl rfl
theorem VA.but{h':Heap}(H:yO s.heap Y)(B:tM Y s.heap h'){v:V}{x:Value}(r:VA g s.heap U v x):VA g h' U v x:=
 VA.congr (fun u0 u0 t=>IsTup.but H B t) (fun u0 u0 e=>e) v x r
theorem NA.but{rA X:List Addr}{hs h':Heap}(T:NA hs s.heap U rA X)(hY:∀y∈Y,hs.get? y=none)(B:tM Y s.heap h'):NA hs h' U rA X:=by
 have out:∀b o,hs.get? b=some o->b∉Y:=fun b o e m=>by rw[hY b m]at e;cases e
 refine⟨T.pre,fun b o e n1 n2=>?_,fun b o e n1=>?_,fun b o e=>?_,fun a q=>?_⟩
 ·obtain⟨o',e',k⟩:=T.keep b o e n1 n2
  exact⟨o',B b o' (out b o e) e',k⟩
 ·obtain⟨o',e',k⟩:=T.shape b o e n1
  exact⟨o',B b o' (out b o e) e',k⟩
 ·obtain⟨o',e'⟩:=T.alive b o e
  exact⟨o',B b o' (out b o e) e'⟩
 ·obtain⟨o',_,_,_,e',_⟩:=id q
  obtain⟨x,vs,tb,c,e,r,u,v⟩:=T.tbs a q
  exact⟨x,vs,tb,c,B a x (out a o' e') e,r,u,v⟩
theorem Fm.but(F:Fm g nm s U env Z)(H:yO s.heap Y){h':Heap}(B:tM Y s.heap h')(t:Nat):Fm g nm {s with heap:=h',toks:=t} U env Z:=by
 refine⟨F.kind,F.glob,F.blt,F.frame,F.nodup,F.len,F.above,F.out,?_,fun c hc=>?_,F.once,?_⟩
 ·obtain⟨o,e,c,hd⟩:=F.lcls
  refine⟨o,B _ o (H.ne e ?_) e,c,hd⟩
  rcases c with c | c <;>exact nE c rfl
 ·obtain⟨o,v,e,c1,hd⟩:=F.ccls c hc
  exact⟨o,v,B _ o (H.ne e (nE c1 rfl)) e,c1,hd⟩
 ·obtain⟨m,⟨o,es,ep,e,hd,hk⟩,hv⟩:=F.vars
  refine⟨m,⟨o,es,ep,B _ o (H.ne e ?_) e,hd,hk⟩,fun i x v hx hs=>?_⟩
  ·obtain⟨o',e',c,_⟩:=F.lcls
   rw[e]at e';cases e'
   rcases c with c | c <;>exact nE c rfl
  ·obtain⟨w,hw,r⟩:=hv i x v hx hs
   refine⟨w,?_,r.but H B⟩
   rcases hw with q | ⟨k,c,hc,o',e',q⟩
   ·exact .inl q
   ·obtain⟨Ab,Ch,yI,KO,_⟩:=F.ccls c (XC hc)
    rw[e']at yI;cases yI
    exact .inr ⟨k,c,hc,o',B _ o' (H.ne e' (nE KO rfl)) e',q⟩
end
section
variable{g:G}{s:Shared}{U:List Addr}{J:List O}{A:Around}{d:Nat}{hd:Option Nat}{env:Env}{c:CC}{Z:List (Option V)}{M:Model}{E:Value->Shared->Prop}
theorem nL{i:Nat}{id:Str}(X:Gd g c env)(h:c.isLoc i id=true):c.nm[i]?=some id.cps.toList/\(env.kindOf id=some .local\/env.kindOf id=some .cell/\∃a,env.cells.lookup id=some a):=by
 unfold CC.isLoc at h
 simp only[Bool.and_eq_true,beq_iff_eq]at h
 refine⟨h.1.1,?_⟩
 have hk:env.kindOf id=c.sc.names.lookup id:=by unfold Env.kindOf;rw[X.names]
 rw[hk]
 exact(sP h.2).imp (fun e=>e) fun e=>⟨e,X.cells _ (by rw[X.names];exact e)⟩
theorem SI{i:Nat}{id:Str}(X:Gd g c env)(h:c.isLocal i id=true):c.nm[i]?=some id.cps.toList/\env.kindOf id=some .local:=by
 unfold CC.isLocal at h
 simp only[Bool.and_eq_true,beq_iff_eq]at h
 refine⟨h.1.1,?_⟩
 have hk:env.kindOf id=c.sc.names.lookup id:=by unfold Env.kindOf;rw[X.names]
 exact hk.trans h.2
theorem ZC{i:Nat}{id:Str}(h:c.isLocal i id=true):c.isLoc i id=true:=by
 unfold CC.isLocal at h
 unfold CC.isLoc
 simp only[Bool.and_eq_true,beq_iff_eq]at h ⊢
 exact⟨h.1,by rw[h.2];rfl⟩
theorem UO(t:Expr):RD (AN t) fun id=>∃p,t= .Name id p:=by
 induction t using Expr.casesOn with
 | Name id p=>exact⟨_,rfl⟩
 | _=>trivial
theorem RD.get{α:Type}{o:Option α}{P:α->Prop}{a:α}(h:RD o P)(e:o=some a):P a:=by subst e;exact h
inductive Qc(p:Nat->Str->Bool)(i:Nat)(is:List Nat)(ts:List Expr):Prop
 | mk (id:Str) (pos:Pos) (r:List Expr) (e:ts= .Name id pos::r) (h:p i id=true) (q:YG p is r=true)
theorem PB{p:Nat->Str->Bool}{i:Nat}{is:List Nat}{ts:List Expr}(h:YG p (i::is) ts=true):Qc p i is ts:=by
 rcases ts with _ | ⟨t,r⟩
 ·exact Bool.noConfusion h
 ·have h:(match AN t with | some id=>p i id&&YG p is r | none=>false)=true:=h
  rcases e:AN t with _ | id
  ·rw[e]at h;exact Bool.noConfusion h
  ·rw[e]at h
   obtain⟨q,rfl⟩:=(UO t).get e
   exact⟨id,q,r,rfl,(Bool.and_eq_true_iff.mp h).1,(Bool.and_eq_true_iff.mp h).2⟩
theorem pC{p:Nat->Str->Bool}{ts:List Expr}(h:YG p [] ts=true):ts=[]:=List.isEmpty_iff.mp h
theorem XH:∀(is:List Nat) {ts:List Expr},pB c is ts=true->zF c is ts=true
 | [],_,h=>h
 | i::is,ts,h=>by
   obtain⟨id,p,r,rfl,h1,h2⟩:=PB h
   exact Bool.and_eq_true_iff.mpr ⟨ZC h1,XH is h2⟩
theorem fH(X:Gd g c env)(S:St g s U J)(F:Fm g c.nm s U env Z){i:Nat}{id:Str}(h:c.isLoc i id=true){v:V}{w:Value}(r:VA g s.heap U v w){Q:Unit->Shared->Prop}
 (k:∀h' t,St g {s with heap:=h',toks:=t} U J->Fm g c.nm {s with heap:=h',toks:=t} U env (Z.set i (some v))->NA s.heap h' U U (OC env)->Q () {s with heap:=h',toks:=t}):
 wpAny M A (storeName env id w) Q E s:=
 cK S F (nL X h).1 (by simp) (nL X h).2 r k
theorem wV(X:Gd g c env):∀(is:List Nat) {ts:List Expr} {vs:List V} {xs:List Value} {Z:List (Option V)} {s:Shared},zF c is ts=true->vs.length=is.length->St g s U J->Fm g c.nm s U env Z->PA g s.heap U vs xs->
 ∀{Q:Unit->Shared->Prop},(∀h' t,St g {s with heap:=h',toks:=t} U J->Fm g c.nm {s with heap:=h',toks:=t} U env (IC Z is vs)->NA s.heap h' U U (OC env)->Q () {s with heap:=h',toks:=t})->
 wpAny M A (assignInOrder ((assignEach ts env).map (·.2)) xs) Q E s:=by
 intro is
 induction is with
 | nil=>
   intro ts vs xs Z s h hl S F rr Q k
   rw[pC h]
   induction vs using List.casesOn with
   | cons _ _=>simp at hl
   | nil=>exact wpAny_pure (k s.heap s.toks S F (.refl ..))
 | cons i is ih=>
   intro ts vs xs Z s h hl S F rr Q k
   obtain⟨id,pos,r,rfl,h1,h2⟩:=PB h
   induction vs using List.casesOn with
   | nil=>simp at hl
   | cons v vs=>
     induction xs using List.casesOn with
     | nil=>exact rr.elim
     | cons x xs=>
       show wpAny M A (do holding xs (assign (.Name id pos) env x);assignInOrder ((assignEach r env).map (·.2)) xs) Q E s
       refine wpAny_bind (wpAny_holding (wpAny_assign_Name (fH X S F h1 rr.1 fun h' t S' F' T=>?_)))
       exact ih h2 (by simpa using hl) S' F' (rr.2.step S T F.noTup) fun h'' t' S'' F'' T'=>k h'' t' S'' F'' (T.trans T')
theorem cB{h h':Heap}(x:Heap.ExtBut h.objs.size h h'):∀b o,h.get? b=some o->h'.get? b=some o:=fun b o e=>
 x b o (Nat.ne_of_lt (Heap.lt_size e)) e
theorem jG(S:St g s U J)(hh:A.handled=none){n:Nat}{v:V}{vs:List V}{x:Value}(h:tG J n v=some vs)(r:VA g s.heap U v x){Q:List Value->Shared->Prop}
 (hq:∀h' xs,St g {s with heap:=h'} U J->NA s.heap h' U U []->PA g h' U vs xs->vs.length=n->(∀b o,s.heap.get? b=some o->h'.get? b=some o)->Q xs {s with heap:=h'}):wpAny (model g.prog g.w) A (unpackItems x n none) Q E s:=by
 induction v using V.casesOn with
 | tup ws=>
   have h:(if ws.length=n then some ws else none)=some vs:=h
   set_option tactic.hygienic true in split at h
   ·rename_i hl
    cases h
    obtain⟨a,os,rfl,t,z,r⟩:=r
    have hz:os.size=n:=by have:=r.len;simpa[hl]using this
    subst hz
    obtain⟨o,e,c1,m,dd⟩:=t
    refine wpAny_unpackItems_tuple hh ⟨o,e,c1,m,dd⟩ fun h' x=>?_
    have T:=NA.ext U (cB x) []
    exact hq h' _ (S.ext (cB x) s.toks) T (r.step0 S T) hl (cB x)
   ·cases h
 | loc l=>
   obtain⟨a,ha,rfl⟩:=r
   obtain⟨ws,hl,h⟩:=Option.bind_eq_some_iff.mp (h)
   ·set_option tactic.hygienic true in split at h
    ·rename_i hl'
     cases h
     obtain⟨a',os,m,ha',e,z,r⟩:=S.list hl
     rw[ha]at ha';cases ha'
     have hz:os.size=n:=by have:=r.len;simpa[hl']using this
     subst hz
     refine kun_itemsOf hh (OD e) fun h' x=>?_
     have T:=NA.ext U (cB x) []
     exact hq h' _ (S.ext (cB x) s.toks) T (r.step0 S T) hl' (cB x)
    ·cases h
 | _=>exact BF h
theorem xL(env:Env):∀(is:List Nat) {ts:List Expr},zF c is ts=true->(assignEach ts env).length=is.length/\(assignEach ts env).findIdx? (·.1)=none:=by
 intro is
 induction is with
 | nil=>intro ts h;rw[pC h];exact⟨rfl,rfl⟩
 | cons i is ih=>
   intro ts h
   obtain⟨id,pos,r,rfl,h1,h2⟩:=PB h
   obtain⟨h1,h2⟩:=ih h2
   have:assignEach (.Name id pos::r) env=(false,assign (.Name id pos) env)::assignEach r env:=rfl
   rw[this]
   refine⟨by simp[h1],?_⟩
   simp[List.findIdx?_cons,h2]
theorem vS(X:Gd g c env)(S:St g s U J)(F:Fm g c.nm s U env Z)(hh:A.handled=none){is:List Nat}{ts:List Expr}{x1:Nat}{pos:Pos}{v:V}{vs:List V}{x:Value}(hn:zF c is ts=true)(h:tG J is.length v=some vs)(r:VA g s.heap U v x){Q:Unit->Shared->Prop}
 (k:∀h' t,St g {s with heap:=h',toks:=t} U J->Fm g c.nm {s with heap:=h',toks:=t} U env (IC Z is vs)->NA s.heap h' U U (OC env)->Q () {s with heap:=h',toks:=t}):
 wpAny (model g.prog g.w) A (assign (.Tuple ts x1 pos) env x) Q E s:=by
 obtain⟨n1,n2⟩:=xL env is hn
 rw[assign_Tuple]
 refine wpAny_bind (wpAny_standAt ?_)
 unfold unpack
 rw[n1,n2]
 refine wpAny_bind (wpAny_holding (jG S hh h r fun h' xs S' T rr hl u0=>?_))
 exact wV X is hn hl S' (F.step S T) rr fun h'' t S'' F'' T'=>k h'' t S'' F'' (T.x.trans T')
end
section
set_option backward.match.sparseCases true
section
variable{g:G}{s:Shared}{U:List Addr}{J:List O}{A:Around}{d:Nat}{hd:Option Nat}{env:Env}{c:CC}{Z:List (Option V)}{M:Model}{E:Value->Shared->Prop}
theorem RK{a:Addr}{Cl:Addr}{dx:Option Addr}{vs:Array Value}(ho:s.heap.get? a=some {cls:= .ref Cl,dict:=dx,data:= .fields vs}){Q:Bool->Shared->Prop}(h:Q false s):wpAny M A (isType (.ref a)) Q E s:=by
 exact wpAny_bind (wpAny_loadPart ho (wpAny_pure h))
theorem OW(Y:xC g)(C:Cx g A s U d hd)(S:St g s U J){l:Nat}{a Cl:Addr}{dl:Nat}(he:J[l]?=some (.exc Cl dl))(ha:U[l]?=some a)(hh:hd=none\/hd=some l){x:Sem Value}{Q:Flow->Shared->Prop}{ZB:Shared}
 (hx:∀R:Value->Shared->Prop,R (.ref a) s->wpAny (model g.prog g.w) A x R E ZB)
 (h:∀h',St g {s with heap:=h'} U J->NA s.heap h' U U []->E (.ref a) {s with heap:=h'}):
 wpAny (model g.prog g.w) A (raiseStmt env (some x) none) Q E ZB:=by
 obtain⟨_,dx,vs,hdx,ho,T⟩:=S.exc he ha
 obtain⟨e1,_,e2,e3⟩:=Y.exc Cl (S.xc he ha)
 have K:g.K.In s.heap:=Y.K.keeps S.base
 refine wpAny_bind (hx _ ?_)
 refine wpAny_bind (wpAny_pure ?_)
 refine wpAny_bind (wpAny_holding ?_)
 refine wpAny_bind (wpAny_bind (RK ho ?_))
 rw[if_neg Bool.false_ne_true]
 refine wpAny_pure ?_
 rw[if_neg Bool.false_ne_true]
 refine wpAny_bind ?_
 refine wpAny_bind (wpAny_typeOf_ref ho ((looks_subIn K e1).here ?_))
 rw[if_pos rfl]
 refine wpAny_pure ?_
 refine wpAny_bind (RK ho ?_)
 rw[if_neg Bool.false_ne_true]
 refine wpAny_bind ?_
 refine wpAny_bind (wpAny_typeOf_ref ho (wpAny_bind ((looks_typeIn K e2).here ?_)))
 rw[if_pos (by simp)]
 refine wpAny_pure ?_
 refine wpAny_bind (sD S he ha none fun h' S' T' tb=>?_)
 have hE:=h h' S' T'
 refine wpAny_bind (wpAny_handled ?_)
 have hc:=C.hand
 rcases hh with rfl | rfl
 ·rw[hc]
  exact wpAny_bind (wpAny_pure (wpAny_throw hE))
 ·obtain⟨a',q,r⟩:=hc
  rw[ha]at q;cases q
  rw[r]
  dsimp only
  rw[if_neg (by simp)]
  exact wpAny_bind (wpAny_pure (wpAny_throw hE))
theorem ba(Y:xC g)(S:St g s U J){l:Nat}{a Cl:Addr}{dl:Nat}(he:J[l]?=some (.exc Cl dl))(ha:U[l]?=some a){Q:Bool->Shared->Prop}(h:Q true s):wpAny M A (excMatches (.ref a) (.ref Cl)) Q E s:=by
 obtain⟨_,dx,vs,hdx,ho,T⟩:=S.exc he ha
 obtain⟨e1,_,e2,e3⟩:=Y.exc Cl (S.xc he ha)
 have K:g.K.In s.heap:=Y.K.keeps S.base
 exact(exm_one K (fun A Q E s' k q=>wpAny_typeOf_ref (k _ _ ho) q) e3).here h
theorem XG:∀(is:List Nat) {ts:List Expr},pB c is ts=true->ts.length=is.length/\(YE ts).length=is.length:=by
 intro is
 induction is with
 | nil=>intro ts h;rw[pC h];exact⟨rfl,rfl⟩
 | cons i is ih=>
   intro ts h
   obtain⟨id,pos,r,rfl,h1,h2⟩:=PB h
   obtain⟨h3,h4⟩:=ih h2
   exact⟨by simp[h3],by rw[show YE (.Name id pos::r)=id::YE r from rfl];simp[h4]⟩
noncomputable def wL(env:Env)(line:Nat):Expr->Option Str
 | .Name id pos=>if env.kindOf id==some .local&&pos.line==line then some id else none
 | _=>none
theorem BR(X:Gd g c env)(line:Nat):∀(is:List Nat) {ts:List Expr},pB c is ts=true->(ts.all fun t=>line==t.pos.line)=true->ts.filterMap (wL env line)=YE ts:=by
 intro is
 induction is with
 | nil=>intro ts h _;rw[pC h];rfl
 | cons i is ih=>
   intro ts h hl
   obtain⟨id,pos,r,rfl,h1,h2⟩:=PB h
   simp only[List.all_cons,Bool.and_eq_true,beq_iff_eq]at hl
   have h3:=ih h2 hl.2
   have hk:=(SI X h1).2
   have hp:pos.line=line:=hl.1.symm
   have:YE (.Name id pos::r)=id::YE r:=rfl
   rw[this,List.filterMap_cons,h3]
   rw[show wL env line (.Name id pos)=if env.kindOf id==some .local&&pos.line==line then some id else none from rfl,hk,hp]
   simp
theorem ZJ(env:Env)(ts vs:List Expr)(k k':Nat)(p p':Pos):swappedStores [.Tuple ts k p] (.Tuple vs k' p') env=
 (if !(ts.length==2||ts.length==3)||vs.length !=ts.length||env.blockKind != .function then pure none else
  if vs.any gC then pure none else
  if(ts.filterMap (wL env ((ts.head?.map (·.pos.line)).getD 0))).length !=ts.length||(ts.filterMap (wL env ((ts.head?.map (·.pos.line)).getD 0))).eraseDups.length !=(ts.filterMap (wL env ((ts.head?.map (·.pos.line)).getD 0))).length then pure none else
  if vs.all (foldedForSure 8)then pure none else
  if vs.all (constantsAlone 8)then(unsupported "assign.tuple-of-constant-expressions:order-of-the-stores":Sem Unit) >>= fun u0=>pure (some (ts.filterMap (wL env ((ts.head?.map (·.pos.line)).getD 0))))else
  pure (some (ts.filterMap (wL env ((ts.head?.map (·.pos.line)).getD 0))))):=by rfl
theorem WR(X:Gd g c env)(hF:env.scope.kind= .function){is:List Nat}{ts vs:List Expr}{k k':Nat}{p p':Pos}(hn:pB c is ts=true)(hs:YM ts vs=true):
 swappedStores [.Tuple ts k p] (.Tuple vs k' p') env=pure (some (YE ts)):=by
 unfold YM at hs
 simp only[Bool.and_eq_true,Bool.not_eq_true',Bool.or_eq_true,beq_iff_eq]at hs
 obtain⟨⟨⟨⟨⟨⟨h1,h2⟩,h3⟩,h4⟩,h5⟩,h6⟩,h7⟩:=hs
 have hb:env.blockKind= .function:=by unfold Env.blockKind;rw[hF];rfl
 have hl:=XG is hn
 have hif:(!(ts.length==2||ts.length==3)||vs.length !=ts.length||env.blockKind != .function)=false:=by
  rw[hb,h3];rcases h2 with h2 | h2 <;>rw[h2] <;>rfl
 have hids:=BR X _ is hn h4
 rw[ZJ,hids,hif,h5,h6,h7]
 have:((YE ts).length !=ts.length||(YE ts).eraseDups.length !=(YE ts).length)=false:=by
  rw[h1,hl.2,hl.1];simp
 rw[this]
 rfl
theorem XZ{M:Model}(X:Gd g c env)(S:St g s U J)(F:Fm g c.nm s U env Z){i j:Nat}{a b:Str}{v w:V}{x y:Value}(a1:c.isLocal i a=true)(b1:c.isLocal j b=true)(hij:i≠j)(r1:VA g s.heap U v x)(r2:VA g s.heap U w y){Q:Unit->Shared->Prop}
 (k:∀h' t,St g {s with heap:=h',toks:=t} U J->Fm g c.nm {s with heap:=h',toks:=t} U env ((Z.set i (some v)).set j (some w))->NA s.heap h' U U (OC env)->Q () {s with heap:=h',toks:=t}):
 wpAny M A (do holding [x] (bindName env b y);holding [] (bindName env a x);pure ()) Q E s:=by
 refine wpAny_bind (wpAny_holding (wpAny_bindName (fH X S F (ZC b1) r2 fun KB gY DA mA HA=>?_)))
 refine wpAny_bind (wpAny_holding (wpAny_bindName (fH X DA mA (ZC a1) (r1.step S HA F.noTup) fun ZD EN eA UC nA=>wpAny_pure ?_)))
 exact k ZD EN eA (by rw[List.set_comm _ _ hij];exact UC) (HA.trans nA)
theorem ee{M:Model}(X:Gd g c env)(S:St g s U J)(F:Fm g c.nm s U env Z){i j l:Nat}{a b e:Str}{v w u:V}{x y z:Value}(a1:c.isLocal i a=true)(b1:c.isLocal j b=true)(e1:c.isLocal l e=true)(hij:i≠j/\i≠l/\j≠l)(r1:VA g s.heap U v x)(r2:VA g s.heap U w y)(r3:VA g s.heap U u z){Q:Unit->Shared->Prop}
 (k:∀h' t,St g {s with heap:=h',toks:=t} U J->Fm g c.nm {s with heap:=h',toks:=t} U env (((Z.set i (some v)).set j (some w)).set l (some u))->NA s.heap h' U U (OC env)->Q () {s with heap:=h',toks:=t}):
 wpAny M A (do holding [y,x] (bindName env e z);holding [x] (bindName env b y);holding [] (bindName env a x);pure ()) Q E s:=by
 refine wpAny_bind (wpAny_holding (wpAny_bindName (fH X S F (ZC e1) r3 fun KB gY DA mA HA=>?_)))
 refine XZ X DA mA a1 b1 hij.1 (r1.step S HA F.noTup) (r2.step S HA F.noTup) fun ZD EN eA UC nA=>k ZD EN eA ?_ (HA.trans nA)
 rw[List.set_comm _ _ hij.2.2,List.set_comm _ _ hij.2.1];exact UC
theorem de{M:Model}(X:Gd g c env)(S:St g s U J)(F:Fm g c.nm s U env Z){is:List Nat}{ts:List Expr}{vs:List V}{xs:List Value}(hn:pB c is ts=true)(hnd:is.Nodup)(h23:ts.length=2\/ts.length=3)(hl:vs.length=is.length)(rr:PA g s.heap U vs xs){Q:Unit->Shared->Prop}
 (k:∀h' t,St g {s with heap:=h',toks:=t} U J->Fm g c.nm {s with heap:=h',toks:=t} U env (IC Z is vs)->NA s.heap h' U U (OC env)->Q () {s with heap:=h',toks:=t}):
 wpAny M A (assignInOrder ((YE ts).reverse.map fun n=>bindName env n) xs.reverse) Q E s:=by
 obtain⟨q1,q2⟩:=XG is hn
 rcases is with _ | ⟨i,_ | ⟨j,_ | ⟨l,_ | ⟨m,is⟩⟩⟩⟩
 ·rw[q1]at h23;exact absurd h23 (by decide)
 ·rw[q1]at h23;exact absurd h23 (by simp)
 ·obtain⟨a,p1,r,rfl,a1,hn2⟩:=PB hn
  clear hn
  obtain⟨b,p2,r,rfl,b1,hn⟩:=PB hn2
  clear hn2
  cases pC hn
  rcases vs with _ | ⟨v,_ | ⟨w,_ | ⟨u,vs⟩⟩⟩
  ·exact absurd hl (by simp)
  ·exact absurd hl (by simp)
  ·obtain⟨x,y,rfl,r1,r2⟩:=rr.two
   have hij:i≠j:=fun e=>(List.nodup_cons.mp hnd).1 (by rw[e];exact .head _)
   exact XZ X S F a1 b1 hij r1 r2 k
  ·exact absurd hl (by simp)
 ·obtain⟨a,p1,r,rfl,a1,hn2⟩:=PB hn
  clear hn
  obtain⟨b,p2,r,rfl,b1,hn⟩:=PB hn2
  clear hn2
  obtain⟨e,p3,r,rfl,e1,hn2⟩:=PB hn
  clear hn
  cases pC hn2
  rcases vs with _ | ⟨v,_ | ⟨w,_ | ⟨u,_ | ⟨u2,vs⟩⟩⟩⟩
  ·exact absurd hl (by simp)
  ·exact absurd hl (by simp)
  ·exact absurd hl (by simp)
  ·rcases xs with _ | ⟨x,xs⟩
   ·exact rr.elim
   obtain⟨r1,rr⟩:=rr
   obtain⟨y,z,rfl,r2,r3⟩:=PA.two rr
   have hij:i≠j/\i≠l/\j≠l:=by
    have h1:=List.nodup_cons.mp hnd
    have h2:=List.nodup_cons.mp h1.2
    exact⟨fun e=>h1.1 (by rw[e];exact .head _),fun e=>h1.1 (by rw[e];exact .tail _ (.head _)),fun e=>h2.1 (by rw[e];exact .head _)⟩
   exact ee X S F a1 b1 e1 hij r1 r2 r3 k
  ·exact absurd hl (by simp)
 ·rw[q1]at h23;simp only[List.length_cons]at h23;lia
end
end
noncomputable def NF{α:Type}(K:α->List (Option V)->List O->Prop)(v:α)(Z:List (Option V))(J:List O):Prop:=¬K v Z J
noncomputable def SB(g:G)(A:Around)(d:Nat)(hd:Option Nat)(c:CC)(env:Env)(b:pE)(body:List Stmt):Prop:=
 ∀{Z:List (Option V)} {J:List O} {K:Fl->List (Option V)->List O->Prop} {E:Nat->List (Option V)->List O->Prop},¬dB g d hd b Z J K E->∀{s:Shared} {U:List Addr},Cx g A s U d hd->St g s U J->Fm g c.nm s U env Z->
  wpAny (model g.prog g.w) A (execs body env) (lD g c.nm env s.heap U (NF K)) (xB g c.nm env s.heap U (NF E)) s
noncomputable def SS(g:G)(A:Around)(d:Nat)(hd:Option Nat)(c:CC)(env:Env)(b:IS)(st:Stmt):Prop:=
 ∀{Z:List (Option V)} {J:List O} {K:Fl->List (Option V)->List O->Prop} {E:Nat->List (Option V)->List O->Prop},¬dS g d hd b Z J K E->∀{s:Shared} {U:List Addr},Cx g A s U d hd->St g s U J->Fm g c.nm s U env Z->
  wpAny (model g.prog g.w) A (exec st env) (lD g c.nm env s.heap U (NF K)) (xB g c.nm env s.heap U (NF E)) s
noncomputable def Lf(g:G)(A:Around)(nm:List (List Nat))(env:Env)(target:Expr)(bind:List O->V->List (Option V)->Option (List (Option V))):Prop:=
 ∀{s:Shared} {U:List Addr} {J:List O} {Z gK:List (Option V)} {v:V} {x:Value},St g s U J->Fm g nm s U env Z->bind J v Z=some gK->VA g s.heap U v x->∀(Q:Unit->Shared->Prop) (E:Value->Shared->Prop),
  (∀h' t,St g {s with heap:=h',toks:=t} U J->Fm g nm {s with heap:=h',toks:=t} U env gK->NA s.heap h' U U (OC env)->Q () {s with heap:=h',toks:=t})->wpAny (model g.prog g.w) A (assign target env x) Q E s
structure wY(g:G)(A:Around)(target:Expr)(it:Value)(Y:List Addr)(It:Nat->Heap->List Addr->Prop)(item:Nat->List O->Option V->Prop):Prop where
 hid:∀k h U,It k h U->yO h Y
 frame:∀(k:Nat) (s:Shared) (U:List Addr) (J:List O) (s':Shared) (rA:List Addr) (nm:List (List Nat)) (env:Env) (Z:List (Option V)),It k s.heap U->St g s U J->Fm g nm s U env Z->NA s.heap s'.heap U rA (OC env)->It k s'.heap rA
 other:∀(k:Nat) (h h':Heap) (U:List Addr),It k h U->(∀y o,y∈Y->h.get? y=some o->h'.get? y=some o)->(∀a os,IsTup h a os->IsTup h' a os)->It k h' U
 next:∀(k:Nat) (s:Shared) (U:List Addr) (J:List O),St g s U J->It k s.heap U->∀r,item k J r->∀(N:Shared->Prop) (K:Value->Shared->Prop) (E:Value->Shared->Prop),
  (r=none->∀h' t,tM Y s.heap h'->N {s with heap:=h',toks:=t})->
  (∀v,r=some v->∀h' t x,tM Y s.heap h'->It (k+1) h' U->VA g h' U v x->K x {s with heap:=h',toks:=t})->
  wpAny (model g.prog g.w) A (pyNext it) (fun r CA=>match r with
   | none=>N CA
   | some x=>wpAny (model g.prog g.w) A (letOwnedTupleGo target it x) (fun u0 cA=>K x cA) E CA) E s
section
variable{g:G}{A:Around}{d:Nat}{hd:Option Nat}{env:Env}{c:CC}
theorem WG{outer:List Env}(hf:A.frames=some (env::outer)){ZB:Shared}{UA:List Addr}{BO:List O}(GL:Cx g A ZB UA d hd)(KI:St g ZB UA BO)
 {target:Expr} {it:Value} {Y:List Addr} {It:Nat->Heap->List Addr->Prop} {item:Nat->List O->Option V->Prop} (I:wY g A target it Y It item) (hY:∀y∈Y,ZB.heap.get? y=none/\g.bA.get? y=none)
 {body:List Stmt} {b:pE} (hb:SB g A d hd c env b body) {bind:List O->V->List (Option V)->Option (List (Option V))}
 (hbind:Lf g A c.nm env target bind)
 {K:Fl->List (Option V)->List O->Prop} {E:Nat->List (Option V)->List O->Prop} {vG:List (Option V)} {JA:List O}
 (H:∀P:Nat->List (Option V)->List O->Prop,(∀k Z J,(∃r,item k J r/\match r with
  | none=>¬K .next Z J
  | some v=>∃gK,bind J v Z=some gK/\¬dB g d hd b gK J (vI (fun Z J=>¬P (k+1) Z J) K) E)->P k Z J)->P 0 vG JA)
 {s:Shared} {U:List Addr} (S:St g s U JA) (F:Fm g c.nm s U env vG) (T:NA ZB.heap s.heap UA U (OC env)) (hIt:It 0 s.heap U):
 codeAny (model g.prog g.w) A (.forLoop target it body [] env) (fun r s'=>match r with | .ok f=>lD g c.nm env ZB.heap UA (NF K) f s' | .error e=>cameBackBy (model g.prog g.w) A env (xB g c.nm env ZB.heap UA (NF E)) e s') s:=by
 refine H (fun k Z J=>∀s U,St g s U J->Fm g c.nm s U env Z->NA ZB.heap s.heap UA U (OC env)->It k s.heap U->codeAny (model g.prog g.w) A (.forLoop target it body [] env)
  (fun r s'=>match r with | .ok f=>lD g c.nm env ZB.heap UA (NF K) f s' | .error e=>cameBackBy (model g.prog g.w) A env (xB g c.nm env ZB.heap UA (NF E)) e s') s) ?_ s U S F T hIt
 clear H S F T hIt s U
 rintro k Z J ⟨r,hr,hq⟩ s U S F T hIt
 refine PV ?_
 have hH:=I.hid _ _ _ hIt
 refine wpAny_mono (I.next k s U J S hIt r hr (lD g c.nm env ZB.heap UA (NF K) .next) (fun v aJ=>
  wpAny (model g.prog g.w) A (assign target env v) (fun u0 cA=>wpAny (model g.prog g.w) A (execs body env) (fun f eC=>match f with
   | .next | .cont=>codeAny (model g.prog g.w) A (.forLoop target it body [] env) (fun r s'=>match r with | .ok f=>lD g c.nm env ZB.heap UA (NF K) f s' | .error e=>cameBackBy (model g.prog g.w) A env (xB g c.nm env ZB.heap UA (NF E)) e s') eC
   | .brk=>lD g c.nm env ZB.heap UA (NF K) .next eC
   | .ret v=>lD g c.nm env ZB.heap UA (NF K) (.ret v) eC) (notedBy (model g.prog g.w) A env fun e s'=>cameBackBy (model g.prog g.w) A env (xB g c.nm env ZB.heap UA (NF E)) e s') cA) (notedBy (model g.prog g.w) A env fun e s'=>cameBackBy (model g.prog g.w) A env (xB g c.nm env ZB.heap UA (NF E)) e s') aJ)
  (notedBy (model g.prog g.w) A env fun e s'=>cameBackBy (model g.prog g.w) A env (xB g c.nm env ZB.heap UA (NF E)) e s') (fun e h' t B=>?_) (fun v e h' t x B hIt' rv=>?_)) (fun r CA p=>by induction r using Option.casesOn <;>exact p) fun u0 u0 e=>e
 ·subst e
  exact⟨.next,Z,J,U,hq,rfl,S.but hH (fun y m=>(hY y m).2) B t,F.but hH B t,T.but (fun y m=>(hY y m).1) B⟩
 ·subst e
  obtain⟨gK,hbd,hw⟩:=hq
  have DA:=S.but hH (fun y m=>(hY y m).2) B t
  have mA:=F.but hH B t
  have HA:=T.but (fun y m=>(hY y m).1) B
  refine hbind DA mA hbd rv _ _ fun ZD EN eA UC nA=>?_
  have T':=HA.trans nA
  have AR:=I.frame _ _ _ _ {s with heap:=ZD,toks:=EN} _ _ _ _ hIt' DA mA nA
  refine wpAny_mono (hb hw (GL.step KI T') eA UC) (fun f eC p=>?_) fun e eC p=>(p.from T').out GL KI hf
  obtain⟨fl,hZ,II,GF,q,rf,iB,HG,XB⟩:=p
  have MD:=T'.trans XB
  induction fl using Fl.casesOn with
  | next=>
    subst rf
    exact nn q eC GF iB HG MD (I.frame _ _ _ _ eC _ _ _ _ AR eA UC XB)
  | brk=>subst rf;exact⟨.next,hZ,II,GF,q,rfl,iB,HG,MD⟩
  | ret v=>obtain⟨x,rfl,r⟩:=rf;exact⟨.ret v,hZ,II,GF,q,⟨x,rfl,r⟩,iB,HG,MD⟩
variable{s:Shared}{U:List Addr}{J:List O}{E:Value->Shared->Prop}{M:Model}
theorem NJ{target:Expr}{y:Addr}{x:Value}{o:Obj}{Q:Unit->Shared->Prop}(ho:s.heap.get? y=some o){n:String}(hc:o.cls= .type n)(hn:(["enumerate","zip","dict_itemiterator","dict_reverseitemiterator","odict_iterator","itertools.zip_longest","itertools.pairwise"].contains n)=false)(h:Q () s):
 wpAny M A (letOwnedTupleGo target (.ref y) x) Q E s:=by
 obtain⟨oc,od,o3,o4⟩:=o
 subst hc
 induction target using Expr.casesOn <;>first
  | exact wpAny_pure h
  | (induction x using Value.casesOn <;>first
   | exact wpAny_pure h
   | (refine wpAny_bind (wpAny_load ho ?_)
      induction o3 using PySem.Data.casesOn <;>first
      | exact wpAny_pure h
      | (dsimp only;rw[hn,Bool.false_and,if_neg Bool.false_ne_true];exact wpAny_pure h)))
theorem DG{nm:List (List Nat)}{Z:List (Option V)}{s':Shared}{rA:List Addr}(S:St g s U J)(F:Fm g nm s U env Z)(T:NA s.heap s'.heap U rA (OC env)){y:Addr}{o:Obj}(ho:s.heap.get? y=some o)(hc:PF o.cls=true):s'.heap.get? y=some o:=
 yO.kept (Y:=[y]) S F (fun y' m=>by rw[List.mem_singleton.mp m];exact⟨o,ho,hc⟩) T y o (List.mem_singleton.mpr rfl) ho
theorem jC{y:Addr}{h h':Heap}(x:Heap.SameBut y h h'):tM [y] h h':=fun b o n e=>(x.2 b fun q=>n (by simp[q])).trans e
theorem MG{y:Addr}{h h':Heap}(x:Heap.ExtBut y h h'):tM [y] h h':=fun b o n e=>x b o (fun q=>n (by simp[q])) e
theorem sL(hh:A.handled=none){target:Expr}{y a:Addr}{l:Nat}:
 wY g A target (.ref y) [y] (fun k h U=>U[l]?=some a/\h.IsListIter y a k) (fun k J r=>∃vs,CB J l=some vs/\r=vs[k]?) where
 hid:=fun k h U ⟨_,o,e,c,_⟩ y' m=>by rw[List.mem_singleton.mp m];exact⟨o,e,by rw[c];rfl⟩
 frame:=fun k s U J s' rA nm env Z ⟨q,o,e,c,dd⟩ S F T=>⟨T.loc _ _ q,o,DG S F T e (by rw[c];rfl),c,dd⟩
 other:=fun k h h' U ⟨q,o,e,c,dd⟩ hy u0=>⟨q,o,hy _ _ (List.mem_singleton.mpr rfl) e,c,dd⟩
 next:=by
  rintro k s U J S ⟨ha,hit⟩ r ⟨vs,hl,rfl⟩ N K E h1 h2
  obtain⟨a',os,n,ha',ho,hz,rr⟩:=S.list hl
  rw[ha]at ha';cases ha'
  induction hk:vs[k]? using Option.casesOn with
  | none=>
    have:os[k]?=none:=by
     have:=rr.len
     rw[Array.length_toList]at this
     rw[Array.getElem?_eq_none];have:=List.getElem?_eq_none_iff.mp hk;lia
    exact wpAny_pyNext_list_end hh hit (OD ho) this fun h' x=>h1 hk h' s.toks (MG x)
  | some v=>
    obtain⟨x,hx,rv⟩:=rr.get hk
    have hx':os[k]?=some x:=by rw[<-Array.getElem?_toList];exact hx
    refine wpAny_pyNext_list_item hit (OD ho) hx' fun h' hit' hs=>?_
    obtain⟨o',e',c',d'⟩:=id hit'
    refine NJ e' c' (by decide) ?_
    have B:=jC hs
    obtain⟨o,e,c,dd⟩:=hit
    exact h2 v hk h' s.toks x B ⟨ha,hit'⟩ (rv.but (fun y' m=>by rw[List.mem_singleton.mp m];exact⟨o,e,by rw[c];rfl⟩) B)
theorem sJ(hh:A.handled=none){target:Expr}{y a:Addr}{vs:List V}{os:Array Value}:
 wY g A target (.ref y) [y] (fun k h U=>h.IsTupleIter y a k/\IsTup h a os/\PA g h U vs os.toList) (fun k J r=>r=vs[k]?) where
 hid:=fun k h U ⟨⟨o,e,c,_⟩,_⟩ y' m=>by rw[List.mem_singleton.mp m];exact⟨o,e,by rw[c];rfl⟩
 frame:=fun k s U J s' rA nm env Z ⟨⟨o,e,c,dd⟩,t,rr⟩ S F T=>⟨⟨o,DG S F T e (by rw[c];rfl),c,dd⟩,T.tup F.noTup S.ownAll t,rr.step S T F.noTup⟩
 other:=fun k h h' U ⟨⟨o,e,c,dd⟩,t,rr⟩ hy ht=>⟨⟨o,hy _ _ (List.mem_singleton.mpr rfl) e,c,dd⟩,ht _ _ t,PA.congr ht (fun u0 u0 e=>e) _ _ rr⟩
 next:=by
  rintro k s U J S ⟨hit,ht,rr⟩ r rfl N K E h1 h2
  have ht':s.heap.IsTuple a os:=by obtain⟨o,e,c,n,dd⟩:=ht;exact⟨o,e,c,n,dd⟩
  have H:yO s.heap [y]:=fun y' m=>by obtain⟨o,e,c,_⟩:=hit;rw[List.mem_singleton.mp m];exact⟨o,e,by rw[c];rfl⟩
  induction hk:vs[k]? using Option.casesOn with
  | none=>
    have:os[k]?=none:=by
     have:=rr.len
     rw[Array.length_toList]at this
     rw[Array.getElem?_eq_none];have:=List.getElem?_eq_none_iff.mp hk;lia
    exact wpAny_pyNext_tuple_end hh hit ht' this fun h' x=>h1 hk h' s.toks (MG x)
  | some v=>
    obtain⟨x,hx,rv⟩:=rr.get hk
    have hx':os[k]?=some x:=by rw[<-Array.getElem?_toList];exact hx
    refine wpAny_pyNext_tuple_item hit ht' hx' fun h' hit' hs=>?_
    obtain⟨o',e',c',d'⟩:=id hit'
    refine NJ e' c' (by decide) ?_
    have B:=jC hs
    exact h2 v hk h' s.toks x B ⟨hit',IsTup.but H B ht,PA.congr (fun u0 u0 t=>IsTup.but H B t) (fun u0 u0 e=>e) _ _ rr⟩ (rv.but H B)
theorem IM{lo hi:Int}:Builtin.Range.rangeSize lo hi 1=if lo < hi then hi - lo else 0:=by
 unfold Builtin.Range.rangeSize
 simp only[show(1:Int)>0 from by decide,if_true,Int.ediv_one]
 split
 ·lia
 ·rfl
theorem ZN(hh:A.handled=none){target:Expr}{y:Addr}{lo hi:Int}:
 wY g A target (.ref y) [y] (fun k h U=>IsRangeIter h y (lo+(k:Int)) (Builtin.Range.rangeSize lo hi 1 - (k:Int)) 1) (fun k J r=>r=if lo+(k:Int) < hi then some (.int (lo+(k:Int)))else none) where
 hid:=fun k h U e y' m=>by rw[List.mem_singleton.mp m];exact⟨_,e,rfl⟩
 frame:=fun k s U J s' rA nm env Z e S F T=>DG S F T e rfl
 other:=fun k h h' U e hy u0=>hy _ _ (List.mem_singleton.mpr rfl) e
 next:=by
  rintro k s U J S hit r rfl N K E h1 h2
  by_cases hk:lo+(k:Int) < hi
  ·have hl:Builtin.Range.rangeSize lo hi 1=hi - lo:=by rw[IM,if_pos (by lia)]
   refine wpAny_pyNext_range_item hit (by lia) fun h' hit' hs=>?_
   refine NJ (n:="range_iterator") hit' rfl (by decide) ?_
   refine h2 _ (if_pos hk) h' _ _ (jC hs) ?_ ⟨_,rfl⟩
   have e1:lo+((k+1:Nat):Int)=lo+(k:Int)+1:=by lia
   have e2:Builtin.Range.rangeSize lo hi 1 - ((k+1:Nat):Int)=Builtin.Range.rangeSize lo hi 1 - (k:Int) - 1:=by lia
   rw[e1,e2];exact hit'
  ·refine wpAny_pyNext_range_end hh hit ?_ fun h' x=>h1 (if_neg hk) h' s.toks (MG x)
   rw[IM]
   split <;>lia
theorem sB.get{h:Heap}:∀{kvs:List (List Nat×V)} {ps:List (Str×Value)},sB g h U kvs ps->∀{i:Nat} {kv},kvs[i]?=some kv->∃p,ps[i]?=some p/\Rc g h U kv p
 | [],[],_,i,v,e=>by simp at e
 | v::vs,x::xs,⟨a,b⟩,i,w,e=>by
   induction i using Nat.casesOn with
   | zero=>simp at e;subst e;exact⟨x,rfl,a⟩
   | succ i=>simpa using sB.get b (i:=i) (kv:=w) (by simpa using e)
 | [],_::_,r,_,_,_=>r.elim
 | _::_,[],r,_,_,_=>r.elim
theorem rP(hh:A.handled=none){target:Expr}{y a:Addr}{l:Nat}{kvs:List (List Nat×V)}{ep:Nat}:
 wY g A target (.ref y) [y] (fun k h U=>U[l]?=some a/\h.IsKeyIter y a k kvs.length ep) (fun k J r=>J[l]?=some (.dict kvs ep)/\r=kvs[k]?.map (fun kv=> .str kv.1)) where
 hid:=fun k h U ⟨_,o,e,c,_⟩ y' m=>by rw[List.mem_singleton.mp m];exact⟨o,e,by rw[c];rfl⟩
 frame:=fun k s U J s' rA nm env Z ⟨q,o,e,c,dd⟩ S F T=>⟨T.loc _ _ q,o,DG S F T e (by rw[c];rfl),c,dd⟩
 other:=fun k h h' U ⟨q,o,e,c,dd⟩ hy u0=>⟨q,o,hy _ _ (List.mem_singleton.mpr rfl) e,c,dd⟩
 next:=by
  rintro k s U J S ⟨ha,hit⟩ r ⟨hl,rfl⟩ N K E h1 h2
  obtain⟨ps,D,hz,rr⟩:=S.objs l a _ ha hl
  have hlen:=rr.len
  rw[<-hlen]at hit h2
  induction hk:kvs[k]? using Option.casesOn with
  | none=>
    have:ps[k]?=none:=by
     rw[List.getElem?_eq_none_iff]at hk ⊢;exact Nat.le_trans (eL hlen) hk
    exact wpAny_pyNext_dict_end hh hit D this fun h' x=>h1 (by rw[hk];rfl) h' s.toks (MG x)
  | some kv=>
    obtain⟨p,hx,⟨r1,r2,r3,r4⟩⟩:=rr.get hk
    obtain⟨p1,p2⟩:=p
    refine wpAny_pyNext_dict_item hit D hx fun key h' hkey hit' hs=>?_
    obtain⟨o',e',c',d'⟩:=id hit'
    refine NJ e' c' (by decide) ?_
    have B:=jC hs
    obtain⟨t,rfl⟩:=Value.isStrOf_shape hkey
    have r1':p1=⟨kv.1.toArray⟩:=r1
    subst r1'
    exact h2 (.str kv.1) (by rw[hk];rfl) h' s.toks _ B ⟨ha,hit'⟩ ⟨t,rfl,r2,r3⟩
theorem iV(hh:A.handled=none){elts:List Expr}{x1:Nat}{pos:Pos}{e y a:Addr}(hne:e≠y){l:Nat}:
 wY g A (.Tuple elts x1 pos) (.ref e) [e,y] (fun k h U=>U[l]?=some a/\h.IsListIter y a k/\∃old,IsEnum h e y (k:Int) old) (fun k J r=>∃vs,CB J l=some vs/\r=vs[k]?.map fun v=> .tup [.int (k:Int),v]) where
 hid:=fun k h U ⟨_,⟨o,q,c,_⟩,old,he⟩ y' m=>by
  rcases List.mem_cons.mp m with rfl | m
  ·exact⟨_,he,rfl⟩
  ·rw[List.mem_singleton.mp m];exact⟨o,q,by rw[c];rfl⟩
 frame:=fun k s U J s' rA nm env Z ⟨q,⟨o,e,c,dd⟩,old,he⟩ S F T=>⟨T.loc _ _ q,⟨o,DG S F T e (by rw[c];rfl),c,dd⟩,old,DG S F T he rfl⟩
 other:=fun k h h' U ⟨q,⟨o,e,c,dd⟩,old,he⟩ hy u0=>⟨q,⟨o,hy _ _ (by simp) e,c,dd⟩,old,hy _ _ (by simp) he⟩
 next:=by
  rintro k s U J S ⟨ha,hit,old,he⟩ r ⟨vs,hl,rfl⟩ N K E h1 h2
  obtain⟨a',os,n,ha',ho,hz,rr⟩:=S.list hl
  rw[ha]at ha';cases ha'
  induction hk:vs[k]? using Option.casesOn with
  | none=>
    have:os[k]?=none:=by
     have:=rr.len
     rw[Array.length_toList]at this
     rw[Array.getElem?_eq_none];have:=List.getElem?_eq_none_iff.mp hk;lia
    exact wpAny_pyNext_enum_end hh he hit (OD ho) this fun h' x=>h1 (by rw[hk];rfl) h' s.toks fun b o n e=>x b o (fun q=>n (by simp[q])) e
  | some v=>
    obtain⟨x,hx,rv⟩:=rr.get hk
    have hx':os[k]?=some x:=by rw[<-Array.getElem?_toList];exact hx
    refine wpAny_pyNext_enum_item he hit (OD ho) hx' hne fun h' he' hit' htup hsz hkeep=>?_
    refine wpAny_letOwnedTupleGo_enum he' fun h'' he'' hs=>?_
    have B:tM [e,y] s.heap h'':=fun b o n q=>(hs.2 b fun z=>n (by simp[z])).trans (hkeep b o (fun z=>n (by simp[z])) (fun z=>n (by simp[z])) q)
    have H:yO s.heap [e,y]:=fun y' m=>by
     rcases List.mem_cons.mp m with rfl | m
     ·exact⟨_,he,rfl⟩
     ·obtain⟨o,q,c,_⟩:=hit;rw[List.mem_singleton.mp m];exact⟨o,q,by rw[c];rfl⟩
    have hte:s.heap.objs.size≠e:=fun q=>by
     have:=Heap.lt_size he;rw[<-q]at this;exact Nat.lt_irrefl _ this
    refine h2 (.tup [.int (k:Int),v]) (by rw[hk];rfl) h'' _ _ B ⟨ha,?_,x,?_⟩ ⟨_, #[.int (k:Int) s.toks,x],rfl,⟨_,(hs.2 _ hte).trans htup,rfl,0,rfl⟩,by simp,⟨_,rfl⟩,rv.but H B,trivial⟩
    ·obtain⟨o,q,r⟩:=hit'
     exact⟨o,(hs.2 _ (Ne.symm hne)).trans q,r⟩
    ·exact he''
end
section
open Sem (wp)
inductive iR(g:G)(h:Heap)(U:List Addr)(Q:List O->Prop)(s':Shared):Prop
 | mk (LA:List O) (rA:List Addr) (q:Q LA) (S:St g s' rA LA) (T:NA h s'.heap U rA [])
section
variable{g:G}{A:Around}{d:Nat}{hd:Option Nat}{env:Env}{c:CC}{s:Shared}{U:List Addr}{J:List O}{Z:List (Option V)}{E:Value->Shared->Prop}
theorem NQ(self:Value):∀{l:List Value},TJ l=true->refuseLoop self "__setattr__" l=pure ():=by
 intro l
 induction l with
 | nil=>intro e;exact absurd e (by decide)
 | cons v r ih=>
   intro e
   have e:(match KM v with | some _=>TJ r | none=>iO (v::r))=true:=e
   rcases q:KM v with _ | c
   rotate_left
   ·rw[q]at e
    rw[LM q,refuseLoop_ref];exact ih e
   ·rw[q]at e
    have e':(v::r==[.type "object"]||v::r==[.type "Exception", .type "BaseException", .type "object"])=true:=e
    simp only[Bool.or_eq_true,beq_iff_eq]at e'
    rcases e' with e' | e'
    ·rw[e'];exact refuse_only self rfl
    ·rw[e'];exact PySem.F.store_Exception.passes self
theorem dK{prog:Program}{w:World}{K:Frag}{x C:Addr}{ox:Obj}{od:Option Obj}{n:List Nat}{v:Value}{Q:Unit->Shared->Prop}(X:K.In s.heap)(I:InstAt s.heap x ox C od)(hs:YK K C n=true)
 (h:∀cd b,clsIn K C=some cd->cd.hasDict=true->wpAny (model prog w) A.in1 (PySem.Builtin.ObjectAttr.storeInOwnDict (.ref x) (.ref C) (.str ⟨n.toArray⟩ s.toks) ⟨n.toArray⟩ v b) (fun fin s'=>match fin with | .done (.ret _)=>Q () s' | _=>False) E {s with toks:=s.toks+1}):
 wpAny (model prog w) A (setAttr (.ref x) ⟨n.toArray⟩ v) Q E s:=by
 unfold YK at hs
 simp only[Bool.and_eq_true,beq_iff_eq]at hs
 obtain⟨⟨⟨⟨s1,s2⟩,s3⟩,s4⟩,s5⟩:=hs
 refine set_plain X I s1 ?_
 have SF:=PySem.F.store_object
 obtain⟨cd,hc,ho⟩:=any_some s2
 obtain⟨cd',hc',hh⟩:=IN s5
 rw[hc]at hc';cases hc'
 obtain⟨hp,gg,dr,tk,oo⟩:=s
 have sub:Looks (model prog w) hp (isInstance (.ref x) (.type "object")) true:=(I.type (M:=model prog w)).andThen (looks_subIn X s3)
 refine codeAny_call_builtin SF.slot.plain SF.entry (@check_slot (model prog w) _ _ ⟨hp,gg,dr,tk+1,oo⟩ "object.__setattr__" "object" "__setattr__" (.ref x) [.str ⟨n.toArray⟩ tk,v] [] _ SF.kind SF.split sub (SF.args (.ref x) (.str ⟨n.toArray⟩ tk) v) ?_)
 obtain⟨attr,ha,hr⟩:=Option.bind_eq_some_iff.mp s4
 have hm:Looks (model prog w) hp (mroOf (.ref C)) cd.mro:=(looks_clsIn X hc).andThen .now
 have L3:Looks (model prog w) hp (PySem.Builtin.ObjectAttr.storeTaker? attr) none:=by
  induction attr using Option.casesOn with
  | none=>exact .now
  | some a=>
    obtain⟨b,hb,hr'⟩:=Option.map_eq_some_iff.mp hr
    refine(looks_takesIn X hb).andThen ?_
    cases b
    ·exact .now
    ·cases hr'
 rw[osa_eq,refuse_eq]
 refine wpAny_bind (wpAny_bind ((I.type (M:=model prog w)).at (wpAny_bind (hm.at ?_))))
 rw[NQ _ ho]
 refine wpAny_pure (wpAny_bind ((I.type (M:=model prog w)).at (wpAny_bind ((looks_findIn (M:=model prog w) X ha).at (wpAny_bind (L3.at ?_))))))
 refine wpAny_mono (h cd _ hc hh) (fun fin s' p=>?_) fun u0 u0 e=>e
 rcases fin with(_ | _ | _ | _) | _ <;>first | exact p | exact p.elim
theorem RU{prog:Program}{w:World}{K:Frag}{x C:Addr}{ox od:Obj}{dx:Addr}{m:Str->Option Value}{n:List Nat}{v:Value}{Q:Unit->Shared->Prop}(X:K.In s.heap)(I:InstAt s.heap x ox C (some od))(hd:ox.dict=some dx)(hs:YK K C n=true)(hn:s.heap.Ns dx m)
 (hsz:∀es k,od.data= .dict es k->es.size<=1000)
 (h:∀h',h'.Ns dx (fun x=>if x=⟨n.toArray⟩then some v else m x)->Heap.SameBut dx s.heap h'->(∀o es n',s.heap.get? dx=some o->o.data= .dict es n'->∃o' es' n'',h'.get? dx=some o'/\o'.cls=o.cls/\o'.data= .dict es' n''/\es'.size<=es.size+1/\(m ⟨n.toArray⟩≠none->es'.size<=es.size))->∀t,Q () {s with heap:=h',toks:=t}):
 wpAny (model prog w) A (setAttr (.ref x) ⟨n.toArray⟩ v) Q E s:=by
 refine dK X I hs fun cd b hc hh=>?_
 obtain⟨hp,gg,dr,tk,oo⟩:=s
 obtain⟨hx,hcl,hno,hdo⟩:=I
 obtain⟨oc,odi,oda,osl⟩:=ox
 dsimp only at hcl hd
 subst hcl hd
 refine wpAny_bind (wpAny_pure (wpAny_bind (wpAny_bind (wpAny_loadPart hx (wpAny_bind ((looks_clsIn (M:=model prog w) X hc).at ?_))))))
 rw[hh]
 refine wpAny_pure (a:=some dx) (wpAny_bind (wpAny_pure (wpAny_bind ?_)))
 refine uJ (s:=⟨hp,gg,dr,tk+1,oo⟩) hn fun h' hn' hs' hz=>?_
 have hdo':hp.get? dx=some od:=hdo
 obtain⟨Ab,Rg,yg,yI,Ld,ka,_⟩:=id hn
 rw[hdo']at yI;cases yI
 obtain⟨o',es',n',ho',_,hd',hz',_⟩:=hz _ _ _ hdo' Ld
 have:=hsz _ _ Ld
 refine wpAny_bind (wpAny_lookBehind ho' (by rw[hd'];exact pastItsLine_dict (by rw[OA];exact LB this hz')) ?_)
 exact wpAny_pure (h h' hn' hs' hz _)
theorem QU{prog:Program}{w:World}{K:Frag}{x C:Addr}{vs:Array Value}{n:List Nat}{v:Value}{Q:Unit->Shared->Prop}(X:K.In s.heap)(ho:s.heap.get? x=some {cls:= .ref C,data:= .fields vs})(hs:YK K C n=true)
 (h:∀h',h'.Ns s.heap.objs.size (fun y=>if y=⟨n.toArray⟩then some v else none)->Heap.SameBut s.heap.objs.size ((s.heap.push emptyDict).update x (fun o=>{o with dict:=some s.heap.objs.size})) h'->(∃o' es' n',h'.get? s.heap.objs.size=some o'/\o'.cls= .type "dict"/\o'.data= .dict es' n'/\es'.size<=1)->∀t,Q () {s with heap:=h',toks:=t}):
 wpAny (model prog w) A (setAttr (.ref x) ⟨n.toArray⟩ v) Q E s:=by
 refine dK X (od:=none) ⟨ho,rfl,rfl,trivial⟩ hs fun cd b hc hh=>?_
 obtain⟨hp,gg,dr,tk,oo⟩:=s
 refine wpAny_bind (wpAny_pure (wpAny_bind (wpAny_bind (wpAny_loadPart ho (wpAny_bind ((looks_clsIn (M:=model prog w) X hc).at ?_))))))
 rw[hh]
 have fL:(hp.push emptyDict).get? x=some {cls:= .ref C,data:= .fields vs}:=Heap.get?_push_of_some _ ho
 have hne:x≠hp.objs.size:=Nat.ne_of_lt (Heap.lt_size ho)
 have QN:((hp.push emptyDict).update x (fun o=>{o with dict:=some hp.objs.size})).get? hp.objs.size=some emptyDict:=(Heap.get?_update_other _ _ hne).trans (Heap.get?_push_size _ rfl)
 refine wpAny_bind (wpAny_alloc (wpAny_bind (wpAny_update fL (wpAny_bind (wpAny_pure (wpAny_pure ?_))))))
 refine wpAny_bind (wpAny_pure (wpAny_bind ?_))
 refine uJ (s:=⟨(hp.push emptyDict).update x (fun o=>{o with dict:=some hp.objs.size}),gg,dr,tk+1,oo⟩) (m:=fun u0=>none) ⟨_, #[],0,QN,rfl,fun e he=>by simp at he,fun name=>rfl⟩ fun h' hn' hs' hz=>?_
 obtain⟨o',es',n',ho',hcl',hd',hz',_⟩:=hz _ _ _ QN rfl
 refine wpAny_bind (wpAny_lookBehind ho' (by rw[hd'];exact pastItsLine_dict (by simp at hz';rw[OA];exact TD hz')) ?_)
 exact wpAny_pure (h h' hn' hs' ⟨o',es',n',ho',hcl',hd',by simpa using hz'⟩ _)
theorem dN(k:List Nat)(v:V):∀(kvs:List (List Nat×V)) (k':List Nat),TA k' (VB k v kvs)=if k'=k then some v else TA k' kvs
 | [],k'=>by
   by_cases h:k=k'
   ·subst h;simp[VB.r1,VB.r2,TA.r1,TA.r2]
   ·have h':¬k'=k:=fun e=>h e.symm
    simp[VB.r1,VB.r2,TA.r1,TA.r2,h,h']
 | (a,b)::r,k'=>by
   (first | rw[VB.r1] | rw[VB.r2])
   have ih:=dN k v r k'
   split
   ·rename_i e
    subst e
    by_cases h:a=k'
    ·subst h;simp[TA.r1,TA.r2]
    ·have h':¬k'=a:=fun e=>h e.symm
     simp[TA.r1,TA.r2,h,h']
   ·rename_i e
    by_cases h:a=k'
    ·subst h;simp[TA.r1,TA.r2,e]
    ·simp[TA.r1,TA.r2,h,ih]
theorem pN{k:List Nat}{v:V}:∀{kvs:List (List Nat×V)},TA k kvs=none->(VB k v kvs).length=kvs.length+1
 | [],_=>rfl
 | (a,b)::r,h=>by
   (first | rw[TA.r1]at h | rw[TA.r2]at h)
   split at h
   ·cases h
   ·rename_i e
    (first | rw[VB.r1,if_neg e] | rw[VB.r2,if_neg e])
    simp[pN h]
theorem qN{k:List Nat}{v:V}:∀(kvs:List (List Nat×V)),kvs.length<=(VB k v kvs).length
 | []=>by simp[VB.r1,VB.r2]
 | (a,b)::r=>by
   have:=qN (k:=k) (v:=v) r
   (first | rw[VB.r1] | rw[VB.r2]);split <;>simp <;>assumption
theorem fT{o:Option O}{C:Addr}(h:o.bind MO=some C):o=some (.exc0 C):=by
 rcases o with _ | o
 ·exact SZ h
 ·induction o using O.casesOn with
  | exc0 D=>cases h;rfl
  | _=>exact SZ h
theorem eG(Y:xC g)(C:Cx g A s U d hd)(S:St g s U J){x v:V}{n:List Nat}{Q:List O->Prop}{a w:Value}(ra:VA g s.heap U x a)(rv:VA g s.heap U v w)(h:tH g J x n v Q):
 wpAny (model g.prog g.w) A (setAttr a ⟨n.toArray⟩ w) (fun u0 s'=>iR g s.heap U Q s') E s:=by
 set_option tactic.hygienic true in induction x using V.casesOn <;>first | exact h.elim | skip
 rename_i l
 ·obtain⟨a,ha,rfl⟩:=ra
  have h:(match (J[l]?).bind MO with
   | some C=>PE C n=true/\n.length<=1000/\Q ((J++[O.ad [(n,v)]]).set l (O.exc C J.length))
   | none=>∃C dl kvs,uD J l=some (C,dl,kvs)/\PE C n=true/\kvs.length<=1000/\n.length<=1000/\Q (J.set dl (.ad (VB n v kvs)))):=h
  rcases he:(J[l]?).bind MO with _ | Cl <;>rw[he]at h
  case some=>
   have hl:=fT he
   obtain⟨ht,hnl,hq⟩:=h
   obtain⟨hx,vs,ho,t1,t2⟩:=S.objs l a _ ha hl
   refine QU (Y.K.keeps S.base) ho (Y.tab _ _ ht).2 fun h' N' hs' hz t=>?_
   obtain⟨o',es',n',ho',hc',hd',z1⟩:=hz
   have hll:l < U.length:=(List.getElem?_eq_some_iff.mp ha).1
   have DA:=S.pushT emptyDict (.ad []) rfl ⟨_,fun u0=>none,Heap.get?_push_size _ rfl,rfl,⟨_, #[],0,Heap.get?_push_size _ rfl,rfl,fun e he=>by simp at he,fun name=>rfl⟩,fun es n q=>by cases q;simp,fun k=>trivial⟩
   have HA:=NA.pushT s.heap U emptyDict
   have rE:(U++[s.heap.objs.size])[l]?=some a:=by rw[List.getElem?_append_left hll];exact ha
   have QN:(U++[s.heap.objs.size])[J.length]?=some s.heap.objs.size:=by rw[<-S.len];exact HC ..
   have fL:(s.heap.push emptyDict).get? a=some {cls:= .ref Cl,data:= .fields vs}:=Heap.get?_push_of_some _ ho
   have hself:=Heap.get?_update_self (fun o=>{o with dict:=some s.heap.objs.size}) fL rfl
   have eA:=DA.update rE (Heap.SameBut.update (s.heap.push emptyDict) a (fun o=>{o with dict:=some s.heap.objs.size})) (x':= .exc Cl J.length) ⟨hx,_,vs,QN,hself,t1, .inl t2⟩ s.toks
   have nA:NA (s.heap.push emptyDict) ((s.heap.push emptyDict).update a (fun o=>{o with dict:=some s.heap.objs.size})) (U++[s.heap.objs.size]) (U++[s.heap.objs.size]) []:=
    NA.update rE (Heap.SameBut.update ..) (fun o e=>⟨_,hself⟩) fun⟨o1,vs',tb',c',q1,q2,q3,q4⟩=>by rw[fL]at q1;cases q1;cases q3;rw[t2]at q4;cases q4
   have hne:a≠s.heap.objs.size:=Nat.ne_of_lt (Heap.lt_size ho)
   have hdo:((s.heap.push emptyDict).update a (fun o=>{o with dict:=some s.heap.objs.size})).get? s.heap.objs.size=some emptyDict:=(Heap.get?_update_other _ _ hne).trans (Heap.get?_push_size _ rfl)
   have XB:NA ((s.heap.push emptyDict).update a (fun o=>{o with dict:=some s.heap.objs.size})) h' (U++[s.heap.objs.size]) (U++[s.heap.objs.size]) []:=
    NA.update QN hs' (fun o e=>⟨_,ho'⟩) fun⟨o1,vs',tb',c',q1,q2,q3,q4⟩=>by rw[hdo]at q1;cases q1;cases q3
   have T:=HA.trans (nA.trans XB)
   have rv':=rv.step0 S T
   have iB:=eA.update QN hs' (x':= .ad [(n,v)]) ⟨o',_,ho',hc',N',fun es'' n'' q=>by rw[hd']at q;cases q;simpa using z1,fun k=>?_⟩ t
   ·refine⟨_,_,?_,iB,T⟩
    have hne':l≠J.length:=by have:=S.len;exact Nat.ne_of_lt (LB (eL this) hll)
    have e:((J++[O.ad []]).set l (.exc Cl J.length)).set J.length (.ad [(n,v)])=(J++[O.ad [(n,v)]]).set l (.exc Cl J.length):=by
     rw[List.set_comm _ _ hne',List.set_append_right _ _ (Nat.le_refl _)]
     simp
    rw[e];exact hq
   ·by_cases hkn:n=k
    ·subst hkn
     simp only[TA.r1,TA.r2,if_true];exact rv'
    ·have:(⟨k.toArray⟩:Str)≠⟨n.toArray⟩:=fun e=>hkn (by have:=congrArg (fun s:Str=>s.cps.toList) e;simpa using this.symm)
     simp only[TA.r1,TA.r2,if_neg hkn,if_neg this];trivial
  obtain⟨Cl,dl,kvs,hi,ht,hk,hnl,hq⟩:=h
  obtain⟨ox,od,dx,m,es,ep,I,e1,e2,e3,e4,e5,e6,e7,N,hl,rr,_⟩:=VO S hi ha
  refine RU (Y.K.keeps S.base) I e1 (Y.tab _ _ ht).2 N (fun es' k q=>by rw[e6]at q;cases q;exact Nat.le_trans e7 hk) fun h' N' hs hz t=>?_
  obtain⟨o',es',n',ho',hc',hd',z1,z2⟩:=hz _ _ _ e4 e6
  have T:NA s.heap h' U U []:=NA.update e2 hs (fun o e=>⟨_,ho'⟩) fun⟨o1,vs',tb',c',q1,q2,_,_⟩=>by rw[e4]at q1;cases q1;rw[e5]at q2;cases q2
  refine⟨J.set dl (.ad (VB n v kvs)),U,hq,S.update e2 hs (x':= .ad (VB n v kvs)) ⟨o',_,ho',hc'.trans e5,N',fun es'' n'' q=>?_,fun k=>?_⟩ t,T⟩
  ·rw[hd']at q;cases q
   have hr:=rr n
   induction hlk:TA n kvs using Option.casesOn with
   | none=>rw[pN hlk];exact(LB z1 e7)
   | some y=>
     rw[hlk]at hr
     have:=z2 (by intro q;rw[q]at hr;exact hr.elim)
     have:=qN (k:=n) (v:=v) kvs
     lia
  ·rw[dN]
   by_cases hkn:k=n
   ·subst hkn
    simp only[if_true]
    exact rv.step0 S T
   ·have:(⟨k.toArray⟩:Str)≠⟨n.toArray⟩:=fun e=>hkn (by have:=congrArg (fun s:Str=>s.cps.toList) e;simpa using this)
    simp only[if_neg hkn,if_neg this]
    have hr:=rr k
    revert hr
    cases TA k kvs <;>cases m ⟨k.toArray⟩ <;>first | exact id | exact fun r=>VA.step0 S T r
theorem HU(Y:xC g)(C:Cx g A s U d hd)(S:St g s U J){x i v:V}{Q:List O->Prop}{a k w:Value}(ra:VA g s.heap U x a)(rk:VA g s.heap U i k)(rv:VA g s.heap U v w)(h:jE J x i v Q):
 wpAny (model g.prog g.w) A (setItem a k w) (fun u0 s'=>iR g s.heap U Q s') E s:=by
 set_option tactic.hygienic true in induction x using V.casesOn <;>first | exact h.elim | skip
 rename_i l
 set_option tactic.hygienic true in induction i using V.casesOn <;>first | exact h.elim | skip
 case str key=>
  obtain⟨kvs,hk,hz,q⟩:=h
  obtain⟨a,ha,rfl⟩:=ra
  obtain⟨t,rfl,h1,h2⟩:=rk
  ·obtain⟨ep,hl⟩:=YL hk
   obtain⟨ps,D,hz',rr⟩:=S.objs l a _ ha hl
   obtain⟨o,es,ho,X,_⟩:=id D
   have hlen:=rr.len
   refine wpAny_setItem_pairs (zD key t) D.dictOf (fun h' D' hs=>?_) (by rw[hlen,OA];exact TD hz')
   obtain⟨ep',D'⟩:=D'.dictAt
   have T:NA s.heap h' U U []:=NA.update ha hs (fun o e=>by obtain⟨o',_,e',_⟩:=D';exact⟨o',e'⟩) fun⟨o1,vs',tb',c',q1,q2,_,_⟩=>by rw[ho]at q1;cases q1;rw[X.1]at q2;cases q2
   have hl2:=EM key v kvs
   refine⟨_,U,q ep',S.update ha hs (x':= .dict (VB key v kvs) ep') ⟨_,D',by rw[OA];exact LB hl2 hz,?_⟩ _,T⟩
   exact sB.congr (fun a os t=>T.tup (fun u0 m=>nomatch m) S.ownAll t) (fun u0 u0 e=>e) _ _ (dI ⟨h1,h2⟩ rv rr D.nodup)
 case int i=>
  obtain⟨xs,hl,q⟩:=h
  obtain⟨a,ha,rfl⟩:=ra
  obtain⟨t,rfl⟩:=rk
  obtain⟨a',os,n,ha',ho,hz,rr⟩:=S.list hl
  rw[ha]at ha';cases ha'
  have hlen:=rr.len
  rw[Array.length_toList]at hlen
  have fin:∀k:Nat,Q (J.set l (.list (xs.set k v)))->iR g s.heap U Q {s with heap:=s.heap.update a (Obj.mapSeq (·.setIfInBounds k w))}:=fun k q=>by
   have hself:=Heap.get?_update_self (Obj.mapSeq (·.setIfInBounds k w)) ho rfl
   have T:NA s.heap (s.heap.update a (Obj.mapSeq (·.setIfInBounds k w))) U U []:=NA.update ha (Heap.SameBut.update ..) (fun o e=>⟨_,hself⟩) fun⟨o1,vs',tb',c',q1,q2,_,_⟩=>by rw[ho]at q1;cases q1;cases q2
   refine⟨_,U,q,S.update ha (Heap.SameBut.update ..) (x':= .list (xs.set k v)) ⟨_,_,hself,by simpa using hz,?_⟩ s.toks,T⟩
   rw[Array.toList_setIfInBounds]
   exact(rr.set (i:=k) rv).step0 S T
  set_option tactic.hygienic true in split at q
  ·rename_i h0
   exact ki_setAt ho h0 (by lia) (by lia) (fin _ q.2)
  ·rename_i h0
   have:=ki_setBack (prog:=g.prog) (w:=g.w) (A:=A) (E:=E) (Q:=fun u0 s'=>iR g s.heap U Q s') (t:=t) (v:=w) ho (k:=i) (by lia) (by lia) (by lia) (by have:=fin (i+xs.length).toNat q.2;rw[hlen];exact this)
   exact this
theorem pS{e:Expr}{t:Option Expr}{l:Nat}(h:mL e=false):swapsWith e t l env=pure false:=by induction e using Expr.casesOn <;>first | rfl | cases h
theorem cL{e:Expr}{x:Value}(h:vD e=false):foldedSetIterable e env x=pure x:=by induction e using Expr.casesOn <;>first | rfl | cases h
theorem QK(Y:xC g)(X:Gd g c env)(S:St g s U J)(F:Fm g c.nm s U env Z){v:Value}{id:Str}{pos:Pos}{Q:Value->Shared->Prop}(h:c.isGlob v id=true)(hq:Q v s):wpAny (model g.prog g.w) A (eval (.Name id pos) env) Q E s:=
 qR Y S X.1 X.2 F.kind F.glob F.blt h hq
theorem XO{f:Expr}(h:VG c f=true):∃id pos,f= .Name id pos/\c.isGlob (.type "range") id=true:=by
 unfold VG at h
 rcases e:AN f with _ | id
 ·rw[e]at h;exact Bool.noConfusion h
 ·rw[e]at h
  obtain⟨p,rfl⟩:=(UO f).get e
  exact⟨id,p,rfl,h⟩
theorem xH{id:Str}{p0 pos:Pos}{T:String}{as':List Expr}{Q:Value->Shared->Prop}(Y:xC g)(X:Gd g c env)(S:St g s U J)(F:Fm g c.nm s U env Z)(h:c.isGlob (.type T) id=true)(hp:(backTo pos (starEach as' env)).any (·.1)=false)
 (k:wpAny (model g.prog g.w) A (spliced (backTo pos (starEach as' env))) (fun vs CA=>wpAny (model g.prog g.w) A (call (.type T) vs) Q E CA) E s):
 wpAny (model g.prog g.w) A (eval (.Call (.Name id p0) as' [] pos) env) Q E s:=by
 refine wpAny_bind (QK Y X S F h ?_)
 refine PyProof.Rows.callWith_type hp (vH hp (wpAny_mono k (fun vs CA KB=>?_) fun u0 u0 e=>e))
 simpa using KB
theorem VK(Y:xC g)(X:Gd g c env){f x:Expr}{hi:IE}{pos:Pos}(hr:VG c f=true)(hx:gC x=false)(hs:SE g A d hd c env hi x){K:V->List O->Prop}{E:Nat->List O->Prop}(hw:¬dE g d hd hi Z J K E)
 (hQ:∀v J,¬K v J->∃n,v= .int n/\ -1000<=n/\n<=1000) (C:Cx g A s U d hd) (S:St g s U J) (F:Fm g c.nm s U env Z) {R:Value->Shared->Prop}
 (k:∀n JA CA BA y,¬K (.int n) JA->St g CA BA JA->Fm g c.nm CA BA env Z->NA s.heap CA.heap U BA []->s.heap.get? y=none->g.bA.get? y=none->IsRangeIter CA.heap y 0 (Builtin.Range.rangeSize 0 n 1) 1->R (.ref y) CA):
 wpAny (model g.prog g.w) A (eval (.Call f [x] [] pos) env) (fun v CA=>wpAny (model g.prog g.w) A (pyIter v) R (dA g s.heap U [] (NK E)) CA) (dA g s.heap U [] (NK E)) s:=by
 obtain⟨id,p0,rfl,hg⟩:=XO hr
 have hp:(backTo pos (starEach [x] env)).any (·.1)=false:=by rw[aC hx];rfl
 refine xH Y X S F hg hp ?_
 rw[aC hx,LF]
 refine Calls.spliced_cons (wpAny_mono (hs hw C S F) (fun v CA p=>?_) fun u0 u0 e=>e)
 obtain⟨mv,JA,BA,q,rv,DA,HA⟩:=p
 obtain⟨n,rfl,n1,n2⟩:=hQ _ _ q
 obtain⟨t,rfl⟩:=rv
 refine Calls.spliced_nil ?_
 refine PySem.call_range_1 ?_
 have hsm:Builtin.Range.small 0 n 1=true:=PySem.small_one (by decide) (by decide) (by lia) (by lia)
 refine wpAny_pyIter_range (Heap.get?_push_size _ rfl) hsm ?_
 have eA:=(DA.pushU {cls:= .type "range",data:= .fields #[.int 0 CA.toks, .int n t, .int 1 (CA.toks+1)]}).toks (CA.toks+1+1)
 have iB:=eA.pushU {cls:= .type "range_iterator",data:= .fields #[rawInt 0,rawInt (Builtin.Range.rangeSize 0 n 1),rawInt 1]}
 have XB:NA s.heap ((CA.heap.push {cls:= .type "range",data:= .fields #[.int 0 CA.toks, .int n t, .int 1 (CA.toks+1)]}).push {cls:= .type "range_iterator",data:= .fields #[rawInt 0,rawInt (Builtin.Range.rangeSize 0 n 1),rawInt 1]}) U BA []:=HA.trans ((NA.pushU ..).trans (.pushU ..))
 refine k n JA _ BA _ q iB (F.step S XB) XB ?_ ?_ (Heap.get?_push_size _ rfl)
 ·induction e:s.heap.get? (CA.heap.push {cls:= .type "range",data:= .fields #[.int 0 CA.toks, .int n t, .int 1 (CA.toks+1)]}).objs.size using Option.casesOn with
  | none=>rfl
  | some o=>
    obtain⟨o',e'⟩:=(HA.trans (NA.pushU CA.heap BA {cls:= .type "range",data:= .fields #[.int 0 CA.toks, .int n t, .int 1 (CA.toks+1)]})).alive _ o e
    exact absurd (Heap.lt_size e') (Nat.lt_irrefl _)
 ·exact eA.new.1
theorem eT(Y:xC g)(X:Gd g c env){x:Expr}{id:Str}{p0:Pos}{e:IE}{pos:Pos}(hg:c.isGlob (.type "enumerate") id=true)(hx:gC x=false)(hs:SE g A d hd c env e x){K:V->List O->Prop}{E:Nat->List O->Prop}(hw:¬dE g d hd e Z J K E)
 (hQ:∀v J,¬K v J->∃l vs,v= .loc l/\CB J l=some vs) (C:Cx g A s U d hd) (S:St g s U J) (F:Fm g c.nm s U env Z) {R:Value->Shared->Prop}
 (k:∀l a JA CA BA e y,¬K (.loc l) JA->St g CA BA JA->Fm g c.nm CA BA env Z->NA s.heap CA.heap U BA []->s.heap.get? y=none->g.bA.get? y=none->s.heap.get? e=none->g.bA.get? e=none->e≠y->BA[l]?=some a->IsEnum CA.heap e y 0 .none->CA.heap.IsListIter y a 0->R (.ref e) CA):
 wpAny (model g.prog g.w) A (eval (.Call (.Name id p0) [x] [] pos) env) R (dA g s.heap U [] (NK E)) s:=by
 have hp:(backTo pos (starEach [x] env)).any (·.1)=false:=by rw[aC hx];rfl
 refine xH Y X S F hg hp ?_
 rw[aC hx,LF]
 refine Calls.spliced_cons (wpAny_mono (hs hw C S F) (fun v CA p=>?_) fun u0 u0 e=>e)
 obtain⟨mv,JA,BA,q,rv,DA,HA⟩:=p
 obtain⟨l,vs,rfl,hl⟩:=hQ _ _ q
 obtain⟨a,ha,rfl⟩:=rv
 obtain⟨a',os,n,ha',ho,hz,rr⟩:=DA.list hl
 rw[ha]at ha';cases ha'
 refine Calls.spliced_nil ?_
 refine PySem.call_enumerate_1 ho fun h' he hit hsz hk=>?_
 have eA:=DA.ext hk CA.toks
 have nA:=NA.ext BA hk []
 have T:=HA.trans nA
 have gone:∀b,CA.heap.objs.size<=b->s.heap.get? b=none:=fun b hb=>by
  induction e:s.heap.get? b using Option.casesOn with
  | none=>rfl
  | some o=>
    obtain⟨o',e'⟩:=HA.alive _ o e
    exact absurd (Heap.lt_size e') (Nat.not_lt.mpr hb)
 have gone':∀b,CA.heap.objs.size<=b->g.bA.get? b=none:=fun b hb=>by
  induction e:g.bA.get? b using Option.casesOn with
  | none=>rfl
  | some o=>exact absurd (Heap.lt_size (DA.base _ _ e)) (Nat.not_lt.mpr hb)
 exact k l a JA _ BA _ _ q eA (F.step S T) T (gone _ (Nat.le_refl _)) (gone' _ (Nat.le_refl _)) (gone _ (Nat.le_succ _)) (gone' _ (Nat.le_succ _)) (Nat.ne_of_gt (Nat.lt_succ_self _)) ha he hit
end
end
section
variable{g:G}{s:Shared}{U:List Addr}{J:List O}{A:Around}{d:Nat}{hd:Option Nat}{env:Env}{nm:List (List Nat)}{Z:List (Option V)}{c:CC}{M:Model}{E:Value->Shared->Prop}
theorem zc{y:Addr}{h h':Heap}(x:Heap.SameBut y h h'):tM [y] h h':=jC x
theorem qV(X:Gd g c env)(S:St g s U J)(F:Fm g c.nm s U env Z){i:Nat}{id:Str}(h:c.isLocal i id=true){v:V}{w:Value}(r:VA g s.heap U v w){Q:Unit->Shared->Prop}
 (k:∀h' t,St g {s with heap:=h',toks:=t} U J->Fm g c.nm {s with heap:=h',toks:=t} U env (Z.set i (some v))->NA s.heap h' U U (OC env)->tM [env.locals] s.heap h'->Q () {s with heap:=h',toks:=t}):
 wpAny M A (storeName env id w) Q E s:=by
 obtain⟨hx,hk⟩:=SI X h
 obtain⟨m,hm,hv⟩:=F.vars
 refine iF F.kind hk hm fun h' hn hs hc=>?_
 obtain⟨S',T⟩:=F.locals S hs hc (s.toks+1)
 have hid:(⟨id.cps.toList.toArray⟩:Str)=id:=by simp
 exact k _ _ S' (F.setLocal S (x:=id.cps.toList) hx (by rw[hid];exact hk) hv (v:=some v) (by rw[hid];exact hn) hs hc _ fun y e=>by cases e;exact⟨w,rfl,r⟩) T (zc hs)
theorem zP(X:Gd g c env):∀(is:List Nat) {ts:List Expr} {vs:List V} {xs:List Value} {Z:List (Option V)} {s:Shared},pB c is ts=true->vs.length=is.length->St g s U J->Fm g c.nm s U env Z->PA g s.heap U vs xs->
 ∀{Q:Unit->Shared->Prop},(∀h' t,St g {s with heap:=h',toks:=t} U J->Fm g c.nm {s with heap:=h',toks:=t} U env (IC Z is vs)->NA s.heap h' U U (OC env)->tM [env.locals] s.heap h'->Q () {s with heap:=h',toks:=t})->
 wpAny M A (assignInOrder ((assignEach ts env).map (·.2)) xs) Q E s:=by
 intro is
 induction is with
 | nil=>
   intro ts vs xs Z s h hl S F rr Q k
   rw[pC h]
   induction vs using List.casesOn with
   | cons _ _=>simp at hl
   | nil=>exact wpAny_pure (k s.heap s.toks S F (.refl ..) (tM.refl _ _))
 | cons i is ih=>
   intro ts vs xs Z s h hl S F rr Q k
   obtain⟨id,pos,r,rfl,h1,h2⟩:=PB h
   induction vs using List.casesOn with
   | nil=>simp at hl
   | cons v vs=>
     induction xs using List.casesOn with
     | nil=>exact rr.elim
     | cons x xs=>
       show wpAny M A (do holding xs (assign (.Name id pos) env x);assignInOrder ((assignEach r env).map (·.2)) xs) Q E s
       refine wpAny_bind (wpAny_holding (wpAny_assign_Name (qV X S F h1 rr.1 fun h' t S' F' T B=>?_)))
       exact ih h2 (by simpa using hl) S' F' (rr.2.step S T F.noTup) fun h'' t' S'' F'' T' B'=>k h'' t' S'' F'' (T.trans T') (B.trans B')
theorem fY(t:Expr):RD (aR t) fun ts=>∃k p,t= .Tuple ts k p:=by
 induction t using Expr.casesOn with
 | Tuple ts k p=>exact⟨_,_,rfl⟩
 | _=>trivial
theorem Wb(X:Gd g c env)(S:St g s U J)(F:Fm g c.nm s U env Z)(hh:A.handled=none){tgt:List Nat}{t:Expr}(h:vN c tgt t=true){v:V}{vs:List V}{x:Value}
 (hv:pe J tgt v=some vs) (r:VA g s.heap U v x) {Q:Unit->Shared->Prop}
 (k:∀h' t,St g {s with heap:=h',toks:=t} U J->Fm g c.nm {s with heap:=h',toks:=t} U env (IC Z tgt vs)->NA s.heap h' U U (OC env)->tM [env.locals] s.heap h'->Q () {s with heap:=h',toks:=t}):
 wpAny (model g.prog g.w) A (assign t env x) Q E s:=by
 rcases tgt with _ | ⟨i,_ | ⟨j,l⟩⟩
 ·exact Bool.noConfusion h
 ·have h:(match AN t with | some id=>c.isLocal i id | none=>false)=true:=h
  rcases e:AN t with _ | id
  ·rw[e]at h;exact Bool.noConfusion h
  ·rw[e]at h
   obtain⟨p,rfl⟩:=(UO t).get e
   cases hv
   exact wpAny_assign_Name (qV X S F h r k)
 ·have h:(match aR t with | some ts=>pB c (i::j::l) ts | none=>false)=true:=h
  rcases e:aR t with _ | ts
  ·rw[e]at h;exact Bool.noConfusion h
  ·rw[e]at h
   obtain⟨x1,pos,rfl⟩:=(fY t).get e
   obtain⟨n1,n2⟩:=xL env _ (XH _ h)
   rw[assign_Tuple]
   refine wpAny_bind (wpAny_standAt ?_)
   unfold unpack
   rw[n1,n2]
   refine wpAny_bind (wpAny_holding (jG S hh (show tG J (i::j::l).length v=some vs from hv) r fun KB xs S' T rr hl B=>?_))
   exact zP X _ h hl S' (F.step S T) rr fun h'' t S'' F'' T' B'=>k h'' t S'' F'' (T.x.trans T') fun b o n e=>B' b o n (B b o e)
end
section
variable{g:G}{s:Shared}{U:List Addr}{J:List O}{A:Around}{d:Nat}{hd:Option Nat}{env:Env}{nm:List (List Nat)}{Z:List (Option V)}{c:CC}{M:Model}{E:Value->Shared->Prop}
theorem NN{elt target iter:Expr}{scope:Scope}{pos:Pos}{it acc:Value}{R:Result->Shared->Prop}
 (h:wpAny (model g.prog g.w) A (pyNext it) (fun r CA=>match r with
  | none=>R (.ok .next) CA
  | some v=>wpAny (model g.prog g.w) A (letOwnedTupleGo target it v) (fun u0 aJ=>wpAny (model g.prog g.w) A (assign target env v) (fun u0 cA=>wpAny (model g.prog g.w) A (eval elt env) (fun x eC=>
   wpAny (model g.prog g.w) A (call (.builtin "list.append") [acc,x]) (fun u0 nK=>codeAny (model g.prog g.w) A (.compLoop (.ListComp elt [⟨target,iter,[],0⟩] scope pos) 0 it acc env) R nK) (fun u0 u0=>False) eC) (fun u0 u0=>False) cA) (fun u0 u0=>False) aJ) (fun u0 u0=>False) CA) (fun u0 u0=>False) s):
 codeAny (model g.prog g.w) A (.compLoop (.ListComp elt [⟨target,iter,[],0⟩] scope pos) 0 it acc env) R s:=by
 refine codeAny_of_tree ?_
 show wpAny _ A ((compTurn (.ListComp elt [⟨target,iter,[],0⟩] scope pos) 0 it acc env).onRaise (fun x=>do noteFrame x env;theTreesLotGoes x)) _ _ s
 refine wpAny_noted ?_
 rw[compTurn_list1]
 refine wpAny_bind (wpAny_standAt (wpAny_bind (wpAny_mono h (fun r CA KB=>?_) fun u0 u0 h'=>h'.elim)))
 induction r using Option.casesOn with
 | none=>exact wpAny_pure KB
 | some v=>
   exact wpAny_bind (wpAny_mono KB (fun u0 aJ KB=>wpAny_bind (wpAny_mono KB (fun u0 cA ZD=>wpAny_bind (wpAny_bind (wpAny_mono ZD (fun x eC KC=>wpAny_bind (wpAny_mono KC
    (fun u0 nK zM=>wpAny_pure (wpAny_pure ⟨rfl,zM⟩)) fun u0 u0 h'=>h'.elim)) fun u0 u0 h'=>h'.elim))) fun u0 u0 h'=>h'.elim)) fun u0 u0 h'=>h'.elim)
theorem St.otherL(S:St g s U J){d:Addr}(hn:d∉U)(h0:g.bA.get? d=none){o:Obj}(ho:s.heap.get? d=some o)(hc:o.cls≠ .type "tuple"/\o.cls≠ .type "traceback"){h':Heap}(hs:Heap.SameBut d s.heap h')(t:Nat):St g {s with heap:=h',toks:=t} U J/\∀a os,IsTup s.heap a os->IsTup h' a os:=by
 have ht:∀a os,IsTup s.heap a os->IsTup h' a os:=fun a os ⟨y,e,c,r⟩=>⟨y,(hs.2 a fun q=>by subst q;rw[ho]at e;cases e;exact hc.1 c).trans e,c,r⟩
 refine⟨S.quiet (fun b y e e'=>(hs.2 b fun q=>by subst q;rw[h0]at e;cases e).trans e') (fun b m=>hs.2 b fun q=>hn (q ▸ m)) ht (fun b y e t=>⟨y,(hs.2 b fun q=>by subst q;rw[ho]at e;cases e;exact hc.2 t.1).trans e,t⟩) rfl rfl,ht⟩
theorem Fm.otherL(F:Fm g nm s U env Z){d:Addr}(hn:d∉OC env){h':Heap}(hs:Heap.SameBut d s.heap h')(ht:∀a os,IsTup s.heap a os->IsTup h' a os)(t:Nat):Fm g nm {s with heap:=h',toks:=t} U env Z:=by
 have hl:env.locals≠d:=fun q=>hn (q ▸ .head _)
 have hcl:∀c∈env.cells.map (·.2),c≠d:=fun c m q=>hn (q ▸ List.mem_cons_of_mem _ m)
 refine⟨F.kind,F.glob,F.blt,F.frame,F.nodup,F.len,F.above,F.out,?_,fun c hc=>?_,F.once,?_⟩
 ·obtain⟨o,e,c⟩:=F.lcls;exact⟨o,(hs.2 _ hl).trans e,c⟩
 ·obtain⟨o,v,e,c1⟩:=F.ccls c hc;exact⟨o,v,(hs.2 _ (hcl c hc)).trans e,c1⟩
 ·obtain⟨m,⟨o,es,ep,e,r⟩,hv⟩:=F.vars
  refine⟨m,⟨o,es,ep,(hs.2 _ hl).trans e,r⟩,fun i x v hx hs'=>?_⟩
  obtain⟨w,hw,r⟩:=hv i x v hx hs'
  refine⟨w,?_,VA.congr ht (fun u0 u0 e=>e) _ _ r⟩
  rcases hw with q | ⟨k,c,hc,o',e',q⟩
  ·exact .inl q
  ·exact .inr ⟨k,c,hc,o',(hs.2 _ (hcl c (XC hc))).trans e',q⟩
theorem Fm.weaken(F:Fm g nm s U env Z){gK:List (Option V)}(hl:gK.length=Z.length)(h:∀(i:Nat) (v:V),gK[i]?=some (some v)->Z[i]?=some (some v)):Fm g nm s U env gK:=
 ⟨F.kind,F.glob,F.blt,F.frame,F.nodup,hl.trans F.len,F.above,F.out,F.lcls,F.ccls,F.once,let ⟨m,hm,hv⟩:=F.vars;⟨m,hm,fun i x v hx hs=>hv i x v hx (h i v hs)⟩⟩
theorem TM:∀(is:List Nat) (vs:List V) (Z:List (Option V)),(IC Z is vs).length=Z.length
 | i::is,v::vs,Z=>by rw[SM,TM is vs,List.length_set]
 | [],_,_=>rfl
 | _::_,[],_=>rfl
theorem XJ:∀(is:List Nat) (vs:List V) (Z:List (Option V)) (i:Nat),i∉is->(IC Z is vs)[i]?=Z[i]?
 | j::is,v::vs,Z,i,h=>by
   rw[SM,XJ is vs _ i (fun m=>h (List.mem_cons_of_mem _ m)),List.getElem?_set_ne (fun q=>h (by rw[q];exact .head _))]
 | [],_,_,_,_=>rfl
 | _::_,[],_,_,_=>rfl
theorem WJ{cap:List Nat}{Z:List (Option V)}{i:Nat}{v:V}(h:(eD cap Z)[i]?=some (some v)):i∈cap/\Z[i]?=some (some v):=by
 unfold eD at h
 rw[List.getElem?_map]at h
 induction hr:(List.range Z.length)[i]? using Option.casesOn with
 | none=>rw[hr]at h;cases h
 | some j=>
   rw[hr]at h
   obtain⟨hi,rfl⟩:=List.getElem?_eq_some_iff.mp hr
   simp only[List.getElem_range,Option.map_some,Option.some.injEq]at h
   split at h
   ·rename_i hc
    refine⟨by simpa using hc,?_⟩
    induction q:Z[i]? using Option.casesOn with
    | none=>rw[q]at h;cases h
    | some o=>rw[q]at h;simp at h;rw[h]
   ·cases h
theorem lO(cap:List Nat)(Z:List (Option V)):(eD cap Z).length=Z.length:=by simp[eD]
theorem XT(hh:A.handled=none){ZB:Shared}{UA:List Addr}{BO:List O}(GL:Cx g A ZB UA d none)(KI:St g ZB UA BO)(Xc:Gd g c env){b:IE}{elt target iter:Expr}{scope:Scope}{pos:Pos}(hb:SE g A d none c env b elt){it:Value}{Y:List Addr}{It:Nat->Heap->List Addr->Prop}{item:Nat->List O->Option V->Prop}(I:wY g A target it Y It item)
 (hY:∀y∈Y,ZB.heap.get? y=none/\g.bA.get? y=none) (hC:ZB.heap.get? env.locals=none) {acc:Addr} (hacc:ZB.heap.get? acc=none/\g.bA.get? acc=none) (haY:acc∉Y) (hax:acc∉OC env) {tgt:List Nat} (htg:vN c tgt target=true) {Gc:List (Option V)} (uf:∀(i:Nat) (v:V),Gc[i]?=some (some v)->i∉tgt)
 {inv:List O->Prop} {R:Result->Shared->Prop} {K:List V->List O->Prop} (all:List V) (hitem:∀k J,inv J->item k J all[k]?)
 (hR:∀s U J vs os n Z,¬K vs J->St g s U J->Fm g c.nm s U env Z->NA ZB.heap s.heap UA U []->acc∉U->s.heap.get? acc=some {cls:= .type "list",data:= .seq os n}->PA g s.heap U vs os.toList->vs.length<=100000->R (.ok .next) s):
 ∀(xs:List V) (k:Nat) (s:Shared) (U:List Addr) (J:List O) (vs:List V) (os:Array Value) (n:Nat) (Z:List (Option V)),xs=all.drop k->vs.length+xs.length<=100000->¬WL inv (fun x J K=>rX J tgt x fun vs=>KD tgt vs Gc fun Z=>dE g d none b Z J K (fun u0 u0=>True)) xs J vs K->
  St g s U J->Fm g c.nm s U env Z->Z.length=Gc.length->(∀(i:Nat) (v:V),Gc[i]?=some (some v)->Z[i]?=some (some v))->NA ZB.heap s.heap UA U []->It k s.heap U->acc∉U->s.heap.get? acc=some {cls:= .type "list",data:= .seq os n}->PA g s.heap U vs os.toList->
  codeAny (model g.prog g.w) A (.compLoop (.ListComp elt [⟨target,iter,[],0⟩] scope pos) 0 it (.ref acc) env) R s:=by
 intro xs
 induction xs with
 | nil=>
   intro k s U J vs os n Z hx hz hw S F hlen Bc T hIt han ha rr
   have hw:=Classical.not_imp.mp hw
   have hk:all[k]?=none:=by
    rw[List.getElem?_eq_none_iff]
    exact List.drop_eq_nil_iff.mp hx.symm
   have hi:=hitem k J hw.1
   rw[hk]at hi
   refine NN (wpAny_mono (I.next k s U J S hIt none hi (fun s=>R (.ok .next) s) (fun u0 u0=>False) (fun u0 u0=>False) (fun u0 h' t B=>?_) (fun v e=>nomatch e)) (fun r CA p=>by
    induction r using Option.casesOn with
    | none=>exact p
    | some x=>exact wpAny_mono p (fun u0 u0 f=>f.elim) fun u0 u0 f=>f) fun u0 u0 e=>e)
   have hH:=I.hid _ _ _ hIt
   exact hR _ U J vs os n Z hw.2 (S.but hH (fun y m=>(hY y m).2) B t) (F.but hH B t) (T.but (fun y m=>(hY y m).1) B) han (B acc _ haY ha) (PA.congr (fun u0 u0 t=>IsTup.but hH B t) (fun u0 u0 e=>e) _ _ rr) (by simp at hz;exact hz)
 | cons x xs ih=>
   intro k s U J vs os n Z hx hz hw S F hlen Bc T hIt han ha rr
   obtain⟨hinv,hw⟩:=Classical.not_imp.mp hw
   obtain⟨us,hus,hw⟩:=gf hw
   rw[aI]at hw
   have hkl:k < all.length:=by
    rcases Nat.lt_or_ge k all.length with q | q
    ·exact q
    ·rw[List.drop_eq_nil_of_le q]at hx;cases hx
   have hd:=List.drop_eq_getElem_cons hkl
   rw[hd]at hx
   obtain⟨hx1,hx2⟩:=List.cons.inj hx
   have hk:all[k]?=some x:=by rw[List.getElem?_eq_getElem hkl, <-hx1]
   have hi:=hitem k J hinv
   rw[hk]at hi
   have hH:=I.hid _ _ _ hIt
   refine NN (wpAny_mono (I.next k s U J S hIt (some x) hi (fun u0=>False) (fun v aJ=>wpAny (model g.prog g.w) A (assign target env v) (fun u0 cA=>wpAny (model g.prog g.w) A (eval elt env) (fun x eC=>
    wpAny (model g.prog g.w) A (call (.builtin "list.append") [.ref acc,x]) (fun u0 nK=>codeAny (model g.prog g.w) A (.compLoop (.ListComp elt [⟨target,iter,[],0⟩] scope pos) 0 it (.ref acc) env) R nK) (fun u0 u0=>False) eC) (fun u0 u0=>False) cA) (fun u0 u0=>False) aJ) (fun u0 u0=>False) (fun e=>nomatch e) (fun v e KB gY xv B Xa rv=>?_)) (fun r CA p=>by
    induction r using Option.casesOn with
    | none=>exact p.elim
    | some x=>exact p) fun u0 u0 e=>e)
   cases e
   have DA:=S.but hH (fun y m=>(hY y m).2) B gY
   have mA:=(F.but hH B gY).weaken hlen.symm Bc
   have HA:=T.but (fun y m=>(hY y m).1) B
   have rE:=B acc _ haY ha
   have Pe:PA g KB U vs os.toList:=PA.congr (fun u0 u0 t=>IsTup.but hH B t) (fun u0 u0 e=>e) _ _ rr
   refine Wb Xc DA mA hh htg hus rv fun ZD EN eA UC nA Ic=>?_
   have AZ:=HA.but (h':=ZD) (fun y m=>by rw[List.mem_singleton.mp m];exact hC) Ic
   have KZ:=Ic acc _ (fun m=>hax (by rw[List.mem_singleton.mp m];exact .head _)) rE
   have YW:=Pe.step DA nA mA.noTup
   have AR:=I.frame _ _ _ _ {s with heap:=ZD,toks:=EN} _ _ _ _ Xa DA mA nA
   refine wpAny_mono (hb hw (GL.step (s':={s with heap:=ZD,toks:=EN}) KI AZ) eA UC) (fun w eC p=>?_) fun e eC p=>by obtain⟨l,_,_,_,f,_⟩:=p;exact(f trivial).elim
   obtain⟨mv,II,GF,q,rw',iB,XB⟩:=p
   have HG:=UC.step eA XB
   have bc:=AZ.trans XB
   obtain⟨o',LZ,kk⟩:=XB.keep acc _ KZ han (fun m=>nomatch m)
   have:=kk.eq (by show Value.type "list"≠Value.type "frame";decide) (by show Value.type "list"≠Value.type "traceback";decide)
   subst this
   have XV:=XB.memIff KZ han
   have WZ:=YW.step0 eA XB
   have Za:=I.frame _ _ _ _ eC _ _ _ _ AR eA UC XB.x
   have JS:=WZ.len
   rw[Array.length_toList]at JS
   simp only[List.length_cons]at hz
   refine append_at LZ (fun zM NS Xd=>?_) (by rw[OA];exact LB (eL JS) hz)
   obtain⟨IF,PS⟩:=iB.otherL XV hacc.2 LZ ⟨by show Value.type "list"≠Value.type "tuple";decide,by show Value.type "list"≠Value.type "traceback";decide⟩ NS eC.toks
   have hJ:=HG.otherL hax NS PS eC.toks
   have MD:=bc.but (h':=zM) (Y:=[acc]) (fun y m=>by rw[List.mem_singleton.mp m];exact hacc.1) (jC NS)
   have TO:=I.other _ _ zM _ Za (fun y o m e=>(NS.2 y fun q=>haY (q ▸ m)).trans e) PS
   refine ih (k+1) _ GF II (vs++[mv]) (os.push w) (n+1) (IC Gc tgt us) hx2 (by simp;exact BB hz) q IF hJ (TM _ _ _) (fun i v e=>by rw[XJ _ _ _ _ (uf i v e)];exact e) MD TO XV Xd ?_
   rw[Array.toList_push]
   exact(PA.congr PS (fun u0 u0 e=>e) _ _ WZ).append ⟨VA.congr PS (fun u0 u0 e=>e) _ _ rw',trivial⟩
noncomputable def PI(names:List (Str×NameKind)):List Str:=(names.filter fun p=>p.2== .free).map (·.1)
theorem OI(env:Env):∀(names:List (Str×NameKind)) (cs:List (Str×Addr)),(∀x,(x,NameKind.free)∈names->∃a,env.cells.lookup x=some a)->
 ∃cl,(forIn names cs (fun x r=>match x with | (name,kind)=>(do
  if kind== .free then do
   let y <-cellOf env name
   pure (ForInStep.yield ((name,y)::r))
  else pure (ForInStep.yield r):Sem (ForInStep (List (Str×Addr))))):Sem (List (Str×Addr)))=pure (cl++cs)/\(cl.map (·.1))=(PI names).reverse/\∀x a,(x,a)∈cl->env.cells.lookup x=some a
 | [],cs,_=>⟨[],rfl,rfl,fun u0 u0 m=>nomatch m⟩
 | (n,k)::r,cs,h=>by
   rw[List.forIn_cons]
   by_cases hk:k= .free
   ·subst hk
    obtain⟨a,ha⟩:=h n (.head _)
    obtain⟨cl,e,h1,h2⟩:=OI env r ((n,a)::cs) fun x m=>h x (List.mem_cons_of_mem _ m)
    refine⟨cl++[(n,a)],?_,?_,fun x b m=>?_⟩
    ·have hc:cellOf env n=pure a:=by unfold cellOf;rw[ha]
     simp only[beq_self_eq_true,if_true,hc,pure_bind]
     rw[e];simp
    ·simp[PI,h1]
    ·rcases List.mem_append.mp m with m | m
     ·exact h2 x b m
     ·simp at m;obtain⟨rfl,rfl⟩:=m;exact ha
   ·obtain⟨cl,e,h1,h2⟩:=OI env r cs fun x m=>h x (List.mem_cons_of_mem _ m)
    have hkb:(k==NameKind.free)=false:=by simpa using hk
    refine⟨cl,?_,?_,h2⟩
    ·simp only[hkb,Bool.false_eq_true,if_false,pure_bind]
     exact e
    ·simp[PI,hkb,h1]
theorem TL{sc:Scope}(h:∀x,(x,NameKind.free)∈sc.names->∃a,env.cells.lookup x=some a):∃cl,closureFor sc env=pure cl/\(cl.map (·.1))=(PI sc.names).reverse/\∀x a,(x,a)∈cl->env.cells.lookup x=some a:=by
 obtain⟨cl,e,h1,h2⟩:=OI env sc.names [] h
 refine⟨cl,?_,h1,h2⟩
 rw[List.append_nil]at e
 exact(congrArg (fun m:Sem (List (Str×Addr))=>m >>= fun s=>pure s) e).trans (pure_bind _ _)
theorem iN:∀{cl:List (Str×Addr)},(cl.map (·.1)).Nodup->(∀x y a,(x,a)∈cl->(y,a)∈cl->x=y)->(cl.map (·.2)).Nodup
 | [],_,_=>List.nodup_nil
 | (x,a)::r,hn,h=>by
   simp only[List.map_cons,List.nodup_cons]at hn ⊢
   refine⟨fun m=>?_,iN hn.2 fun x y a h1 h2=>h x y a (List.mem_cons_of_mem _ h1) (List.mem_cons_of_mem _ h2)⟩
   obtain⟨q,hq,e⟩:=List.mem_map.mp m
   obtain⟨y,b⟩:=q
   have e':b=a:=e
   subst e'
   have:=h x y b (.head _) (List.mem_cons_of_mem _ hq)
   subst this
   exact hn.1 (List.mem_map.mpr ⟨_,hq,rfl⟩)
theorem UF{β:Type}{x:Str}{a:β}:∀{l:List (Str×β)},l.lookup x=some a->(x,a)∈l
 | [],h=>by cases h
 | (y,b)::r,h=>by
   simp only[List.lookup_cons]at h
   split at h
   ·rename_i e
    cases h
    rw[eq_of_beq e];exact .head _
   ·exact List.mem_cons_of_mem _ (UF h)
theorem AF{β:Type}{x:Str}{a:β}:∀{l:List (Str×β)},(l.map (·.1)).Nodup->(x,a)∈l->l.lookup x=some a
 | (y,b)::r,hn,h=>by
   simp only[List.map_cons,List.nodup_cons]at hn
   simp only[List.lookup_cons]
   rcases List.mem_cons.mp h with h' | h'
   ·cases h';simp
   ·have:(x==y)=false:=by
     rw[beq_eq_false_iff_ne];intro e
     exact hn.1 (List.mem_map.mpr ⟨(x,a),h',e⟩)
    rw[this];exact AF hn.2 h'
theorem fN{f:Str×NameKind->Str×NameKind}(hf:∀p,(f p).1=p.1){x:Str}:∀{l:List (Str×NameKind)} {k:NameKind},l.lookup x=some k->(l.map f).lookup x=some (f (x,k)).2
 | (y,b)::r,k,h=>by
   simp only[List.lookup_cons]at h
   have h1:=hf (y,b)
   cases hfy:f (y,b)with
   | mk y' b'=>
     rw[hfy]at h1
     have h1':y'=y:=h1
     subst h1'
     simp only[List.map_cons,hfy,List.lookup_cons]
     split at h
     ·rename_i e
      cases h
      have:=eq_of_beq e
      subst this
      simp[hfy]
     ·exact fN hf h
 | [],_,h=>by cases h
structure RX(c:CC)(sc:Scope):Prop where
 kind:sc.kind= .function
 nodup:(sc.names.map (·.1)).Nodup
 kinds:∀p∈sc.names,p.2= .local\/p.2= .globalImplicit\/(p.2= .free/\c.sc.names.lookup p.1=some .cell)
theorem lS{sc:Scope}(h:aW c sc=true):RX c sc:=by
 unfold aW at h
 simp only[Bool.and_eq_true,beq_iff_eq,decide_eq_true_eq,List.all_eq_true,Bool.or_eq_true]at h
 obtain⟨⟨h1,h2⟩,h3⟩:=h
 exact⟨h1,h2,fun p m=>by
  rcases h3 p m with(q | q) | q
  ·exact .inl q
  ·exact .inr (.inl q)
  ·exact .inr (.inr q)⟩
theorem MP{sc:Scope}:∀{cap:List Nat},MF c sc cap=true->∀i∈cap,∃x,c.nm[i]?=some x/\c.sc.names.lookup ⟨x.toArray⟩=some .cell/\sc.names.lookup ⟨x.toArray⟩=some .free
 | j::r,h,i,m=>by
   simp only[MF.r1,MF.r2,Bool.and_eq_true]at h
   rcases List.mem_cons.mp m with rfl | m
   ·have h1:=h.1
    set_option tactic.hygienic true in split at h1
    ·rename_i x e
     simp only[Bool.and_eq_true,beq_iff_eq]at h1
     exact⟨x,e,h1⟩
    ·cases h1
   ·exact MP h.2 i m
theorem HI(X:Gd g c env)(hk:env.scope.kind= .function)(sc:Scope):(relabel sc env).names=(c.inner sc).sc.names:=by
 refine List.map_congr_left fun p u0=>?_
 obtain⟨n,k⟩:=p
 have:env.kindOf n=c.sc.names.lookup n:=by unfold Env.kindOf;rw[X.names]
 simp only[hk,this]
 by_cases h:(k==NameKind.free&&c.sc.names.lookup n==some NameKind.cell)=true
 ·rw[if_pos h,if_pos (by simpa using h)]
 ·rw[if_neg h,if_neg (by simpa using h)]
theorem mX(X:Gd g c env)(hk:env.scope.kind= .function){sc:Scope}(hs:RX c sc){cl:List (Str×Addr)}(hcl:(cl.map (·.1))=(PI sc.names).reverse)(C:Addr):Gd g (c.inner sc) (compEnvC sc cl C env):=by
 refine⟨X.K,HI X hk sc,fun x h=>?_⟩
 have hm:=UF h
 have hm':(x,NameKind.cell)∈(c.inner sc).sc.names:=by rw[<-HI X hk sc];exact hm
 obtain⟨p,hp,e⟩:=List.mem_map.mp hm'
 have hfree:(x,NameKind.free)∈sc.names:=by
  split at e
  ·rename_i hq
   simp only[Bool.and_eq_true,beq_iff_eq]at hq
   cases e
   obtain⟨a,b⟩:=p
   have:b=NameKind.free:=hq.1
   subst this;exact hp
  ·subst e
   rcases hs.kinds _ hp with q | q | ⟨q,_⟩ <;>cases q
 have:x∈cl.map (·.1):=by
  rw[hcl,List.mem_reverse]
  exact List.mem_map.mpr ⟨_,List.mem_filter.mpr ⟨hfree,rfl⟩,rfl⟩
 obtain⟨q,hq,rfl⟩:=List.mem_map.mp this
 have hn:(cl.map (·.1)).Nodup:=by
  rw[hcl]
  unfold List.Nodup
  rw[List.pairwise_reverse]
  exact(hs.nodup.sublist ((List.filter_sublist).map _)).imp fun h=>h.symm
 exact⟨q.2,AF hn hq⟩
theorem lX(X:Gd g c env)(S:St g s U J)(F:Fm g c.nm s U env Z){sc:Scope}(hs:RX c sc){cl:List (Str×Addr)}(hcl:(cl.map (·.1))=(PI sc.names).reverse)(hcl2:∀x a,(x,a)∈cl->env.cells.lookup x=some a){C:Addr}(hC:g.bA.get? C=none)(Wa:C∉U)
 {o:Obj} (ho:s.heap.get? C=some o) (hoc:o.cls= .type "dict") (hod:AC o) (hns:s.heap.Ns C (fun u0=>none)) {cap:List Nat} (hcap:MF c sc cap=true):Fm g c.nm s U (compEnvC sc cl C env) (eD cap Z):=by
 have hn:(cl.map (·.1)).Nodup:=by
  rw[hcl]
  unfold List.Nodup
  rw[List.pairwise_reverse]
  exact(hs.nodup.sublist ((List.filter_sublist).map _)).imp fun h=>h.symm
 have hcm:∀a∈cl.map (·.2),a∈env.cells.map (·.2):=fun a m=>by
  obtain⟨q,hq,rfl⟩:=List.mem_map.mp m
  exact XC (hcl2 q.1 q.2 hq)
 refine⟨hs.kind,F.glob,F.blt,F.frame,F.nodup,(lO ..).trans F.len,fun a m=>?_,fun a m=>?_,⟨o,ho, .inr hoc,hod⟩,fun a m=>F.ccls a (hcm a m),?_,_,hns,fun i x v hx hv=>?_⟩
 ·rcases List.mem_cons.mp m with rfl | m
  ·exact hC
  ·exact F.above a (List.mem_cons_of_mem _ (hcm a m))
 ·rcases List.mem_cons.mp m with rfl | m
  ·exact Wa
  ·exact F.out a (List.mem_cons_of_mem _ (hcm a m))
 ·refine iN hn fun x y a h1 h2=>?_
  exact QL F.once (hcl2 _ _ h1) (hcl2 _ _ h2)
 ·obtain⟨hi,Bc⟩:=WJ hv
  obtain⟨x',hx',k1,k2⟩:=MP hcap i hi
  rw[hx]at hx';cases hx'
  obtain⟨m,hm,vs⟩:=F.vars
  obtain⟨w,hw,r⟩:=vs i x v hx Bc
  have hko:env.kindOf ⟨x.toArray⟩=some .cell:=by unfold Env.kindOf;rw[X.names];exact k1
  refine⟨w, .inr ⟨.inl ?_,?_⟩,r⟩
  ·show(relabel sc env).names.lookup _=_
   have:=fN (f:=fun p=>if(p.2==NameKind.free&&env.scope.kind==ScopeKind.function&&env.kindOf p.1==some NameKind.cell)=true then(p.1,NameKind.cell)else(p.1,p.2)) (by intro p;split <;>rfl) k2
   refine Eq.trans ?_ (this.trans ?_)
   ·rfl
   ·simp[F.kind,hko]
  ·rcases hw with⟨q,_⟩ | ⟨_,c',hc',ic⟩
   ·rw[hko]at q;cases q
   ·refine⟨c',?_,ic⟩
    have:(⟨x.toArray⟩:Str)∈cl.map (·.1):=by
     rw[hcl,List.mem_reverse]
     exact List.mem_map.mpr ⟨_,List.mem_filter.mpr ⟨UF k2,rfl⟩,rfl⟩
    obtain⟨q,hq,e⟩:=List.mem_map.mp this
    obtain⟨q1,q2⟩:=q
    have e':q1=(⟨x.toArray⟩:Str):=e
    subst e'
    have:=hcl2 _ _ hq
    rw[hc']at this;cases this
    exact AF hn hq
end
section
variable{g:G}{A:Around}{d:Nat}{hd:Option Nat}{env:Env}{Z:List (Option V)}{c:CC}{E:Value->Shared->Prop}
theorem yL{L:Sem Addr}:∀(names:List (Str×NameKind)) (cs:List (Str×Addr)),(∀p∈names,p.2≠ .cell)->
 (forIn names cs (fun x r=>match x with | (name,kind)=>(do
  if kind== .cell then do
   let y <-L
   pure (ForInStep.yield ((name,y)::r))
  else pure (ForInStep.yield r):Sem (ForInStep (List (Str×Addr))))):Sem (List (Str×Addr)))=pure cs
 | [],cs,_=>rfl
 | (n,k)::r,cs,h=>by
   rw[List.forIn_cons]
   have hkb:(k==NameKind.cell)=false:=by have:=h (n,k) (.head _);simpa using this
   simp only[hkb,Bool.false_eq_true,if_false,pure_bind]
   exact yL r cs fun p m=>h p (List.mem_cons_of_mem _ m)
theorem BU{sc:Scope}{glb:Addr}{cl:List (Str×Addr)}{qual:Str}(h:∀p∈sc.names,p.2≠ .cell):
 newFunctionEnv sc glb cl [] qual none .none (some env)=(alloc {cls:= .type "dict",data:= .dict #[]} >>= fun L=>pure (newEnv sc L glb cl qual none .none (some env) builtinsNs)):=by
 unfold newFunctionEnv
 simp only[Option.isSome_some,if_true]
 refine bind_congr fun L=>?_
 have:=yL (L:=alloc {cls:= .type "cell",data:= .cell none}) sc.names cl h
 refine(congrArg (fun m:Sem (List (Str×Addr))=>m >>= _) this).trans ?_
 rw[pure_bind]
 rfl
theorem tK(Y:xC g)(X:Gd g c env){b:IE}{cap tgt:List Nat}{elt t iter:Expr}{sc:Scope}{pos:Pos}(hs:RX c sc)(h2:MF c sc cap=true)(h3:vN (c.inner sc) tgt t=true)(h4:∀i∈tgt,i∉cap)
 (h7:AE g (c.inner sc) b elt) {cl:List (Str×Addr)} (hcl:(cl.map (·.1))=(PI sc.names).reverse) (hcl2:∀x a,(x,a)∈cl->env.cells.lookup x=some a)
 {ZB:Shared} {UA:List Addr} {BO:List O} (GL:Cx g A ZB UA d none) (KI:St g ZB UA BO) (lQ:Fm g c.nm ZB UA env Z) {cA:Shared} {U:List Addr} {J:List O} (eA:St g cA U J) (nA:NA ZB.heap cA.heap UA U [])
 {it:Value} {Ys:List Addr} {It:Nat->Heap->List Addr->Prop} {item:Nat->List O->Option V->Prop} (I:wY g A t it Ys It item) (hY:∀y∈Ys,ZB.heap.get? y=none/\g.bA.get? y=none) (hIt:It 0 cA.heap U)
 (again:∀s,It 0 s.heap U->∀(Q:Value->Shared->Prop) (E:Value->Shared->Prop),Q it s->wpAny (model g.prog g.w) A (pyIter it) Q E s) {all:List V} {inv:List O->Prop} (hitem:∀k J,inv J->item k J all[k]?) (hlen:all.length<=10000) {K:V->List O->Prop}
 (hw:¬WL inv (fun x J K=>rX J tgt x fun vs=>KD tgt vs (eD cap Z) fun Z=>dE g d none b Z J K (fun u0 u0=>True)) all J [] (fun vs J=>K (.loc J.length) (J++[.list vs]))):
 wpAny (model g.prog g.w) A (newList []) (fun acc eC=>wpAny (model g.prog g.w) A (newFunctionEnv sc env.globals cl [] env.qual none .none (some env)) (fun cenv nK=>
  codeAny (model g.prog g.w) A (.compStart (.ListComp elt [⟨t,iter,[],0⟩] sc pos) 0 it acc {cenv with scope:=relabel sc env}) (compPost (model g.prog g.w) A E none (wA g ZB.heap UA [] (NK K)) acc cenv.locals) nK) E eC) E cA:=by
 have hh:A.handled=none:=GL.hand
 refine wpAny_newList ?_ (by show 0<=sizeLine;exact Nat.zero_le _)
 rw[BU (fun p m=>by rcases hs.kinds p m with q | q | ⟨q,_⟩ <;>rw[q] <;>decide)]
 refine wpAny_bind (wpAny_alloc (wpAny_pure ?_))
 have iB:=eA.pushU {cls:= .type "list",data:= .seq #[]}
 have XB:NA ZB.heap (cA.heap.push {cls:= .type "list",data:= .seq #[]}) UA U []:=nA.trans (.pushU ..)
 have IF:=iB.pushU {cls:= .type "dict",data:= .dict #[]}
 have MD:NA ZB.heap ((cA.heap.push {cls:= .type "list",data:= .seq #[]}).push {cls:= .type "dict",data:= .dict #[]}) UA U []:=XB.trans (.pushU ..)
 generalize HS:cA.heap.push {cls:= .type "list",data:= .seq #[]}=KC at*
 have hacc0:ZB.heap.get? cA.heap.objs.size=none:=by
  induction e:ZB.heap.get? cA.heap.objs.size using Option.casesOn with
  | none=>rfl
  | some o=>obtain⟨o',e'⟩:=nA.alive _ o e;exact absurd (Heap.lt_size e') (Nat.lt_irrefl _)
 have hC0:ZB.heap.get? KC.objs.size=none:=by
  induction e:ZB.heap.get? KC.objs.size using Option.casesOn with
  | none=>rfl
  | some o=>obtain⟨o',e'⟩:=XB.alive _ o e;exact absurd (Heap.lt_size e') (Nat.lt_irrefl _)
 have hCa:KC.objs.size=cA.heap.objs.size+1:=by rw[<-HS,Heap.size_push]
 have hac:(KC.push {cls:= .type "dict",data:= .dict #[]}).get? cA.heap.objs.size=some {cls:= .type "list",data:= .seq #[]}:=by
  refine Heap.get?_push_of_some _ ?_
  rw[<-HS];exact Heap.get?_push_size _ rfl
 have hcd:(KC.push {cls:= .type "dict",data:= .dict #[]}).get? KC.objs.size=some {cls:= .type "dict",data:= .dict #[]}:=Heap.get?_push_size _ rfl
 have hJ:=lQ.step (s':={cA with heap:=KC.push {cls:= .type "dict",data:= .dict #[]}}) KI MD
 have Xc:=mX X lQ.kind hs hcl KC.objs.size
 have Wa:KC.objs.size∉U:=fun m=>absurd (iB.lt m) (Nat.lt_irrefl _)
 have Fc:=lX (C:=KC.objs.size) X IF hJ hs hcl hcl2 iB.new.1 Wa hcd rfl ⟨#[],0,rfl⟩ ⟨_, #[],0,hcd,rfl,fun e he=>by simp at he,fun name=>rfl⟩ h2
 have TO:It 0 (KC.push {cls:= .type "dict",data:= .dict #[]}) U:=by
  refine I.other _ _ _ _ hIt (fun y o u0 e=>Heap.get?_push_of_some _ ?_) (fun a os t=>nC _ ?_)
  ·rw[<-HS];exact Heap.get?_push_of_some _ e
  ·rw[<-HS];exact nC _ t
 have hk2:∀a∈env.cells.map (·.2),a < cA.heap.objs.size:=fun a m=>by
  obtain⟨o,v,e,_⟩:=lQ.ccls a m
  obtain⟨o',e'⟩:=nA.alive _ o e
  exact Heap.lt_size e'
 have loop:∀st,st=Code.compLoop (.ListComp elt [⟨t,iter,[],0⟩] sc pos) 0 it (.ref cA.heap.objs.size) (compEnvC sc cl KC.objs.size env)->codeAny (model g.prog g.w) A st (compPost (model g.prog g.w) A E none (wA g ZB.heap UA [] (NK K)) (.ref cA.heap.objs.size) KC.objs.size) {cA with heap:=KC.push {cls:= .type "dict",data:= .dict #[]}}:=by
  rintro st rfl
  refine XT hh GL KI Xc (h7 _ _ _ _ Xc) I hY hC0 ⟨hacc0,eA.new.1⟩ (fun m=>?_) (fun m=>?_) h3 (Gc:=eD cap Z) (fun i v e m=>h4 i m (WJ e).1) all hitem ?_ all 0 _ U J [] #[] 0 _ (by simp) (by simp;exact TD hlen) hw IF Fc rfl (fun i v e=>e) MD TO (fun m=>absurd (eA.lt m) (Nat.lt_irrefl _)) hac trivial
  ·obtain⟨o,e,_⟩:=I.hid _ _ _ hIt _ m
   exact absurd (Heap.lt_size e) (Nat.lt_irrefl _)
  ·rcases List.mem_cons.mp m with q | m
   ·have:cA.heap.objs.size=KC.objs.size:=q
    rw[hCa]at this;exact absurd this (Nat.ne_of_lt (Nat.lt_succ_self _))
   ·obtain⟨q,hq,e⟩:=List.mem_map.mp m
    have:=hk2 _ (XC (hcl2 q.1 q.2 hq))
    rw[e]at this;exact absurd this (Nat.lt_irrefl _)
  ·intro s rA LA vs os n gK hq S F T han ha rr hvs
   obtain⟨m,hm,_⟩:=F.vars
   refine⟨m,hm,fun h' hs'=>?_⟩
   obtain⟨o,ho,hcls,_⟩:=F.lcls
   have hClo:(compEnvC sc cl KC.objs.size env).locals=KC.objs.size:=rfl
   rw[hClo]at ho
   have hne:cA.heap.objs.size≠KC.objs.size:=by rw[hCa];exact Nat.ne_of_lt (Nat.lt_succ_self _)
   obtain⟨S',ht⟩:=S.otherL (F.out _ (.head _)) (F.above _ (.head _)) ho (by rcases hcls with q | q <;>rw[q] <;>decide) hs' s.toks
   have T':=T.but (h':=h') (Y:=[KC.objs.size]) (fun y m=>by rw[List.mem_singleton.mp m];exact hC0) (jC hs')
   refine CF hq ⟨_,?_,rfl⟩ (S'.track (.list vs) han eA.new.1 eA.new.2 ⟨os,n,(hs'.2 _ hne).trans ha,?_,PA.congr ht (fun l b e=>by rw[List.getElem?_append_left (List.getElem?_eq_some_iff.mp e).1];exact e) _ _ rr⟩) (T'.track hacc0)
   ·rw[<-S'.len];exact HC ..
   ·exact TD hvs
 refine codeAny_compStart_list (loop _ rfl) (again _ TO _ _ (loop _ rfl))
theorem nX{c:CC}{env:Env}(Y:xC g)(X:Gd g c env){b it:IE}{cap tgt:List Nat}{elt t iter:Expr}{sc:Scope}{pos:Pos}(h1:aW c sc=true)(h2:MF c sc cap=true)(h3:vN (c.inner sc) tgt t=true)
 (h4:∀i∈tgt,i∉cap) (h5:vD iter=false) (h6:SE g A d hd c env it iter) (h7:AE g (c.inner sc) b elt):
 SE g A d hd c env (.comp b cap tgt it) (.ListComp elt [⟨t,iter,[],0⟩] sc pos):=by
 intro Z J K E hw s U C S F
 have hs:=lS h1
 obtain⟨cl,hclos,hcl,hcl2⟩:=TL (sc:=sc) (env:=env) fun x m=>by
  rcases hs.kinds _ m with q | q | ⟨_,q⟩
  ·cases q
  ·cases q
  ·exact X.cells x (by rw[X.names];exact q)
 rw[arm_eval_ListComp]
 refine wpAny_comprehension_free rfl (fun u0=>cL h5) hclos hs.kind (fun x m e=>AF hs.nodup (by obtain⟨a,b⟩:=x;subst e;exact m)) ?_
 refine two h6 hw C S F fun x CA mv JA BA q rv HB DA mA HA=>?_
 obtain⟨rfl,q⟩:=rG q
 have hh:=C.hand
 have hY:∀y∈[CA.heap.objs.size],s.heap.get? y=none/\g.bA.get? y=none:=fun y m=>by
  rw[List.mem_singleton.mp m];exact⟨by
   induction e:s.heap.get? CA.heap.objs.size using Option.casesOn with
   | none=>rfl
   | some o=>obtain⟨o',e'⟩:=HA.alive _ o e;exact absurd (Heap.lt_size e') (Nat.lt_irrefl _),DA.new.1⟩
 clear hw
 induction mv using V.casesOn with
 | tup vs=>
   obtain⟨hlen,q⟩:=Classical.not_imp.mp q
   obtain⟨a,os,rfl,t',z,r⟩:=rv
   have t'':=t'
   obtain⟨o,e,c1,n,dd⟩:=t''
   refine wpAny_pyIter_tuple ⟨o,e,c1,n,dd⟩ ?_
   exact tK Y X hs h2 h3 h4 h7 hcl hcl2 C S F (DA.pushU _) (HA.trans (.pushU ..)) (sJ (os:=os) (a:=a) hh) hY ⟨⟨_,Heap.get?_push_size _ rfl,rfl,rfl⟩,nC _ t',r.step0 DA (.pushU ..)⟩
    (fun s hi Q E q=>PySem.wpAny_pyIter_tupleiter hi.1 q) (fun k J u0=>rfl) hlen q
 | loc l=>
   obtain⟨a,ha,rfl⟩:=rv
   obtain⟨ob,q⟩:=Classical.not_forall.mp q
   obtain⟨hl,q⟩:=Classical.not_imp.mp q
   induction ob using O.casesOn with
   | list vs=>
     obtain⟨hlen,q⟩:=Classical.not_imp.mp q
     obtain⟨os,n,ho,hz,rr⟩:=DA.objs _ a _ ha hl
     refine wpAny_pyIter_list (OD ho) ?_
     exact tK Y X hs h2 h3 h4 h7 hcl hcl2 C S F (DA.pushU _) (HA.trans (.pushU ..)) (sL (l:=l) (a:=a) hh) hY ⟨ha,_,Heap.get?_push_size _ rfl,rfl,rfl⟩
      (fun s hi Q E q=>wpAny_pyIter_listiter hi.2 q) (fun k J h=>⟨_,h,rfl⟩) hlen q
   | dict kvs ep=>
     obtain⟨hlen,q⟩:=Classical.not_imp.mp q
     obtain⟨ps,D,hz,rr⟩:=DA.objs _ a _ ha hl
     refine wpAny_pyIter_dict (WI Y DA ha) D ?_
     exact tK Y X hs h2 h3 h4 h7 hcl hcl2 C S F (DA.pushU _) (HA.trans (.pushU ..)) (rP (kvs:=kvs) (ep:=ep) (l:=l) (a:=a) hh) hY ⟨ha,_,Heap.get?_push_size _ rfl,rfl,by show _=Data.fields #[Value.ref a, .int 0 0, .int kvs.length 0, .int ep 0];rw[<-rr.len]⟩
      (fun s hi Q E q=>PySem.wpAny_pyIter_keyiter hi.2 q) (fun k J h=>⟨h,by rw[List.getElem?_map]⟩) hlen q
   | _=>exact(q trivial).elim
 | _=>exact(q trivial).elim
theorem CV{c:CC}{env:Env}(Y:xC g)(X:Gd g c env){b hi:IE}{cap:List Nat}{tgt:Nat}{elt t f x:Expr}{sc:Scope}{pos p:Pos}(h1:aW c sc=true)(h2:MF c sc cap=true)(h3:vN (c.inner sc) [tgt] t=true)
 (h4:cap.contains tgt=false) (h5:VG c f=true) (hx:gC x=false) (h6:SE g A d hd c env hi x) (h7:AE g (c.inner sc) b elt):
 SE g A d hd c env (.compR b cap tgt hi) (.ListComp elt [⟨t, .Call f [x] [] p,[],0⟩] sc pos):=by
 intro Z J K E hw s U C S F
 have hs:=lS h1
 obtain⟨cl,hclos,hcl,hcl2⟩:=TL (sc:=sc) (env:=env) fun x m=>by
  rcases hs.kinds _ m with q | q | ⟨_,q⟩
  ·cases q
  ·cases q
  ·exact X.cells x (by rw[X.names];exact q)
 rw[arm_eval_ListComp]
 refine wpAny_comprehension_free rfl (fun u0=>rfl) hclos hs.kind (fun x m e=>AF hs.nodup (by obtain⟨a,b⟩:=x;subst e;exact m)) ?_
 refine VK Y X h5 hx h6 hw (fun v J q=>?_) C S F fun n JA CA BA y q DA mA HA y1 y2 hit=>?_
 ·have q:=(rG q).2
  induction v using V.casesOn with
  | int n=>exact⟨_,rfl,by have:=(Classical.not_imp.mp q).1;lia,(Classical.not_imp.mp (Classical.not_imp.mp q).2).1⟩
  | _=>exact(q trivial).elim
 obtain⟨rfl,q⟩:=rG q
 obtain⟨hn0,q⟩:=Classical.not_imp.mp q
 obtain⟨hn1,q⟩:=Classical.not_imp.mp q
 have hh:=C.hand
 have hY:∀z∈[y],s.heap.get? z=none/\g.bA.get? z=none:=fun z m=>by
  rw[List.mem_singleton.mp m];exact⟨y1,y2⟩
 refine tK Y X hs h2 h3 (fun i m=>by rw[List.mem_singleton.mp m];simpa using h4) h7 hcl hcl2 C S F DA HA (ZN (lo:=0) (hi:=n) hh) hY (by simpa using hit)
  (fun s hi Q E q=>PySem.wpAny_pyIter_rangeiter hi q) (fun k J u0=>?_) (by simp;lia) q
 by_cases hk:k < n.toNat
 ·rw[if_pos (by clear q;lia),List.getElem?_map,List.getElem?_range hk];simp
 ·rw[if_neg (by clear q;lia),List.getElem?_eq_none (by clear q;simp;lia)]
end
section
variable{g:G}{A:Around}{d:Nat}{hd:Option Nat}{c:CC}{env:Env}{Z:List (Option V)}{J JA:List O}{s CA:Shared}{U BA:List Addr}
theorem TZ{a:IE}{x:Expr}(ha:SE g A d hd c env a x){K:V->List O->Prop}{E:Nat->List O->Prop}(h:¬dE g d hd a Z JA K E)(C:Cx g A CA BA d hd)(S:St g CA BA JA)(F:Fm g c.nm CA BA env Z)(HA:NA s.heap CA.heap U BA [])
 {R:Value->Shared->Prop}
 (k:∀v cA mv TC bB,¬K mv TC->VA g cA.heap bB mv v->Cx g A cA bB d hd->St g cA bB TC->Fm g c.nm cA bB env Z->NA CA.heap cA.heap BA bB []->NA s.heap cA.heap U bB []->R v cA):
 wpAny (model g.prog g.w) A (eval x env) R (dA g s.heap U [] (NK E)) CA:=
 wpAny_mono (two ha h C S F fun v cA mv TC bB q r oE eA UC nA=>k v cA mv TC bB q r oE eA UC nA (HA.trans nA)) (fun u0 u0 p=>p) fun u0 u0 e=>e.from HA
theorem Cx.tk{t:Nat}(C:Cx g A s U d hd):Cx g A {s with toks:=t} U d hd:=⟨C.depth,C.units,C.hand,C.stk⟩
theorem Fm.tk{t:Nat}(S:St g s U J)(F:Fm g c.nm s U env Z):Fm g c.nm {s with toks:=t} U env Z:=F.step S (.refl ..)
theorem Ge{ie:IE}{f:Expr->Option IE}{o:Option Expr}(hx:∀x,RD (f x) fun ie=>SE g A d hd c env ie x)(e:bM f o=some ie)
 {K:V->List O->Prop} {E:Nat->List O->Prop} (h:¬dE g d hd ie Z JA K E) (C:Cx g A CA BA d hd) (S:St g CA BA JA) (F:Fm g c.nm CA BA env Z) (HA:NA s.heap CA.heap U BA [])
 {R:Value->Shared->Prop}
 (k:∀v cA mv TC bB,¬K mv TC->VA g cA.heap bB mv v->Cx g A cA bB d hd->St g cA bB TC->Fm g c.nm cA bB env Z->NA CA.heap cA.heap BA bB []->NA s.heap cA.heap U bB []->R v cA):
 wpAny (model g.prog g.w) A (evalPart o env) R (dA g s.heap U [] (NK E)) CA:=by
 induction o using Option.casesOn with
 | some x=>have:=hx x;rw[show f x=some ie from e]at this;exact TZ this h C S F HA k
 | none=>cases e;exact wpAny_pure (k _ _ .none _ _ h rfl C S F (.refl ..) HA)
end
section
variable{g:G}{c:CC}{pos:Pos}
theorem qa(Y:xC g){id:Str}:RD (YR c id) fun ie=>AE g c ie (.Name id pos):=by
 unfold YR
 induction h:c.isVar (c.at id) id using Bool.casesOn with
 | true=>
   obtain⟨h1,h2⟩:=hV h
   intro A d hd env X Z J K E hw s U C S F
   obtain⟨v,hv,q⟩:=vc hw
   exact wpAny_mono (MY S F h1 hv (aY rfl) (kH h2).1 (kH h2).2 (Q:=NK K) q) (fun u0 u0 x=>x) fun u0 u0 x=>x
 | false=>
   induction hr:mH c.K id using Option.casesOn with
   | none=>trivial
   | some v=>exact .when fun h A d hd env X Z J K E hw s U C S F=>qR Y S X.1 X.2 F.kind F.glob F.blt h (KQ (Q:=NK K) S hw rfl)
theorem oX{k:Const}{n:Nat}:RD (tS k) fun ie=>AE g c ie (.Constant k n pos):=by
 induction k using PySem.Const.casesOn with
 | none=>exact fun A d hd env X Z J K E hw s U C S F=>wpAny_pure (KQ (Q:=NK K) S hw rfl)
 | bool b=>exact fun A d hd env X Z J K E hw s U C S F=>wpAny_pure (KQ (Q:=NK K) S hw rfl)
 | int b=>exact fun A d hd env X Z J K E hw s U C S F=>wpAny_Constant_int (dD (Q:=NK K) S hw ⟨_,rfl⟩ _)
 | str x=>
   refine .when fun h A d hd env X Z J K E hw s U C S F=>?_
   obtain⟨h1,h2,h3⟩:=EQ h
   exact Calls.Constant_str (dD (Q:=NK K) S hw ⟨_,by rw[<-h1],h2,h3⟩ _)
 | _=>trivial
theorem yc{op:Operator}{a b:IE}{l r:Expr}(ha:AE g c a l)(hb:AE g c b r):AE g c (.bin op a b) (.BinOp l op r pos):=fun A d hd env X Z J K E hw s U C S F=>
 wpAny_BinOp (two (ha A d hd env X) hw C S F fun v CA mv JA BA q rv HB DA mA HA=>TZ (hb A d hd env X) q HB DA mA HA fun w cA mw TC bB q rw' oE eA UC nA T=>
  wpAny_mono (fX oE eA (rv.step0 DA nA) rw' (bf q)) (fun u0 u0 p=>p.from T) fun u0 u0 e=>e)
theorem Ad(Y:xC g){op:CmpOp}{a b:IE}{l r:Expr}(hs:vD r=false)(ha:AE g c a l)(hb:AE g c b r):AE g c (.cmp op a b) (.Compare l [op] [r] pos):=fun A d hd env X Z J K E hw s U C S F=>
 wpAny_Compare1 (two (ha A d hd env X) hw C S F fun v CA mv JA BA q rv HB DA mA HA=>TZ (hb A d hd env X) q HB DA mA HA fun w cA mw TC bB q rw' oE eA UC nA T=>by
  obtain⟨r,hr,q⟩:=bX q
  exact HO Y oE eA (rv.step0 DA nA) rw' hr fun t=>⟨_,_,_,q,rfl,eA.toks t,T⟩) (zV hs)
theorem Bd(Y:xC g){op:CmpOp}{a b:IE}{l r:Expr}(hs:vD r=false)(ha:AE g c a l)(hb:AE g c b r):AT g c (.e (.cmp op a b)) (.Compare l [op] [r] pos):=fun A d hd env X Z J K1 K2 E hw s U C S F=>
 wpAny_isTrue_Compare1 (two (ha A d hd env X) hw C S F fun v CA mv JA BA q rv HB DA mA HA=>TZ (hb A d hd env X) q HB DA mA HA fun w cA mw TC bB q rw' oE eA UC nA T=>by
  obtain⟨r,hr,q⟩:=bX q
  exact HO Y oE eA (rv.step0 DA nA) rw' hr fun t=>wpAny_truthy_bool ⟨_,_,yb q,eA.toks t,T⟩) (zV hs)
theorem Ga(Y:xC g){op1 op2:CmpOp}{a b:IE}{l r1:Expr}{n:Int}{kn:Nat}{kp:Pos}(g1:vD r1=false)(ha:AE g c a l)(hb:AE g c b r1):AT g c (.e (.cmp2 a op1 b op2 (.int n))) (.Compare l [op1,op2] [r1, .Constant (.int n) kn kp] pos):=by
 intro A d hd env X Z J K1 K2 E hw s U C S F
 rw[arm_isTrue_Compare]
 refine wpAny_bind (two (ha A d hd env X) hw C S F fun v CA mv JA BA q rv HB DA mA HA=>?_)
 show wpAny _ _ (testChain pos v [op1,op2] [eval r1 env,markedBehindIn op2 (.Constant (.int n) kn kp) (eval (.Constant (.int n) kn kp) env)]) _ _ _
 rw[markedBehindIn_of_false (zV rfl)]
 ·refine wpAny_bind (wpAny_holding (TZ (hb A d hd env X) q HB DA mA HA fun w cA mw TC bB q rw' oE eA UC nA T=>?_))
  obtain⟨r,hr,q⟩:=bX q
  obtain⟨r2,hr2,q⟩:=bX (show ¬HV TC op2 mw (.int n) (fun r2=>zb (r&&r2) (K1 TC) (K2 TC))from q)
  have q:=yb q
  refine wpAny_bind (wpAny_standAt (wpAny_bind (wpAny_holding (HO Y oE eA (rv.step0 DA nA) rw' hr fun t=>?_))))
  refine wpAny_bind (MM (wpAny_bind (wpAny_holding (wpAny_truthy_bool ?_))))
  induction r using Bool.casesOn with
  | false=>rw[if_neg Bool.false_ne_true];exact wpAny_pure ⟨_,_,q,eA.toks t,T⟩
  | true=>
    rw[if_pos rfl]
    have iB:=(eA.toks t).toks (t+1)
    refine wpAny_bind (wpAny_holding (wpAny_Constant_int (wpAny_bind (wpAny_standAt (wpAny_bind (XI (HO Y (Cx.tk (Cx.tk oE)) iB rw' (show VA g cA.heap bB (.int n) (.int n t)from⟨_,rfl⟩) hr2 fun t'=>wpAny_holding (wpAny_truthy_bool ⟨_,_,q,iB.toks t',T⟩))))))))
theorem zd{a:IE}{x:Expr}(ha:AE g c a x):AE g c (.neg a) (.UnaryOp .USub x pos):=fun A d hd env X Z J K E hw s U C S F=>
 wpAny_UnaryOp (two (ha A d hd env X) hw C S F fun v CA mv JA BA q rv HB DA mA HA=>by
  induction mv using V.casesOn with
  | int i=>obtain⟨t,rfl⟩:=rv;exact PyProof.Rows.neg_int ⟨_,_,_,q,⟨_,rfl⟩,DA.toks _,HA⟩
  | _=>exact(q trivial).elim)
theorem sd{t:IT}{a b:IE}{t' a' b':Expr}(ht:AT g c t t')(ha:AE g c a a')(hb:AE g c b b'):AE g c (.ite t a b) (.IfExp t' a' b' pos):=fun A d hd env X Z J K E hw s U C S F=>
 wpAny_IfExp (wpAny_mono (ht A d hd env X hw C S F) (fun r CA p=>by
  obtain⟨JA,BA,q,DA,HA⟩:=p
  induction r using Bool.casesOn with
  | true=>exact SV HA (ha A d hd env X q (C.step S HA) DA (F.step S HA))
  | false=>exact SV HA (hb A d hd env X q (C.step S HA) DA (F.step S HA))) fun u0 u0 e=>e)
theorem bL{es:jJ}{xs:List Expr}(h:BH (AE g c) es xs):∀(A:Around) (d:Nat) (hd:Option Nat) (env:Env),Gd g c env->kg g A d hd c env es xs:=by
 intro A d hd env X
 induction h with
 | nil=>exact fun {Z J K E} hw {s U} pos C S F=>Calls.spliced_nil ⟨[],_,_,hw,trivial,S, .refl ..⟩
 | cons h p _ ih=>
   intro Z J K E hw s U pos C S F
   rw[aC h,LF]
   refine Calls.spliced_cons (two (p A d hd env X) hw C S F fun v CA mv JA BA q rv HB DA mA HA=>?_)
   refine wpAny_mono (ih q pos HB DA mA) (fun vs cA p=>?_) fun u0 u0 e=>e.from HA
   obtain⟨mvs,TC,bB,q2,rs,eA,nA⟩:=p
   exact⟨mv::mvs,_,_,q2,⟨rv.step0 DA nA,rs⟩,eA,HA.trans nA⟩
set_option tactic.hygienic true in
theorem wZ(Y:xC g){es:jJ}{xs:List Expr}(h:BH (AE g c) es xs):∀(A:Around) (d:Nat) (hd:Option Nat) (env:Env),Gd g c env->Xf g A d hd c env es xs:=by
 intro A d hd env X
 induction h with
 | nil=>exact fun {Z J K E} hw=>(hw trivial).elim
 | cons h p hr ih=>
   intro Z J K E hw s U pos C S F
   cases hr with
   | nil=>exact p A d hd env X hw C S F
   | cons h2 p2 hr2=>
     rename_i x _ _ x2 xs
     ·refine wpAny_bind (two (p A d hd env X) hw C S F fun v CA mv JA BA q rv HB DA mA HA=>?_)
      obtain⟨b,hb,q⟩:=sU q
      have q:=yb q
      refine wpAny_bind (wpAny_standAt (wpAny_bind (wpAny_holding (xN Y DA rv hb fun t=>?_))))
      induction b using Bool.casesOn with
      | false=>exact wpAny_pure ⟨_,_,_,q,rv,DA.toks t,HA⟩
      | true=>exact wpAny_mono (ih q pos (s:={CA with toks:=t}) (Cx.tk HB) (DA.toks t) (Fm.tk DA mA)) (fun w cA p=>p.from HA) fun u0 u0 e=>e.from HA
set_option tactic.hygienic true in
theorem Kd{es:jJ}{xs:List Expr}(h:BH (AE g c) es xs):∀(A:Around) (d:Nat) (hd:Option Nat) (env:Env),Gd g c env->jg g A d hd c env es xs:=by
 intro A d hd env X
 induction h with
 | nil=>
   intro ks keys hk hl Z J K E hw s U pos C S F
   induction ks using List.casesOn with
   | cons _ _=>simp at hl
   | nil=>
     have:pairTrees keys [] env pos=[]:=by cases keys with | nil=>rfl | cons k _=>induction k using Option.casesOn <;>rfl
     rw[this]
     exact evalPairs_nil ⟨[],_,_,hw,trivial,S, .refl ..⟩
 | cons h p hr ih=>
   intro ks keys hk hl Z J K E hw s U pos C S F
   induction ks using List.casesOn with
   | nil=>simp at hl
   | cons k ks=>
     rename_i x xs
     obtain⟨kx,n,p',keys,rfl,hk1,hk2⟩:=zI hk
     obtain⟨rfl,_,_⟩:=EQ hk1
     show wpAny _ _ (evalPairs ((eval (.Constant (.str ⟨k.toArray⟩) n p') env,do let y <-eval x env;standAt pos;pure y)::pairTrees keys xs env pos)) _ _ _
     refine evalPairs_cons (Calls.Constant_str (wpAny_bind ?_))
     refine two (p A d hd env X) hw (s:={s with toks:=s.toks+1}) (Cx.tk C) (S.toks _) (Fm.tk S F) fun v CA mv JA BA q rv HB DA mA HA=>?_
     refine wpAny_bind (wpAny_standAt (wpAny_pure ?_))
     refine wpAny_mono (ih _ _ hk2 (by simpa using hl) q pos HB DA mA) (fun vs cA p=>?_) fun u0 u0 e=>e.from HA
     obtain⟨mvs,TC,bB,q2,rs,eA,nA⟩:=p
     exact⟨mv::mvs,_,_,q2,⟨⟨_,rfl⟩,rv.step0 DA nA,rs⟩,eA,NA.trans HA nA⟩
theorem xe{es:jJ}{xs:List Expr}{k:Nat}(h:BH (AE g c) es xs):AE g c (.tup es) (.Tuple xs k pos):=by
 intro A d hd env X Z J K E hw s U C S F
 refine PyProof.Rows.Tuple_ (wpAny_mono (bL h A d hd env X hw pos C S F) (fun xs CA p=>?_) fun u0 u0 e=>e)
 obtain⟨mvs,JA,BA,q,r,DA,HA⟩:=p
 obtain⟨hz,q⟩:=uc q
 have hl:=r.len
 refine wpAny_newObj_type ?_ (by show xs.toArray.size<=sizeLine;rw[List.size_toArray,OA];exact LB (eL hl) hz)
 refine CF q ⟨_,xs.toArray,rfl,⟨_,Heap.get?_push_size _ rfl,rfl,0,rfl⟩,by exact TD hz,?_⟩ (DA.pushU _) (HA.trans (.pushU ..))
 exact(by simpa using r:PA g CA.heap BA mvs xs.toArray.toList).step0 DA (.pushU ..)
theorem wd{es:jJ}{xs:List Expr}(h:BH (AE g c) es xs):AE g c (.lst es) (.List xs pos):=by
 intro A d hd env X Z J K E hw s U C S F
 refine PyProof.Rows.List_ (wpAny_mono (bL h A d hd env X hw pos C S F) (fun xs CA p=>?_) fun u0 u0 e=>e)
 obtain⟨mvs,JA,BA,q,r,DA,HA⟩:=p
 obtain⟨hz,q⟩:=uc q
 have hl:=r.len
 refine wpAny_newObj_type ?_ (by show xs.toArray.size<=sizeLine;rw[List.size_toArray,OA];exact LB (eL hl) hz)
 refine CF q ⟨_,?_,rfl⟩ (DA.pushT _ (.list mvs) rfl ⟨xs.toArray,0,Heap.get?_push_size _ rfl,by exact TD hz,?_⟩) (HA.trans (.pushT ..))
 ·rw[<-DA.len];exact HC ..
 ·exact(by simpa using r:PA g CA.heap BA mvs xs.toArray.toList).step0 DA (.pushT ..)
theorem Hd(Y:xC g){es:jJ}{keys:List (Option Expr)}{xs:List Expr}{ks:List (List Nat)}(h1:FH ks keys=true)(h3:ks.length=xs.length)(h4:ks.length<=15)(h:BH (AE g c) es xs):AE g c (.dct ks es) (.Dict keys xs pos):=by
 intro A d hd env X Z J K E hw s U C S F
 have T0:=NA.pushU s.heap U {cls:= .type "dict",data:= .dict #[]}
 refine aT Y C S h1 h3 h4 (wpAny_mono (Kd h A d hd env X _ _ h1 h3 hw pos (s:={s with heap:=s.heap.push {cls:= .type "dict",data:= .dict #[]}}) (C.step S T0) (S.pushU _) (F.step S T0)) (fun ps s' p=>?_) fun u0 u0 e=>e)
 obtain⟨vs,LA,rA,q,r,S,T⟩:=p
 have q1:=Classical.not_imp.mp q
 have q2:=Classical.not_imp.mp q1.2
 exact⟨vs,LA,rA,⟨q1.1,q2.1,fun ep k=>nn q2.2 ep k⟩,r,S,T⟩
theorem ld(Y:xC g){a i:IE}{v sl:Expr}(ha:AE g c a v)(hi:AE g c i sl):AE g c (.idx a i) (.Subscript v sl pos):=by
 intro A d hd env X Z J K E hw s U C S F
 rw[arm_eval_Subscript]
 refine wpAny_bind (two (ha A d hd env X) hw C S F fun x CA mv JA BA q rv HB DA mA HA=>?_)
 refine wpAny_bind (wpAny_holding (TZ (hi A d hd env X) q HB DA mA HA fun y cA mw TC bB q rw' oE eA UC nA T=>?_))
 obtain⟨r,q⟩:=Classical.not_forall.mp q
 obtain⟨hr,q⟩:=Classical.not_imp.mp q
 exact wpAny_bind (wpAny_standAt (ia Y eA (rv.step0 DA nA) rw' hr fun w t rr=>⟨_,_,_,q,rr,eA.toks t,T⟩))
theorem Xe(Y:xC g){f:Expr->Option IE}(hf:∀x,RD (f x) fun ie=>AE g c ie x){a lo hi:IE}{v:Expr}{l u:Option Expr}{p:Pos}(ha:AE g c a v)(h1:bM f l=some lo)(h2:bM f u=some hi):AE g c (.slc a lo hi) (.Subscript v (.Slice l u none p) pos):=by
 intro A d hd env X Z J K E hw s U C S F
 have hf':∀x,RD (f x) fun ie=>SE g A d hd c env ie x:=fun x=>by
  have:=hf x
  induction e:f x using Option.casesOn with
  | none=>trivial
  | some ie=>rw[e]at this;have h2:SE g A d hd c env ie x:=this A d hd env X;exact @h2
 rw[arm_eval_Subscript]
 refine wpAny_bind (two (ha A d hd env X) hw C S F fun x CA mv JA BA q rv HB DA mA HA=>?_)
 refine wpAny_bind (wpAny_holding (wpAny_Slice (Ge hf' h1 q HB DA mA HA fun y cA my TC bB q ry oE eA UC nA T=>?_)))
 refine Ge hf' h2 q oE eA UC T fun z eC mz II GF q rz gJ iB HG XB T'=>?_
 refine wpAny_pure (wpAny_bind (wpAny_standAt ?_))
 exact wpAny_mono (gW Y gJ iB ((rv.step0 DA nA).step0 eA XB) (ry.step0 eA XB) rz (ff q)) (fun u0 u0 p=>p.from T') fun u0 u0 e=>e
theorem Nb(Y:xC g){a lo st:IE}{v l sx:Expr}{p:Pos}(ha:AE g c a v)(hl:AE g c lo l)(hs:AE g c st sx):AE g c (.slc3 a lo st) (.Subscript v (.Slice (some l) none (some sx) p) pos):=by
 intro A d hd env X Z J K E hw s U C S F
 rw[arm_eval_Subscript]
 refine wpAny_bind (two (ha A d hd env X) hw C S F fun x CA mv JA BA q rv HB DA mA HA=>?_)
 refine wpAny_bind (wpAny_holding (wpAny_Slice (TZ (hl A d hd env X) q HB DA mA HA fun y cA my TC bB q ry oE eA UC nA T=>wpAny_pure ?_)))
 refine TZ (hs A d hd env X) q oE eA UC T fun z eC mz II GF q rz gJ iB HG XB T'=>?_
 refine wpAny_bind (wpAny_standAt ?_)
 exact wpAny_mono (KU Y gJ iB ((rv.step0 DA nA).step0 eA XB) (ry.step0 eA XB) rz (wc q)) (fun u0 u0 p=>p.from T') fun u0 u0 e=>e
theorem zZ(Y:xC g){a:IE}{v:Expr}{n:Str}(h0:iH v=false)(ha:AE g c a v):AE g c (.attr a n.cps.toList) (.Attribute v n pos):=by
 intro A d hd env X Z J K E hw s U C S F
 rw[arm_eval_Attribute,aS h0]
 refine wpAny_bind (two (ha A d hd env X) hw C S F fun x CA mv JA BA q rv HB DA mA HA=>?_)
 obtain⟨r,q⟩:=Classical.not_forall.mp q
 obtain⟨hr,q⟩:=Classical.not_imp.mp q
 refine wpAny_bind (wpAny_standAt (wpAny_bind (wpAny_holding (wpAny_mono (oR Y HB DA rv hr (Q:=NK K) q) (fun w cA p=>?_) fun u0 u0 e=>e))))
 exact wpAny_bind (wpAny_letTemporaryGo (wpAny_pure (p.from HA)))
theorem yX(Y:xC g){f:IE}{as:jJ}{f':Expr}{as':List Expr}(h0:RS f'=false)(hf:AE g c f f')(hs:BH (AE g c) as as'):AE g c (.call f as) (.Call f' as' [] pos):=by
 intro A d hd env X Z J K E hw s U C S F
 have e1:eval (.Call f' as' [] pos) env=(do callWith pos (<-eval f' env) [] (backTo pos (starEach as' env)) (backToKw pos (keywordEach [] env))):=by
  induction f' using Expr.casesOn <;>first | rfl | cases h0
 rw[e1]
 refine wpAny_bind (two (hf A d hd env X) hw C S F fun x CA mv JA BA q rv HB DA mA HA=>?_)
 have hp:=YI (env:=env) pos hs
 refine SV HA ?_
 induction mv using V.casesOn with
 | val w=>induction w using Value.casesOn with
   | ref a=>
     subst rv
     have q:¬(match PZ a with | true=>uK g d hd as Z JA (fun vs J=>∀S:Sp,MA g d hd a vs J S->S.K K E) E | false=>True):=q
     induction hk:PZ a using Bool.casesOn with
     | true=>
       rw[hk]at q
       exact QT Y HB DA hp hk (wpAny_mono (bL hs A d hd env X q pos HB DA mA) (fun xs cA p=>p.mono fun vs J q=>rU q) fun u0 u0 e=>e)
     | false=>rw[hk]at q;exact(q trivial).elim
   | builtin f=>subst rv;exact wU Y HB DA hp (wpAny_mono (bL hs A d hd env X q pos HB DA mA) (fun xs cA p=>p.mono fun vs J q=>qc q) fun u0 u0 e=>e)
   | type f=>subst rv;exact xU Y HB DA hp (wpAny_mono (bL hs A d hd env X q pos HB DA mA) (fun xs cA p=>p.mono fun vs J q=>qc q) fun u0 u0 e=>e)
   | _=>exact(q trivial).elim
 | _=>exact(q trivial).elim
theorem pa(Y:xC g){o:IE}{as:jJ}{v:Expr}{n:Str}{ap:Pos}{as':List Expr}(h0:iH v=false)(hline:(ap.endLine==pos.line)=true)(h4:as'.length<=20)(ho:AE g c o v)(hs:BH (AE g c) as as'):AE g c (.meth o n.cps.toList as) (.Call (.Attribute v n ap) as' [] pos):=by
 obtain⟨⟨n⟩⟩:=n
 intro A d hd env X Z J K E hw s U C S F
 have hp:=YI (env:=env) pos hs
 refine uV h0 hline hs h4 (two (ho A d hd env X) hw C S F fun x CA mv JA BA q rv HB DA mA HA pl=>?_)
 have fin:∀{t:Sem (Value×List Value)},wpAny (model g.prog g.w) A t (fun fm cA=>wpAny (model g.prog g.w) A (callWith pos fm.1 fm.2 (backTo pos (starEach as' env)) []) (wA g CA.heap BA [] (NK K)) (dA g CA.heap BA [] (NK E)) cA) (dA g CA.heap BA [] (NK E)) CA->
  wpAny (model g.prog g.w) A t (fun fm cA=>wpAny (model g.prog g.w) A (callWith pos fm.1 fm.2 (backTo pos (starEach as' env)) []) (wA g s.heap U [] (NK K)) (dA g s.heap U [] (NK E)) cA) (dA g s.heap U [] (NK E)) CA:=
  fun h=>wpAny_mono h (fun fm cA ZD=>wpAny_mono ZD (fun u0 u0 p=>p.from HA) fun u0 u0 e=>e.from HA) fun u0 u0 e=>e.from HA
 have args:∀{K':List V->List O->Prop} {Q:List V->List O->Prop} (t:Nat),¬uK g d hd as Z JA K' E->(∀vs J,¬K' vs J->Q vs J)->
  wpAny (model g.prog g.w) A (spliced (backTo pos (starEach as' env))) (UD g CA.heap BA Q) (dA g CA.heap BA [] (NK E)) {CA with toks:=t}:=fun t q k=>
  wpAny_mono (bL hs A d hd env X q pos (s:={CA with toks:=t}) (Cx.tk HB) (DA.toks t) (Fm.tk DA mA)) (fun xs cA p=>p.mono k) fun u0 u0 e=>e
 refine fin ?_
 clear fin hw
 induction mv using V.casesOn with
 | str x=>
   have q:¬(match cH.contains n with | true=>uK g d hd as Z JA (fun vs J=>wR (DB J x n vs) K) E | false=>True):=q
   induction hn:cH.contains n using Bool.casesOn with
   | true=>rw[hn]at q;exact VR Y HB DA rv (List.contains_iff_mem.mp hn) hp (args CA.toks q fun vs J q=>df q)
   | false=>rw[hn]at q;exact(q trivial).elim
 | val w=>induction w using Value.casesOn with
   | ref Cl=>
     subst rv
     have q:¬(match Fa Cl n with | some f=>uK g d hd as Z JA (fun vs J=>∀S:Sp,MA g d hd f vs J S->S.K K E) E | none=>True):=q
     induction hn:Fa Cl n using Option.casesOn with
     | some f=>rw[hn]at q;exact rQ Y HB DA hn hp fun t=>args t q fun vs J q=>rU q
     | none=>rw[hn]at q;exact(q trivial).elim
   | type T=>
     have q2:¬(match T=="Exception"&&n==[95,95,105,110,105,116,95,95]with
      | true=>uK g d hd as Z JA (fun vs J=>CU vs True fun l u0=>((∃C dl,J[l]?=some (.exc C dl))\/∃C,J[l]?=some (.exc0 C))->K .none J) E
      | false=>True):=q
     induction hn:T=="Exception"&&n==[95,95,105,110,105,116,95,95]using Bool.casesOn with
     | true=>
       rw[hn]at q2
       have hn:=Bool.and_eq_true_iff.mp hn
       have hT:=eq_of_beq hn.1
       subst hT
       subst rv
       rw[show n=_ from eq_of_beq hn.2]
       exact vQ Y HB DA hp fun t=>args t q2 fun vs J q=>IW (fun u0 u0=>Classical.not_imp.mp) q
     | false=>rw[hn]at q2;exact(q2 trivial).elim
   | _=>exact(q trivial).elim
 | loc l=>
   obtain⟨a,ha,rfl⟩:=rv
   obtain⟨ob,q⟩:=Classical.not_forall.mp q
   obtain⟨hl,q⟩:=Classical.not_imp.mp q
   induction ob using O.casesOn with
   | list vs=>
     have q:¬(match wF.contains n with | true=>uK g d hd as Z JA (fun vs J=>∀xs,CB J l=some xs->wR (TB J l xs n vs) K) E | false=>True):=q
     induction hn:wF.contains n using Bool.casesOn with
     | true=>rw[hn]at q;exact uP Y HB DA hl ha (List.contains_iff_mem.mp hn) hp (args CA.toks q fun vs J q=>(Classical.not_forall.mp q).imp fun xs q=>(Classical.not_imp.mp q).imp id df)
     | false=>rw[hn]at q;exact(q trivial).elim
   | dict kvs ep=>
     have q:¬(match oF.contains n with | true=>uK g d hd as Z JA (fun vs J=>∀xs,dictAt J l=some xs->wR (lE J l xs n vs) K) E | false=>True):=q
     induction hn:oF.contains n using Bool.casesOn with
     | true=>rw[hn]at q;exact SP Y HB DA hl ha (List.contains_iff_mem.mp hn) hp (args CA.toks q fun vs J q=>(Classical.not_forall.mp q).imp fun xs q=>(Classical.not_imp.mp q).imp id df)
     | false=>rw[hn]at q;exact(q trivial).elim
   | inst Cl dl=>
     have q:¬(match uL Cl n with
      | some f=>∀kvs,oI JA dl=some kvs->TA n kvs=none->uK g d hd as Z JA (fun vs J=>∀S:Sp,MA g d hd f (.loc l::vs) J S->S.K K E) E
      | none=>True):=q
     induction hn:uL Cl n using Option.casesOn with
     | some f=>
       rw[hn]at q
       obtain⟨kvs,q⟩:=Classical.not_forall.mp q
       obtain⟨k1,q⟩:=Classical.not_imp.mp q
       obtain⟨k2,q⟩:=Classical.not_imp.mp q
       exact kP Y HB DA hl ha k1 k2 hn hp (args CA.toks q fun vs J q=>rU q)
     | none=>rw[hn]at q;exact(q trivial).elim
   | _=>exact(q trivial).elim
 | _=>exact(q trivial).elim
end
theorem RD.self{α:Type}(o:Option α):RD o fun a=>o=some a:=by
 induction o using Option.casesOn with
 | none=>trivial
 | some a=>exact rfl
theorem QJ{b:Bool}(h:(!b)=true):b=false:=by induction b using Bool.casesOn <;>first | rfl | cases h
section
variable{g:G}{c:CC}{pos:Pos}
theorem HM(it:Expr):RD (UJ c it) fun x=>∃f p,it= .Call f [x] [] p/\VG c f=true/\gC x=false:=by
 induction it using Expr.casesOn with
 | Call f xs kws p=>
   refine .when fun h1=>?_
   rcases kws with _ | ⟨_,_⟩
   ·rcases xs with _ | ⟨x,_ | ⟨_,_⟩⟩
    ·trivial
    ·exact .when fun h2=>⟨_,_,rfl,h1,QJ h2⟩
    ·trivial
   ·trivial
 | _=>trivial
theorem Va(Y:xC g){f:CC->Expr->Option IE}(hf:∀c x,RD (f c x) fun ie=>AE g c ie x){e:Expr}{sc:Scope}{gens:List Comprehension}:RD (tW f c e sc gens) fun ie=>AE g c ie (.ListComp e gens sc pos):=by
 induction gens using List.casesOn with
 | nil=>trivial
 | cons gn r=>induction r using List.casesOn with
   | cons _ _=>trivial
   | nil=>
     obtain⟨t,iter,ifs,n⟩:=gn
     induction ifs using List.casesOn with
     | cons _ _=>trivial
     | nil=>
       refine .when fun h=>(hf _ e).bind fun hb=>?_
       simp only[Bool.and_eq_true,decide_eq_true_eq,Bool.not_eq_true']at h
       obtain⟨⟨⟨⟨⟨rfl,h1⟩,h2⟩,h3⟩,h4⟩,h5⟩:=h
       induction hr:UJ c iter using Option.casesOn with
       | some x=>
         obtain⟨fn,p,rfl,h6,h7⟩:=(HM _).get hr
         induction t using Expr.casesOn with
         | Name id _=>exact(hf c x).map fun hi A d hd env X=>CV Y X h1 h2 h3 (Bool.eq_false_iff.mpr fun q=>h4 _ (.head _) (List.contains_iff_mem.mp q)) h6 h7 (hi A d hd env X) hb
         | _=>trivial
       | none=>exact(hf c iter).map fun hi A d hd env X=>nX Y X h1 h2 h3 h4 h5 (hi A d hd env X) hb
theorem Af(Y:xC g){a:IE}{e:Expr}(ha:AE g c a e)(he:∀env whole,isTrue e env whole=(do let v <-whole;standAt e.pos;holding [v] (truthy v))):AT g c (.e a) e:=fun A d hd env X Z J K1 K2 E hw s U C S F=>
 wpAny_isTrue_value (two (ha A d hd env X) hw C S F fun v CA mv JA BA q rv HB DA mA HA=>by
  obtain⟨b,hb,q⟩:=sU q
  exact xN Y DA rv hb fun t=>⟨_,_,yb q,DA.toks t,HA⟩) (he _ _)
theorem Be{t:IT}{x:Expr}(h:AT g c t x):AT g c (.not t) (.UnaryOp .Not x pos):=fun A d hd env X Z J K1 K2 E hw s U C S F=>
 wpAny_isTrue_Not (wpAny_mono (h A d hd env X hw C S F) (fun b CA p=>by
  obtain⟨JA,BA,q,DA,HA⟩:=p
  exact⟨JA,BA,by induction b using Bool.casesOn <;>exact q,DA,HA⟩) fun u0 u0 e=>e)
theorem xZ{ts:YU}{xs:List Expr}(h:FT (AT g c) ts xs){A:Around}{d:Nat}{hd:Option Nat}{env:Env}(X:Gd g c env):ng g A d hd c env ts xs:=by
 induction h with
 | nil=>exact fun {Z J K1 K2 E} hw {s U} C S F=>wpAny_allTrue_And_nil ⟨_,_,hw,S, .refl ..⟩
 | cons p _ ih=>
   intro Z J K1 K2 E hw s U C S F
   refine wpAny_allTrue_And_cons (wpAny_mono (p A d hd env X hw C S F) (fun b CA p=>?_) fun u0 u0 e=>e)
   obtain⟨JA,BA,q,DA,HA⟩:=p
   induction b using Bool.casesOn with
   | true=>exact JZ HA (ih q (C.step S HA) DA (F.step S HA))
   | false=>exact⟨_,_,q,DA,HA⟩
theorem De{ts:YU}{xs:List Expr}(h:FT (AT g c) ts xs){A:Around}{d:Nat}{hd:Option Nat}{env:Env}(X:Gd g c env):og g A d hd c env ts xs:=by
 induction h with
 | nil=>exact fun {Z J K1 K2 E} hw {s U} C S F=>wpAny_allTrue_Or_nil ⟨_,_,hw,S, .refl ..⟩
 | cons p _ ih=>
   intro Z J K1 K2 E hw s U C S F
   refine wpAny_allTrue_Or_cons (wpAny_mono (p A d hd env X hw C S F) (fun b CA p=>?_) fun u0 u0 e=>e)
   obtain⟨JA,BA,q,DA,HA⟩:=p
   induction b using Bool.casesOn with
   | true=>exact⟨_,_,q,DA,HA⟩
   | false=>exact JZ HA (ih q (C.step S HA) DA (F.step S HA))
theorem NU(Y:xC g){E:CC->Expr->Option IE}{T:CC->Expr->Option IT}(hE:∀c x,RD (E c x) fun ie=>AE g c ie x)(hT:∀c x,RD (T c x) fun t=>AT g c t x)(e:Expr):RD (jW E T c e) fun ie=>AE g c ie e:=by
 have hL:∀xs,RD (jF (E c) xs) fun es=>BH (AE g c) es xs:=zJ (hE c)
 induction e using Expr.casesOn with
 | Name id p=>exact qa Y
 | Constant k n p=>exact oX
 | BinOp l op r p=>exact(hE c l).bind fun ha=>(hE c r).map fun hb=>yc ha hb
 | Compare l ops rs p=>
   show RD (sW (E c) l ops rs) _
   rcases ops with _ | ⟨o,_ | ⟨o2,ops⟩⟩
   ·trivial
   ·rcases rs with _ | ⟨r,_ | ⟨r2,rs⟩⟩
    ·trivial
    ·exact .when fun h=>(hE c l).bind fun ha=>(hE c r).map fun hb=>Ad Y (QJ h) ha hb
    ·trivial
   ·trivial
 | BoolOp op vs p=>induction op using PySem.BoolOp.casesOn with
   | And=>exact(hL vs).map fun h A d hd env X Z J K E hw s U C S F=>by rw[arm_eval_BoolOp];exact wZ Y h A d hd env X hw p C S F
   | Or=>trivial
 | UnaryOp op x p=>induction op using PySem.UnaryOp.casesOn with
   | USub=>exact(hE c x).map fun h=>zd h
   | _=>trivial
 | IfExp t a b p=>exact(hT c t).bind fun ht=>(hE c a).bind fun ha=>(hE c b).map fun hb=>sd ht ha hb
 | Tuple vs k p=>exact(hL vs).map fun h=>xe h
 | List vs p=>exact(hL vs).map fun h=>wd h
 | Dict ks vs p=>
   refine .when fun h=>(hL vs).map fun hv=>?_
   simp only[Bool.and_eq_true,decide_eq_true_eq]at h
   exact Hd Y h.1 h.2.1 h.2.2 hv
 | Subscript v sl p=>
   refine(hE c v).bind fun ha=>?_
   induction sl using Expr.casesOn with
   | Slice l u st p=>
     induction st using Option.casesOn with
     | none=>exact(RD.self _).bind fun h1=>(RD.self _).map fun h2=>Xe Y (hE c) ha h1 h2
     | some sx=>induction l using Option.casesOn with
       | none=>trivial
       | some l=>induction u using Option.casesOn with
         | some _=>trivial
         | none=>exact(hE c l).bind fun hl=>(hE c sx).map fun hs=>Nb Y ha hl hs
   | _=>exact .when fun u0=>(hE c _).map fun hi=>ld Y ha hi
 | Attribute v n p=>exact .when fun h=>(hE c v).map fun ha=>zZ Y (QJ h) ha
 | Call f as kws p=>induction kws using List.casesOn with
   | cons _ _=>trivial
   | nil=>
     refine .when fun h=>(hL as).bind fun hs=>?_
     have h:=of_decide_eq_true h
     induction f using Expr.casesOn with
     | Attribute v n ap=>
       refine .when fun h0=>(hE c v).map fun ho=>?_
       have h0:=Bool.and_eq_true_iff.mp h0
       exact pa Y (QJ h0.1) h0.2 h ho hs
     | _=>exact .when fun h0=>(hE c _).map fun hf=>yX Y (QJ h0) hf hs
 | ListComp elt gens sc p=>exact Va Y hE
 | _=>trivial
theorem PU(Y:xC g){E:CC->Expr->Option IE}{T:CC->Expr->Option IT}(hE:∀c x,RD (E c x) fun ie=>AE g c ie x)(hT:∀c x,RD (T c x) fun t=>AT g c t x)(e:Expr):RD (lW E T c e) fun t=>AT g c t e:=by
 induction e using Expr.casesOn with
 | UnaryOp op x p=>induction op using PySem.UnaryOp.casesOn with
   | Not=>exact(hT c x).map fun h=>Be h
   | _=>trivial
 | BoolOp op vs p=>induction op using PySem.BoolOp.casesOn with
   | And=>exact(fI (hT c) vs).map fun h A d hd env X Z J K1 K2 E hw s U C S F=>wpAny_isTrue_BoolOp (xZ h X hw C S F)
   | Or=>exact(fI (hT c) vs).map fun h A d hd env X Z J K1 K2 E hw s U C S F=>wpAny_isTrue_BoolOp (De h X hw C S F)
 | IfExp t a b p=>trivial
 | Compare l ops rs p=>
   rcases ops with _ | ⟨o,_ | ⟨o2,_ | ⟨o3,ops⟩⟩⟩
   ·trivial
   ·rcases rs with _ | ⟨r,_ | ⟨r2,rs⟩⟩
    ·trivial
    ·exact RD.map (P:=fun ie=>AT g c (.e ie) (.Compare l [o] [r] p)) (.when fun h=>(hE c l).bind fun ha=>(hE c r).map fun hb=>Bd Y (QJ h) ha hb) fun h=>h
    ·trivial
   ·rcases rs with _ | ⟨r,_ | ⟨r2,_ | ⟨r3,rs⟩⟩⟩
    ·trivial
    ·trivial
    ·refine RD.map (P:=fun ie=>AT g c (.e ie) (.Compare l [o,o2] [r,r2] p)) (.when fun h=>(hE c l).bind fun ha=>(hE c r).bind fun hb=>?_) fun h=>h
     induction r2 using Expr.casesOn with
     | Constant k n p=>induction k using PySem.Const.casesOn with
       | int i=>exact Ga Y (QJ h) ha hb
       | _=>trivial
     | _=>trivial
    ·trivial
   ·trivial
 | _=>exact(hE c _).map fun h=>Af Y h fun u0 u0=>rfl
theorem pH(Y:xC g):∀n:Nat,(∀c x,RD ((dQ n).1 c x) fun ie=>AE g c ie x)/\∀c x,RD ((dQ n).2 c x) fun t=>AT g c t x
 | 0=>⟨fun u0 u0=>trivial,fun u0 u0=>trivial⟩
 | n+1=>⟨fun c e=>NU Y (pH Y n).1 (pH Y n).2 e,fun c e=>PU Y (pH Y n).1 (pH Y n).2 e⟩
end
section
variable{g:G}{d:Nat}
theorem IY{env:Env}(h:env.scope.kind= .function):interactive env=false:=by unfold interactive;rw[h];rfl
section
variable{A:Around}{hd:Option Nat}{env:Env}{c:CC}{s:Shared}{U:List Addr}{J:List O}{Z:List (Option V)}
theorem sT{ie:IE}{e:Expr}(he:SE g A d hd c env ie e){K:V->List O->Prop}{E:Nat->List (Option V)->List O->Prop}(h:¬dE g d hd ie Z J K (fun l J=>E l Z J))(C:Cx g A s U d hd)(S:St g s U J)(F:Fm g c.nm s U env Z)
 {R:Value->Shared->Prop}
 (k:∀v CA mv JA BA,¬K mv JA->VA g CA.heap BA mv v->Cx g A CA BA d hd->St g CA BA JA->Fm g c.nm CA BA env Z->NA s.heap CA.heap U BA []->R v CA):
 wpAny (model g.prog g.w) A (eval e env) R (xB g c.nm env s.heap U (NF E)) s:=
 wpAny_mono (two he h C S F k) (fun u0 u0 p=>p) fun u0 u0 p=>dA.toX (E:=NF E) S F p
theorem Ec{ie:IE}{e:Expr}(he:SE g A d hd c env ie e){ZB:Shared}{UA:List Addr}(hU:NA ZB.heap s.heap UA U []){K:V->List O->Prop}{E:Nat->List (Option V)->List O->Prop}(h:¬dE g d hd ie Z J K (fun l J=>E l Z J))(C:Cx g A s U d hd)(S:St g s U J)(F:Fm g c.nm s U env Z)
 {R:Value->Shared->Prop}
 (k:∀v CA mv JA BA,¬K mv JA->VA g CA.heap BA mv v->Cx g A CA BA d hd->St g CA BA JA->Fm g c.nm CA BA env Z->NA s.heap CA.heap U BA []->R v CA):
 wpAny (model g.prog g.w) A (eval e env) R (xB g c.nm env ZB.heap UA (NF E)) s:=
 wpAny_mono (sT he h C S F k) (fun u0 u0 p=>p) fun u0 u0 p=>p.from hU.x
theorem GZ{h':Heap}{rA X:List Addr}{t:Nat}(C:Cx g A s U d hd)(S:St g s U J)(T:NA s.heap h' U rA X):Cx g A {s with heap:=h',toks:=t} rA d hd:=C.step (s':={s with heap:=h',toks:=t}) S T
theorem AG{K:Fl->List (Option V)->List O->Prop}{h:Heap}{UA:List Addr}(q:¬K .next Z J)(S:St g s U J)(F:Fm g c.nm s U env Z)(T:NA h s.heap UA U (OC env)):lD g c.nm env h UA (NF K) .next s:=⟨.next,Z,J,U,q,rfl,S,F,T⟩
theorem KL{M:Model}{o:Expr}{attr:Str}{pos:Pos}{v:Value}{Q:Unit->Shared->Prop}{E:Value->Shared->Prop}(h:wpAny M A (eval o env) (fun ov CA=>wpAny M A (setAttr ov attr v) Q E CA) E s):
 wpAny M A (assign (.Attribute o attr pos) env v) Q E s:=by
 show wpAny M A (do let ov <-holding [v] (eval o env);standAt pos.atName;holding [v,ov] (setAttr ov attr v);release [v,ov] []) Q E s
 refine wpAny_bind (wpAny_holding (wpAny_mono h (fun ov CA KB=>?_) fun u0 u0 e=>e))
 exact wpAny_bind (wpAny_standAt (wpAny_bind (wpAny_holding (wpAny_mono KB (fun u0 u0 q=>MM q) fun u0 u0 e=>e))))
theorem oT{h h':Heap}{U rA X:List Addr}(T:NA h h' U rA X):h.get? h'.objs.size=none:=by
 induction e:h.get? h'.objs.size using Option.casesOn with
 | none=>rfl
 | some o=>
   obtain⟨o',e'⟩:=T.alive _ o e
   exact absurd (Heap.lt_size e') (Nat.lt_irrefl _)
theorem FR{x:V}{N:List (Option V)->List O->Prop}{B:(Nat->List (Option V)->List O->Prop)->Nat->V->List (Option V)->List O->Prop}(q:¬uI (fun P k Z J=>∀r,cC J x k=some r->match r with | none=>N Z J | some v=>B P k v Z J) Z J):
 (∃vs,x= .tup vs)\/∃l vs,x= .loc l/\CB J l=some vs:=by
 have h:=qI q (fun k u0 J=>cC J x k≠none) fun k Z J n e=>n fun r er=>by rw[e]at er;cases er
 induction x using V.casesOn with
 | tup vs=>exact .inl ⟨vs,rfl⟩
 | loc l=>
   have h:(match J[l]? with | some (.list vs)=>some vs[0]? | _=>none)≠none:=h
   induction e:J[l]? using Option.casesOn with
   | none=>rw[e]at h;exact(h rfl).elim
   | some ob=>
     rw[e]at h
     induction ob using O.casesOn with
     | list vs=>exact .inr ⟨l,vs,rfl,XA e⟩
     | _=>exact(h rfl).elim
 | _=>exact(h rfl).elim
theorem TI{l k:Nat}{r:Option V}(h:cC J (.loc l) k=some r):∃vs,CB J l=some vs/\r=vs[k]?:=by
 have h:(match J[l]? with | some (.list vs)=>some vs[k]? | _=>none)=some r:=h
 induction e:J[l]? using Option.casesOn with
 | none=>rw[e]at h;cases h
 | some ob=>
   rw[e]at h
   induction ob using O.casesOn with
   | list vs=>cases h;exact⟨vs,XA e,rfl⟩
   | _=>cases h
theorem iT(S:St g s U J){l:Nat}{a:Addr}(ha:U[l]?=some a)(q:iJ s.heap a):∃C dl,J[l]?=some (.exc C dl):=by
 obtain⟨o,vs,tb,cl,e,c1,dd,r⟩:=q
 have hl:l < J.length:=S.len ▸ (List.getElem?_eq_some_iff.mp ha).1
 have hm:=List.getElem?_eq_getElem hl
 have R:=S.objs l a _ ha hm
 induction hx:J[l]using O.casesOn with
 | list vs=>rw[hx]at R;obtain⟨os,n,e',_⟩:=R;rw[e]at e';cases e';cases c1
 | dict kvs ep=>rw[hx]at R;obtain⟨ps,⟨o',es,e',x,_⟩,_⟩:=R;rw[e]at e';cases e';rw[x.1]at c1;cases c1
 | ad kvs=>rw[hx]at R;obtain⟨o',m,e',c2,_⟩:=R;rw[e]at e';cases e';rw[c2]at c1;cases c1
 | inst C dl=>rw[hx]at R;obtain⟨_,dx,_,e'⟩:=R;rw[e]at e';cases e';cases dd
 | exc C dl=>exact⟨C,dl,by rw[hm,hx]⟩
 | exc0 C=>rw[hx]at R;obtain⟨_,vs',e',_,t1⟩:=R;rw[e]at e';cases e';cases dd;rw[t1]at r;cases r
theorem dL(C:Cx g A s U d none):A.handled=none:=C.hand
theorem xQ{ZB:Shared}{UA:List Addr}{t:Sem Flow}{K:Fl->List (Option V)->List O->Prop}{E:Nat->List (Option V)->List O->Prop}(T:NA ZB.heap s.heap UA U (OC env))
 (h:wpAny (model g.prog g.w) A t (lD g c.nm env s.heap U K) (xB g c.nm env s.heap U E) s):wpAny (model g.prog g.w) A t (lD g c.nm env ZB.heap UA K) (xB g c.nm env ZB.heap UA E) s:=
 wpAny_mono h (fun u0 u0 p=>p.from T) fun u0 u0 p=>p.from T
theorem iX(X:Gd g c env){i:Nat}{id:Str}{p0:Pos}(h:c.isLocal i id=true):Lf g A c.nm env (.Name id p0) fun u0 v Z=>some (Z.set i (some v)):=fun S F hb rv Q E k=>by
 cases hb;exact wpAny_assign_Name (fH X S F (ZC h) rv k)
theorem Ca(X:Gd g c env)(hh:A.handled=none){is:List Nat}{ts:List Expr}{x1:Nat}{p0:Pos}(h:pB c is ts=true):Lf g A c.nm env (.Tuple ts x1 p0) fun J v Z=>(tG J is.length v).map (IC Z is):=fun {s U J Z gK v x} S F hb rv Q E k=>by
 have hb:(tG J is.length v).map (IC Z is)=some gK:=hb
 induction hu:tG J is.length v using Option.casesOn with
 | none=>rw[hu]at hb;cases hb
 | some vs=>rw[hu]at hb;cases hb;exact vS X S F hh (XH is h) hu rv k
theorem Ae{CA:Shared}{BA:List Addr}{JA:List O}(HA:NA s.heap CA.heap U BA [])(DA:St g CA BA JA):∀y∈[CA.heap.objs.size],s.heap.get? y=none/\g.bA.get? y=none:=fun y m=>by
 rw[List.mem_singleton.mp m];exact⟨oT HA,DA.new.1⟩
end
noncomputable def AS(g:G)(c:CC)(is:IS)(st:Stmt):Prop:=∀(A:Around) (d:Nat) (hd:Option Nat) (env:Env) (outer:List Env),Gd g c env->A.frames=some (env::outer)->SS g A d hd c env is st
noncomputable def AB(g:G)(c:CC)(b:pE)(body:List Stmt):Prop:=∀(A:Around) (d:Nat) (hd:Option Nat) (env:Env) (outer:List Env),Gd g c env->A.frames=some (env::outer)->SB g A d hd c env b body
section
variable{c:CC}{pos:Pos}
theorem nU{i:Nat}{e:IE}{id:Str}{p0:Pos}{v:Expr}(h1:c.isLoc i id=true)(h2:mL v=false)(he:AE g c e v):AS g c (.assign i e) (.Assign [.Name id p0] v pos):=fun A d hd env outer X hf Z J K E hw s U C S F=>
 wpAny_Assign_Name (sT (he A d hd env X) hw C S F fun w CA mv JA BA q rv HB DA mA HA=>fH X DA mA h1 rv fun h' t eA UC nA=>AG (fun k=>q (FE k)) eA UC (HA.x.trans nA)) (pS h2)
theorem ib{is:List Nat}{e:IE}{ts:List Expr}{x1:Nat}{p0:Pos}{v:Expr}(h1:zF c is ts=true)(h3:aR v=none)(he:AE g c e v):AS g c (.unpk is e) (.Assign [.Tuple ts x1 p0] v pos):=fun A d hd env outer X hf Z J K E hw s U C S F=>by
 have hsw:swapsWithSole [.Tuple ts x1 p0] v pos.line env=pure false:=by
  induction v using Expr.casesOn <;>rfl
 have hss:swappedStores [.Tuple ts x1 p0] v env=pure none:=by
  induction v using Expr.casesOn <;>first | rfl | cases h3
 refine wpAny_Assign_stores (sT (he A d hd env X) hw C S F fun w CA mv JA BA q rv HB DA mA HA=>?_) hsw hss
 obtain⟨rfl,q⟩:=rG q
 obtain⟨vs,hv,q⟩:=pR q
 show wpAny _ _ (assign (.Tuple ts x1 p0) env w) _ _ _
 exact vS X DA mA (dL HB) h1 hv rv fun h' t eA UC nA=>AG (fun k=>q (bI k)) eA UC (HA.x.trans nA)
theorem Tb{is:List Nat}{es:jJ}{ts vs:List Expr}{x1 k:Nat}{p0 p1:Pos}(h1:pB c is ts=true)(h2:is.Nodup)(h3:YM ts vs=true)(he:BH (AE g c) es vs):AS g c (.swap is es) (.Assign [.Tuple ts x1 p0] (.Tuple vs k p1) pos):=by
 intro A d hd env outer X hf Z J K E hw s U C S F
 rw[arm_exec_Assign]
 refine wpAny_bind (wpAny_standAt ?_)
 rw[show swapsWithSole [.Tuple ts x1 p0] (.Tuple vs k p1) pos.line env=pure false from rfl]
 refine wpAny_bind (wpAny_pure ?_)
 rw[if_neg Bool.false_ne_true]
 refine wpAny_bind (PyProof.Rows.Tuple_ (wpAny_mono (bL he A d hd env X hw p1 C S F) (fun xs CA p=>?_) fun u0 u0 p=>dA.toX (E:=NF E) S F p))
 obtain⟨mvs,JA,BA,q,r,DA,HA⟩:=p
 obtain⟨rfl,q⟩:=rG q
 have q:¬(match Nat.beq mvs.length is.length with | true=>KD is mvs Z fun Z=>K .next Z JA | false=>True):=q
 have q:mvs.length=is.length/\¬KD is mvs Z fun Z=>K .next Z JA:=by
  induction e:Nat.beq mvs.length is.length using Bool.casesOn with
  | true=>rw[e]at q;exact⟨Nat.eq_of_beq_eq_true e,q⟩
  | false=>rw[e]at q;exact(q trivial).elim
 obtain⟨hz,q⟩:=q
 have hl:=r.len
 have hts:=XG is h1
 have h23:ts.length=2\/ts.length=3:=by
  unfold YM at h3
  simp only[Bool.and_eq_true,Bool.or_eq_true,beq_iff_eq]at h3
  exact h3.1.1.1.1.1.2
 refine wpAny_newObj_type ?_ (by show xs.toArray.size<=sizeLine;rw[List.size_toArray,OA];lia)
 rw[WR X F.kind h1 h3]
 refine wpAny_bind (wpAny_pure ?_)
 show wpAny _ A (do rule "assign.swapped-stores";let items <-unpackItems (.ref CA.heap.objs.size) (YE ts).length none;assignInOrder ((YE ts).reverse.map fun n=>bindName env n) items.reverse;pure Flow.next) _ _ _
 refine wpAny_bind (wpAny_rule ?_)
 have eA:=DA.pushU {cls:= .type "tuple",data:= .seq xs.toArray}
 have nA:NA s.heap (CA.heap.push {cls:= .type "tuple",data:= .seq xs.toArray}) U BA []:=HA.trans (.pushU ..)
 have hsz:(YE ts).length=xs.toArray.size:=by rw[List.size_toArray,hl,hz,hts.2]
 rw[hsz]
 refine wpAny_bind (wpAny_unpackItems_tuple (dL C) ⟨_,Heap.get?_push_size _ rfl,rfl,0,rfl⟩ fun h' x=>?_)
 have XB:=nA.trans (NA.ext (h:=CA.heap.push {cls:= .type "tuple",data:= .seq xs.toArray}) BA (cB x) [])
 have iB:=eA.ext (cB x) CA.toks
 have Jg:PA g h' BA mvs xs:=r.step0 DA ((NA.pushU CA.heap BA {cls:= .type "tuple",data:= .seq xs.toArray}).trans (NA.ext BA (cB x) []))
 refine wpAny_bind (de X iB (F.step S XB) h1 h2 h23 hz (by simpa using Jg) fun h'' t IF hJ MD=>wpAny_pure ?_)
 exact AG (fun k=>q (bI k)) IF hJ (XB.x.trans MD)
theorem GU(Y:xC g){o e:IE}{x v:Expr}{n:Str}{p0:Pos}(he:AE g c e v)(ho:AE g c o x):AS g c (.setAttr o n.cps.toList e) (.Assign [.Attribute x n p0] v pos):=by
 obtain⟨⟨n⟩⟩:=n
 intro A d hd env outer X hf Z J K E hw s U C S F
 refine plainObj_wpAny_Assign_Attribute (sT (he A d hd env X) hw C S F fun w CA mv JA BA q rv HB DA mA HA=>?_) (by induction v using Expr.casesOn <;>rfl)
 refine Ec (ho A d hd env X) HA q HB DA mA fun ov cA mo TC bB q ro oE eA UC nA=>?_
 refine wpAny_mono (eG Y oE eA ro (rv.step0 DA nA) (cX q)) (fun u0 eC p=>?_) fun u0 u0 e=>e
 obtain⟨II,GF,q,iB,XB⟩:=p
 exact AG q iB (UC.step eA XB) (HA.trans (nA.trans XB)).x
theorem UR(Y:xC g){o1 o2 e:IE}{x y v:Expr}{n1 n2:Str}{p1 p2 p0:Pos}{k:Nat}(he:AE g c e v)(h1:AE g c o1 x)(h2:AE g c o2 y):AS g c (.setAttr2 o1 n1.cps.toList o2 n2.cps.toList e) (.Assign [.Tuple [.Attribute x n1 p1, .Attribute y n2 p2] k p0] v pos):=by
 obtain⟨⟨n1⟩⟩:=n1
 obtain⟨⟨n2⟩⟩:=n2
 intro A d hd env outer X hf Z J K E hw s U C S F
 have hsw:swapsWithSole [.Tuple [.Attribute x ⟨n1.toArray⟩ p1, .Attribute y ⟨n2.toArray⟩ p2] k p0] v pos.line env=pure false:=by
  induction v using Expr.casesOn <;>rfl
 have hss:swappedStores [.Tuple [.Attribute x ⟨n1.toArray⟩ p1, .Attribute y ⟨n2.toArray⟩ p2] k p0] v env=pure none:=by
  induction v using Expr.casesOn <;>first | rfl | skip
  rw[ZJ]
  split
  ·rfl
  split
  ·rfl
  exact if_pos rfl
 refine wpAny_Assign_stores (sT (he A d hd env X) hw C S F fun w CA mv JA BA q rv HB DA mA HA=>?_) hsw hss
 obtain⟨rfl,q⟩:=rG q
 rcases mv with _ | _ | _ | _ | (_ | ⟨a,_ | ⟨b,_ | ⟨b3,r⟩⟩⟩) | _ | _ | _ <;>first | exact(q trivial).elim | skip
 show wpAny _ _ (assign (.Tuple [.Attribute x ⟨n1.toArray⟩ p1, .Attribute y ⟨n2.toArray⟩ p2] k p0) env w) _ _ _
 rw[assign_Tuple]
 refine wpAny_bind (wpAny_standAt ?_)
 refine wpAny_bind (wpAny_holding (jG (vs:=[a,b]) DA (dL HB) rfl rv fun h' xs eA nA rr hl u0=>?_))
 obtain⟨xa,xb,rfl,ra,rb⟩:=PA.two rr
 ·show wpAny _ _ (do holding [xb] (assign (.Attribute x ⟨n1.toArray⟩ p1) env xa);holding [] (assign (.Attribute y ⟨n2.toArray⟩ p2) env xb);pure ()) _ _ _
  have T':=HA.trans nA
  refine wpAny_bind (wpAny_holding (KL ?_))
  refine Ec (h1 A d none env X) T' q (GZ HB DA nA) eA (mA.step DA nA) fun ov eC mo II GF q ro gJ iB HG XB=>?_
  refine wpAny_mono (eG Y gJ iB ro (ra.step0 eA XB) (cX q)) (fun u0 nK p=>?_) fun u0 u0 e=>e
  obtain⟨oM,fK,q,IF,MD⟩:=p
  have hJ:=HG.step iB MD
  have NX:=gJ.step iB MD
  have T'':=T'.trans (XB.trans MD)
  refine wpAny_bind (wpAny_holding (KL ?_))
  refine Ec (h2 A d none env X) T'' q NX IF hJ fun ov Vb mo fZ gZ q ro kQ kK dU vM=>?_
  refine wpAny_mono (eG Y kQ kK ro (rb.step0 eA (XB.trans (MD.trans vM))) (cX q)) (fun u0 ZM p=>?_) fun u0 u0 e=>e
  obtain⟨DT,gQ,q,IL,lK⟩:=p
  exact wpAny_pure (AG q IL (dU.step kK lK) (T''.trans (vM.trans lK)).x)
theorem eW(Y:xC g){o i e:IE}{x k v:Expr}{p0:Pos}(he:AE g c e v)(ho:AE g c o x)(hi:AE g c i k):AS g c (.setIdx o i e) (.Assign [.Subscript x k p0] v pos):=by
 intro A d hd env outer X hf Z J K E hw s U C S F
 refine wpAny_Assign_Subscript (sT (he A d hd env X) hw C S F fun w CA mv JA BA q rv HB DA mA HA=>?_) (by induction v using Expr.casesOn <;>rfl)
 refine Ec (ho A d hd env X) HA q HB DA mA fun ov cA mo TC bB q ro oE eA UC nA=>?_
 refine Ec (hi A d hd env X) (HA.trans nA) q oE eA UC fun kv eC mk II GF q rk gJ iB HG XB=>?_
 refine wpAny_mono (HU Y gJ iB (ro.step0 eA XB) rk (rv.step0 DA (nA.trans XB)) (dX q)) (fun u0 nK p=>?_) fun u0 u0 e=>e
 obtain⟨oM,fK,q,IF,MD⟩:=p
 exact AG q IF (HG.step iB MD) (HA.trans (nA.trans (XB.trans MD))).x
theorem kc{i:Nat}{op:Operator}{e:IE}{id:Str}{p0:Pos}{v:Expr}(h1:c.isLoc i id=true)(he:AE g c e v):AS g c (.aug i op e) (.AugAssign (.Name id p0) op v pos):=by
 intro A d hd env outer X hf Z J K E hw s U C S F
 obtain⟨x,hx,q⟩:=vc hw
 refine wpAny_AugAssign_Name (TK S F (nL X h1).1 hx ?_ fun w Qe=>?_)
 ·have:YH id=true:=by unfold CC.isLoc at h1;simp only[Bool.and_eq_true]at h1;exact h1.1.2
  exact(kH this).2
 ·refine sT (he A d hd env X) q C S F fun u CA mv JA BA q rv HB DA mA HA=>?_
  obtain⟨r,hr,q⟩:=pc q
  refine qU DA (Qe.step0 S HA) rv hr fun z t rz=>?_
  exact fH X (DA.toks t) (mA.step DA (.refl ..)) h1 rz fun h' t' eA UC nA=>AG (fun k=>q (FE k)) eA UC (HA.x.trans nA)
theorem OT(Y:xC g){o e:IE}{op:Operator}{x v:Expr}{n:Str}{p0:Pos}(he:AE g c e v)(ho:AE g c o x):AS g c (.augAttr o n.cps.toList op e) (.AugAssign (.Attribute x n p0) op v pos):=by
 obtain⟨⟨n⟩⟩:=n
 intro A d hd env outer X hf Z J K E hw s U C S F
 refine wpAny_AugAssign_AttributeAny (sT (ho A d hd env X) hw C S F fun ov CA mo JA BA q ro HB DA mA HA=>?_)
 obtain⟨y,q⟩:=Classical.not_forall.mp q
 obtain⟨hy,q⟩:=Classical.not_imp.mp q
 refine wpAny_mono (oR Y HB DA ro hy (Q:=fun v J=>v=y/\J=JA) ⟨rfl,rfl⟩) (fun old cA p=>?_) fun u0 u0 e=>e
 obtain⟨my,TC,bB,⟨rfl,rfl⟩,ry,eA,nA⟩:=p
 refine Ec (he A d hd env X) (HA.trans nA) q (HB.step DA nA) eA (mA.step DA nA) fun u eC mv II GF q rv gJ iB HG XB=>?_
 obtain⟨r,hr,q⟩:=pc q
 refine qU iB (ry.step0 eA XB) rv hr fun z t rz=>?_
 refine wpAny_mono (eG Y (s:={eC with toks:=t}) (Cx.tk gJ) (iB.toks t) ((ro.step0 DA nA).step0 eA XB) rz (cX q)) (fun u0 nK p=>?_) fun u0 u0 e=>e
 obtain⟨oM,fK,q,IF,MD⟩:=p
 have BZ:NA eC.heap nK.heap GF fK []:=MD
 exact AG q IF (HG.step iB BZ) (HA.trans (nA.trans (XB.trans BZ))).x
theorem Qa{e:IE}{v:Expr}(h:mL v=false)(he:AE g c e v):AS g c (.expr e) (.Expr v pos):=fun A d hd env outer X hf Z J K E hw s U C S F=>
 wpAny_Expr_any (sT (he A d hd env X) hw C S F fun w CA mv JA BA q rv HB DA mA HA=>AG q DA mA HA.x) (IY F.kind) (pS h)
theorem Me{e:IE}{v:Expr}(he:AE g c e v):AS g c (.ret e) (.Return (some v) pos):=fun A d hd env outer X hf Z J K E hw s U C S F=>
 wpAny_Return_some (sT (he A d hd env X) hw C S F fun w CA mv JA BA q rv HB DA mA HA=>⟨.ret mv,Z,JA,BA,q,⟨w,rfl,rv⟩,DA,mA,HA.x⟩)
theorem Hb:AS g c .ret0 (.Return none pos):=fun A d hd env outer X hf Z J K E hw s U C S F=>wpAny_Return_none ⟨.ret .none,Z,J,U,hw,⟨_,rfl,rfl⟩,S,F, .refl ..⟩
theorem td{t:IT}{a b:pE}{t':Expr}{a' b':List Stmt}(ht:AT g c t t')(ha:AB g c a a')(hb:AB g c b b'):AS g c (.ite t a b) (.If t' a' b' pos):=fun A d hd env outer X hf Z J K E hw s U C S F=>
 wpAny_If (wpAny_mono (ht A d hd env X hw C S F) (fun r CA p=>by
  obtain⟨JA,BA,q,DA,HA⟩:=p
  induction r using Bool.casesOn with
  | true=>exact xQ HA.x (ha A d hd env outer X hf q (C.step S HA) DA (F.step S HA))
  | false=>exact xQ HA.x (hb A d hd env outer X hf q (C.step S HA) DA (F.step S HA))) fun u0 u0 p=>dA.toX (E:=NF E) S F p)
theorem Cf{t:IT}{b:pE}{t':Expr}{b':List Stmt}(ht:AT g c t t')(hb:AB g c b b'):AS g c (.whl t b) (.While t' b' [] pos):=by
 intro A d hd env outer X hf bg BO K E hw ZB UA GL KI lQ
 refine wpAny_While ?_
 refine qI hw (fun u0 Z J=>∀s U,St g s U J->Fm g c.nm s U env Z->NA ZB.heap s.heap UA U (OC env)->codeAny (model g.prog g.w) A (.whileLoop t' b' [] env)
  (fun r s'=>match r with | .ok f=>lD g c.nm env ZB.heap UA (NF K) f s' | .error e=>cameBackBy (model g.prog g.w) A env (xB g c.nm env ZB.heap UA (NF E)) e s') s) ?_ ZB UA KI lQ (.refl ..)
 intro _ Z J hq s U S F T
 have C:=GL.step KI T
 refine AX (wpAny_mono (ht A d hd env X hq C S F) (fun r CA p=>?_) fun e s' p=>((dA.toX (E:=NF E) S F p).from T).out GL KI hf)
 obtain⟨JA,BA,q,DA,HA⟩:=p
 have mA:=F.step S HA
 have T':=T.trans HA.x
 induction r using Bool.casesOn with
 | false=>exact AG q DA mA T'
 | true=>
   refine wpAny_mono (hb A d hd env outer X hf q (C.step S HA) DA mA) (fun f cA p=>?_) fun e cA p=>(p.from T').out GL KI hf
   obtain⟨fl,HX,TC,bB,q,rf,eA,UC,nA⟩:=p
   have XB:=T'.trans nA
   induction fl using Fl.casesOn with
   | next=>subst rf;exact nn q cA bB eA UC XB
   | brk=>subst rf;exact AG q eA UC XB
   | ret v=>obtain⟨x,rfl,r⟩:=rf;exact⟨.ret v,HX,TC,bB,q,⟨x,rfl,r⟩,eA,UC,XB⟩
end
end
section
set_option backward.match.sparseCases true
section
variable{g:G}{c:CC}{pos:Pos}
theorem RD.imp{α:Type}{o:Option α}{P Q:α->Prop}(h:RD o P)(k:∀{a},P a->Q a):RD o Q:=by
 induction o using Option.casesOn with
 | none=>trivial
 | some a=>exact k h
theorem Ra(Y:xC g){i:Nat}{it:IE}{b:pE}{id:Str}{p0:Pos}{it':Expr}{b':List Stmt}(h1:c.isLocal i id=true)(h2:vD it'=false)(hi:AE g c it it')(hb:AB g c b b'):AS g c (.for1 i it b) (.For (.Name id p0) it' b' [] pos):=by
 intro A d hd env outer X hf Z J K E hw s U C S F
 refine wpAny_For (sT (hi A d hd env X) hw C S F fun x CA mv JA BA q rv HB DA mA HA=>?_) (fun u0=>cL h2)
 obtain⟨rfl,q⟩:=rG q
 have hh:=dL C
 have hY:=Ae HA DA
 induction mv using V.casesOn with
 | tup vs=>
   obtain⟨a,os,rfl,t,z,r⟩:=rv
   have t':=t
   obtain⟨o,e,c1,n,dd⟩:=t'
   refine wpAny_pyIter_tuple ⟨o,e,c1,n,dd⟩ ?_
   refine WG hf C S (sJ (vs:=vs) (os:=os) (a:=a) hh) hY (hb A d none env outer X hf) (iX X h1) (fun P hP=>qI q P fun k Z J hm=>hP k Z J ?_) (DA.pushU _) (mA.step DA (.pushU ..)) (HA.trans (.pushU ..)).x ⟨⟨_,Heap.get?_push_size _ rfl,rfl,rfl⟩,nC _ t,r.step0 DA (.pushU ..)⟩
   refine⟨_,rfl,?_⟩
   induction hk:vs[k]? using Option.casesOn with
   | none=>exact fun n=>hm fun r e=>by rw[hk]at e;subst e;exact n
   | some v=>exact⟨_,rfl,fun n=>hm fun r e=>by rw[hk]at e;subst e;exact FE n⟩
 | loc l=>
   obtain⟨a,ha,rfl⟩:=rv
   obtain⟨ob,q⟩:=Classical.not_forall.mp q
   obtain⟨hl,q⟩:=Classical.not_imp.mp q
   induction ob using O.casesOn with
   | dict kvs ep=>
     obtain⟨ps,D,hz,rr⟩:=DA.objs _ a _ ha hl
     refine wpAny_pyIter_dict (WI Y DA ha) D ?_
     refine WG hf C S (rP (kvs:=kvs) (ep:=ep) (l:=l) (a:=a) hh) hY (hb A d none env outer X hf) (iX X h1) (fun P hP=>qI q P fun k Z J hm=>hP k Z J ?_) (DA.pushU _) (mA.step DA (.pushU ..)) (HA.trans (.pushU ..)).x ⟨ha,_,Heap.get?_push_size _ rfl,rfl,by show _=Data.fields #[Value.ref a, .int 0 0, .int kvs.length 0, .int ep 0];rw[<-rr.len]⟩
     obtain⟨hd1,hm⟩:=Classical.not_imp.mp hm
     refine⟨_,⟨hd1,rfl⟩,?_⟩
     induction hk:kvs[k]? using Option.casesOn with
     | none=>exact fun n=>hm fun r e=>by rw[hk]at e;subst e;exact n
     | some v=>exact⟨_,rfl,fun n=>hm fun r e=>by rw[hk]at e;subst e;exact FE n⟩
   | list vs=>
     obtain⟨os,n,ho,hz,rr⟩:=DA.objs _ a _ ha hl
     refine wpAny_pyIter_list (OD ho) ?_
     refine WG hf C S (sL (l:=l) (a:=a) hh) hY (hb A d none env outer X hf) (iX X h1) (fun P hP=>qI q P fun k Z J hm=>hP k Z J ?_) (DA.pushU _) (mA.step DA (.pushU ..)) (HA.trans (.pushU ..)).x ⟨ha,_,Heap.get?_push_size _ rfl,rfl,rfl⟩
     obtain⟨r,hm⟩:=Classical.not_forall.mp hm
     obtain⟨hr,hm⟩:=Classical.not_imp.mp hm
     refine⟨r,TI hr,?_⟩
     induction r using Option.casesOn with
     | none=>exact hm
     | some v=>exact⟨_,rfl,fun n=>hm (FE n)⟩
   | _=>exact(q trivial).elim
 | _=>exact(q trivial).elim
theorem Ta(Y:xC g){is:List Nat}{it:IE}{b:pE}{ts:List Expr}{x1:Nat}{p0:Pos}{it':Expr}{b':List Stmt}(h1:pB c is ts=true)(h2:vD it'=false)(hi:AE g c it it')(hb:AB g c b b'):AS g c (.forT is it b) (.For (.Tuple ts x1 p0) it' b' [] pos):=by
 intro A d hd env outer X hf Z J K E hw s U C S F
 refine wpAny_For (sT (hi A d hd env X) hw C S F fun x CA mv JA BA q rv HB DA mA HA=>?_) (fun u0=>cL h2)
 obtain⟨rfl,q⟩:=rG q
 have hh:=dL C
 have hY:=Ae HA DA
 have turn:∀{r:Option V} {N:Prop} {Z:List (Option V)} {J:List O} {B:List (Option V)->Prop},¬(match r with | none=>N | some v=>RP J is.length v fun vs=>KD is vs Z fun Z=>B Z)->match r with
  | none=>¬N
  | some v=>∃gK,(tG J is.length v).map (IC Z is)=some gK/\¬B gK:=by
  intro r N Z J B hm
  induction r using Option.casesOn with
  | none=>exact hm
  | some v=>
    obtain⟨vs,hu,hm⟩:=pR hm
    exact⟨_,by rw[hu];rfl,fun n=>hm (bI n)⟩
 rcases FR q with⟨vs,rfl⟩ | ⟨l,vs,rfl,hl⟩
 ·obtain⟨a,os,rfl,t,z,r⟩:=rv
  have t':=t
  obtain⟨o,e,c1,n,dd⟩:=t'
  refine wpAny_pyIter_tuple ⟨o,e,c1,n,dd⟩ ?_
  refine WG hf C S (sJ (vs:=vs) (os:=os) (a:=a) hh) hY (hb A d none env outer X hf) (Ca X hh h1) (fun P hP=>qI q P fun k Z J hm=>hP k Z J ?_) (DA.pushU _) (mA.step DA (.pushU ..)) (HA.trans (.pushU ..)).x ⟨⟨_,Heap.get?_push_size _ rfl,rfl,rfl⟩,nC _ t,r.step0 DA (.pushU ..)⟩
  obtain⟨r,hm⟩:=Classical.not_forall.mp hm
  obtain⟨hr,hm⟩:=Classical.not_imp.mp hm
  exact⟨r,(Option.some.inj hr).symm,turn hm⟩
 ·obtain⟨a,ha,rfl⟩:=rv
  obtain⟨a',os,n,ha',ho,hz,rr⟩:=DA.list hl
  rw[ha]at ha';cases ha'
  refine wpAny_pyIter_list (OD ho) ?_
  refine WG hf C S (sL (l:=l) (a:=a) hh) hY (hb A d none env outer X hf) (Ca X hh h1) (fun P hP=>qI q P fun k Z J hm=>hP k Z J ?_) (DA.pushU _) (mA.step DA (.pushU ..)) (HA.trans (.pushU ..)).x ⟨ha,_,Heap.get?_push_size _ rfl,rfl,rfl⟩
  obtain⟨r,hm⟩:=Classical.not_forall.mp hm
  obtain⟨hr,hm⟩:=Classical.not_imp.mp hm
  exact⟨r,TI hr,turn hm⟩
theorem CY(Y:xC g){i:Nat}{hi:IE}{b:pE}{id:Str}{p0 p1:Pos}{f y:Expr}{b':List Stmt}(h1:c.isLocal i id=true)(h2:VG c f=true)(h3:gC y=false)(he:AE g c hi y)(hb:AB g c b b'):AS g c (.forR0 i hi b) (.For (.Name id p0) (.Call f [y] [] p1) b' [] pos):=by
 intro A d hd env outer X hf Z J K E hw s U C S F
 refine wpAny_For (wpAny_mono (VK Y X h2 h3 (he A d hd env X) hw (fun v J q=>?_) C S F fun n JA CA BA y q DA mA HA y1 y2 hit=>?_) (fun v CA p=>wpAny_mono p (fun u0 u0 q=>q) fun u0 u0 p=>dA.toX (E:=NF E) S F p) fun u0 u0 p=>dA.toX (E:=NF E) S F p) (fun u0=>rfl)
 ·have q:=(rG q).2
  induction v using V.casesOn with
  | int n=>exact⟨_,rfl,(Classical.not_imp.mp q).1,(Classical.not_imp.mp (Classical.not_imp.mp q).2).1⟩
  | _=>exact(q trivial).elim
 obtain⟨rfl,q⟩:=rG q
 have q:=(Classical.not_imp.mp (Classical.not_imp.mp q).2).2
 have hh:=dL C
 have hY:∀z∈[y],s.heap.get? z=none/\g.bA.get? z=none:=fun z m=>by
  rw[List.mem_singleton.mp m];exact⟨y1,y2⟩
 refine WG hf C S (ZN (lo:=0) (hi:=n) hh) hY (hb A d none env outer X hf) (iX X h1) (fun P hP=>qI q P fun k Z J hm=>hP k Z J ?_) DA mA HA.x (by simpa using hit)
 refine⟨_,rfl,?_⟩
 rcases cf hm with⟨hk,hm⟩ | ⟨hk,hm⟩
 ·rw[if_pos (by lia)];refine⟨_,rfl,?_⟩;rw[Int.zero_add];exact fun n=>hm (FE n)
 ·rw[if_neg (by lia)];exact hm
theorem Sa(Y:xC g){i j:Nat}{it:IE}{b:pE}{ts:List Expr}{x1:Nat}{p0 p3 p4:Pos}{id:Str}{y:Expr}{b':List Stmt}(h1:pB c [i,j] ts=true)(h3:c.isGlob (.type "enumerate") id=true)(h4:gC y=false)(he:AE g c it y)(hb:AB g c b b'):
 AS g c (.forE i j it b) (.For (.Tuple ts x1 p0) (.Call (.Name id p3) [y] [] p4) b' [] pos):=by
 intro A d hd env outer X hf Z J K E hw s U C S F
 refine wpAny_For (wpAny_mono (eT Y X h3 h4 (he A d hd env X) hw (fun v J q=>?_) C S F (R:=fun v CA=>wpAny (model g.prog g.w) A (pyIter v) (fun it cA=>codeAny (model g.prog g.w) A (.forLoop (.Tuple ts x1 p0) it b' [] env) (fun r s'=>match r with | .ok f=>lD g c.nm env s.heap U (NF K) f s' | .error e=>cameBackBy (model g.prog g.w) A env (xB g c.nm env s.heap U (NF E)) e s') cA) (xB g c.nm env s.heap U (NF E)) CA) fun l a' JA CA BA e' y' q DA mA HA y1 y2 y3 y4 hne ha he hit=>?_) (fun v CA p=>p) fun u0 u0 p=>dA.toX (E:=NF E) S F p) (fun u0=>rfl)
 ·have q:=(rG q).2
  induction v using V.casesOn with
  | loc l=>obtain⟨vs,q⟩:=Classical.not_forall.mp q;exact⟨l,vs,rfl,(Classical.not_imp.mp q).1⟩
  | _=>exact(q trivial).elim
 obtain⟨rfl,q⟩:=rG q
 obtain⟨vs,q⟩:=Classical.not_forall.mp q
 obtain⟨hl,q⟩:=Classical.not_imp.mp q
 have hh:=dL C
 have hY:∀y∈[e',y'],s.heap.get? y=none/\g.bA.get? y=none:=fun y m=>by
  rcases List.mem_cons.mp m with rfl | m
  ·exact⟨y3,y4⟩
  ·rw[List.mem_singleton.mp m];exact⟨y1,y2⟩
 refine PySem.wpAny_pyIter_enum he ?_
 refine WG hf C S (iV (l:=l) (a:=a') (e:=e') (y:=y') hh hne) hY (hb A d none env outer X hf) (Ca X hh h1) (fun P hP=>qI q P fun k Z J hm=>hP k Z J ?_) DA mA HA.x ⟨ha,hit,_,he⟩
 obtain⟨r,hm⟩:=Classical.not_forall.mp hm
 obtain⟨hr,hm⟩:=Classical.not_imp.mp hm
 obtain⟨ws,hl',rfl⟩:=TI hr
 induction hk:ws[k]? using Option.casesOn with
 | none=>rw[hk]at hm;exact⟨none,⟨ws,hl',by rw[hk];rfl⟩,hm⟩
 | some v=>rw[hk]at hm;exact⟨some (.tup [.int (k:Int),v]),⟨ws,hl',by rw[hk];rfl⟩,_,rfl,fun n=>hm (FE (FE n))⟩
theorem SY(Y:xC g){e:IE}{x:Expr}(he:AE g c e x):AS g c (.raise e) (.Raise (some x) none pos):=by
 intro A d hd env outer X hf Z J K E hw s U C S F
 rw[arm_exec_Raise]
 refine wpAny_bind (wpAny_standAt ?_)
 show wpAny _ A (raiseStmt env (some (do let v <-eval x env;standAt pos;pure v)) none) _ _ _
 refine wpAny_bind (wpAny_bind (sT (he A d hd env X) hw C S F fun w CA mv JA BA q rv HB DA mA HA=>wpAny_bind (wpAny_standAt (wpAny_pure ?_))))
 induction mv using V.casesOn with
 | loc l=>
   obtain⟨Cl,q⟩:=Classical.not_forall.mp q
   obtain⟨dl,q⟩:=Classical.not_forall.mp q
   obtain⟨hl,q⟩:=Classical.not_imp.mp q
   obtain⟨hh,q⟩:=Classical.not_imp.mp q
   obtain⟨a,ha,rfl⟩:=rv
   show wpAny _ A (raiseStmt env (some (pure (.ref a))) none) _ _ _
   refine OW Y HB DA hl ha hh (fun R r=>wpAny_pure r) fun h' eA nA=>?_
   exact⟨l,Z,JA,BA,a,q,ha,rfl,⟨Cl,dl,hl⟩,eA,mA.step DA nA,(HA.trans nA).x⟩
 | _=>exact(q trivial).elim
theorem db(Y:xC g){b hb:pE}{Cl:Addr}{i:Nat}{id n:Str}{p0 p1:Pos}{b' hb':List Stmt}(h2:c.isGlob (.ref Cl) id=true)(h3:c.isLocal i n=true)(h5:hb'.isEmpty=false)(h1:AB g c b b')(h4:AB g c hb hb'):
 AS g c (.tryE b Cl i hb) (.Try b' [.ExceptHandler (some (.Name id p0)) (some n) hb' p1] [] [] pos):=by
 intro A d hd env outer X hf Z J K E hw s U Cc S F
 induction hb' using List.casesOn with
 | nil=>cases h5
 | cons rg body=>
 obtain⟨hn1,hn2⟩:=SI X h3
 refine wpAny_Try_except (wpAny_mono (h1 A d hd env outer X hf hw Cc S F) (fun f CA p=>?_) fun e CA p=>?_)
 ·induction f using PySem.Flow.casesOn <;>first | exact p | (show wpAny _ _ (execs [] env) _ _ _;rw[execs_nil];exact wpAny_pure p)
 obtain⟨l,vG,JA,BA,a,q,ha,rfl,_,DA,mA,HA⟩:=p
 obtain⟨dl,q⟩:=Classical.not_forall.mp q
 obtain⟨hl,q⟩:=Classical.not_imp.mp q
 rw[CL]at q
 have HB:=Cc.step S HA
 refine ZG HB DA hf hl ha fun ZD eA nA ke=>?_
 refine sD eA hl ha none fun KC iB XB ZZ=>?_
 have lR:=nA.trans XB
 have HG:=mA.step (s':={CA with heap:=KC}) DA lR
 refine wpAny_handleBy_cons ?_ (ref_ne_byPass a)
 refine codeAny_handlers_test (QK Y X iB HG h2 (ba Y iB hl ha ?_))
 simp only[if_true]
 refine codeAny_handlers_suite_as ?_
 refine sD iB hl ha none fun zM IF MD aZ=>?_
 have hJ:=HG.step (s':={CA with heap:=zM}) iB MD
 refine fH X IF hJ (ZC h3) (v:= .loc l) ⟨a,ha,rfl⟩ fun GY ye kK dU vM=>?_
 have hU:NA s.heap GY U BA (OC env):=HA.trans ((lR.trans MD).x.trans vM)
 have kQ:Cx g (A.mark (some (.ref a))) {CA with heap:=GY,toks:=ye} BA d (some l):=(Cc.step (s':={CA with heap:=GY,toks:=ye}) S hU).mark' ha
 refine wpAny_mono (h4 (A.mark (some (.ref a))) d (some l) env outer X hf q kQ kK dU) (fun f ZM p=>?_) fun x ZM p=>?_
 ·obtain⟨fl,Gf,DT,gQ,q,rf,IL,QX,lK⟩:=p
  show wpAny _ A (do bindName env n .none;unbindBehindTheSuite env n p1) _ _ ZM
  refine FS IL QX hn1 (by simp) hn2 fun kd Bh sZ mZ iU=>?_
  exact⟨fl,_,DT,gQ,fun k=>q (FE k),rf.step IL iU QX.noTup,sZ,mZ,hU.trans (lK.trans iU)⟩
 ·obtain⟨Bg,Gf,DT,gQ,lc,q,bP,rfl,⟨Nf,Jd,dP⟩,IL,QX,lK⟩:=p
  have Kc:=kQ.step kK lK
  refine ZG Kc IL hf dP bP fun kd sZ iU me=>?_
  have mZ:=QX.step (s':={ZM with heap:=kd}) IL iU
  refine FS sZ mZ hn1 (by simp) hn2 fun wf VU Wc Rf cc=>?_
  have oe:kD {ZM with heap:=wf,toks:=VU} (.ref lc):=by
   obtain⟨a',e,q⟩:=me
   exact⟨a',e,cc.tbs _ q⟩
  refine lN Wc dP bP oe fun da Yc dc Vg=>?_
  have Sf:=Rf.step (s':={ZM with heap:=da,toks:=VU}) Wc dc
  have T':=lK.trans (iU.x.trans (cc.trans dc.x))
  have Mc:Cx g (A.mark (some (.ref a))) {ZM with heap:=da,toks:=VU} gQ d (some l):=kQ.step (s':={ZM with heap:=da,toks:=VU}) kK T'
  refine ZG Mc Yc hf dP bP fun bA KI jR fe=>?_
  have lQ:=Sf.step (s':={ZM with heap:=bA,toks:=VU}) Yc jR
  refine uR KI dP bP fe fun FY SX kR je=>?_
  have PX:=lQ.step (s':={ZM with heap:=FY,toks:=VU}) KI kR
  exact⟨Bg,_,DT,gQ,lc,fun k=>q (FE k),bP,rfl,⟨Nf,Jd,dP⟩,SX,PX,hU.trans (T'.trans (jR.trans kR).x)⟩
theorem fb(Y:xC g){b f:pE}{b' f':List Stmt}(h3:f'.isEmpty=false)(h1:AB g c b b')(h2:AB g c f f'):AS g c (.tryF b f) (.Try b' [] [] f' pos):=by
 intro A d hd env outer X hf Z J K E hw s U C S F
 induction f' using List.casesOn with
 | nil=>cases h3
 | cons pf fs=>
 have plain:∀{fl:Fl} {f':Flow} {vG:List (Option V)} {JA:List O} {BA:List Addr} {CA:Shared},¬dB g d hd f vG JA (wM (K fl) fun u0 u0 u0=>True) E->gU g CA.heap BA fl f'->St g CA BA JA->Fm g c.nm CA BA env vG->NA s.heap CA.heap U BA (OC env)->
  wpAny (model g.prog g.w) A (execs (pf::fs) env) (fun g' s'=>match g' with | .next=>lD g c.nm env s.heap U (NF K) f' s' | g'=>lD g c.nm env s.heap U (NF K) g' s') (notedBy (model g.prog g.w) A env (cameBackBy (model g.prog g.w) A env (xB g c.nm env s.heap U (NF E)))) CA:=by
  intro fl f' vG JA BA CA hq rf DA mA HA
  refine wpAny_mono (h2 A d hd env outer X hf hq (C.step S HA) DA mA) (fun ug cA p=>?_) fun e cA p=>(p.from HA).out C S hf
  obtain⟨Td,HX,TC,bB,q,Oe,eA,UC,nA⟩:=p
  induction Td using Fl.casesOn with
  | next=>subst Oe;exact⟨fl,HX,TC,bB,q,rf.step DA nA mA.noTup,eA,UC,HA.trans nA⟩
  | brk=>exact(q trivial).elim
  | ret v=>exact(q trivial).elim
 refine wpAny_Try_finally (wpAny_mono (h1 A d hd env outer X hf hw C S F) (fun tg CA p=>?_) fun e CA p=>?_)
 ·obtain⟨fl,vG,JA,BA,q,rf,DA,mA,HA⟩:=p
  induction fl using Fl.casesOn with
  | next=>
    subst rf
    show wpAny _ _ (execs [] env) _ _ _
    rw[execs_nil]
    exact wpAny_pure (plain (fl:= .next) q rfl DA mA HA)
  | brk=>subst rf;exact plain (fl:= .brk) q rfl DA mA HA
  | ret v=>
    obtain⟨x,rfl,r⟩:=rf
    exact plain (fl:= .ret v) q ⟨x,rfl,r⟩ DA mA HA
 obtain⟨l,vG,JA,BA,a,q,ha,rfl,⟨Cl,dl,hl⟩,DA,mA,HA⟩:=p
 have HB:=C.step S HA
 refine ZG HB DA hf hl ha fun ZD eA nA ke=>?_
 refine⟨ref_ne_byPass a,?_⟩
 refine ZG (GZ HB DA nA) eA hf hl ha fun KC iB XB ZZ=>?_
 refine sD iB hl ha none fun zM IF MD aZ=>?_
 have T':=HA.trans (nA.trans (XB.trans MD)).x
 have hJ:=mA.step (s':={CA with heap:=zM}) DA (nA.trans (XB.trans MD))
 have NX:Cx g (A.mark (some (.ref a))) {CA with heap:=zM} BA d (some l):=(C.step (s':={CA with heap:=zM}) S T').mark' ha
 refine wpAny_mono (h2 (A.mark (some (.ref a))) d (some l) env outer X hf q NX IF hJ) (fun vg Vb p=>?_) fun x Vb p=>?_
 ·obtain⟨fl,Ff,fZ,gZ,q,rf,kK,dU,vM⟩:=p
  induction fl using Fl.casesOn with
  | brk=>exact(q trivial).elim
  | ret v=>exact(q trivial).elim
  | next=>
    subst rf
    show wpAny _ A (passOn "try.finally" (.ref a) env) _ _ _
    have YV:=vM.loc _ _ ha
    have qS:kD Vb (.ref a):=by
     obtain⟨a',e,q⟩:=aZ ZZ
     exact⟨a',e,vM.tbs _ q⟩
    obtain⟨a',e,Hg⟩:=id qS
    cases e
    obtain⟨kQ,Id,MZ⟩:=iT kK YV Hg
    refine lN kK MZ YV qS fun vf IL lK bZ=>?_
    exact⟨l,Ff,fZ,gZ,a,q,YV,rfl,⟨kQ,Id,MZ⟩,IL,dU.step kK lK,T'.trans (vM.trans lK.x)⟩
 ·exact p.noted NX IF hf fun ZM p tb=>(p.from T').came tb fun u0 p u0=>p
theorem MT(ts:List Expr):RD (qQ ts) fun w=>∃p q,ts=[.Attribute w.1 w.2.1 p, .Attribute w.2.2.1 w.2.2.2 q]:=by
 rcases ts with _ | ⟨t,r⟩
 ·trivial
 ·induction t using Expr.casesOn with
  | Attribute x n p=>rcases r with _ | ⟨u,r⟩
                     ·trivial
                     ·induction u using Expr.casesOn with
                      | Attribute y m q=>induction r using List.casesOn with
                        | nil=>exact⟨_,_,rfl⟩
                        | cons _ _=>trivial
                      | _=>trivial
  | _=>trivial
theorem cT(it:Expr):RD (LO c it) fun x=>∃id p q,it= .Call (.Name id p) [x] [] q/\c.isGlob (.type "enumerate") id=true/\gC x=false:=by
 induction it using Expr.casesOn with
 | Call f xs kws p=>induction f using Expr.casesOn with
   | Name id q=>
     refine .when fun h1=>?_
     rcases kws with _ | ⟨_,_⟩
     ·rcases xs with _ | ⟨x,_ | ⟨_,_⟩⟩
      ·trivial
      ·exact .when fun h2=>⟨_,_,_,rfl,h1,QJ h2⟩
      ·trivial
     ·trivial
   | _=>trivial
 | _=>trivial
theorem OU(Y:xC g){E:CC->Expr->Option IE}{T:CC->Expr->Option IT}{B:CC->List Stmt->Option pE}(hE:∀c x,RD (E c x) fun ie=>AE g c ie x)(hT:∀c x,RD (T c x) fun t=>AT g c t x)(hB:∀c x,RD (B c x) fun t=>AB g c t x)(st:Stmt):RD (kW E T B c st) fun is=>AS g c is st:=by
 have hL:∀xs,RD (jF (E c) xs) fun es=>BH (AE g c) es xs:=zJ (hE c)
 induction st using PySem.Stmt.casesOn with
 | Assign ts v p=>induction ts using List.casesOn with
   | nil=>trivial
   | cons t r=>induction r using List.casesOn with
     | cons _ _=>trivial
     | nil=>induction t using Expr.casesOn with
       | Name id q=>exact .when fun h=>(hE c v).map fun he=>nU (Bool.and_eq_true_iff.mp h).1 (QJ (Bool.and_eq_true_iff.mp h).2) he
       | Tuple ts k q=>
         show RD (ZR E c ts v) _
         unfold ZR
         induction ha:qQ ts using Option.casesOn with
         | some w=>
           obtain⟨x,n,y,m⟩:=w
           obtain⟨p1,p2,rfl⟩:=(MT _).get ha
           exact(hE c v).bind fun he=>(hE c x).bind fun hx=>(hE c y).map fun hy=>UR Y he hx hy
         | none=>induction hv:aR v using Option.casesOn with
           | some vs=>
             induction v using Expr.casesOn with
             | Tuple vs' k' q'=>
               cases hv
               refine .when fun h=>(hL _).map fun hs=>?_
               simp only[Bool.and_eq_true,decide_eq_true_eq]at h
               exact Tb h.1.1 h.1.2 h.2 hs
             | _=>cases hv
           | none=>exact .when fun h=>(hE c v).map fun he=>ib (Bool.and_eq_true_iff.mp h).1 hv he
       | Attribute x n q=>exact(hE c v).bind fun he=>(hE c x).map fun ho=>GU Y he ho
       | Subscript x k q=>exact .when fun h=>(hE c v).bind fun he=>(hE c x).bind fun ho=>(hE c k).map fun hi=>eW Y he ho hi
       | _=>trivial
 | AugAssign t op v p=>induction t using Expr.casesOn with
   | Name id q=>exact .when fun h=>(hE c v).map fun he=>kc h he
   | Attribute x n q=>exact(hE c v).bind fun he=>(hE c x).map fun ho=>OT Y he ho
   | _=>trivial
 | Expr v p=>exact .when fun h=>(hE c v).map fun he=>Qa (QJ h) he
 | Return v p=>induction v using Option.casesOn with
   | some v=>exact(hE c v).map fun he=>Me he
   | none=>exact Hb
 | If t a b p=>exact(hT c t).bind fun ht=>(hB c a).bind fun ha=>(hB c b).map fun hb=>td ht ha hb
 | While t b o p=>induction o using List.casesOn with
   | cons _ _=>trivial
   | nil=>exact(hT c t).bind fun ht=>(hB c b).map fun hb=>Cf ht hb
 | For t it b o p=>induction o using List.casesOn with
   | cons _ _=>trivial
   | nil=>
     refine(hB c b).bind fun hb=>?_
     induction t using Expr.casesOn with
     | Name id q=>
       refine .when fun h1=>?_
       induction hr:UJ c it using Option.casesOn with
       | some x=>
         obtain⟨f,p',rfl,h2,h3⟩:=(HM _).get hr
         exact(hE c x).map fun he=>CY Y h1 h2 h3 he hb
       | none=>exact .when fun h2=>(hE c it).map fun he=>Ra Y h1 (QJ h2) he hb
     | Tuple ts k q=>
       show RD (match LO c it with | some x=>_ | none=>_) _
       induction hr:LO c it using Option.casesOn with
       | some x=>
         obtain⟨id,p',q',rfl,h2,h3⟩:=(cT _).get hr
         show RD (match c.places ts with | []=>_ | i::r=>_) _
         rcases c.places ts with _ | ⟨i,_ | ⟨j,_ | ⟨l,r⟩⟩⟩
         ·trivial
         ·trivial
         ·exact .when fun h1=>(hE c x).map fun he=>Sa Y h1 h2 h3 he hb
         ·trivial
       | none=>
         refine .when fun h=>(hE c it).map fun he=>?_
         have h:=Bool.and_eq_true_iff.mp h
         exact Ta Y (Bool.and_eq_true_iff.mp h.1).1 (QJ h.2) he hb
     | _=>trivial
 | Raise x y p=>induction x using Option.casesOn with
   | none=>trivial
   | some x=>induction y using Option.casesOn with
     | some _=>trivial
     | none=>exact(hE c x).map fun he=>SY Y he
 | Try b hs o f p=>induction o using List.casesOn with
   | cons _ _=>trivial
   | nil=>induction hs using List.casesOn with
     | nil=>exact .when fun h=>(hB c b).bind fun hb=>(hB c f).map fun hf=>fb Y (QJ h) hb hf
     | cons h r=>induction r using List.casesOn with
       | cons _ _=>trivial
       | nil=>induction f using List.casesOn with
         | cons _ _=>trivial
         | nil=>
           obtain⟨t,n,hb,p1⟩:=h
           induction t using Option.casesOn with
           | none=>trivial
           | some t=>induction n using Option.casesOn with
             | none=>trivial
             | some n=>induction t using Expr.casesOn with
               | Name id q=>
                 show RD ((mH c.K id).bind _) _
                 refine(RD.self _).bind fun u0=>(RD.self _).bind fun u0=> .when fun h=>(hB c b).bind fun h1=>(hB c hb).map fun h4=>?_
                 simp only[Bool.and_eq_true]at h
                 exact db Y h.1.1 h.1.2 (QJ h.2) h1 h4
               | _=>trivial
 | Break p=>exact fun A d hd env outer X hf Z J K E hw s U C S F=>wpAny_Break ⟨.brk,Z,J,U,hw,rfl,S,F, .refl ..⟩
 | Pass p=>exact fun A d hd env outer X hf Z J K E hw s U C S F=>wpAny_Pass (AG hw S F (.refl ..))
 | _=>trivial
class inductive bU(P:IS->Stmt->Prop):pE->List Stmt->Prop
 | nil:bU P .nil []
 | cons {e:IS} {r:pE} {x:Stmt} {xs:List Stmt} (p:P e x) (q:bU P r xs):bU P (.cons e r) (x::xs)
theorem uS{P:IS->Stmt->Prop}{f:Stmt->Option IS}(h:∀x,RD (f x) fun e=>P e x):∀xs,RD (bb f xs) fun es=>bU P es xs
 | []=> .nil
 | x::xs=>(h x).bind fun p=>(uS h xs).map fun q=> .cons p q
theorem uU{b:pE}{xs:List Stmt}(h:bU (AS g c) b xs):AB g c b xs:=by
 intro A d hd env outer X hf
 induction h with
 | nil=>exact fun {Z J K E} hw {s U} C S F=>by rw[execs_nil];exact wpAny_pure (AG hw S F (.refl ..))
 | cons p hr ih=>
   intro Z J K E hw s U C S F
   rw[execs_cons]
   cases hr with
   | nil=>
     refine wpAny_bind (wpAny_mono (p A d hd env outer X hf hw C S F) (fun f CA p=>?_) fun u0 u0 p=>p)
     induction f using PySem.Flow.casesOn <;>first | exact wpAny_pure p | (show wpAny _ _ (execs [] env) _ _ _;rw[execs_nil];exact wpAny_pure p)
   | cons p2 hr2=>
     refine wpAny_bind (wpAny_mono (p A d hd env outer X hf hw C S F) (fun f CA p=>?_) fun u0 u0 p=>p)
     obtain⟨fl,vG,JA,BA,q,rf,DA,mA,HA⟩:=p
     induction fl using Fl.casesOn with
     | next=>subst rf;exact xQ HA (ih q (C.step S HA) DA mA)
     | brk=>subst rf;exact wpAny_pure ⟨.brk,vG,JA,BA,q,rfl,DA,mA,HA⟩
     | ret v=>obtain⟨y,rfl,r⟩:=rf;exact wpAny_pure ⟨.ret v,vG,JA,BA,q,⟨y,rfl,r⟩,DA,mA,HA⟩
theorem rW(Y:xC g):∀(n:Nat) (c:CC) (b:List Stmt),RD (Hf n c b) fun is=>AB g c is b
 | 0,_,_=>trivial
 | n+1,c,b=>RD.imp (uS (fun x=>OU Y (pH Y 40).1 (pH Y 40).2 (rW Y n) x) b) fun h=>uU h
end
end
section
variable{g:G}{s:Shared}{U:List Addr}{J:List O}{A:Around}{d:Nat}{hd:Option Nat}{env:Env}{nm:List (List Nat)}{Z:List (Option V)}{c:CC}{M:Model}{E:Value->Shared->Prop}
theorem NA.drop{h h':Heap}{U rA X:List Addr}(T:NA h h' U rA X)(hX:∀b∈X,h.get? b=none):NA h h' U rA []:=
 ⟨T.pre,fun b o e n u0=>T.keep b o e n (fun m=>by rw[hX b m]at e;cases e),T.shape,T.alive,T.tbs⟩
theorem nJ:∀(names:List (Str×NameKind)) (h:Heap) (acc:List (Str×Addr)) (x:Str) (a:Addr),(x,a)∈cellsFrom h.objs.size names acc->(x,a)∈acc\/(h.objs.size<=a/\(pushCells h names).get? a=some {cls:= .type "cell",data:= .cell none})
 | [],_,_,_,_,m=> .inl m
 | (n,k)::r,h,acc,x,a,m=>by
   unfold cellsFrom at m
   unfold pushCells
   split at m
   ·rename_i hk
    rw[if_pos hk]
    have hz:(h.push {cls:= .type "cell",data:= .cell none}).objs.size=h.objs.size+1:=Heap.size_push ..
    have:=nJ r (h.push {cls:= .type "cell",data:= .cell none}) ((n,h.objs.size)::acc) x a (by rw[hz];exact m)
    rcases this with q | ⟨q1,q2⟩
    ·rcases List.mem_cons.mp q with e | q
     ·cases e
      exact .inr ⟨Nat.le_refl _,pushCells_keeps _ _ _ _ (Heap.get?_push_size _ rfl)⟩
     ·exact .inl q
    ·exact .inr ⟨by exact LB q1 (eR hz),q2⟩
   ·rename_i hk
    rw[if_neg hk]
    exact nJ r h acc x a m
theorem MI:∀(names:List (Str×NameKind)) (n:Nat) (acc:List (Str×Addr)) (x:Str),(x,NameKind.cell)∈names\/x∈acc.map (·.1)->x∈(cellsFrom n names acc).map (·.1)
 | [],_,_,_,h=>by
   rcases h with h | h
   ·cases h
   ·exact h
 | (y,k)::r,n,acc,x,h=>by
   unfold cellsFrom
   split
   ·rename_i hk
    refine MI r _ _ x ?_
    rcases h with h | h
    ·rcases List.mem_cons.mp h with e | h
     ·cases e;exact .inr (by simp)
     ·exact .inl h
    ·exact .inr (by simp only[List.map_cons,List.mem_cons];exact .inr h)
   ·rename_i hk
    refine MI r _ _ x ?_
    rcases h with h | h
    ·rcases List.mem_cons.mp h with e | h
     ·cases e;exact absurd rfl hk
     ·exact .inl h
    ·exact .inr h
theorem EI{x:Str}:∀{l:List (Str×Addr)},x∈l.map (·.1)->∃a,l.lookup x=some a
 | (y,b)::r,h=>by
   rw[List.lookup_cons]
   induction e:x==y using Bool.casesOn with
   | true=>exact⟨b,rfl⟩
   | false=>
     rcases List.mem_cons.mp h with q | q
     ·rw[q]at e;simp at e
     ·exact EI q
noncomputable def Vf(nm:List (List Nat))(names:List (Str×NameKind))(i:Nat)(x:Str):Prop:=nm[i]?=some x.cps.toList/\(names.lookup x=some .local\/names.lookup x=some .cell)
theorem sR(hcells:∀x,env.scope.names.lookup x=some .cell->∃a,env.cells.lookup x=some a)(f:Str×Value->PUnit->Sem (ForInStep PUnit))(hf:∀n v u,f (n,v) u=(do storeName env n v;pure (.yield ⟨⟩))):∀(pn:List Str) (vs:List V) (xs:List Value) (i:Nat) (Z:List (Option V)) (s:Shared),vs.length=pn.length->(∀j x,pn[j]?=some x->Vf nm env.scope.names (i+j) x)->
 St g s U J->Fm g nm s U env Z->PA g s.heap U vs xs->∀{Q:PUnit->Shared->Prop},
 (∀h' t,St g {s with heap:=h',toks:=t} U J->Fm g nm {s with heap:=h',toks:=t} U env (IC Z (List.range' i pn.length) vs)->NA s.heap h' U U (OC env)->Q ⟨⟩ {s with heap:=h',toks:=t})->
 wpAny M A (forIn (pn.zip xs) PUnit.unit f) Q E s
 | [],vs,xs,i,Z,s,hl,hp,S,F,rr,Q,k=>by
   have:vs=[]:=List.length_eq_zero_iff.mp hl
   subst this
   have:xs=[]:=rr.zero
   subst this
   exact wpAny_pure (k s.heap s.toks S F (.refl ..))
 | x::pn,v::vs,xs,i,Z,s,hl,hp,S,F,rr,Q,k=>by
   obtain⟨y,ys,rfl,ry,rr'⟩:=PA.cons1 rr
   rw[List.zip_cons_cons,List.forIn_cons,hf]
   obtain⟨h1,h2⟩:=hp 0 x rfl
   have hk:env.kindOf x=some .local\/env.kindOf x=some .cell/\∃c,env.cells.lookup x=some c:=by
    rcases h2 with h2 | h2
    ·exact .inl h2
    ·exact .inr ⟨h2,hcells x h2⟩
   refine wpAny_bind (wpAny_bind (cK S F (i:=i) (x:=x.cps.toList) h1 (by simp) hk ry fun h' t S' F' T=>wpAny_pure ?_))
   refine sR hcells f hf pn vs ys (i+1) _ _ (by simpa using hl) (fun j z e=>by have:=hp (j+1) z (by simpa using e);rw[Nat.add_right_comm,Nat.add_assoc];exact this) S' F' (rr'.step S T F.noTup) fun h'' t' S'' F'' T'=>k h'' t' S'' ?_ (T.trans T')
   exact F''
 | _::_,[],_,_,_,_,hl,_,_,_,_,_,_=>by simp at hl
structure Nc(g:G)(f:Addr)(F:pA)(fd:FuncData)(pn:List Str):Prop where
 look:∃oc od osl,g.K.lookup f=some ⟨oc,od, .func fd,osl⟩
 body:∃body,fd.body= .stmts body/\Hf 20 ⟨F.nm,fd.scope,g.K⟩ body=some F.body
 co:fd.scope.isCoroutine=false
 gen:fd.scope.isGenerator=false
 kind:fd.scope.kind= .function
 clo:fd.closure=[]
 glob:fd.globals=mainGlobals
 blt:fd.builtins=builtinsNs
 code:codeIn g.K fd.code fd.qualname=true
 nodup:F.nm.Nodup
 names:(fd.scope.names.map (·.1)).Nodup
 prm:∀j x,pn[j]?=some x->Vf F.nm fd.scope.names j x
 np:pn.length=F.np
 le:F.np<=F.nm.length
theorem MU(n:Nat):∀(vs:List V),vs.length<=n->IC (List.replicate n none) (List.range' 0 vs.length) vs=vs.map some++List.replicate (n - vs.length) none:=by
 have gen:∀(vs:List V) (pre:List (Option V)) (m:Nat),vs.length<=m->IC (pre++List.replicate m none) (List.range' pre.length vs.length) vs=pre++(vs.map some++List.replicate (m - vs.length) none):=by
  intro vs
  induction vs with
  | nil=>intro pre m _;simp[dW]
  | cons v vs ih=>
    intro pre m h
    induction m using Nat.casesOn with
    | zero=>simp at h
    | succ m=>
      rw[List.length_cons,List.range'_succ,SM]
      have:(pre++List.replicate (m+1) none).set pre.length (some v)=(pre++[some v])++List.replicate m none:=by
       rw[List.set_append_right _ _ (Nat.le_refl _)]
       simp[List.replicate_succ]
      rw[this]
      have:=ih (pre++[some v]) m (by simp at h;assumption)
      rw[List.length_append]at this
      simp only[List.length_cons,List.length_nil]at this
      rw[this]
      simp
 intro vs h
 have:=gen vs [] n h
 simpa using this
theorem Cx.deep(C:Cx g A s U (d+1) hd)(S:St g s U J){h':Heap}{t:Nat}{X:List Addr}(T:NA s.heap h' U U X){L:Addr}{o:Obj}(k:env.scope.kind= .function/\env.frame=some L)(hg:g.bA.get? L=none)(ho:h'.get? L=some o)(hc:o.cls= .type "frame")(hdd:AC o):Cx g (A.deeper env) {s with heap:=h',toks:=t} U d hd:=by
 obtain⟨fr,hfr,hobj⟩:=C.stk
 refine⟨?_,?_,C.hand,env::fr,by show A.frames.map _=_;rw[hfr];rfl,fun e m=>?_⟩
 ·have:=C.depth;show A.depth+1+d<=980;exact BB this
 ·have:=C.units;show A.units+3+60*(d+1)<=9000;exact BB this
 ·rcases List.mem_cons.mp m with rfl | m
  ·exact⟨k.1,L,o,k.2,hg,ho,hc,hdd⟩
  ·obtain⟨k,L,o,f',ab,ho,hc,hdd⟩:=hobj e m
   obtain⟨o',ho',hc',hd'⟩:=T.shape L o ho (S.notin ho (by rw[hc];rfl))
   exact⟨k,L,o',f',ab,ho',hc'.trans hc,hd' hdd⟩
theorem BY(Y:xC g){f:Addr}{F:pA}{fd:FuncData}{pn:List Str}(FA:Nc g f F fd pn){vs:List V}{ds:List Value}{K:bF->List O->Prop}(hds:∀h U,(∀b o,g.bA.get? b=some o->h.get? b=some o)->PA g h U (F.dflt.drop (F.dflt.length - (F.np - vs.length))) ds)(hn:(vs++F.dflt.drop (F.dflt.length - (F.np - vs.length))).length=F.np)
 (hb:∀(s:Shared) (xs:List Value),(∀b o,g.bA.get? b=some o->s.heap.get? b=some o)->xs.length=vs.length->BindsTo s fd ⟨xs,[]⟩ (pn.zip (xs++ds)))
 (hw:¬dF g d hd F vs J K):CallOk g (d+1) hd (.ref f) vs J (NK K):=by
 intro A s U xs C S rr
 obtain⟨oc,od,osl,hlook⟩:=FA.look
 obtain⟨body,hbody,hchk⟩:=FA.body
 have Kh:g.K.In s.heap:=Y.K.keeps S.base
 have hroom:A.depth < recursionLimit:=by have:=C.depth;show A.depth < 1000;exact BB this
 refine codeAny_call_function hroom (Kh _ _ hlook) rfl FA.co FA.gen hbody (codeRec_of Kh FA.code) (hb s xs S.base rr.len _ _ _ _ ?_)
 unfold newFunctionEnv
 simp only[Option.isSome_none,Bool.false_eq_true,if_false]
 refine wpAny_bind (wpAny_alloc ?_)
 rw[FA.clo]
 refine wpAny_bind (wpAny_layCells _ (fun name kind cells=>by cases hkc:kind==NameKind.cell <;>simp[hkc]) _ _ _ _ ?_)
 have DA:=S.pushU {cls:= .type "frame",data:= .dict #[]}
 have hz:(s.heap.push {cls:= .type "frame",data:= .dict #[]}).objs.size=s.heap.objs.size+1:=Heap.size_push ..
 have hL:(s.heap.push {cls:= .type "frame",data:= .dict #[]}).get? s.heap.objs.size=some {cls:= .type "frame",data:= .dict #[]}:=Heap.get?_push_size _ rfl
 generalize bd:s.heap.push {cls:= .type "frame",data:= .dict #[]}=KB at*
 have ka:∀b o,s.heap.get? b=some o->KB.get? b=some o:=fun b o e=>by rw[<-bd];exact Heap.get?_push_of_some _ e
 have nV:=pushCells_keeps fd.scope.names KB
 have ok:=cellsFrom_ok fd.scope.names KB (s.heap.objs.size+1) [] ⟨fun u0 u0 hm=>(nomatch hm),List.Pairwise.nil⟩ (by rw[hz];exact Nat.le_refl _)
 have hnew:=fun x a=>nJ fd.scope.names KB [] x a
 have hhave:∀x,(x,NameKind.cell)∈fd.scope.names->∃a,(cellsFrom KB.objs.size fd.scope.names []).lookup x=some a:=fun x m=>EI (MI fd.scope.names KB.objs.size [] x (.inl m))
 have eA:St g {s with heap:=pushCells KB fd.scope.names,toks:=s.toks} U J:=S.ext (fun b o e=>nV b o (ka b o e)) s.toks
 have nA:NA s.heap (pushCells KB fd.scope.names) U U []:=NA.ext U (fun b o e=>nV b o (ka b o e)) []
 generalize hcl:cellsFrom KB.objs.size fd.scope.names []=cl at*
 have hm:∀x a,(x,a)∈cl->s.heap.objs.size+1<=a/\(pushCells KB fd.scope.names).get? a=some {cls:= .type "cell",data:= .cell none}:=fun x a m=>by
  rcases hnew x a m with q | ⟨q1,q2⟩
  ·cases q
  ·exact⟨by exact Nat.le_trans (eR hz) q1,q2⟩
 generalize Sg:pushCells KB fd.scope.names=ZD at*
 generalize henv:({scope:=fd.scope,locals:=s.heap.objs.size,globals:=fd.globals,cells:=cl,qual:=fd.qualname++".<locals>.",func:=some f,code:=fd.code,frame:=some s.heap.objs.size,builtins:=fd.builtins}:Env)=env
 have none_new:∀a,s.heap.objs.size<=a->s.heap.get? a=none:=fun a q=>SO q
 have g_new:∀a,s.heap.objs.size<=a->g.bA.get? a=none:=fun a q=>by
  induction e:g.bA.get? a using Option.casesOn with
  | none=>rfl
  | some o=>exact absurd (Heap.lt_size (S.base _ _ e)) (Nat.not_lt.mpr q)
 have hX:∀a∈OC env,s.heap.objs.size<=a:=fun a m=>by
  subst henv
  rcases List.mem_cons.mp m with q | m
  ·exact Nat.le_of_eq q.symm
  ·obtain⟨q,hq,rfl⟩:=List.mem_map.mp m
   have:=(hm q.1 q.2 hq).1;exact(nD this)
 have qf:∀a∈OC env,a∉U:=fun a m q=>absurd (S.lt q) (Nat.not_lt.mpr (hX a m))
 have UC:Fm g F.nm {s with heap:=ZD,toks:=s.toks} U env (List.replicate F.nm.length none):=by
  refine⟨by subst henv;exact FA.kind,by subst henv;exact FA.glob,by subst henv;exact FA.blt,by subst henv;exact⟨_,rfl⟩,FA.nodup,by simp,fun a m=>g_new a (hX a m),qf,?_,?_,?_,fun u0=>none,?_,?_⟩
  ·subst henv;exact⟨_,nV _ _ hL, .inl rfl, #[],0,rfl⟩
  ·intro a m
   subst henv
   obtain⟨q,hq,rfl⟩:=List.mem_map.mp m
   exact⟨_,_,(hm q.1 q.2 hq).2,rfl,rfl⟩
  ·subst henv
   exact List.pairwise_map.mpr ok.apart
  ·subst henv;exact⟨_, #[],0,nV _ _ hL,rfl,fun e he=>by simp at he,fun name=>rfl⟩
  ·intro i x v hx hv
   rw[List.getElem?_replicate]at hv
   split at hv <;>simp at hv
 have hcells:∀x,env.scope.names.lookup x=some .cell->∃a,env.cells.lookup x=some a:=fun x e=>by
  subst henv;exact hhave x (UF e)
 have YW:PA g ZD U (vs++F.dflt.drop (F.dflt.length - (F.np - vs.length))) (xs++ds):=(rr.step0 S nA).append (hds ZD U eA.base)
 refine wpAny_bind (sR hcells _ (fun n v u=>rfl) pn _ _ 0 _ _ (by rw[hn,FA.np]) (fun j x e=>by rw[Nat.zero_add];subst henv;exact FA.prm j x e) eA UC YW fun KC t iB HG XB=>wpAny_pure ?_)
 have T:NA s.heap KC U U (OC env):=nA.x.trans XB
 have Xg:Gd g ⟨F.nm,fd.scope,g.K⟩ env:=⟨rfl,by subst henv;rfl,hcells⟩
 refine⟨Y.nolimit.keeps iB.base,codeAny_func ?_⟩
 obtain⟨fr,hfr,_⟩:=C.stk
 have hf':(A.deeper env).frames=some (env::fr):=by show A.frames.map _=_;rw[hfr];rfl
 have gJ:Cx g (A.deeper env) {s with heap:=KC,toks:=t} U d hd:=by
  obtain⟨o',ho',hc',hd'⟩:=XB.shape s.heap.objs.size _ (nV _ _ hL) (fun q=>absurd (S.lt q) (Nat.lt_irrefl _))
  exact C.deep S T (L:=s.heap.objs.size) (o:=o') (by subst henv;exact⟨FA.kind,rfl⟩) (g_new _ (Nat.le_refl _)) ho' hc' (hd' ⟨_,_,rfl⟩)
 have Bc:IC (List.replicate F.nm.length none) (List.range' 0 pn.length) (vs++F.dflt.drop (F.dflt.length - (F.np - vs.length)))=F.start vs:=by
  have:=MU F.nm.length (vs++F.dflt.drop (F.dflt.length - (F.np - vs.length))) (by rw[hn];exact FA.le)
  rw[hn]at this
  rw[FA.np,this]
  rfl
 rw[Bc]at HG
 unfold dF at hw
 rw[XQ]at hw
 have hb:=rW Y 20 ⟨F.nm,fd.scope,g.K⟩ body
 rw[hchk]at hb
 have hXn:∀b∈OC env,s.heap.get? b=none:=fun b m=>none_new b (hX b m)
 refine wpAny_mono (hb (A.deeper env) d hd env fr Xg hf' hw gJ iB HG) (fun fl nK p=>?_) fun e nK p=>?_
 ·obtain⟨fl',Ef,oM,fK,q,rf,IF,hJ,MD⟩:=p
  have T':=(T.trans MD).drop hXn
  induction fl' using Fl.casesOn with
  | next=>subst rf;exact⟨_,oM,fK,q,rfl,IF,T'⟩
  | brk=>exact(q trivial).elim
  | ret v=>obtain⟨x,rfl,r⟩:=rf;exact⟨v,oM,fK,q,r,IF,T'⟩
 ·obtain⟨l,Ef,oM,fK,a,q,ha,rfl,⟨Cl,dl,hl⟩,IF,hJ,MD⟩:=p
  refine wpAny_bind (ZG (gJ.step iB MD) IF hf' hl ha fun GY kK vM qS=>?_)
  refine sD kK hl ha none fun vf IL lK bZ=>?_
  have T':=(T.trans (MD.trans (vM.trans lK).x)).drop hXn
  exact⟨⟨l,oM,fK,a,q,ha,rfl,⟨Cl,dl,hl⟩,IL,T'⟩,bZ qS⟩
end
section
variable{g:G}{s:Shared}{U:List Addr}{J:List O}{A:Around}{d:Nat}{hd:Option Nat}
theorem WU(A:Around)(C:Addr)(rest:List Value):(A.under (.builtin "type.__call__" ⟨.ref C::rest,[]⟩)).depth=A.depth+1/\(A.under (.builtin "type.__call__" ⟨.ref C::rest,[]⟩)).units=A.units+1/\
 (A.under (.builtin "type.__call__" ⟨.ref C::rest,[]⟩)).handled=A.handled/\(A.under (.builtin "type.__call__" ⟨.ref C::rest,[]⟩)).frames=A.frames:=
 ⟨rfl,rfl,rfl,by show pushEnvs [] A.frames=A.frames;cases A.frames <;>rfl⟩
theorem Cx.undr(Cc:Cx g A s U (d+1) hd)(C:Addr)(rest:List Value):Cx g (A.under (.builtin "type.__call__" ⟨.ref C::rest,[]⟩)) s U d hd:=by
 obtain⟨e1,e2,e3,e4⟩:=WU A C rest
 refine⟨by rw[e1];have:=Cc.depth;exact(BB this),by rw[e2];have:=Cc.units;exact(BB this),?_,?_⟩
 ·have:=Cc.hand;rw[e3];exact this
 ·rw[e4];exact Cc.stk
theorem NP(Y:xC g){C f:Addr}(hx:aU C=false)(hmk:makesIn g.K C=true)(hi:findIn g.K (.ref C) "__init__"=some (some (.ref f)))(hf:typeIn g.K (.ref f)=some (.type "function")){vs:List V}{R:bF->List O->Prop}
 (h:CallOk g d hd (.ref f) (.loc (J.length+1)::vs) (J++[.ad [], .inst C J.length]) (fun r LA=>match r with | .ok v=>v= .none/\R (.ok (.loc (J.length+1))) LA | .exn l=>R (.exn l) LA)):
 CallOk g (d+1) hd (.ref C) vs J R:=by
 intro A s U xs Cc S rr
 have K:g.K.In s.heap:=Y.K.keeps S.base
 obtain⟨hp,gg,dr,tk,oo⟩:=s
 refine make_core (makes_of K hmk) (looks_findIn K hi) (fun self=>?_) (.inl (by rw[bne_iff_ne];intro q;cases q)) ?_
 ·exact bind_fn K self hf
 ·have DA:=S.pushT emptyDict (.ad []) rfl ⟨_,fun u0=>none,Heap.get?_push_size _ rfl,rfl,⟨_, #[],0,Heap.get?_push_size _ rfl,rfl,fun e he=>by simp at he,fun name=>rfl⟩,fun es n q=>by cases q;simp,fun k=>trivial⟩
  have eA:=DA.pushT (instObj C hp.objs.size) (.inst C J.length) rfl ⟨hx,hp.objs.size,by rw[<-S.len];simp,Heap.get?_push_size _ rfl⟩
  have T:NA hp ((hp.push emptyDict).push (instObj C hp.objs.size)) U (U++[hp.objs.size]++[(hp.push emptyDict).objs.size]) []:=(NA.pushT ..).trans (.pushT ..)
  have hsz:(hp.push emptyDict).objs.size=hp.objs.size+1:=Heap.size_push ..
  rw[List.append_assoc,List.append_assoc]at eA
  simp only[List.cons_append,List.nil_append]at eA
  have hl:(U++[hp.objs.size,(hp.push emptyDict).objs.size])[J.length+1]?=some (hp.objs.size+1):=by
   rw[List.getElem?_append_right (by rw[S.len];exact Nat.le_add_right _ _),S.len,hsz]
   simp
  have T':NA hp ((hp.push emptyDict).push (instObj C hp.objs.size)) U (U++[hp.objs.size,(hp.push emptyDict).objs.size]) []:=by
   have:=T;rw[List.append_assoc]at this;exact this
  have oE:=(Cc.undr C xs).step (s':=⟨(hp.push emptyDict).push (instObj C hp.objs.size),gg,dr,tk,oo⟩) S T'
  refine codeAny_mono (h _ ⟨(hp.push emptyDict).push (instObj C hp.objs.size),gg,dr,tk,oo⟩ _ (.ref (hp.objs.size+1)::xs) oE eA ⟨⟨_,hl,rfl⟩,rr.step0 S T'⟩) fun r s' p=>?_
  rcases r with e | (_ | _ | _ | v)
  ·exact⟨p.1.from T',p.2⟩
  ·exact p.elim
  ·exact p.elim
  ·exact p.elim
  ·obtain⟨mv,LA,rA,⟨rfl,q⟩,rv,S',T''⟩:=p
   exact⟨rv,_,LA,rA,q,⟨_,T''.loc _ _ hl,rfl⟩,S',T'.trans T''⟩
end
section
variable{prog:Program}{w:World}{A:Around}{E:Value->Shared->Prop}{h:Heap}{g:Array GenState}{d:Drawn}{t:Nat}{os:OsState}
variable{nm q:Str}{C N:Addr}{bs bm:List Value}{hdct:Bool}{sn:List Str}{sub:List Value}{ab:Bool}{col:Option Bool}{dd:Option Addr}{k0 k1 k2 k3 k5:Option Value}{B newId initId:String}
theorem yM(F:ExcBaseFacts B newId initId bm){K:Frag}(X:K.In h){f:Addr}{rest:List Value}{Q:Fin->Shared->Prop}
 (hC:h.get? C=some (excClassObj nm q C N bs bm hdct sn sub ab col dd k0 k1 k2 k3 k5 newId)) (hi:findIn K (.ref C) "__init__"=some (some (.ref f))) (hf:typeIn K (.ref f)=some (.type "function"))
 (hq:wpAny (model prog w) A (call (.ref f) (.ref (h.objs.size+1)::rest)) (fun v s'=>v= .none/\Q (.done (.ret (.ref (h.objs.size+1)))) s') E
  ⟨(h.push {cls:= .type "tuple",data:= .seq rest.toArray}).push {cls:= .ref C,data:= .fields #[.ref h.objs.size, .none, .none, .none, .bool false, .none]},g,d,t,os⟩) (hrest:rest.length<=sizeLine):
 wpAny (model prog w) A (Builtin.«type.__call__» ⟨.ref C::rest,[]⟩) Q E ⟨h,g,d,t,os⟩:=by
 repeat (first | with_reducible refine wpAny_loadPart_at hC ?_ | with_reducible refine wpAny_madeBy_exc hC ?_ | wp_step)
 refine codeAny_call_builtin_code (Code.quiet_builtin _ F.quiet) (wpAny_check_new_sub F hC ?_)
 refine codeAny_exc_new_sub F hC ?_ hrest
 show wpAny _ _ _ _ _ _
 have Vd:=Heap.get?_push_of_some {cls:= .ref C,data:= .fields #[.ref h.objs.size, .none, .none, .none, .bool false, .none]}
  (Heap.get?_push_of_some {cls:= .type "tuple",data:= .seq rest.toArray} hC)
 have hget:((h.push {cls:= .type "tuple",data:= .seq rest.toArray}).push
  {cls:= .ref C,data:= .fields #[.ref h.objs.size, .none, .none, .none, .bool false, .none]}).get? (h.objs.size+1)=some
  {cls:= .ref C,data:= .fields #[.ref h.objs.size, .none, .none, .none, .bool false, .none]}:=by heap_get
 have hcC:(Value.ref C::bm).contains (.ref C)=true:=by simp
 repeat (first | with_reducible refine wpAny_loadPart_at hget ?_ | (with_reducible refine wpAny_isSubtype_exc Vd ?_;rw[hcC]) | wp_step)
 show wpAny _ _ (typeLookup (.ref C) _) _ _ _
 have gc:K.In ((h.push {cls:= .type "tuple",data:= .seq rest.toArray}).push {cls:= .ref C,data:= .fields #[.ref h.objs.size, .none, .none, .none, .bool false, .none]}):=X.keeps fun b o e=>Heap.get?_push_of_some _ (Heap.get?_push_of_some _ e)
 refine(looks_findIn gc hi).at ?_
 refine wpAny_holding (wpAny_bind ((bind_fn (M:=model prog w) gc (.ref (h.objs.size+1)) hf).at ?_))
 refine wpAny_bind (wpAny_mono hq (fun v s' p=>?_) fun u0 u0 e=>e)
 obtain⟨rfl,p⟩:=p
 refine wpAny_pure ?_
 dsimp only
 rw[if_neg (by decide)]
 exact wpAny_pure p
theorem xM(F:ExcBaseFacts B newId initId bm){K:Frag}(X:K.In h){f:Addr}{rest:List Value}{R:Result->Shared->Prop}
 (hC:h.get? C=some (excClassObj nm q C N bs bm hdct sn sub ab col dd k0 k1 k2 k3 k5 newId)) (hi:findIn K (.ref C) "__init__"=some (some (.ref f))) (hf:typeIn K (.ref f)=some (.type "function"))
 (hq:wpAny (model prog w) (A.under (.builtin "type.__call__" ⟨.ref C::rest,[]⟩)) (call (.ref f) (.ref (h.objs.size+1)::rest)) (fun v s'=>v= .none/\R (.ok (.ret (.ref (h.objs.size+1)))) s') (fun e s'=>R (.error e) s')
  ⟨(h.push {cls:= .type "tuple",data:= .seq rest.toArray}).push {cls:= .ref C,data:= .fields #[.ref h.objs.size, .none, .none, .none, .bool false, .none]},g,d,t,os⟩) (hrest:rest.length<=sizeLine):
 codeAny (model prog w) A (.call (.ref C) ⟨rest,[]⟩) R ⟨h,g,d,t,os⟩:=by
 have f1:=tc_lookup
 have f2:=tc_bind (.ref C)
 have hT:(⟨h,g,d,t,os⟩:Shared).TypeIs (.ref C) "type":=⟨_,hC,rfl⟩
 refine codeAny_of_tree ?_
 show wpAny _ _ (callAny (.ref C) _) _ _ _
 repeat (any_goals (first | assumption | with_reducible refine wpAny_loadPart_at hC ?_ | wp_step))
 refine⟨rfl,?_⟩
 refine codeAny_call_builtin_at (Code.quiet_builtin _ (by decide+kernel)) entry_typeCall (wpAny_check_type_call_sub hC (yM F X hC hi hf ?_ hrest))
 exact hq
end
section
variable{g:G}{s:Shared}{U:List Addr}{J:List O}{A:Around}{d:Nat}{hd:Option Nat}
theorem NV(Y:xC g){C f N:Addr}{nm q:Str}{bs bm:List Value}{hdct:Bool}{sn:List Str}{sub:List Value}{ab:Bool}{col:Option Bool}{dd:Option Addr}{k0 k1 k2 k3 k5:Option Value}{B newId initId:String}(F:ExcBaseFacts B newId initId bm)
 (hx:aU C=true) (hC:g.K.lookup C=some (excClassObj nm q C N bs bm hdct sn sub ab col dd k0 k1 k2 k3 k5 newId)) (hi:findIn g.K (.ref C) "__init__"=some (some (.ref f))) (hf:typeIn g.K (.ref f)=some (.type "function")) {vs:List V} {R:bF->List O->Prop} (hvs:vs.length<=1000)
 (h:CallOk g d hd (.ref f) (.loc J.length::vs) (J++[.exc0 C]) (fun r LA=>match r with | .ok v=>v= .none/\R (.ok (.loc J.length)) LA | .exn l=>R (.exn l) LA)):
 CallOk g (d+1) hd (.ref C) vs J R:=by
 intro A s U xs Cc S rr
 have K:g.K.In s.heap:=Y.K.keeps S.base
 have hlen:=rr.len
 obtain⟨hp,gg,dr,tk,oo⟩:=s
 have DA:=S.pushU {cls:= .type "tuple",data:= .seq xs.toArray}
 have hsz:(hp.push {cls:= .type "tuple",data:= .seq xs.toArray}).objs.size=hp.objs.size+1:=Heap.size_push ..
 have eA:=DA.pushT {cls:= .ref C,data:= .fields #[.ref hp.objs.size, .none, .none, .none, .bool false, .none]} (.exc0 C) rfl ⟨hx,_,Heap.get?_push_size _ rfl,by simp,by simp⟩
 have T:NA hp ((hp.push {cls:= .type "tuple",data:= .seq xs.toArray}).push {cls:= .ref C,data:= .fields #[.ref hp.objs.size, .none, .none, .none, .bool false, .none]}) U (U++[(hp.push {cls:= .type "tuple",data:= .seq xs.toArray}).objs.size]) []:=(NA.pushU ..).trans (.pushT ..)
 have hl:(U++[(hp.push {cls:= .type "tuple",data:= .seq xs.toArray}).objs.size])[J.length]?=some (hp.objs.size+1):=by
  rw[<-S.len,hsz];exact HC ..
 have oE:=(Cc.undr C xs).step (s':=⟨(hp.push {cls:= .type "tuple",data:= .seq xs.toArray}).push {cls:= .ref C,data:= .fields #[.ref hp.objs.size, .none, .none, .none, .bool false, .none]},gg,dr,tk,oo⟩) S T
 have hcall:=h _ ⟨(hp.push {cls:= .type "tuple",data:= .seq xs.toArray}).push {cls:= .ref C,data:= .fields #[.ref hp.objs.size, .none, .none, .none, .bool false, .none]},gg,dr,tk,oo⟩ _ (.ref (hp.objs.size+1)::xs) oE eA ⟨⟨_,hl,rfl⟩,rr.step0 S T⟩
 refine xM F K (K _ _ hC) hi hf (wpAny_call (codeAny_mono hcall fun r s' p=>?_)) (by rw[hlen,OA];exact TD hvs)
 rcases r with e | (_ | _ | _ | v)
 ·exact⟨p.1.from T,p.2⟩
 ·exact p.elim
 ·exact p.elim
 ·exact p.elim
 ·obtain⟨mv,LA,rA,⟨rfl,q⟩,rv,S',T''⟩:=p
  exact⟨rv,_,LA,rA,q,⟨_,T''.loc _ _ hl,rfl⟩,S',T.trans T''⟩
end
noncomputable def OH:pA:={np:=6,nm:=[[115,101,108,102],[99,111,100,101],[118,97,108,117,101],[101,114,114,111,114,99,111,100,101],[108,101,118,101,108],[114,101,116]],dflt:=[.tup [.str [78,79,78,69]], .int 0, .int 0],body:=
 (.cons (.expr (.meth (.glob (.type "Exception")) [95,95,105,110,105,116,95,95] (.cons (.var 0) (.cons (.var 2) .nil))))
 (.cons (.setAttr (.var 0) [99,111,100,101] (.var 1))
 (.cons (.setAttr (.var 0) [118,97,108,117,101] (.var 2))
 (.cons (.setAttr (.var 0) [101,114,114,111,114,99,111,100,101] (.var 3))
 (.cons (.setAttr (.var 0) [108,101,118,101,108] (.var 4))
 (.cons (.setAttr (.var 0) [114,101,116] (.var 5))
 (.cons (.setAttr (.var 0) [105,110,102,111] (.str []))
 (.cons (.setAttr (.var 0) [105,115,95,110,111,116,101,100] (.bool false))
 (.cons (.setAttr (.var 0) [108,105,110,101] (.int 0))
 (.cons (.setAttr (.var 0) [101,120,116,114,97] (.lst .nil))
 .nil))))))))))}
noncomputable def oP:pA:={np:=2,nm:=[[116,101,120,116],[101,114,114,111,114,99,111,100,101]],dflt:=[.tup [.str [78,79,78,69]]],body:=
 (.cons (.ret (.call (.glob (.ref 84)) (.cons (.int 1) (.cons (.var 0) (.cons (.var 1) .nil)))))
 .nil)}
noncomputable def fV:pA:={np:=2,nm:=[[116,101,120,116],[109,111,115,116]],dflt:=[],body:=
 (.cons (.ite (.e (.cmp .Gt (.call (.glob (.builtin "len")) (.cons (.var 0) .nil)) (.var 1)))
  (.cons (.ret (.bin .Add (.slc (.var 0) .none (.var 1)) (.str [46,46,46])))
  .nil)
  .nil)
 (.cons (.ret (.var 0))
 .nil))}
noncomputable def QS:pA:={np:=2,nm:=[[114,97,105,115,101,100],[115,111,117,114,99,101]],dflt:=[],body:=
 (.cons (.ite (.e (.cmp .NotEq (.attr (.var 0) [99,111,100,101]) (.int 1)))
  (.cons .ret0
  .nil)
  .nil)
 (.cons (.ite (.e (.cmp .Eq (.attr (.var 0) [105,110,102,111]) (.str [])))
  (.cons (.setAttr (.var 0) [105,110,102,111] (.bin .Add (.bin .Add (.bin .Add (.attr (.var 0) [118,97,108,117,101]) (.str [10,32,32,32,32,119,104,105,108,101,32,101,120,101,99,117,116,105,110,103,10,34])) (.call (.glob (.ref 146)) (.cons (.var 1) (.cons (.int 150) .nil)))) (.str [34])))
  .nil)
  (.cons (.ite (.e (.attr (.var 0) [105,115,95,110,111,116,101,100]))
   (.cons (.setAttr (.var 0) [105,110,102,111] (.bin .Add (.bin .Add (.bin .Add (.attr (.var 0) [105,110,102,111]) (.str [10,32,32,32,32,105,110,118,111,107,101,100,32,102,114,111,109,32,119,105,116,104,105,110,10,34])) (.call (.glob (.ref 146)) (.cons (.var 1) (.cons (.int 150) .nil)))) (.str [34])))
   .nil)
   .nil)
  .nil))
 (.cons (.setAttr (.var 0) [105,115,95,110,111,116,101,100] (.bool true))
 .nil)))}
noncomputable def JK:pA:={np:=1,nm:=[[99]],dflt:=[],body:=
 (.cons (.ret (.cmp .In (.var 0) (.tup (.cons (.str [32]) (.cons (.str [9]) (.cons (.str [10]) (.cons (.str [11]) (.cons (.str [12]) (.cons (.str [13]) .nil)))))))))
 .nil)}
noncomputable def nP:pA:={np:=1,nm:=[[99],[110]],dflt:=[],body:=
 (.cons (.ite (.e (.cmp .NotEq (.call (.glob (.builtin "len")) (.cons (.var 0) .nil)) (.int 1)))
  (.cons (.ret (.neg (.int 1)))
  .nil)
  .nil)
 (.cons (.assign 1 (.call (.glob (.builtin "ord")) (.cons (.var 0) .nil)))
 (.cons (.ite (.e (.cmp2 (.int 48) .LtE (.var 1) .LtE (.int 57)))
  (.cons (.ret (.bin .Sub (.var 1) (.int 48)))
  .nil)
  .nil)
 (.cons (.ite (.e (.cmp2 (.int 97) .LtE (.var 1) .LtE (.int 122)))
  (.cons (.ret (.bin .Sub (.var 1) (.int 87)))
  .nil)
  .nil)
 (.cons (.ite (.e (.cmp2 (.int 65) .LtE (.var 1) .LtE (.int 90)))
  (.cons (.ret (.bin .Sub (.var 1) (.int 55)))
  .nil)
  .nil)
 (.cons (.ret (.neg (.int 1)))
 .nil))))))}
noncomputable def IK:pA:={np:=2,nm:=[[116,101,120,116],[97,116],[109,111,115,116],[112,108,97,99,101],[118,97,108,117,101],[115,116,101,112]],dflt:=[],body:=
 (.cons (.assign 2 (.bin .Add (.var 1) (.int 3)))
 (.cons (.ite (.e (.cmp .Eq (.idx (.var 0) (.var 1)) (.str [117])))
  (.cons (.assign 2 (.bin .Add (.var 1) (.int 5)))
  .nil)
  (.cons (.ite (.e (.cmp .Eq (.idx (.var 0) (.var 1)) (.str [85])))
   (.cons (.assign 2 (.bin .Add (.var 1) (.int 9)))
   .nil)
   .nil)
  .nil))
 (.cons (.assign 3 (.bin .Add (.var 1) (.int 1)))
 (.cons (.assign 4 (.int 0))
 (.cons (.whl (.and (.cons (.e (.cmp .Lt (.var 3) (.var 2))) (.cons (.e (.cmp .Lt (.var 3) (.call (.glob (.builtin "len")) (.cons (.var 0) .nil)))) (.cons (.e (.cmp .LtE (.var 4) (.int 69631))) .nil))))
  (.cons (.assign 5 (.call (.glob (.ref 188)) (.cons (.idx (.var 0) (.var 3)) .nil)))
  (.cons (.ite (.or (.cons (.e (.cmp .Lt (.var 5) (.int 0))) (.cons (.e (.cmp .Gt (.var 5) (.int 15))) .nil)))
   (.cons .brk
   .nil)
   .nil)
  (.cons (.assign 4 (.bin .Add (.bin .Mult (.var 4) (.int 16)) (.var 5)))
  (.cons (.aug 3 .Add (.int 1))
  .nil)))))
 (.cons (.ite (.e (.cmp .Eq (.var 3) (.bin .Add (.var 1) (.int 1))))
  (.cons (.ret (.tup (.cons (.idx (.var 0) (.var 1)) (.cons (.var 3) .nil))))
  .nil)
  .nil)
 (.cons (.ret (.tup (.cons (.call (.glob (.builtin "chr")) (.cons (.var 4) .nil)) (.cons (.var 3) .nil))))
 .nil)))))))}
noncomputable def DJ:pA:={np:=2,nm:=[[116,101,120,116],[97,116],[115,105,103,110],[107,110,111,119,110],[98,101,104,105,110,100]],dflt:=[],body:=
 (.cons (.assign 2 (.slc (.var 0) (.bin .Add (.var 1) (.int 1)) (.bin .Add (.var 1) (.int 2))))
 (.cons (.ite (.e (.cmp .Eq (.var 2) (.str [])))
  (.cons (.ret (.tup (.cons (.str [92]) (.cons (.bin .Add (.var 1) (.int 1)) .nil))))
  .nil)
  .nil)
 (.cons (.assign 3 (.meth (.str [97,98,102,110,114,116,118]) [102,105,110,100] (.cons (.var 2) .nil)))
 (.cons (.ite (.e (.cmp .GtE (.var 3) (.int 0)))
  (.cons (.ret (.tup (.cons (.idx (.str [7,8,12,10,13,9,11]) (.var 3)) (.cons (.bin .Add (.var 1) (.int 2)) .nil))))
  .nil)
  .nil)
 (.cons (.ite (.e (.cmp .Eq (.var 2) (.str [10])))
  (.cons (.assign 4 (.bin .Add (.var 1) (.int 2)))
  (.cons (.whl (.e (.cmp .In (.slc (.var 0) (.var 4) (.bin .Add (.var 4) (.int 1))) (.tup (.cons (.str [32]) (.cons (.str [9]) .nil)))))
   (.cons (.aug 4 .Add (.int 1))
   .nil))
  (.cons (.ret (.tup (.cons (.str [32]) (.cons (.var 4) .nil))))
  .nil)))
  .nil)
 (.cons (.ite (.e (.cmp .In (.var 2) (.tup (.cons (.str [120]) (.cons (.str [117]) (.cons (.str [85]) .nil))))))
  (.cons (.ret (.call (.glob (.ref 195)) (.cons (.var 0) (.cons (.bin .Add (.var 1) (.int 1)) .nil))))
  .nil)
  .nil)
 (.cons (.ite (.e (.cmp .In (.var 2) (.tup (.cons (.str [48]) (.cons (.str [49]) (.cons (.str [50]) (.cons (.str [51]) (.cons (.str [52]) (.cons (.str [53]) (.cons (.str [54]) (.cons (.str [55]) .nil)))))))))))
  (.cons (.ret (.call (.glob (.ref 202)) (.cons (.var 0) (.cons (.bin .Add (.var 1) (.int 1)) .nil))))
  .nil)
  .nil)
 (.cons (.ret (.tup (.cons (.var 2) (.cons (.bin .Add (.var 1) (.int 2)) .nil))))
 .nil))))))))}
noncomputable def TN:pA:={np:=1,nm:=[[99]],dflt:=[],body:=
 (.cons (.ret (.cmp .In (.var 0) (.tup (.cons (.str [32]) (.cons (.str [9]) (.cons (.str [11]) (.cons (.str [12]) (.cons (.str [13]) .nil))))))))
 .nil)}
noncomputable def IJ:pA:={np:=2,nm:=[[116,101,120,116],[97,116]],dflt:=[],body:=
 (.cons (.whl (.e (.cmp .Lt (.var 1) (.call (.glob (.builtin "len")) (.cons (.var 0) .nil))))
  (.cons (.ite (.e (.call (.glob (.ref 216)) (.cons (.idx (.var 0) (.var 1)) .nil)))
   (.cons (.aug 1 .Add (.int 1))
   .nil)
   (.cons (.ite (.e (.cmp .Eq (.slc (.var 0) (.var 1) (.bin .Add (.var 1) (.int 2))) (.str [92,10])))
    (.cons (.aug 1 .Add (.int 2))
    .nil)
    (.cons (.ret (.var 1))
    .nil))
   .nil))
  .nil))
 (.cons (.ret (.var 1))
 .nil))}
noncomputable def TF:pA:={np:=2,nm:=[[116,101,120,116],[97,116],[115,105,122,101]],dflt:=[],body:=
 (.cons (.assign 2 (.call (.glob (.builtin "len")) (.cons (.var 0) .nil)))
 (.cons (.whl (.e (.cmp .Lt (.var 1) (.var 2)))
  (.cons (.ite (.e (.cmp .Eq (.idx (.var 0) (.var 1)) (.str [92])))
   (.cons (.aug 1 .Add (.int 2))
   .nil)
   (.cons (.ite (.e (.cmp .Eq (.idx (.var 0) (.var 1)) (.str [10])))
    (.cons (.ret (.bin .Add (.var 1) (.int 1)))
    .nil)
    (.cons (.aug 1 .Add (.int 1))
    .nil))
   .nil))
  .nil))
 (.cons (.ret (.var 2))
 .nil)))}
noncomputable def vE:pA:={np:=2,nm:=[[116,101,120,116],[97,116]],dflt:=[],body:=
 (.cons (.assign 1 (.call (.glob (.ref 223)) (.cons (.var 0) (.cons (.var 1) .nil))))
 (.cons (.whl (.e (.cmp .In (.slc (.var 0) (.var 1) (.bin .Add (.var 1) (.int 1))) (.tup (.cons (.str [10]) (.cons (.str [59]) (.cons (.str [35]) .nil))))))
  (.cons (.ite (.e (.cmp .Eq (.idx (.var 0) (.var 1)) (.str [35])))
   (.cons (.assign 1 (.call (.glob (.ref 230)) (.cons (.var 0) (.cons (.var 1) .nil))))
   .nil)
   (.cons (.aug 1 .Add (.int 1))
   .nil))
  (.cons (.assign 1 (.call (.glob (.ref 223)) (.cons (.var 0) (.cons (.var 1) .nil))))
  .nil)))
 (.cons (.ret (.var 1))
 .nil)))}
noncomputable def HJ:pA:={np:=2,nm:=[[116,101,120,116],[97,116]],dflt:=[],body:=
 (.cons (.whl (.e (.cmp .Lt (.var 1) (.call (.glob (.builtin "len")) (.cons (.var 0) .nil))))
  (.cons (.ite (.or (.cons (.e (.cmp .Eq (.idx (.var 0) (.var 1)) (.str [95]))) (.cons (.e (.cmp .GtE (.call (.glob (.ref 188)) (.cons (.idx (.var 0) (.var 1)) .nil)) (.int 0))) .nil)))
   (.cons (.aug 1 .Add (.int 1))
   .nil)
   (.cons (.ite (.e (.cmp .Eq (.slc (.var 0) (.var 1) (.bin .Add (.var 1) (.int 2))) (.str [58,58])))
    (.cons (.aug 1 .Add (.int 2))
    (.cons (.whl (.e (.cmp .Eq (.slc (.var 0) (.var 1) (.bin .Add (.var 1) (.int 1))) (.str [58])))
     (.cons (.aug 1 .Add (.int 1))
     .nil))
    .nil))
    (.cons (.ret (.var 1))
    .nil))
   .nil))
  .nil))
 (.cons (.ret (.var 1))
 .nil))}
noncomputable def OK:pA:={np:=2,nm:=[[116,101,120,116],[97,116],[98,101,103,105,110],[98,101,104,105,110,100],[99,108,111,115,101],[105,110,100,101,120]],dflt:=[],body:=
 (.cons (.assign 2 (.bin .Add (.var 1) (.int 1)))
 (.cons (.ite (.e (.cmp .Eq (.slc (.var 0) (.var 2) (.bin .Add (.var 2) (.int 1))) (.str [123])))
  (.cons (.assign 4 (.meth (.var 0) [102,105,110,100] (.cons (.str [125]) (.cons (.var 2) .nil))))
  (.cons (.ite (.e (.cmp .Lt (.var 4) (.int 0)))
   (.cons (.raise (.call (.glob (.ref 139)) (.cons (.str [109,105,115,115,105,110,103,32,99,108,111,115,101,45,98,114,97,99,101,32,102,111,114,32,118,97,114,105,97,98,108,101,32,110,97,109,101]) .nil)))
   .nil)
   .nil)
  (.cons (.ret (.tup (.cons (.tup (.cons (.str [118,97,114]) (.cons (.slc (.var 0) (.bin .Add (.var 2) (.int 1)) (.var 4)) (.cons .none .nil)))) (.cons (.bin .Add (.var 4) (.int 1)) .nil))))
  .nil)))
  .nil)
 (.cons (.assign 3 (.call (.glob (.ref 244)) (.cons (.var 0) (.cons (.var 2) .nil))))
 (.cons (.ite (.e (.cmp .Eq (.slc (.var 0) (.var 3) (.bin .Add (.var 3) (.int 1))) (.str [40])))
  (.cons (.unpk [5,4] (.call (.glob (.ref 272)) (.cons (.var 0) (.cons (.bin .Add (.var 3) (.int 1)) (.cons (.tup (.cons (.str [41]) .nil)) .nil)))))
  (.cons (.ite (.e (.cmp .GtE (.var 4) (.call (.glob (.builtin "len")) (.cons (.var 0) .nil))))
   (.cons (.raise (.call (.glob (.ref 139)) (.cons (.str [109,105,115,115,105,110,103,32,41]) .nil)))
   .nil)
   .nil)
  (.cons (.ret (.tup (.cons (.tup (.cons (.str [118,97,114]) (.cons (.slc (.var 0) (.var 2) (.var 3)) (.cons (.var 5) .nil)))) (.cons (.bin .Add (.var 4) (.int 1)) .nil))))
  .nil)))
  .nil)
 (.cons (.ite (.e (.cmp .Eq (.var 3) (.var 2)))
  (.cons (.ret (.tup (.cons (.tup (.cons (.str [116,101,120,116]) (.cons (.str [36]) .nil))) (.cons (.var 2) .nil))))
  .nil)
  .nil)
 (.cons (.ret (.tup (.cons (.tup (.cons (.str [118,97,114]) (.cons (.slc (.var 0) (.var 2) (.var 3)) (.cons .none .nil)))) (.cons (.var 3) .nil))))
 .nil))))))}
noncomputable def HK:pA:={np:=2,nm:=[[116,101,120,116],[97,116],[98,101,103,105,110],[112,108,97,99,101],[99,111,109,109,97,110,100]],dflt:=[],body:=
 (.cons (.assign 2 (.bin .Add (.var 1) (.int 1)))
 (.cons (.assign 3 (.call (.glob (.ref 237)) (.cons (.var 0) (.cons (.var 2) .nil))))
 (.cons (.whl (.and (.cons (.e (.cmp .Lt (.var 3) (.call (.glob (.builtin "len")) (.cons (.var 0) .nil)))) (.cons (.e (.cmp .NotEq (.idx (.var 0) (.var 3)) (.str [93]))) .nil)))
  (.cons (.assign 4 (.call (.glob (.ref 301)) (.cons (.var 0) (.cons (.var 3) (.cons (.bool true) .nil)))))
  (.cons (.assign 3 (.call (.glob (.ref 237)) (.cons (.var 0) (.cons (.idx (.var 4) (.int 3)) .nil))))
  .nil)))
 (.cons (.ite (.e (.cmp .GtE (.var 3) (.call (.glob (.builtin "len")) (.cons (.var 0) .nil))))
  (.cons (.raise (.call (.glob (.ref 139)) (.cons (.str [109,105,115,115,105,110,103,32,99,108,111,115,101,45,98,114,97,99,107,101,116]) .nil)))
  .nil)
  .nil)
 (.cons (.ret (.tup (.cons (.slc (.var 0) (.var 2) (.var 3)) (.cons (.bin .Add (.var 3) (.int 1)) .nil))))
 .nil)))))}
noncomputable def SN:pA:={np:=2,nm:=[[116,101,120,116],[97,116],[115,105,122,101],[98,101,103,105,110],[112,108,97,99,101],[109,97,100,101],[100,101,112,116,104],[98,108,97,110,107],[98,101,104,105,110,100]],dflt:=[],body:=
 (.cons (.assign 2 (.call (.glob (.builtin "len")) (.cons (.var 0) .nil)))
 (.cons (.assign 3 (.bin .Add (.var 1) (.int 1)))
 (.cons (.assign 4 (.var 3))
 (.cons (.assign 5 (.str []))
 (.cons (.assign 6 (.int 1))
 (.cons (.whl (.e (.cmp .Lt (.var 4) (.var 2)))
  (.cons (.ite (.e (.cmp .Eq (.idx (.var 0) (.var 4)) (.str [123])))
   (.cons (.aug 6 .Add (.int 1))
   (.cons (.aug 4 .Add (.int 1))
   .nil))
   (.cons (.ite (.e (.cmp .Eq (.idx (.var 0) (.var 4)) (.str [125])))
    (.cons (.aug 6 .Sub (.int 1))
    (.cons (.aug 4 .Add (.int 1))
    (.cons (.ite (.e (.cmp .Eq (.var 6) (.int 0)))
     (.cons (.ret (.tup (.cons (.bin .Add (.var 5) (.slc (.var 0) (.var 3) (.bin .Sub (.var 4) (.int 1)))) (.cons (.var 4) .nil))))
     .nil)
     .nil)
    .nil)))
    (.cons (.ite (.e (.cmp .Eq (.slc (.var 0) (.var 4) (.bin .Add (.var 4) (.int 2))) (.str [92,10])))
     (.cons (.unpk [7,8] (.call (.glob (.ref 209)) (.cons (.var 0) (.cons (.var 4) .nil))))
     (.cons (.aug 5 .Add (.bin .Add (.slc (.var 0) (.var 3) (.var 4)) (.var 7)))
     (.cons (.assign 4 (.var 8))
     (.cons (.assign 3 (.var 8))
     .nil))))
     (.cons (.ite (.e (.cmp .Eq (.idx (.var 0) (.var 4)) (.str [92])))
      (.cons (.aug 4 .Add (.int 2))
      .nil)
      (.cons (.whl (.and (.cons (.e (.cmp .Lt (.var 4) (.var 2))) (.cons (.e (.cmp .NotIn (.idx (.var 0) (.var 4)) (.str [123,125,92]))) .nil)))
       (.cons (.aug 4 .Add (.int 1))
       .nil))
      .nil))
     .nil))
    .nil))
   .nil))
  .nil))
 (.cons (.raise (.call (.glob (.ref 139)) (.cons (.str [109,105,115,115,105,110,103,32,99,108,111,115,101,45,98,114,97,99,101]) .nil)))
 .nil)))))))}
noncomputable def UH:pA:={np:=3,nm:=[[116,101,120,116],[97,116],[115,116,111,112,115],[112,97,114,116,115],[114,117,110],[115,105,122,101],[112,97,114,116],[115,99,114,105,112,116],[98,101,103,105,110],[112,105,101,99,101]],dflt:=[],body:=
 (.cons (.assign 3 (.lst .nil))
 (.cons (.assign 4 (.str []))
 (.cons (.assign 5 (.call (.glob (.builtin "len")) (.cons (.var 0) .nil)))
 (.cons (.whl (.and (.cons (.e (.cmp .Lt (.var 1) (.var 5))) (.cons (.e (.cmp .NotIn (.idx (.var 0) (.var 1)) (.var 2))) .nil)))
  (.cons (.ite (.e (.cmp .Eq (.idx (.var 0) (.var 1)) (.str [36])))
   (.cons (.unpk [6,1] (.call (.glob (.ref 251)) (.cons (.var 0) (.cons (.var 1) .nil))))
   .nil)
   (.cons (.ite (.e (.cmp .Eq (.idx (.var 0) (.var 1)) (.str [91])))
    (.cons (.unpk [7,1] (.call (.glob (.ref 258)) (.cons (.var 0) (.cons (.var 1) .nil))))
    (.cons (.assign 6 (.tup (.cons (.str [99,109,100]) (.cons (.var 7) .nil))))
    .nil))
    (.cons (.ite (.e (.cmp .Eq (.idx (.var 0) (.var 1)) (.str [92])))
     (.cons (.ite (.and (.cons (.e (.cmp .In (.str [32]) (.var 2))) (.cons (.e (.cmp .Eq (.slc (.var 0) (.bin .Add (.var 1) (.int 1)) (.bin .Add (.var 1) (.int 2))) (.str [10]))) .nil)))
      (.cons .brk
      .nil)
      .nil)
     (.cons (.unpk [9,1] (.call (.glob (.ref 209)) (.cons (.var 0) (.cons (.var 1) .nil))))
     (.cons (.assign 6 (.tup (.cons (.str [116,101,120,116]) (.cons (.var 9) .nil))))
     .nil)))
     (.cons (.assign 8 (.var 1))
     (.cons (.whl (.and (.cons (.e (.cmp .Lt (.var 1) (.var 5))) (.cons (.e (.cmp .NotIn (.idx (.var 0) (.var 1)) (.str [36,91,92]))) (.cons (.e (.cmp .NotIn (.idx (.var 0) (.var 1)) (.var 2))) .nil))))
      (.cons (.aug 1 .Add (.int 1))
      .nil))
     (.cons (.assign 6 (.tup (.cons (.str [116,101,120,116]) (.cons (.slc (.var 0) (.var 8) (.var 1)) .nil))))
     .nil))))
    .nil))
   .nil))
  (.cons (.ite (.e (.cmp .Eq (.idx (.var 6) (.int 0)) (.str [116,101,120,116])))
   (.cons (.aug 4 .Add (.idx (.var 6) (.int 1)))
   .nil)
   (.cons (.ite (.e (.cmp .NotEq (.var 4) (.str [])))
    (.cons (.expr (.meth (.var 3) [97,112,112,101,110,100] (.cons (.tup (.cons (.str [116,101,120,116]) (.cons (.var 4) .nil))) .nil)))
    (.cons (.assign 4 (.str []))
    .nil))
    .nil)
   (.cons (.expr (.meth (.var 3) [97,112,112,101,110,100] (.cons (.var 6) .nil)))
   .nil)))
  .nil)))
 (.cons (.ite (.e (.cmp .NotEq (.var 4) (.str [])))
  (.cons (.expr (.meth (.var 3) [97,112,112,101,110,100] (.cons (.tup (.cons (.str [116,101,120,116]) (.cons (.var 4) .nil))) .nil)))
  .nil)
  .nil)
 (.cons (.ret (.tup (.cons (.call (.glob (.type "tuple")) (.cons (.var 3) .nil)) (.cons (.var 1) .nil))))
 .nil))))))}
noncomputable def AI:pA:={np:=1,nm:=[[105,115,95,110,101,115,116,101,100]],dflt:=[],body:=
 (.cons (.ite (.e (.var 0))
  (.cons (.ret (.tup (.cons (.str [32]) (.cons (.str [9]) (.cons (.str [11]) (.cons (.str [12]) (.cons (.str [13]) (.cons (.str [10]) (.cons (.str [59]) (.cons (.str [93]) .nil))))))))))
  .nil)
  .nil)
 (.cons (.ret (.tup (.cons (.str [32]) (.cons (.str [9]) (.cons (.str [11]) (.cons (.str [12]) (.cons (.str [13]) (.cons (.str [10]) (.cons (.str [59]) .nil)))))))))
 .nil))}
noncomputable def PH:pA:={np:=2,nm:=[[116,101,120,116],[97,116],[98,101,104,105,110,100]],dflt:=[],body:=
 (.cons (.ite (.e (.cmp .NotEq (.slc (.var 0) (.var 1) (.bin .Add (.var 1) (.int 3))) (.str [123,42,125])))
  (.cons (.ret (.bool false))
  .nil)
  .nil)
 (.cons (.assign 2 (.bin .Add (.var 1) (.int 3)))
 (.cons (.ite (.e (.cmp .In (.slc (.var 0) (.var 2) (.bin .Add (.var 2) (.int 1))) (.tup (.cons (.str []) (.cons (.str [10]) (.cons (.str [59]) .nil))))))
  (.cons (.ret (.bool false))
  .nil)
  .nil)
 (.cons (.ret (.cmp .Eq (.call (.glob (.ref 223)) (.cons (.var 0) (.cons (.var 2) .nil))) (.var 2)))
 .nil))))}
noncomputable def yK:pA:={np:=3,nm:=[[116,101,120,116],[97,116],[105,115,95,110,101,115,116,101,100],[105,115,95,101,120,112,97,110,100],[115,105,103,110],[112,97,114,116,115],[98,101,104,105,110,100],[105,110,110,101,114],[99,108,111,115,101]],dflt:=[],body:=
 (.cons (.assign 3 (.call (.glob (.ref 286)) (.cons (.var 0) (.cons (.var 1) .nil))))
 (.cons (.ite (.e (.var 3))
  (.cons (.aug 1 .Add (.int 3))
  .nil)
  .nil)
 (.cons (.assign 4 (.slc (.var 0) (.var 1) (.bin .Add (.var 1) (.int 1))))
 (.cons (.ite (.e (.cmp .Eq (.var 4) (.str [123])))
  (.cons (.unpk [7,6] (.call (.glob (.ref 265)) (.cons (.var 0) (.cons (.var 1) .nil))))
  (.cons (.ite (.e (.cmp .Eq (.var 7) (.str [])))
   (.cons (.ret (.tup (.cons (.tup (.cons (.var 3) (.cons (.tup .nil) .nil))) (.cons (.var 6) .nil))))
   .nil)
   .nil)
  (.cons (.ret (.tup (.cons (.tup (.cons (.var 3) (.cons (.tup (.cons (.tup (.cons (.str [116,101,120,116]) (.cons (.var 7) .nil))) .nil)) .nil))) (.cons (.var 6) .nil))))
  .nil)))
  .nil)
 (.cons (.ite (.e (.cmp .Eq (.var 4) (.str [34])))
  (.cons (.unpk [5,8] (.call (.glob (.ref 272)) (.cons (.var 0) (.cons (.bin .Add (.var 1) (.int 1)) (.cons (.tup (.cons (.str [34]) .nil)) .nil)))))
  (.cons (.ite (.e (.cmp .GtE (.var 8) (.call (.glob (.builtin "len")) (.cons (.var 0) .nil))))
   (.cons (.raise (.call (.glob (.ref 139)) (.cons (.str [109,105,115,115,105,110,103,32,34]) .nil)))
   .nil)
   .nil)
  (.cons (.ret (.tup (.cons (.tup (.cons (.var 3) (.cons (.var 5) .nil))) (.cons (.bin .Add (.var 8) (.int 1)) .nil))))
  .nil)))
  .nil)
 (.cons (.unpk [5,6] (.call (.glob (.ref 272)) (.cons (.var 0) (.cons (.var 1) (.cons (.call (.glob (.ref 279)) (.cons (.var 2) .nil)) .nil)))))
 (.cons (.ret (.tup (.cons (.tup (.cons (.var 3) (.cons (.var 5) .nil))) (.cons (.var 6) .nil))))
 .nil)))))))}
noncomputable def GD:pA:={np:=3,nm:=[[116,101,120,116],[97,116],[105,115,95,110,101,115,116,101,100],[98,101,103,105,110],[115,105,122,101],[119,111,114,100,115],[112,108,97,99,101],[102,111,117,110,100],[101,110,100]],dflt:=[.bool false],body:=
 (.cons (.assign 3 (.call (.glob (.ref 237)) (.cons (.var 0) (.cons (.var 1) .nil))))
 (.cons (.assign 4 (.call (.glob (.builtin "len")) (.cons (.var 0) .nil)))
 (.cons (.ite (.or (.cons (.e (.cmp .GtE (.var 3) (.var 4))) (.cons (.and (.cons (.e (.var 2)) (.cons (.e (.cmp .Eq (.idx (.var 0) (.var 3)) (.str [93]))) .nil))) .nil)))
  (.cons (.ret .none)
  .nil)
  .nil)
 (.cons (.assign 5 (.lst .nil))
 (.cons (.assign 6 (.var 3))
 (.cons (.whl (.e (.bool true))
  (.cons (.unpk [7,8] (.call (.glob (.ref 293)) (.cons (.var 0) (.cons (.var 6) (.cons (.var 2) .nil)))))
  (.cons (.expr (.meth (.var 5) [97,112,112,101,110,100] (.cons (.var 7) .nil)))
  (.cons (.assign 6 (.call (.glob (.ref 223)) (.cons (.var 0) (.cons (.var 8) .nil))))
  (.cons (.ite (.e (.cmp .GtE (.var 6) (.var 4)))
   (.cons (.ret (.tup (.cons (.call (.glob (.type "tuple")) (.cons (.var 5) .nil)) (.cons (.var 3) (.cons (.var 8) (.cons (.var 4) .nil))))))
   .nil)
   .nil)
  (.cons (.ite (.e (.cmp .In (.idx (.var 0) (.var 6)) (.tup (.cons (.str [10]) (.cons (.str [59]) .nil)))))
   (.cons (.ret (.tup (.cons (.call (.glob (.type "tuple")) (.cons (.var 5) .nil)) (.cons (.var 3) (.cons (.var 8) (.cons (.bin .Add (.var 6) (.int 1)) .nil))))))
   .nil)
   .nil)
  (.cons (.ite (.and (.cons (.e (.var 2)) (.cons (.e (.cmp .Eq (.idx (.var 0) (.var 6)) (.str [93]))) .nil)))
   (.cons (.ret (.tup (.cons (.call (.glob (.type "tuple")) (.cons (.var 5) .nil)) (.cons (.var 3) (.cons (.var 8) (.cons (.var 6) .nil))))))
   .nil)
   .nil)
  (.cons (.ite (.e (.cmp .Eq (.var 6) (.var 8)))
   (.cons (.ite (.e (.cmp .Eq (.idx (.var 0) (.bin .Sub (.var 8) (.int 1))) (.str [34])))
    (.cons (.raise (.call (.glob (.ref 139)) (.cons (.str [101,120,116,114,97,32,99,104,97,114,97,99,116,101,114,115,32,97,102,116,101,114,32,99,108,111,115,101,45,113,117,111,116,101]) .nil)))
    .nil)
    .nil)
   (.cons (.raise (.call (.glob (.ref 139)) (.cons (.str [101,120,116,114,97,32,99,104,97,114,97,99,116,101,114,115,32,97,102,116,101,114,32,99,108,111,115,101,45,98,114,97,99,101]) .nil)))
   .nil))
   .nil)
  .nil))))))))
 .nil))))))}
noncomputable def GK:pA:={np:=1,nm:=[[115,101,108,102]],dflt:=[],body:=
 (.cons (.setAttr (.var 0) [107,105,110,100] (.str [110,111,110,101]))
 (.cons (.setAttr (.var 0) [118,97,108,117,101] (.str []))
 (.cons (.setAttr (.var 0) [116,114,97,99,101,115] (.lst .nil))
 (.cons (.setAttr (.var 0) [105,115,95,98,117,115,121] (.bool false))
 (.cons (.setAttr (.var 0) [105,115,95,101,108,101,109,101,110,116] (.bool false))
 (.cons (.setAttr (.var 0) [119,114,105,116,101,115] (.int 0))
 .nil))))))}
noncomputable def lL:pA:={np:=2,nm:=[[104,111,115,116],[112,97,114,116,115],[109,97,100,101],[112,97,114,116],[105,110,100,101,120]],dflt:=[],body:=
 (.cons (.assign 2 (.lst .nil))
 (.cons (.for1 3 (.var 1)
  (.cons (.ite (.e (.cmp .Eq (.idx (.var 3) (.int 0)) (.str [116,101,120,116])))
   (.cons (.expr (.meth (.var 2) [97,112,112,101,110,100] (.cons (.idx (.var 3) (.int 1)) .nil)))
   .nil)
   (.cons (.ite (.e (.cmp .Eq (.idx (.var 3) (.int 0)) (.str [99,109,100])))
    (.cons (.expr (.meth (.var 2) [97,112,112,101,110,100] (.cons (.meth (.var 0) [114,117,110] (.cons (.idx (.var 3) (.int 1)) .nil)) .nil)))
    .nil)
    (.cons (.ite (.e (.cmp .Is (.idx (.var 3) (.int 2)) .none))
     (.cons (.expr (.meth (.var 2) [97,112,112,101,110,100] (.cons (.meth (.var 0) [114,101,97,100] (.cons (.idx (.var 3) (.int 1)) .nil)) .nil)))
     .nil)
     (.cons (.assign 4 (.call (.glob (.ref 371)) (.cons (.var 0) (.cons (.idx (.var 3) (.int 2)) .nil))))
     (.cons (.expr (.meth (.var 2) [97,112,112,101,110,100] (.cons (.meth (.var 0) [114,101,97,100] (.cons (.bin .Add (.bin .Add (.bin .Add (.idx (.var 3) (.int 1)) (.str [40])) (.var 4)) (.str [41])) .nil)) .nil)))
     .nil)))
    .nil))
   .nil))
  .nil))
 (.cons (.ret (.meth (.str []) [106,111,105,110] (.cons (.var 2) .nil)))
 .nil)))}
noncomputable def PK:pA:={np:=2,nm:=[[104,111,115,116],[119,111,114,100,115],[109,97,100,101],[119,111,114,100],[116,101,120,116]],dflt:=[],body:=
 (.cons (.assign 2 (.lst .nil))
 (.cons (.for1 3 (.var 1)
  (.cons (.assign 4 (.call (.glob (.ref 371)) (.cons (.var 0) (.cons (.idx (.var 3) (.int 1)) .nil))))
  (.cons (.ite (.e (.idx (.var 3) (.int 0)))
   (.cons (.expr (.meth (.var 2) [101,120,116,101,110,100] (.cons (.call (.glob (.ref 343)) (.cons (.var 4) .nil)) .nil)))
   .nil)
   (.cons (.expr (.meth (.var 2) [97,112,112,101,110,100] (.cons (.var 4) .nil)))
   .nil))
  .nil)))
 (.cons (.ret (.var 2))
 .nil)))}
noncomputable def mP:pA:={np:=4,nm:=[[114,97,105,115,101,100],[116,101,120,116],[98,101,103,105,110],[101,110,100]],dflt:=[],body:=
 (.cons (.ite (.e (.cmp .NotEq (.attr (.var 0) [99,111,100,101]) (.int 1)))
  (.cons .ret0
  .nil)
  .nil)
 (.cons (.assign 2 (.call (.glob (.ref 237)) (.cons (.var 1) (.cons (.var 2) .nil))))
 (.cons (.ite (.e (.cmp .Eq (.attr (.var 0) [108,105,110,101]) (.int 0)))
  (.cons (.setAttr (.var 0) [108,105,110,101] (.call (.glob (.builtin "len")) (.cons (.meth (.slc (.var 1) .none (.var 2)) [115,112,108,105,116] (.cons (.str [10]) .nil)) .nil)))
  .nil)
  .nil)
 (.cons (.expr (.call (.glob (.ref 153)) (.cons (.var 0) (.cons (.slc (.var 1) (.var 2) (.var 3)) .nil))))
 .nil))))}
noncomputable def xA:pA:={np:=2,nm:=[[104,111,115,116],[116,101,120,116],[114,101,115,117,108,116],[98,101,103,105,110],[101,110,100],[114,97,105,115,101,100],[99,111,109,109,97,110,100],[119,111,114,100,115],[98,101,104,105,110,100]],dflt:=[],body:=
 (.cons (.assign 2 (.str []))
 (.cons (.assign 3 (.int 0))
 (.cons (.assign 4 (.call (.glob (.builtin "len")) (.cons (.var 1) .nil)))
 (.cons (.tryE (.cons (.assign 6 (.call (.glob (.ref 301)) (.cons (.var 1) (.cons (.int 0) .nil))))
  (.cons (.whl (.e (.cmp .IsNot (.var 6) .none))
   (.cons (.unpk [7,3,4,8] (.var 6))
   (.cons (.assign 2 (.meth (.var 0) [99,97,108,108] (.cons (.call (.glob (.ref 378)) (.cons (.var 0) (.cons (.var 7) .nil))) .nil)))
   (.cons (.assign 3 (.var 8))
   (.cons (.assign 4 (.call (.glob (.builtin "len")) (.cons (.var 1) .nil)))
   (.cons (.assign 6 (.call (.glob (.ref 301)) (.cons (.var 1) (.cons (.var 8) .nil))))
   .nil))))))
  .nil))
  84 5
  (.cons (.expr (.call (.glob (.ref 385)) (.cons (.var 5) (.cons (.var 1) (.cons (.var 3) (.cons (.var 4) .nil))))))
  (.cons (.raise (.var 5))
  .nil)))
 (.cons (.ret (.var 2))
 .nil)))))}
noncomputable def VH:pA:={np:=1,nm:=[[104,111,115,116]],dflt:=[],body:=
 (.cons (.setIdx (.attr (.var 0) [116,111,111,108,115]) (.str [114,117,110]) (.glob (.ref 392)))
 .nil)}
noncomputable def BJ:pA:={np:=3,nm:=[[115,101,108,102],[108,105,109,105,116],[102,117,101,108]],dflt:=[.int 40, .none],body:=
 (.cons (.setAttr (.var 0) [116,111,111,108,115] (.dct [] .nil))
 (.cons (.setAttr (.var 0) [105,110,108,105,110,101] (.dct [] .nil))
 (.cons (.setAttr (.var 0) [108,105,109,105,116] (.var 1))
 (.cons (.setAttr (.var 0) [102,117,101,108] (.var 2))
 (.cons (.setAttr (.var 0) [100,101,112,116,104] (.int 0))
 (.cons (.setAttr (.var 0) [115,112,101,110,116] (.int 0))
 (.cons (.setAttr (.var 0) [101,112,111,99,104] (.int 0))
 (.cons (.setAttr (.var 0) [102,114,97,109,101] .none)
 (.cons (.setAttr (.var 0) [99,111,114,111,117,116,105,110,101] .none)
 .nil)))))))))}
noncomputable def CJ:pA:={np:=2,nm:=[[115,101,108,102],[110,97,109,101]],dflt:=[],body:=
 (.cons (.ite (.e (.cmp .NotIn (.var 1) (.attr (.var 0) [116,111,111,108,115])))
  (.cons (.raise (.call (.glob (.ref 51)) (.cons (.bin .Add (.str [116,104,101,32,104,111,115,116,32,108,97,99,107,115,32,116,104,101,32,116,111,111,108,32]) (.var 1)) .nil)))
  .nil)
  .nil)
 (.cons (.ret (.idx (.attr (.var 0) [116,111,111,108,115]) (.var 1)))
 .nil))}
noncomputable def zH:pA:={np:=1,nm:=[[115,101,108,102]],dflt:=[],body:=
 (.cons (.augAttr (.var 0) [115,112,101,110,116] .Add (.int 1))
 (.cons (.ite (.and (.cons (.e (.cmp .IsNot (.attr (.var 0) [102,117,101,108]) .none)) (.cons (.e (.cmp .Gt (.attr (.var 0) [115,112,101,110,116]) (.attr (.var 0) [102,117,101,108]))) .nil)))
  (.cons (.raise (.call (.glob (.ref 63)) (.cons (.str [116,104,101,32,115,99,114,105,112,116,32,115,112,101,110,116,32,97,108,108,32,105,116,115,32,102,117,101,108]) .nil)))
  .nil)
  .nil)
 .nil))}
noncomputable def FK:pA:={np:=2,nm:=[[115,101,108,102],[115,99,114,105,112,116],[114,117,110,110,101,114]],dflt:=[],body:=
 (.cons (.ite (.e (.cmp .GtE (.attr (.var 0) [100,101,112,116,104]) (.attr (.var 0) [108,105,109,105,116])))
  (.cons (.raise (.call (.glob (.ref 139)) (.cons (.str [116,111,111,32,109,97,110,121,32,110,101,115,116,101,100,32,101,118,97,108,117,97,116,105,111,110,115,32,40,105,110,102,105,110,105,116,101,32,108,111,111,112,63,41]) (.cons (.tup (.cons (.str [84,67,76]) (.cons (.str [76,73,77,73,84]) (.cons (.str [83,84,65,67,75]) .nil)))) .nil))))
  .nil)
  .nil)
 (.cons (.assign 2 (.meth (.var 0) [116,111,111,108] (.cons (.str [114,117,110]) .nil)))
 (.cons (.augAttr (.var 0) [100,101,112,116,104] .Add (.int 1))
 (.cons (.tryF (.cons (.ret (.call (.var 2) (.cons (.var 0) (.cons (.var 1) .nil))))
  .nil)
  (.cons (.augAttr (.var 0) [100,101,112,116,104] .Sub (.int 1))
  .nil))
 .nil))))}
noncomputable def AJ:pA:={np:=2,nm:=[[115,101,108,102],[119,111,114,100,115],[103,111,116]],dflt:=[],body:=
 (.cons (.ite (.not (.e (.var 1)))
  (.cons (.ret (.str []))
  .nil)
  .nil)
 (.cons (.assign 2 (.meth (.var 0) [98,101,103,105,110] (.cons (.var 1) .nil)))
 (.cons (.ite (.e (.call (.glob (.builtin "isinstance")) (.cons (.var 2) (.cons (.glob (.ref 105)) .nil))))
  (.cons (.ret (.meth (.var 0) [102,105,110,105,115,104] (.cons (.var 2) .nil)))
  .nil)
  .nil)
 (.cons (.ite (.e (.call (.glob (.builtin "isinstance")) (.cons (.var 2) (.cons (.glob (.ref 126)) .nil))))
  (.cons (.raise (.call (.glob (.ref 139)) (.cons (.str [99,97,110,110,111,116,32,121,105,101,108,100,58,32,67,32,115,116,97,99,107,32,98,117,115,121]) (.cons (.tup (.cons (.str [84,67,76]) (.cons (.str [67,79,82,79,85,84,73,78,69]) (.cons (.str [67,65,78,84,95,89,73,69,76,68]) .nil)))) .nil))))
  .nil)
  .nil)
 (.cons (.ret (.var 2))
 .nil)))))}
noncomputable def TH:pA:={np:=2,nm:=[[118,101,114,98],[110,97,109,101],[119,104,121]],dflt:=[],body:=
 (.cons (.assign 2 (.bin .Add (.bin .Add (.bin .Add (.bin .Add (.str [99,97,110,39,116,32]) (.var 0)) (.str [32,34])) (.var 1)) (.str [34,58,32,110,111,32,115,117,99,104,32,118,97,114,105,97,98,108,101])))
 (.cons (.ret (.call (.glob (.ref 139)) (.cons (.var 2) (.cons (.tup (.cons (.str [84,67,76]) (.cons (.str [76,79,79,75,85,80]) (.cons (.str [86,65,82,78,65,77,69]) (.cons (.var 1) .nil))))) .nil))))
 .nil))}
noncomputable def UN:pA:={np:=2,nm:=[[98,111,111,107],[110,97,109,101]],dflt:=[],body:=
 (.cons (.ite (.e (.cmp .NotIn (.var 1) (.var 0)))
  (.cons (.setIdx (.var 0) (.var 1) (.call (.glob (.ref 360)) .nil))
  .nil)
  .nil)
 (.cons (.ret (.idx (.var 0) (.var 1)))
 .nil))}
noncomputable def GJ:pA:={np:=3,nm:=[[118,97,114],[107,105,110,100],[118,97,108,117,101]],dflt:=[],body:=
 (.cons (.setAttr (.var 0) [107,105,110,100] (.var 1))
 (.cons (.setAttr (.var 0) [118,97,108,117,101] (.var 2))
 (.cons (.augAttr (.var 0) [119,114,105,116,101,115] .Add (.int 1))
 (.cons (.ret (.var 2))
 .nil))))}
noncomputable def jL:pA:={np:=1,nm:=[[101,110,116,114,121]],dflt:=[],body:=
 (.cons (.ite (.e (.call (.glob (.builtin "isinstance")) (.cons (.var 0) (.cons (.glob (.type "tuple")) .nil))))
  (.cons (.ret (.var 0))
  .nil)
  .nil)
 (.cons (.ret (.tup (.cons (.var 0) (.cons .none .nil))))
 .nil))}
noncomputable def eV:pA:={np:=4,nm:=[[104,111,115,116],[119,111,114,100,115],[97,99,116,105,111,110],[100,97,116,97]],dflt:=[],body:=
 (.cons (.ite (.e (.cmp .Is (.var 3) .none))
  (.cons (.ret (.call (.var 2) (.cons (.var 0) (.cons (.var 1) .nil))))
  .nil)
  .nil)
 (.cons (.ret (.call (.var 2) (.cons (.var 0) (.cons (.var 1) (.cons (.var 3) .nil)))))
 .nil))}
noncomputable def QF:pA:={np:=3,nm:=[[115,101,108,102],[108,105,109,105,116],[102,117,101,108]],dflt:=[.int 40, .none],body:=
 (.cons (.expr (.meth (.glob (.ref 480)) [95,95,105,110,105,116,95,95] (.cons (.var 0) (.cons (.var 1) (.cons (.var 2) .nil)))))
 (.cons (.setAttr (.var 0) [118,97,114,115] (.dct [] .nil))
 (.cons (.setAttr (.var 0) [99,111,109,109,97,110,100,115] (.dct [] .nil))
 (.cons (.setAttr (.var 0) [102,105,114,115,116,115] (.dct [] .nil))
 .nil))))}
noncomputable def tE:pA:={np:=2,nm:=[[115,101,108,102],[110,97,109,101]],dflt:=[],body:=
 (.cons (.ret (.call (.glob (.ref 498)) (.cons (.attr (.var 0) [118,97,114,115]) (.cons (.var 1) .nil))))
 .nil)}
noncomputable def mD:pA:={np:=3,nm:=[[115,101,108,102],[118,97,114],[110,97,109,101]],dflt:=[],body:=
 (.cons (.ite (.e (.cmp .Eq (.attr (.var 1) [107,105,110,100]) (.str [110,111,110,101])))
  (.cons (.raise (.call (.glob (.ref 491)) (.cons (.str [114,101,97,100]) (.cons (.var 2) .nil))))
  .nil)
  .nil)
 (.cons (.ret (.attr (.var 1) [118,97,108,117,101]))
 .nil))}
noncomputable def aD:pA:={np:=4,nm:=[[115,101,108,102],[118,97,114],[110,97,109,101],[118,97,108,117,101]],dflt:=[],body:=
 (.cons (.ret (.call (.glob (.ref 505)) (.cons (.var 1) (.cons (.str [115,99,97,108,97,114]) (.cons (.var 3) .nil)))))
 .nil)}
noncomputable def RF:pA:={np:=2,nm:=[[115,101,108,102],[110,97,109,101]],dflt:=[],body:=
 (.cons (.ret (.meth (.var 0) [114,101,97,100,95,118,97,114] (.cons (.meth (.var 0) [112,108,97,99,101] (.cons (.var 1) .nil)) (.cons (.var 1) .nil))))
 .nil)}
noncomputable def uE:pA:={np:=3,nm:=[[115,101,108,102],[110,97,109,101],[118,97,108,117,101]],dflt:=[],body:=
 (.cons (.ret (.meth (.var 0) [119,114,105,116,101,95,118,97,114] (.cons (.meth (.var 0) [112,108,97,99,101] (.cons (.var 1) .nil)) (.cons (.var 1) (.cons (.var 2) .nil)))))
 .nil)}
noncomputable def sF:pA:={np:=4,nm:=[[115,101,108,102],[110,97,109,101],[97,99,116,105,111,110],[100,97,116,97]],dflt:=[.none],body:=
 (.cons (.expr (.meth (.var 0) [114,101,109,111,118,101] (.cons (.var 1) .nil)))
 (.cons (.setIdx (.attr (.var 0) [99,111,109,109,97,110,100,115]) (.var 1) (.tup (.cons (.var 2) (.cons (.var 3) .nil))))
 .nil))}
noncomputable def ZE:pA:={np:=2,nm:=[[115,101,108,102],[110,97,109,101]],dflt:=[],body:=
 (.cons (.expr (.meth (.attr (.var 0) [99,111,109,109,97,110,100,115]) [112,111,112] (.cons (.var 1) (.cons .none .nil))))
 (.cons (.expr (.meth (.attr (.var 0) [102,105,114,115,116,115]) [112,111,112] (.cons (.var 1) (.cons .none .nil))))
 (.cons (.ite (.e (.cmp .In (.var 1) (.attr (.var 0) [105,110,108,105,110,101])))
  (.cons (.augAttr (.var 0) [101,112,111,99,104] .Add (.int 1))
  .nil)
  .nil)
 .nil)))}
noncomputable def rF:pA:={np:=2,nm:=[[115,101,108,102],[103,114,111,117,112],[110,97,109,101],[97,99,116,105,111,110],[100,97,116,97]],dflt:=[],body:=
 (.cons (.for1 2 (.var 1)
  (.cons (.unpk [3,4] (.call (.glob (.ref 519)) (.cons (.idx (.var 1) (.var 2)) .nil)))
  (.cons (.expr (.meth (.var 0) [112,117,116] (.cons (.var 2) (.cons (.var 3) (.cons (.var 4) .nil)))))
  (.cons (.setIdx (.attr (.var 0) [102,105,114,115,116,115]) (.var 2) (.bool true))
  .nil))))
 .nil)}
noncomputable def sE:pA:={np:=2,nm:=[[115,101,108,102],[119,111,114,100,115],[97,99,116,105,111,110],[100,97,116,97]],dflt:=[],body:=
 (.cons (.ite (.e (.cmp .NotIn (.idx (.var 1) (.int 0)) (.attr (.var 0) [99,111,109,109,97,110,100,115])))
  (.cons (.raise (.call (.glob (.ref 139)) (.cons (.bin .Add (.bin .Add (.str [105,110,118,97,108,105,100,32,99,111,109,109,97,110,100,32,110,97,109,101,32,34]) (.idx (.var 1) (.int 0))) (.str [34])) (.cons (.tup (.cons (.str [84,67,76]) (.cons (.str [76,79,79,75,85,80]) (.cons (.str [67,79,77,77,65,78,68]) (.cons (.idx (.var 1) (.int 0)) .nil))))) .nil))))
  .nil)
  .nil)
 (.cons (.expr (.meth (.var 0) [115,112,101,110,100] .nil))
 (.cons (.unpk [2,3] (.idx (.attr (.var 0) [99,111,109,109,97,110,100,115]) (.idx (.var 1) (.int 0))))
 (.cons (.ret (.call (.glob (.ref 526)) (.cons (.var 0) (.cons (.var 1) (.cons (.var 2) (.cons (.var 3) .nil))))))
 .nil))))}
noncomputable def QH:pA:={np:=2,nm:=[[112,101,110],[109,97,110,121],[116,111,108,100],[100,114,97,119,110]],dflt:=[],body:=
 (.cons (.assign 2 (.ite (.e (.cmp .Gt (.call (.glob (.builtin "len")) (.cons (.var 0) .nil)) (.int 1))) (.meth (.var 0) [112,111,112] (.cons (.int 1) .nil)) (.int 0)))
 (.cons (.assign 3 (.bin .Mod (.bin .Add (.var 2) (.idx (.var 0) (.int 0))) (.var 1)))
 (.cons (.setIdx (.var 0) (.int 0) (.bin .FloorDiv (.idx (.var 0) (.int 0)) (.var 1)))
 (.cons (.ret (.var 3))
 .nil))))}
noncomputable def MK:pA:={np:=0,nm:=[],dflt:=[],body:=
 (.cons (.ret (.lst (.cons (.lst (.cons (.int 2) (.cons (.int 1) (.cons (.int 2) (.cons (.int 2) (.cons (.int 2) (.cons (.int 9) (.cons (.int 4) (.cons (.int 0) (.cons (.int 2) (.cons (.int 8) (.cons (.int 8) (.cons (.int 0) (.cons (.int 1) (.cons (.int 1) (.cons (.int 0) (.cons (.int 4) (.cons (.int 1) (.cons (.int 0) (.cons (.int 0) (.cons (.int 0) (.cons (.int 1) (.cons (.int 0) (.cons (.int 0) (.cons (.int 8) (.cons (.int 0) (.cons (.int 0) (.cons (.int 0) (.cons (.int 0) (.cons (.int 3) (.cons (.int 1) (.cons (.int 0) (.cons (.int 1) (.cons (.int 0) (.cons (.int 2) (.cons (.int 9) (.cons (.int 5) (.cons (.int 1) (.cons (.int 1) (.cons (.int 1) (.cons (.int 0) (.cons (.int 0) (.cons (.int 1) (.cons (.int 0) .nil)))))))))))))))))))))))))))))))))))))))))))) (.cons (.lst (.cons (.int 0) (.cons (.int 2) (.cons (.int 1) (.cons (.int 0) (.cons (.int 8) (.cons (.int 6) (.cons (.int 0) (.cons (.int 3) (.cons (.int 5) (.cons (.int 5) (.cons (.int 1) (.cons (.int 1) (.cons (.int 1) (.cons (.int 2) (.cons (.int 2) (.cons (.int 0) (.cons (.int 4) (.cons (.int 4) (.cons (.int 0) (.cons (.int 1) (.cons (.int 2) (.cons (.int 1) (.cons (.int 2) .nil)))))))))))))))))))))))) (.cons (.lst (.cons (.int 3) (.cons (.int 0) (.cons (.int 2) (.cons (.int 1) (.cons (.int 9) (.cons (.int 8) (.cons (.int 2) (.cons (.int 2) (.cons (.int 0) (.cons (.int 0) (.cons (.int 2) (.cons (.int 0) (.cons (.int 1) (.cons (.int 1) (.cons (.int 8) (.cons (.int 0) (.cons (.int 3) (.cons (.int 0) (.cons (.int 7) (.cons (.int 0) (.cons (.int 0) .nil)))))))))))))))))))))) (.cons (.lst (.cons (.int 1) (.cons (.int 1) (.cons (.int 0) (.cons (.int 3) (.cons (.int 7) (.cons (.int 3) (.cons (.int 0) (.cons (.int 8) (.cons (.int 8) (.cons (.int 1) (.cons (.int 3) (.cons (.int 0) (.cons (.int 1) .nil)))))))))))))) (.cons (.lst (.cons (.int 0) (.cons (.int 0) (.cons (.int 4) (.cons (.int 1) (.cons (.int 0) (.cons (.int 3) (.cons (.int 0) (.cons (.int 0) (.cons (.int 1) (.cons (.int 0) (.cons (.int 7) (.cons (.int 3) (.cons (.int 2) (.cons (.int 0) (.cons (.int 0) (.cons (.int 0) (.cons (.int 0) (.cons (.int 7) (.cons (.int 7) (.cons (.int 2) (.cons (.int 0) (.cons (.int 0) .nil))))))))))))))))))))))) .nil)))))))
 .nil)}
noncomputable def EJ:pA:={np:=0,nm:=[],dflt:=[],body:=
 (.cons (.ret (.tup (.cons (.str []) (.cons (.lst (.cons (.tup (.cons (.tup (.cons (.str [114]) (.cons (.lst (.cons (.tup (.cons (.str []) (.cons (.lst (.cons (.tup (.cons (.str [116,101,120,116]) (.cons (.str [98]) (.cons (.str [98]) .nil)))) .nil)) .nil))) .nil)) (.cons (.str [32]) .nil)))) (.cons (.str []) .nil))) .nil)) .nil))))
 .nil)}
noncomputable def RH:pA:={np:=2,nm:=[[112,101,110],[105,115,95,115,97,102,101],[119,104,105,99,104],[119,114,105,116,116,101,110],[118,97,108,117,101]],dflt:=[],body:=
 (.cons (.assign 2 (.call (.glob (.ref 652)) (.cons (.var 0) (.cons (.int 10) .nil))))
 (.cons (.ite (.e (.var 1))
  (.cons (.assign 2 (.idx (.lst (.cons (.int 0) (.cons (.int 3) (.cons (.int 4) (.cons (.int 8) (.cons (.int 7) .nil)))))) (.bin .Mod (.var 2) (.int 5))))
  .nil)
  .nil)
 (.cons (.ite (.e (.cmp .Eq (.var 2) (.int 8)))
  (.cons (.ret (.tup (.cons (.str []) (.cons (.lst (.cons (.tup (.cons (.str [114,117,110]) (.cons (.call (.glob (.ref 666)) .nil) .nil))) .nil)) .nil))))
  .nil)
  .nil)
 (.cons (.ite (.e (.cmp .Eq (.var 2) (.int 9)))
  (.cons (.ret (.tup (.cons (.str [34]) (.cons (.lst (.cons (.tup (.cons (.str [116,101,120,116]) (.cons (.str [112,10]) (.cons (.str [112,10]) .nil)))) (.cons (.tup (.cons (.str [114,117,110]) (.cons (.call (.glob (.ref 666)) .nil) .nil))) (.cons (.tup (.cons (.str [116,101,120,116]) (.cons (.str [36,118,32,113]) (.cons (.str [118,97,32,108,32,113]) .nil)))) .nil)))) .nil))))
  .nil)
  .nil)
 (.cons (.assign 3 (.idx (.lst (.cons (.str [97]) (.cons (.str [123,99,32,100,125]) (.cons (.str [34,101,10,102,34]) (.cons (.str [92,120,52,49]) (.cons (.str [36,118]) (.cons (.str [123,103,10,59,104,125]) (.cons (.str [35,105]) (.cons (.bin .Mult (.str [119]) (.int 60)) .nil))))))))) (.var 2)))
 (.cons (.assign 4 (.idx (.lst (.cons (.str [97]) (.cons (.str [99,32,100]) (.cons (.str [101,10,102]) (.cons (.str [65]) (.cons (.str [118,97,32,108]) (.cons (.str [103,10,59,104]) (.cons (.str [35,105]) (.cons (.bin .Mult (.str [119]) (.int 60)) .nil))))))))) (.var 2)))
 (.cons (.ret (.tup (.cons (.str []) (.cons (.lst (.cons (.tup (.cons (.str [116,101,120,116]) (.cons (.var 3) (.cons (.var 4) .nil)))) .nil)) .nil))))
 .nil)))))))}
noncomputable def iL:pA:={np:=1,nm:=[[112,101,110]],dflt:=[],body:=
 (.cons (.ret (.idx (.lst (.cons (.str [32]) (.cons (.str [9,32]) (.cons (.str [32,92,10,32]) (.cons (.str [32,32]) .nil))))) (.call (.glob (.ref 652)) (.cons (.var 0) (.cons (.int 4) .nil)))))
 .nil)}
noncomputable def gL:pA:={np:=1,nm:=[[112,101,110]],dflt:=[],body:=
 (.cons (.ret (.idx (.lst (.cons (.str [59]) (.cons (.str [10]) (.cons (.str [32,59,10]) (.cons (.str [10,10]) (.cons (.str [10,35,32,99,59,32,91,114,32,122,93,10]) (.cons (.str [59,9,59,10]) (.cons (.str [32,59,35,32,122,122,10]) (.cons (.str [32,59,32]) .nil))))))))) (.call (.glob (.ref 652)) (.cons (.var 0) (.cons (.int 8) .nil)))))
 .nil)}
noncomputable def sG:pA:={np:=3,nm:=[[112,101,110],[105,115,95,115,97,102,101],[109,111,115,116],[109,97,110,121],[103,97,112],[116,117,114,110]],dflt:=[],body:=
 (.cons (.swap [3,4] (.cons (.call (.glob (.ref 652)) (.cons (.var 0) (.cons (.var 2) .nil))) (.cons (.call (.glob (.ref 680)) (.cons (.var 0) .nil)) .nil)))
 (.cons (.ret (.tup (.cons (.str [114]) (.cons (.compR (.call (.glob (.ref 673)) (.cons (.var 0) (.cons (.var 1) .nil))) [0,1] 5 (.var 3)) (.cons (.var 4) .nil)))))
 .nil))}
noncomputable def tF:pA:={np:=2,nm:=[[112,101,110],[105,115,95,115,97,102,101],[114,111,119,115],[116,117,114,110],[99,111,109,109,97,110,100]],dflt:=[],body:=
 (.cons (.assign 2 (.lst .nil))
 (.cons (.forR0 3 (.call (.glob (.ref 652)) (.cons (.var 0) (.cons (.int 3) .nil)))
  (.cons (.assign 4 (.call (.glob (.ref 692)) (.cons (.var 0) (.cons (.var 1) (.cons (.int 3) .nil)))))
  (.cons (.expr (.meth (.var 2) [97,112,112,101,110,100] (.cons (.tup (.cons (.var 4) (.cons (.call (.glob (.ref 687)) (.cons (.var 0) .nil)) .nil))) .nil)))
  .nil)))
 (.cons (.ret (.var 2))
 .nil)))}
noncomputable def eF:pA:={np:=3,nm:=[[112,101,110],[107,105,110,100],[100,101,101,112],[99,111,109,109,97,110,100],[116,117,114,110],[119,111,114,100,115],[103,97,112],[104,101,97,100],[114,111,119,115],[97,114,111,117,110,100],[109,97,114,107]],dflt:=[],body:=
 (.cons (.swap [5,6] (.cons (.lst (.cons (.call (.glob (.ref 673)) (.cons (.var 0) (.cons (.bool false) .nil))) (.cons (.call (.glob (.ref 673)) (.cons (.var 0) (.cons (.bool false) .nil))) .nil))) (.cons (.call (.glob (.ref 680)) (.cons (.var 0) .nil)) .nil)))
 (.cons (.ite (.e (.cmp .Eq (.var 1) (.int 3)))
  (.cons (.expr (.meth (.var 5) [105,110,115,101,114,116] (.cons (.int 1) (.cons (.tup (.cons (.str []) (.cons (.lst (.cons (.tup (.cons (.str [117,110,115,101,116]) .nil)) .nil)) .nil))) .nil))))
  .nil)
  .nil)
 (.cons (.assign 3 (.tup (.cons (.idx (.lst (.cons (.str [122,122]) (.cons (.str [98,111,111,109]) (.cons (.str [115,116,111,112]) (.cons (.str [114]) (.cons (.str [116,111,108,100]) .nil)))))) (.var 1)) (.cons (.var 5) (.cons (.var 6) .nil)))))
 (.cons (.forR0 4 (.var 2)
  (.cons (.assign 7 (.idx (.lst (.cons (.str []) (.cons (.str [10,32]) (.cons (.str [35,32,113,10]) .nil)))) (.call (.glob (.ref 652)) (.cons (.var 0) (.cons (.int 3) .nil)))))
  (.cons (.assign 8 (.lst (.cons (.tup (.cons (.call (.glob (.ref 692)) (.cons (.var 0) (.cons (.bool false) (.cons (.int 2) .nil)))) (.cons (.call (.glob (.ref 687)) (.cons (.var 0) .nil)) .nil))) (.cons (.tup (.cons (.var 3) (.cons (.call (.glob (.ref 687)) (.cons (.var 0) .nil)) .nil))) (.cons (.tup (.cons (.call (.glob (.ref 692)) (.cons (.var 0) (.cons (.bool false) (.cons (.int 2) .nil)))) (.cons (.str []) .nil))) .nil)))))
  (.cons (.swap [10,6] (.cons (.idx (.lst (.cons (.str []) (.cons (.str [34]) .nil))) (.call (.glob (.ref 652)) (.cons (.var 0) (.cons (.int 2) .nil)))) (.cons (.call (.glob (.ref 680)) (.cons (.var 0) .nil)) .nil)))
  (.cons (.assign 9 (.tup (.cons (.var 10) (.cons (.lst (.cons (.tup (.cons (.str [116,101,120,116]) (.cons (.str [120]) (.cons (.str [120]) .nil)))) (.cons (.tup (.cons (.str [114,117,110]) (.cons (.tup (.cons (.var 7) (.cons (.var 8) .nil))) .nil))) (.cons (.tup (.cons (.str [116,101,120,116]) (.cons (.str [121]) (.cons (.str [121]) .nil)))) .nil)))) .nil))))
  (.cons (.assign 3 (.tup (.cons (.str [114]) (.cons (.lst (.cons (.call (.glob (.ref 673)) (.cons (.var 0) (.cons (.bool false) .nil))) (.cons (.var 9) (.cons (.call (.glob (.ref 673)) (.cons (.var 0) (.cons (.bool false) .nil))) .nil)))) (.cons (.var 6) .nil)))))
  .nil))))))
 (.cons (.ret (.var 3))
 .nil)))))}
noncomputable def BI:pA:={np:=2,nm:=[[112,101,110],[100,101,101,112],[116,117,114,110],[114,97,119],[119,104,121]],dflt:=[],body:=
 (.cons (.unpk [3,4] (.idx (.lst (.cons (.tup (.cons (.str [114,32,34,98,32,99]) (.cons (.str [109,105,115,115,105,110,103,32,34]) .nil))) (.cons (.tup (.cons (.str [114,32,123,98,32,99]) (.cons (.str [109,105,115,115,105,110,103,32,99,108,111,115,101,45,98,114,97,99,101]) .nil))) (.cons (.tup (.cons (.str [114,32,91,114,32,98]) (.cons (.str [109,105,115,115,105,110,103,32,99,108,111,115,101,45,98,114,97,99,107,101,116]) .nil))) (.cons (.tup (.cons (.str [114,32,123,98,125,99]) (.cons (.str [101,120,116,114,97,32,99,104,97,114,97,99,116,101,114,115,32,97,102,116,101,114,32,99,108,111,115,101,45,98,114,97,99,101]) .nil))) (.cons (.tup (.cons (.str [114,32,34,98,34,99]) (.cons (.str [101,120,116,114,97,32,99,104,97,114,97,99,116,101,114,115,32,97,102,116,101,114,32,99,108,111,115,101,45,113,117,111,116,101]) .nil))) (.cons (.tup (.cons (.str [114,32,36,109,40,98]) (.cons (.str [109,105,115,115,105,110,103,32,41]) .nil))) (.cons (.tup (.cons (.str [114,32,36,123,98]) (.cons (.str [109,105,115,115,105,110,103,32,99,108,111,115,101,45,98,114,97,99,101,32,102,111,114,32,118,97,114,105,97,98,108,101,32,110,97,109,101]) .nil))) .nil)))))))) (.call (.glob (.ref 652)) (.cons (.var 0) (.cons (.int 7) .nil)))))
 (.cons (.forR0 2 (.var 1)
  (.cons (.assign 3 (.bin .Add (.bin .Add (.str [114,32,97,32,91,114,32,98,59,32]) (.var 3)) (.str [93,32,99])))
  .nil))
 (.cons (.ret (.tup (.cons (.var 3) (.cons (.var 4) .nil))))
 .nil)))}
noncomputable def aE:pA:={np:=1,nm:=[[119,111,114,100,95,110,111,119],[111,117,116],[112,105,101,99,101]],dflt:=[],body:=
 (.cons (.assign 1 (.idx (.var 0) (.int 0)))
 (.cons (.for1 2 (.idx (.var 0) (.int 1))
  (.cons (.ite (.e (.cmp .Eq (.idx (.var 2) (.int 0)) (.str [114,117,110])))
   (.cons (.assign 1 (.bin .Add (.bin .Add (.bin .Add (.var 1) (.str [91])) (.call (.glob (.ref 730)) (.cons (.idx (.var 2) (.int 1)) .nil))) (.str [93])))
   .nil)
   (.cons (.assign 1 (.bin .Add (.var 1) (.ite (.e (.cmp .Eq (.idx (.var 2) (.int 0)) (.str [116,101,120,116]))) (.idx (.var 2) (.int 1)) (.str [36,117]))))
   .nil))
  .nil))
 (.cons (.ret (.bin .Add (.var 1) (.idx (.var 0) (.int 0))))
 .nil)))}
noncomputable def bD:pA:={np:=1,nm:=[[99,111,109,109,97,110,100],[119,111,114,100,95,110,111,119]],dflt:=[],body:=
 (.cons (.ret (.meth (.idx (.var 0) (.int 2)) [106,111,105,110] (.cons (.bin .Add (.lst (.cons (.idx (.var 0) (.int 0)) .nil)) (.comp (.call (.glob (.ref 720)) (.cons (.var 1) .nil)) [] [1] (.idx (.var 0) (.int 1)))) .nil)))
 .nil)}
noncomputable def SH:pA:={np:=1,nm:=[[115,99,114,105,112,116],[99,111,109,109,97,110,100],[101,110,100,101,114]],dflt:=[],body:=
 (.cons (.ret (.bin .Add (.idx (.var 0) (.int 0)) (.meth (.str []) [106,111,105,110] (.cons (.comp (.bin .Add (.call (.glob (.ref 725)) (.cons (.var 1) .nil)) (.var 2)) [] [1,2] (.idx (.var 0) (.int 1))) .nil))))
 .nil)}
noncomputable def LK:pA:={np:=2,nm:=[[115,99,114,105,112,116],[108,111,103],[97,104,101,97,100],[118,97,108,117,101],[99,111,109,109,97,110,100],[101,110,100,101,114],[119,114,105,116,116,101,110],[102,97,117,108,116]],dflt:=[],body:=
 (.cons (.swap [2,3] (.cons (.idx (.var 0) (.int 0)) (.cons (.str []) .nil)))
 (.cons (.forT [4,5] (.idx (.var 0) (.int 1))
  (.cons (.assign 6 (.call (.glob (.ref 725)) (.cons (.var 4) .nil)))
  (.cons (.unpk [3,7] (.call (.glob (.ref 744)) (.cons (.var 4) (.cons (.var 1) .nil))))
  (.cons (.ite (.e (.cmp .IsNot (.var 7) .none))
   (.cons (.ite (.and (.cons (.e (.cmp .Eq (.idx (.var 7) (.int 0)) (.int 1))) (.cons (.e (.cmp .Eq (.idx (.var 7) (.int 5)) (.lst .nil))) .nil)))
    (.cons (.setIdx (.var 7) (.int 3) (.bin .Add (.int 1) (.meth (.var 2) [99,111,117,110,116] (.cons (.str [10]) .nil))))
    .nil)
    .nil)
   (.cons (.expr (.meth (.idx (.var 7) (.int 5)) [97,112,112,101,110,100] (.cons (.var 6) .nil)))
   (.cons (.ret (.tup (.cons (.str []) (.cons (.var 7) .nil))))
   .nil)))
   .nil)
  (.cons (.assign 2 (.bin .Add (.bin .Add (.var 2) (.var 6)) (.var 5)))
  .nil)))))
 (.cons (.ret (.tup (.cons (.var 3) (.cons .none .nil))))
 .nil)))}
noncomputable def KK:pA:={np:=2,nm:=[[99,111,109,109,97,110,100],[108,111,103],[109,97,100,101],[109,97,114,107],[112,105,101,99,101,115],[116,101,120,116],[112,105,101,99,101],[101,114,114,111,114,99,111,100,101],[105,110,102,111],[118,97,108,117,101],[102,97,117,108,116]],dflt:=[],body:=
 (.cons (.assign 2 (.lst (.cons (.idx (.var 0) (.int 0)) .nil)))
 (.cons (.forT [3,4] (.idx (.var 0) (.int 1))
  (.cons (.assign 5 (.str []))
  (.cons (.for1 6 (.var 4)
   (.cons (.ite (.e (.cmp .Eq (.idx (.var 6) (.int 0)) (.str [117,110,115,101,116])))
    (.cons (.ret (.tup (.cons (.str []) (.cons (.lst (.cons (.int 1) (.cons (.str [99,97,110,39,116,32,114,101,97,100,32,34,117,34,58,32,110,111,32,115,117,99,104,32,118,97,114,105,97,98,108,101]) (.cons (.tup (.cons (.str [84,67,76]) (.cons (.str [76,79,79,75,85,80]) (.cons (.str [86,65,82,78,65,77,69]) (.cons (.str [117]) .nil))))) (.cons (.int 0) (.cons (.str []) (.cons (.lst .nil) .nil))))))) .nil))))
    .nil)
    .nil)
   (.cons (.ite (.e (.cmp .Eq (.idx (.var 6) (.int 0)) (.str [116,101,120,116])))
    (.cons (.assign 5 (.bin .Add (.var 5) (.idx (.var 6) (.int 2))))
    .nil)
    (.cons (.unpk [9,10] (.call (.glob (.ref 737)) (.cons (.idx (.var 6) (.int 1)) (.cons (.var 1) .nil))))
    (.cons (.ite (.e (.cmp .IsNot (.var 10) .none))
     (.cons (.ret (.tup (.cons (.str []) (.cons (.var 10) .nil))))
     .nil)
     .nil)
    (.cons (.assign 5 (.bin .Add (.var 5) (.var 9)))
    .nil))))
   .nil)))
  (.cons (.expr (.meth (.var 2) [97,112,112,101,110,100] (.cons (.var 5) .nil)))
  .nil))))
 (.cons (.ite (.e (.cmp .Eq (.idx (.var 2) (.int 0)) (.str [122,122])))
  (.cons (.ret (.tup (.cons (.str []) (.cons (.lst (.cons (.int 1) (.cons (.str [105,110,118,97,108,105,100,32,99,111,109,109,97,110,100,32,110,97,109,101,32,34,122,122,34]) (.cons (.tup (.cons (.str [84,67,76]) (.cons (.str [76,79,79,75,85,80]) (.cons (.str [67,79,77,77,65,78,68]) (.cons (.str [122,122]) .nil))))) (.cons (.int 0) (.cons (.str []) (.cons (.lst .nil) .nil))))))) .nil))))
  .nil)
  .nil)
 (.cons (.expr (.meth (.var 1) [97,112,112,101,110,100] (.cons (.call (.glob (.type "tuple")) (.cons (.var 2) .nil)) .nil)))
 (.cons (.ite (.e (.cmp .Eq (.idx (.var 2) (.int 0)) (.str [114])))
  (.cons (.ret (.tup (.cons (.bin .Add (.bin .Add (.str [60]) (.meth (.str [44]) [106,111,105,110] (.cons (.slc (.var 2) (.int 1) .none) .nil))) (.str [62])) (.cons .none .nil))))
  .nil)
  .nil)
 (.cons (.unpk [7,8] (.ite (.e (.cmp .Eq (.idx (.var 2) (.int 0)) (.str [116,111,108,100]))) (.tup (.cons (.tup (.cons (.str [65]) (.cons (.str [66,32,99]) .nil))) (.cons (.str [115,111,32,116,111,108,100]) .nil))) (.tup (.cons (.tup (.cons (.str [78,79,78,69]) .nil)) (.cons (.str []) .nil)))))
 (.cons (.ret (.tup (.cons (.str []) (.cons (.lst (.cons (.ite (.e (.cmp .Eq (.idx (.var 2) (.int 0)) (.str [115,116,111,112]))) (.int 3) (.int 1)) (.cons (.idx (.var 2) (.neg (.int 1))) (.cons (.var 7) (.cons (.int 0) (.cons (.var 8) (.cons (.lst .nil) .nil))))))) .nil))))
 .nil)))))))}
noncomputable def FJ:pA:={np:=1,nm:=[[115,111,117,114,99,101]],dflt:=[],body:=
 (.cons (.ret (.bin .Add (.bin .Add (.str [34]) (.ite (.e (.cmp .Lt (.call (.glob (.builtin "len")) (.cons (.var 0) .nil)) (.int 151))) (.var 0) (.bin .Add (.slc (.var 0) .none (.int 150)) (.str [46,46,46])))) (.str [34])))
 .nil)}
noncomputable def RI:pA:={np:=2,nm:=[[118,97,108,117,101],[102,97,117,108,116],[115,111,117,114,99,101],[99,111,100,101],[101,114,114,111,114,99,111,100,101],[108,105,110,101],[105,110,102,111],[115,111,117,114,99,101,115]],dflt:=[],body:=
 (.cons (.ite (.e (.cmp .Is (.var 1) .none))
  (.cons (.ret (.tup (.cons (.int 0) (.cons (.var 0) (.cons (.tup .nil) (.cons (.int 0) (.cons (.str []) .nil)))))))
  .nil)
  .nil)
 (.cons (.unpk [3,0,4,5,6,7] (.var 1))
 (.cons (.ite (.e (.cmp .NotEq (.var 3) (.int 1)))
  (.cons (.ret (.tup (.cons (.var 3) (.cons (.var 0) (.cons (.var 4) (.cons (.int 0) (.cons (.str []) .nil)))))))
  .nil)
  .nil)
 (.cons (.ite (.e (.cmp .Eq (.var 6) (.str [])))
  (.cons (.assign 6 (.bin .Add (.bin .Add (.var 0) (.str [10,32,32,32,32,119,104,105,108,101,32,101,120,101,99,117,116,105,110,103,10])) (.call (.glob (.ref 751)) (.cons (.idx (.var 7) (.int 0)) .nil))))
  .nil)
  .nil)
 (.cons (.for1 2 (.slc (.var 7) (.int 1) .none)
  (.cons (.assign 6 (.bin .Add (.bin .Add (.var 6) (.str [10,32,32,32,32,105,110,118,111,107,101,100,32,102,114,111,109,32,119,105,116,104,105,110,10])) (.call (.glob (.ref 751)) (.cons (.var 2) .nil))))
  .nil))
 (.cons (.ret (.tup (.cons (.var 3) (.cons (.var 0) (.cons (.var 4) (.cons (.var 5) (.cons (.var 6) .nil)))))))
 .nil))))))}
noncomputable def CI:pA:={np:=3,nm:=[[104,111,115,116],[119,111,114,100,115],[108,111,103],[102,97,117,108,116]],dflt:=[],body:=
 (.cons (.expr (.meth (.var 2) [97,112,112,101,110,100] (.cons (.call (.glob (.type "tuple")) (.cons (.var 1) .nil)) .nil)))
 (.cons (.ite (.e (.cmp .Eq (.idx (.var 1) (.int 0)) (.str [114])))
  (.cons (.ret (.bin .Add (.bin .Add (.str [60]) (.meth (.str [44]) [106,111,105,110] (.cons (.slc (.var 1) (.int 1) .none) .nil))) (.str [62])))
  .nil)
  .nil)
 (.cons (.assign 3 (.call (.glob (.ref 84)) (.cons (.ite (.e (.cmp .Eq (.idx (.var 1) (.int 0)) (.str [115,116,111,112]))) (.int 3) (.int 1)) (.cons (.idx (.var 1) (.neg (.int 1))) .nil))))
 (.cons (.ite (.e (.cmp .Eq (.idx (.var 1) (.int 0)) (.str [116,111,108,100])))
  (.cons (.setAttr2 (.var 3) [101,114,114,111,114,99,111,100,101] (.var 3) [105,110,102,111] (.tup (.cons (.tup (.cons (.str [65]) (.cons (.str [66,32,99]) .nil))) (.cons (.str [115,111,32,116,111,108,100]) .nil))))
  .nil)
  .nil)
 (.cons (.raise (.var 3))
 .nil)))))}
noncomputable def zA:pA:={np:=2,nm:=[[112,101,110],[109,111,115,116],[104,101,97,100],[104,111,115,116],[114,97,105,115,101,100],[114,111,119,115],[108,111,103],[100,117,101,95,108,111,103],[107,105,110,100],[100,101,101,112],[101,110,100,101,114],[116,101,120,116],[100,117,101],[103,111,116],[114,97,119],[119,104,121],[97,104,101,97,100],[115,111,117,114,99,101],[99,111,109,109,97,110,100],[118,97,108,117,101],[102,97,117,108,116]],dflt:=[],body:=
 (.cons (.assign 2 (.idx (.lst (.cons (.str []) (.cons (.str [10]) (.cons (.str [35,32,104,32,123,10]) (.cons (.str [32,59,9]) .nil))))) (.call (.glob (.ref 652)) (.cons (.var 0) (.cons (.int 4) .nil)))))
 (.cons (.swap [5,6,7] (.cons (.call (.glob (.ref 699)) (.cons (.var 0) (.cons (.bool false) .nil))) (.cons (.lst .nil) (.cons (.lst .nil) .nil))))
 (.cons (.swap [8,9] (.cons (.call (.glob (.ref 652)) (.cons (.var 0) (.cons (.int 8) .nil))) (.cons (.call (.glob (.ref 652)) (.cons (.var 0) (.cons (.var 1) .nil))) .nil)))
 (.cons (.ite (.e (.cmp .In (.var 8) (.lst (.cons (.int 5) (.cons (.int 6) .nil)))))
  (.cons (.unpk [14,15] (.call (.glob (.ref 713)) (.cons (.var 0) (.cons (.var 9) .nil))))
  (.cons (.assign 10 (.call (.glob (.ref 687)) (.cons (.var 0) .nil)))
  (.cons (.swap [16,17] (.cons (.call (.glob (.ref 730)) (.cons (.tup (.cons (.var 2) (.cons (.var 5) .nil))) .nil)) (.cons (.bin .Add (.bin .Add (.var 14) (.var 10)) (.call (.glob (.ref 730)) (.cons (.tup (.cons (.str []) (.cons (.call (.glob (.ref 699)) (.cons (.var 0) (.cons (.bool true) .nil))) .nil))) .nil))) .nil)))
  (.cons (.assign 11 (.bin .Add (.var 16) (.var 17)))
  (.cons (.expr (.call (.glob (.ref 737)) (.cons (.tup (.cons (.var 2) (.cons (.var 5) .nil))) (.cons (.var 7) .nil))))
  (.cons (.assign 12 (.call (.glob (.ref 758)) (.cons (.str []) (.cons (.lst (.cons (.int 1) (.cons (.var 15) (.cons (.tup (.cons (.str [78,79,78,69]) .nil)) (.cons (.bin .Add (.int 1) (.meth (.var 16) [99,111,117,110,116] (.cons (.str [10]) .nil))) (.cons (.str []) (.cons (.lst (.cons (.var 17) .nil)) .nil))))))) .nil))))
  .nil))))))
  (.cons (.ite (.e (.cmp .Lt (.var 8) (.int 5)))
   (.cons (.assign 18 (.call (.glob (.ref 706)) (.cons (.var 0) (.cons (.var 8) (.cons (.var 9) .nil)))))
   (.cons (.expr (.meth (.var 5) [97,112,112,101,110,100] (.cons (.tup (.cons (.var 18) (.cons (.call (.glob (.ref 687)) (.cons (.var 0) .nil)) .nil))) .nil)))
   .nil))
   .nil)
  (.cons (.assign 5 (.bin .Add (.var 5) (.call (.glob (.ref 699)) (.cons (.var 0) (.cons (.bool false) .nil)))))
  (.cons (.ite (.e (.cmp .NotEq (.var 5) (.lst .nil)))
   (.cons (.setIdx (.var 5) (.neg (.int 1)) (.tup (.cons (.idx (.idx (.var 5) (.neg (.int 1))) (.int 0)) (.cons (.idx (.lst (.cons (.str []) (.cons (.str [59]) (.cons (.str [10]) (.cons (.str [32]) .nil))))) (.call (.glob (.ref 652)) (.cons (.var 0) (.cons (.int 4) .nil)))) .nil))))
   .nil)
   .nil)
  (.cons (.assign 11 (.call (.glob (.ref 730)) (.cons (.tup (.cons (.var 2) (.cons (.var 5) .nil))) .nil)))
  (.cons (.unpk [19,20] (.call (.glob (.ref 737)) (.cons (.tup (.cons (.var 2) (.cons (.var 5) .nil))) (.cons (.var 7) .nil))))
  (.cons (.assign 12 (.call (.glob (.ref 758)) (.cons (.var 19) (.cons (.var 20) .nil))))
  .nil)))))))
 (.cons (.assign 3 (.call (.glob (.ref 643)) .nil))
 (.cons (.expr (.call (.glob (.ref 399)) (.cons (.var 3) .nil)))
 (.cons (.expr (.meth (.var 3) [119,114,105,116,101] (.cons (.str [118]) (.cons (.str [118,97,32,108]) .nil))))
 (.cons (.expr (.meth (.var 3) [97,100,100] (.cons (.dct [[114],[98,111,111,109],[115,116,111,112],[116,111,108,100]] (.cons (.tup (.cons (.glob (.ref 765)) (.cons (.var 6) .nil))) (.cons (.tup (.cons (.glob (.ref 765)) (.cons (.var 6) .nil))) (.cons (.tup (.cons (.glob (.ref 765)) (.cons (.var 6) .nil))) (.cons (.tup (.cons (.glob (.ref 765)) (.cons (.var 6) .nil))) .nil))))) .nil)))
 (.cons (.tryE (.cons (.assign 13 (.tup (.cons (.int 0) (.cons (.call (.glob (.ref 392)) (.cons (.var 3) (.cons (.var 11) .nil))) (.cons (.tup .nil) (.cons (.int 0) (.cons (.str []) .nil)))))))
  .nil)
  84 4
  (.cons (.assign 13 (.tup (.cons (.attr (.var 4) [99,111,100,101]) (.cons (.attr (.var 4) [118,97,108,117,101]) (.cons (.attr (.var 4) [101,114,114,111,114,99,111,100,101]) (.cons (.attr (.var 4) [108,105,110,101]) (.cons (.attr (.var 4) [105,110,102,111]) .nil)))))))
  .nil))
 (.cons (.ret (.and (.cons (.cmp .Eq (.var 13) (.var 12)) (.cons (.cmp .Eq (.var 6) (.var 7)) (.cons (.cmp .Eq (.attr (.var 3) [115,112,101,110,116]) (.call (.glob (.builtin "len")) (.cons (.var 6) .nil))) (.cons (.cmp .Eq (.attr (.var 3) [100,101,112,116,104]) (.int 0)) (.cons (.cmp .Eq (.meth (.var 3) [114,101,97,100] (.cons (.str [118]) .nil)) (.str [118,97,32,108])) .nil)))))))
 .nil))))))))))}
noncomputable def gV:pA:={np:=1,nm:=[[115,99,114,105,112,116],[116,117,114,110],[116,111,108,100]],dflt:=[],body:=
 (.cons (.forE 1 2 (.call (.glob (.ref 659)) .nil)
  (.cons (.ite (.not (.e (.call (.glob (.ref 772)) (.cons (.bin .Add (.lst (.cons (.bin .Mod (.call (.glob (.builtin "sum")) (.cons (.slc3 (.var 0) (.var 1) (.int 5)) .nil)) (.bin .Pow (.int 10) (.int 60))) .nil)) (.var 2)) (.cons (.ite (.e (.cmp .Eq (.var 1) (.int 0))) (.int 3) (.int 2)) .nil)))))
   (.cons (.ret (.bool false))
   .nil)
   .nil)
  .nil))
 (.cons (.ret (.bool true))
 .nil))}
noncomputable def Fn(g:G)(a:Addr)(F:pA):Prop:=∀(d:Nat) (hd:Option Nat) (vs:List V) (J:List O) (K:bF->List O->Prop),
 Nat.ble (F.np - F.dflt.length) vs.length=true->Nat.ble vs.length F.np=true->¬dF g d hd F vs J K->CallOk g (d+1) hd (.ref a) vs J (NK K)
structure Prog(g:G):Prop where
 c84:∀(d:Nat) (hd:Option Nat) (vs:List V) (J:List O) (R:bF->List O->Prop),Nat.ble 2 vs.length=true->Nat.ble vs.length 5=true->
  ¬dF g d hd OH (.loc J.length::vs) (J++[.exc0 84]) (fun r LA=>¬match r with | .ok v=>v= .none/\R (.ok (.loc J.length)) LA | .exn l=>R (.exn l) LA)->CallOk g (d+2) hd (.ref 84) vs J R
 c643:∀(d:Nat) (hd:Option Nat) (vs:List V) (J:List O) (R:bF->List O->Prop),CallOk g d hd (.ref 541) (.loc (J.length+1)::vs) (J++[.ad [], .inst 643 J.length]) (fun r LA=>match r with | .ok v=>v= .none/\R (.ok (.loc (J.length+1))) LA | .exn l=>R (.exn l) LA)->CallOk g (d+1) hd (.ref 643) vs J R
 c360:∀(d:Nat) (hd:Option Nat) (vs:List V) (J:List O) (R:bF->List O->Prop),CallOk g d hd (.ref 357) (.loc (J.length+1)::vs) (J++[.ad [], .inst 360 J.length]) (fun r LA=>match r with | .ok v=>v= .none/\R (.ok (.loc (J.length+1))) LA | .exn l=>R (.exn l) LA)->CallOk g (d+1) hd (.ref 360) vs J R
 f357:Fn g 357 GK
 f414:Fn g 414 BJ
 f421:Fn g 421 CJ
 f428:Fn g 428 zH
 f442:Fn g 442 FK
 f456:Fn g 456 AJ
 f541:Fn g 541 QF
 f555:Fn g 555 tE
 f562:Fn g 562 mD
 f569:Fn g 569 aD
 f576:Fn g 576 RF
 f583:Fn g 583 uE
 f612:Fn g 612 sF
 f619:Fn g 619 ZE
 f626:Fn g 626 rF
 f640:Fn g 640 sE
 f139:Fn g 139 oP
 f146:Fn g 146 fV
 f153:Fn g 153 QS
 f181:Fn g 181 JK
 f188:Fn g 188 nP
 f195:Fn g 195 IK
 f209:Fn g 209 DJ
 f216:Fn g 216 TN
 f223:Fn g 223 IJ
 f230:Fn g 230 TF
 f237:Fn g 237 vE
 f244:Fn g 244 HJ
 f251:Fn g 251 OK
 f258:Fn g 258 HK
 f265:Fn g 265 SN
 f272:Fn g 272 UH
 f279:Fn g 279 AI
 f286:Fn g 286 PH
 f293:Fn g 293 yK
 f301:Fn g 301 GD
 f371:Fn g 371 lL
 f378:Fn g 378 PK
 f385:Fn g 385 mP
 f392:Fn g 392 xA
 f399:Fn g 399 VH
 f491:Fn g 491 TH
 f498:Fn g 498 UN
 f505:Fn g 505 GJ
 f519:Fn g 519 jL
 f526:Fn g 526 eV
structure tB(T:List Nat)(n:Nat)(s:List Nat):Prop where
 le:n<=T.length
 eq:T.drop n=s
 big:T.length<=100000
section
variable{g:G}{d:Nat}{hd:Option Nat}{J:List O}{Z:List (Option V)}{QV:V->List O->Prop}{QB:Bool->List O->Prop}{QB1:Bool->Prop}{QV1:V->Prop}{E:Nat->List O->Prop}{T s:List Nat}{n c:Nat}
theorem tB.len(h:tB T n s):T.length=n+s.length:=by have:=congrArg List.length h.eq;rw[List.length_drop]at this;rw[<-this];exact(Nat.add_sub_of_le h.le).symm
theorem tB.next(h:tB T n (c::s)):tB T (n+1) s:=⟨by have:=h.len;simp only[List.length_cons]at this;exact(BB (eR this)),by rw[<-List.drop_drop,h.eq];rfl,h.big⟩
theorem tB.skip(h:tB T n s){k:Nat}(hk:k<=s.length):tB T (n+k) (s.drop k):=⟨by have:=h.len;exact(LB (eR this) hk),by rw[<-List.drop_drop,h.eq],h.big⟩
theorem tB.app{a:List Nat}(h:tB T n (a++s)):tB T (n+a.length) s:=by
 have:=h.skip (k:=a.length) (by simp)
 rwa [List.drop_left]at this
theorem tB.uniq{m:Nat}(h:tB T n s)(k:tB T m s):n=m:=Nat.add_right_cancel (h.len.symm.trans k.len)
theorem tB.start(h:T.length<=100000):tB T 0 T:=⟨Nat.zero_le _,rfl,h⟩
theorem tB.get(h:tB T n s)(i:Nat):T[n+i]?=s[i]?:=by rw[<-h.eq,List.getElem?_drop]
theorem ZX(i:Nat):jQ T (i:Int)=T[i]?:=by unfold jQ;rw[if_pos (Int.natCast_nonneg _)];rfl
theorem RL(n i:Nat):rD n (i:Int)=min i n:=by unfold rD;rw[if_neg (by lia)];simp
theorem EV(T:List Nat)(a b:Nat):PG T (min a T.length) (min b T.length)=(T.drop a).take (b - a):=by
 unfold PG
 rw[show T.take (min b T.length)=T.take b from by rw[<-List.take_take,List.take_length]]
 rw[List.drop_take]
 by_cases h:a<=T.length
 ·rw[Nat.min_eq_left h]
 ·rw[List.drop_eq_nil_of_le (show T.length<=min a T.length by lia),List.drop_eq_nil_of_le (show T.length<=a by lia)];simp
theorem AO{a b:Nat}(k:QV (.str ((T.drop a).take (b - a))) J):UE J (.str T) (.int (a:Int)) (.int (b:Int)) QV:=by
 refine⟨_,_,rfl,rfl,?_⟩
 rw[RL,RL,EV];exact k
theorem lB{j:Nat}(h:tB T n s)(k:QV (.str (s.take j)) J):UE J (.str T) (.int (n:Int)) (.int ((n+j:Nat):Int)) QV:=by
 refine AO ?_
 rw[h.eq,Nat.add_sub_cancel_left];exact k
theorem sb{i j:Nat}(h:tB T n s)(k:QV (.str ((s.drop i).take (j - i))) J):UE J (.str T) (.int ((n+i:Nat):Int)) (.int ((n+j:Nat):Int)) QV:=by
 refine AO ?_
 rw[<-List.drop_drop,h.eq,Nat.add_sub_add_left];exact k
theorem oG{a b:Nat}(h:tB T n (a::b::s))(k:QV (.str [b]) J):UE J (.str T) (.int ((n+1:Nat):Int)) (.int ((n+2:Nat):Int)) QV:=sb h k
theorem JE{a:Nat}(h:tB T n (a::s))(k:QV (.str [a]) J):UE J (.str T) (.int (n:Int)) (.int ((n+1:Nat):Int)) QV:=lB h k
theorem gI{m:Nat}{a:List Nat}(h:tB T n (a++s))(h':tB T m s)(k:QV (.str a) J):UE J (.str T) (.int (n:Int)) (.int (m:Int)) QV:=by
 refine AO ?_
 have:=h.len;have:=h'.len
 rw[h.eq,show m - n=a.length by simp only[List.length_append]at*;lia,List.take_left];exact k
theorem wQ{s:List Nat}{c:Nat}(h:∀x∈s,x≠c):OF s c 0= -1:=by
 unfold OF
 rw[List.drop_zero,List.findIdx?_eq_none_iff.mpr (fun x hx=>by simpa using h x hx)]
theorem wO{c:Nat}(h:QV (.int (OF s c 0)) J):DB J s [102,105,110,100] [.str [c]] QV:=by
 unfold DB;rw[if_pos rfl];exact h
theorem oY{c i:Nat}(hi:i<=s.length)(h:QV (.int (OF s c i)) J):DB J s [102,105,110,100] [.str [c], .int (i:Int)] QV:=by
 unfold DB;rw[if_pos rfl];exact⟨by lia,by lia,h⟩
theorem vF(s:List Nat):∀ss:List (List Nat),(iA s ss).length<=(ss.map List.length).sum+ss.length*s.length
 | []=>by simp[iA.r1,iA.r2,iA.r3]
 | [x]=>by simp[iA.r1,iA.r2,iA.r3]
 | x::y::r=>by
   have:=vF s (y::r)
   simp only[iA.r1,iA.r2,iA.r3,List.length_append,List.map_cons,List.sum_cons,List.length_cons,Nat.add_mul,Nat.one_mul]at*
   exact(BB this)
theorem DX{l:Nat}{xs:List V}{ss:List (List Nat)}(hl:J[l]?=some (.list xs))(hx:fD xs=some ss)(hn:(ss.map List.length).sum+ss.length*s.length<=10000000)(h:QV (.str (iA s ss)) J):DB J s [106,111,105,110] [.loc l] QV:=by
 unfold DB;rw[if_neg (by decide),if_pos rfl]
 have:=vF s ss
 exact⟨xs,ss,XA hl,hx,by exact TD hn,show _<=2^24 by lia,h⟩
theorem nY{c:Nat}(h:QV (.int (s.count c)) J):DB J s [99,111,117,110,116] [.str [c]] QV:=by
 unfold DB;rw[if_neg (by decide),if_neg (by decide),if_pos rfl];exact h
theorem pY{c:Nat}(hn:s.length<=1000000)(h:QV (.loc J.length) (J++[.list ((qA c s).map .str)])):DB J s [115,112,108,105,116] [.str [c]] QV:=by
 unfold DB;rw[if_neg (by decide),if_neg (by decide),if_neg (by decide),if_pos rfl];exact⟨hn,h⟩
end
structure qG(g:G):Prop extends Prog g where
 f652:Fn g 652 QH
 f659:Fn g 659 MK
 f666:Fn g 666 EJ
 f673:Fn g 673 RH
 f680:Fn g 680 iL
 f687:Fn g 687 gL
 f692:Fn g 692 sG
 f699:Fn g 699 tF
 f706:Fn g 706 eF
 f713:Fn g 713 BI
 f720:Fn g 720 aE
 f725:Fn g 725 bD
 f730:Fn g 730 SH
 f737:Fn g 737 LK
 f744:Fn g 744 KK
 f751:Fn g 751 FJ
 f758:Fn g 758 RI
 f765:Fn g 765 CI
 f772:Fn g 772 zA
 f779:Fn g 779 gV
noncomputable def TV(dt:Data):Option FuncData:=match dt with
 | .func fd=>some fd
 | _=>none
noncomputable def defOf(K:Frag)(f:Addr):Option FuncData:=(K.lookup f).bind fun o=>TV o.data
theorem nT{dt:Data}{fd:FuncData}(h:TV dt=some fd):dt= .func fd:=by
 induction dt using PySem.Data.casesOn with
 | func b=>cases h;rfl
 | _=>cases h
noncomputable def kO(fd:FuncData):List Str:=fd.params.args.map (·.arg)
noncomputable def NW(nm:List (List Nat))(names:List (Str×NameKind))(i:Nat)(x:Str):Bool:=(nm[i]?==some x.cps.toList)&&ja (names.lookup x)
noncomputable def gF(nm:List (List Nat))(names:List (Str×NameKind)):Nat->List Str->Bool
 | _,[]=>true
 | i,x::r=>NW nm names i x&&gF nm names (i+1) r
theorem gF.r1{nm:List (List Nat)}{names:List (Str×NameKind)}:gF nm names w1 []=(true):=rfl
theorem gF.r2{nm:List (List Nat)}{names:List (Str×NameKind)}:gF nm names i (x::r)=(NW nm names i x&&gF nm names (i+1) r):=rfl
theorem oN{nm:List (List Nat)}{names:List (Str×NameKind)}:∀{i:Nat} {l:List Str},gF nm names i l=true->∀j x,l[j]?=some x->Vf nm names (i+j) x
 | i,y::r,h,j,x,e=>by
   simp only[gF.r1,gF.r2,Bool.and_eq_true]at h
   induction j using Nat.casesOn with
   | zero=>
     simp at e;subst e
     have h1:=h.1
     simp only[NW,Bool.and_eq_true,beq_iff_eq]at h1
     refine⟨h1.1,?_⟩
     exact sP h1.2
   | succ j=>
     have:=oN h.2 j x (by simpa using e)
     rw[Nat.add_right_comm]at this
     exact this
 | _,[],_,j,x,e=>by simp at e
noncomputable def eY(K:Frag)(F:pA)(fd:FuncData):Option pE:=match fd.body with
 | .stmts body=>Hf 20 ⟨F.nm,fd.scope,K⟩ body
 | _=>none
noncomputable def AY(K:Frag)(F:pA)(fd:FuncData):Bool:=!fd.scope.isCoroutine&&!fd.scope.isGenerator&&(fd.scope.kind== .function)&&fd.closure.isEmpty&&(fd.globals==mainGlobals)&&(fd.builtins==builtinsNs)&&
 codeIn K fd.code fd.qualname&&decide F.nm.Nodup&&decide (fd.scope.names.map (·.1)).Nodup&&gF F.nm fd.scope.names 0 (kO fd)&&((kO fd).length==F.np)&&decide (F.np<=F.nm.length)
theorem zX{g:G}{f:Addr}{F:pA}{fd:FuncData}(hd:defOf g.K f=some fd)(h1:eY g.K F fd=some F.body)(h:AY g.K F fd=true):Nc g f F fd (kO fd):=by
 simp only[AY,Bool.and_eq_true,Bool.not_eq_true',beq_iff_eq,decide_eq_true_eq,List.isEmpty_iff]at h
 obtain⟨⟨⟨⟨⟨⟨⟨⟨⟨⟨⟨h2,h3⟩,h4⟩,h5⟩,h6⟩,h7⟩,h8⟩,h9⟩,h10⟩,h11⟩,h12⟩,h13⟩:=h
 refine⟨?_,?_,h2,h3,h4,h5,h6,h7,h8,h9,h10,?_,h12,h13⟩
 ·obtain⟨o,e,h⟩:=Option.bind_eq_some_iff.mp hd
  obtain⟨oc,od,dt,osl⟩:=o
  cases nT h
  exact⟨oc,od,osl,e⟩
 ·unfold eY at h1
  induction e:fd.body using PySem.FuncBody.casesOn with
  | stmts body=>rw[e]at h1;exact⟨body,rfl,h1⟩
  | _=>rw[e]at h1;cases h1
 ·intro j x e
  have:=oN h11 j x e
  rwa [Nat.zero_add]at this
noncomputable def Pb(v:V)(x:Value):Bool:=match v with
 | .str s=>(match x with
   | .str y _=>(y.cps.toList==s)&&decide (s.length<=1000)&&s.all fun c=>decide (c < 0x110000)
   | _=>false)
 | _=>false
noncomputable def uN:List V->List Value->Bool
 | [],q=>q.isEmpty
 | v::vs,q=>match q with
   | []=>false
   | x::xs=>Pb v x&&uN vs xs
noncomputable def Gb(K:Frag)(v:V)(x:Value):Bool:=match v with
 | .none=>(match x with
   | .none=>true
   | _=>false)
 | .int i=>(match x with
   | .int j _=>i==j
   | _=>false)
 | .bool b=>(match x with
   | .bool c=>b==c
   | _=>false)
 | .tup vs=>(match x with
   | .ref a=>(match K.lookup a with
     | some o=>(match o.data with
       | .seq items n=>(o.cls== .type "tuple")&&decide (vs.length<=1000)&&uN vs items.toList
       | _=>false)
     | none=>false)
   | _=>false)
 | _=>false
noncomputable def PQ(K:Frag):List V->List Value->Bool
 | [],q=>q.isEmpty
 | v::vs,q=>match q with
   | []=>false
   | x::xs=>Gb K v x&&PQ K vs xs
theorem ZY{g:G}{h:Heap}{U:List Addr}{v:V}{x:Value}(e:Pb v x=true):VA g h U v x:=by
 induction v using V.casesOn with
 | str s=>induction x using Value.casesOn with
   | str y t=>
     obtain⟨e1,e3⟩:=Bool.and_eq_true_iff.mp (show((y.cps.toList==s)&&decide (s.length<=1000)&&s.all fun c=>decide (c < 0x110000))=true from e)
     obtain⟨e1,e2⟩:=Bool.and_eq_true_iff.mp e1
     have e1:=eq_of_beq e1
     have e2:=of_decide_eq_true e2
     subst e1
     exact⟨t,rfl,by rw[OA];exact TD e2,fun c m=>of_decide_eq_true (List.all_eq_true.mp e3 c m)⟩
   | _=>exact Bool.noConfusion (show false=true from e)
 | _=>exact Bool.noConfusion (show false=true from e)
theorem aQ{g:G}{h:Heap}{U:List Addr}:∀{vs:List V} {xs:List Value},uN vs xs=true->PA g h U vs xs
 | [],[],_=>trivial
 | v::vs,x::xs,e=>have e:=Bool.and_eq_true_iff.mp (show(Pb v x&&uN vs xs)=true from e);⟨ZY e.1,aQ e.2⟩
 | [],_::_,e=>Bool.noConfusion (show false=true from e)
 | _::_,[],e=>Bool.noConfusion (show false=true from e)
theorem UY{g:G}{K:Frag}{h:Heap}{U:List Addr}(X:K.In h){v:V}{x:Value}(e:Gb K v x=true):VA g h U v x:=by
 induction v using V.casesOn with
 | none=>induction x using Value.casesOn with
   | none=>exact rfl
   | _=>exact Bool.noConfusion (show false=true from e)
 | int i=>induction x using Value.casesOn with
   | int j t=>exact⟨t,by rw[eq_of_beq (show(i==j)=true from e)]⟩
   | _=>exact Bool.noConfusion (show false=true from e)
 | bool b=>induction x using Value.casesOn with
   | bool c=>exact congrArg Value.bool (eq_of_beq (show(b==c)=true from e)).symm
   | _=>exact Bool.noConfusion (show false=true from e)
 | tup vs=>induction x using Value.casesOn with
   | ref a=>
     have e:(match K.lookup a with
      | some o=>(match o.data with
        | .seq items n=>(o.cls== .type "tuple")&&decide (vs.length<=1000)&&uN vs items.toList
        | _=>false)
      | none=>false)=true:=e
     induction hl:K.lookup a using Option.casesOn with
     | none=>rw[hl]at e;exact Bool.noConfusion (show false=true from e)
     | some o=>
       rw[hl]at e
       obtain⟨cls,dict,data,slots⟩:=o
       induction data using PySem.Data.casesOn with
       | seq items n=>
         obtain⟨e1,e3⟩:=Bool.and_eq_true_iff.mp (show((cls== .type "tuple")&&decide (vs.length<=1000)&&uN vs items.toList)=true from e)
         obtain⟨e1,e2⟩:=Bool.and_eq_true_iff.mp e1
         have e1:=eq_of_beq e1
         have e2:=of_decide_eq_true e2
         subst e1
         exact⟨a,items,rfl,⟨_,X _ _ hl,rfl,n,rfl⟩,by exact TD e2,aQ e3⟩
       | _=>exact Bool.noConfusion (show false=true from e)
   | _=>exact Bool.noConfusion (show false=true from e)
 | _=>exact Bool.noConfusion (show false=true from e)
theorem QQ{g:G}{K:Frag}{h:Heap}{U:List Addr}(X:K.In h):∀(vs:List V) (xs:List Value),PQ K vs xs=true->PA g h U vs xs
 | [],[],_=>trivial
 | v::vs,x::xs,e=>have e:=Bool.and_eq_true_iff.mp (show(Gb K v x&&PQ K vs xs)=true from e);⟨UY X e.1,QQ X vs xs e.2⟩
 | [],_::_,e=>Bool.noConfusion (show false=true from e)
 | _::_,[],e=>Bool.noConfusion (show false=true from e)
noncomputable def vK(K:Frag)(fd:FuncData):List Value:=match fd.defaults with
 | .ref T=>(match K.lookup T with
   | some ⟨_,_, .seq items _,_⟩=>items.toList
   | _=>[])
 | _=>[]
noncomputable def iZ:Nat->(List Value->Prop)->Prop
 | 0,P=>P []
 | n+1,P=>∀x,iZ n fun xs=>P (x::xs)
theorem jc:∀(n:Nat) (P:List Value->Prop),iZ n P->∀xs:List Value,xs.length=n->P xs
 | 0,P,h,xs,e=>by have:=List.length_eq_zero_iff.mp e;subst this;exact h
 | n+1,P,h,xs,e=>by
   induction xs using List.casesOn with
   | nil=>cases e
   | cons x xs=>exact jc n _ (h x) xs (by simpa using e)
noncomputable def cU(K:Frag)(F:pA)(fd:FuncData)(n:Nat):Prop:=iZ n fun xs=>∀S,peek K S (bindArgs fd ⟨xs,[]⟩)=some ((kO fd).zip (xs++(vK K fd).drop (F.dflt.length - (F.np - n))))
noncomputable def qK(K:Frag)(F:pA)(fd:FuncData):Nat->Prop
 | 0=>cU K F fd F.np
 | k+1=>cU K F fd (F.np - (k+1))/\qK K F fd k
theorem rR{K:Frag}{F:pA}{fd:FuncData}:∀{k:Nat},qK K F fd k->∀n,F.np - k<=n->n<=F.np->cU K F fd n
 | 0,h,n,h1,h2=>by have:n=F.np:=by lia
                   subst this;exact h
 | k+1,h,n,h1,h2=>by
   by_cases e:n=F.np - (k+1)
   ·subst e;exact h.1
   ·exact rR h.2 n (Nat.le_of_pred_lt (Nat.lt_of_le_of_ne h1 (Ne.symm e))) h2
theorem Ud{g:G}(Y:xC g){f:Addr}{F:pA}(fd:FuncData)(hd:defOf g.K f=some fd)(h0:eY g.K F fd=some F.body)(h:AY g.K F fd=true)(hr:PQ g.K F.dflt (vK g.K fd)=true)(hb:qK g.K F fd F.dflt.length)(hn:F.dflt.length<=F.np):Fn g f F:=by
 intro d hd' vs J R h1 h2 hw
 have h1:=Nat.le_of_ble_eq_true h1
 have h2:=Nat.le_of_ble_eq_true h2
 refine BY Y (zX hd h0 h) (ds:=(vK g.K fd).drop (F.dflt.length - (F.np - vs.length))) (fun hp U hk=>?_) ?_ (fun s xs hk e=>?_) hw
 ·exact(QQ (Y.K.keeps hk) _ _ hr).drop _
 ·rw[List.length_append,List.length_drop,Nat.sub_sub_self (Nat.sub_le_iff_le_add.mpr (Nat.sub_le_iff_le_add'.mp h1)),Nat.add_sub_cancel' h2]
 ·have:=jc _ _ (rR hb vs.length h1 h2) xs e
  exact kp_binds (Y.K.keeps hk) this
noncomputable def lT(K:Frag)(f:Addr):FuncData:=match defOf K f with
 | some fd=>fd
 | none=>default
noncomputable def IZ(K:Frag)(f:Addr)(F:pA):Bool:=(defOf K f).isSome&&AY K F (lT K f)&&PQ K F.dflt (vK K (lT K f))&&decide (F.dflt.length<=F.np)
structure zC(K:Frag)(f:Addr)(F:pA):Prop where
 chk:IZ K f F=true
 body:eY K F (lT K f)=some F.body
 bind:qK K F (lT K f) F.dflt.length
theorem RA{g:G}(Y:xC g){f:Addr}{F:pA}(s:zC g.K f F):Fn g f F:=by
 have h:=s.chk
 simp only[IZ,Bool.and_eq_true,decide_eq_true_eq]at h
 obtain⟨⟨⟨h1,h2⟩,h3⟩,h4⟩:=h
 refine Ud Y (lT g.K f) ?_ s.body h2 h3 s.bind h4
 unfold lT
 induction e:defOf g.K f using Option.casesOn with
 | none=>rw[e]at h1;cases h1
 | some fd=>rfl
structure Uc(K:Frag):Prop where
 t84:(EX.all fun n=>zQ K 84 n&&YK K 84 n)=true
 t643:(eP.all fun n=>ES K 643 n&&YK K 643 n)=true
 t360:(xS.all fun n=>ES K 360 n&&YK K 360 n)=true
 m643:(YS.all fun p=>MR K 643 p.1==some p.2)=true
 c480:FZ K 480 [95,95,105,110,105,116,95,95]=some 414
 kp:((TS++QZ).all fun a=>keepIn K (.ref a))=true
 nst:(isNotIn K "str" 105&&isNotIn K "str" 126)=true
 exc:((subIn K (.ref 84) (.type "BaseException")==some true)&&(subIn K (.ref 84) (.type "Exception")==some true)&&hasDictIn K 84&&(typeIn K (.ref 84)==some (.type "type"))&&(exmOne K (.ref 84) (.ref 84)==some true))=true
noncomputable def yd(prog:Program)(w:World)(K:Frag)(bA:Heap)(big:∃b o,100<=b/\bA.get? b=some o)(os:OsState)(sa:Addr)(ns:List Int):G:=
 {prog:=prog,w:=w,K:=K,bA:=bA,big:=big,os:=os,sa:=sa,ns:=ns}
theorem UK{α:Type}{n:List Nat}{a:α}:∀{l:List (List Nat×α)},l.lookup n=some a->(n,a)∈l
 | (k,b)::r,h=>by
   rw[List.lookup_cons]at h
   induction e:n==k using Bool.casesOn with
   | true=>rw[e]at h;cases h;rw[eq_of_beq e];exact List.mem_cons_self
   | false=>rw[e]at h;exact List.mem_cons_of_mem _ (UK h)
theorem wg{prog:Program}{w:World}{K:Frag}{bA:Heap}{big:∃b o,100<=b/\bA.get? b=some o}{os:OsState}{sa:Addr}{ns:List Int}(S:Uc K)(X:K.In bA)(hg:∃mg,bA.Ns mainGlobals mg)(hb:∃mb,bA.Ns builtinsNs mb/\∀x:Str,x≠"__name__"->mb x=bootBuiltins x)(hl:bA.NoLimit)
 (hs:∃vs,bA.IsList sa vs/\IntsAre vs.toList ns/\ns.length<=63):xC (yd prog w K bA big os sa ns) where
 K:=X
 glob:=hg
 blt:=hb
 nolimit:=hl
 tab C n h:=by
  have h2:PE C n=true:=h
  clear h
  simp only[PE,Bool.or_eq_true,Bool.and_eq_true,beq_iff_eq,List.contains_iff_mem]at h2
  rcases h2 with(⟨rfl,h⟩ | ⟨rfl,h⟩) | ⟨rfl,h⟩
  ·have:=List.all_eq_true.mp S.t84 n h
   simp only[Bool.and_eq_true]at this
   exact⟨by rw[if_pos (by rfl)];exact this.1,this.2⟩
  ·have:=List.all_eq_true.mp S.t643 n h
   simp only[Bool.and_eq_true]at this
   exact⟨by rw[if_neg (by show ¬((643:Nat)==84)=true;decide)];exact this.1,this.2⟩
  ·have:=List.all_eq_true.mp S.t360 n h
   simp only[Bool.and_eq_true]at this
   exact⟨by rw[if_neg (by show ¬((360:Nat)==84)=true;decide)];exact this.1,this.2⟩
 mth C n f h:=by
  have h:uL C n=some f:=h
  unfold uL at h
  split at h
  ·rename_i e;subst e
   have:=List.all_eq_true.mp S.m643 _ (UK h)
   exact eq_of_beq this
  ·cases h
 cm C n f h:=by
  have h:Fa C n=some f:=h
  unfold Fa at h
  split at h
  ·rename_i e;obtain⟨rfl,rfl⟩:=e;cases h;exact S.c480
  ·cases h
 kp a h:=List.all_eq_true.mp S.kp a (List.contains_iff_mem.mp h)
 nst C h:=by
  have h:(C==105||C==126)=true:=h
  have:=S.nst
  simp only[Bool.or_eq_true,Bool.and_eq_true,beq_iff_eq]at h this
  rcases h with rfl | rfl
  ·exact this.1
  ·exact this.2
 exc C h:=by
  have h:C=84:=eq_of_beq h
  subst h
  have:=S.exc
  simp only[Bool.and_eq_true,beq_iff_eq]at this
  obtain⟨⟨⟨⟨a,b⟩,c⟩,d⟩,e⟩:=this
  exact⟨a,⟨b,c⟩,d,e⟩
 script:=hs
noncomputable def pW(stp:SharedT->Thread->Option (SharedT×Thread))(ok:Thread->Bool)(n:Nat):SharedT->Thread->Option SharedT:=
 @Nat.rec (fun u0=>SharedT->Thread->Option SharedT) (fun u0 u0=>none) (fun u0 ih s t=>match through t with
  | true=>some s
  | false=>match ok t with
    | false=>none
    | true=>match stp s t with
      | some (s',t')=>ih s' t'
      | none=>none) n
theorem TU{tb:String->Option Builtin}{p:Program}{w:World}{FW:Nat}{ann:Option Value}:∀(n:Nat) (s s':SharedT) (t:Thread),pW (stepT (denote tb) p w) (stepOk FW ann) n s t=some s'->topRun tb p w FW ann n s.abs t=some s'.abs:=by
 intro n
 induction n with
 | zero=>intro s s' t h;cases h
 | succ n ih=>
   intro s s' t h
   have h:(match through t with
    | true=>some s
    | false=>match stepOk FW ann t with
      | false=>none
      | true=>match stepT (denote tb) p w s t with
        | some (s',t')=>pW (stepT (denote tb) p w) (stepOk FW ann) n s' t'
        | none=>none)=some s':=h
   unfold topRun
   induction ht:through t using Bool.casesOn with
   | true=>rw[ht]at h;cases h;rfl
   | false=>
     rw[ht]at h
     induction hk:stepOk FW ann t using Bool.casesOn with
     | false=>rw[hk]at h;cases h
     | true=>
       rw[hk]at h
       induction hs:stepT (denote tb) p w s t using Option.casesOn with
       | none=>rw[hs]at h;cases h
       | some r=>
         obtain⟨cA,EN⟩:=r
         rw[hs]at h
         dsimp only
         rw[stepT_spec hs]
         exact ih cA s' EN h
noncomputable def bt(l:List Obj):BT:=(l.foldl (fun p o=>(p.1.ins p.2 o,p.2+1)) (BT.nil,0)).1
noncomputable def s0(w:World)(os:OsState):SharedT:=⟨bt (boot_heap w.params).objs.toList,11,(boot_heap w.params).life, #[],boot_drawn,boot_toks,os⟩
theorem Kb(w:World)(os:OsState):(s0 w os).abs=⟨boot_heap w.params, #[],boot_drawn,boot_toks,os⟩:=by kernel_rfl
theorem Ve(w:World):((boot_heap w.params).isNs mainGlobals&&(#[]:Array GenState).size==0,(boot_heap w.params).objs.size,(boot_heap w.params).nsMap mainGlobals "__annotations__")=(true,11,some (.ref 6)):=by kernel_rfl
noncomputable def we(p:Program)(w:World):SharedT->Thread->Option (SharedT×Thread):=Fast.tw10156331382660048174 (Fast.tw11892475500146522536 Fast.tw14364793385576792824) p w
noncomputable def qe:Thread->Bool:=Fast.tw6613529449190102663 11 (some (.ref 6))
theorem gb(p:Program)(w:World):we p w=stepT (denote treeTable) p w:=by unfold we;rw[Fast.te10156331382660048174,Fast.te11892475500146522536,Fast.te14364793385576792824]
theorem Xb:qe=stepOk 11 (some (.ref 6)):=by unfold qe;rw[Fast.te6613529449190102663]
noncomputable def sV(p q:Program)(loose:List Str)(Xt:Shared->Bool)(w:World)(s:SharedT):Prop:=
 (staticsOk (importedModules p.main.body) (boot_heap w.params) s.abs.heap&&namesBound p s.abs.heap&&gensDone s.abs&&laidKept (boot_heap w.params) s.abs.heap)=true/\
 openSeen q loose (importedModules p.main.body) Xt true s.abs=openGood q loose
noncomputable def BS(as:List Addr)(s:SharedT):Frag:=as.filterMap fun a=>match Nat.blt a s.n with
 | true=>match s.tree.get a with
   | some o=>match alive o with
     | some o=>some (a,o)
     | none=>none
   | none=>none
 | false=>none
theorem RV(as:List Addr)(s:SharedT):(BS as s).In s.abs.heap:=by
 intro a o h
 have:(a,o)∈BS as s:=by
  generalize BS as s=l at h
  induction l with
  | nil=>cases h
  | cons p r ih=>
    obtain⟨b,x⟩:=p
    rw[List.lookup_cons]at h
    induction e:a==b using Bool.casesOn with
    | true=>rw[e]at h;cases h;rw[eq_of_beq e];exact List.mem_cons_self
    | false=>rw[e]at h;exact List.mem_cons_of_mem _ (ih h)
 obtain⟨b,_,hb⟩:=List.mem_filterMap.mp this
 set_option tactic.hygienic true in split at hb
 ·rename_i hn
  set_option tactic.hygienic true in split at hb
  ·rename_i x hx
   set_option tactic.hygienic true in split at hb
   ·rename_i y hy
    cases hb
    show(absHeap s.tree s.n s.life).get? a=some o
    rw[abs_get (by simpa[Nat.blt_eq]using hn) hx,hy]
   ·cases hb
  ·cases hb
 ·cases hb
theorem wT{p q:Program}{loose:List Str}{Xt:Shared->Bool}{α:Type}{Yf:Shared->α}{Ya:World->α}{N M:Nat}
 (e:opening p=plainProg p.main.scope.names) (hN:Nat.ble 600 N=true) (f:∀s,fenceModules? p s=some s) (le:Nat.ble M N=true)
 (run:∀(w:World) (os:OsState),∃s,pW (we p w) qe M (s0 w os) (topStub p)=some s/\sV p q loose Xt w s/\Yf s.abs=Ya w):LeftO p q loose Xt Yf Ya N true:=fun w=>by
 obtain⟨⟨h,gs,d,k,os⟩,e1,e2⟩:=Option.map_eq_some_iff.mp (boot_open e hN f w)
 obtain⟨rfl,rfl,rfl,rfl⟩:h=boot_heap w.params/\gs= #[]/\d=boot_drawn/\k=boot_toks:=by simpa using e2
 obtain⟨z1,z2,z3⟩:_/\_/\_:=by simpa only[Prod.mk.injEq]using Ve w
 obtain⟨s,r1,⟨l1,l2⟩,l3⟩:=run w os
 rw[gb,Xb]at r1
 have r:=TU _ _ _ _ r1
 rw[Kb]at r
 have r:=topRun_mono (N - M) _ _ _ _ r
 rw[show M+(N - M)=N from Nat.add_sub_of_le (Nat.le_of_ble_eq_true le)]at r
 have t:topFrom treeTable p w N ⟨boot_heap w.params, #[],boot_drawn,boot_toks,os⟩=some s.abs:=by
  unfold topFrom
  rw[z1,z2,z3,r]
  show(match staticsOk (importedModules p.main.body) (boot_heap w.params) s.abs.heap&&namesBound p s.abs.heap&&gensDone s.abs&&laidKept (boot_heap w.params) s.abs.heap with | true=>_ | false=>_)=_
  rw[l1]
 unfold openEnds
 rw[e1]
 show(topFrom treeTable p w N _).map _=_
 rw[t]
 exact congrArg some (Prod.ext l2 l3)
structure Fc(K:Frag):Prop where
 see:Uc K
 cls84:K.lookup 84=some (excClassObj "Raised" "Raised" 84 83 [.type "Exception"] [.type "Exception", .type "BaseException", .type "object"] true [] [] false none none (some (.ref 66)) none (some (.str "Raised" 257)) (some (.str "Raised" 265)) (some (.bool true)) "Exception.__new__")
 init84:findIn K (.ref 84) "__init__"=some (some (.ref 81))
 fun81:typeIn K (.ref 81)=some (.type "function")
 mk643:makesIn K 643=true
 init643:findIn K (.ref 643) "__init__"=some (some (.ref 541))
 fun541:typeIn K (.ref 541)=some (.type "function")
 mk360:makesIn K 360=true
 init360:findIn K (.ref 360) "__init__"=some (some (.ref 357))
 fun357:typeIn K (.ref 357)=some (.type "function")
 law:nsIn K mainGlobals (Str.ofString "law")=some (some (.ref 779))
 f81:zC K 81 OH
 f357:zC K 357 GK
 f414:zC K 414 BJ
 f421:zC K 421 CJ
 f428:zC K 428 zH
 f442:zC K 442 FK
 f456:zC K 456 AJ
 f541:zC K 541 QF
 f555:zC K 555 tE
 f562:zC K 562 mD
 f569:zC K 569 aD
 f576:zC K 576 RF
 f583:zC K 583 uE
 f612:zC K 612 sF
 f619:zC K 619 ZE
 f626:zC K 626 rF
 f640:zC K 640 sE
 f139:zC K 139 oP
 f146:zC K 146 fV
 f153:zC K 153 QS
 f181:zC K 181 JK
 f188:zC K 188 nP
 f195:zC K 195 IK
 f209:zC K 209 DJ
 f216:zC K 216 TN
 f223:zC K 223 IJ
 f230:zC K 230 TF
 f237:zC K 237 vE
 f244:zC K 244 HJ
 f251:zC K 251 OK
 f258:zC K 258 HK
 f265:zC K 265 SN
 f272:zC K 272 UH
 f279:zC K 279 AI
 f286:zC K 286 PH
 f293:zC K 293 yK
 f301:zC K 301 GD
 f371:zC K 371 lL
 f378:zC K 378 PK
 f385:zC K 385 mP
 f392:zC K 392 xA
 f399:zC K 399 VH
 f491:zC K 491 TH
 f498:zC K 498 UN
 f505:zC K 505 GJ
 f519:zC K 519 jL
 f526:zC K 526 eV
 f652:zC K 652 QH
 f659:zC K 659 MK
 f666:zC K 666 EJ
 f673:zC K 673 RH
 f680:zC K 680 iL
 f687:zC K 687 gL
 f692:zC K 692 sG
 f699:zC K 699 tF
 f706:zC K 706 eF
 f713:zC K 713 BI
 f720:zC K 720 aE
 f725:zC K 725 bD
 f730:zC K 730 SH
 f737:zC K 737 LK
 f744:zC K 744 KK
 f751:zC K 751 FJ
 f758:zC K 758 RI
 f765:zC K 765 CI
 f772:zC K 772 zA
 f779:zC K 779 gV
theorem oV{prog:Program}{w:World}{K:Frag}{bA:Heap}{big:∃b o,100<=b/\bA.get? b=some o}{os:OsState}{sa:Addr}{ns:List Int}(F:Fc K)(Y:xC (yd prog w K bA big os sa ns)):qG (yd prog w K bA big os sa ns) where
 c84 d hd vs J R h1 h2 h:=NV Y PySem.F.excBase_Exception rfl F.cls84 F.init84 F.fun81 (by have:=Nat.le_of_ble_eq_true h2;omega) (CallOk.mono (RA Y F.f81 d hd _ _ _ (by have:=Nat.le_of_ble_eq_true h1;exact Nat.ble_eq_true_of_le (by show 6 - 3<=_;simp only[List.length_cons];omega)) (by have:=Nat.le_of_ble_eq_true h2;exact Nat.ble_eq_true_of_le (by show _<=6;simp only[List.length_cons];omega)) h) fun u0 u0=>nn)
 c643 d hd vs J R h:=NP Y rfl F.mk643 F.init643 F.fun541 h
 c360 d hd vs J R h:=NP Y rfl F.mk360 F.init360 F.fun357 h
 f357:=RA Y F.f357
 f414:=RA Y F.f414
 f421:=RA Y F.f421
 f428:=RA Y F.f428
 f442:=RA Y F.f442
 f456:=RA Y F.f456
 f541:=RA Y F.f541
 f555:=RA Y F.f555
 f562:=RA Y F.f562
 f569:=RA Y F.f569
 f576:=RA Y F.f576
 f583:=RA Y F.f583
 f612:=RA Y F.f612
 f619:=RA Y F.f619
 f626:=RA Y F.f626
 f640:=RA Y F.f640
 f139:=RA Y F.f139
 f146:=RA Y F.f146
 f153:=RA Y F.f153
 f181:=RA Y F.f181
 f188:=RA Y F.f188
 f195:=RA Y F.f195
 f209:=RA Y F.f209
 f216:=RA Y F.f216
 f223:=RA Y F.f223
 f230:=RA Y F.f230
 f237:=RA Y F.f237
 f244:=RA Y F.f244
 f251:=RA Y F.f251
 f258:=RA Y F.f258
 f265:=RA Y F.f265
 f272:=RA Y F.f272
 f279:=RA Y F.f279
 f286:=RA Y F.f286
 f293:=RA Y F.f293
 f301:=RA Y F.f301
 f371:=RA Y F.f371
 f378:=RA Y F.f378
 f385:=RA Y F.f385
 f392:=RA Y F.f392
 f399:=RA Y F.f399
 f491:=RA Y F.f491
 f498:=RA Y F.f498
 f505:=RA Y F.f505
 f519:=RA Y F.f519
 f526:=RA Y F.f526
 f652:=RA Y F.f652
 f659:=RA Y F.f659
 f666:=RA Y F.f666
 f673:=RA Y F.f673
 f680:=RA Y F.f680
 f687:=RA Y F.f687
 f692:=RA Y F.f692
 f699:=RA Y F.f699
 f706:=RA Y F.f706
 f713:=RA Y F.f713
 f720:=RA Y F.f720
 f725:=RA Y F.f725
 f730:=RA Y F.f730
 f737:=RA Y F.f737
 f744:=RA Y F.f744
 f751:=RA Y F.f751
 f758:=RA Y F.f758
 f765:=RA Y F.f765
 f772:=RA Y F.f772
 f779:=RA Y F.f779
section
open PySem.Challenge
noncomputable def Zf:List Addr:=[2,3,15,17,18,20,21,22,29,31,32,34,35,36,37,38,39,42,49,50,51,54,61,62,63,66,73,74,75,77,78,80,81,82,83,84,85,95,96,98,99,101,102,103,104,105,106,107,117,119,120,122,123,124,125,126,127,128,131,132,133,135,136,138,139,140,142,143,145,146,147,149,150,152,153,154,156,157,159,160,161,163,164,166,167,168,170,171,173,174,175,177,178,180,181,182,184,185,187,188,189,191,192,194,195,196,198,199,201,202,203,205,206,208,209,210,212,213,215,216,217,219,220,222,223,224,226,227,229,230,231,233,234,236,237,238,240,241,243,244,245,247,248,250,251,252,254,255,257,258,259,261,262,264,265,266,268,269,271,272,273,275,276,278,279,280,282,283,285,286,287,289,290,292,293,294,295,297,298,300,301,302,304,305,307,308,309,311,312,314,315,316,318,319,321,322,323,325,326,328,329,330,332,333,335,336,337,339,340,342,343,351,353,354,356,357,358,359,360,361,362,365,367,368,370,371,372,374,375,377,378,379,381,382,384,385,386,388,389,391,392,393,395,396,398,399,407,408,410,411,413,414,415,417,418,420,421,422,424,425,427,428,429,431,432,434,435,436,438,439,441,442,443,445,446,448,449,450,452,453,455,456,457,459,460,462,463,464,466,467,469,470,471,473,474,476,477,478,479,480,481,482,485,487,488,490,491,492,494,495,497,498,499,501,502,504,505,506,508,509,511,512,513,515,516,518,519,520,522,523,525,526,527,534,535,537,538,540,541,542,544,545,547,548,549,551,552,554,555,556,558,559,561,562,563,565,566,568,569,570,572,573,575,576,577,579,580,582,583,584,586,587,589,590,591,593,594,596,597,598,600,601,603,604,605,606,608,609,611,612,613,615,616,618,619,620,622,623,625,626,627,629,630,632,633,634,636,637,639,640,641,642,643,646,648,649,651,652,653,655,656,658,659,660,662,663,665,666,667,669,670,672,673,674,676,677,679,680,681,683,684,686,687,688,691,692,693,695,696,698,699,700,702,703,705,706,707,709,710,712,713,714,716,717,719,720,721,724,725,726,729,730,731,733,734,736,737,738,740,741,743,744,745,747,748,750,751,752,754,755,757,758,759,761,762,764,765,766,768,769,771,772,773,775,776,778,779]
noncomputable def qL:Program:=view pw_np0149_02 [77]
noncomputable def bO:List Str:=(pw_np0149_02.main.scope.names.map (·.1)).filter fun x=>x !="law"
noncomputable def Mg(s:Shared):Bool:=xlAt qL [] s&&recOk (RowW.records rw_np0149_02.row.toRowW) s
noncomputable def tX(w:World)(os:OsState):SharedT:=(pW (we pw_np0149_02 w) qe 5000 (s0 w os) (topStub pw_np0149_02)).getD (s0 w os)
noncomputable def kL(w:World)(os:OsState):Frag:=BS Zf (tX w os)
theorem Jb(w:World)(os:OsState):pW (we pw_np0149_02 w) qe 5000 (s0 w os) (topStub pw_np0149_02)=some (tX w os)/\sV pw_np0149_02 qL bO Mg w (tX w os)/\Fc (kL w os):=
 ⟨by kernel_rfl,⟨by kernel_rfl,by kernel_rfl⟩,⟨by kernel_rfl,by kernel_rfl,by kernel_rfl,by kernel_rfl,by kernel_rfl,by kernel_rfl,by kernel_rfl,by kernel_rfl⟩,by kernel_rfl,by kernel_rfl,by kernel_rfl,by kernel_rfl,by kernel_rfl,by kernel_rfl,by kernel_rfl,by kernel_rfl,by kernel_rfl,by kernel_rfl,
  ⟨by kernel_rfl,by kernel_rfl,⟨fun u0 u0 u0 u0=>by kernel_rfl,fun u0 u0 u0 u0 u0=>by kernel_rfl,fun u0 u0 u0 u0 u0 u0=>by kernel_rfl,fun u0 u0 u0 u0 u0 u0 u0=>by kernel_rfl⟩⟩,
  ⟨by kernel_rfl,by kernel_rfl,fun u0 u0=>by kernel_rfl⟩,
  ⟨by kernel_rfl,by kernel_rfl,⟨fun u0 u0=>by kernel_rfl,fun u0 u0 u0=>by kernel_rfl,fun u0 u0 u0 u0=>by kernel_rfl⟩⟩,
  ⟨by kernel_rfl,by kernel_rfl,fun u0 u0 u0=>by kernel_rfl⟩,
  ⟨by kernel_rfl,by kernel_rfl,fun u0 u0=>by kernel_rfl⟩,
  ⟨by kernel_rfl,by kernel_rfl,fun u0 u0 u0=>by kernel_rfl⟩,
  ⟨by kernel_rfl,by kernel_rfl,fun u0 u0 u0=>by kernel_rfl⟩,
  ⟨by kernel_rfl,by kernel_rfl,⟨fun u0 u0=>by kernel_rfl,fun u0 u0 u0=>by kernel_rfl,fun u0 u0 u0 u0=>by kernel_rfl⟩⟩,
  ⟨by kernel_rfl,by kernel_rfl,fun u0 u0 u0=>by kernel_rfl⟩,
  ⟨by kernel_rfl,by kernel_rfl,fun u0 u0 u0 u0=>by kernel_rfl⟩,
  ⟨by kernel_rfl,by kernel_rfl,fun u0 u0 u0 u0 u0=>by kernel_rfl⟩,
  ⟨by kernel_rfl,by kernel_rfl,fun u0 u0 u0=>by kernel_rfl⟩,
  ⟨by kernel_rfl,by kernel_rfl,fun u0 u0 u0 u0=>by kernel_rfl⟩,
  ⟨by kernel_rfl,by kernel_rfl,⟨fun u0 u0 u0 u0=>by kernel_rfl,fun u0 u0 u0 u0 u0=>by kernel_rfl⟩⟩,
  ⟨by kernel_rfl,by kernel_rfl,fun u0 u0 u0=>by kernel_rfl⟩,
  ⟨by kernel_rfl,by kernel_rfl,fun u0 u0 u0=>by kernel_rfl⟩,
  ⟨by kernel_rfl,by kernel_rfl,fun u0 u0 u0=>by kernel_rfl⟩,
  ⟨by kernel_rfl,by kernel_rfl,⟨fun u0 u0=>by kernel_rfl,fun u0 u0 u0=>by kernel_rfl⟩⟩,
  ⟨by kernel_rfl,by kernel_rfl,fun u0 u0 u0=>by kernel_rfl⟩,
  ⟨by kernel_rfl,by kernel_rfl,fun u0 u0 u0=>by kernel_rfl⟩,
  ⟨by kernel_rfl,by kernel_rfl,fun u0 u0=>by kernel_rfl⟩,
  ⟨by kernel_rfl,by kernel_rfl,fun u0 u0=>by kernel_rfl⟩,
  ⟨by kernel_rfl,by kernel_rfl,fun u0 u0 u0=>by kernel_rfl⟩,
  ⟨by kernel_rfl,by kernel_rfl,fun u0 u0 u0=>by kernel_rfl⟩,
  ⟨by kernel_rfl,by kernel_rfl,fun u0 u0=>by kernel_rfl⟩,
  ⟨by kernel_rfl,by kernel_rfl,fun u0 u0 u0=>by kernel_rfl⟩,
  ⟨by kernel_rfl,by kernel_rfl,fun u0 u0 u0=>by kernel_rfl⟩,
  ⟨by kernel_rfl,by kernel_rfl,fun u0 u0 u0=>by kernel_rfl⟩,
  ⟨by kernel_rfl,by kernel_rfl,fun u0 u0 u0=>by kernel_rfl⟩,
  ⟨by kernel_rfl,by kernel_rfl,fun u0 u0 u0=>by kernel_rfl⟩,
  ⟨by kernel_rfl,by kernel_rfl,fun u0 u0 u0=>by kernel_rfl⟩,
  ⟨by kernel_rfl,by kernel_rfl,fun u0 u0 u0=>by kernel_rfl⟩,
  ⟨by kernel_rfl,by kernel_rfl,fun u0 u0 u0 u0=>by kernel_rfl⟩,
  ⟨by kernel_rfl,by kernel_rfl,fun u0 u0=>by kernel_rfl⟩,
  ⟨by kernel_rfl,by kernel_rfl,fun u0 u0 u0=>by kernel_rfl⟩,
  ⟨by kernel_rfl,by kernel_rfl,fun u0 u0 u0 u0=>by kernel_rfl⟩,
  ⟨by kernel_rfl,by kernel_rfl,⟨fun u0 u0 u0=>by kernel_rfl,fun u0 u0 u0 u0=>by kernel_rfl⟩⟩,
  ⟨by kernel_rfl,by kernel_rfl,fun u0 u0 u0=>by kernel_rfl⟩,
  ⟨by kernel_rfl,by kernel_rfl,fun u0 u0 u0=>by kernel_rfl⟩,
  ⟨by kernel_rfl,by kernel_rfl,fun u0 u0 u0 u0 u0=>by kernel_rfl⟩,
  ⟨by kernel_rfl,by kernel_rfl,fun u0 u0 u0=>by kernel_rfl⟩,
  ⟨by kernel_rfl,by kernel_rfl,fun u0 u0=>by kernel_rfl⟩,
  ⟨by kernel_rfl,by kernel_rfl,fun u0 u0 u0=>by kernel_rfl⟩,
  ⟨by kernel_rfl,by kernel_rfl,fun u0 u0 u0=>by kernel_rfl⟩,
  ⟨by kernel_rfl,by kernel_rfl,fun u0 u0 u0 u0=>by kernel_rfl⟩,
  ⟨by kernel_rfl,by kernel_rfl,fun u0 u0=>by kernel_rfl⟩,
  ⟨by kernel_rfl,by kernel_rfl,fun u0 u0 u0 u0 u0=>by kernel_rfl⟩,
  ⟨by kernel_rfl,by kernel_rfl,fun u0 u0 u0=>by kernel_rfl⟩,
  ⟨by kernel_rfl,by kernel_rfl,fun u0=>by kernel_rfl⟩,
  ⟨by kernel_rfl,by kernel_rfl,fun u0=>by kernel_rfl⟩,
  ⟨by kernel_rfl,by kernel_rfl,fun u0 u0 u0=>by kernel_rfl⟩,
  ⟨by kernel_rfl,by kernel_rfl,fun u0 u0=>by kernel_rfl⟩,
  ⟨by kernel_rfl,by kernel_rfl,fun u0 u0=>by kernel_rfl⟩,
  ⟨by kernel_rfl,by kernel_rfl,fun u0 u0 u0 u0=>by kernel_rfl⟩,
  ⟨by kernel_rfl,by kernel_rfl,fun u0 u0 u0=>by kernel_rfl⟩,
  ⟨by kernel_rfl,by kernel_rfl,fun u0 u0 u0 u0=>by kernel_rfl⟩,
  ⟨by kernel_rfl,by kernel_rfl,fun u0 u0 u0=>by kernel_rfl⟩,
  ⟨by kernel_rfl,by kernel_rfl,fun u0 u0=>by kernel_rfl⟩,
  ⟨by kernel_rfl,by kernel_rfl,fun u0 u0=>by kernel_rfl⟩,
  ⟨by kernel_rfl,by kernel_rfl,fun u0 u0=>by kernel_rfl⟩,
  ⟨by kernel_rfl,by kernel_rfl,fun u0 u0 u0=>by kernel_rfl⟩,
  ⟨by kernel_rfl,by kernel_rfl,fun u0 u0 u0=>by kernel_rfl⟩,
  ⟨by kernel_rfl,by kernel_rfl,fun u0 u0=>by kernel_rfl⟩,
  ⟨by kernel_rfl,by kernel_rfl,fun u0 u0 u0=>by kernel_rfl⟩,
  ⟨by kernel_rfl,by kernel_rfl,fun u0 u0 u0 u0=>by kernel_rfl⟩,
  ⟨by kernel_rfl,by kernel_rfl,fun u0 u0 u0=>by kernel_rfl⟩,
  ⟨by kernel_rfl,by kernel_rfl,fun u0 u0=>by kernel_rfl⟩⟩
end
section
mutual
noncomputable def below(n:Nat):V->Bool
 | .loc l=>Nat.blt l n
 | .tup vs=>fB n vs
 | _=>true
noncomputable def fB(n:Nat):List V->Bool
 | []=>true
 | v::vs=>below n v&&fB n vs
end
noncomputable def Rd(code:Int)(value:List Nat)(ec:V)(level ret:Int)(info:List Nat)(noted:Bool)(line:Int)(xl:Nat):List (List Nat×V):=
 [([99,111,100,101], .int code),([118,97,108,117,101], .str value),([101,114,114,111,114,99,111,100,101],ec),([108,101,118,101,108], .int level),([114,101,116], .int ret),
  ([105,110,102,111], .str info),([105,115,95,110,111,116,101,100], .bool noted),([108,105,110,101], .int line),([101,120,116,114,97], .loc xl)]
structure Rz where
 code:Int
 value:List Nat
 ec:V
 info:List Nat
 noted:Bool
 line:Int
noncomputable def Rz.ad(z:Rz)(xl:Nat):List (List Nat×V):=Rd z.code z.value z.ec 0 0 z.info z.noted z.line xl
noncomputable def wJ(n:Nat)(z:Rz):List O:=[.exc 84 (n+1), .ad (z.ad (n+2)), .list []]
noncomputable def ND:V:= .tup [.str [78,79,78,69]]
noncomputable def WH(why:List Nat)(ec:V):Rz:=⟨1,why,ec,[],false,0⟩
noncomputable def vC(n:Nat)(why:List Nat)(ec:V):List O:=wJ n (WH why ec)
inductive Fin(J:List O):bF->List O->bF->List O->Prop
 | same {r:bF} {LA:List O}:Fin J r LA r LA
 | ok {v:V} {j:List O} (h:below J.length v=true):Fin J (.ok v) (J++j) (.ok v) J
 | exn {j:List O} {l dl xl:Nat} {z:Rz} (h1:J.length<=l) (h2:J.length<=dl) (h3:J.length<=xl) (h4:(J++j)[l]?=some (.exc 84 dl)) (h5:(J++j)[dl]?=some (.ad (z.ad xl))) (h6:(J++j)[xl]?=some (.list [])) (h:below J.length z.ec=true):
  Fin J (.exn l) (J++j) (.exn J.length) (J++wJ J.length z)
section
variable{g:G}{h:Heap}{U rA:List Addr}
mutual
theorem VA.below:∀{v:V} {x:Value},VA g h U v x->Mine.below U.length v=true
 | .none,_,_=>rfl
 | .bool _,_,_=>rfl
 | .int _,_,_=>rfl
 | .str _,_,_=>rfl
 | .tup vs,_,⟨_,_,_,_,_,r⟩=>PA.below r
 | .loc l,_,⟨_,e,_⟩=>by
   show Nat.blt l U.length=true
   rw[Nat.blt_eq];exact(List.getElem?_eq_some_iff.mp e).1
 | .val _,_,_=>rfl
 | .script,_,_=>rfl
theorem PA.below:∀{vs:List V} {xs:List Value},PA g h U vs xs->fB U.length vs=true
 | [],[],_=>rfl
 | v::vs,x::xs,⟨a,b⟩=>by show(Mine.below _ v&&fB _ vs)=true;rw[VA.below a,PA.below b];rfl
 | [],_::_,r=>r.elim
 | _::_,[],r=>r.elim
end
theorem Ja{l n:Nat}{a:Addr}(hl:l < n)(hn:U.take n=rA.take n)(e:U[l]?=some a):rA[l]?=some a:=by
 have h1:(U.take n)[l]?=some a:=by rw[List.getElem?_take,if_pos hl];exact e
 rw[hn,List.getElem?_take,if_pos hl]at h1
 exact h1
mutual
theorem VA.cut{n:Nat}(hn:U.take n=rA.take n):∀{v:V} {x:Value},Mine.below n v=true->VA g h U v x->VA g h rA v x
 | .none,_,_,r=>r
 | .bool _,_,_,r=>r
 | .int _,_,_,r=>r
 | .str _,_,_,r=>r
 | .tup vs,_,b,⟨a,os,e,t,z,r⟩=>⟨a,os,e,t,z,PA.cut hn b r⟩
 | .loc l,_,b,⟨a,e,q⟩=>⟨a,Ja (by have:Nat.blt l n=true:=b;rwa [Nat.blt_eq]at this) hn e,q⟩
 | .val _,_,_,r=>r
 | .script,_,_,r=>r
theorem PA.cut{n:Nat}(hn:U.take n=rA.take n):∀{vs:List V} {xs:List Value},fB n vs=true->PA g h U vs xs->PA g h rA vs xs
 | [],[],_,_=>trivial
 | v::vs,x::xs,b,⟨p,q⟩=>⟨VA.cut hn (Bool.and_eq_true_iff.mp b).1 p,PA.cut hn (Bool.and_eq_true_iff.mp b).2 q⟩
 | [],_::_,_,r=>r.elim
 | _::_,[],_,r=>r.elim
end
theorem sB.back{bA:Heap}{n:Nat}(hn:rA.take n=U.take n)(hl:U.length=n):∀{kvs:List (List Nat×V)} {ps VZ:List (Str×Value)},sB g bA U kvs VZ->sB g h rA kvs ps->sB g h U kvs ps
 | [],[],_,_,_=>trivial
 | kv::kvs,p::ps,q::qs,⟨⟨_,_,_,b⟩,br⟩,⟨⟨a1,a2,a3,a4⟩,r⟩=>⟨⟨a1,a2,a3,VA.cut hn (hl ▸ VA.below b) a4⟩,sB.back hn hl br r⟩
 | [],_::_,_,_,r=>r.elim
 | _::_,[],_,_,r=>r.elim
 | _::_,_::_,[],b,_=>b.elim
theorem IG.back{bA:Heap}{n:Nat}(hn:rA.take n=U.take n)(hl:U.length=n){a af:Addr}{x:O}(ZW:IG g bA U af x)(r:IG g h rA a x):IG g h U a x:=by
 induction x using O.casesOn with
 | list vs=>obtain⟨os,k,e,z,q⟩:=r;obtain⟨_,_,_,_,q0⟩:=ZW;exact⟨os,k,e,z,PA.cut hn (hl ▸ PA.below q0) q⟩
 | dict kvs ep=>obtain⟨ps,e,z,q⟩:=r;obtain⟨_,_,_,q0⟩:=ZW;exact⟨ps,e,z,sB.back hn hl q0 q⟩
 | ad kvs=>
   obtain⟨o,m,e,c,N,z,q⟩:=r
   obtain⟨_,m0,_,_,_,_,q0⟩:=ZW
   refine⟨o,m,e,c,N,z,fun k=>?_⟩
   have h1:=q k;have h0:=q0 k
   revert h1 h0
   cases TA k kvs <;>cases m ⟨k.toArray⟩ <;>cases m0 ⟨k.toArray⟩ <;>intro h1 h0 <;>first | exact h1 | exact h0.elim | exact VA.cut hn (hl ▸ VA.below (show VA g bA U _ _ from h0)) h1
 | inst C dl=>obtain⟨x0,dx,e,q⟩:=r;obtain⟨_,dx0,e0,_⟩:=ZW;exact⟨x0,dx,Ja (hl ▸ (List.getElem?_eq_some_iff.mp e0).1) hn e,q⟩
 | exc C dl=>obtain⟨x0,dx,vs,e,q,t⟩:=r;obtain⟨_,dx0,_,e0,_⟩:=ZW;exact⟨x0,dx,vs,Ja (hl ▸ (List.getElem?_eq_some_iff.mp e0).1) hn e,q,t⟩
 | exc0 C=>exact r
end
section
variable{g:G}{s s':Shared}{U new:List Addr}{J j:List O}
theorem St.back(S:St g s U J)(S':St g s' (U++new) (J++j)):St g s' U J where
 base:=S'.base
 nodup:=(List.nodup_append.mp S'.nodup).1
 fresh:=fun a m=>S'.fresh a (List.mem_append.mpr (.inl m))
 len:=S.len
 objs:=fun l a x e q=>by
  have hl:l < U.length:=(List.getElem?_eq_some_iff.mp e).1
  have r:=S'.objs l a x (by rw[List.getElem?_append_left hl];exact e) (by rw[List.getElem?_append_left (S.len ▸ hl)];exact q)
  exact IG.back (by simp) rfl (S.objs l a x e q) r
 gens:=S'.gens
 os:=S'.os
theorem NA.back{h h':Heap}{X:List Addr}(T:NA h h' U (U++new) X):NA h h' U U X:=⟨⟨[],by simp,fun u0 m=>nomatch m⟩,T.keep,T.shape,T.alive,T.tbs⟩
end
end
section
variable{g:G}{s s':Shared}{U new as:List Addr}{J j js:List O}
theorem St.app(S:St g s U J)(hl:as.length=js.length)(hn:(U++as).Nodup)(hf:∀a∈as,g.bA.get? a=none/\100<=a)(ho:∀(i:Nat) (a:Addr) (x:O),as[i]?=some a->js[i]?=some x->IG g s.heap (U++as) a x):St g s (U++as) (J++js) where
 base:=S.base
 nodup:=hn
 fresh:=fun a m=>(List.mem_append.mp m).elim (S.fresh a) (hf a)
 len:=by simp[S.len,hl]
 objs:=fun l a x e q=>by
  by_cases h:l < U.length
  ·rw[List.getElem?_append_left h]at e
   rw[List.getElem?_append_left (S.len ▸ h)]at q
   exact(S.objs l a x e q).congr rfl (fun u0 u0 t=>t) (fun l b e=>by rw[List.getElem?_append_left (List.getElem?_eq_some_iff.mp e).1];exact e) fun b z e z'=>⟨z,e,z'⟩
  ·rw[List.getElem?_append_right (Nat.le_of_not_lt h)]at e
   rw[List.getElem?_append_right (S.len ▸ Nat.le_of_not_lt h), <-S.len]at q
   exact ho _ a x e q
 gens:=S.gens
 os:=S.os
class inductive FL(h:Heap)(g:G)(U rA:List Addr):List (List Nat×V)->List (List Nat×V)->Prop
 | nil:FL h g U rA [] []
 | same {k:List Nat} {v:V} {a b:List (List Nat×V)}:(∀x,VA g h U v x->VA g h rA v x)->FL h g U rA a b->FL h g U rA ((k,v)::a) ((k,v)::b)
 | turn {k:List Nat} {v w:V} {a b:List (List Nat×V)}:(∀x,VA g h U v x->VA g h rA w x)->FL h g U rA a b->FL h g U rA ((k,v)::a) ((k,w)::b)
theorem vd{h:Heap}{U rA:List Addr}{k:List Nat}{kvs kvs':List (List Nat×V)}(al:FL h g U rA kvs kvs'):∀{o:Option Value},jK g h U (TA k kvs) o->jK g h rA (TA k kvs') o:=by
 have step:∀{k1:List Nat} {v w:V} {a b:List (List Nat×V)},(∀x,VA g h U v x->VA g h rA w x)->(∀{o:Option Value},jK g h U (TA k a) o->jK g h rA (TA k b) o)->∀{o:Option Value},jK g h U (TA k ((k1,v)::a)) o->jK g h rA (TA k ((k1,w)::b)) o:=fun {k1 v w a b} f ih o r=>by
  have r:jK g h U (if k1=k then some v else TA k a) o:=r
  show jK g h rA (if k1=k then some w else TA k b) o
  by_cases q:k1=k
  ·rw[if_pos q]at r ⊢
   induction o using Option.casesOn with
   | none=>exact r
   | some x=>exact f x r
  ·rw[if_neg q]at r ⊢
   exact ih r
 induction al with
 | nil=>exact fun {o} r=>by induction o using Option.casesOn <;>exact r
 | same f _ ih=>exact step f ih
 | turn f _ ih=>exact step f ih
theorem Cb{l:Nat}(S':St g s (U++new) (J++j)){x:O}(h:(J++j)[l]?=some x)(hl:U.length<=l):∃a,(U++new)[l]?=some a/\a∈new/\IG g s.heap (U++new) a x:=by
 obtain⟨a,ha,r⟩:=S'.obj h
 refine⟨a,ha,?_,r⟩
 rw[List.getElem?_append_right hl]at ha
 exact List.mem_of_getElem? ha
theorem St.exn(S:St g s U J)(S':St g s' (U++new) (J++j)){l dl xl:Nat}{z:Rz}(h1:J.length<=l)(h2:J.length<=dl)(h3:J.length<=xl)(h4:(J++j)[l]?=some (.exc 84 dl))(h5:(J++j)[dl]?=some (.ad (z.ad xl)))(h6:(J++j)[xl]?=some (.list []))(hz:below J.length z.ec=true){a:Addr}(ha:(U++new)[l]?=some a):
 ∃a2 a3,(∀b∈[a,a2,a3],b∈new)/\St g s' (U++[a,a2,a3]) (J++wJ J.length z):=by
 rw[<-S.len]at h1 h2 h3
 obtain⟨a1,e1,m1,r1⟩:=Cb S' h4 h1
 rw[ha]at e1;cases e1
 obtain⟨a2,e2,m2,r2⟩:=Cb S' h5 h2
 obtain⟨a3,e3,m3,r3⟩:=Cb S' h6 h3
 have nd:=List.nodup_append.mp S'.nodup
 have inj:∀{p q:Nat} {b:Addr},(U++new)[p]?=some b->(U++new)[q]?=some b->p=q:=fun {p q b} x y=>by
  obtain⟨u1,x⟩:=List.getElem?_eq_some_iff.mp x
  obtain⟨u2,y⟩:=List.getElem?_eq_some_iff.mp y
  exact(List.getElem_inj S'.nodup).mp (x.trans y.symm)
 have ne12:a≠a2:=fun q=>by subst q;have:=inj ha e2;subst this;rw[h4]at h5;cases h5
 have ne13:a≠a3:=fun q=>by subst q;have:=inj ha e3;subst this;rw[h4]at h6;cases h6
 have ne23:a2≠a3:=fun q=>by subst q;have:=inj e2 e3;subst this;rw[h5]at h6;cases h6
 have hm:∀b∈[a,a2,a3],b∈new:=by
  intro b m
  simp only[List.mem_cons,List.not_mem_nil,or_false]at m
  rcases m with rfl | rfl | rfl <;>assumption
 have n0:J.length=U.length:=S.len.symm
 have at1:(U++[a,a2,a3])[J.length+1]?=some a2:=by rw[n0,List.getElem?_append_right (by exact Nat.le_add_right _ _),Nat.add_sub_cancel_left];rfl
 have at2:(U++[a,a2,a3])[J.length+2]?=some a3:=by rw[n0,List.getElem?_append_right (by exact Nat.le_add_right _ _),Nat.add_sub_cancel_left];rfl
 refine⟨a2,a3,hm,(S.back S').app rfl ?_ (fun b m=>S'.fresh b (List.mem_append.mpr (.inr (hm b m)))) ?_⟩
 ·refine List.nodup_append.mpr ⟨nd.1,?_,fun b mb c mc=>nd.2.2 b mb c (hm c mc)⟩
  simp[ne12,ne13,ne23]
 ·intro i b x eb ex
  rcases i with _ | _ | _ | i
  ·cases eb;cases ex
   obtain⟨x0,dx,vs,q1,q2,q3⟩:=r1
   rw[e2]at q1;cases q1
   exact⟨x0,a2,vs,at1,q2,q3⟩
  ·cases eb;cases ex
   obtain⟨o,m,q1,q2,q3,q4,q5⟩:=r2
   refine⟨o,m,q1,q2,q3,q4,fun k=>?_⟩
   have al:FL s'.heap g (U++new) (U++[a,a2,a3]) (z.ad xl) (z.ad (J.length+2)):= .same (fun u0 r=>r) (.same (fun u0 r=>r) (.same (fun u0 r=>VA.cut (n:=J.length) (by rw[n0];simp) hz r) (.same (fun u0 r=>r) (.same (fun u0 r=>r) (.same (fun u0 r=>r) (.same (fun u0 r=>r) (.same (fun u0 r=>r) (.turn (v:= .loc xl) (w:= .loc (J.length+2)) (fun x r=>by obtain⟨b,r,e⟩:=(r:xY _ _ _);exact⟨b,at2.trans (e3.symm.trans r),e⟩) .nil))))))))
   exact vd al (q5 k)
  ·cases eb;cases ex
   obtain⟨os,k,q1,q2,q3⟩:=r3
   exact⟨os,k,q1,q2,by induction hq:os.toList using List.casesOn with
    | nil=>trivial
    | cons _ _=>rw[hq]at q3;exact q3.elim⟩
  ·cases eb
theorem CallOk.fin{d:Nat}{hd:Option Nat}{f:Value}{vs:List V}{R:bF->List O->Prop}(h:CallOk g d hd f vs J fun r LA=>∃r0 XE,Fin J r LA r0 XE/\R r0 XE):CallOk g d hd f vs J R:=by
 intro A s U xs C S rr
 refine codeAny_mono (h A s U xs C S rr) fun r s' p=>?_
 rcases r with e | (_ | _ | _ | v)
 ·obtain⟨⟨l,LA,rA,a,⟨r0,XE,F,q⟩,ha,he,hx,S',T⟩,t⟩:=p
  cases F with
  | same=>exact⟨⟨l,LA,rA,a,q,ha,he,hx,S',T⟩,t⟩
  | exn h1 h2 h3 h4 h5 h6 hz=>
    obtain⟨new,rfl,hn⟩:=T.pre
    obtain⟨a2,a3,hm,S''⟩:=S.exn S' h1 h2 h3 h4 h5 h6 hz ha
    have e1:(U++[a,a2,a3])[J.length]?=some a:=by rw[<-S.len];simp
    exact⟨⟨_,_,_,a,q,e1,he,⟨84,J.length+1,by simp[wJ]⟩,S'',⟨⟨_,rfl,fun b m=>hn b (hm b m)⟩,T.keep,T.shape,T.alive,T.tbs⟩⟩,t⟩
 ·exact p.elim
 ·exact p.elim
 ·exact p.elim
 ·obtain⟨mv,LA,rA,⟨r0,XE,F,q⟩,rv,S',T⟩:=p
  cases F with
  | same=>exact⟨mv,LA,rA,q,rv,S',T⟩
  | ok hv=>
    obtain⟨new,rfl,hn⟩:=T.pre
    exact⟨mv,J,U,q,VA.cut (n:=J.length) (by rw[<-S.len];simp) hv rv,S.back S',T.back⟩
end
section
variable{g:G}{d:Nat}{hd:Option Nat}
theorem Fn.run{a:Addr}{F:pA}(P:Fn g a F){vs:List V}{J:List O}{S:Sp}(h1:Nat.ble (F.np - F.dflt.length) vs.length=true)(h2:Nat.ble vs.length F.np=true)
 (h:∀K:bF->List O->Prop,(∀{r LA r0 XE},K r LA->Fin J r LA r0 XE->S.R r0 XE->False)->dF g d hd F vs J K->False):MA g (d+1) hd a vs J S:=by
 exact CallOk.fin ((P d hd vs J (fun r LA=>¬∃r0 XE,Fin J r LA r0 XE/\S.R r0 XE) h1 h2 fun f=>h _ (fun a b c=>a ⟨_,_,b,c⟩) f).mono fun u0 u0=>nn)
end
section
variable{g:G}{d:Nat}{hd:Option Nat}{J:List O}{T s:List Nat}{n:Nat}
theorem gA{c:Nat}(h:tB T n (c::s)):CR g J (.str T) (.int (n:Int))=some (.str [c]):=by
 show(jQ T (n:Int)).map _=_
 rw[ZX,show T[n]?=some c from h.get 0];rfl
theorem QE(h:tB T n s):decide ((n:Int) < (T.length:Int))=!s.isEmpty:=by
 have:=h.len
 induction s using List.casesOn with
 | nil=>exact decide_eq_false (by simp only[List.length_nil]at this;lia)
 | cons c s=>exact decide_eq_true (by simp only[List.length_cons]at this;lia)
theorem RO(h:tB T n s):decide ((T.length:Int)<=(n:Int))=s.isEmpty:=by
 have:=h.len
 induction s using List.casesOn with
 | nil=>exact decide_eq_true (by simp only[List.length_nil]at this;lia)
 | cons c s=>exact decide_eq_false (by simp only[List.length_cons]at this;lia)
theorem tB.sub{t:List Nat}(h:tB T n s)(k:t <:+ s):∃m,tB T m t:=by
 obtain⟨a,rfl⟩:=k;exact⟨_,h.app⟩
theorem tB.of{t:List Nat}(h:tB T n s)(e:t=s):tB T n t:=e ▸ h
theorem tB.fin{a b:Nat}(h:tB T a s)(k:tB T b s):bF.ok (.int (a:Int))=bF.ok (.int (b:Int))/\J=J:=by rw[h.uniq k];exact⟨rfl,rfl⟩
theorem qD{a b:List Nat}(hl:a.length+b.length<=10000000):KP .Add (.str a) (.str b)=some (.str (a++b)):=by
 show(if a.length+b.length<=sizeLine then _ else _)=_;rw[if_pos (by show _<=2^24;exact TD hl)]
noncomputable def uF(c:Nat):Bool:=[[32],[9],[11],[12],[13]].contains [c]
theorem pL(P:Prog g){c:Nat}:MA g (d+1) hd 216 [.str [c]] J (.at (.ok (.bool (uF c))) J):=
 P.f216.run rfl rfl fun K e f=>e (f _ rfl) .same ⟨rfl,rfl⟩
noncomputable def VC(c:Nat):Int:=if 48<=c/\c<=57 then c - 48 else if 97<=c/\c<=122 then c - 87 else if 65<=c/\c<=90 then c - 55 else -1
theorem wK(P:Prog g){c:Nat}:MA g (d+1) hd 188 [.str [c]] J (.at (.ok (.int (VC c))) J):=
 P.f188.run rfl rfl fun K e f=>by
   unfold VC at e
   have i:∀a b:Nat,(decide ((a:Int)<=(c:Int))&&decide ((c:Int)<=(b:Int)))=decide (a<=c/\c<=b):=fun a b=>by simp only[Int.ofNat_le,Bool.decide_and]
   by_cases h1:48<=c/\c<=57
   ·exact e (f false rfl _ _ id true ((i 48 57).trans (decide_eq_true h1))) .same ⟨by rw[if_pos h1],rfl⟩
   by_cases h2:97<=c/\c<=122
   ·exact e (f false rfl _ _ id false ((i 48 57).trans (decide_eq_false h1)) true ((i 97 122).trans (decide_eq_true h2))) .same ⟨by rw[if_neg h1,if_pos h2],rfl⟩
   by_cases h3:65<=c/\c<=90
   ·exact e (f false rfl _ _ id false ((i 48 57).trans (decide_eq_false h1)) false ((i 97 122).trans (decide_eq_false h2)) true ((i 65 90).trans (decide_eq_true h3))) .same ⟨by rw[if_neg h1,if_neg h2,if_pos h3],rfl⟩
   ·exact e (f false rfl _ _ id false ((i 48 57).trans (decide_eq_false h1)) false ((i 97 122).trans (decide_eq_false h2)) false ((i 65 90).trans (decide_eq_false h3))) .same ⟨by rw[if_neg h1,if_neg h2,if_neg h3],rfl⟩
noncomputable def IA:List Nat->List Nat
 | []=>[]
 | [c]=>if uF c then[]else[c]
 | c::c2::r=>if uF c then IA (c2::r)else if c=92/\c2=10 then IA r else c::c2::r
theorem IA.r1:IA []=([]):=rfl
theorem IA.r2:IA [c]=(if uF c then[]else[c]):=rfl
theorem IA.r3:IA (c::c2::r)=(if uF c then IA (c2::r)else if c=92/\c2=10 then IA r else c::c2::r):=rfl
theorem kA{c:Nat}(h:uF c=true)(r:List Nat):IA (c::r)=IA r:=by
 induction r using List.casesOn with
 | nil=>simp[IA.r1,IA.r2,IA.r3,h]
 | cons c2 r=>(first | rw[IA.r1,if_pos h] | rw[IA.r2,if_pos h] | rw[IA.r3,if_pos h])
theorem ZK(r:List Nat):IA (92::10::r)=IA r:=by(first | rw[IA.r1,if_neg (by decide),if_pos ⟨rfl,rfl⟩] | rw[IA.r2,if_neg (by decide),if_pos ⟨rfl,rfl⟩] | rw[IA.r3,if_neg (by decide),if_pos ⟨rfl,rfl⟩])
theorem GE{c:Nat}(h:uF c=false){r:List Nat}(hr:c=92->∀r',r≠10::r'):IA (c::r)=c::r:=by
 induction r using List.casesOn with
 | nil=>simp[IA.r1,IA.r2,IA.r3,h]
 | cons c2 r=>(first | rw[IA.r1,if_neg (by rw[h];decide),if_neg] | rw[IA.r2,if_neg (by rw[h];decide),if_neg] | rw[IA.r3,if_neg (by rw[h];decide),if_neg]);rintro ⟨q1,q2⟩;exact hr q1 r (by rw[q2])
theorem RB:∀s:List Nat,IA s <:+ s
 | []=>List.suffix_refl _
 | [c]=>by(first | rw[IA.r1] | rw[IA.r2] | rw[IA.r3]);split;exact List.nil_suffix;exact List.suffix_refl _
 | c::c2::r=>by
   (first | rw[IA.r1] | rw[IA.r2] | rw[IA.r3]);split
   ·exact(RB (c2::r)).trans (List.suffix_cons _ _)
   split
   ·exact(RB r).trans ((List.suffix_cons _ _).trans (List.suffix_cons _ _))
   ·exact List.suffix_refl _
theorem BC(P:Prog g)(hs:tB T n s):∃m,tB T m (IA s)/\∀{J},MA g (d+2) hd 223 [.str T, .int n] J (.at (.ok (.int (m:Nat))) J):=by
 obtain⟨m,hm⟩:=hs.sub (RB s)
 refine⟨m,hm,fun {J}=>P.f223.run rfl rfl fun K e f=>f fun Pw hP h0=>?_⟩
 have go:∀(k:Nat) (s':List Nat) (n:Nat),s'.length < k->tB T n s'->IA s'=IA s->Pw 0 [some (.str T),some (.int (n:Nat))] J->False:=by
  intro k
  induction k with
  | zero=>intro s' n hk;cases hk
  | succ k ih=>
    intro s' n hk h he p
    induction s' using List.casesOn with
    | nil=>exact e (hP _ _ _ p false (QE h)) .same (h.fin (hm.of he))
    | cons c r=>
      induction hc:uF c using Bool.casesOn with
      | true=>exact ih r (n+1) (Nat.lt_of_succ_lt_succ hk) h.next (by rw[<-he,kA hc]) (hP _ _ _ p true (QE h) _ (gA h) _ (pL P) true hc)
      | false=>
        by_cases h2:c=92/\∃r',r=10::r'
        ·obtain⟨rfl,r,rfl⟩:=h2
         exact ih r (n+2) (by simp only[List.length_cons]at hk;exact BB hk) h.next.next (by rw[<-he,ZK]) (hP _ _ _ p true (QE h) _ (gA h) _ (pL P) false hc _ (lB (j:=2) h) true rfl)
        ·rw[GE hc fun q r' w=>h2 ⟨q,r',w⟩]at he
         refine e (hP _ _ _ p true (QE h) _ (gA h) _ (pL P) false hc _ (lB (j:=2) h) false (decide_eq_false fun q=>h2 ?_)) .same (h.fin (hm.of he))
         induction r using List.casesOn with
         | nil=>cases q
         | cons c2 r=>cases q;exact⟨rfl,r,rfl⟩
 exact go _ s n (Nat.lt_succ_self _) hs rfl h0
noncomputable def SA:List Nat->List Nat
 | []=>[]
 | [c]=>[]
 | c::c2::r=>if c=92 then SA r else if c=10 then c2::r else SA (c2::r)
theorem SA.r1:SA []=([]):=rfl
theorem SA.r2:SA [c]=([]):=rfl
theorem SA.r3:SA (c::c2::r)=(if c=92 then SA r else if c=10 then c2::r else SA (c2::r)):=rfl
theorem fE:∀s:List Nat,SA s <:+ s
 | []=>List.suffix_refl _
 | [c]=>List.nil_suffix
 | c::c2::r=>by
   (first | rw[SA.r1] | rw[SA.r2] | rw[SA.r3]);split
   ·exact(fE r).trans ((List.suffix_cons _ _).trans (List.suffix_cons _ _))
   split
   ·exact List.suffix_cons _ _
   ·exact(fE (c2::r)).trans (List.suffix_cons _ _)
theorem WT(P:Prog g)(hs:tB T n s):∃m,tB T m (SA s)/\∀{J},MA g (d+2) hd 230 [.str T, .int n] J (.at (.ok (.int (m:Nat))) J):=by
 obtain⟨m,hm⟩:=hs.sub (fE s)
 refine⟨m,hm,fun {J}=>P.f230.run rfl rfl fun K e f=>f fun Pw hP h0=>?_⟩
 have sz:tB T T.length []:=⟨Nat.le_refl _,by simp,hs.big⟩
 have go:∀(k:Nat) (s':List Nat) (n:Nat),s'.length < k->(tB T n s'\/s'=[]/\T.length < n)->SA s'=SA s->Pw 0 [some (.str T),some (.int (n:Nat)),some (.int (T.length:Nat))] J->False:=by
  intro k
  induction k with
  | zero=>intro s' n hk;cases hk
  | succ k ih=>
    intro s' n hk h he p
    rcases h with h | ⟨rfl,h⟩
    ·rcases s' with _ | ⟨c,_ | ⟨c2,r⟩⟩
     ·exact e (hP _ _ _ p false (QE h)) .same (sz.fin (hm.of he))
     ·by_cases h1:c=92
      ·subst h1
       exact ih [] (n+2) (by simp only[List.length_cons]at hk ⊢;exact BB hk) (.inr ⟨rfl,by have:=h.len;simp only[List.length_cons,List.length_nil]at this;exact(BB (eL this))⟩) he (hP _ _ _ p true (QE h) _ (gA h) true rfl)
      by_cases h2:c=10
      ·subst h2
       exact e (hP _ _ _ p true (QE h) _ (gA h) false rfl _ (gA h) true rfl) .same (h.next.fin (hm.of he))
      ·exact ih [] (n+1) (by simp only[List.length_cons]at hk ⊢;exact BB hk) (.inl h.next) he (hP _ _ _ p true (QE h) _ (gA h) false (decide_eq_false (by simpa using h1)) _ (gA h) false (decide_eq_false (by simpa using h2)))
     ·by_cases h1:c=92
      ·subst h1
       exact ih r (n+2) (by simp only[List.length_cons]at hk ⊢;exact BB hk) (.inl h.next.next) he (hP _ _ _ p true (QE h) _ (gA h) true rfl)
      by_cases h2:c=10
      ·subst h2
       exact e (hP _ _ _ p true (QE h) _ (gA h) false rfl _ (gA h) true rfl) .same (h.next.fin (hm.of he))
      ·exact ih (c2::r) (n+1) (by simp only[List.length_cons]at hk ⊢;exact BB hk) (.inl h.next) (by(first | rw[<-he,SA.r1,if_neg h1,if_neg h2] | rw[<-he,SA.r2,if_neg h1,if_neg h2] | rw[<-he,SA.r3,if_neg h1,if_neg h2])) (hP _ _ _ p true (QE h) _ (gA h) false (decide_eq_false (by simpa using h1)) _ (gA h) false (decide_eq_false (by simpa using h2)))
    ·exact e (hP _ _ _ p false (decide_eq_false (by lia))) .same (sz.fin (hm.of he))
 exact go _ s n (Nat.lt_succ_self _) (.inl hs) rfl h0
class inductive UB:List Nat->List Nat->Prop
 | stop {s t:List Nat}:IA s=t->(∀c r,t=c::r->c≠10/\c≠59/\c≠35)->UB s t
 | sep {s t r:List Nat} {c:Nat}:IA s=c::r->c=10\/c=59->UB r t->UB s t
 | com {s t r:List Nat}:IA s=35::r->UB (SA (35::r)) t->UB s t
theorem UB.suf{t:List Nat}(h:UB s t):t <:+ s:=by
 induction h with
 | stop h=>exact h ▸ RB _
 | sep h _ _ ih=>exact(ih.trans (List.suffix_cons _ _)).trans (h ▸ RB _)
 | com h _ ih=>exact(ih.trans (fE _)).trans (h ▸ RB _)
theorem DC(P:Prog g){t:List Nat}(hs:tB T n s)(hc:UB s t):∃m,tB T m t/\∀{J},MA g (d+3) hd 237 [.str T, .int n] J (.at (.ok (.int (m:Nat))) J):=by
 obtain⟨m,hm⟩:=hs.sub hc.suf
 refine⟨m,hm,fun {J}=>P.f237.run rfl rfl fun K e f=>?_⟩
 obtain⟨n1,h1,c1⟩:=BC (d:=d) (hd:=hd) P hs
 refine f _ c1 fun Pw hP h0=>?_
 clear hs c1
 set_option tactic.hygienic true in induction hc generalizing n1 with
 | stop h hr=>
   subst h
   refine e (hP _ _ _ h0 _ (lB (j:=1) h1) _ rfl false ?_) .same (h1.fin hm)
   rename_i s0
   induction q:IA s0 using List.casesOn with
   | nil=>rfl
   | cons c r=>obtain⟨h1,h2,h3⟩:=hr c r q;simp[h1,h2,h3]
 | sep h hc _ ih=>
   rw[h]at h1
   obtain⟨n2,h2,c2⟩:=BC (d:=d) (hd:=hd) P h1.next
   exact ih hm n2 h2 (hP _ _ _ h0 _ (lB (j:=1) h1) _ rfl true (by rcases hc with rfl | rfl <;>rfl) _ (gA h1) false (by rcases hc with rfl | rfl <;>rfl) _ c2)
 | com h _ ih=>
   rw[h]at h1
   obtain⟨n2,h2,c2⟩:=WT (d:=d) (hd:=hd) P h1
   obtain⟨n3,h3,c3⟩:=BC (d:=d) (hd:=hd) P h2
   exact ih hm n3 h3 (hP _ _ _ h0 _ (lB (j:=1) h1) _ rfl true rfl _ (gA h1) true rfl _ c2 _ c3)
end
section
variable{g:G}{d:Nat}{hd:Option Nat}{J:List O}{T s:List Nat}{n:Nat}
noncomputable def fF(c:Nat):Bool:=decide (c=95)||decide (0<=VC c)
noncomputable def nI(r:List Nat):Prop:=∀c r',r=c::r'->fF c=false/\c≠58
theorem oD{a b:Nat}(h:a≠b):decide ([a]=[b])=false:=decide_eq_false fun q=>h (List.cons.inj q).1
theorem FI{c x:Nat}{L:List Nat}(h:L.contains c=false)(hx:L.contains x=true):c≠x:=fun q=>by subst q;rw[h]at hx;cases hx
theorem lU{l L:List Nat}(h:l.all L.contains=true):∀x∈l,L.contains x=true:=List.all_eq_true.mp h
theorem BW{c:Nat}{l L:List Nat}(h:L.contains c=false)(k:l.all L.contains=true):(l.map fun x=>[x]).contains [c]=false:=by
 rw[<-Bool.not_eq_true,List.contains_iff_mem,List.mem_map]
 rintro ⟨x,m,q⟩
 exact FI h (lU k x m) (List.cons.inj q).1.symm
theorem WK(P:Prog g){nm r:List Nat}(hs:tB T n (nm++r))(hn:∀c∈nm,fF c=true)(hr:nI r):MA g (d+2) hd 244 [.str T, .int n] J (.at (.ok (.int ((n+nm.length:Nat):Int))) J):=
 P.f244.run rfl rfl fun K e f=>f fun Pw hP h0=>by
   have hm:=hs.app
   clear f
   revert h0
   generalize hz:n+nm.length=z at*
   clear hz
   induction nm generalizing n with
   | nil=>
     intro p
     induction r using List.casesOn with
     | nil=>exact e (hP _ _ _ p false (QE hs)) .same (hs.fin hm)
     | cons c r=>
       obtain⟨hc,hc2⟩:=hr c r rfl
       unfold fF at hc
       simp only[Bool.or_eq_false_iff,decide_eq_false_iff_not]at hc
       exact e (hP _ _ _ p true (QE hs) _ (gA hs) false (oD hc.1) _ (gA hs) _ (wK P) false (decide_eq_false hc.2) _ (lB (j:=2) hs) false (by induction r using List.casesOn <;>simp[hc2])) .same (hs.fin hm)
   | cons c nm ih=>
     intro p
     have hc:=hn c (.head _)
     unfold fF at hc
     refine ih hs.next (fun x hx=>hn x (.tail _ hx)) ?_
     by_cases h1:c=95
     ·subst h1
      exact hP _ _ _ p true (QE hs) _ (gA hs) true rfl
     ·rw[decide_eq_false h1,Bool.false_or]at hc
      exact hP _ _ _ p true (QE hs) _ (gA hs) false (oD h1) _ (gA hs) _ (wK P) true hc
theorem Cd(P:Prog g){a:List Nat}{k:Nat}(ha:a.length<=1000000):MA g (d+1) hd 146 [.str a, .int k] J (.at (.ok (.str (if a.length<=k then a else a.take k++[46,46,46]))) J):=
 P.f146.run rfl rfl fun K e f=>by
   by_cases h:a.length<=k
   ·exact e (f false (decide_eq_false (by lia))) .same ⟨by rw[if_pos h],rfl⟩
   ·exact e (f true (decide_eq_true (by lia)) _ vO _ (qD (by simp;lia))) .same ⟨by rw[if_neg h],rfl⟩
theorem xG{kvs:List (List Nat×V)}{t:List O}{k:List Nat}{v:V}{Q:List O->Prop}(h1:PE 84 k=true)(h2:Nat.ble kvs.length 1000=true)(h3:Nat.ble k.length 1000=true)(h4:Q (J++ .exc 84 (J.length+1):: .ad (VB k v kvs)::t)):tH g (J++ .exc 84 (J.length+1):: .ad kvs::t) (.loc J.length) k v Q:=by
 refine zN (AA ..) (nB J (.exc 84 (J.length+1):: .ad kvs::t) 1) h1 (Nat.le_of_ble_eq_true h2) (Nat.le_of_ble_eq_true h3) ?_
 rw[pO];exact h4
theorem MQ(P:Prog g){code:Int}{value:List Nat}{ec:V}:MA g (d+2) hd 84 [.int code, .str value,ec] J (.at (.ok (.loc J.length)) (J++wJ J.length ⟨code,value,ec,[],false,0⟩)):=
 P.c84 _ _ _ _ _ rfl rfl (fun f=>f
   (.inr ⟨84,AA ..⟩) _ (nM rfl (by decide)) _ (xG rfl rfl rfl) _ (xG rfl rfl rfl) _ (xG rfl rfl rfl) _ (xG rfl rfl rfl) _ (xG rfl rfl rfl) _ (xG rfl rfl rfl) _ (xG rfl rfl rfl)
   _ (fun {Q} h=>by
     rw[List.append_assoc,List.length_append]
     exact xG (t:=[.list []]) rfl rfl rfl h) ⟨rfl,rfl,rfl⟩)
theorem yR(P:Prog g){why:List Nat}{ec:V}:MA g (d+3) hd 139 [.str why,ec] J (.at (.ok (.loc J.length)) (J++vC J.length why ec)):=
 P.f139.run rfl rfl fun K e f=>e (f _ (MQ P)) .same ⟨rfl,rfl⟩
theorem DD(P:Prog g){why:List Nat}:MA g (d+3) hd 139 [.str why] J (.at (.ok (.loc J.length)) (J++vC J.length why ND)):=
 P.f139.run rfl rfl fun K e f=>e (f _ (MQ P)) .same ⟨rfl,rfl⟩
inductive Bs:List Nat->List Nat->List Nat->Prop
 | plain {c:Nat} {r:List Nat}:[97,98,102,110,114,116,118,10,120,117,85,48,49,50,51,52,53,54,55].contains c=false->Bs (c::r) [c] r
 | nl {b r:List Nat}:(∀c∈b,c=32\/c=9)->(∀c r',r=c::r'->c≠32/\c≠9)->Bs (10::(b++r)) [32] r
 | newline {r:List Nat}:Bs (110::r) [10] r
 | hex {a b:Nat} {r:List Nat}:0<=VC a->VC a<=7->0<=VC b->VC b<=15->Bs (120::a::b::r) [(VC a*16+VC b).toNat] r
theorem Zd(P:Prog g){a b:Nat}{r:List Nat}(hs:tB T n (120::a::b::r))(h1:0<=VC a)(h2:VC a<=7)(h3:0<=VC b)(h4:VC b<=15):
 MA g (d+2) hd 195 [.str T, .int n] J (.at (.ok (.tup [.str [(VC a*16+VC b).toNat], .int ((n+3:Nat):Int)])) J):=
 P.f195.run rfl rfl fun K e f=>f _ (gA hs) false rfl _ (gA hs) false rfl fun Pw hP h0=>
   e (hP _ _ _ (hP _ _ _ (hP _ _ _ h0 true (decide_eq_true (by lia)) true (QE hs.next) true rfl _ (gA hs.next) _ (wK P) false (decide_eq_false (by lia)) false (decide_eq_false (by lia)) _ rfl)
     true (decide_eq_true (by lia)) true (QE hs.next.next) true (decide_eq_true (by lia)) _ (gA hs.next.next) _ (wK P) false (decide_eq_false (by lia)) false (decide_eq_false (by lia)) _ (if_pos ⟨by lia,by lia⟩))
     false (decide_eq_false (by lia)) false (decide_eq_false (by lia)) _ _ (fun h=>⟨by lia,by lia,h⟩)) .same ⟨by rw[show(0*16+VC a)*16+VC b=VC a*16+VC b by lia];rfl,rfl⟩
theorem DK(P:Prog g){s v r:List Nat}(hs:tB T n (92::s))(hb:Bs s v r):∃m,tB T m r/\∀{J},MA g (d+3) hd 209 [.str T, .int n] J (.at (.ok (.tup [.str v, .int (m:Nat)])) J):=by
 cases hb with
 | @plain c r hc=>
   refine⟨_,hs.next.next,fun {J}=>P.f209.run rfl rfl fun K e f=>?_⟩
   exact e (f _ (oG hs) false rfl (.int (-1)) _ (fun h=>wO (by rw[wQ fun x m=>(FI hc (lU rfl x m)).symm];exact h)) false rfl false (oD (FI hc rfl)) _ rfl false (BW (l:=[120,117,85]) hc rfl) _ rfl false (BW (l:=[48,49,50,51,52,53,54,55]) hc rfl)) .same ⟨rfl,rfl⟩
 | @nl b r h1 h2=>
   have hs2:=hs.next.next
   refine⟨_,hs2.app,fun {J}=>P.f209.run rfl rfl fun K e f=>f _ (oG hs) false rfl _ _ wO false rfl true rfl fun Pw hP h0=>?_⟩
   have go:∀(b:List Nat) (m:Nat),tB T m (b++r)->(∀c∈b,c=32\/c=9)->Pw 0 [some (.str T),some (.int (n:Nat)),some (.str [10]),some (.int (-1)),some (.int (m:Nat))] J->False:=by
    intro b
    induction b with
    | nil=>
      intro m h _ p
      refine e (hP _ _ _ p _ (lB (j:=1) h) _ rfl false ?_) .same ⟨by rw[h.uniq hs2.app],rfl⟩
      induction r using List.casesOn with
      | nil=>rfl
      | cons c r=>have:=h2 c r rfl;simp[this.1,this.2]
    | cons c b ih=>
      intro m h hb p
      exact ih (m+1) h.next (fun x hx=>hb x (.tail _ hx)) (hP _ _ _ p _ (lB (j:=1) h) _ rfl true (by rcases hb c (.head _)with rfl | rfl <;>rfl))
   exact go b (n+2) hs2 h1 h0
 | newline=>exact⟨_,hs.next.next,fun {J}=>P.f209.run rfl rfl fun K e f=>e (f _ (oG hs) false rfl _ _ wO true rfl _ rfl) .same ⟨rfl,rfl⟩⟩
 | hex h1 h2 h3 h4=>exact⟨_,hs.next.next.next.next,fun {J}=>P.f209.run rfl rfl fun K e f=>e (f _ (oG hs) false rfl _ _ wO false rfl false rfl _ rfl true rfl _ (Zd P hs.next h1 h2 h3 h4)) .same ⟨rfl,rfl⟩⟩
end
section
variable{g:G}{d:Nat}{hd:Option Nat}{J:List O}{T s:List Nat}{n:Nat}
mutual
theorem ML{n m:Nat}(h:n<=m):∀{v:V},below n v=true->below m v=true
 | .none,_=>rfl
 | .bool _,_=>rfl
 | .int _,_=>rfl
 | .str _,_=>rfl
 | .tup vs,b=>LN h (vs:=vs) b
 | .loc l,b=>by
   have b:Nat.blt l n=true:=b
   show Nat.blt l m=true
   rw[Nat.blt_eq]at b ⊢;exact Nat.lt_of_lt_of_le b h
 | .val _,_=>rfl
 | .script,_=>rfl
theorem LN{n m:Nat}(h:n<=m):∀{vs:List V},fB n vs=true->fB m vs=true
 | [],_=>rfl
 | v::vs,b=>by
   have b:=Bool.and_eq_true_iff.mp (show(below n v&&fB n vs)=true from b)
   exact Bool.and_eq_true_iff.mpr ⟨ML h b.1,LN h b.2⟩
end
theorem sA{n:Nat}{ws:List V}(h:fB n ws=true):∀{vs:List V},fB n vs=true->fB n (vs++ws)=true
 | [],_=>h
 | v::vs,b=>by
   have b:=Bool.and_eq_true_iff.mp (show(below n v&&fB n vs)=true from b)
   exact Bool.and_eq_true_iff.mpr ⟨b.1,sA h b.2⟩
theorem Fin.drop{v:V}{j:List O}(h:below 0 v=true):Fin J (.ok v) (J++j) (.ok v) J:= .ok (ML (Nat.zero_le _) h)
theorem Fin.err{j:List O}{why:List Nat}{ec:V}(h:below 0 ec=true):Fin J (.exn (J++j).length) (J++j++vC (J++j).length why ec) (.exn J.length) (J++vC J.length why ec):=by
 have h1:J.length<=(J++j).length:=by rw[List.length_append];exact Nat.le_add_right _ _
 rw[List.append_assoc]
 exact .exn (z:=WH why ec) (dl:=(J++j).length+1) (xl:=(J++j).length+2) h1 (by exact BB h1) (by exact BB h1) (by rw[<-List.append_assoc];exact AA ..) (by rw[<-List.append_assoc];exact nB (J++j) _ 1) (by rw[<-List.append_assoc];exact nB (J++j) _ 2) (ML (Nat.zero_le _) h)
set_option genCtorIdx true in
inductive kF where
 | ok (v:V) (rest:List Nat)
 | err (why:List Nat)
noncomputable def kF.at(T:List Nat)(m:Nat):kF->Prop
 | .ok v r=>tB T m r/\below 0 v=true
 | .err _=>True
noncomputable def kF.sp(J:List O)(m:Nat):kF->Sp
 | .ok v _=> .at (.ok (.tup [v, .int (m:Int)])) J
 | .err w=> .at (.exn J.length) (J++vC J.length w ND)
noncomputable def qO(st:List Nat):V:= .tup (st.map fun c=> .str [c])
inductive OX(g:G)(T:List Nat)(d:Nat)(a:Addr)(vs:List V)(o:kF):Prop
 | mk (m:Nat) (h:o.at T m) (c:∀{J:List O},MA g d none a vs J (o.sp J m))
noncomputable def JT(g:G)(T:List Nat)(d:Nat)(s:List Nat)(o:kF):Prop:=∀n:Nat,tB T n (36::s)->OX g T d 251 [.str T, .int (n:Int)] o
noncomputable def MX(g:G)(T:List Nat)(d:Nat)(s:List Nat)(o:kF):Prop:=∀n:Nat,tB T n (91::s)->OX g T d 258 [.str T, .int (n:Int)] o
noncomputable def JI(g:G)(T:List Nat)(d:Nat)(st:List Nat)(s:List Nat)(o:kF):Prop:=∀n:Nat,tB T n s->OX g T d 272 [.str T, .int (n:Int),qO st] o
noncomputable def iC(g:G)(T:List Nat)(d:Nat)(b:Bool)(s:List Nat)(o:kF):Prop:=∀n:Nat,tB T n s->OX g T d 293 [.str T, .int (n:Int), .bool b] o
set_option genCtorIdx true in
inductive ZF where
 | none
 | ok (ws:List V) (b e z:List Nat)
 | err (why:List Nat)
noncomputable def ZF.at(T:List Nat)(x y w:Nat):ZF->Prop
 | .ok ws b e z=>tB T x b/\tB T y e/\tB T w z/\fB 0 ws=true
 | _=>True
noncomputable def ZF.sp(J:List O)(x y w:Nat):ZF->Sp
 | .none=> .at (.ok .none) J
 | .ok ws _ _ _=> .at (.ok (.tup [.tup ws, .int (x:Int), .int (y:Int), .int (w:Int)])) J
 | .err w=> .at (.exn J.length) (J++vC J.length w ND)
inductive Jc(g:G)(T:List Nat)(d:Nat)(vs:List V)(o:ZF):Prop
 | mk (x y w:Nat) (h:o.at T x y w) (c:∀{J:List O},MA g d none 301 vs J (o.sp J x y w))
noncomputable def eE(g:G)(T:List Nat)(d:Nat)(b:Bool)(s:List Nat)(o:ZF):Prop:=∀(n:Nat) (vs:List V),(vs=[.str T, .int (n:Int), .bool b]\/(b=false/\vs=[.str T, .int (n:Int)]))->tB T n s->Jc g T d vs o
noncomputable abbrev tx(s:List Nat):V:= .tup [.str [116,101,120,116], .str s]
noncomputable abbrev vr(nm:List Nat)(ix:V):V:= .tup [.str [118,97,114], .str nm,ix]
noncomputable abbrev cm(s:List Nat):V:= .tup [.str [99,109,100], .str s]
theorem yW{nm:List Nat}{ix:V}(h:below 0 ix=true):below 0 (vr nm ix)=true:=by show(true&&(true&&(below 0 ix&&true)))=true;rw[h];rfl
theorem mT{a:List Nat}{c:Nat}(h:tB T n a)(ha:∀x∈a,x≠c):OF T c n= -1:=by
 unfold OF
 rw[h.eq,List.findIdx?_eq_none_iff.mpr (fun x hx=>by simpa using ha x hx)]
theorem EG{c:Nat}(h:∀r',s≠c::r'):decide (s.take 1=[c])=false:=decide_eq_false fun q=>by
 induction s using List.casesOn with
 | nil=>cases q
 | cons x r=>cases q;exact h r rfl
theorem FN(P:Prog g){r:List Nat}(hn:∀c∈r,c≠125):JT g T (d+4) (123::r) (.err [109,105,115,115,105,110,103,32,99,108,111,115,101,45,98,114,97,99,101,32,102,111,114,32,118,97,114,105,97,98,108,101,32,110,97,109,101]):=
 fun n hs=>⟨0,trivial,fun {J}=>P.f251.run rfl rfl fun K e f=>e (f _ (JE hs.next) true rfl (.int (-1)) _ (fun h=>oY hs.next.le (by rw[mT hs.next (by simpa using hn)];exact h))
  true rfl _ (DD P) _ _ (AA ..) (.inl rfl)) .same ⟨rfl,rfl⟩⟩
theorem AL{nm r:List Nat}{c:Nat}(h0:nm≠[])(hn:∀c∈nm,fF c=true)(h:fF c=false):decide ((nm++r).take 1=[c])=false:=EG fun r' q=>by
 induction nm using List.casesOn with
 | nil=>exact h0 rfl
 | cons x nm=>cases q;rw[hn _ (.head _)]at h;cases h
theorem xW(P:Prog g){nm r:List Nat}(h0:nm≠[])(hn:∀c∈nm,fF c=true)(hr:nI r)(hp:∀r',r≠40::r'):JT g T (d+4) (nm++r) (.ok (vr nm .none) r):=
 fun n hs=>⟨_,⟨hs.next.app,rfl⟩,fun {J}=>P.f251.run rfl rfl fun K e f=>e (f _ (lB (j:=1) hs.next) false (AL h0 hn rfl) _ (WK P hs.next hn hr) _ (lB (j:=1) hs.next.app) false (EG hp)
  false (decide_eq_false fun q=>by have h:=List.length_pos_iff.mpr h0;have q:((n+1+nm.length:Nat):Int)=(n:Int)+1:=q;lia) _ (gI hs.next hs.next.app)) .same ⟨rfl,rfl⟩⟩
theorem iY(P:Prog g){nm r:List Nat}{o:kF}(hn:∀c∈nm,fF c=true)(h1:nm≠[])(hx:JI g T (d+3) [41] r o):
 JT g T (d+4) (nm++40::r) (match o with | .err w=> .err w | .ok v []=> .err [109,105,115,115,105,110,103,32,41] | .ok v (_::r')=> .ok (vr nm v) r'):=by
 intro n hs
 have hs2:=hs.next.app
 obtain⟨m,hm,c⟩:=hx _ hs2.next
 have hrn:∀{J},MA g (d+3) none 244 [.str T, .int ((n+1:Nat):Int)] J (.at (.ok (.int ((n+1+nm.length:Nat):Int))) J):=fun {J}=>WK P hs.next hn fun c r' q=>by cases q;exact⟨rfl,by decide⟩
 induction o using kF.casesOn with
 | err w=>exact⟨0,trivial,fun {J}=>P.f251.run rfl rfl fun K e f=>e (f _ (lB (j:=1) hs.next) false (AL h1 hn rfl) _ hrn _ (JE hs2) true rfl _ c) .same ⟨rfl,rfl⟩⟩
 | ok v rest=>induction rest using List.casesOn with
   | nil=>exact⟨0,trivial,fun {J}=>P.f251.run rfl rfl fun K e f=>e (f _ (lB (j:=1) hs.next) false (AL h1 hn rfl) _ hrn _ (JE hs2) true rfl _ c true (RO hm.1) _ (DD P) _ _ (AA ..) (.inl rfl)) .same ⟨rfl,rfl⟩⟩
   | cons x r'=>exact⟨m+1,⟨hm.1.next,yW hm.2⟩,fun {J}=>P.f251.run rfl rfl fun K e f=>e (f _ (lB (j:=1) hs.next) false (AL h1 hn rfl) _ hrn _ (JE hs2) true rfl _ c false (RO hm.1) _ (gI hs.next hs2)) .same ⟨rfl,rfl⟩⟩
end
section
variable{g:G}{d:Nat}{hd:Option Nat}{J:List O}{T s:List Nat}{n:Nat}
noncomputable def OL(c:Nat):Bool:=[123,125,92].contains c
class inductive EB:Nat->List Nat->List Nat->Option (List Nat×List Nat)->Prop
 | eof {k:Nat} {acc:List Nat}:EB k [] acc none
 | bs1 {k:Nat} {acc:List Nat}:EB k [92] acc none
 | opn {k:Nat} {r acc:List Nat} {o:Option (List Nat×List Nat)}:EB (k+1) r (acc++[123]) o->EB k (123::r) acc o
 | cls {k:Nat} {r acc:List Nat} {o:Option (List Nat×List Nat)}:0 < k->EB k r (acc++[125]) o->EB (k+1) (125::r) acc o
 | done {r acc:List Nat}:EB 1 (125::r) acc (some (acc,r))
 | nl {k:Nat} {r r' acc:List Nat} {o:Option (List Nat×List Nat)}:Bs (10::r) [32] r'->r'.length<=r.length->EB k r' (acc++[32]) o->EB k (92::10::r) acc o
 | bs {k c:Nat} {r acc:List Nat} {o:Option (List Nat×List Nat)}:c≠10->EB k r (acc++[92,c]) o->EB k (92::c::r) acc o
 | chars {k:Nat} {cs r acc:List Nat} {o:Option (List Nat×List Nat)}:cs≠[]->(∀c∈cs,OL c=false)->(∀c r',r=c::r'->OL c=true)->EB k r (acc++cs) o->EB k (cs++r) acc o
theorem EB.head{k:Nat}{s acc:List Nat}{o:Option (List Nat×List Nat)}(h:EB k s acc o):(∀c r,s=c::r->OL c=true)\/∃cs r,cs≠[]/\s=cs++r/\(∀c∈cs,OL c=false)/\(∀c r',r=c::r'->OL c=true)/\EB k r (acc++cs) o:=by
 have k:∀{c:Nat} {r:List Nat},OL c=true->∀c' r',c::r=c'::r'->OL c'=true:=fun h u0 u0 e=>(List.cons.inj e).1 ▸ h
 induction h with
 | eof=>exact .inl fun u0 u0 q=>nomatch q
 | chars h0 h1 h2 h3 _=>exact .inr ⟨_,_,h0,rfl,h1,h2,h3⟩
 | _=>exact .inl (k rfl)
theorem EB.run{k:Nat}{w r acc:List Nat}{o:Option (List Nat×List Nat)}(hw:∀c∈w,OL c=false)(h:EB k r (acc++w) o):EB k (w++r) acc o:=by
 by_cases h0:w=[]
 ·subst h0;rwa [List.append_nil]at h
 ·rcases h.head with q | ⟨cs,r2,_,e,h1,h2,h3⟩
  ·exact .chars h0 hw q h
  ·subst e
   rw[<-List.append_assoc]
   exact .chars (fun q=>h0 (List.append_eq_nil_iff.mp q).1) (fun c m=>(List.mem_append.mp m).elim (hw c) (h1 c)) h2 (by rw[<-List.append_assoc];exact h3)
theorem Bs.suf{s v r:List Nat}(h:Bs s v r):r <:+ s:=by
 induction h with
 | plain=>exact List.suffix_cons _ _
 | nl=>exact⟨10::_,rfl⟩
 | newline=>exact List.suffix_cons _ _
 | hex=>exact⟨[_,_,_],rfl⟩
theorem EB.suf{k:Nat}{s acc:List Nat}{o:Option (List Nat×List Nat)}(h:EB k s acc o):∀i r,o=some (i,r)->r <:+ s:=by
 induction h with
 | eof=>intro i r q;cases q
 | bs1=>intro i r q;cases q
 | opn _ ih=>exact fun i r q=>(ih i r q).trans (List.suffix_cons _ _)
 | cls _ _ ih=>exact fun i r q=>(ih i r q).trans (List.suffix_cons _ _)
 | done=>intro i r q;cases q;exact List.suffix_cons _ _
 | nl hb _ _ ih=>exact fun i r q=>((ih i r q).trans hb.suf).trans (List.suffix_cons _ _)
 | bs _ _ ih=>exact fun i r q=>(ih i r q).trans ⟨[_,_],rfl⟩
 | chars _ _ _ _ ih=>exact fun i r q=>(ih i r q).trans (List.suffix_append _ _)
noncomputable def wa:Option (List Nat×List Nat)->kF
 | some p=> .ok (.str p.1) p.2
 | none=> .err [109,105,115,115,105,110,103,32,99,108,111,115,101,45,98,114,97,99,101]
theorem be{a:Nat}:((a+1:Nat):Int) - 1=(a:Int):=by lia
theorem vU(P:Prog g){o:Option (List Nat×List Nat)}(hs:tB T n (123::s))(hb:EB 1 s [] o):∃m,(wa o).at T m/\∀{J},MA g (d+4) none 265 [.str T, .int (n:Int)] J ((wa o).sp J m):=by
 obtain⟨m,hm⟩:∃m,(wa o).at T m:=by
  induction o using Option.casesOn with
  | none=>exact⟨0,trivial⟩
  | some p=>obtain⟨m,h⟩:=hs.next.sub (hb.suf _ _ rfl);exact⟨m,h,rfl⟩
 refine⟨m,hm,fun {J}=>P.f265.run rfl rfl fun K e f=>f fun Pw hP h0=>?_⟩
 have big:=hs.big
 have goal:∀(k:Nat) (s acc:List Nat) (o':Option (List Nat×List Nat)),EB k s acc o'->o'=o->0 < k->∀(place begin:Nat) (made w:List Nat) (x7 x8:Option V),tB T begin (w++s)->tB T place s->made++w=acc->acc.length+s.length<=T.length->
  Pw 0 [some (.str T),some (.int (n:Int)),some (.int (T.length:Int)),some (.int (begin:Int)),some (.int (place:Int)),some (.str made),some (.int (k:Int)),x7,x8] J->False:=by
  intro k s acc o' hb
  induction hb with
  | eof=>
    rintro rfl hk place begin made w x7 x8 h1 h2 h3 h4 p
    exact e (hP _ _ _ p false (QE h2) _ (DD P) _ _ (AA ..) (.inl rfl)) .same ⟨rfl,rfl⟩
  | bs1=>
    rintro rfl hk place begin made w x7 x8 h1 h2 h3 h4 p
    have:=h2.len
    simp only[List.length_cons,List.length_nil]at this
    exact e (hP _ _ _ (hP _ _ _ p true (QE h2) _ (gA h2) false rfl _ (gA h2) false rfl _ (lB (j:=2) h2) false rfl _ (gA h2) true rfl) false (decide_eq_false (by lia)) _ (DD P) _ _ (AA ..) (.inl rfl)) .same ⟨rfl,rfl⟩
  | opn hb ih=>
    intro hq hk place begin made w x7 x8 h1 h2 h3 h4 p
    exact ih hq (by exact Nat.succ_pos _) (place+1) begin made (w++[123]) x7 x8 (by simpa using h1) h2.next (by rw[<-h3];simp) (by simp only[List.length_append,List.length_cons,List.length_nil]at*;exact BB h4) (hP _ _ _ p true (QE h2) _ (gA h2) true rfl)
  | @cls k _ _ _ hk hb ih=>
    intro hq hk' place begin made w x7 x8 h1 h2 h3 h4 p
    refine ih hq hk (place+1) begin made (w++[125]) x7 x8 (by simpa using h1) h2.next (by rw[<-h3];simp) (by simp only[List.length_append,List.length_cons,List.length_nil]at*;exact BB h4) ?_
    have p:=hP _ _ _ p true (QE h2) _ (gA h2) false rfl _ (gA h2) true rfl false (decide_eq_false (by lia))
    rw[<-be (a:=k)];exact p
  | @done r acc=>
    rintro rfl hk' place begin made w x7 x8 h1 h2 h3 h4 p
    exact e (hP _ _ _ p true (QE h2) _ (gA h2) false rfl _ (gA h2) true rfl true rfl _ (fun {Q} h=>by rw[show((place:Int)+1 - 1)=place from by lia];exact gI h1 h2 h) _ (qD (by rw[<-h3]at h4;simp only[List.length_append]at h4;exact LB h4 big))) .same ⟨by rw[h3];exact congrArg (fun m:Nat=>bF.ok (.tup [.str acc, .int (m:Int)])) (h2.next.uniq hm.1),rfl⟩
  | nl hbs hl hb ih=>
    intro hq hk place begin made w x7 x8 h1 h2 h3 h4 p
    obtain⟨m,hm,c⟩:=DK (d:=d) (hd:=none) P h2 hbs
    have h4':=h4
    rw[<-h3]at h4'
    simp only[List.length_append,List.length_cons,List.length_nil]at h4'
    exact ih hq hk m m (made++(w++[32])) [] _ _ hm hm (by rw[<-h3];simp) (by simp only[List.length_append,List.length_cons,List.length_nil]at*;exact LB h4 hl)
     (hP _ _ _ p true (QE h2) _ (gA h2) false rfl _ (gA h2) false rfl _ (lB (j:=2) h2) true rfl _ c _ (gI h1 h2) _ (qD (by simp only[List.length_cons,List.length_nil];exact LB h4' big)) _ (qD (by simp only[List.length_append,List.length_cons,List.length_nil];exact LB h4' big)))
  | @bs k c r acc o' hc hb ih=>
    intro hq hk place begin made w x7 x8 h1 h2 h3 h4 p
    exact ih hq hk (place+2) begin made (w++[92,c]) x7 x8 (by simpa using h1) h2.next.next (by rw[<-h3];simp) (by simp only[List.length_append,List.length_cons,List.length_nil]at*;exact BB h4)
     (hP _ _ _ p true (QE h2) _ (gA h2) false rfl _ (gA h2) false rfl _ (lB (j:=2) h2) false (decide_eq_false fun q=>by cases q;exact hc rfl) _ (gA h2) true rfl)
  | @chars k cs r acc o' h0 hcs hr hb ih=>
    intro hq hk place begin made w x7 x8 h1 h2 h3 h4 p
    induction cs using List.casesOn with
    | nil=>exact absurd rfl h0
    | cons c cs=>
      have nc:=hcs c (.head _)
      refine hP _ _ _ p true (QE h2) _ (gA h2) false (oD (FI nc rfl)) _ (gA h2) false (oD (FI nc rfl)) _ (lB (j:=2) h2) false (decide_eq_false fun q=>FI nc (x:=92) rfl (List.cons.inj q).1) _ (gA h2) false (oD (FI nc rfl)) fun Pw2 hP2 p2=>?_
      have go:∀(b a:List Nat) (m:Nat),a++b=c::cs->tB T m (b++r)->Pw2 0 [some (.str T),some (.int (n:Int)),some (.int (T.length:Int)),some (.int (begin:Int)),some (.int (m:Int)),some (.str made),some (.int (k:Int)),x7,x8] J->False:=by
       intro b
       induction b with
       | nil=>
         intro a m ea hm p
         refine ih hq hk m begin made (w++c::cs) x7 x8 (by simpa using h1) hm (by rw[<-h3];simp) (by simp only[List.length_append,List.length_cons]at*;exact BB h4) ?_
         induction r using List.casesOn with
         | nil=>exact hP2 _ _ _ p false (QE hm)
         | cons c3 r=>exact hP2 _ _ _ p true (QE hm) _ (gA hm) false (by have:=hr c3 r rfl;unfold OL at this;rw[this];rfl)
       | cons c2 b ihb=>
         intro a m ea hm p
         exact ihb (a++[c2]) (m+1) (by simpa using ea) hm.next (hP2 _ _ _ p true (QE hm) _ (gA hm) true (by have:=hcs c2 (by rw[<-ea];simp);unfold OL at this;rw[this];rfl))
      exact go (c::cs) [] place rfl h2 p2
 exact goal 1 s [] o hb rfl (by decide) (n+1) (n+1) [] [] none none hs.next hs.next rfl (by have:=hs.len;simp only[List.length_cons,List.length_nil]at*;exact(BB (eR this))) h0
end
section
variable{g:G}{d:Nat}{hd:Option Nat}{J:List O}{T s:List Nat}{n:Nat}
theorem aA:∀st:List Nat,fD (st.map fun c=>V.str [c])=some (st.map fun c=>[c])
 | []=>rfl
 | c::st=>by show(fD (st.map fun c=>V.str [c])).map _=_;rw[aA st];rfl
theorem sC(c:Nat):∀st:List Nat,(st.map fun c=>[c]).contains [c]=st.contains c
 | []=>rfl
 | x::st=>by simp only[List.map_cons,List.contains_cons,sC c st];congr 1;by_cases h:c=x <;>simp[h]
noncomputable def YC(run:List Nat):List V:=if run=[]then[]else[tx run]
noncomputable def rC(st:List Nat)(c:Nat):Bool:=!([36,91,92].contains c||st.contains c)
theorem Bs.len{s v r:List Nat}(h:Bs s v r):v.length+r.length<=s.length:=by
 cases h <;>simp only[List.length_cons,List.length_append,List.length_nil] <;>simp+arith only
class inductive uA(g:G)(T:List Nat)(d:Nat)(st:List Nat):List Nat->List Nat->List V->kF->Prop
 | nil {run:List Nat} {acc:List V}:uA g T d st [] run acc (.ok (.tup (acc++YC run)) [])
 | stop {c:Nat} {r run:List Nat} {acc:List V}:st.contains c=true->uA g T d st (c::r) run acc (.ok (.tup (acc++YC run)) (c::r))
 | brk {r run:List Nat} {acc:List V}:st.contains 92=false->st.contains 32=true->uA g T d st (92::10::r) run acc (.ok (.tup (acc++YC run)) (92::10::r))
 | dtext {r r' t run:List Nat} {acc:List V} {o:kF}:st.contains 36=false->JT g T d r (.ok (tx t) r')->t.length+r'.length<=r.length+1->uA g T d st r' (run++t) acc o->uA g T d st (36::r) run acc o
 | dvar {r r' nm run:List Nat} {ix:V} {acc:List V} {o:kF}:st.contains 36=false->JT g T d r (.ok (vr nm ix) r')->r'.length<=r.length->uA g T d st r' [] (acc++YC run++[vr nm ix]) o->uA g T d st (36::r) run acc o
 | derr {r run w:List Nat} {acc:List V}:st.contains 36=false->JT g T d r (.err w)->uA g T d st (36::r) run acc (.err w)
 | bok {r r' scr run:List Nat} {acc:List V} {o:kF}:st.contains 91=false->MX g T d r (.ok (.str scr) r')->r'.length<=r.length->uA g T d st r' [] (acc++YC run++[cm scr]) o->uA g T d st (91::r) run acc o
 | berr {r run w:List Nat} {acc:List V}:st.contains 91=false->MX g T d r (.err w)->uA g T d st (91::r) run acc (.err w)
 | bs {r r' v run:List Nat} {acc:List V} {o:kF}:st.contains 92=false->(st.contains 32=true->∀r2,r≠10::r2)->Bs r v r'->uA g T d st r' (run++v) acc o->uA g T d st (92::r) run acc o
 | chars {cs r run:List Nat} {acc:List V} {o:kF}:cs≠[]->(∀c∈cs,rC st c=true)->(∀c r',r=c::r'->rC st c=false)->uA g T d st r (run++cs) acc o->uA g T d st (cs++r) run acc o
theorem uA.head{st s run:List Nat}{acc:List V}{o:kF}(h:uA g T d st s run acc o):(∀c r,s=c::r->rC st c=false)\/∃cs r,cs≠[]/\s=cs++r/\(∀c∈cs,rC st c=true)/\(∀c r',r=c::r'->rC st c=false)/\uA g T d st r (run++cs) acc o:=by
 have k:∀{c:Nat} {r:List Nat},rC st c=false->∀c' r',c::r=c'::r'->rC st c'=false:=fun h u0 u0 e=>(List.cons.inj e).1 ▸ h
 induction h with
 | nil=>exact .inl fun u0 u0 q=>nomatch q
 | stop q=>exact .inl (k (by unfold rC;rw[q,Bool.or_true];rfl))
 | chars h0 h1 h2 h3 _=>exact .inr ⟨_,_,h0,rfl,h1,h2,h3⟩
 | _=>exact .inl (k rfl)
theorem uA.run{st w r run:List Nat}{acc:List V}{o:kF}(hw:∀c∈w,rC st c=true)(h:uA g T d st r (run++w) acc o):uA g T d st (w++r) run acc o:=by
 by_cases h0:w=[]
 ·subst h0;rwa [List.append_nil]at h
 ·rcases h.head with q | ⟨cs,r2,_,e,h1,h2,h3⟩
  ·exact .chars h0 hw q h
  ·subst e
   rw[<-List.append_assoc]
   exact .chars (fun q=>h0 (List.append_eq_nil_iff.mp q).1) (fun c m=>(List.mem_append.mp m).elim (hw c) (h1 c)) h2 (by rw[<-List.append_assoc];exact h3)
theorem pF(run:List Nat):(YC run).length<=run.length:=by
 unfold YC;split
 ·simp
 ·induction run using List.casesOn <;>simp_all
theorem rB{J t:List O}{xs:List V}:CB (J++ .list xs::t) J.length=some xs:=XA (AA ..)
theorem qB{J t:List O}{xs:List V}{v:V}{Q:V->List O->Prop}(hn:xs.length<=100000)(h:Q .none (J++ .list (xs++[v])::t)):TB (J++ .list xs::t) J.length xs [97,112,112,101,110,100] [v] Q:=by
 unfold TB;rw[if_pos rfl];exact⟨hn,by rw[VM];exact h⟩
theorem nst{c:Nat}{st:List Nat}{b:Bool}(h:st.contains c=b):(!(st.map fun c=>[c]).contains [c])=!b:=by rw[sC,h]
theorem Md{run:List Nat}(h:run≠[]):(!decide (run=[]))=true:=by rw[decide_eq_false h];rfl
theorem gH{run:List Nat}(h:run≠[]):YC run=[tx run]:=if_neg h
theorem QC:∀{run:List Nat},fB 0 (YC run)=true:=fun {run}=>by unfold YC;split <;>rfl
theorem uA.suf{st s run:List Nat}{acc:List V}{o:kF}(h:uA g T d st s run acc o)(hs:tB T n s)(ha:fB 0 acc=true):∃m,o.at T m:=by
 induction h generalizing n with
 | nil=>exact⟨n,hs,sA QC ha⟩
 | stop _=>exact⟨n,hs,sA QC ha⟩
 | brk _ _=>exact⟨n,hs,sA QC ha⟩
 | dtext _ hv _ _ ih=>obtain⟨m,hm,_⟩:=hv n hs;exact ih hm.1 ha
 | dvar _ hv _ _ ih=>obtain⟨m,hm,_⟩:=hv n hs;exact ih hm.1 (sA (by show(_&&true)=true;rw[hm.2];rfl) (sA QC ha))
 | derr _ _=>exact⟨0,trivial⟩
 | bok _ hv _ _ ih=>obtain⟨m,hm,_⟩:=hv n hs;exact ih hm.1 (sA rfl (sA QC ha))
 | berr _ _=>exact⟨0,trivial⟩
 | bs _ _ hb _ ih=>obtain⟨m,hm⟩:=hs.next.sub hb.suf;exact ih hm ha
 | chars _ _ _ _ ih=>exact ih hs.app ha
theorem SJ(P:Prog g){st:List Nat}{o:kF}(hp:uA g T (d+4) st s [] [] o):JI g T (d+5) st s o:=by
 intro n hs
 obtain⟨m,hm⟩:=hp.suf hs rfl
 refine⟨m,hm,fun {J}=>P.f272.run rfl rfl fun K e f=>f fun Pw hP h0=>?_⟩
 have big:=hs.big
 have fin:∀{acc w m' r},kF.ok (.tup (acc++w)) r=o->tB T m' r->fB 0 w=true->fB 0 acc=true->∀{j},K (.ok (.tup [.tup (acc++w), .int ((m':Nat):Int)])) (J++j)->False:=by
  intro acc w m' r eo h hw ha j k
  subst eo
  exact e k (.drop (by show(fB 0 (acc++w)&&true)=true;rw[sA hw ha];rfl)) ⟨congrArg (fun m:Nat=>bF.ok (.tup [.tup (acc++w), .int (m:Int)])) (h.uniq hm.1),rfl⟩
 have er:∀{w m' j},kF.err w=o->K (.exn (J++j).length) (J++j++vC (J++j).length w ND)->m'=m->False:=by
  intro w m' j eo k _
  subst eo
  exact e k (.err rfl) ⟨rfl,rfl⟩
 have goal:∀(s run:List Nat) (acc:List V) (o':kF),uA g T (d+4) st s run acc o'->o'=o->∀(m:Nat) (x6 x7 x8 x9:Option V),tB T m s->acc.length+run.length+s.length<=T.length->fB 0 acc=true->
  Pw 0 [some (.str T),some (.int (m:Int)),some (qO st),some (.loc J.length),some (.str run),some (.int (T.length:Int)),x6,x7,x8,x9] (J++[.list acc])->False:=by
  intro s run acc o' hp
  induction hp with
  | @nil run acc=>
    intro eo m' x6 x7 x8 x9 h hl ha p
    simp only[List.length_nil]at hl
    by_cases hr:run=[]
    ·subst hr
     exact fin eo h rfl ha (by show K (.ok (.tup [.tup (acc++[]),_])) _;rw[List.append_nil];exact hP _ _ _ p false (QE h) false rfl _ _ (LE (AA ..) (by exact LB hl big)))
    ·have hf:=gH hr
     exact fin (by rw[<-hf];exact eo) h rfl ha (hP _ _ _ p false (QE h) true (Md hr) _ (AA ..) _ rB _ _ (qB (by exact LB hl big)) _ _ (LE (AA ..) (by rw[<-hf,List.length_append];have:=pF run;exact(fJ this hl big))))
  | @stop c r run acc hc=>
    intro eo m' x6 x7 x8 x9 h hl ha p
    simp only[List.length_cons]at hl
    by_cases hr:run=[]
    ·subst hr
     exact fin eo h rfl ha (by show K (.ok (.tup [.tup (acc++[]),_])) _;rw[List.append_nil];exact hP _ _ _ p true (QE h) _ (gA h) _ (aA st) false (nst hc) false rfl _ _ (LE (AA ..) (by exact LB hl big)))
    ·have hf:=gH hr
     exact fin (by rw[<-hf];exact eo) h rfl ha (hP _ _ _ p true (QE h) _ (gA h) _ (aA st) false (nst hc) true (Md hr) _ (AA ..) _ rB _ _ (qB (by exact LB hl big)) _ _ (LE (AA ..) (by rw[<-hf,List.length_append];have:=pF run;exact(fJ this hl big))))
  | @brk r run acc h1 h2=>
    intro eo m' x6 x7 x8 x9 h hl ha p
    simp only[List.length_cons]at hl
    have h32:(st.map fun c=>[c]).contains [32]=true:=by rw[sC,h2]
    by_cases hr:run=[]
    ·subst hr
     exact fin eo h rfl ha (by show K (.ok (.tup [.tup (acc++[]),_])) _;rw[List.append_nil];exact hP _ _ _ p true (QE h) _ (gA h) _ (aA st) true (nst h1) _ (gA h) false rfl _ (gA h) false rfl _ (gA h) true rfl _ (aA st) true h32 _ (oG h) true rfl false rfl _ _ (LE (AA ..) (by exact LB hl big)))
    ·have hf:=gH hr
     exact fin (by rw[<-hf];exact eo) h rfl ha (hP _ _ _ p true (QE h) _ (gA h) _ (aA st) true (nst h1) _ (gA h) false rfl _ (gA h) false rfl _ (gA h) true rfl _ (aA st) true h32 _ (oG h) true rfl true (Md hr) _ (AA ..) _ rB _ _ (qB (by exact LB hl big)) _ _ (LE (AA ..) (by rw[<-hf,List.length_append];have:=pF run;exact(fJ this hl big))))
  | @dtext r r' t run acc o' h1 hv hl' hp ih=>
    intro eo m' x6 x7 x8 x9 h hl ha p
    simp only[List.length_cons]at hl
    obtain⟨m1,hm1,c⟩:=hv _ h
    exact ih eo _ _ _ _ _ hm1.1 (by simp only[List.length_append];exact LB hl hl') ha (hP _ _ _ p true (QE h) _ (gA h) _ (aA st) true (nst h1) _ (gA h) true rfl _ c _ rfl true rfl _ rfl _ (qD (by exact fJ hl hl' big)))
  | @dvar r r' nm run ix acc o' h1 hv hl' hp ih=>
    intro eo m' x6 x7 x8 x9 h hl ha p
    simp only[List.length_cons]at hl
    obtain⟨m1,hm1,c⟩:=hv _ h
    have hb:fB 0 [vr nm ix]=true:=by show(_&&true)=true;rw[hm1.2];rfl
    have hfl:=pF run
    refine ih eo _ (some (vr nm ix)) x7 x8 x9 hm1.1 (by simp only[List.length_append,List.length_cons,List.length_nil];exact fJ hfl hl hl') (sA hb (sA QC ha)) ?_
    by_cases hr:run=[]
    ·subst hr
     rw[show YC []=[]from rfl,List.append_nil]
     exact hP _ _ _ p true (QE h) _ (gA h) _ (aA st) true (nst h1) _ (gA h) true rfl _ c _ rfl false rfl false rfl _ (AA ..) _ rB _ _ (qB (by exact LB hl big))
    ·rw[gH hr]at hfl ⊢
     exact hP _ _ _ p true (QE h) _ (gA h) _ (aA st) true (nst h1) _ (gA h) true rfl _ c _ rfl false rfl true (Md hr) _ (AA ..) _ rB _ _ (qB (by exact LB hl big)) _ (AA ..) _ rB _ _ (qB (by simp only[List.length_append,List.length_cons,List.length_nil]at*;exact LB hl big))
  | @derr r run w acc h1 hv=>
    intro eo m' x6 x7 x8 x9 h hl ha p
    obtain⟨m1,hm1,c⟩:=hv _ h
    exact er eo (hP _ _ _ p true (QE h) _ (gA h) _ (aA st) true (nst h1) _ (gA h) true rfl _ c) rfl
  | @bok r r' scr run acc o' h1 hv hl' hp ih=>
    intro eo m' x6 x7 x8 x9 h hl ha p
    simp only[List.length_cons]at hl
    obtain⟨m1,hm1,c⟩:=hv _ h
    have hfl:=pF run
    refine ih eo _ (some (cm scr)) (some (.str scr)) x8 x9 hm1.1 (by simp only[List.length_append,List.length_cons,List.length_nil];exact fJ hfl hl hl') (sA rfl (sA QC ha)) ?_
    by_cases hr:run=[]
    ·subst hr
     rw[show YC []=[]from rfl,List.append_nil]
     exact hP _ _ _ p true (QE h) _ (gA h) _ (aA st) true (nst h1) _ (gA h) false rfl _ (gA h) true rfl _ c _ rfl false rfl false rfl _ (AA ..) _ rB _ _ (qB (by exact LB hl big))
    ·rw[gH hr]at hfl ⊢
     exact hP _ _ _ p true (QE h) _ (gA h) _ (aA st) true (nst h1) _ (gA h) false rfl _ (gA h) true rfl _ c _ rfl false rfl true (Md hr) _ (AA ..) _ rB _ _ (qB (by exact LB hl big)) _ (AA ..) _ rB _ _ (qB (by simp only[List.length_append,List.length_cons,List.length_nil]at*;exact LB hl big))
  | @berr r run w acc h1 hv=>
    intro eo m' x6 x7 x8 x9 h hl ha p
    obtain⟨m1,hm1,c⟩:=hv _ h
    exact er eo (hP _ _ _ p true (QE h) _ (gA h) _ (aA st) true (nst h1) _ (gA h) false rfl _ (gA h) true rfl _ c) rfl
  | @bs r r' v run acc o' h1 h2 hb hp ih=>
    intro eo m' x6 x7 x8 x9 h hl ha p
    simp only[List.length_cons]at hl
    have hlb:=hb.len
    obtain⟨m1,hm1,c⟩:=DK (d:=d+1) (hd:=none) P h hb
    refine ih eo _ (some (tx v)) x7 x8 (some (.str v)) hm1 (by simp only[List.length_append];exact LB hlb hl) ha ?_
    induction h32:st.contains 32 using Bool.casesOn with
    | true=>
      obtain⟨c2,r2,rfl⟩:∃c2 r2,r=c2::r2:=by cases hb <;>exact⟨_,_,rfl⟩
      exact hP _ _ _ p true (QE h) _ (gA h) _ (aA st) true (nst h1) _ (gA h) false rfl _ (gA h) false rfl _ (gA h) true rfl _ (aA st) true ((sC 32 st).trans h32) _ (oG h) false (oD fun q=>h2 h32 r2 (by rw[q])) _ c _ rfl true rfl _ rfl _ (qD (by exact fJ hlb hl big))
    | false=>exact hP _ _ _ p true (QE h) _ (gA h) _ (aA st) true (nst h1) _ (gA h) false rfl _ (gA h) false rfl _ (gA h) true rfl _ (aA st) false ((sC 32 st).trans h32) _ c _ rfl true rfl _ rfl _ (qD (by exact fJ hlb hl big))
  | @chars cs r run acc o' h0 hcs hr hp ih=>
    intro eo m' x6 x7 x8 x9 h hl ha p
    induction cs using List.casesOn with
    | nil=>exact absurd rfl h0
    | cons c cs=>
      have pl:∀{c},rC st c=true->[36,91,92].contains c=false/\st.contains c=false:=fun h=>by unfold rC at h;simp only[Bool.not_eq_true',Bool.or_eq_false_iff]at h;exact h
      obtain⟨hc,hst⟩:=pl (hcs c (.head _))
      simp only[List.length_append]at hl
      refine hP _ _ _ p true (QE h) _ (gA h) _ (aA st) true (nst hst) _ (gA h) false (oD (FI hc rfl)) _ (gA h) false (oD (FI hc rfl)) _ (gA h) false (oD (FI hc rfl)) fun Pw2 hP2 p2=>?_
      have go:∀(b a:List Nat) (m2:Nat),a++b=c::cs->tB T m2 (b++r)->Pw2 0 [some (.str T),some (.int (m2:Int)),some (qO st),some (.loc J.length),some (.str run),some (.int (T.length:Int)),x6,x7,some (.int (m':Int)),x9] (J++[.list acc])->False:=by
       intro b
       induction b with
       | nil=>
         intro a m2 ea h2 p
         refine ih eo _ (some (tx (c::cs))) x7 (some (.int (m':Int))) x9 h2 (by simp only[List.length_append];exact BB hl) ha ?_
         have cl:run.length+(c::cs).length<=10000000:=by exact LB hl big
         induction r using List.casesOn with
         | nil=>exact hP2 _ _ _ p false (QE h2) _ (gI h h2) _ rfl true rfl _ rfl _ (qD cl)
         | cons c3 r=>
           have hc3:=hr c3 r rfl
           simp only[rC,Bool.not_eq_false',Bool.or_eq_true]at hc3
           induction hsp:[36,91,92].contains c3 using Bool.casesOn with
           | true=>exact hP2 _ _ _ p true (QE h2) _ (gA h2) false (by rw[hsp];rfl) _ (gI h h2) _ rfl true rfl _ rfl _ (qD cl)
           | false=>exact hP2 _ _ _ p true (QE h2) _ (gA h2) true (by rw[hsp];rfl) _ (gA h2) _ (aA st) false (nst (hc3.resolve_left (by rw[hsp];decide))) _ (gI h h2) _ rfl true rfl _ rfl _ (qD cl)
       | cons c2 b ihb=>
         intro a m2 ea h2 p
         obtain⟨u1,u2⟩:=pl (hcs c2 (by rw[<-ea];simp))
         exact ihb (a++[c2]) (m2+1) (by simpa using ea) h2.next (hP2 _ _ _ p true (QE h2) _ (gA h2) true (by rw[u1];rfl) _ (gA h2) _ (aA st) true (nst u2))
      exact go (c::cs) [] m' rfl h p2
 exact goal s [] [] o hp rfl n none none none none hs (by have:=hs.len;simp only[List.length_nil];exact(BB (eR this))) rfl h0
end
section
variable{g:G}{d:Nat}{hd:Option Nat}{J:List O}{T s:List Nat}{n:Nat}
noncomputable def mB(b:Bool):List Nat:=if b then[32,9,11,12,13,10,59,93]else[32,9,11,12,13,10,59]
theorem sI(P:Prog g){b:Bool}:MA g (d+1) hd 279 [.bool b] J (.at (.ok (qO (mB b))) J):=
 P.f279.run rfl rfl fun K e f=>by
   cases b
   ·exact e (f false rfl) .same ⟨rfl,rfl⟩
   ·exact e (f true rfl) .same ⟨rfl,rfl⟩
noncomputable def wE(s:List Nat):Bool:=decide (s.take 3=[123,42,125])&&!([[],[10],[59]].contains ((s.drop 3).take 1))&&decide (IA (s.drop 3)=s.drop 3)
theorem wC:∀s:List Nat,(IA s).length<=s.length
 | []=>Nat.le_refl _
 | [c]=>by simp only[IA.r1,IA.r2,IA.r3];split <;>simp
 | c::c2::r=>by
   simp only[IA.r1,IA.r2,IA.r3]
   split
   ·have:=wC (c2::r);simp only[List.length_cons]at*;exact(BB this)
   ·split
    ·have:=wC r;simp only[List.length_cons]at*;exact(BB this)
    ·exact Nat.le_refl _
theorem Sb{a b:List Nat}(h:a <:+ b)(e:b.length<=a.length):a=b:=by
 obtain⟨w,rfl⟩:=h
 rw[List.length_append]at e
 have:w=[]:=List.length_eq_zero_iff.mp (by lia)
 subst this;rfl
theorem tB.same{t:List Nat}{m:Nat}(h:tB T n s)(k:tB T m t)(hs:t <:+ s):decide ((m:Int)=(n:Int))=decide (t=s):=by
 congr 1
 refine propext ⟨fun q=>Sb hs ?_,fun q=>?_⟩
 ·have:=h.len;have:=k.len;lia
 ·subst q;rw[k.uniq h]
theorem DI(P:Prog g)(hs:tB T n s):MA g (d+3) hd 286 [.str T, .int (n:Int)] J (.at (.ok (.bool (wE s))) J):=
 P.f286.run rfl rfl fun K e f=>by
   unfold wE at e
   by_cases h1:s.take 3=[123,42,125]
   ·have hl:3<=s.length:=by have:=congrArg List.length h1;rw[List.length_take]at this;simp only[List.length_cons,List.length_nil]at this;lia
    have hs3:=hs.skip hl
    rw[decide_eq_true h1,Bool.true_and]at e
    induction h2:[[],[10],[59]].contains ((s.drop 3).take 1)using Bool.casesOn with
    | true=>exact e (f _ (lB (j:=3) hs) false (by rw[decide_eq_true h1];rfl) _ (lB (j:=1) hs3) _ rfl true h2) .same ⟨by rw[h2];rfl,rfl⟩
    | false=>
      obtain⟨m,hm,c⟩:=BC (d:=d) (hd:=hd) P hs3
      exact e (f _ (lB (j:=3) hs) false (by rw[decide_eq_true h1];rfl) _ (lB (j:=1) hs3) _ rfl false h2 _ c) .same ⟨by rw[h2, <-hs3.same hm (RB _)];rfl,rfl⟩
   ·exact e (f _ (lB (j:=3) hs) true (by rw[decide_eq_false h1];rfl)) .same ⟨by rw[decide_eq_false h1];rfl,rfl⟩
theorem NG:∀s:List Nat,(SA s).length<=s.length
 | []=>Nat.le_refl _
 | [c]=>by simp[SA.r1,SA.r2,SA.r3]
 | c::c2::r=>by
   have e1:=NG (c2::r)
   have e2:=NG r
   simp only[SA.r1,SA.r2,SA.r3]
   split
   ·simp only[List.length_cons]at*;exact(BB e2)
   ·split
    ·simp
    ·simp only[List.length_cons]at*;exact(BB e1)
theorem UB.len{s t:List Nat}(h:UB s t):t.length<=s.length:=by
 induction h with
 | @stop s t e _=>rw[<-e];exact wC s
 | @sep s t r c e _ _ ih=>have:=wC s;rw[e]at this;simp only[List.length_cons]at this;exact(LB this ih)
 | @com s t r e _ ih=>have:=wC s;rw[e]at this;have:=NG (35::r);lia
class inductive kI(g:G)(T:List Nat)(d:Nat):List Nat->kF->Prop
 | done {r:List Nat}:kI g T d (93::r) (.ok .none r)
 | eof:kI g T d [] (.err [109,105,115,115,105,110,103,32,99,108,111,115,101,45,98,114,97,99,107,101,116])
 | step {c:Nat} {r b e z t:List Nat} {ws:List V} {o:kF}:c≠93->eE g T d true (c::r) (.ok ws b e z)->z.length<=(c::r).length->UB z t->kI g T d t o->kI g T d (c::r) o
 | err {c:Nat} {r w:List Nat}:c≠93->eE g T d true (c::r) (.err w)->kI g T d (c::r) (.err w)
theorem kI.suf{t:List Nat}{o:kF}(h:kI g T d t o){n:Nat}(hs:tB T n t):∀v r,o= .ok v r->∃m,tB T m r:=by
 induction h generalizing n with
 | done=>intro v r q;cases q;exact⟨_,hs.next⟩
 | eof=>intro v r q;cases q
 | step _ hc _ hk _ ih=>
   obtain⟨x,y,w,⟨_,_,hw,_⟩,_⟩:=hc n _ (.inl rfl) hs
   obtain⟨m,hm⟩:=hw.sub hk.suf
   exact ih hm
 | err=>intro v r q;cases q
noncomputable def Da(s:List Nat):kF->kF
 | .err w=> .err w
 | .ok _ r=> .ok (.str (s.take (s.length - (r.length+1)))) r
theorem LI(P:Prog g){s t:List Nat}{o:kF}(hk:UB s t)(hb:kI g T (d+4) t o):MX g T (d+5) s (Da s o):=by
 intro n hs
 obtain⟨m1,h1,c1⟩:=DC (d:=d+1) (hd:=none) P hs.next hk
 obtain⟨m,hm⟩:∃m,(Da s o).at T m:=by
  induction o using kF.casesOn with
  | err w=>exact⟨0,trivial⟩
  | ok v r=>obtain⟨m,h⟩:=hb.suf h1 v r rfl;exact⟨m,h,rfl⟩
 refine⟨m,hm,fun {J}=>P.f258.run rfl rfl fun K e f=>f _ c1 fun Pw hP h0=>?_⟩
 have goal:∀(t:List Nat) (o':kF),kI g T (d+4) t o'->o'=o->∀(m:Nat) (x4:Option V),tB T m t->n+1<=m->
  Pw 0 [some (.str T),some (.int (n:Int)),some (.int ((n+1:Nat):Int)),some (.int (m:Int)),x4] J->False:=by
  intro t o' hb
  induction hb with
  | @done r=>
    rintro rfl m' x4 h hl p
    refine e (hP _ _ _ p true (QE h) _ (gA h) false rfl false (RO h) _ AO) .same ⟨?_,rfl⟩
    have e1:=h.len;have e2:=hs.next.len
    rw[hs.next.eq,show m' - (n+1)=s.length - (r.length+1) by exact ce e2 e1]
    exact congrArg (fun m:Nat=>bF.ok (.tup [.str _, .int (m:Int)])) (h.next.uniq hm.1)
  | eof=>
    rintro rfl m' x4 h hl p
    exact e (hP _ _ _ p false (QE h) true (RO h) _ (DD P) _ _ (AA ..) (.inl rfl)) .same ⟨rfl,rfl⟩
  | @step c r b e z t ws o' hc hcmd hz hk hb ih=>
    rintro hq m' x4 h hl p
    obtain⟨x,y,w,⟨_,_,hw,_⟩,c1⟩:=hcmd _ _ (.inl rfl) h
    obtain⟨m2,h2,c2⟩:=DC (d:=d+1) (hd:=none) P hw hk
    exact ih hq m2 _ h2 (by have e1:=h.len;have e2:=h2.len;have e3:=hk.len;lia) (hP _ _ _ p true (QE h) _ (gA h) true (by rw[oD hc];rfl) _ c1 _ rfl _ c2)
  | @err c r w hc hcmd=>
    rintro rfl m' x4 h hl p
    obtain⟨x,y,w,_,c1⟩:=hcmd _ _ (.inl rfl) h
    exact e (hP _ _ _ p true (QE h) _ (gA h) true (by rw[oD hc];rfl) _ c1) .same ⟨rfl,rfl⟩
 exact goal t o hb rfl m1 none h1 (by have e1:=h1.len;have e2:=hs.next.len;have e3:=hk.len;exact(fJ e3 (eR e2) (eL e1))) h0
noncomputable def eH(s:List Nat):List Nat:=if wE s then s.drop 3 else s
theorem VN(h:wE s=true):3<=s.length:=by
 unfold wE at h
 simp only[Bool.and_eq_true,decide_eq_true_eq]at h
 have:=congrArg List.length h.1.1
 rw[List.length_take]at this;simp only[List.length_cons,List.length_nil]at this;lia
theorem XF(P:Prog g){b:Bool}{K:bF->List O->Prop}(hs:tB T n s)(f:dF g (d+5) none yK [.str T, .int (n:Int), .bool b] J K){m:Nat}(hm:tB T m (eH s)):
 dB g (d+5) none yK.body.tl.tl [some (.str T),some (.int (m:Int)),some (.bool b),some (.bool (wE s)),none,none,none,none,none] J (cF K) (JF K):=by
 unfold eH at hm
 induction h:wE s using Bool.casesOn with
 | true=>
   rw[h]at hm
   rw[hm.uniq (hs.skip (VN h))]
   have:=f _ (DI P hs) true h
   rw[h]at this
   exact this
 | false=>
   rw[h]at hm
   rw[hm.uniq hs]
   have:=f _ (DI P hs) false h
   rw[h]at this
   exact this
theorem eM(hs:tB T n s):∃m,tB T m (eH s):=by
 unfold eH;split
 ·rename_i h;exact⟨_,hs.skip (VN h)⟩
 ·exact⟨_,hs⟩
noncomputable def EZ(ex:Bool):Option (List Nat×List Nat)->kF
 | none=> .err [109,105,115,115,105,110,103,32,99,108,111,115,101,45,98,114,97,99,101]
 | some (i,r')=> .ok (.tup [.bool ex, .tup (YC i)]) r'
theorem hM(P:Prog g){b:Bool}{r:List Nat}{o:Option (List Nat×List Nat)}(he:eH s=123::r)(hb:EB 1 r [] o):
 iC g T (d+6) b s (EZ (wE s) o):=by
 intro n hs
 obtain⟨m1,h1⟩:=eM hs
 have h1':=h1
 rw[he]at h1'
 obtain⟨m,hm,c⟩:=vU (d:=d+1) P h1' hb
 induction o using Option.casesOn with
 | none=>exact⟨m,trivial,fun {J}=>P.f293.run rfl rfl fun K e f=>e (XF P hs f h1 _ (JE h1') true rfl _ c) .same ⟨rfl,rfl⟩⟩
 | some x=>
   refine⟨m,⟨hm.1,by show(true&&((fB 0 (YC x.1))&&true))=true;rw[QC];rfl⟩,fun {J}=>P.f293.run rfl rfl fun K e f=>?_⟩
   by_cases q:x.1=[]
   ·exact e (XF P hs f h1 _ (JE h1') true rfl _ c true (decide_eq_true q)) .same ⟨by rw[YC,if_pos q],rfl⟩
   ·exact e (XF P hs f h1 _ (JE h1') true rfl _ c false (decide_eq_false q)) .same ⟨by rw[gH q],rfl⟩
theorem gM{v:V}{b:Bool}(h:below 0 v=true):below 0 (.tup [.bool b,v])=true:=by show(true&&(below 0 v&&true))=true;rw[h];rfl
theorem iM(P:Prog g){b:Bool}{r:List Nat}{o:kF}(he:eH s=34::r)(hp:JI g T (d+5) [34] r o):
 iC g T (d+6) b s (match o with | .err w=> .err w | .ok v []=> .err [109,105,115,115,105,110,103,32,34] | .ok v (_::r')=> .ok (.tup [.bool (wE s),v]) r'):=by
 intro n hs
 obtain⟨m1,h1⟩:=eM hs
 have h1':=h1
 rw[he]at h1'
 obtain⟨m,hm,c⟩:=hp _ h1'.next
 induction o using kF.casesOn with
 | err w=>exact⟨m,trivial,fun {J}=>P.f293.run rfl rfl fun K e f=>e (XF P hs f h1 _ (JE h1') false rfl true rfl _ c) .same ⟨rfl,rfl⟩⟩
 | ok v rest=>induction rest using List.casesOn with
   | nil=>exact⟨m,trivial,fun {J}=>P.f293.run rfl rfl fun K e f=>e (XF P hs f h1 _ (JE h1') false rfl true rfl _ c true (RO hm.1) _ (DD P) _ _ (AA ..) (.inl rfl)) .same ⟨rfl,rfl⟩⟩
   | cons x r'=>exact⟨m+1,⟨hm.1.next,gM hm.2⟩,fun {J}=>P.f293.run rfl rfl fun K e f=>e (XF P hs f h1 _ (JE h1') false rfl true rfl _ c false (RO hm.1)) .same ⟨rfl,rfl⟩⟩
theorem yN(P:Prog g){b:Bool}{o:kF}(he:∀r,eH s≠123::r)(he2:∀r,eH s≠34::r)(hp:JI g T (d+5) (mB b) (eH s) o):
 iC g T (d+6) b s (match o with | .err w=> .err w | .ok v r'=> .ok (.tup [.bool (wE s),v]) r'):=by
 intro n hs
 obtain⟨m1,h1⟩:=eM hs
 obtain⟨m,hm,c⟩:=hp _ h1
 induction o using kF.casesOn with
 | err w=>exact⟨m,trivial,fun {J}=>P.f293.run rfl rfl fun K e f=>e (XF P hs f h1 _ (lB (j:=1) h1) false (EG he) false (EG he2) _ (sI P) _ c) .same ⟨rfl,rfl⟩⟩
 | ok v r'=>exact⟨m,⟨hm.1,gM hm.2⟩,fun {J}=>P.f293.run rfl rfl fun K e f=>e (XF P hs f h1 _ (lB (j:=1) h1) false (EG he) false (EG he2) _ (sI P) _ c) .same ⟨rfl,rfl⟩⟩
class inductive CH(g:G)(T:List Nat)(d:Nat)(b:Bool):List Nat->List Nat->List V->ZF->Prop
 | eof {b0 p e:List Nat} {acc:List V} {w:V}:iC g T d b p (.ok w e)->e.length < p.length->IA e=[]->CH g T d b b0 p acc (.ok (acc++[w]) b0 e [])
 | sep {b0 p e r:List Nat} {c:Nat} {acc:List V} {w:V}:iC g T d b p (.ok w e)->e.length < p.length->IA e=c::r->c=10\/c=59->CH g T d b b0 p acc (.ok (acc++[w]) b0 e r)
 | close {b0 p e r:List Nat} {acc:List V} {w:V}:b=true->iC g T d b p (.ok w e)->e.length < p.length->IA e=93::r->CH g T d b b0 p acc (.ok (acc++[w]) b0 e (93::r))
 | more {b0 p e r:List Nat} {c:Nat} {acc:List V} {w:V} {o:ZF}:iC g T d b p (.ok w e)->e.length < p.length->IA e=c::r->c≠10->c≠59->(b=true->c≠93)->c::r≠e->CH g T d b b0 (c::r) (acc++[w]) o->CH g T d b b0 p acc o
 | err {b0 p w:List Nat} {acc:List V}:iC g T d b p (.err w)->CH g T d b b0 p acc (.err w)
 | extra {b0 p p' r:List Nat} {c x:Nat} {acc:List V} {w:V}:iC g T d b p (.ok w (c::r))->p=p'++x::c::r->IA (c::r)=c::r->c≠10->c≠59->(b=true->c≠93)->
  CH g T d b b0 p acc (.err (if x=34 then[101,120,116,114,97,32,99,104,97,114,97,99,116,101,114,115,32,97,102,116,101,114,32,99,108,111,115,101,45,113,117,111,116,101]else[101,120,116,114,97,32,99,104,97,114,97,99,116,101,114,115,32,97,102,116,101,114,32,99,108,111,115,101,45,98,114,97,99,101]))
theorem AV(P:Prog g){b:Bool}{t:List Nat}(hk:UB s t)(ht:t=[]\/(b=true/\∃r,t=93::r)):eE g T (d+7) b s .none:=by
 intro n vs hv hs
 obtain⟨m,hm,c⟩:=DC (d:=d+3) (hd:=none) P hs hk
 refine⟨0,0,0,trivial,fun {J}=>?_⟩
 have go:∀K:bF->List O->Prop,dF g (d+6) none GD [.str T, .int (n:Int), .bool b] J K->K (.ok .none) J:=by
  intro K f
  rcases ht with rfl | ⟨rfl,r,rfl⟩
  ·exact f _ c true (RO hm)
  ·exact f _ c false (RO hm) true rfl _ (gA hm) true rfl
 rcases hv with rfl | ⟨rfl,rfl⟩
 ·exact P.f301.run rfl rfl fun K e f=>e (go K f) .same ⟨rfl,rfl⟩
 ·exact P.f301.run rfl rfl fun K e f=>e (go K f) .same ⟨rfl,rfl⟩
theorem CH.at{b:Bool}{b0 p:List Nat}{acc:List V}{o:ZF}(h:CH g T d b b0 p acc o){m q:Nat}(hm:tB T m b0)(hq:tB T q p)(ha:Mine.fB 0 acc=true):∃x y w,o.at T x y w:=by
 have one:∀{w:V},Mine.below 0 w=true->Mine.fB 0 [w]=true:=fun h=>by show(_&&true)=true;rw[h];rfl
 induction h generalizing q with
 | eof hw _ hg=>obtain⟨y,hy,_⟩:=hw _ hq;exact⟨m,y,T.length,hm,hy.1,⟨Nat.le_refl _,by simp,hy.1.big⟩,sA (one hy.2) ha⟩
 | sep hw _ hg _=>obtain⟨y,hy,_⟩:=hw _ hq;obtain⟨z,hz⟩:=hy.1.sub (RB _);rw[hg]at hz;exact⟨m,y,z+1,hm,hy.1,hz.next,sA (one hy.2) ha⟩
 | close _ hw _ hg=>obtain⟨y,hy,_⟩:=hw _ hq;obtain⟨z,hz⟩:=hy.1.sub (RB _);rw[hg]at hz;exact⟨m,y,z,hm,hy.1,hz,sA (one hy.2) ha⟩
 | more hw _ hg _ _ _ _ _ ih=>obtain⟨y,hy,_⟩:=hw _ hq;obtain⟨z,hz⟩:=hy.1.sub (RB _);rw[hg]at hz;exact ih hz (sA (one hy.2) ha)
 | err=>exact⟨0,0,0,trivial⟩
 | extra=>exact⟨0,0,0,trivial⟩
theorem BV(P:Prog g){b:Bool}{c:Nat}{t:List Nat}{o:ZF}(hk:UB s (c::t))(hb:b=true->c≠93)(hc:CH g T (d+6) b (c::t) (c::t) [] o):eE g T (d+7) b s o:=by
 intro n vs hv hs
 obtain⟨m,hm,c1⟩:=DC (d:=d+3) (hd:=none) P hs hk
 obtain⟨x,y,w,ho⟩:=hc.at hm hm rfl
 refine⟨x,y,w,ho,fun {J}=>?_⟩
 have go:∀K:bF->List O->Prop,(∀{r:bF} {LA:List O} {r0:bF} {XE:List O},K r LA->Fin J r LA r0 XE->(o.sp J x y w).R r0 XE->False)->dF g (d+6) none GD [.str T, .int (n:Int), .bool b] J K->False:=by
  intro K e f
  have big:=hs.big
  have top:dB g (d+6) none GD.body.tl.tl.tl.tl.tl [some (.str T),some (.int (n:Int)),some (.bool b),some (.int (m:Int)),some (.int (T.length:Int)),some (.loc J.length),some (.int (m:Int)),none,none] (J++[.list []]) (cF K) (JF K):=by
   by_cases q:b=true
   ·exact f _ c1 false (RO hm) true q _ (gA hm) false (oD (hb q))
   ·exact f _ c1 false (RO hm) false (Bool.eq_false_iff.mpr q)
  refine top fun Pw hP h0=>?_
  have goal:∀(b0 p:List Nat) (acc:List V) (o':ZF),CH g T (d+6) b b0 p acc o'->o'=o->b0=c::t->∀(q:Nat) (x7 x8:Option V),tB T q p->acc.length+p.length<=T.length->fB 0 acc=true->
   Pw 0 [some (.str T),some (.int (n:Int)),some (.bool b),some (.int (m:Int)),some (.int (T.length:Int)),some (.loc J.length),some (.int (q:Int)),x7,x8] (J++[.list acc])->False:=by
   intro b0 p acc o' hc
   have fin:∀{ws:List V} {e z:List Nat} {y' w':Nat},ZF.ok ws (c::t) e z=o->tB T y' e->tB T w' z->∀{j},K (.ok (.tup [.tup ws, .int (m:Int), .int (y':Int), .int (w':Int)])) (J++j)->False:=by
    intro ws e' z y' w' eo hy hw j k
    subst eo
    obtain⟨o1,o2,o3,o4⟩:=ho
    refine e k (.drop (by show(fB 0 ws&&true)=true;rw[o4];rfl)) ⟨?_,rfl⟩
    rw[hm.uniq o1,hy.uniq o2,hw.uniq o3]
   have one:∀{w:V},below 0 w=true->fB 0 [w]=true:=fun h=>by show(_&&true)=true;rw[h];rfl
   induction hc with
   | @eof p e' acc w' hw hl hg=>
     rintro eo rfl q x7 x8 h h4 ha p
     obtain⟨y,hy,cw⟩:=hw _ h
     obtain⟨z,hz,cg⟩:=BC (d:=d+4) (hd:=none) P hy.1
     rw[hg]at hz
     exact fin eo hy.1 ⟨Nat.le_refl _,by simp,big⟩ (hP _ _ _ p true rfl _ cw _ (AA ..) _ rB _ _ (qB (by exact LB h4 big)) _ cg true (RO hz) _ _ (LE (AA ..) (by simp only[List.length_append,List.length_cons,List.length_nil];exact fJ h4 hl big)))
   | @sep p e' r c2 acc w' hw hl hg hc2=>
     rintro eo rfl q x7 x8 h h4 ha p
     obtain⟨y,hy,cw⟩:=hw _ h
     obtain⟨z,hz,cg⟩:=BC (d:=d+4) (hd:=none) P hy.1
     rw[hg]at hz
     exact fin eo hy.1 hz.next (hP _ _ _ p true rfl _ cw _ (AA ..) _ rB _ _ (qB (by exact LB h4 big)) _ cg false (RO hz) _ (gA hz) _ rfl true (by rcases hc2 with rfl | rfl <;>rfl) _ _ (LE (AA ..) (by simp only[List.length_append,List.length_cons,List.length_nil];exact fJ h4 hl big)))
   | @close p e' r acc w' hbt hw hl hg=>
     rintro eo rfl q x7 x8 h h4 ha p
     obtain⟨y,hy,cw⟩:=hw _ h
     obtain⟨z,hz,cg⟩:=BC (d:=d+4) (hd:=none) P hy.1
     rw[hg]at hz
     exact fin eo hy.1 hz (hP _ _ _ p true rfl _ cw _ (AA ..) _ rB _ _ (qB (by exact LB h4 big)) _ cg false (RO hz) _ (gA hz) _ rfl false rfl true hbt _ (gA hz) true rfl _ _ (LE (AA ..) (by simp only[List.length_append,List.length_cons,List.length_nil];exact fJ h4 hl big)))
   | @more p e' r c2 acc w' o' hw hl hg h10 h59 h93 hne hc ih=>
     rintro eo rfl q x7 x8 h h4 ha p
     obtain⟨y,hy,cw⟩:=hw _ h
     obtain⟨z,hz,cg⟩:=BC (d:=d+4) (hd:=none) P hy.1
     rw[hg]at hz
     have hgl:=wC e'
     rw[hg]at hgl
     have hni:[[10],[59]].contains [c2]=false:=by simp[h10,h59]
     have hz2:decide ((z:Int)=(y:Int))=false:=(hy.1.same hz (hg ▸ RB _)).trans (decide_eq_false hne)
     refine ih eo rfl _ (some w') (some (.int (y:Int))) hz (by simp only[List.length_append,List.length_cons,List.length_nil]at*;exact fJ hgl h4 hl) (sA (one hy.2) ha) ?_
     by_cases hbt:b=true
     ·exact hP _ _ _ p true rfl _ cw _ (AA ..) _ rB _ _ (qB (by exact LB h4 big)) _ cg false (RO hz) _ (gA hz) _ rfl false hni true hbt _ (gA hz) false (oD (h93 hbt)) false hz2
     ·exact hP _ _ _ p true rfl _ cw _ (AA ..) _ rB _ _ (qB (by exact LB h4 big)) _ cg false (RO hz) _ (gA hz) _ rfl false hni false (Bool.eq_false_iff.mpr hbt) false hz2
   | @err p w' acc hw=>
     rintro rfl rfl q x7 x8 h h4 ha p
     obtain⟨y,hy,cw⟩:=hw _ h
     exact e (hP _ _ _ p true rfl _ cw) (.err rfl) ⟨rfl,rfl⟩
   | @extra p p' r c2 x' acc w' hw hp hg h10 h59 h93=>
     rintro eo rfl q x7 x8 h h4 ha pp
     obtain⟨y,hy,cw⟩:=hw _ h
     obtain⟨z,hz,cg⟩:=BC (d:=d+4) (hd:=none) P hy.1
     rw[hg]at hz
     have hni:[[10],[59]].contains [c2]=false:=by simp[h10,h59]
     have hz2:decide ((z:Int)=(y:Int))=true:=decide_eq_true (by rw[hz.uniq hy.1])
     rw[hp]at h
     have hx:=h.app
     have hix:∀{J},CR g J (.str T) (.int ((y:Int) - 1))=some (.str [x']):=by rw[<-hx.next.uniq hy.1,be];exact gA hx
     have h4:acc.length<=100000:=by exact LB h4 big
     have lst:K (.exn (J++[O.list (acc++[w'])]).length) (J++[O.list (acc++[w'])]++vC (J++[O.list (acc++[w'])]).length (if x'=34 then[101,120,116,114,97,32,99,104,97,114,97,99,116,101,114,115,32,97,102,116,101,114,32,99,108,111,115,101,45,113,117,111,116,101]else[101,120,116,114,97,32,99,104,97,114,97,99,116,101,114,115,32,97,102,116,101,114,32,99,108,111,115,101,45,98,114,97,99,101]) ND):=by
      by_cases hx34:x'=34
      ·rw[if_pos hx34]
       subst hx34
       by_cases hbt:b=true
       ·exact hP _ _ _ pp true rfl _ cw _ (AA ..) _ rB _ _ (qB h4) _ cg false (RO hz) _ (gA hz) _ rfl false hni true hbt _ (gA hz) false (oD (h93 hbt)) true hz2 _ hix true rfl _ (DD P) _ _ (AA ..) (.inl rfl)
       ·exact hP _ _ _ pp true rfl _ cw _ (AA ..) _ rB _ _ (qB h4) _ cg false (RO hz) _ (gA hz) _ rfl false hni false (Bool.eq_false_iff.mpr hbt) true hz2 _ hix true rfl _ (DD P) _ _ (AA ..) (.inl rfl)
      ·rw[if_neg hx34]
       by_cases hbt:b=true
       ·exact hP _ _ _ pp true rfl _ cw _ (AA ..) _ rB _ _ (qB h4) _ cg false (RO hz) _ (gA hz) _ rfl false hni true hbt _ (gA hz) false (oD (h93 hbt)) true hz2 _ hix false (oD hx34) _ (DD P) _ _ (AA ..) (.inl rfl)
       ·exact hP _ _ _ pp true rfl _ cw _ (AA ..) _ rB _ _ (qB h4) _ cg false (RO hz) _ (gA hz) _ rfl false hni false (Bool.eq_false_iff.mpr hbt) true hz2 _ hix false (oD hx34) _ (DD P) _ _ (AA ..) (.inl rfl)
     subst eo
     exact e lst (.err rfl) ⟨rfl,rfl⟩
  exact goal _ _ [] o hc rfl rfl m none none hm (by have:=hm.len;simp only[List.length_nil];exact(BB (eR this))) rfl h0
 rcases hv with rfl | ⟨rfl,rfl⟩
 ·exact P.f301.run rfl rfl fun K e f=>go K e f
 ·exact P.f301.run rfl rfl fun K e f=>go K e f
end
section
variable{g:G}{d:Nat}{hd:Option Nat}{J LA BD:List O}{T s:List Nat}{n:Nat}
structure Wd where
 St:Type
 W:St->List O->Prop
 own:St->Nat->Prop
 lt:∀{st J l},W st J->own st l->l < J.length
 cong:∀{st J LA},W st J->(∀l,own st l->LA[l]?=J[l]?)->W st LA
variable{w:Wd}{st st' st'':w.St}
structure IB(w:Wd)(st:w.St)(J:List O)(st':w.St)(LA:List O):Prop where
 ok:w.W st' LA
 len:J.length<=LA.length
 keep:∀l,l < J.length->¬w.own st l->LA[l]?=J[l]?
 own:∀l,w.own st' l->w.own st l\/J.length<=l
theorem IB.refl(h:w.W st J):IB w st J st J:=⟨h,Nat.le_refl _,fun u0 u0 u0=>rfl,fun u0 h=> .inl h⟩
theorem IB.trans(a:IB w st J st' LA)(b:IB w st' LA st'' BD):IB w st J st'' BD:=
 ⟨b.ok,Nat.le_trans a.len b.len,fun l h1 h2=>by
   rw[b.keep l (Nat.lt_of_lt_of_le h1 a.len) (fun q=>by rcases a.own l q with q | q;exact h2 q;lia),a.keep l h1 h2],
  fun l h=>by
   rcases b.own l h with q | q
   ·exact a.own l q
   ·exact .inr (Nat.le_trans a.len q)⟩
theorem IB.app(h:w.W st J)(j:List O):IB w st J st (J++j):=
 ⟨w.cong h fun l q=>List.getElem?_append_left (w.lt h q),by simp,fun l q u0=>List.getElem?_append_left q,fun u0 q=> .inl q⟩
theorem IB.push(a:IB w st J st' LA)(j:List O):IB w st J st' (LA++j):=a.trans (.app a.ok j)
theorem IB.set(a:IB w st J st' LA){l:Nat}(x:O)(h1:J.length<=l)(h2:¬w.own st' l):IB w st J st' (LA.set l x):=
 ⟨w.cong a.ok fun k q=>List.getElem?_set_ne (fun e=>h2 (by rw[e];exact q)),by simpa using a.len,fun k q1 q2=>by rw[List.getElem?_set_ne (by exact Nat.ne_of_gt (LB q1 h1))];exact a.keep k q1 q2,a.own⟩
theorem IB.nown(a:IB w st J st' LA){l:Nat}(h1:l < J.length)(h:¬w.own st l):¬w.own st' l:=fun q=>by
 rcases a.own l q with q | q
 ·exact h q
 ·lia
theorem Wd.new(h:w.W st J):¬w.own st J.length:=fun q=>Nat.lt_irrefl _ (w.lt h q)
structure QD(w:Wd)(st:w.St)(J:List O)(l:Nat)(x:O):Prop where
 at':J[l]?=some x
 own:¬w.own st l
theorem QD.lt{l:Nat}{x:O}(m:QD w st J l x):l < J.length:=(List.getElem?_eq_some_iff.mp m.at').1
theorem QD.after{l:Nat}{x:O}(m:QD w st J l x)(a:IB w st J st' LA):QD w st' LA l x:=
 ⟨(a.keep l m.lt m.own).trans m.at',a.nown m.lt m.own⟩
theorem QD.new(h:w.W st J)(x:O)(j:List O):QD w st (J++x::j) J.length x:=⟨AA ..,w.new h⟩
theorem QD.set{l:Nat}{x:O}(m:QD w st J l x)(y:O):QD w st (J.set l y) l y:=⟨by rw[List.getElem?_set_self m.lt],m.own⟩
theorem QD.set_ne{l k:Nat}{x:O}(m:QD w st J l x)(y:O)(h:k≠l):QD w st (J.set k y) l x:=⟨by rw[List.getElem?_set_ne h];exact m.at',m.own⟩
inductive jD(w:Wd)(st:w.St)(n:Nat)(J:List O)(l:Nat)(z:Rz):Prop
 | mk (dl xl:Nat) (h1:n<=l) (h2:n<=dl) (h3:l≠dl) (e1:QD w st J l (.exc 84 dl)) (e2:QD w st J dl (.ad (z.ad xl)))
theorem jD.after{n l:Nat}{z:Rz}(h:jD w st n J l z)(a:IB w st J st' LA):jD w st' n LA l z:=by
 obtain⟨dl,xl,h1,h2,h3,h4,h5⟩:=h;exact⟨dl,xl,h1,h2,h3,h4.after a,h5.after a⟩
theorem jD.le{n m l:Nat}{z:Rz}(h:jD w st n J l z)(q:m<=n):jD w st m J l z:=by
 obtain⟨dl,xl,h1,h2,h3,h4,h5⟩:=h;exact⟨dl,xl,by exact Nat.le_trans q h1,by exact Nat.le_trans q h2,h3,h4,h5⟩
theorem jD.err(h:w.W st J)(why:List Nat)(ec:V):jD w st J.length (J++vC J.length why ec) J.length (WH why ec):=
 ⟨J.length+1,J.length+2,Nat.le_refl _,by exact Nat.le_add_right _ _,by exact Nat.ne_of_lt (Nat.lt_succ_self _),⟨AA ..,w.new h⟩,⟨nB J _ 1,fun q=>by have:=w.lt h q;lia⟩⟩
inductive AD(w:Wd) where
 | ok (v:V) (st:w.St)
 | err (z:Rz) (st:w.St)
noncomputable def AD.sp(w:Wd)(st:w.St)(J:List O):AD w->Sp
 | .ok v st'=> .to v fun LA=>IB w st J st' LA
 | .err z st'=> .exn fun l LA=>IB w st J st' LA/\jD w st' J.length LA l z
theorem jD.raise{why:List Nat}{ec:V}(a:IB w st J st' LA):IB w st J st' (LA++vC LA.length why ec)/\jD w st' J.length (LA++vC LA.length why ec) LA.length (WH why ec):=
 ⟨a.push _,(jD.err a.ok why ec).le a.len⟩
end
section
variable{g:G}{d:Nat}{hd:Option Nat}{J LA BD:List O}{T s:List Nat}{n:Nat}{w:Wd}{st st' st'':w.St}{h:Nat}
theorem uC{l:Nat}{xs:List V}{v:V}{Q:V->List O->Prop}(hn:xs.length<=100000)(h:Q .none (J.set l (.list (xs++[v])))):TB J l xs [97,112,112,101,110,100] [v] Q:=by
 unfold TB;rw[if_pos rfl];exact⟨hn,h⟩
structure eU(h:Nat)(J:List O)(dl:Nat)(kvs:List (List Nat×V)):Prop where
 obj:J[h]?=some (.inst 643 dl)
 ad:oI J dl=some kvs
 no:∀n,(uL 643 n).isSome=true->TA n kvs=none
noncomputable def mQ(w:Wd)(h:Nat):Prop:=∀ ⦃st:w.St⦄ ⦃J:List O⦄,w.W st J->∃dl kvs,eU h J dl kvs
noncomputable def GN(g:G)(w:Wd)(h d:Nat)(nm:List Nat)(st:w.St)(o:AD w):Prop:=∀ ⦃J:List O⦄,w.W st J->MA g d none 576 [.loc h, .str nm] J (o.sp w st J)
noncomputable def HT(g:G)(w:Wd)(h d:Nat)(s:List Nat)(st:w.St)(o:AD w):Prop:=∀ ⦃J:List O⦄,w.W st J->MA g d none 442 [.loc h, .str s] J (o.sp w st J)
noncomputable def CK(g:G)(w:Wd)(h d:Nat)(ps:List V)(st:w.St)(o:AD w):Prop:=∀ ⦃J:List O⦄,w.W st J->MA g d none 371 [.loc h, .tup ps] J (o.sp w st J)
class inductive fC(g:G)(w:Wd)(h d:Nat):List V->w.St->List (List Nat)->AD w->Prop
 | nil {st:w.St} {acc:List (List Nat)}:acc.flatten.length<=1000000->fC g w h d [] st acc (.ok (.str acc.flatten) st)
 | text {r:List V} {s:List Nat} {st:w.St} {acc:List (List Nat)} {o:AD w}:fC g w h d r st (acc++[s]) o->fC g w h d (tx s::r) st acc o
 | var {r:List V} {nm v:List Nat} {st st':w.St} {acc:List (List Nat)} {o:AD w}:GN g w h d nm st (.ok (.str v) st')->fC g w h d r st' (acc++[v]) o->fC g w h d (vr nm .none::r) st acc o
 | varE {r:List V} {nm:List Nat} {z:Rz} {st st':w.St} {acc:List (List Nat)}:GN g w h d nm st (.err z st')->fC g w h d (vr nm .none::r) st acc (.err z st')
 | cmd {r:List V} {s v:List Nat} {st st':w.St} {acc:List (List Nat)} {o:AD w}:HT g w h d s st (.ok (.str v) st')->fC g w h d r st' (acc++[v]) o->fC g w h d (cm s::r) st acc o
 | cmdE {r:List V} {s:List Nat} {z:Rz} {st st':w.St} {acc:List (List Nat)}:HT g w h d s st (.err z st')->fC g w h d (cm s::r) st acc (.err z st')
 | arr {r ix:List V} {nm i v:List Nat} {st st1 st':w.St} {acc:List (List Nat)} {o:AD w}:CK g w h d ix st (.ok (.str i) st1)->nm.length+i.length<=1000000->GN g w h d (nm++40::(i++[41])) st1 (.ok (.str v) st')->fC g w h d r st' (acc++[v]) o->fC g w h d (vr nm (.tup ix)::r) st acc o
theorem jH:∀ss:List (List Nat),iA [] ss=ss.flatten
 | []=>rfl
 | [x]=>by simp[iA.r1,iA.r2,iA.r3]
 | x::y::r=>by(first | rw[iA.r1,jH (y::r)] | rw[iA.r2,jH (y::r)] | rw[iA.r3,jH (y::r)]);simp
theorem BE:∀ss:List (List Nat),fD (ss.map V.str)=some ss
 | []=>rfl
 | s::ss=>by show(fD (ss.map V.str)).map _=_;rw[BE ss];rfl
theorem yF(acc:List (List Nat))(s:List Nat):acc.map V.str++[.str s]=(acc++[s]).map V.str:=by simp
theorem OZ{l:Nat}{xs:List V}{ss:List (List Nat)}{Q:V->List O->Prop}(hl:J[l]?=some (.list xs))(hx:fD xs=some ss)(hn:ss.flatten.length<=1000000)(h:Q (.str ss.flatten) J):DB J [] [106,111,105,110] [.loc l] Q:=
 DX hl hx (by rw[<-List.length_flatten];simp only[List.length_nil,Nat.mul_zero];exact BB hn) (by rw[jH];exact h)
theorem nH(P:Prog g)(H:mQ w h){ps:List V}{o:AD w}(hn:ps.length<=50000)(ht:fC g w h d ps st [] o):CK g w h (d+1) ps st o:=by
 intro J hw
 refine P.f371.run rfl rfl fun K e f=>f fun Pw hP h0=>?_
 have key:∀(r:List V) (st1:w.St) (acc:List (List Nat)) (o':AD w),fC g w h d r st1 acc o'->o'=o->∀(k:Nat) (pre:List V) (gB:List O) (x3 x4:Option V),ps=pre++r->k=pre.length->acc.length=k->IB w st J st1 gB->QD w st1 gB J.length (.list (acc.map .str))->
  Pw k [some (.loc h),some (.tup ps),some (.loc J.length),x3,x4] gB->False:=by
  intro r st1 acc o' ht
  have le:∀{r pre:List V},ps=pre++r->pre.length<=50000:=fun e=>by rw[e,List.length_append]at hn;exact(nD hn)
  have at0:∀{r pre:List V} {v:V},ps=pre++v::r->ps[pre.length]?=some v:=fun e=>by rw[e];exact AA ..
  induction ht with
  | @nil st1 acc hl=>
    rintro rfl k pre gB x3 x4 e1 rfl e2 ha hm p
    exact e (hP _ _ _ p none (List.getElem?_eq_none (by rw[e1];simp)) _ _ (OZ hm.at' (BE acc) hl)) .same ⟨rfl,ha⟩
  | @text r s st1 acc o' ht ih=>
    rintro hq k pre gB x3 x4 e1 rfl e2 ha hm p
    refine ih hq (pre.length+1) (pre++[tx s]) _ _ _ (by rw[List.append_assoc];exact e1) (by simp) (by simp[e2]) (ha.set _ (Nat.le_refl _) hm.own) (hm.set _) (by rw[<-yF];exact hP _ _ _ p _ (at0 e1) _ rfl true rfl _ hm.at' _ rfl _ (XA hm.at') _ _ (uC (by have:=le e1;rw[List.length_map];exact(LB this (eL e2)))))
  | @var r nm v st1 st2 acc o' hv ht ih=>
    rintro hq k pre gB x3 x4 e1 rfl e2 ha hm p
    obtain⟨dl,kvs,Hh⟩:=H ha.ok
    exact hP _ _ _ p _ (at0 e1) _ rfl false rfl _ rfl false rfl _ rfl true rfl _ hm.at' _ Hh.obj _ Hh.ad (Hh.no _ rfl) _ rfl _ (hv ha.ok) fun aB ha2 p=>
     have hm2:=hm.after ha2
     ih hq (pre.length+1) (pre++[vr nm .none]) _ _ _ (by rw[List.append_assoc];exact e1) (by simp) (by simp[e2]) ((ha.trans ha2).set _ (Nat.le_refl _) hm2.own) (hm2.set _) (by rw[<-yF];exact p _ (XA hm2.at') _ _ (uC (by have:=le e1;rw[List.length_map];exact(LB this (eL e2)))))
  | @varE r nm z st1 st2 acc hv=>
    rintro rfl k pre gB x3 x4 e1 rfl e2 ha hm p
    obtain⟨dl,kvs,Hh⟩:=H ha.ok
    exact hP _ _ _ p _ (at0 e1) _ rfl false rfl _ rfl false rfl _ rfl true rfl _ hm.at' _ Hh.obj _ Hh.ad (Hh.no _ rfl) _ rfl _ (hv ha.ok) fun l aB q p=>e p .same ⟨l,rfl,ha.trans q.1,q.2.le ha.len⟩
  | @cmd r s v st1 st2 acc o' hv ht ih=>
    rintro hq k pre gB x3 x4 e1 rfl e2 ha hm p
    obtain⟨dl,kvs,Hh⟩:=H ha.ok
    exact hP _ _ _ p _ (at0 e1) _ rfl false rfl _ rfl true rfl _ hm.at' _ Hh.obj _ Hh.ad (Hh.no _ rfl) _ rfl _ (hv ha.ok) fun aB ha2 p=>
     have hm2:=hm.after ha2
     ih hq (pre.length+1) (pre++[cm s]) _ _ _ (by rw[List.append_assoc];exact e1) (by simp) (by simp[e2]) ((ha.trans ha2).set _ (Nat.le_refl _) hm2.own) (hm2.set _) (by rw[<-yF];exact p _ (XA hm2.at') _ _ (uC (by have:=le e1;rw[List.length_map];exact(LB this (eL e2)))))
  | @cmdE r s z st1 st2 acc hv=>
    rintro rfl k pre gB x3 x4 e1 rfl e2 ha hm p
    obtain⟨dl,kvs,Hh⟩:=H ha.ok
    exact hP _ _ _ p _ (at0 e1) _ rfl false rfl _ rfl true rfl _ hm.at' _ Hh.obj _ Hh.ad (Hh.no _ rfl) _ rfl _ (hv ha.ok) fun l aB q p=>e p .same ⟨l,rfl,ha.trans q.1,q.2.le ha.len⟩
  | @arr r ix nm i v st1 st2 st3 acc o' hx hl hv ht ih=>
    rintro hq k pre gB x3 x4 e1 rfl e2 ha hm p
    exact hP _ _ _ p _ (at0 e1) _ rfl false rfl _ rfl false rfl _ rfl false rfl _ rfl _ (hx ha.ok) fun aB ha2 p=>by
     have hm2:=hm.after ha2
     obtain⟨dl,kvs,Hh⟩:=H ha2.ok
     have el:((nm++[40])++i)++[41]=nm++40::(i++[41]):=by simp
     have cv:MA g d none 576 [.loc h, .str (((nm++[40])++i)++[41])] aB (AD.sp w st2 aB (.ok (.str v) st3)):=by rw[el];exact hv ha2.ok
     refine p _ hm2.at' _ Hh.obj _ Hh.ad (Hh.no _ rfl) _ rfl _ (qD (by simp only[List.length_cons,List.length_nil];exact BB hl)) _ (qD (by simp only[List.length_append,List.length_cons,List.length_nil];exact BB hl)) _ (qD (by simp only[List.length_append,List.length_cons,List.length_nil];exact BB hl)) _ cv fun YF ha3 p=>?_
     have hm3:=hm2.after ha3
     exact ih hq (pre.length+1) (pre++[vr nm (.tup ix)]) _ _ _ (by rw[List.append_assoc];exact e1) (by simp) (by simp[e2]) (((ha.trans ha2).trans ha3).set _ (Nat.le_refl _) hm3.own) (hm3.set _) (by rw[<-yF];exact p _ (XA hm3.at') _ _ (uC (by have:=le e1;rw[List.length_map];exact(LB this (eL e2)))))
 exact key ps st [] o ht rfl 0 [] _ _ _ rfl rfl rfl (.app hw _) (.new hw _ _) h0
inductive GP(w:Wd) where
 | ok (items:List (List Nat)) (st:w.St)
 | err (z:Rz) (st:w.St)
noncomputable def GP.sp(w:Wd)(st:w.St)(J:List O):GP w->Sp
 | .ok items st'=> .to (.loc J.length) fun LA=>IB w st J st' LA/\QD w st' LA J.length (.list (items.map .str))
 | .err z st'=>AD.sp w st J (.err z st')
noncomputable def DO(g:G)(w:Wd)(h d:Nat)(ws:List V)(st:w.St)(o:GP w):Prop:=∀ ⦃J:List O⦄,w.W st J->MA g d none 378 [.loc h, .tup ws] J (o.sp w st J)
noncomputable abbrev BP(b:Bool)(ps:List V):V:= .tup [.bool b, .tup ps]
class inductive KG(g:G)(w:Wd)(h d:Nat):List V->w.St->List (List Nat)->GP w->Prop
 | nil {st:w.St} {acc:List (List Nat)}:KG g w h d [] st acc (.ok acc st)
 | word {r ps:List V} {t:List Nat} {st st':w.St} {acc:List (List Nat)} {o:GP w}:CK g w h d ps st (.ok (.str t) st')->acc.length<=50000->KG g w h d r st' (acc++[t]) o->KG g w h d (BP false ps::r) st acc o
 | wordE {b:Bool} {r ps:List V} {z:Rz} {st st':w.St} {acc:List (List Nat)}:CK g w h d ps st (.err z st')->KG g w h d (BP b ps::r) st acc (.err z st')
theorem BX(P:Prog g){ws:List V}{o:GP w}(ht:KG g w h d ws st [] o):DO g w h (d+1) ws st o:=by
 intro J hw
 refine P.f378.run rfl rfl fun K e f=>f fun Pw hP h0=>?_
 have key:∀(r:List V) (st1:w.St) (acc:List (List Nat)) (o':GP w),KG g w h d r st1 acc o'->o'=o->∀(k:Nat) (pre:List V) (gB:List O) (x3 x4:Option V),ws=pre++r->k=pre.length->IB w st J st1 gB->QD w st1 gB J.length (.list (acc.map .str))->
  Pw k [some (.loc h),some (.tup ws),some (.loc J.length),x3,x4] gB->False:=by
  intro r st1 acc o' ht
  have at0:∀{r pre:List V} {v:V},ws=pre++v::r->ws[pre.length]?=some v:=fun e=>by rw[e];exact AA ..
  induction ht with
  | @nil st1 acc=>
    rintro rfl k pre gB x3 x4 e1 rfl ha hm p
    exact e (hP _ _ _ p none (List.getElem?_eq_none (by rw[e1];simp))) .same ⟨rfl,ha,hm⟩
  | @word r ps t st1 st2 acc o' hv hl ht ih=>
    rintro hq k pre gB x3 x4 e1 rfl ha hm p
    exact hP _ _ _ p _ (at0 e1) _ rfl _ (hv ha.ok) fun aB ha2 p=>
     have hm2:=hm.after ha2
     ih hq (pre.length+1) (pre++[BP false ps]) _ _ _ (by rw[List.append_assoc];exact e1) (by simp) ((ha.trans ha2).set _ (Nat.le_refl _) hm2.own) (hm2.set _) (by rw[<-yF];exact p _ rfl false rfl _ hm2.at' _ (XA hm2.at') _ _ (uC (by rw[List.length_map];exact TD hl)))
  | @wordE b r ps z st1 st2 acc hv=>
    rintro rfl k pre gB x3 x4 e1 rfl ha hm p
    exact hP _ _ _ p _ (at0 e1) _ rfl _ (hv ha.ok) fun l aB q p=>e p .same ⟨l,rfl,ha.trans q.1,q.2.le ha.len⟩
 exact key ws st [] o ht rfl 0 [] _ _ _ rfl rfl (.app hw _) (.new hw _ _) h0
end
section
variable{g:G}{d:Nat}{hd:Option Nat}{J LA BD:List O}{T s:List Nat}{n:Nat}{w:Wd}{st st' st'':w.St}{h:Nat}
noncomputable def uB(s:List Nat):List Nat:=if s.length<=150 then s else s.take 150++[46,46,46]
noncomputable def kG:List Nat:=[10,32,32,32,32,119,104,105,108,101,32,101,120,101,99,117,116,105,110,103,10,34]
noncomputable def WC:List Nat:=[10,32,32,32,32,105,110,118,111,107,101,100,32,102,114,111,109,32,119,105,116,104,105,110,10,34]
noncomputable def zL(z:Rz)(src:List Nat):Rz:=if z.code≠1 then z else
 {z with info:=(if z.info=[]then z.value++kG++uB src++[34]else if z.noted then z.info++WC++uB src++[34]else z.info),noted:=true}
noncomputable def SK(z:Rz)(line:Int):Rz:=if z.code≠1 then z else if z.line=0 then {z with line:=line}else z
noncomputable def lJ(z:Rz):Prop:=z.value.length<=1000000/\z.info.length<=1000000
theorem OG(s:List Nat):(uB s).length<=153:=by
 unfold uB;split
 ·lia
 ·simp;lia
theorem CD{l dl xl:Nat}{z:Rz}{nm:List Nat}{v:V}(h1:J[l]?=some (.exc 84 dl))(h2:J[dl]?=some (.ad (z.ad xl)))(ht:PE 84 nm=true)(hv:TA nm (z.ad xl)=some v)(ho:aG v=true):wH g J (.loc l) nm=some v:=
 let ⟨_,a,b⟩:=cR (QV1:=fun x=>x=v) h1 h2 ht hv ho rfl
 b ▸ a
theorem IU{l dl xl:Nat}{z:Rz}{nm:List Nat}{v:V}{Q:List O->Prop}(h1:J[l]?=some (.exc 84 dl))(h2:J[dl]?=some (.ad (z.ad xl)))(ht:PE 84 nm=true)(hn:Nat.ble nm.length 1000=true)(k:Q (J.set dl (.ad (VB nm v (z.ad xl))))):tH g J (.loc l) nm v Q:=zN h1 h2 ht (Nat.le_of_ble_eq_true rfl) (Nat.le_of_ble_eq_true hn) k
theorem PP(P:Prog g){a:List Nat}(ha:a.length<=1000000):MA g (d+1) hd 146 [.str a, .int 150] J (.at (.ok (.str (uB a))) J):=Cd (k:=150) P ha
theorem aK(c:Nat):∀s:List Nat,(qA c s).length=s.count c+1
 | []=>rfl
 | x::r=>by
   have ih:=aK c r
   simp only[qA.r1,qA.r2]
   split
   ·rename_i e;subst e;simp[ih]
   ·rename_i e
    rw[List.count_cons_of_ne e]
    induction q:qA c r using List.casesOn with
    | nil=>rw[q]at ih;simp at ih
    | cons y ys=>rw[q]at ih;simpa using ih
noncomputable def yE(T t:List Nat):Int:=(((T.take (T.length - t.length)).count 10+1:Nat):Int)
noncomputable def pD(T:List Nat)(z:Rz)(t src:List Nat):Rz:=zL (SK z (yE T t)) src
theorem tN{l:Nat}{x:O}(h:J[l]?=some x):J.set l x=J:=List.ext_getElem? fun i=>by
 by_cases e:l=i
 ·subst e;rw[List.getElem?_set_self (List.getElem?_eq_some_iff.mp h).1,h]
 ·rw[List.getElem?_set_ne e]
theorem DW(P:Prog g){l dl xl:Nat}{z:Rz}{src:List Nat}(h1:J[l]?=some (.exc 84 dl))(h2:J[dl]?=some (.ad (z.ad xl)))(hne:l≠dl)(hs:src.length<=1000000)(hz:lJ z):
 MA g (d+2) hd 153 [.loc l, .str src] J (.at (.ok .none) (J.set dl (.ad ((zL z src).ad xl)))):=
 P.f153.run rfl rfl fun K e f=>by
   obtain⟨hz1,hz2⟩:=hz
   have hdl:dl < J.length:=(List.getElem?_eq_some_iff.mp h2).1
   have g1:∀x:O,(J.set dl x)[l]?=some (.exc 84 dl):=fun x=>by rw[List.getElem?_set_ne (by lia)];exact h1
   have g2:∀x:O,(J.set dl x)[dl]?=some x:=fun x=>List.getElem?_set_self hdl
   have hc:=OG src
   unfold zL at e
   by_cases q:z.code=1
   ·rw[if_neg (fun h=>h q)]at e
    have q0:(!decide (z.code=1))=false:=by rw[decide_eq_true q];rfl
    by_cases q2:z.info=[]
    ·rw[if_pos q2]at e
     exact e (f _ (CD h1 h2 rfl rfl rfl) false q0 _ (CD h1 h2 rfl rfl rfl) true (decide_eq_true q2) _ (CD h1 h2 rfl rfl rfl) _ (qD (by simp;exact TD hz1)) _ (PP P hs) _ (qD (by simp only[List.length_append,List.length_cons,List.length_nil];exact LB hc hz1)) _ (qD (by simp only[List.length_append,List.length_cons,List.length_nil];exact LB hc hz1))
      _ (IU h1 h2 rfl rfl) _ (IU (z:={z with info:=z.value++kG++uB src++[34]}) (g1 _) (g2 _) rfl rfl)) .same ⟨rfl,by rw[List.set_set];rfl⟩
    ·rw[if_neg q2]at e
     induction q3:z.noted using Bool.casesOn with
     | true=>
       rw[if_pos q3]at e
       exact e (f _ (CD h1 h2 rfl rfl rfl) false q0 _ (CD h1 h2 rfl rfl rfl) false (decide_eq_false q2) _ (CD h1 h2 rfl rfl rfl) true q3 _ (CD h1 h2 rfl rfl rfl) _ (qD (by simp;exact TD hz2)) _ (PP P hs) _ (qD (by simp only[List.length_append,List.length_cons,List.length_nil];exact LB hc hz2)) _ (qD (by simp only[List.length_append,List.length_cons,List.length_nil];exact LB hc hz2))
        _ (IU h1 h2 rfl rfl) _ (IU (z:={z with info:=z.info++WC++uB src++[34]}) (g1 _) (g2 _) rfl rfl)) .same ⟨rfl,by rw[List.set_set];rfl⟩
     | false=>
       rw[if_neg (by rw[q3];decide)]at e
       exact e (f _ (CD h1 h2 rfl rfl rfl) false q0 _ (CD h1 h2 rfl rfl rfl) false (decide_eq_false q2) _ (CD h1 h2 rfl rfl rfl) false q3 _ (IU h1 h2 rfl rfl)) .same ⟨rfl,rfl⟩
   ·rw[if_pos q,tN h2]at e
    exact e (f _ (CD h1 h2 rfl rfl rfl) true (by rw[decide_eq_false q];rfl)) .same ⟨rfl,rfl⟩
theorem Ob{c:Nat}{Q:V->List O->Prop}(hn:s.length<=1000000)(h:Q (.loc J.length) (J++[.list ((qA c s).map .str)])):DB J s [115,112,108,105,116] [.str [c]] Q:=pY hn h
theorem gX(P:Prog g){l dl xl k:Nat}{z:Rz}{b t e:List Nat}(h1:J[l]?=some (.exc 84 dl))(h2:J[dl]?=some (.ad (z.ad xl)))(hne:l≠dl)(hz:lJ z)(hs:tB T n b)(hk:UB b t)(he:tB T k e):
 MA g (d+4) hd 385 [.loc l, .str T, .int (n:Int), .int (k:Int)] J (.to .none fun LA=>∃j,LA=(J++j).set dl (.ad ((pD T z t (t.take (t.length - e.length))).ad xl))):=
 P.f385.run rfl rfl fun K en f=>by
   have hdl:dl < J.length:=(List.getElem?_eq_some_iff.mp h2).1
   have hl:l < J.length:=(List.getElem?_eq_some_iff.mp h1).1
   by_cases q:z.code=1
   ·have q0:(!decide (z.code=1))=false:=by rw[decide_eq_true q];rfl
    obtain⟨m,hm,c⟩:=DC (d:=d) (hd:=hd) P hs hk
    have hml:=hm.len
    have hel:=he.len
    have big:=hs.big
    have hsrc:List.take (k - m) (List.drop m T)=t.take (t.length - e.length):=by rw[hm.eq,ce hml hel]
    have hsl:(t.take (t.length - e.length)).length<=1000000:=by rw[List.length_take];exact Nat.le_trans (Nat.min_le_right _ _) (LB (eR hml) big)
    by_cases q2:z.line=0
    ·have hline:((List.map V.str (qA 10 (T.take m))).length:Int)=yE T t:=by
      rw[List.length_map];unfold yE;rw[aK,show T.length - t.length=m by rw[hml,Nat.add_sub_cancel]]
     have e1:SK z (yE T t)={z with line:=yE T t}:=by unfold SK;rw[if_neg (fun h=>h q),if_pos q2]
     have g1:∀x:O,(J++[x])[l]?=some (.exc 84 dl):=fun x=>by rw[List.getElem?_append_left hl];exact h1
     have g2:∀x:O,(J++[x])[dl]?=some (.ad (z.ad xl)):=fun x=>by rw[List.getElem?_append_left hdl];exact h2
     refine en (f _ (CD h1 h2 rfl rfl rfl) false q0 _ c _ (CD h1 h2 rfl rfl rfl) true (decide_eq_true q2) _ vO _ _ (Ob (by rw[List.length_take];exact Nat.le_trans (Nat.min_le_right _ _) (TD big))) (.int (yE T t)) _ (fun h=>nG (AA ..) (by rw[hline];exact h)) _ (IU (g1 _) (g2 _) rfl rfl) _ (fun {Q} h=>AO (by rw[hsrc];exact h)) _
      (DW (z:={z with line:=yE T t}) (dl:=dl) (xl:=xl) P (by rw[List.getElem?_set_ne (by lia)];exact g1 _) (by rw[List.getElem?_set_self (by simp;exact BB hdl)];rfl) hne hsl hz)) .same ⟨rfl,_,by rw[List.set_set];unfold pD;rw[e1]⟩
    ·have e1:SK z (yE T t)=z:=by unfold SK;rw[if_neg (fun h=>h q),if_neg q2]
     exact en (f _ (CD h1 h2 rfl rfl rfl) false q0 _ c _ (CD h1 h2 rfl rfl rfl) false (decide_eq_false q2) _ (fun {Q} h=>AO (by rw[hsrc];exact h)) _ (DW P h1 h2 hne hsl hz)) .same ⟨rfl,[],by unfold pD;rw[e1,List.append_nil]⟩
   ·have e1:SK z (yE T t)=z:=by unfold SK;rw[if_pos q]
    have e2:∀src,zL z src=z:=fun src=>by unfold zL;rw[if_pos q]
    exact en (f _ (CD h1 h2 rfl rfl rfl) true (by rw[decide_eq_false q];rfl)) .same ⟨rfl,[],by unfold pD;rw[e1,e2,List.append_nil,tN h2]⟩
noncomputable def DP(g:G)(w:Wd)(h d:Nat)(items:List (List Nat))(st:w.St)(o:AD w):Prop:=∀ ⦃J:List O⦄ ⦃l:Nat⦄,w.W st J->QD w st J l (.list (items.map .str))->MA g d none 456 [.loc h, .loc l] J (o.sp w st J)
class inductive JG(g:G)(w:Wd)(h d:Nat)(T:List Nat):List Nat->List Nat->ZF->w.St->AD w->Prop
 | none {res s:List Nat} {st:w.St}:JG g w h d T res s .none st (.ok (.str res) st)
 | parseE {res s t why:List Nat} {st:w.St}:UB s t->why.length<=1000000->JG g w h d T res s (.err why) st (.err (pD T (WH why ND) t t) st)
 | wordE {res s b e z t:List Nat} {ws:List V} {zz:Rz} {st st1:w.St}:DO g w h d ws st (.err zz st1)->UB b t->lJ zz->JG g w h d T res s (.ok ws b e z) st (.err (pD T zz t (t.take (t.length - e.length))) st1)
 | callE {res s b e z t:List Nat} {ws:List V} {items:List (List Nat)} {zz:Rz} {st st1 st2:w.St}:DO g w h d ws st (.ok items st1)->DP g w h d items st1 (.err zz st2)->UB b t->lJ zz->JG g w h d T res s (.ok ws b e z) st (.err (pD T zz t (t.take (t.length - e.length))) st2)
 | cmd {res v s b e z:List Nat} {ws:List V} {items:List (List Nat)} {c:ZF} {st st1 st2:w.St} {o:AD w}:DO g w h d ws st (.ok items st1)->DP g w h d items st1 (.ok (.str v) st2)->eE g T d false z c->JG g w h d T v z c st2 o->JG g w h d T res s (.ok ws b e z) st o
noncomputable def rK(g:G)(w:Wd)(h d:Nat)(T:List Nat)(st:w.St)(o:AD w):Prop:=∀ ⦃J:List O⦄,w.W st J->MA g d none 392 [.loc h, .str T] J (o.sp w st J)
theorem JG.inv{res s:List Nat}{c:ZF}{o:AD w}(h:JG g w h d T res s c st o):match c with
 | .none=>o= .ok (.str res) st
 | .err why=>∃t,UB s t/\why.length<=1000000/\o= .err (pD T (WH why ND) t t) st
 | _=>True:=by
 induction h with
 | none=>rfl
 | parseE h1 h2=>exact⟨_,h1,h2,rfl⟩
 | _=>trivial
theorem rN(P:Prog g)(H:mQ w h){c:ZF}{o:AD w}(hT:T.length<=100000)(hc:eE g T (d+4) false T c)(ht:JG g w h (d+4) T [] T c st o):rK g w h (d+5) T st o:=by
 intro J hw
 refine P.f392.run rfl rfl fun K en f=>?_
 have enOk:∀{v st1 gB},o= .ok v st1->K (.ok v) gB->IB w st J st1 gB->False:=fun q k a=>by subst q;exact en k .same ⟨rfl,a⟩
 have enEr:∀{l z st1 gB},o= .err z st1->K (.exn l) gB->IB w st J st1 gB->jD w st1 J.length gB l z->False:=fun q k a x=>by subst q;exact en k .same ⟨_,rfl,a,x⟩
 clear en
 have hs0:=tB.start hT
 have hse:tB T T.length []:=⟨Nat.le_refl _,by simp,hT⟩
 have hand:∀{K':Fl->List (Option V)->List O->Prop} (l:Nat) (aB:List O) (zz:Rz) (st2:w.St) (res b e t:List Nat) (n k:Nat) (x5 x6 x7 x8:Option V),o= .err (pD T zz t (t.take (t.length - e.length))) st2->tB T n b->UB b t->tB T k e->IB w st J st2 aB->jD w st2 J.length aB l zz->lJ zz->
  QP 84 5 (fun l=>dB g (d+4) (some l) xA.body.tl.tl.tl.fst.hb) K' (JF K) l [some (.loc h),some (.str T),some (.str res),some (.int (n:Int)),some (.int (k:Int)),x5,x6,x7,x8] aB->False:=by
  intro K' l aB zz st2 res b e t n k x5 x6 x7 x8 ho hb hk he ha hx hz p
  obtain⟨dl,xl,q1,q2,q3,q4,q5⟩:=hx
  refine p _ q4.at' _ (gX P q4.at' q5.at' q3 hz hb hk he) fun YF q9a p=>?_;obtain⟨j,e3⟩:=q9a
  subst e3
  have f4:=(q4.after (.app ha.ok j)).set_ne (.ad ((pD T zz t (t.take (t.length - e.length))).ad xl)) (k:=dl) (by lia)
  have g5:=q5.after (.app ha.ok j)
  exact enEr ho (p _ _ f4.at' (.inr rfl)) ((ha.push j).set _ q2 g5.own) ⟨dl,xl,q1,q2,q3,f4,g5.set _⟩
 obtain⟨x,y,q,hcat,c1⟩:=hc 0 _ (.inr ⟨rfl,rfl⟩) hs0
 have key:∀(Pw:Nat->List (Option V)->List O->Prop) (u0:∀(k:Nat) (Z:List (Option V)) (J:List O),Pw k Z J->dT g (d+4) none (.e (.cmp .IsNot (.var 6) .none)) Z J
  (fun J=>dB g (d+4) none xA.body.tl.tl.tl.fst.tb.tl.fst.wb Z J (vI (Pw 0) (wM (fun Z J=>dB g (d+4) none xA.body.tl.tl.tl.tl Z J (cF K) (JF K)) (cF K))) (QP 84 5 (fun l=>dB g (d+4) (some l) xA.body.tl.tl.tl.fst.hb) (wM (fun Z J=>dB g (d+4) none xA.body.tl.tl.tl.tl Z J (cF K) (JF K)) (cF K)) (JF K)))
  (fun J=>wM (fun Z J=>dB g (d+4) none xA.body.tl.tl.tl.tl Z J (cF K) (JF K)) (cF K) .next Z J) (fun l J=>QP 84 5 (fun l=>dB g (d+4) (some l) xA.body.tl.tl.tl.fst.hb) (wM (fun Z J=>dB g (d+4) none xA.body.tl.tl.tl.tl Z J (cF K) (JF K)) (cF K)) (JF K) l Z J))
  (res s:List Nat) (c:ZF) (st1:w.St) (o':AD w),JG g w h (d+4) T res s c st1 o'->o'=o->∀(gB:List O) (n x y q:Nat) (x5 x6 x7 x8:Option V),tB T n s->IB w st J st1 gB->c.at T x y q->
  (c.sp gB x y q).K (fun v J=>Pw 0 [some (.loc h),some (.str T),some (.str res),some (.int (n:Int)),some (.int (T.length:Int)),x5,some v,x7,x8] J) (fun l J=>QP 84 5 (fun l=>dB g (d+4) (some l) xA.body.tl.tl.tl.fst.hb) (wM (fun Z J=>dB g (d+4) none xA.body.tl.tl.tl.tl Z J (cF K) (JF K)) (cF K)) (JF K) l [some (.loc h),some (.str T),some (.str res),some (.int (n:Int)),some (.int (T.length:Int)),x5,x6,x7,x8] J)->False:=by
  intro Pw hP res s c st1 o' ht
  induction ht with
  | @none res s st1=>
    intro eo gB n x y q x5 x6 x7 x8 hn ha hat p
    exact enOk eo.symm (hP _ _ _ p false rfl) ha
  | @parseE res s t why st1 hk hwl=>
    intro eo gB n x y q x5 x6 x7 x8 hn ha hat p
    exact hand _ _ _ _ _ _ _ t n _ _ _ _ _ (by rw[List.length_nil,Nat.sub_zero,List.take_length];exact eo.symm) hn hk hse (ha.push _) (jD.raise ha).2 ⟨hwl,Nat.zero_le _⟩ p
  | @wordE res s b e z t ws zz st1 st2 hws hk hzz=>
    rintro eo gB n x y q x5 x6 x7 x8 hn ha ⟨hb,he,hz,_⟩ p
    obtain⟨dl,kvs,Hh⟩:=H ha.ok
    exact hP _ _ _ p true rfl _ Hh.obj _ Hh.ad (Hh.no _ rfl) _ (hws ha.ok) fun l aB ⟨ha2,hx⟩ p=>hand _ _ _ _ _ _ _ t x y _ _ _ _ eo.symm hb hk he (ha.trans ha2) (hx.le ha.len) hzz p
  | @callE res s b e z t ws items zz st1 st2 st3 hws hcl hk hzz=>
    rintro eo gB n x y q x5 x6 x7 x8 hn ha ⟨hb,he,hz,_⟩ p
    obtain⟨dl,kvs,Hh⟩:=H ha.ok
    exact hP _ _ _ p true rfl _ Hh.obj _ Hh.ad (Hh.no _ rfl) _ (hws ha.ok) fun aB ⟨ha2,hm2⟩ p=>p _ (hcl ha2.ok hm2) fun l YF ⟨ha3,hx⟩ p=>
     hand _ _ _ _ _ _ _ t x y _ _ _ _ eo.symm hb hk he ((ha.trans ha2).trans ha3) (hx.le (Nat.le_trans ha.len ha2.len)) hzz p
  | @cmd res v s b e z ws items c' st1 st2 st3 o' hws hcl hcm ht ih=>
    rintro hq gB n x y q x5 x6 x7 x8 hn ha ⟨hb,he,hz,_⟩ p
    obtain⟨dl,kvs,Hh⟩:=H ha.ok
    obtain⟨x',y',q',hat,c1⟩:=hcm q _ (.inr ⟨rfl,rfl⟩) hz
    exact hP _ _ _ p true rfl _ Hh.obj _ Hh.ad (Hh.no _ rfl) _ (hws ha.ok) fun aB ⟨ha2,hm2⟩ p=>p _ (hcl ha2.ok hm2) fun YF ha3 p=>
     ih hq YF q x' y' q' _ _ _ _ hz ((ha.trans ha2).trans ha3) hat (p _ c1)
 have p:=f _ c1
 clear f c1
 have iv:=ht.inv
 cases c with
 | none=>exact p fun Pw hP h0=>enOk iv (hP _ _ _ h0 false rfl) (.refl hw)
 | err why=>
   obtain⟨t,hk,hwl,eo⟩:=iv
   exact hand _ _ _ _ _ _ _ t 0 _ _ _ _ _ (by rw[List.length_nil,Nat.sub_zero,List.take_length];exact eo) hs0 hk hse (.app hw _) (jD.raise (.refl hw)).2 ⟨hwl,Nat.zero_le _⟩ p
 | ok ws b e z=>exact p fun Pw hP h0=>key Pw hP [] T _ st o ht rfl J 0 x y q _ none _ _ hs0 (.refl hw) hcat h0
end
section
variable{g:G}{d:Nat}{hd:Option Nat}{J LA BD:List O}{T s:List Nat}{n:Nat}
theorem zT{l:Nat}{kvs:List (List Nat×V)}{ep:Nat}{a:List Nat}(hl:J[l]?=some (.dict kvs ep)):yP J (.str a) (.loc l)=some (TA a kvs).isSome:=by
 show(dictAt J l).map _=_;rw[nF hl];rfl
theorem bV{l:Nat}{kvs:List (List Nat×V)}{ep:Nat}{a:List Nat}{v:V}(hl:J[l]?=some (.dict kvs ep))(hk:TA a kvs=some v):CR g J (.loc l) (.str a)=some v:=by
 show(dictAt J l).bind _=_;rw[nF hl];exact hk
theorem lC{l:Nat}{vs:List V}{i:Int}{v:V}(hl:J[l]?=some (.list vs))(hk:jQ vs i=some v):CR g J (.loc l) (.int i)=some v:=by
 show(CB J l).bind _=_;rw[XA hl];exact hk
theorem uW{l:Nat}{vs:List V}(hl:J[l]?=some (.list vs)):cM J (.loc l)=some (!vs.isEmpty):=by
 show(match J[l]? with | some (.list vs)=>some (!vs.isEmpty) | some (.dict kvs _)=>some (!kvs.isEmpty) | _=>none)=_;rw[hl]
theorem NZ{s:List Nat}{C:Addr}{Q:V->List O->Prop}(hC:va C=true)(h:Q (.bool false) J):EH g hd (.builtin "isinstance") [.str s, .val (.ref C)] J Q:=⟨hC,h⟩
theorem pd{vs:List V}{Q:V->List O->Prop}(h:Q (.bool true) J):EH g hd (.builtin "isinstance") [.tup vs, .val (.type "tuple")] J Q:=⟨rfl,h⟩
theorem WY{l:Nat}{kvs:List (List Nat×V)}{ep:Nat}{a:List Nat}{v:V}(hl:J[l]?=some (.dict kvs ep))(hn:kvs.length<=100000):jE J (.loc l) (.str a) v fun LA=>∃ep,LA=J.set l (.dict (VB a v kvs) ep):=
 ⟨kvs,nF hl,hn,fun ep=>⟨ep,rfl⟩⟩
theorem Ie{l:Nat}{kvs:List (List Nat×V)}{ep:Nat}{k:List Nat}{Q:V->List O->Prop}(hl:J[l]?=some (.dict kvs ep))(hk:TA k kvs=none)(h:Q .none J):lE J l kvs [112,111,112] [.str k, .none] Q:=by
 unfold lE;rw[if_pos rfl];exact⟨rfl,hk,h⟩
theorem KN{l dl:Nat}{C:Addr}{kvs:List (List Nat×V)}{n:List Nat}{v:V}(hl:J[l]?=some (.inst C dl))(hd:J[dl]?=some (.ad kvs))(ht:PE C n=true)(hk:TA n kvs=some v)(ho:aG v=true):wH g J (.loc l) n=some v:=
 let ⟨_,a,b⟩:=fQ (QV1:=fun x=>x=v) hl hd ht hk ho rfl
 b ▸ a
theorem XY{l dl:Nat}{C:Addr}{kvs:List (List Nat×V)}{n:List Nat}{v:V}{Q:List O->Prop}(hl:J[l]?=some (.inst C dl))(hd:J[dl]?=some (.ad kvs))(ht:PE C n=true)(hk:Nat.ble kvs.length 1000=true)(hn:Nat.ble n.length 1000=true)(h:Q (J.set dl (.ad (VB n v kvs)))):tH g J (.loc l) n v Q:=
 dR hl hd ht (Nat.le_of_ble_eq_true hk) (Nat.le_of_ble_eq_true hn) h
theorem Sp.pass{S:Sp}{K:V->List O->Prop}{E:Nat->List O->Prop}(p:S.K K E)(k:∀{v J},K v J->S.R (.ok v) J->False)(e:∀{l J},E l J->S.R (.exn l) J->False):False:=by
 induction S using Sp.casesOn with
 | «at» r J=>induction r using bF.casesOn with
   | ok v=>exact k p ⟨rfl,rfl⟩
   | exn l=>exact e p ⟨rfl,rfl⟩
 | to v Φ=>exact p fun J h q=>k q ⟨rfl,h⟩
 | exn Φ=>exact p fun l J h q=>e q ⟨l,rfl,h⟩
 | val Φ=>exact p fun v J h q=>k q ⟨v,rfl,h⟩
theorem MC{l:Nat}{x:O}(h:J[l]?=some x):l < J.length:=(List.getElem?_eq_some_iff.mp h).1
structure HL where
 h:Nat
 dl:Nat
 tl:Nat
 il:Nat
 vl:Nat
 cl:Nat
 fl:Nat
 cmds:List (List Nat×V)
structure mK where
 nm:List Nat
 l:Nat
 al:Nat
 tr:Nat
 set:Bool
 val:List Nat
 wr:Int
structure uH where
 spent:Nat
 depth:Nat
 vars:List mK
 junk:Bool
noncomputable def tD(L:HL)(spent depth:Nat):List (List Nat×V):=[([116,111,111,108,115], .loc L.tl),([105,110,108,105,110,101], .loc L.il),([108,105,109,105,116], .int 40),([102,117,101,108], .none),([100,101,112,116,104], .int (depth:Int)),([115,112,101,110,116], .int (spent:Int)),([101,112,111,99,104], .int 0),([102,114,97,109,101], .none),([99,111,114,111,117,116,105,110,101], .none),([118,97,114,115], .loc L.vl),([99,111,109,109,97,110,100,115], .loc L.cl),([102,105,114,115,116,115], .loc L.fl)]
noncomputable def uG(v:mK):List (List Nat×V):=[([107,105,110,100], .str (if v.set then[115,99,97,108,97,114]else[110,111,110,101])),([118,97,108,117,101], .str v.val),([116,114,97,99,101,115], .loc v.tr),([105,115,95,98,117,115,121], .bool false),([105,115,95,101,108,101,109,101,110,116], .bool false),([119,114,105,116,101,115], .int v.wr)]
noncomputable def WF(v:mK):List Nat×V:=(v.nm, .loc v.l)
structure JC(L:HL)(st:uH)(J:List O):Prop where
 h:J[L.h]?=some (.inst 643 L.dl)
 dl:J[L.dl]?=some (.ad (tD L st.spent st.depth))
 tl:∃ep,J[L.tl]?=some (.dict [([114,117,110], .val (.ref 392))] ep)
 vl:∃ep,∃rest,J[L.vl]?=some (.dict (st.vars.map WF++rest) ep)/\(st.junk=false->rest=[])
 cl:∃ep,J[L.cl]?=some (.dict L.cmds ep)
 vars:∀v∈st.vars,J[v.l]?=some (.inst 360 v.al)/\J[v.al]?=some (.ad (uG v))
 small:st.vars.length<=1000
 ne:L.vl≠L.cl/\L.vl≠L.tl/\L.tl≠L.cl
noncomputable def SG(L:HL)(st:uH)(l:Nat):Prop:=l=L.h\/l=L.dl\/l=L.tl\/l=L.vl\/l=L.cl\/∃v∈st.vars,l=v.l\/l=v.al
structure uY extends Wd where
 lists:∀{st:St} {J:List O} {l:Nat},W st J->own st l->∃vs,J[l]?=some (.list vs)
theorem JC.at{L:HL}{st:uH}{l:Nat}(H:JC L st J)(h:SG L st l):∃x,J[l]?=some x/\∀vs,x≠ .list vs:=by
 rcases h with rfl | rfl | rfl | rfl | rfl | ⟨v,hv,rfl | rfl⟩
 ·exact⟨_,H.h,fun u0=>O.noConfusion⟩
 ·exact⟨_,H.dl,fun u0=>O.noConfusion⟩
 ·exact H.tl.elim fun u0 e=>⟨_,e,fun u0=>O.noConfusion⟩
 ·exact H.vl.elim fun u0 e=>e.elim fun u0 e=>⟨_,e.1,fun u0=>O.noConfusion⟩
 ·exact H.cl.elim fun u0 e=>⟨_,e,fun u0=>O.noConfusion⟩
 ·exact⟨_,(H.vars v hv).1,fun u0=>O.noConfusion⟩
 ·exact⟨_,(H.vars v hv).2,fun u0=>O.noConfusion⟩
theorem JC.lt{L:HL}{st:uH}{l:Nat}(H:JC L st J)(h:SG L st l):l < J.length:=(H.at h).elim fun u0 e=>MC e.1
theorem JC.noList{L:HL}{st:uH}{l:Nat}(H:JC L st J)(h:SG L st l){vs:List V}:J[l]?≠some (.list vs):=fun q=>(H.at h).elim fun u0 e=>e.2 vs (Option.some.inj (e.1.symm.trans q))
theorem JC.cong{L:HL}{st:uH}(H:JC L st J)(h:∀l,SG L st l->LA[l]?=J[l]?):JC L st LA where
 h:=(h _ (.inl rfl)).trans H.h
 dl:=(h _ (.inr (.inl rfl))).trans H.dl
 tl:=H.tl.elim fun e1 e2=>⟨e1,(h _ (.inr (.inr (.inl rfl)))).trans e2⟩
 vl:=H.vl.elim fun e1 e2=>e2.elim fun e2 e=>⟨e1,e2,(h _ (.inr (.inr (.inr (.inl rfl))))).trans e.1,e.2⟩
 cl:=H.cl.elim fun e1 e2=>⟨e1,(h _ (.inr (.inr (.inr (.inr (.inl rfl)))))).trans e2⟩
 vars:=fun v hv=>⟨(h _ (.inr (.inr (.inr (.inr (.inr ⟨v,hv, .inl rfl⟩)))))).trans (H.vars v hv).1,(h _ (.inr (.inr (.inr (.inr (.inr ⟨v,hv, .inr rfl⟩)))))).trans (H.vars v hv).2⟩
 small:=H.small
 ne:=H.ne
noncomputable def JB(L:HL)(x:uY):Wd where
 St:=uH×x.St
 W st J:=JC L st.1 J/\x.W st.2 J
 own st l:=SG L st.1 l\/x.own st.2 l
 lt H h:=h.elim H.1.lt (x.lt H.2)
 cong H h:=⟨H.1.cong fun l q=>h l (.inl q),x.cong H.2 fun l q=>h l (.inr q)⟩
theorem xP{n:List Nat}:∀{kvs:List (List Nat×V)},TA n kvs≠none->n∈kvs.map (·.1)
 | [],h=>(h rfl).elim
 | (k,v)::r,h=>by
   by_cases q:k=n
   ·subst q;exact List.mem_cons_self
   ·exact List.mem_cons_of_mem _ (xP fun e=>h ((if_neg q).trans e))
theorem ca{L:HL}{sp dp:Nat}(n:List Nat)(h:(uL 643 n).isSome=true):TA n (tD L sp dp)=none:=
 Classical.byContradiction fun q=>by
  have a:((tD L sp dp).map (·.1)).all (fun m=>(uL 643 m).isNone)=true:=rfl
  have:=List.all_eq_true.mp a n (xP q)
  cases e:uL 643 n <;>rw[e]at this h <;>contradiction
theorem JC.at'{L:HL}{st:uH}(H:JC L st J):eU L.h J L.dl (tD L st.spent st.depth):=
 ⟨H.h,by unfold oI;rw[H.dl],ca⟩
theorem MH{L:HL}{x:uY}:mQ (JB L x) L.h:=fun u0 u0 H=>⟨_,_,H.1.at'⟩
variable{L:HL}{x:uY}{hs hs':uH}{xs xs':x.St}
theorem FD{nm:List Nat}{v:V}(H:JC L hs J)(ht:PE 643 nm=true)(hv:TA nm (tD L hs.spent hs.depth)=some v)(ho:aG v=true):wH g J (.loc L.h) nm=some v:=KN H.h H.dl ht hv ho
theorem LS{nm:List Nat}{v:V}{Q:List O->Prop}(H:JC L hs J)(ht:PE 643 nm=true)(hn:Nat.ble nm.length 1000=true)(k:Q (J.set L.dl (.ad (VB nm v (tD L hs.spent hs.depth))))):tH g J (.loc L.h) nm v Q:=XY H.h H.dl ht rfl hn k
theorem LC{l k:Nat}{x y z:O}(hx:J[k]?=some x)(hy:J[l]?=some y)(ne:y≠x):(J.set k z)[l]?=some y:=
 (List.getElem?_set_ne fun q=>ne (Option.some.inj (hy.symm.trans ((congrArg (J[·]?) q.symm).trans hx)))).trans hy
theorem qE(H:(JB L x).W (hs,xs) J)(sp dp:Nat):IB (JB L x) (hs,xs) J ({hs with spent:=sp,depth:=dp},xs) (J.set L.dl (.ad (tD L sp dp))) where
 ok:=⟨{
  h:=LC H.1.dl H.1.h O.noConfusion
  dl:=List.getElem?_set_self (MC H.1.dl)
  tl:=H.1.tl.elim fun u0 e=>⟨_,LC H.1.dl e O.noConfusion⟩
  vl:=H.1.vl.elim fun u0 e=>e.elim fun u0 e=>⟨_,_,LC H.1.dl e.1 O.noConfusion,e.2⟩
  cl:=H.1.cl.elim fun u0 e=>⟨_,LC H.1.dl e O.noConfusion⟩
  vars:=fun v hv=>⟨LC H.1.dl (H.1.vars v hv).1 O.noConfusion,LC H.1.dl (H.1.vars v hv).2 fun q=>by injection q with q;injection q with q;injection q with q;cases q⟩
  small:=H.1.small
  ne:=H.1.ne},x.cong H.2 fun l q=>(x.lists H.2 q).elim fun vs e=>(LC H.1.dl e O.noConfusion).trans e.symm⟩
 len:=by simp
 keep:=fun l h1 h2=>List.getElem?_set_ne fun e=>h2 (.inl (.inr (.inl e.symm)))
 own:=fun l q=> .inl q
end
section
variable{g:G}{d:Nat}{hd:Option Nat}{J LA BD:List O}{T s:List Nat}{n:Nat}{L:HL}{x:uY}{hs hs':uH}{xs xs':x.St}
theorem dY(P:Prog g)(H:JC L hs J):MA g (d+1) hd 421 [.loc L.h, .str [114,117,110]] J (.at (.ok (.val (.ref 392))) J):=
 P.f421.run rfl rfl fun K e f=>H.tl.elim fun ep ht=>e (f _ (FD H rfl rfl rfl) _ (zT ht) false rfl _ (FD H rfl rfl rfl) _ (bV ht rfl)) .same ⟨rfl,rfl⟩
theorem iW(P:Prog g)(H:(JB L x).W (hs,xs) J):MA g (d+1) hd 428 [.loc L.h] J (.to .none fun LA=>IB (JB L x) (hs,xs) J ({hs with spent:=hs.spent+1},xs) LA):=
 P.f428.run rfl rfl fun K e f=>by
   have A:=qE H (hs.spent+1) hs.depth
   exact e (f _ (FD H.1 rfl rfl rfl) (J.set L.dl (.ad (tD L (hs.spent+1) hs.depth))) (fun {Q} h=>LS H.1 rfl rfl h) _ (FD A.ok.1 rfl rfl rfl) false rfl) .same ⟨rfl,A⟩
noncomputable def AD.map{w:Wd}(f:w.St->w.St):AD w->AD w
 | .ok v st=> .ok v (f st)
 | .err z st=> .err z (f st)
noncomputable def AD.st{w:Wd}:AD w->w.St
 | .ok _ st=>st
 | .err _ st=>st
theorem nO(P:Prog g){o:AD (JB L x)}(hdp:hs.depth < 40)(hr:rK g (JB L x) L.h (d+1) T ({hs with depth:=hs.depth+1},xs) o)(ho:o.st.1.depth=hs.depth+1):
 HT g (JB L x) L.h (d+2) T (hs,xs) (o.map fun st=>({st.1 with depth:=hs.depth},st.2)):=fun {J} H=>
 P.f442.run rfl rfl fun K e f=>by
   have A:=qE H hs.spent (hs.depth+1)
   have p:=f _ (FD H.1 rfl rfl rfl) _ (FD H.1 rfl rfl rfl) false (decide_eq_false (by dsimp only;lia)) _ H.1.at'.obj _ H.1.at'.ad (H.1.at'.no _ rfl) _ (dY P H.1) _ (FD H.1 rfl rfl rfl) (J.set L.dl (.ad (tD L hs.spent (hs.depth+1)))) (fun {Q} h=>LS H.1 rfl rfl h) _ (hr A.ok)
   cases o with
   | ok v st=>
     obtain⟨⟨sp,dp,vs,jk⟩,xs'⟩:=st
     have ho:dp=hs.depth+1:=ho
     subst ho
     exact p fun aB A2 p=>e (p _ (FD A2.ok.1 rfl rfl rfl) (aB.set L.dl (.ad (tD L sp hs.depth))) (fun {Q} h=>LS A2.ok.1 rfl rfl (by rw[show((hs.depth+1:Nat):Int) - 1=hs.depth by lia];exact h))) .same ⟨rfl,(A.trans A2).trans (qE A2.ok sp hs.depth)⟩
   | err z st=>
     obtain⟨⟨sp,dp,vs,jk⟩,xs'⟩:=st
     have ho:dp=hs.depth+1:=ho
     subst ho
     exact p fun l aB ⟨A2,hx⟩ p=>e (p _ (FD A2.ok.1 rfl rfl rfl) (aB.set L.dl (.ad (tD L sp hs.depth))) (fun {Q} h=>LS A2.ok.1 rfl rfl (by rw[show((hs.depth+1:Nat):Int) - 1=hs.depth by lia];exact h))) .same ⟨l,rfl,(A.trans A2).trans (qE A2.ok sp hs.depth),(hx.after (qE A2.ok sp hs.depth)).le A.len⟩
noncomputable def Hc(g:G)(x:uY)(L:HL)(d:Nat)(f:Addr)(data:V)(items:List (List Nat))(st:(JB L x).St)(o:AD (JB L x)):Prop:=∀ ⦃J:List O⦄ ⦃l:Nat⦄,(JB L x).W st J->QD (JB L x) st J l (.list (items.map .str))->MA g d none f [.loc L.h, .loc l,data] J (o.sp (JB L x) st J)
theorem uZ(P:Prog g){f:Addr}{data v1 v2:V}{S:Sp}(hk:PZ f=true)(hdn:gE data=some false)(h:MA g d none f [v1,v2,data] J S):MA g (d+1) none 526 [v1,v2, .val (.ref f),data] J S:=
 P.f526.run rfl rfl fun K e p=>by
   have p:match gE data with | some b=>_ | none=>True:=p
   rw[hdn]at p
   have p:match PZ f with | true=>_ | false=>True:=p false rfl
   rw[hk]at p
   exact Sp.pass (S:=S) (K:=fun v J=>K (.ok v) J) (E:=fun l J=>K (.exn l) J) (p S h) (fun k r=>e k .same r) fun k r=>e k .same r
theorem kX(P:Prog g){f:Addr}{data:V}{nm:List Nat}{args:List (List Nat)}{o:AD (JB L x)}(hf:TA nm L.cmds=some (.tup [.val (.ref f),data]))(hk:PZ f=true)(hdn:gE data=some false)
 (ho:match o with | .ok v _=>∃s,v= .str s | .err _ _=>True) (ha:Hc g x L d f data (nm::args) ({hs with spent:=hs.spent+1},xs) o):DP g (JB L x) L.h (d+3) (nm::args) (hs,xs) o:=fun {J l} H hm=>by
 have hb:MA g (d+2) none 640 [.loc L.h, .loc l] J (o.sp (JB L x) (hs,xs) J):=
  P.f640.run rfl rfl fun K e p=>by
    obtain⟨ep,hc⟩:=H.1.cl
    refine p _ (lC hm.at' (v:= .str nm) rfl) _ (FD H.1 rfl rfl rfl) _ (zT hc) false (by rw[hf];rfl) _ H.1.at'.obj _ H.1.at'.ad (H.1.at'.no _ rfl) _ (iW P H) fun aB A2 p=>?_
    obtain⟨ep2,hc2⟩:=A2.ok.1.cl
    have hm2:=hm.after A2
    have p:=p _ (FD A2.ok.1 rfl rfl rfl) _ (lC hm2.at' (v:= .str nm) rfl) _ (bV hc2 hf) _ (uZ P hk hdn (ha A2.ok hm2))
    cases o with
    | ok v st=>exact p fun YF A3 p=>e p .same ⟨rfl,A2.trans A3⟩
    | err z st=>exact p fun l YF q p=>e p .same ⟨l,rfl,A2.trans q.1,q.2.le A2.len⟩
 exact P.f456.run rfl rfl fun K e p=>by
  have p:=p _ (uW hm.at') true rfl _ H.1.at'.obj _ H.1.at'.ad (H.1.at'.no _ rfl) _ hb
  cases o with
  | ok v st=>
    obtain⟨s,rfl⟩:=ho
    exact p fun YF A3 p=>e (p _ _ (NZ rfl) false rfl _ _ (NZ rfl) false rfl) .same ⟨rfl,A3⟩
  | err z st=>exact p fun l YF q p=>e p .same ⟨l,rfl,q⟩
theorem RT(P:Prog g){nm:List Nat}{args:List (List Nat)}(hf:TA nm L.cmds=none)(hn:nm.length<=1000):DP g (JB L x) L.h (d+5) (nm::args) (hs,xs) (.err (WH ([105,110,118,97,108,105,100,32,99,111,109,109,97,110,100,32,110,97,109,101,32,34]++nm++[34]) (.tup [.str [84,67,76], .str [76,79,79,75,85,80], .str [67,79,77,77,65,78,68], .str nm])) (hs,xs)):=fun {J l} H hm=>by
 have hb:MA g (d+4) none 640 [.loc L.h, .loc l] J (AD.sp (JB L x) (hs,xs) J (.err (WH ([105,110,118,97,108,105,100,32,99,111,109,109,97,110,100,32,110,97,109,101,32,34]++nm++[34]) (.tup [.str [84,67,76], .str [76,79,79,75,85,80], .str [67,79,77,77,65,78,68], .str nm])) (hs,xs))):=
  P.f640.run rfl rfl fun K e p=>by
    obtain⟨ep,hc⟩:=H.1.cl
    exact e (p _ (lC hm.at' (v:= .str nm) rfl) _ (FD H.1 rfl rfl rfl) _ (zT hc) true (by rw[hf];rfl) _ (lC hm.at' (v:= .str nm) rfl) _ (qD (by simp;exact BB hn)) _ (qD (by simp;exact TD hn)) _ (lC hm.at' (v:= .str nm) rfl) _ (yR P) _ _ (AA ..) (.inl rfl)) .same ⟨_,rfl,jD.raise (w:=JB L x) (.refl H)⟩
 exact P.f456.run rfl rfl fun K e p=>p _ (uW hm.at') true rfl _ H.1.at'.obj _ H.1.at'.ad (H.1.at'.no _ rfl) _ hb fun l YF q p=>e p .same ⟨l,rfl,q⟩
theorem rV{vars:List mK}{v:mK}{n':List Nat}(hv:vars.find? (fun v=>v.nm=n')=some v):TA n' (vars.map WF)=some (.loc v.l):=by
 induction vars with
 | nil=>cases hv
 | cons a r ih=>
   simp only[List.find?_cons]at hv
   simp only[List.map_cons,WF,TA.r1,TA.r2]
   by_cases h:a.nm=n'
   ·rw[decide_eq_true h]at hv;cases hv;rw[if_pos h]
   ·rw[decide_eq_false h]at hv;rw[if_neg h];exact ih hv
theorem cN{k:List Nat}{v:V}(r:List (List Nat×V)):∀{kvs:List (List Nat×V)},TA k kvs=some v->TA k (kvs++r)=some v
 | (k',v')::q,h=>by
   by_cases e:k'=k
   ·exact(if_pos e).trans ((if_pos e).symm.trans h)
   ·exact(if_neg e).trans (cN r ((if_neg e).symm.trans h))
theorem aO{n':List Nat}:∀{vars:List mK},(∀v∈vars,v.nm≠n')->TA n' (vars.map WF)=none
 | [],_=>rfl
 | a::r,h=>(if_neg (h a List.mem_cons_self)).trans (aO fun v q=>h v (List.mem_cons_of_mem _ q))
theorem SR{n':List Nat}{l:Nat}:∀{vars:List mK},(∀v∈vars,v.nm≠n')->VB n' (.loc l) (vars.map WF)=vars.map WF++[(n', .loc l)]
 | [],_=>rfl
 | a::r,h=>(if_neg (h a List.mem_cons_self)).trans (congrArg (WF a:: ·) (SR fun v q=>h v (List.mem_cons_of_mem _ q)))
theorem LW(P:Prog g){nm:List Nat}{v:mK}(H:JC L hs J)(hv:hs.vars.find? (fun v=>v.nm=nm)=some v):MA g (d+2) none 555 [.loc L.h, .str nm] J (.at (.ok (.loc v.l)) J):=by
 obtain⟨ep,rst,hvl,_⟩:=H.vl
 have hlk:=cN rst (rV hv)
 have hb:MA g (d+1) none 498 [.loc L.vl, .str nm] J (.at (.ok (.loc v.l)) J):=P.f498.run rfl rfl fun K e p=>e (p _ (zT hvl) false (by rw[hlk];rfl) _ (bV hvl hlk)) .same ⟨rfl,rfl⟩
 exact P.f555.run rfl rfl fun K e p=>e (p _ (FD H rfl rfl rfl) _ hb) .same ⟨rfl,rfl⟩
theorem iS(P:Prog g){nm:List Nat}{v:mK}(hv:hs.vars.find? (fun v=>v.nm=nm)=some v)(hset:v.set=true):GN g (JB L x) L.h (d+3) nm (hs,xs) (.ok (.str v.val) (hs,xs)):=fun {J} H=>by
 obtain⟨h1,h2⟩:=H.1.vars v (List.mem_of_find?_eq_some hv)
 have hb:MA g (d+2) none 562 [.loc L.h, .loc v.l, .str nm] J (.at (.ok (.str v.val)) J):=P.f562.run rfl rfl fun K e p=>e (p _ (KN h1 h2 rfl rfl rfl) false (by rw[hset];rfl) _ (KN h1 h2 rfl rfl rfl)) .same ⟨rfl,rfl⟩
 exact P.f576.run rfl rfl fun K e p=>e (p _ H.1.at'.obj _ H.1.at'.ad (H.1.at'.no _ rfl) _ H.1.at'.obj _ H.1.at'.ad (H.1.at'.no _ rfl) _ (LW P H.1 hv) _ hb) .same ⟨rfl, .refl H⟩
end
section
variable{g:G}{d:Nat}{hd:Option Nat}{J LA BD:List O}{T s:List Nat}{n:Nat}{L:HL}{x:uY}{hs hs':uH}{xs xs':x.St}
noncomputable def CN(n:Nat):HL:={h:=n+1,dl:=n,tl:=n+2,il:=n+3,vl:=n+4,cl:=n+5,fl:=n+6,cmds:=[]}
noncomputable def fR(L:HL)(fs:List (List Nat×V))(J:List O):Prop:=(∃ep,J[L.il]?=some (.dict [] ep))/\∃ep,J[L.fl]?=some (.dict fs ep)
theorem xJ{C:Addr}{kvs:List (List Nat×V)}{nm:List Nat}{v:V}{Q:List O->Prop}{j:List O}(ht:PE C nm=true)(hn:Nat.ble nm.length 1000=true)(hk:Nat.ble kvs.length 1000=true)(h:Q (J++ .ad (VB nm v kvs):: .inst C J.length::j)):
 tH g (J++ .ad kvs:: .inst C J.length::j) (.loc (J.length+1)) nm v Q:=
 XY (nB J _ 1) (AA ..) ht hk hn (by rw[VM];exact h)
theorem sN{C:Addr}{kvs:List (List Nat×V)}{nm:List Nat}{y:O}{Q:List O->Prop}{j:List O}(ht:PE C nm=true)(hn:Nat.ble nm.length 1000=true)(hk:Nat.ble kvs.length 1000=true)(h:Q (J++ .ad (VB nm (.loc (J.length+(j.length+2))) kvs):: .inst C J.length::(j++[y]))):
 tH g ((J++ .ad kvs:: .inst C J.length::j)++[y]) (.loc (J.length+1)) nm (.loc (J++ .ad kvs:: .inst C J.length::j).length) Q:=by
 rw[List.append_assoc,List.length_append];exact xJ ht hn hk h
noncomputable def dO(J:List O)(e1 e2 e3 e4 e5:Nat):List O:=J++ .ad (tD (CN J.length) 0 0):: .inst 643 J.length::[.dict [] e1, .dict [] e2, .dict [] e3, .dict [] e4, .dict [] e5]
theorem OR(P:Prog g):MA g (d+4) hd 643 [] J (.to (.loc (J.length+1)) fun LA=>∃e1 e2 e3 e4 e5,LA=dO J e1 e2 e3 e4 e5):=by
 have hi:MA g (d+1) hd 414 [.loc (J.length+1), .int 40, .none] (J++[.ad [], .inst 643 J.length]) (.to .none fun LA=>∃e1 e2,LA=J++ .ad ((tD (CN J.length) 0 0).take 9):: .inst 643 J.length::[.dict [] e1, .dict [] e2]):=
  P.f414.run rfl rfl fun K e f=>f rfl (Nat.zero_le _) fun e1 f=>f _ (sN rfl rfl rfl) rfl (Nat.zero_le _) fun e2 f=>e (f _ (sN rfl rfl rfl) _ (xJ rfl rfl rfl) _ (xJ rfl rfl rfl) _ (xJ rfl rfl rfl) _ (xJ rfl rfl rfl) _ (xJ rfl rfl rfl) _ (xJ rfl rfl rfl) _ (xJ rfl rfl rfl)) .same ⟨rfl,e1,e2,rfl⟩
 have hs:MA g (d+2) hd 541 [.loc (J.length+1)] (J++[.ad [], .inst 643 J.length]) (.to .none fun LA=>∃e1 e2 e3 e4 e5,LA=dO J e1 e2 e3 e4 e5):=
  P.f541.run rfl rfl fun K e f=>f _ hi fun gB ⟨e1,e2,q⟩ f=>by
    subst q
    exact f rfl (Nat.zero_le _) fun e3 f=>f _ (sN rfl rfl rfl) rfl (Nat.zero_le _) fun e4 f=>f _ (sN rfl rfl rfl) rfl (Nat.zero_le _) fun e5 f=>e (f _ (sN rfl rfl rfl)) .same ⟨rfl,e1,e2,e3,e4,e5,rfl⟩
 refine CallOk.up (P.c643 (d+2) hd [] J _ (CallOk.mono hs fun r LA q=>?_)) (by simp+arith only)
 obtain⟨rfl,q⟩:=q
 exact⟨rfl,rfl,q⟩
theorem jb(P:Prog g){XE:List O}{e1 e2 e3 e4 e5:Nat}:MA g (d+1) hd 399 [.loc (XE.length+1)] (dO XE e1 e2 e3 e4 e5)
 (.to .none fun LA=>LA.length=XE.length+7/\(∀l,l < XE.length->LA[l]?=XE[l]?)/\JC (CN XE.length) ⟨0,0,[],false⟩ LA/\fR (CN XE.length) [] LA):=
 P.f399.run rfl rfl fun K e f=>f _ (KN (nB XE _ 1) (AA ..) rfl (v:= .loc (XE.length+2)) rfl rfl) _ (WY (nB XE _ 2) (Nat.zero_le _)) fun LA ⟨ep,q⟩ p=>
   e p .same ⟨rfl,by
     unfold dO at q
     rw[pO]at q
     subst q
     exact⟨by simp,fun l hl=>List.getElem?_append_left hl,⟨nB XE _ 1,AA ..,⟨_,nB XE _ 2⟩,⟨_,[],nB XE _ 4,fun u0=>rfl⟩,⟨_,nB XE _ 5⟩,(fun v hv=>nomatch hv),Nat.zero_le _,by simp only[CN];lia⟩,⟨_,nB XE _ 3⟩,⟨_,nB XE _ 6⟩⟩⟩
noncomputable def AQ(nm:List Nat)(l al tr:Nat):mK:=⟨nm,l,al,tr,false,[],0⟩
theorem jY(P:Prog g):MA g (d+2) hd 360 [] J (.at (.ok (.loc (J.length+1))) (J++ .ad (uG (AQ T (J.length+1) J.length (J.length+2))):: .inst 360 J.length::[.list []])):=by
 have hs:MA g (d+1) hd 357 [.loc (J.length+1)] (J++[.ad [], .inst 360 J.length]) (.at (.ok .none) (J++ .ad (uG (AQ T (J.length+1) J.length (J.length+2))):: .inst 360 J.length::[.list []])):=
  P.f357.run rfl rfl fun K e f=>e (f _ (xJ rfl rfl rfl) _ (xJ rfl rfl rfl) _ (sN rfl rfl rfl) _ (xJ rfl rfl rfl) _ (xJ rfl rfl rfl) _ (xJ rfl rfl rfl)) .same ⟨rfl,rfl⟩
 refine P.c360 (d+1) hd [] J _ (CallOk.mono hs fun r LA q=>?_)
 obtain⟨rfl,q⟩:=q
 exact⟨rfl,rfl,q⟩
theorem bN{k:List Nat}{v:V}:∀{kvs:List (List Nat×V)},TA k kvs=none->TA k (kvs++[(k,v)])=some v
 | [],_=>if_pos rfl
 | (k',v')::r,h=>by
   by_cases e:k'=k
   ·cases (if_pos e).symm.trans h
   ·exact(if_neg e).trans (bN ((if_neg e).symm.trans h))
structure CO(L:HL)(x:uY)(hs:uH)(xs:x.St)(J:List O)(nm:List Nat)(LA:List O):Prop where
 ok:IB (JB L x) (hs,xs) J ({hs with vars:=hs.vars++[AQ nm (J.length+1) J.length (J.length+2)]},xs) LA
 junk:IB (JB L x) (hs,xs) J ({hs with junk:=true},xs) LA
 obj:LA[J.length+1]?=some (.inst 360 J.length)
 ad:LA[J.length]?=some (.ad (uG (AQ nm (J.length+1) J.length (J.length+2))))
theorem EK{w:mK}{l:Nat}(h:SG L {hs with vars:=hs.vars++[w]} l)(h1:J.length<=w.l)(h2:J.length<=w.al):SG L hs l\/J.length<=l:=by
 rcases h with q | q | q | q | q | ⟨v,hv,q⟩
 ·exact .inl (.inl q)
 ·exact .inl (.inr (.inl q))
 ·exact .inl (.inr (.inr (.inl q)))
 ·exact .inl (.inr (.inr (.inr (.inl q))))
 ·exact .inl (.inr (.inr (.inr (.inr (.inl q)))))
 ·rcases List.mem_append.mp hv with q2 | q2
  ·exact .inl (.inr (.inr (.inr (.inr (.inr ⟨v,q2,q⟩)))))
  ·rw[List.mem_singleton.mp q2]at q
   exact .inr (q.elim (fun e=>e ▸ h1) fun e=>e ▸ h2)
theorem NY{nm:List Nat}{ep ep2:Nat}{kvs:List (List Nat×V)}(H:(JB L x).W (hs,xs) J)(hvl:J[L.vl]?=some (.dict (hs.vars.map WF) ep))(hsm:hs.vars.length<=900)(hk:kvs=hs.vars.map WF++[(nm, .loc (J.length+1))]):
 CO L x hs xs J nm ((J++O.ad (uG (AQ nm (J.length+1) J.length (J.length+2)))::O.inst 360 J.length::[O.list []]).set L.vl (.dict kvs ep2)):=by
 subst hk
 obtain⟨H,X⟩:=H
 have H:JC L hs J:=H
 have hlt:=MC hvl
 generalize ej:[O.ad (uG (AQ nm (J.length+1) J.length (J.length+2))),O.inst 360 J.length,O.list []]=j
 generalize hz:O.dict (hs.vars.map WF++[(nm, .loc (J.length+1))]) ep2=z
 have old:∀{l:Nat} {y:O},J[l]?=some y->L.vl≠l->((J++j).set L.vl z)[l]?=some y:=fun h1 h2=>by
  rw[List.getElem?_set_ne h2,List.getElem?_append_left (MC h1)];exact h1
 have oldn:∀{l:Nat} {y:O},J[l]?=some y->(∀{kvs ep},y≠ .dict kvs ep)->((J++j).set L.vl z)[l]?=some y:=fun h1 h2=>
  old h1 fun q=>h2 (Option.some.inj (h1.symm.trans (q ▸ hvl)))
 have new:∀(i:Nat),((J++j).set L.vl z)[J.length+i]?=j[i]?:=fun i=>by
  rw[List.getElem?_set_ne (by exact Nat.ne_of_lt (BB hlt)),nB]
 have self:((J++j).set L.vl z)[L.vl]?=some z:=List.getElem?_set_self (by rw[List.length_append];exact BB hlt)
 have hx:x.W xs ((J++j).set L.vl z):=x.cong X fun l q=>(x.lists X q).elim fun vs e=>(oldn e O.noConfusion).trans e.symm
 have hold:∀v∈hs.vars,((J++j).set L.vl z)[v.l]?=some (.inst 360 v.al)/\((J++j).set L.vl z)[v.al]?=some (.ad (uG v)):=fun v q=>
  ⟨oldn (H.vars v q).1 O.noConfusion,oldn (H.vars v q).2 O.noConfusion⟩
 have hkeep:∀(l:Nat),l < J.length->¬(JB L x).own (hs,xs) l->((J++j).set L.vl z)[l]?=J[l]?:=fun l q1 q2=>by
  rw[List.getElem?_set_ne (fun e=>q2 (.inl (.inr (.inr (.inr (.inl e.symm)))))),List.getElem?_append_left q1]
 have hlen:J.length<=((J++j).set L.vl z).length:=by rw[List.length_set,List.length_append];exact Nat.le_add_right _ _
 have n1:((J++j).set L.vl z)[J.length+1]?=some (.inst 360 J.length):=(new 1).trans (by rw[<-ej];rfl)
 have n0:((J++j).set L.vl z)[J.length]?=some (.ad (uG (AQ nm (J.length+1) J.length (J.length+2)))):=(new 0).trans (by rw[<-ej];rfl)
 have ok:∀{hs':uH},hs'.spent=hs.spent->hs'.depth=hs.depth->(∃rest,z= .dict (hs'.vars.map WF++rest) ep2/\(hs'.junk=false->rest=[]))->(∀v∈hs'.vars,((J++j).set L.vl z)[v.l]?=some (.inst 360 v.al)/\((J++j).set L.vl z)[v.al]?=some (.ad (uG v)))->hs'.vars.length<=1000->JC L hs' ((J++j).set L.vl z):=fun e1 e2 ⟨rest,e3,e4⟩ e5 e6=>
  ⟨oldn H.h O.noConfusion,e1 ▸ e2 ▸ oldn H.dl O.noConfusion,H.tl.elim fun u0 e=>⟨_,old e H.ne.2.1⟩,⟨ep2,rest,self.trans (congrArg some e3),e4⟩,H.cl.elim fun u0 e=>⟨_,old e H.ne.1⟩,e5,e6,H.ne⟩
 refine⟨⟨⟨ok (hs':={hs with vars:=hs.vars++[AQ nm (J.length+1) J.length (J.length+2)]}) rfl rfl ⟨[],by rw[<-hz,List.append_nil,List.map_append];rfl,fun u0=>rfl⟩ (fun v hv=>?_) (by simp;exact TD hsm),hx⟩,hlen,hkeep,fun l q=>q.elim (fun q=>(EK q (Nat.le_succ _) (Nat.le_refl _)).elim (fun q=> .inl (.inl q)) .inr) fun q=> .inl (.inr q)⟩,
  ⟨⟨ok (hs':={hs with junk:=true}) rfl rfl ⟨[(nm, .loc (J.length+1))],hz.symm,fun q=>Bool.noConfusion q⟩ hold H.small,hx⟩,hlen,hkeep,fun l q=> .inl q⟩,n1,n0⟩
 rcases List.mem_append.mp hv with q | q
 ·exact hold v q
 ·rw[List.mem_singleton.mp q];exact⟨n1,n0⟩
theorem nN(P:Prog g){nm:List Nat}(H:(JB L x).W (hs,xs) J)(hv:∀v∈hs.vars,v.nm≠nm)(hj:hs.junk=false)(hsm:hs.vars.length<=900):
 MA g (d+4) none 555 [.loc L.h, .str nm] J (.to (.loc (J.length+1)) (CO L x hs xs J nm)):=by
 have hvl:∃ep,∃rest,J[L.vl]?=some (.dict (hs.vars.map WF++rest) ep)/\(hs.junk=false->rest=[]):=H.1.vl
 obtain⟨ep,rst,hvl,hrst⟩:=hvl
 rw[hrst hj,List.append_nil]at hvl
 have hlt:=MC hvl
 have hb:MA g (d+3) none 498 [.loc L.vl, .str nm] J (.to (.loc (J.length+1)) (CO L x hs xs J nm)):=
  P.f498.run rfl rfl fun K e p=>p _ (zT hvl) true (by rw[aO hv];rfl) _ (jY (T:=nm) P) _ (WY (kvs:=hs.vars.map WF) (ep:=ep) (by rw[List.getElem?_append_left hlt];exact hvl) (by rw[List.length_map];exact TD hsm)) fun LA ⟨ep2,q⟩ p=>by
    subst q
    exact e (p _ (bV (List.getElem?_set_self (by rw[List.length_append];exact BB hlt)) (by rw[SR hv];exact bN (aO hv)))) .same ⟨rfl,NY H hvl hsm (SR hv)⟩
 exact P.f555.run rfl rfl fun K e p=>p _ (FD H.1 rfl rfl rfl) _ hb fun LA N p=>e p .same ⟨rfl,N⟩
theorem DU(P:Prog g){nm:List Nat}(hv:∀v∈hs.vars,v.nm≠nm)(hj:hs.junk=false)(hsm:hs.vars.length<=900)(hnl:nm.length<=1000):
 GN g (JB L x) L.h (d+6) nm (hs,xs) (.err (WH ([99,97,110,39,116,32,114,101,97,100,32,34]++nm++[34,58,32,110,111,32,115,117,99,104,32,118,97,114,105,97,98,108,101]) (.tup [.str [84,67,76], .str [76,79,79,75,85,80], .str [86,65,82,78,65,77,69], .str nm])) ({hs with junk:=true},xs)):=fun {J} H=>
 P.f576.run rfl rfl fun K e p=>p _ H.1.at'.obj _ H.1.at'.ad (H.1.at'.no _ rfl) _ H.1.at'.obj _ H.1.at'.ad (H.1.at'.no _ rfl) _ (nN (d:=d+1) P H hv hj hsm) fun aB N p=>by
   have hn:MA g (d+4) none 491 [.str [114,101,97,100], .str nm] aB (.at (.ok (.loc aB.length)) (aB++vC aB.length ([99,97,110,39,116,32,114,101,97,100,32,34]++nm++[34,58,32,110,111,32,115,117,99,104,32,118,97,114,105,97,98,108,101]) (.tup [.str [84,67,76], .str [76,79,79,75,85,80], .str [86,65,82,78,65,77,69], .str nm]))):=
    P.f491.run rfl rfl fun K e p=>e (p _ (qD (by simp)) _ (qD (by simp)) _ (qD (by simp;exact BB hnl)) _ (qD (by simp;exact TD hnl)) _ (yR P)) .same ⟨rfl,rfl⟩
   have hr:MA g (d+5) none 562 [.loc L.h, .loc (J.length+1), .str nm] aB (.exn fun l LA=>l=aB.length/\LA=aB++vC aB.length ([99,97,110,39,116,32,114,101,97,100,32,34]++nm++[34,58,32,110,111,32,115,117,99,104,32,118,97,114,105,97,98,108,101]) (.tup [.str [84,67,76], .str [76,79,79,75,85,80], .str [86,65,82,78,65,77,69], .str nm])):=
    P.f562.run rfl rfl fun K e p=>e (p _ (KN N.obj N.ad rfl rfl rfl) true rfl _ hn _ _ (AA ..) (.inl rfl)) .same ⟨_,rfl,rfl,rfl⟩
   exact p _ hr fun l YF ⟨q1,q2⟩ p=>e p .same ⟨l,rfl,by subst q1;subst q2;exact jD.raise N.junk⟩
theorem Df{nm val:List Nat}{aB:List O}(H:(JB L x).W (hs,xs) J)(N:CO L x hs xs J nm aB)(hj:hs.junk=false):
 IB (JB L x) (hs,xs) J ({hs with vars:=hs.vars++[⟨nm,J.length+1,J.length,J.length+2,true,val,1⟩]},xs) (aB.set J.length (.ad (uG ⟨nm,J.length+1,J.length,J.length+2,true,val,1⟩))):=by
 obtain⟨⟨⟨H1,X1⟩,hl,hk,ho⟩,_,h1,h2⟩:=N
 generalize hw:(⟨nm,J.length+1,J.length,J.length+2,true,val,1⟩:mK)=w
 have e1:WF w=(nm, .loc (J.length+1)):=by rw[<-hw];rfl
 have hlen:(hs.vars++[w]).length<=1000:=by have:=H1.small;simpa using this
 obtain⟨ep3,r3,v1,v2⟩:=H1.vl
 refine⟨⟨⟨LC h2 H1.h O.noConfusion,?_,H1.tl.elim fun u0 e=>⟨_,LC h2 e O.noConfusion⟩,⟨ep3,r3,(LC h2 v1 O.noConfusion).trans ?_,v2⟩,H1.cl.elim fun u0 e=>⟨_,LC h2 e O.noConfusion⟩,fun v hv=>?_,hlen,H1.ne⟩,x.cong X1 fun l q=>(x.lists X1 q).elim fun vs e=>(LC h2 e O.noConfusion).trans e.symm⟩,by rw[List.length_set];exact hl,fun l q1 q2=>?_,fun l q=>?_⟩
 ·rw[List.getElem?_set_ne (by have:=MC H.1.dl;exact Nat.ne_of_gt this)];exact H1.dl
 ·simp only[List.map_append,List.map_cons,List.map_nil,e1];rfl
 ·rcases List.mem_append.mp hv with q | q
  ·have h3:=H1.vars v (List.mem_append.mpr (.inl q))
   exact⟨LC h2 h3.1 O.noConfusion,by rw[List.getElem?_set_ne (by have:=MC (H.1.vars v q).2;exact Nat.ne_of_gt this)];exact h3.2⟩
  ·rw[List.mem_singleton.mp q, <-hw]
   exact⟨LC h2 h1 O.noConfusion,List.getElem?_set_self (MC h2)⟩
 ·rw[List.getElem?_set_ne (by exact Nat.ne_of_gt q1)];exact hk l q1 q2
 ·exact q.elim (fun q=>(EK q (by rw[<-hw];exact Nat.le_succ _) (by rw[<-hw];exact Nat.le_refl _)).elim (fun q=> .inl (.inl q)) .inr) fun q=> .inl (.inr q)
theorem CX(P:Prog g){nm val:List Nat}(H:(JB L x).W (hs,xs) J)(hv:∀v∈hs.vars,v.nm≠nm)(hj:hs.junk=false)(hsm:hs.vars.length<=900):
 MA g (d+6) none 583 [.loc L.h, .str nm, .str val] J (.to (.str val) fun LA=>IB (JB L x) (hs,xs) J ({hs with vars:=hs.vars++[⟨nm,J.length+1,J.length,J.length+2,true,val,1⟩]},xs) LA):=
 P.f583.run rfl rfl fun K e p=>p _ H.1.at'.obj _ H.1.at'.ad (H.1.at'.no _ rfl) _ H.1.at'.obj _ H.1.at'.ad (H.1.at'.no _ rfl) _ (nN (d:=d+1) P H hv hj hsm) fun aB N p=>by
   have hlt:=MC N.ad
   have g1:∀{z:O},(aB.set J.length z)[J.length+1]?=some (.inst 360 J.length):=fun {z}=>by rw[List.getElem?_set_ne (by exact Nat.ne_of_lt (Nat.lt_succ_self _))];exact N.obj
   have g2:∀{z:O},(aB.set J.length z)[J.length]?=some z:=List.getElem?_set_self hlt
   have st:∀{kvs:List (List Nat×V)} {nm:List Nat} {v:V} {Q:List O->Prop},PE 360 nm=true->Nat.ble kvs.length 1000=true->Nat.ble nm.length 1000=true->Q (aB.set J.length (.ad (VB nm v kvs)))->tH g (aB.set J.length (.ad kvs)) (.loc (J.length+1)) nm v Q:=fun ht hk hn h=>XY g1 g2 ht hk hn (by rw[List.set_set];exact h)
   have hp:MA g (d+4) none 505 [.loc (J.length+1), .str [115,99,97,108,97,114], .str val] aB (.at (.ok (.str val)) (aB.set J.length (.ad (uG ⟨nm,J.length+1,J.length,J.length+2,true,val,1⟩)))):=
    P.f505.run rfl rfl fun K e p=>e (p _ (XY N.obj N.ad rfl rfl rfl) _ (st rfl rfl rfl) _ (KN g1 g2 rfl (v:= .int 0) rfl rfl) _ (st rfl rfl rfl)) .same ⟨rfl,rfl⟩
   have hw:MA g (d+5) none 569 [.loc L.h, .loc (J.length+1), .str nm, .str val] aB (.at (.ok (.str val)) (aB.set J.length (.ad (uG ⟨nm,J.length+1,J.length,J.length+2,true,val,1⟩)))):=
    P.f569.run rfl rfl fun K e p=>e (p _ hp) .same ⟨rfl,rfl⟩
   exact e (p _ hw) .same ⟨rfl,Df H N hj⟩
end
section
variable{g:G}{d:Nat}{hd:Option Nat}{J LA BD:List O}{T s:List Nat}{n:Nat}{L:HL}{hs hs':uH}
noncomputable def Lc(n:Nat)(c:List (List Nat×V)):HL:={CN n with cmds:=c}
noncomputable def UL(e:List Nat×Addr×V):List Nat×V:=(e.1, .tup [.val (.ref e.2.1),e.2.2])
theorem xF{f:List Nat×Addr×V->List Nat×V}(hf:∀e,(f e).1=e.1){k:List Nat}:∀{gs:List (List Nat×Addr×V)},(∀e∈gs,e.1≠k)->TA k (gs.map f)=none
 | [],_=>rfl
 | e::r,h=>(if_neg (hf e ▸ h e List.mem_cons_self)).trans (xF hf fun e h'=>h e (List.mem_cons_of_mem _ h'))
theorem FM{k:List Nat}{v:V}:∀{kvs:List (List Nat×V)},TA k kvs=none->VB k v kvs=kvs++[(k,v)]
 | [],_=>rfl
 | (k',v')::r,h=>by
   by_cases e:k'=k
   ·cases (if_pos e).symm.trans h
   ·exact(if_neg e).trans (congrArg ((k',v'):: ·) (FM ((if_neg e).symm.trans h)))
theorem wP{k:List Nat}{v:V}:∀{a b:List (List Nat×V)},TA k a=none->TA k (a++(k,v)::b)=some v
 | [],_,_=>if_pos rfl
 | (k',v')::r,b,h=>by
   by_cases e:k'=k
   ·cases (if_pos e).symm.trans h
   ·exact(if_neg e).trans (wP ((if_neg e).symm.trans h))
theorem rT{c c':List (List Nat×V)}{ep:Nat}(H:JC (Lc n c) hs J):JC (Lc n c') hs (J.set (n+5) (.dict c' ep)):=
 H.cl.elim fun ec hc=>
 have ne:∀{l:Nat} {y:O},J[l]?=some y->(∀{kvs ep},y≠ .dict kvs ep)->(J.set (n+5) (.dict c' ep))[l]?=some y:=fun q1 q2=>LC (k:=n+5) hc q1 q2
 {h:=ne H.h O.noConfusion,dl:=ne H.dl O.noConfusion
  tl:=H.tl.elim fun u0 e=>⟨_,(List.getElem?_set_ne (show n+5≠n+2 by exact Nat.ne_of_gt (by simp+arith only))).trans e⟩
  vl:=H.vl.elim fun u0 e=>e.elim fun u0 e=>⟨_,_,(List.getElem?_set_ne (show n+5≠n+4 by exact Nat.ne_of_gt (by simp+arith only))).trans e.1,e.2⟩
  cl:=⟨_,List.getElem?_set_self (MC hc)⟩
  vars:=fun v hv=>⟨ne (H.vars v hv).1 O.noConfusion,ne (H.vars v hv).2 O.noConfusion⟩
  small:=H.small,ne:=H.ne}
theorem fP{c f:List (List Nat×V)}{ef:Nat}{x:O}(H:JC (Lc n c) hs J)(hf:J[n+6]?=some (.dict f ef)):JC (Lc n c) hs (J.set (n+6) x):=
 have ne:∀{l:Nat} {y:O},J[l]?=some y->(∀{kvs ep},y≠ .dict kvs ep)->(J.set (n+6) x)[l]?=some y:=fun q1 q2=>LC hf q1 q2
 {h:=ne H.h O.noConfusion,dl:=ne H.dl O.noConfusion
  tl:=H.tl.elim fun u0 e=>⟨_,(List.getElem?_set_ne (show n+6≠n+2 by exact Nat.ne_of_gt (by simp+arith only))).trans e⟩
  vl:=H.vl.elim fun u0 e=>e.elim fun u0 e=>⟨_,_,(List.getElem?_set_ne (show n+6≠n+4 by exact Nat.ne_of_gt (by simp+arith only))).trans e.1,e.2⟩
  cl:=H.cl.elim fun u0 e=>⟨_,(List.getElem?_set_ne (show n+6≠n+5 by exact Nat.ne_of_gt (by simp+arith only))).trans e⟩
  vars:=fun v hv=>⟨ne (H.vars v hv).1 O.noConfusion,ne (H.vars v hv).2 O.noConfusion⟩
  small:=H.small,ne:=H.ne}
theorem FU(P:Prog g){nm:List Nat}{c f:List (List Nat×V)}{ei ec ef:Nat}(H:JC (Lc n c) hs J)(hc:J[n+5]?=some (.dict c ec))(hf:J[n+6]?=some (.dict f ef))(hi:J[n+3]?=some (.dict [] ei))(c0:TA nm c=none)(f0:TA nm f=none):
 MA g (d+1) none 619 [.loc (n+1), .str nm] J (.at (.ok .none) J):=
 P.f619.run rfl rfl fun K e p=>e (p _ (FD H rfl rfl rfl) _ hc _ (nF hc) _ _ (Ie hc c0) _ (FD H rfl rfl rfl) _ hf _ (nF hf) _ _ (Ie hf f0) _ (FD H rfl rfl rfl) _ (zT hi) false rfl) .same ⟨rfl,rfl⟩
theorem Fb(P:Prog g){nm:List Nat}{a v:V}{c f:List (List Nat×V)}{ei ef:Nat}(H:JC (Lc n c) hs J)(hf:J[n+6]?=some (.dict f ef))(hi:J[n+3]?=some (.dict [] ei))(c0:TA nm c=none)(f0:TA nm f=none)(hn:c.length<=100000):
 MA g (d+2) none 612 [.loc (n+1), .str nm,a,v] J (.to .none fun LA=>∃ep,LA=J.set (n+5) (.dict (c++[(nm, .tup [a,v])]) ep)):=
 P.f612.run rfl rfl fun K e p=>H.cl.elim fun ec hc=>
   p _ H.at'.obj _ H.at'.ad (H.at'.no _ rfl) _ (FU P H hc hf hi c0 f0) _ (FD H rfl rfl rfl) _ (WY hc hn) fun LA q p=>e p .same ⟨rfl,q.elim fun ep q=>⟨ep,q.trans (by rw[show VB nm (V.tup [a,v]) (Lc n c).cmds=c++[(nm, .tup [a,v])]from FM c0];rfl)⟩⟩
theorem RY(P:Prog g){a v:V}:MA g (d+1) none 519 [.tup [a,v]] J (.at (.ok (.tup [a,v])) J):=
 P.f519.run rfl rfl fun K e p=>e (p _ _ pd true rfl) .same ⟨rfl,rfl⟩
noncomputable def NO(e:List Nat×Addr×V):List Nat×V:=(e.1, .bool true)
structure rY(n:Nat)(hs:uH)(XE:List O)(gs:List (List Nat×Addr×V))(J:List O):Prop where
 w:JC (Lc n (gs.map UL)) hs J
 f:fR (Lc n []) (gs.map NO) J
 len:J.length=XE.length
 keep:∀l,l≠n+5->l≠n+6->J[l]?=XE[l]?
theorem vZ(P:Prog g){gl ep:Nat}{gs:List (List Nat×Addr×V)}(H:JC (Lc n []) hs J)(HF:fR (Lc n []) [] J)(hg:J[gl]?=some (.dict (gs.map UL) ep))(hgn:gl≠n+5/\gl≠n+6)(hnd:(gs.map (·.1)).Nodup)(hlen:gs.length<=100):
 MA g (d+3) none 626 [.loc (n+1), .loc gl] J (.to .none (rY n hs J gs)):=
 P.f626.run rfl rfl fun K e f=>f _ hg fun Pw hP h0=>by
   have key:∀(r pre:List (List Nat×Addr×V)) (k:Nat) (gB:List O) (x2 x3 x4:Option V),gs=pre++r->k=pre.length->rY n hs J pre gB->Pw k [some (.loc (n+1)),some (.loc gl),x2,x3,x4] gB->False:=by
    intro r
    induction r with
    | nil=>
      intro pre k gB x2 x3 x4 e1 ek A p
      rw[List.append_nil]at e1
      subst e1
      subst ek
      exact e (hP _ _ _ p ((A.keep _ hgn.1 hgn.2).trans hg) none (List.getElem?_eq_none (by simp))) .same ⟨rfl,A⟩
    | cons a r ih=>
      obtain⟨nm,fa,dt⟩:=a
      intro pre k gB x2 x3 x4 e1 ek A p
      subst ek
      obtain⟨⟨ei,hi⟩,ef,hf⟩:=A.f
      have hg1:gB[gl]?=some (.dict (gs.map UL) ep):=(A.keep _ hgn.1 hgn.2).trans hg
      have hno:∀e∈pre,e.1≠nm:=fun e he q=>by
       rw[e1,List.map_append,List.map_cons]at hnd
       exact(List.nodup_append.mp hnd).2.2 _ (List.mem_map_of_mem he) nm (by simp) q
      have hq:(gs.map UL)[pre.length]?=some (UL (nm,fa,dt)):=by rw[e1,List.getElem?_map,AA];rfl
      have hlk:TA nm (gs.map UL)=some (.tup [.val (.ref fa),dt]):=by
       rw[e1,List.map_append,List.map_cons];exact wP (xF (fun u0=>rfl) hno)
      have hl2:pre.length<=100:=by rw[e1,List.length_append]at hlen;exact(nD hlen)
      refine hP _ _ _ p hg1 _ hq _ (bV hg1 hlk) _ (RY P) _ A.w.at'.obj _ A.w.at'.ad (A.w.at'.no _ rfl) _ (Fb P A.w hf hi (xF (fun u0=>rfl) hno) (xF (fun u0=>rfl) hno) (by rw[List.length_map];exact TD hl2)) fun aB ⟨ep2,q2⟩ p=>?_
      have hf2:aB[n+6]?=some (.dict (pre.map NO) ef):=by rw[q2,List.getElem?_set_ne (by exact Nat.ne_of_lt (Nat.lt_succ_self _))];exact hf
      have w2:JC (Lc n ((pre++[(nm,fa,dt)]).map UL)) hs aB:=by rw[q2,List.map_append];exact rT A.w
      refine p _ (FD w2 rfl rfl rfl) _ (WY hf2 (by rw[List.length_map];exact TD hl2)) fun YF ⟨ep3,q3⟩ p=>?_
      have q3:YF=aB.set (n+6) (.dict (VB nm (.bool true) (pre.map NO)) ep3):=q3
      refine ih (pre++[(nm,fa,dt)]) _ YF _ _ _ (by rw[List.append_assoc];exact e1) (by simp) ⟨?_,⟨⟨ei,?_⟩,ep3,?_⟩,?_,fun l h1 h2=>?_⟩ p
      ·rw[q3];exact fP w2 hf2
      ·show YF[n+3]?=_
       rw[q3,q2,List.getElem?_set_ne (show n+6≠n+3 by exact Nat.ne_of_gt (by simp+arith only)),List.getElem?_set_ne (show n+5≠n+3 by exact Nat.ne_of_gt (by simp+arith only))];exact hi
      ·rw[q3];exact(List.getElem?_set_self (MC hf2)).trans (by rw[FM (xF (fun u0=>rfl) hno),List.map_append];rfl)
      ·rw[q3,q2,List.length_set,List.length_set];exact A.len
      ·rw[q3,q2,List.getElem?_set_ne (Ne.symm h2),List.getElem?_set_ne (Ne.symm h1)];exact A.keep l h1 h2
   exact key gs [] 0 J none none none rfl rfl ⟨H,HF,rfl,fun u0 u0 u0=>rfl⟩ h0
end
section
mutual
inductive Pc where
 | text (w v:List Nat)
 | run (s:Sc)
 | unset
inductive aF where
 | nil
 | cons (p:Pc) (r:aF)
inductive mF where
 | nil
 | cons (mark:List Nat) (ps:aF) (r:mF)
inductive Cm where
 | mk (nm:List Nat) (ws:mF) (gap:List Nat)
inductive Rows where
 | nil
 | cons (c:Cm) (e:List Nat) (r:Rows)
inductive Sc where
 | mk (head:List Nat) (rows:Rows)
end
mutual
noncomputable def fA(bad:Nat->Prop)(J:List O):V->Pc->Prop
 | v, .text a b=>v= .tup [.str [116,101,120,116], .str a, .str b]
 | v, .run s=>∃x,v= .tup [.str [114,117,110],x]/\yB bad J x s
 | v, .unset=>v= .tup [.str [117,110,115,101,116]]
noncomputable def YA(bad:Nat->Prop)(J:List O):List V->aF->Prop
 | vs, .nil=>vs=[]
 | vs, .cons p r=>∃v ws,vs=v::ws/\fA bad J v p/\YA bad J ws r
noncomputable def ZA(bad:Nat->Prop)(J:List O):List V->mF->Prop
 | vs, .nil=>vs=[]
 | vs, .cons m ps r=>∃l ws us,vs= .tup [.str m, .loc l]::ws/\J[l]?=some (.list us)/\¬bad l/\YA bad J us ps/\ZA bad J ws r
noncomputable def yA(bad:Nat->Prop)(J:List O):V->Cm->Prop
 | v, .mk nm ws gap=>∃l us,v= .tup [.str nm, .loc l, .str gap]/\J[l]?=some (.list us)/\¬bad l/\ZA bad J us ws
noncomputable def EA(bad:Nat->Prop)(J:List O):List V->Rows->Prop
 | vs, .nil=>vs=[]
 | vs, .cons c e r=>∃v ws,vs= .tup [v, .str e]::ws/\yA bad J v c/\EA bad J ws r
noncomputable def yB(bad:Nat->Prop)(J:List O):V->Sc->Prop
 | v, .mk h rows=>∃l us,v= .tup [.str h, .loc l]/\J[l]?=some (.list us)/\¬bad l/\EA bad J us rows
end
theorem fA.r1{bad:Nat->Prop}{J:List O}:fA bad J v (.text a b)=(v= .tup [.str [116,101,120,116], .str a, .str b]):=rfl
theorem fA.r2{bad:Nat->Prop}{J:List O}:fA bad J v (.run s)=(∃x,v= .tup [.str [114,117,110],x]/\yB bad J x s):=rfl
theorem fA.r3{bad:Nat->Prop}{J:List O}:fA bad J v (.unset)=(v= .tup [.str [117,110,115,101,116]]):=rfl
theorem YA.r1{bad:Nat->Prop}{J:List O}:YA bad J vs (.nil)=(vs=[]):=rfl
theorem YA.r2{bad:Nat->Prop}{J:List O}:YA bad J vs (.cons p r)=(∃v ws,vs=v::ws/\fA bad J v p/\YA bad J ws r):=rfl
theorem ZA.r1{bad:Nat->Prop}{J:List O}:ZA bad J vs (.nil)=(vs=[]):=rfl
theorem ZA.r2{bad:Nat->Prop}{J:List O}:ZA bad J vs (.cons m ps r)=(∃l ws us,vs= .tup [.str m, .loc l]::ws/\J[l]?=some (.list us)/\¬bad l/\YA bad J us ps/\ZA bad J ws r):=rfl
theorem yA.r1{bad:Nat->Prop}{J:List O}:yA bad J v (.mk nm ws gap)=(∃l us,v= .tup [.str nm, .loc l, .str gap]/\J[l]?=some (.list us)/\¬bad l/\ZA bad J us ws):=rfl
theorem EA.r1{bad:Nat->Prop}{J:List O}:EA bad J vs (.nil)=(vs=[]):=rfl
theorem EA.r2{bad:Nat->Prop}{J:List O}:EA bad J vs (.cons c e r)=(∃v ws,vs= .tup [v, .str e]::ws/\yA bad J v c/\EA bad J ws r):=rfl
theorem yB.r1{bad:Nat->Prop}{J:List O}:yB bad J v (.mk h rows)=(∃l us,v= .tup [.str h, .loc l]/\J[l]?=some (.list us)/\¬bad l/\EA bad J us rows):=rfl
section
variable{bad bad':Nat->Prop}{J LA:List O}
theorem MJ(hk:∀l,l < J.length->¬bad l->LA[l]?=J[l]?){l:Nat}{x:O}(h:J[l]?=some x)(hb:¬bad l):LA[l]?=some x:=(hk l (List.getElem?_eq_some_iff.mp h).1 hb).trans h
theorem LJ(hb:∀l,bad' l->bad l\/J.length<=l){l:Nat}{x:O}(h:J[l]?=some x)(q:¬bad l):¬bad' l:=fun k=>by
 rcases hb l k with k | k
 ·exact q k
 ·have:=(List.getElem?_eq_some_iff.mp h).1;lia
mutual
theorem fA.mv(hk:∀l,l < J.length->¬bad l->LA[l]?=J[l]?)(hb:∀l,bad' l->bad l\/J.length<=l):∀(v:V) (p:Pc),fA bad J v p->fA bad' LA v p
 | v, .text _ _,h=>by simp only[fA.r1,fA.r2,fA.r3]at h ⊢;exact h
 | v, .run s,h=>by simp only[fA.r1,fA.r2,fA.r3]at h ⊢;obtain⟨x,e,h⟩:=h;exact⟨x,e,yB.mv hk hb x s h⟩
 | v, .unset,h=>by simp only[fA.r1,fA.r2,fA.r3]at h ⊢;exact h
theorem YA.mv(hk:∀l,l < J.length->¬bad l->LA[l]?=J[l]?)(hb:∀l,bad' l->bad l\/J.length<=l):∀(v:List V) (p:aF),YA bad J v p->YA bad' LA v p
 | v, .nil,h=>by simp only[YA.r1,YA.r2]at h ⊢;exact h
 | v, .cons p r,h=>by simp only[YA.r1,YA.r2]at h ⊢;obtain⟨x,ws,e,h1,h2⟩:=h;exact⟨x,ws,e,fA.mv hk hb x p h1,YA.mv hk hb ws r h2⟩
theorem ZA.mv(hk:∀l,l < J.length->¬bad l->LA[l]?=J[l]?)(hb:∀l,bad' l->bad l\/J.length<=l):∀(v:List V) (p:mF),ZA bad J v p->ZA bad' LA v p
 | v, .nil,h=>by simp only[ZA.r1,ZA.r2]at h ⊢;exact h
 | v, .cons m ps r,h=>by
   simp only[ZA.r1,ZA.r2]at h ⊢
   obtain⟨l,ws,us,e,h1,h2,h3,h4⟩:=h
   exact⟨l,ws,us,e,MJ hk h1 h2,LJ hb h1 h2,YA.mv hk hb us ps h3,ZA.mv hk hb ws r h4⟩
theorem yA.mv(hk:∀l,l < J.length->¬bad l->LA[l]?=J[l]?)(hb:∀l,bad' l->bad l\/J.length<=l):∀(v:V) (p:Cm),yA bad J v p->yA bad' LA v p
 | v, .mk nm ws gap,h=>by
   simp only[yA.r1]at h ⊢
   obtain⟨l,us,e,h1,h2,h3⟩:=h
   exact⟨l,us,e,MJ hk h1 h2,LJ hb h1 h2,ZA.mv hk hb us ws h3⟩
theorem EA.mv(hk:∀l,l < J.length->¬bad l->LA[l]?=J[l]?)(hb:∀l,bad' l->bad l\/J.length<=l):∀(v:List V) (p:Rows),EA bad J v p->EA bad' LA v p
 | v, .nil,h=>by simp only[EA.r1,EA.r2]at h ⊢;exact h
 | v, .cons c e r,h=>by
   simp only[EA.r1,EA.r2]at h ⊢
   obtain⟨x,ws,e,h1,h2⟩:=h
   exact⟨x,ws,e,yA.mv hk hb x c h1,EA.mv hk hb ws r h2⟩
theorem yB.mv(hk:∀l,l < J.length->¬bad l->LA[l]?=J[l]?)(hb:∀l,bad' l->bad l\/J.length<=l):∀(v:V) (p:Sc),yB bad J v p->yB bad' LA v p
 | v, .mk h rows,q=>by
   simp only[yB.r1]at q ⊢
   obtain⟨l,us,e,h1,h2,h3⟩:=q
   exact⟨l,us,e,MJ hk h1 h2,LJ hb h1 h2,EA.mv hk hb us rows h3⟩
end
theorem zB(j:List O):∀l,l < J.length->¬bad l->(J++j)[l]?=J[l]?:=fun l h u0=>List.getElem?_append_left h
theorem YB:∀l,bad l->bad l\/J.length<=l:=fun u0 h=> .inl h
end
mutual
noncomputable def VE:Pc->List Nat
 | .text a _=>a
 | .run s=>[91]++gD s++[93]
 | .unset=>[36,117]
noncomputable def WB:aF->List Nat
 | .nil=>[]
 | .cons p r=>VE p++WB r
noncomputable def WE:mF->List (List Nat)
 | .nil=>[]
 | .cons m ps r=>(m++WB ps++m)::WE r
noncomputable def CE:Cm->List Nat
 | .mk nm ws gap=>iA gap (nm::WE ws)
noncomputable def QA:Rows->List (List Nat)
 | .nil=>[]
 | .cons c e r=>(CE c++e)::QA r
noncomputable def gD:Sc->List Nat
 | .mk h rows=>h++(QA rows).flatten
end
theorem VE.r1:VE (.text a w1)=(a):=rfl
theorem VE.r2:VE (.run s)=([91]++gD s++[93]):=rfl
theorem VE.r3:VE (.unset)=([36,117]):=rfl
theorem WB.r1:WB (.nil)=([]):=rfl
theorem WB.r2:WB (.cons p r)=(VE p++WB r):=rfl
theorem WE.r1:WE (.nil)=([]):=rfl
theorem WE.r2:WE (.cons m ps r)=((m++WB ps++m)::WE r):=rfl
theorem CE.r1:CE (.mk nm ws gap)=(iA gap (nm::WE ws)):=rfl
theorem QA.r1:QA (.nil)=([]):=rfl
theorem QA.r2:QA (.cons c e r)=((CE c++e)::QA r):=rfl
theorem gD.r1:gD (.mk h rows)=(h++(QA rows).flatten):=rfl
noncomputable def GC:mF->Nat
 | .nil=>0
 | .cons _ _ r=>GC r+1
theorem GC.r1:GC (.nil)=(0):=rfl
theorem GC.r2:GC (.cons w1 w2 r)=(GC r+1):=rfl
noncomputable def oC:Rows->Nat
 | .nil=>0
 | .cons _ _ r=>oC r+1
theorem oC.r1:oC (.nil)=(0):=rfl
theorem oC.r2:oC (.cons w1 w2 r)=(oC r+1):=rfl
mutual
noncomputable def FB:Pc->Nat
 | .text a b=>a.length+b.length+10
 | .run s=>NC s+10
 | .unset=>10
noncomputable def jA:aF->Nat
 | .nil=>0
 | .cons p r=>FB p+jA r
noncomputable def oA:mF->Nat
 | .nil=>0
 | .cons m ps r=>2*m.length+jA ps+10+oA r
noncomputable def PC:Cm->Nat
 | .mk nm ws gap=>2*nm.length+oA ws+GC ws*gap.length+gap.length+40
noncomputable def WA:Rows->Nat
 | .nil=>0
 | .cons c e r=>PC c+e.length+10+WA r
noncomputable def NC:Sc->Nat
 | .mk h rows=>h.length+WA rows+10
end
theorem FB.r1:FB (.text a b)=(a.length+b.length+10):=rfl
theorem FB.r2:FB (.run s)=(NC s+10):=rfl
theorem FB.r3:FB (.unset)=(10):=rfl
theorem jA.r1:jA (.nil)=(0):=rfl
theorem jA.r2:jA (.cons p r)=(FB p+jA r):=rfl
theorem oA.r1:oA (.nil)=(0):=rfl
theorem oA.r2:oA (.cons m ps r)=(2*m.length+jA ps+10+oA r):=rfl
theorem PC.r1:PC (.mk nm ws gap)=(2*nm.length+oA ws+GC ws*gap.length+gap.length+40):=rfl
theorem WA.r1:WA (.nil)=(0):=rfl
theorem WA.r2:WA (.cons c e r)=(PC c+e.length+10+WA r):=rfl
theorem NC.r1:NC (.mk h rows)=(h.length+WA rows+10):=rfl
mutual
noncomputable def AH:Pc->Nat
 | .text _ _=>0
 | .run s=>qM s
 | .unset=>0
noncomputable def WD:aF->Nat
 | .nil=>0
 | .cons p r=>max (AH p) (WD r)
noncomputable def HH:mF->Nat
 | .nil=>0
 | .cons m ps r=>max (WD ps) (HH r)
noncomputable def qX:Cm->Nat
 | .mk nm ws gap=>HH ws
noncomputable def SD:Rows->Nat
 | .nil=>0
 | .cons c e r=>max (qX c) (SD r)
noncomputable def qM:Sc->Nat
 | .mk h rows=>SD rows+1
end
theorem AH.r1:AH (.text w1 w2)=(0):=rfl
theorem AH.r2:AH (.run s)=(qM s):=rfl
theorem AH.r3:AH (.unset)=(0):=rfl
theorem WD.r1:WD (.nil)=(0):=rfl
theorem WD.r2:WD (.cons p r)=(max (AH p) (WD r)):=rfl
theorem HH.r1:HH (.nil)=(0):=rfl
theorem HH.r2:HH (.cons m ps r)=(max (WD ps) (HH r)):=rfl
theorem qX.r1:qX (.mk nm ws gap)=(HH ws):=rfl
theorem SD.r1:SD (.nil)=(0):=rfl
theorem SD.r2:SD (.cons c e r)=(max (qX c) (SD r)):=rfl
theorem qM.r1:qM (.mk h rows)=(SD rows+1):=rfl
theorem jV(gap:List Nat)(x:List Nat)(xs:List (List Nat)):(iA gap (x::xs)).length=x.length+xs.flatten.length+xs.length*gap.length:=by
 induction xs generalizing x with
 | nil=>simp[iA.r1,iA.r2,iA.r3]
 | cons y r ih=>
   simp only[iA.r1,iA.r2,iA.r3,List.length_append,ih y,List.flatten_cons,List.length_cons,Nat.add_mul,Nat.one_mul];simp+arith only
theorem OJ:∀ws:mF,(WE ws).length=GC ws
 | .nil=>rfl
 | .cons _ _ r=>by simp only[WE.r1,WE.r2,GC.r1,GC.r2,List.length_cons,OJ r]
theorem zK:∀ws:mF,10*GC ws<=oA ws
 | .nil=>Nat.le_refl _
 | .cons _ _ r=>by have:=zK r;simp only[oA.r1,oA.r2,GC.r1,GC.r2];exact(BB this)
theorem vL:∀ws:Rows,10*oC ws<=WA ws
 | .nil=>Nat.le_refl _
 | .cons _ _ r=>by have:=vL r;simp only[WA.r1,WA.r2,oC.r1,oC.r2];exact(BB this)
mutual
theorem kb:∀p:Pc,(VE p).length<=FB p
 | .text a b=>by simp only[VE.r1,VE.r2,VE.r3,FB.r1,FB.r2,FB.r3];simp+arith only
 | .run s=>by have:=AK s;simp only[VE.r1,VE.r2,VE.r3,FB.r1,FB.r2,FB.r3,List.length_append,List.length_cons,List.length_nil];exact(BB this)
 | .unset=>by simp[VE.r1,VE.r2,VE.r3,FB.r1,FB.r2,FB.r3]
theorem yS:∀p:aF,(WB p).length<=jA p
 | .nil=>Nat.le_refl _
 | .cons p r=>by have:=kb p;have:=yS r;simp only[WB.r1,WB.r2,jA.r1,jA.r2,List.length_append];lia
theorem uO:∀p:mF,(WE p).flatten.length<=oA p
 | .nil=>Nat.le_refl _
 | .cons m ps r=>by have:=yS ps;have:=uO r;simp only[WE.r1,WE.r2,oA.r1,oA.r2,List.flatten_cons,List.length_append];lia
theorem tO:∀p:Cm,(CE p).length<=PC p
 | .mk nm ws gap=>by
   have h1:=uO ws
   simp only[CE.r1,PC.r1,jV,OJ];exact(BB h1)
theorem cJ:∀p:Rows,(QA p).flatten.length<=WA p
 | .nil=>Nat.le_refl _
 | .cons c e r=>by have:=tO c;have:=cJ r;simp only[QA.r1,QA.r2,WA.r1,WA.r2,List.flatten_cons,List.length_append];lia
theorem AK:∀p:Sc,(gD p).length<=NC p
 | .mk h rows=>by have:=cJ rows;simp only[gD.r1,NC.r1,List.length_append];exact(BB this)
end
end
section
variable{g:G}{d:Nat}{hd:Option Nat}{J LA BD:List O}{bad:Nat->Prop}
noncomputable def GG(F:Sc->Prop):aF->Prop
 | .nil=>True
 | .cons (.run s) r=>F s/\GG F r
 | .cons (.text _ _) r=>GG F r
 | .cons .unset r=>GG F r
noncomputable def jI(F:Sc->Prop):mF->Prop
 | .nil=>True
 | .cons _ ps r=>GG F ps/\jI F r
noncomputable def iI(F:Sc->Prop):Cm->Prop
 | .mk _ ws _=>jI F ws
noncomputable def KF(F:Sc->Prop):Rows->Prop
 | .nil=>True
 | .cons c _ r=>iI F c/\KF F r
theorem EO{n:Nat}{F:Sc->Prop}(h:∀s,qM s<=n->F s):∀ps:aF,WD ps<=n->GG F ps
 | .nil,_=>trivial
 | .cons (.run s) r,q=>by simp only[WD.r1,WD.r2,AH.r1,AH.r2,AH.r3]at q;exact⟨h s (by exact(Cg q)),EO h r (by exact(xd q))⟩
 | .cons (.text _ _) r,q=>by simp only[WD.r1,WD.r2,AH.r1,AH.r2,AH.r3]at q;exact EO h r (by exact(xd q))
 | .cons .unset r,q=>by simp only[WD.r1,WD.r2,AH.r1,AH.r2,AH.r3]at q;exact EO h r (by exact(xd q))
theorem mR{n:Nat}{F:Sc->Prop}(h:∀s,qM s<=n->F s):∀ps:mF,HH ps<=n->jI F ps
 | .nil,_=>trivial
 | .cons _ ps r,q=>by simp only[HH.r1,HH.r2]at q;exact⟨EO h ps (by exact(Cg q)),mR h r (by exact(xd q))⟩
theorem XX{n:Nat}{F:Sc->Prop}(h:∀s,qM s<=n->F s):∀c:Cm,qX c<=n->iI F c
 | .mk _ ws _,q=>mR h ws q
theorem sK{n:Nat}{F:Sc->Prop}(h:∀s,qM s<=n->F s):∀ps:Rows,SD ps<=n->KF F ps
 | .nil,_=>trivial
 | .cons c _ r,q=>by simp only[SD.r1,SD.r2]at q;exact⟨XX h c (by exact(Cg q)),sK h r (by exact(xd q))⟩
theorem aF.ind{P:aF->Prop}(h0:P .nil)(h1:∀p r,P r->P (.cons p r)):∀ps,P ps
 | .nil=>h0
 | .cons p r=>h1 p r (aF.ind h0 h1 r)
theorem mF.ind{P:mF->Prop}(h0:P .nil)(h1:∀m ps r,P r->P (.cons m ps r)):∀ps,P ps
 | .nil=>h0
 | .cons m p r=>h1 m p r (mF.ind h0 h1 r)
theorem Rows.ind{P:Rows->Prop}(h0:P .nil)(h1:∀c e r,P r->P (.cons c e r)):∀ps,P ps
 | .nil=>h0
 | .cons c e r=>h1 c e r (Rows.ind h0 h1 r)
class inductive ET{α β:Type}(P:α->β->Prop):List α->List β->Prop
 | nil:ET P [] []
 | cons {a:α} {b:β} {r:List α} {s:List β}:P a b->ET P r s->ET P (a::r) (b::s)
theorem PN{inv:List O->Prop}{step:V->List O->(V->List O->Prop)->Prop}{K:List V->List O->Prop}(hinv:inv J){xs ss:List V}(h:ET (fun x v=>∀{K':V->List O->Prop},step x J K'->K' v J) xs ss):∀{acc:List V},WL inv step xs J acc K->K (acc++ss) J:=by
 induction h with
 | nil=>exact fun p=>by rw[List.append_nil];exact p hinv
 | @cons a b r s h1 h2 ih=>exact fun p=>by rw[List.append_cons];exact ih (h1 (p hinv))
theorem qP{l:Nat}{pre r:List V}{v:V}(h:J[l]?=some (.list (pre++v::r))):cC J (.loc l) pre.length=some (some v):=by
 unfold cC;dsimp only;rw[h];exact congrArg some (AA ..)
theorem YN{l:Nat}{pre:List V}(h:J[l]?=some (.list pre)):cC J (.loc l) pre.length=some none:=by
 unfold cC;dsimp only;rw[h];exact congrArg some (List.getElem?_eq_none (Nat.le_refl _))
theorem GA{l:Nat}{x:O}(h:J[l]?=some x)(j:List O):(J++j)[l]?=some x:=(List.getElem?_append_left (List.getElem?_eq_some_iff.mp h).1).trans h
theorem Ba{x y:Nat}{xs ys:List V}{Q:V->List O->Prop}(h1:J[x]?=some (.list xs))(h2:J[y]?=some (.list ys))(hn:xs.length+ys.length<=100000)(h:Q (.loc J.length) (J++[.list (xs++ys)])):eX J .Add (.loc x) (.loc y) Q:=
 ⟨rfl,xs,ys,XA h1,XA h2,hn,h⟩
theorem lV{l:Nat}{s:List Nat}{xs:List V}{ss:List (List Nat)}{Q:V->List O->Prop}(hl:J[l]?=some (.list xs))(hx:fD xs=some ss)(hn:(ss.map List.length).sum+ss.length*s.length<=10000000)(h:Q (.str (iA s ss)) J):DB J s [106,111,105,110] [.loc l] Q:=DX hl hx hn h
theorem YA.nl{us:List V}(h:YA bad J us .nil):us=[]:=by simpa only[YA.r1,YA.r2]using h
theorem YA.cs{us:List V}{p:Pc}{r:aF}(h:YA bad J us (.cons p r)):∃v ws,us=v::ws/\fA bad J v p/\YA bad J ws r:=by simpa only[YA.r1,YA.r2]using h
theorem ZA.cs{us:List V}{m:List Nat}{ps:aF}{r:mF}(h:ZA bad J us (.cons m ps r)):∃l ws vs,us= .tup [.str m, .loc l]::ws/\J[l]?=some (.list vs)/\¬bad l/\YA bad J vs ps/\ZA bad J ws r:=by simpa only[ZA.r1,ZA.r2]using h
theorem ZA.nl{us:List V}(h:ZA bad J us .nil):us=[]:=by simpa only[ZA.r1,ZA.r2]using h
theorem EA.nl{us:List V}(h:EA bad J us .nil):us=[]:=by simpa only[EA.r1,EA.r2]using h
theorem EA.cs{us:List V}{c:Cm}{e:List Nat}{r:Rows}(h:EA bad J us (.cons c e r)):∃v ws,us= .tup [v, .str e]::ws/\yA bad J v c/\EA bad J ws r:=by simpa only[EA.r1,EA.r2]using h
theorem yA.mk{v:V}{nm gap:List Nat}{ws:mF}(h:yA bad J v (.mk nm ws gap)):∃l us,v= .tup [.str nm, .loc l, .str gap]/\J[l]?=some (.list us)/\¬bad l/\ZA bad J us ws:=by simpa only[yA.r1]using h
theorem yB.mk{v:V}{hd:List Nat}{rows:Rows}(h:yB bad J v (.mk hd rows)):∃l us,v= .tup [.str hd, .loc l]/\J[l]?=some (.list us)/\¬bad l/\EA bad J us rows:=by simpa only[yB.r1]using h
theorem fA.tx{v:V}{a b:List Nat}(h:fA bad J v (.text a b)):v= .tup [.str [116,101,120,116], .str a, .str b]:=by simpa only[fA.r1,fA.r2,fA.r3]using h
theorem fA.un{v:V}(h:fA bad J v .unset):v= .tup [.str [117,110,115,101,116]]:=by simpa only[fA.r1,fA.r2,fA.r3]using h
theorem fA.rn{v:V}{s:Sc}(h:fA bad J v (.run s)):∃x,v= .tup [.str [114,117,110],x]/\yB bad J x s:=by simpa only[fA.r1,fA.r2,fA.r3]using h
theorem ZA.len:∀{ws:mF} {us:List V},ZA bad J us ws->us.length=GC ws
 | .nil,_,h=>by rw[h.nl];rfl
 | .cons _ _ _,_,h=>by obtain⟨_,w,_,rfl,_,_,_,h⟩:=h.cs;exact congrArg (· +1) h.len
theorem EA.len:∀{ws:Rows} {us:List V},EA bad J us ws->us.length=oC ws
 | .nil,_,h=>by rw[h.nl];rfl
 | .cons _ _ _,_,h=>by obtain⟨_,w,rfl,_,h⟩:=h.cs;exact congrArg (· +1) h.len
noncomputable def IX(g:G)(D:Nat)(s:Sc):Prop:=∀ ⦃bad:Nat->Prop⦄ ⦃v:V⦄ ⦃J:List O⦄,yB bad J v s->NC s<=100000->MA g D none 730 [v] J (.at (.ok (.str (gD s))) J)
theorem pK(P:qG g){m:List Nat}{ps:aF}{l:Nat}{us:List V}(hF:GG (IX g d) ps)(hl:J[l]?=some (.list us))(hr:YA bad J us ps)(hsz:2*m.length+jA ps<=100000):
 MA g (d+1) none 720 [.tup [.str m, .loc l]] J (.at (.ok (.str (m++WB ps++m))) J):=
 P.f720.run rfl rfl fun K e f=>f _ rfl _ rfl _ hl fun Pw hP h0=>by
   have key:∀(ps2:aF) (us2 pre:List V) (k:Nat) (out:List Nat) (x2:Option V),us=pre++us2->k=pre.length->YA bad J us2 ps2->GG (IX g d) ps2->out.length+jA ps2+m.length<=100000->m++WB ps++m=out++WB ps2++m->
    Pw k [some (.tup [.str m, .loc l]),some (.str out),x2] J->False:=by
    intro ps2
    have le:∀{a b c:Nat},a+b+c<=100000->a+c<=10000000:=by lia
    have BB:∀{a b c d:Nat},a+((b+d+10)+c)+m.length<=100000->a+b<=10000000:=by lia
    induction ps2 using aF.ind with
    | h0=>
      intro us2 pre k out x2 e1 ek hr hF hs hq p
      rw[hr.nl,List.append_nil]at e1
      subst e1
      subst ek
      rw[show WB .nil=[]from rfl,List.append_nil]at hq
      exact e (hP _ _ _ p _ (YN hl) _ rfl _ (qD (le hs))) .same ⟨by rw[hq],rfl⟩
    | h1 p r ih=>
      intro us2 pre k out x2 e1 ek hr hF hs hq q
      obtain⟨v,ws,rfl,hv,hr2⟩:=hr.cs
      subst ek
      have hi:cC J (.loc l) pre.length=some (some v):=qP (e1 ▸ hl)
      rw[List.append_cons]at e1
      have step:∀{a:List Nat},WB (.cons p r)=a++WB r->m++WB ps++m=(out++a)++WB r++m:=fun h=>by rw[hq,h];simp only[List.append_assoc]
      induction p using Pc.casesOn with
      | text a b=>
        cases hv.tx
        exact ih ws _ _ (out++a) _ e1 (by simp) hr2 hF (by simp only[jA.r1,jA.r2,FB.r1,FB.r2,FB.r3]at hs;rw[List.length_append];lia) (step rfl)
         (hP _ _ _ q _ hi _ rfl false rfl _ rfl true rfl _ rfl _ (qD (BB hs)))
      | unset=>
        cases hv.un
        exact ih ws _ _ (out++[36,117]) _ e1 (by simp) hr2 hF (by simp only[jA.r1,jA.r2,FB.r1,FB.r2,FB.r3]at hs;rw[List.length_append];simp only[List.length_cons,List.length_nil];lia) (step rfl)
         (hP _ _ _ q _ hi _ rfl false rfl _ rfl false rfl _ (qD (by simp only[jA.r1,jA.r2,FB.r1,FB.r2,FB.r3]at hs;simp only[List.length_cons,List.length_nil];exact LB hs hsz)))
      | run s=>
        obtain⟨x,e2,hx⟩:=hv.rn
        subst e2
        have hw:=AK s
        simp only[jA.r1,jA.r2,FB.r1,FB.r2,FB.r3]at hs
        exact ih ws _ _ (out++[91]++gD s++[93]) _ e1 (by simp) hr2 hF.2 (by simp only[List.length_append,List.length_cons,List.length_nil];exact LB hw hs) (by rw[List.append_assoc out,List.append_assoc out];exact step rfl)
         (hP _ _ _ q _ hi _ rfl true rfl _ (qD (by simp only[List.length_cons,List.length_nil];exact LB hw hs)) _ rfl _ (hF.1 hx (by exact(nD (nD (AP (nD hs)))))) _ (qD (by simp only[List.length_append,List.length_cons,List.length_nil];exact LB hw hs)) _ (qD (by simp only[List.length_append,List.length_cons,List.length_nil];exact LB hw hs)))
   exact key ps us [] 0 m none rfl rfl hr hF (by exact BB hsz) rfl h0
theorem IP{Q:V->V->Prop}{F:Sc->Prop}{n:Nat}(h:∀{m:List Nat} {ps:aF} {l:Nat} {us:List V},GG F ps->J[l]?=some (.list us)->YA bad J us ps->2*m.length+jA ps<=n->Q (.tup [.str m, .loc l]) (.str (m++WB ps++m))):
 ∀{ws:mF} {us:List V},jI F ws->ZA bad J us ws->oA ws<=n->ET Q us ((WE ws).map .str)
 | .nil,_,_,hr,_=>by rw[hr.nl];exact .nil
 | .cons m ps r,_,hF,hr,hs=>by
   obtain⟨l2,w,us3,rfl,h1,h2,h3,h4⟩:=hr.cs
   simp only[oA.r1,oA.r2]at hs
   exact .cons (h hF.1 h1 h3 (by exact(nD (nD hs)))) (IP h hF.2 h4 (by exact(AP hs)))
theorem HN{Q:V->V->Prop}{F:Sc->Prop}{n:Nat}(h:∀{c:Cm} {v:V} {e:List Nat},iI F c->yA bad J v c->PC c+e.length<=n->Q (.tup [v, .str e]) (.str (CE c++e))):
 ∀{ws:Rows} {us:List V},KF F ws->EA bad J us ws->WA ws<=n->ET Q us ((QA ws).map .str)
 | .nil,_,_,hr,_=>by rw[hr.nl];exact .nil
 | .cons c e r,_,hF,hr,hs=>by
   obtain⟨v,w,rfl,h1,h4⟩:=hr.cs
   simp only[WA.r1,WA.r2]at hs
   exact .cons (h hF.1 h1 (by exact(nD (nD hs)))) (HN h hF.2 h4 (by exact(AP hs)))
theorem EF(P:qG g){c:Cm}{v:V}(hF:iI (IX g d) c)(hr:yA bad J v c)(hsz:PC c<=100000):MA g (d+2) none 725 [v] J (.at (.ok (.str (CE c))) J):=
 P.f725.run rfl rfl fun K e f=>by
   obtain⟨nm,ws,gap⟩:=c
   obtain⟨l,us,rfl,hl,hb,hr⟩:=hr.mk
   simp only[PC.r1]at hsz
   have hnw:=zK ws
   have hw:=uO ws
   have hl1:(J++[O.list [V.str nm]])[l]?=some (.list us):=GA hl _
   have hsum:((nm::WE ws).map List.length).sum=nm.length+(WE ws).flatten.length:=by simp[List.length_flatten]
   have p:=PN (XA hl1) (IP (n:=100000) (fun h1 h2 h3 h4 K' p=>p _ (pK P h1 (GA h2 _) (YA.mv (zB _) YB _ _ h3) h4)) hF hr (by exact(AP (nD (nD (nD hsz)))))) (f _ rfl _ rfl _ rfl _ hl1 (by rw[hr.len];lia))
   have p:=p _ _ (Ba (GA (AA ..) _) (AA ..) (by simp only[List.length_map,List.length_cons,List.length_nil,List.nil_append,OJ];exact LB hnw hsz)) _ _ (lV (ss:=nm::WE ws) (AA ..) (by simp only[List.singleton_append,List.nil_append,fD,BE];rfl) (by rw[hsum,List.length_cons,OJ,Nat.add_mul,Nat.one_mul];exact LB hw hsz))
   rw[List.append_assoc,List.append_assoc]at p
   exact e p (.drop rfl) ⟨rfl,rfl⟩
theorem eQ(P:qG g){h:List Nat}{rows:Rows}(hF:KF (IX g d) rows):IX g (d+3) (.mk h rows):=fun {bad v J} hr hsz=>
 P.f730.run rfl rfl fun K e f=>by
   obtain⟨l,us,rfl,hl,hb,hr⟩:=hr.mk
   simp only[NC.r1]at hsz
   have hnw:=vL rows
   have hw:=cJ rows
   have p:=PN (XA hl) (HN (n:=100000) (fun {c v e} h1 h2 h4 K' p=>p _ (EF P h1 h2 (by exact(nD h4))) _ (qD (by have:=tO c;exact(LB this h4)))) hF hr (by exact(AP (nD hsz)))) (f _ rfl _ rfl _ hl (by rw[hr.len];lia))
   exact e (p _ _ (OZ (AA ..) (BE _) (by exact LB hw hsz)) _ (qD (by exact LB hw hsz))) (.drop rfl) ⟨rfl,rfl⟩
theorem FF(P:qG g):∀(n:Nat) (s:Sc),qM s<=n->IX g (3*n) s
 | 0, .mk h rows,q=>by simp only[qM.r1]at q;lia
 | n+1, .mk h rows,q=>by
   simp only[qM.r1]at q
   exact eQ P (sK (F:=IX g (3*n)) (n:=n) (fun s q=>FF P n s q) rows (by exact BB q))
end
structure lI where
 code:Int
 value:List Nat
 ec:V
 line:Int
 info:List Nat
 src:List (List Nat)
noncomputable abbrev tC:=List (List (List Nat))
set_option genCtorIdx true in
inductive PO where
 | ok (v:List Nat)
 | err (f:lI)
set_option genCtorIdx true in
inductive PW where
 | ok (v:List (List Nat))
 | err (f:lI)
noncomputable def sX:V:= .tup [.str [84,67,76], .str [76,79,79,75,85,80], .str [86,65,82,78,65,77,69], .str [117]]
noncomputable def kf:V:= .tup [.str [84,67,76], .str [76,79,79,75,85,80], .str [67,79,77,77,65,78,68], .str [122,122]]
noncomputable def JH:lI:=⟨1,[99,97,110,39,116,32,114,101,97,100,32,34,117,34,58,32,110,111,32,115,117,99,104,32,118,97,114,105,97,98,108,101],sX,0,[],[]⟩
noncomputable def HZ:lI:=⟨1,[105,110,118,97,108,105,100,32,99,111,109,109,97,110,100,32,110,97,109,101,32,34,122,122,34],kf,0,[],[]⟩
noncomputable def LV:V:= .tup [.str [65], .str [66,32,99]]
noncomputable def VI(nm:List Nat)(ts:List (List Nat)):List Nat:=(nm::ts).getLast (by simp)
noncomputable def sH(nm:List Nat)(ts:List (List Nat)):lI:=⟨if nm=[115,116,111,112]then 3 else 1,VI nm ts,if nm=[116,111,108,100]then LV else .tup [.str [78,79,78,69]],0,if nm=[116,111,108,100]then[115,111,32,116,111,108,100]else[],[]⟩
noncomputable def VD(nm:List Nat)(ts:List (List Nat)):PO×tC:=
 if nm=[122,122]then(.err HZ,[])else
 if nm=[114]then(.ok ([60]++iA [44] ts++[62]),[nm::ts])else(.err (sH nm ts),[nm::ts])
noncomputable def FC(f:lI)(ahead w:List Nat):lI:={f with line:=if f.code=1/\f.src=[]then 1+(ahead.count 10:Int)else f.line,src:=f.src++[w]}
mutual
noncomputable def KA:aF->List Nat->PO×tC
 | .nil,acc=>(.ok acc,[])
 | .cons (.text _ b) r,acc=>KA r (acc++b)
 | .cons .unset _,_=>(.err JH,[])
 | .cons (.run s) r,acc=>match wG s with
   | (.err f,L)=>(.err f,L)
   | (.ok v,L)=>((KA r (acc++v)).1,L++(KA r (acc++v)).2)
noncomputable def jB:mF->List (List Nat)->PW×tC
 | .nil,acc=>(.ok acc,[])
 | .cons _ ps r,acc=>match KA ps []with
   | (.err f,L)=>(.err f,L)
   | (.ok v,L)=>((jB r (acc++[v])).1,L++(jB r (acc++[v])).2)
noncomputable def vJ:Cm->PO×tC
 | .mk nm ws _=>match jB ws []with
   | (.err f,L)=>(.err f,L)
   | (.ok ts,L)=>((VD nm ts).1,L++(VD nm ts).2)
noncomputable def tA:Rows->List Nat->List Nat->PO×tC
 | .nil,_,v=>(.ok v,[])
 | .cons c e r,ahead,_=>match vJ c with
   | (.err f,L)=>(.err (FC f ahead (CE c)),L)
   | (.ok v,L)=>((tA r (ahead++CE c++e) v).1,L++(tA r (ahead++CE c++e) v).2)
noncomputable def wG:Sc->PO×tC
 | .mk h rows=>tA rows h []
end
theorem KA.r1:KA (.nil) acc=((.ok acc,[])):=rfl
theorem KA.r2:KA (.cons (.text w1 b) r) acc=(KA r (acc++b)):=rfl
theorem KA.r3:KA (.cons .unset w1) w2=((.err JH,[])):=rfl
theorem KA.r4:KA (.cons (.run s) r) acc=(match wG s with
 | (.err f,L)=>(.err f,L)
 | (.ok v,L)=>((KA r (acc++v)).1,L++(KA r (acc++v)).2)):=rfl
theorem jB.r1:jB (.nil) acc=((.ok acc,[])):=rfl
theorem jB.r2:jB (.cons w1 ps r) acc=(match KA ps []with
 | (.err f,L)=>(.err f,L)
 | (.ok v,L)=>((jB r (acc++[v])).1,L++(jB r (acc++[v])).2)):=rfl
theorem vJ.r1:vJ (.mk nm ws w1)=(match jB ws []with
 | (.err f,L)=>(.err f,L)
 | (.ok ts,L)=>((VD nm ts).1,L++(VD nm ts).2)):=rfl
theorem tA.r1:tA (.nil) w1 v=((.ok v,[])):=rfl
theorem tA.r2:tA (.cons c e r) ahead w1=(match vJ c with
 | (.err f,L)=>(.err (FC f ahead (CE c)),L)
 | (.ok v,L)=>((tA r (ahead++CE c++e) v).1,L++(tA r (ahead++CE c++e) v).2)):=rfl
theorem wG.r1:wG (.mk h rows)=(tA rows h []):=rfl
theorem HR(nm:List Nat)(ts:List (List Nat)):(VI nm ts).length<=nm.length+ts.flatten.length:=by
 have:VI nm ts∈nm::ts:=List.getLast_mem _
 rcases List.mem_cons.mp this with q | q
 ·rw[q];exact Nat.le_add_right _ _
 ·have:=(List.sublist_flatten_of_mem q).length_le;exact(BB this)
noncomputable def IQ(n:Nat):PO->Prop
 | .ok v=>v.length<=n
 | .err f=>f.value.length<=n+40/\f.info.length<=10/\10*f.src.length<=n/\∀s∈f.src,s.length<=n
noncomputable def Le(n k:Nat):PW->Prop
 | .ok ts=>ts.flatten.length+ts.length<=n/\ts.length=k
 | .err f=>f.value.length<=n+40/\f.info.length<=10/\10*f.src.length<=n/\∀s∈f.src,s.length<=n
theorem HP(nm:List Nat)(ts:List (List Nat)){n:Nat}(h:nm.length+ts.flatten.length+ts.length+2<=n):IQ n (VD nm ts).1/\(VD nm ts).2.length<=1:=by
 unfold VD
 split
 ·exact⟨⟨by simp[HZ],by simp[HZ],by simp[HZ],by simp[HZ]⟩,by simp⟩
 ·split
  ·refine⟨?_,by simp⟩
   show([60]++iA [44] ts++[62]).length<=n
   have:=vF [44] ts
   rw[<-List.length_flatten]at this
   simp only[List.length_append,List.length_cons,List.length_nil]at this ⊢;exact(LB this h)
  ·refine⟨⟨?_,?_,by simp[sH],by simp[sH]⟩,by simp⟩
   ·have:=HR nm ts;simp only[sH];exact(LB this h)
   ·simp only[sH];split <;>simp
mutual
theorem ZH:∀(ps:aF) (acc:List Nat) (n:Nat),acc.length+jA ps<=n->IQ n (KA ps acc).1/\(KA ps acc).2.length<=jA ps
 | .nil,acc,n,h=>by simp only[jA.r1,jA.r2]at h;simp only[KA.r1,KA.r2,KA.r3,KA.r4];exact⟨by show acc.length<=n;exact(nD h),by simp⟩
 | .cons (.text a b) r,acc,n,h=>by
   simp only[jA.r1,jA.r2,FB.r1,FB.r2,FB.r3]at h
   have:=ZH r (acc++b) n (by simp only[List.length_append];exact BB h)
   simp only[KA.r1,KA.r2,KA.r3,KA.r4,jA.r1,jA.r2,FB.r1,FB.r2,FB.r3];exact⟨this.1,by exact BB this.2⟩
 | .cons .unset r,acc,n,h=>by simp only[jA.r1,jA.r2,FB.r1,FB.r2,FB.r3]at h;simp only[KA.r1,KA.r2,KA.r3,KA.r4];exact⟨⟨by simp[JH],by simp[JH],by simp[JH],by simp[JH]⟩,by simp⟩
 | .cons (.run s) r,acc,n,h=>by
   simp only[jA.r1,jA.r2,FB.r1,FB.r2,FB.r3]at h
   have h1:=RJ s (NC s) (Nat.le_refl _)
   simp only[KA.r1,KA.r2,KA.r3,KA.r4,jA.r1,jA.r2,FB.r1,FB.r2,FB.r3]
   revert h1
   match wG s with
   | (.err f,L)=>exact fun⟨⟨q1,q1',q1'',q3⟩,q2⟩=>⟨⟨by exact LB q1 h,q1',by exact LB q1'' h,fun s h=>Nat.le_trans (q3 s h) (by lia)⟩,by simp only at q2 ⊢;exact BB q2⟩
   | (.ok v,L)=>
     intro⟨q1,q2⟩
     have q1:v.length<=NC s:=q1
     have:=ZH r (acc++v) n (by simp only[List.length_append];exact LB q1 h)
     exact⟨this.1,by have:=this.2;simp only[List.length_append]at q2 ⊢;exact(LB this q2)⟩
theorem CM:∀(ws:mF) (acc:List (List Nat)) (n:Nat),acc.flatten.length+acc.length+oA ws<=n->Le n (acc.length+GC ws) (jB ws acc).1/\(jB ws acc).2.length<=oA ws
 | .nil,acc,n,h=>by simp only[oA.r1,oA.r2]at h;simp only[jB.r1,jB.r2];exact⟨⟨by exact(nD h),by simp[GC.r1,GC.r2]⟩,by simp⟩
 | .cons m ps r,acc,n,h=>by
   simp only[oA.r1,oA.r2]at h
   have h1:=ZH ps [] (jA ps) (by simp)
   simp only[jB.r1,jB.r2,oA.r1,oA.r2,GC.r1,GC.r2]
   revert h1
   match KA ps []with
   | (.err f,L)=>exact fun⟨⟨q1,q1',q1'',q3⟩,q2⟩=>⟨⟨by exact LB q1 h,q1',by exact LB q1'' h,fun s h=>Nat.le_trans (q3 s h) (by lia)⟩,by simp only at q2 ⊢;exact BB q2⟩
   | (.ok v,L)=>
     intro⟨q1,q2⟩
     have q1:v.length<=jA ps:=q1
     have q2:L.length<=jA ps:=q2
     have:=CM r (acc++[v]) n (by simp only[List.flatten_append,List.length_append,List.flatten_cons,List.flatten_nil,List.length_cons,List.length_nil];exact LB q1 h)
     rw[show acc.length+(GC r+1)=(acc++[v]).length+GC r by simp;simp+arith only]
     exact⟨this.1,by have:=this.2;simp only[List.length_append];exact(LB this q2)⟩
theorem fO:∀(c:Cm) (n:Nat),PC c<=n->IQ n (vJ c).1/\(vJ c).2.length<=PC c
 | .mk nm ws gap,n,h=>by
   simp only[PC.r1]at h
   have h1:=CM ws [] (oA ws) (by simp)
   simp only[vJ.r1,PC.r1]
   revert h1
   match jB ws []with
   | (.err f,L)=>exact fun⟨⟨q1,q1',q1'',q3⟩,q2⟩=>⟨⟨by exact LB q1 h,q1',by exact LB q1'' h,fun s h=>Nat.le_trans (q3 s h) (by lia)⟩,by simp only at q2 ⊢;exact BB q2⟩
   | (.ok ts,L)=>
     intro⟨⟨q1,_⟩,q2⟩
     have q2:L.length<=oA ws:=q2
     have:=HP nm ts (n:=n) (by exact LB q1 h)
     exact⟨this.1,by have:=this.2;simp only[List.length_append];exact(LB this q2)⟩
theorem kN:∀(c:Rows) (ahead v:List Nat) (n:Nat),v.length<=n->WA c<=n->IQ n (tA c ahead v).1/\(tA c ahead v).2.length<=WA c
 | .nil,ahead,v,n,h,h'=>by simp only[tA.r1,tA.r2];exact⟨h,by simp⟩
 | .cons c e r,ahead,v,n,h,h'=>by
   simp only[WA.r1,WA.r2]at h'
   have h1:=fO c (PC c) (Nat.le_refl _)
   simp only[tA.r1,tA.r2,WA.r1,WA.r2]
   revert h1
   match vJ c with
   | (.err f,L)=>exact fun⟨⟨q1,q1',q1'',q3⟩,q2⟩=>⟨⟨by simp only[FC];exact LB q1 h',q1',by simp only[FC,List.length_append,List.length_cons,List.length_nil];exact LB q1'' h',fun s h=>(by simp only[FC,List.mem_append,List.mem_singleton]at h;rcases h with h | rfl;exact Nat.le_trans (q3 s h) (by exact(nD (nD (nD h'))));have:=tO c;exact(LB this h'))⟩,by simp only at q2 ⊢;exact BB q2⟩
   | (.ok v2,L)=>
     intro⟨q1,q2⟩
     have q1:v2.length<=PC c:=q1
     have q2:L.length<=PC c:=q2
     have:=kN r (ahead++CE c++e) v2 n (by exact LB q1 h') (by exact(AP h'))
     exact⟨this.1,by have:=this.2;simp only[List.length_append];exact(LB this q2)⟩
theorem RJ:∀(c:Sc) (n:Nat),NC c<=n->IQ n (wG c).1/\(wG c).2.length<=NC c
 | .mk h rows,n,q=>by
   simp only[NC.r1]at q
   have:=kN rows h [] n (by simp) (by exact(AP (nD q)))
   simp only[wG.r1,NC.r1];exact⟨this.1,by exact BB this.2⟩
end
section
variable{g:G}{d:Nat}{hd:Option Nat}{J LA BD:List O}{bad:Nat->Prop}{ll:Nat}{log L L':tC}
noncomputable abbrev wD(ws:List (List Nat)):V:= .tup (ws.map .str)
structure qH(ll:Nat)(J LA:List O):Prop where
 len:J.length<=LA.length
 keep:∀k,k < J.length->k≠ll->LA[k]?=J[k]?
theorem qH.refl{ll:Nat}:qH ll J J:=⟨Nat.le_refl _,fun u0 u0 u0=>rfl⟩
theorem qH.app{ll:Nat}(j:List O):qH ll J (J++j):=⟨by simp,fun k h u0=>List.getElem?_append_left h⟩
theorem qH.trans{ll:Nat}(a:qH ll J LA)(b:qH ll LA BD):qH ll J BD:=⟨Nat.le_trans a.len b.len,fun k h q=>(b.keep k (Nat.lt_of_lt_of_le h a.len) q).trans (a.keep k h q)⟩
theorem qH.set{ll l:Nat}{x:O}(a:qH ll J LA)(h:J.length<=l):qH ll J (LA.set l x):=⟨by simpa using a.len,fun k h1 h2=>by rw[List.getElem?_set_ne (by exact Nat.ne_of_gt (LB h1 h))];exact a.keep k h1 h2⟩
theorem qH.self{ll:Nat}{x:O}(a:qH ll J LA):qH ll J (LA.set ll x):=⟨by simpa using a.len,fun k h1 h2=>by rw[List.getElem?_set_ne (Ne.symm h2)];exact a.keep k h1 h2⟩
theorem qH.get{ll l:Nat}{x:O}(a:qH ll J LA)(h:J[l]?=some x)(q:l≠ll):LA[l]?=some x:=(a.keep l (List.getElem?_eq_some_iff.mp h).1 q).trans h
inductive mI(n:Nat)(J:List O)(l:Nat)(f:lI):Prop
 | mk (sl:Nat) (h:J[l]?=some (.list [.int f.code, .str f.value,f.ec, .int f.line, .str f.info, .loc sl])) (k:J[sl]?=some (.list (f.src.map .str))) (ne:l≠sl) (z1:n<=l) (z2:n<=sl)
theorem mI.le{n m l:Nat}{f:lI}(h:mI n J l f)(q:m<=n):mI m J l f:=by
 obtain⟨sl,h1,h2,h3,h4,h5⟩:=h;exact⟨sl,h1,h2,h3,by exact Nat.le_trans q h4,by exact Nat.le_trans q h5⟩
structure Lg(ll:Nat)(log:tC)(J:List O)(L:tC)(LA:List O):Prop where
 chg:qH ll J LA
 at':LA[ll]?=some (.list ((log++L).map wD))
theorem Lg.start(h:J[ll]?=some (.list (log.map wD))):Lg ll log J [] J:=⟨.refl,by rw[List.append_nil];exact h⟩
theorem Lg.app(a:Lg ll log J L LA)(j:List O):Lg ll log J L (LA++j):=⟨a.chg.trans (.app j),GA a.at' j⟩
theorem Lg.lt(a:Lg ll log J L LA):ll < LA.length:=(List.getElem?_eq_some_iff.mp a.at').1
theorem Lg.set{l:Nat}(a:Lg ll log J L LA)(x:O)(h:J.length<=l)(q:l≠ll):Lg ll log J L (LA.set l x):=⟨a.chg.set h,by rw[List.getElem?_set_ne q];exact a.at'⟩
theorem Lg.trans(a:Lg ll log J L LA)(b:Lg ll (log++L) LA L' BD):Lg ll log J (L++L') BD:=⟨a.chg.trans b.chg,by rw[<-List.append_assoc];exact b.at'⟩
theorem Lg.put(a:Lg ll log J L LA)(ws:List (List Nat)):Lg ll log J (L++[ws]) (LA.set ll (.list ((log++L).map wD++[wD ws]))):=⟨a.chg.self,by rw[List.getElem?_set_self a.lt];simp⟩
noncomputable def Ng(ll:Nat)(log:tC)(J:List O):PO×tC->Sp
 | (.ok v,L)=> .to (.tup [.str v, .none]) (Lg ll log J L)
 | (.err f,L)=> .val fun v LA=>∃l,v= .tup [.str [], .loc l]/\Lg ll log J L LA/\mI J.length LA l f
noncomputable def yY(g:G)(D:Nat)(s:Sc):Prop:=∀ ⦃ll:Nat⦄ ⦃v:V⦄ ⦃J:List O⦄ ⦃log:tC⦄,yB (· =ll) J v s->J[ll]?=some (.list (log.map wD))->NC s<=100000->log.length+NC s<=100000->MA g D none 737 [v, .loc ll] J (Ng ll log J (wG s))
theorem fW{l:Nat}{x:V}{r:List V}{Q:V->List O->Prop}(hl:J[l]?=some (.list (x::r)))(hn:r.length<=10000)(h:Q (.loc J.length) (J++[.list r])):UE J (.loc l) (.int 1) .none Q:=
 ⟨x::r,1,r.length+1,XA hl,by simp;exact TD hn,by show some (rD _ 1)=some 1;simp[rD],rfl,by simpa[PG]using h⟩
theorem vW{l:Nat}{vs:List V}{Q:V->List O->Prop}(hl:J[l]?=some (.list vs))(hn:vs.length<=100000)(h:Q (.tup vs) J):EH g hd (.type "tuple") [.loc l] J Q:=LE hl hn h
theorem jS{ll:Nat}(a:qH ll J LA):∀l,l < J.length->¬l=ll->LA[l]?=J[l]?:=fun l h1 h2=>a.keep l h1 h2
theorem OO{n:Nat}{f:lI}(hs:f.src=[])(h:n<=J.length):mI n (J++[O.list []]++[O.list [.int f.code, .str f.value,f.ec, .int f.line, .str f.info, .loc J.length]]) (J++[O.list []]).length f:=
 ⟨J.length,AA ..,by rw[hs];exact GA (AA ..) _,by simp,by simp;exact BB h,h⟩
theorem mJ{nm:List Nat}{ts:List (List Nat)}:jQ ((nm::ts).map V.str) (-1)=some (.str (VI nm ts)):=by
 simp only[jQ]
 rw[if_neg (by decide),if_pos (by simp only[List.length_map,List.length_cons];lia)]
 rw[show((-1:Int)+((nm::ts).map V.str).length).toNat=ts.length by simp only[List.length_map,List.length_cons];lia]
 rw[List.getElem?_map,VI,List.getLast_eq_getElem,List.getElem?_eq_getElem (by simp)]
 simp
theorem Bb{nm gap:List Nat}{ws:mF}{ts:List (List Nat)}{L:tC}(h:jB ws []=(.ok ts,L)):vJ (.mk nm ws gap)=((VD nm ts).1,L++(VD nm ts).2):=by rw[vJ.r1,h]
theorem QY{nm gap:List Nat}{ws:mF}{f:lI}{L:tC}(h:jB ws []=(.err f,L)):vJ (.mk nm ws gap)=(.err f,L):=by rw[vJ.r1,h]
theorem VX{nm:List Nat}{ts:List (List Nat)}(h:nm=[122,122]):VD nm ts=(.err HZ,[]):=if_pos h
theorem kU{nm:List Nat}{ts:List (List Nat)}(h:nm≠[122,122])(h2:nm=[114]):VD nm ts=(.ok ([60]++iA [44] ts++[62]),[nm::ts]):=(if_neg h).trans (if_pos h2)
theorem jU{nm:List Nat}{ts:List (List Nat)}(h:nm≠[122,122])(h2:nm≠[114]):VD nm ts=(.err (sH nm ts),[nm::ts]):=(if_neg h).trans (if_neg h2)
theorem tP(P:qG g){c:Cm}{v:V}(hF:iI (yY g d) c)(hr:yA (· =ll) J v c)(hll:J[ll]?=some (.list (log.map wD)))(hsz:PC c<=100000)(hlg:log.length+PC c<=100000):
 MA g (d+1) none 744 [v, .loc ll] J (Ng ll log J (vJ c)):=
 P.f744.run rfl rfl fun K e f=>by
   have en:∀{t:List Nat} {L:tC} {LA:List O},K (.ok (.tup [.str t, .none])) LA->vJ c=(.ok t,L)->Lg ll log J L LA->False:=fun k q h=>e k .same (by rw[q];exact⟨rfl,h⟩)
   have er:∀{fl:lI} {l:Nat} {L:tC} {LA:List O},K (.ok (.tup [.str [], .loc l])) LA->vJ c=(.err fl,L)->Lg ll log J L LA->mI J.length LA l fl->False:=fun k q h1 h2=>e k .same (by rw[q];exact⟨_,rfl,_,rfl,h1,h2⟩)
   clear e
   obtain⟨nm,ws,gap⟩:=c
   obtain⟨l,us,rfl,hl,hb,hr⟩:=hr.mk
   simp only[PC.r1]at hsz hlg
   have hnw:=zK ws
   have hlll:ll < J.length:=(List.getElem?_eq_some_iff.mp hll).1
   refine f _ rfl _ rfl fun Pw hP h0=>?_
   have fin:∀(ts:List (List Nat)) (L:tC) (gB:List O) (x3 x4 x5 x6 x7 x8 x9 x10:Option V),jB ws []=(.ok ts,L)->ts.flatten.length+ts.length<=oA ws->ts.length<=GC ws->L.length<=oA ws->Lg ll log J L gB->gB[J.length]?=some (.list ((nm::ts).map .str))->
    Pw us.length [some (.tup [.str nm, .loc l, .str gap]),some (.loc ll),some (.loc J.length),x3,x4,x5,x6,x7,x8,x9,x10] gB->False:=by
    intro ts L gB x3 x4 x5 x6 x7 x8 x9 x10 eo h1 h2 h3 hg hm p
    have hit:=YN (hg.chg.get hl hb)
    have eo:=Bb (nm:=nm) (gap:=gap) eo
    by_cases q:nm=[122,122]
    ·rw[VX q,List.append_nil]at eo
     exact er (hP _ _ _ p _ hit _ (lC (v:= .str nm) hm rfl) true (decide_eq_true q)) eo ((hg.app _).app _) (OO (f:=HZ) rfl hg.chg.len)
    ·have q0:=decide_eq_false q
     have hg2:=hg.put (nm::ts)
     have hm2:(gB.set ll (.list ((log++L).map wD++[wD (nm::ts)])))[J.length]?=some (.list ((nm::ts).map .str)):=by rw[List.getElem?_set_ne (by exact Nat.ne_of_lt hlll)];exact hm
     have p:=hP _ _ _ p _ hit _ (lC (v:= .str nm) hm rfl) false q0 _ hg.at' _ _ (vW hm (by simp only[List.length_map,List.length_cons];exact LB h1 hlg)) _ (XA hg.at') _ _ (uC (by simp only[List.length_map,List.length_append];exact LB h3 hlg)) _ (lC (v:= .str nm) hm2 rfl)
     by_cases q2:nm=[114]
     ·rw[kU q q2]at eo
      have hjl:=vF [44] ts
      rw[<-List.length_flatten]at hjl
      simp only[List.length_cons,List.length_nil]at hjl
      exact en (p true (decide_eq_true q2) _ _ (fW hm2 (by simp only[List.length_map];lia)) _ _ (lV (AA ..) (BE ts) (by rw[<-List.length_flatten];simp only[List.length_cons,List.length_nil];exact LB h1 hlg)) _ (qD (by simp only[List.length_cons,List.length_nil];exact fJ hjl h1 hlg)) _ (qD (by simp only[List.length_cons,List.length_nil,List.length_append];exact fJ hjl h1 hlg))) eo (hg2.app _)
     ·rw[jU q q2]at eo
      have p:=p false (decide_eq_false q2) _ (lC (v:= .str nm) hm2 rfl)
      have er:∀{cd:Int} {ec:V} {info:List Nat},cd=(sH nm ts).code->ec=(sH nm ts).ec->info=(sH nm ts).info->K (.ok (.tup [.str [], .loc ((gB.set ll (.list ((log++L).map wD++[wD (nm::ts)])))++[O.list []]).length])) ((gB.set ll (.list ((log++L).map wD++[wD (nm::ts)])))++[O.list []]++[O.list [.int cd, .str (VI nm ts),ec, .int 0, .str info, .loc (gB.set ll (.list ((log++L).map wD++[wD (nm::ts)]))).length]])->False:=fun q1 q2 q3 k=>by
       subst q1;subst q2;subst q3
       exact er k eo ((hg2.app _).app _) (OO (f:=sH nm ts) rfl hg2.chg.len)
      by_cases q3:nm=[116,111,108,100]
      ·have q4:nm≠[115,116,111,112]:=by rw[q3];decide
       exact er (if_neg q4).symm (if_pos q3).symm (if_pos q3).symm (p true (decide_eq_true q3) _ (lC (v:= .str nm) hm2 rfl) false (decide_eq_false q4) _ (lC hm2 mJ))
      ·by_cases q4:nm=[115,116,111,112]
       ·exact er (if_pos q4).symm (if_neg q3).symm (if_neg q3).symm (p false (decide_eq_false q3) _ (lC (v:= .str nm) hm2 rfl) true (decide_eq_true q4) _ (lC hm2 mJ))
       ·exact er (if_neg q4).symm (if_neg q3).symm (if_neg q3).symm (p false (decide_eq_false q3) _ (lC (v:= .str nm) hm2 rfl) false (decide_eq_false q4) _ (lC hm2 mJ))
   have key:∀(ws2:mF) (us2 pre:List V) (k:Nat) (ts:List (List Nat)) (L:tC) (gB:List O) (x3 x4 x5 x6 x7 x8 x9 x10:Option V),us=pre++us2->k=pre.length->jI (yY g d) ws2->ZA (· =ll) J us2 ws2->
    jB ws []=((jB ws2 ts).1,L++(jB ws2 ts).2)->
    ts.flatten.length+ts.length+oA ws2<=oA ws->ts.length+GC ws2<=GC ws->L.length+oA ws2<=oA ws->Lg ll log J L gB->gB[J.length]?=some (.list ((nm::ts).map .str))->
    Pw k [some (.tup [.str nm, .loc l, .str gap]),some (.loc ll),some (.loc J.length),x3,x4,x5,x6,x7,x8,x9,x10] gB->False:=by
    intro ws2
    induction ws2 using mF.ind with
    | h0=>
      intro us2 pre k ts L gB x3 x4 x5 x6 x7 x8 x9 x10 e1 ek _ hr2 eo h1 h2 h3 hg hm p
      subst ek
      rw[hr2.nl,List.append_nil]at e1
      subst e1
      simp only[oA.r1,oA.r2,GC.r1,GC.r2,jB.r1,jB.r2,List.append_nil]at eo h1 h2 h3
      exact fin ts L gB _ _ _ _ _ _ _ _ eo (by exact(nD h1)) (by exact(nD h2)) (by exact(nD h3)) hg hm p
    | h1 m ps r ih=>
      intro us2 pre k ts L gB x3 x4 x5 x6 x7 x8 x9 x10 e1 ek hF2 hr2 eo h1 h2 h3 hg hm p
      subst ek
      obtain⟨l2,us3,vs3,rfl,hl2,hb2,hrp,hr3⟩:=hr2.cs
      simp only[oA.r1,oA.r2,GC.r1,GC.r2]at h1 h2 h3
      have hit:cC gB (.loc l) pre.length=some (some _):=qP (e1 ▸ hg.chg.get hl hb)
      rw[List.append_cons]at e1
      have hl3:=hg.chg.get hl2 hb2
      refine hP _ _ _ p _ hit _ hl3 fun Px hX hx0=>?_
      have key2:∀(ps2:aF) (us4 pre2:List V) (k:Nat) (acc:List Nat) (L2:tC) (aB:List O) (x6 x7 x8 x9 x10:Option V),vs3=pre2++us4->k=pre2.length->GG (yY g d) ps2->YA (· =ll) J us4 ps2->
       acc.length+jA ps2<=jA ps->L2.length+jA ps2<=jA ps->Lg ll (log++L) gB L2 aB->KA ps []=((KA ps2 acc).1,L2++(KA ps2 acc).2)->
       (∀{t:List Nat} {L3:tC} {YF:List O} {x6 x7 x8 x9 x10:Option V},KA ps []=(.ok t,L3)->Lg ll (log++L) gB L3 YF->Px vs3.length [some (.tup [.str nm, .loc l, .str gap]),some (.loc ll),some (.loc J.length),some (.str m),some (.loc l2),some (.str t),x6,x7,x8,x9,x10] YF->False)->
       Px k [some (.tup [.str nm, .loc l, .str gap]),some (.loc ll),some (.loc J.length),some (.str m),some (.loc l2),some (.str acc),x6,x7,x8,x9,x10] aB->False:=by
       intro ps2
       have er2:∀{fl:lI} {lf:Nat} {L3:tC} {LA:List O},K (.ok (.tup [.str [], .loc lf])) LA->KA ps []=(.err fl,L3)->Lg ll (log++L) gB L3 LA->mI gB.length LA lf fl->False:=fun k q h1 h2=>
        er k (QY (eo.trans (by(first | rw[jB.r1,q] | rw[jB.r2,q])))) (hg.trans h1) (h2.le hg.chg.len)
       induction ps2 using aF.ind with
       | h0=>
         intro us4 pre2 k acc L2 aB x6 x7 x8 x9 x10 e2 ek _ hr4 s1 s2 hg2 eq hK q
         subst ek
         rw[hr4.nl,List.append_nil]at e2
         subst e2
         (first | rw[KA.r1,List.append_nil]at eq | rw[KA.r2,List.append_nil]at eq | rw[KA.r3,List.append_nil]at eq | rw[KA.r4,List.append_nil]at eq)
         exact hK eq hg2 q
       | h1 p r2 ih2=>
         intro us4 pre2 k acc L2 aB x6 x7 x8 x9 x10 e2 ek hF3 hr4 s1 s2 hg2 eq hK q
         subst ek
         obtain⟨v,ws4,rfl,hv,hr5⟩:=hr4.cs
         have hit2:cC aB (.loc l2) pre2.length=some (some v):=qP (e2 ▸ hg2.chg.get hl3 hb2)
         rw[List.append_cons]at e2
         induction p using Pc.casesOn with
         | unset=>
           cases hv.un
           (first | rw[KA.r1,List.append_nil]at eq | rw[KA.r2,List.append_nil]at eq | rw[KA.r3,List.append_nil]at eq | rw[KA.r4,List.append_nil]at eq)
           exact er2 (hX _ _ _ q _ hit2 _ rfl true rfl) eq ((hg2.app _).app _) (OO (f:=JH) rfl hg2.chg.len)
         | text a b=>
           cases hv.tx
           (first | rw[KA.r1]at eq | rw[KA.r2]at eq | rw[KA.r3]at eq | rw[KA.r4]at eq)
           simp only[jA.r1,jA.r2,FB.r1,FB.r2,FB.r3]at s1 s2
           exact ih2 ws4 _ _ (acc++b) L2 aB _ _ _ _ _ e2 (by simp) hF3 hr5 (by simp only[List.length_append];exact BB s1) (by exact BB s2) hg2 eq hK (hX _ _ _ q _ hit2 _ rfl false rfl _ rfl true rfl _ rfl _ (qD (by exact fJ s1 h3 hlg)))
         | run s=>
           obtain⟨x,e3,hx⟩:=hv.rn
           subst e3
           (first | rw[KA.r1]at eq | rw[KA.r2]at eq | rw[KA.r3]at eq | rw[KA.r4]at eq)
           simp only[jA.r1,jA.r2,FB.r1,FB.r2,FB.r3]at s1 s2
           have hsl:=RJ s (NC s) (Nat.le_refl _)
           have c:=hF3.1 (yB.mv (jS (hg.chg.trans hg2.chg)) (fun u0 q=> .inl q) x s hx) hg2.at' (by exact fJ s2 h3 hlg) (by simp only[List.length_append];exact fJ s2 h3 hlg)
           rcases es:wG s with⟨o,L3⟩
           rw[es]at c eq hsl
           have p:=hX _ _ _ q _ hit2 _ rfl false rfl _ rfl false rfl _ rfl _ c
           induction o using PO.casesOn with
           | err f=>
             refine p fun v YF ⟨lf,e4,hg3,hf⟩ p=>?_
             subst e4
             exact er2 (p true rfl) eq (hg2.trans hg3) (hf.le hg2.chg.len)
           | ok t=>
             have hsl1:t.length<=NC s:=hsl.1
             have hsl2:L3.length<=NC s:=hsl.2
             exact p fun YF hg3 p=>ih2 ws4 _ _ (acc++t) (L2++L3) YF _ _ _ _ _ e2 (by simp) hF3.2 hr5 (by simp only[List.length_append];exact LB hsl1 s1) (by simp only[List.length_append];exact LB hsl2 s2) (hg2.trans hg3) (by rw[List.append_assoc];exact eq) hK (p false rfl _ (qD (by lia)))
      refine key2 ps vs3 [] 0 [] [] gB _ _ _ _ _ rfl rfl hF2.1 hrp (by simp) (by simp) (.start hg.at') rfl (fun {t L3 YF _ _ _ _ _} q hg3 p=>?_) hx0
      have hpl:=ZH ps [] (jA ps) (by simp)
      rw[q]at hpl
      have hpl1:t.length<=jA ps:=hpl.1
      have hpl2:L3.length<=jA ps:=hpl.2
      have hm3:=hg3.chg.get hm (by exact Nat.ne_of_gt hlll)
      (first | rw[jB.r1,q]at eo | rw[jB.r2,q]at eo)
      refine ih us3 _ _ (ts++[t]) (L++L3) _ _ _ _ _ _ _ _ _ e1 (by simp) hF2.2 hr3 (by rw[List.append_assoc];exact eo) (by simp only[List.flatten_append,List.length_append,List.flatten_cons,List.flatten_nil,List.length_cons,List.length_nil];exact LB hpl1 h1) (by simp only[List.length_append,List.length_cons,List.length_nil];exact BB h2) (by simp only[List.length_append];exact LB hpl2 h3) ((hg.trans hg3).set _ (Nat.le_refl _) (by exact Nat.ne_of_gt hlll)) ?_
       (hX _ _ _ p _ (YN (hg3.chg.get hl3 hb2)) _ hm3 _ (XA hm3) _ _ (uC (by simp only[List.length_map,List.length_cons];exact LB h1 hlg)))
      rw[List.getElem?_set_self (List.getElem?_eq_some_iff.mp hm3).1,yF];rfl
   exact key ws us [] 0 [] [] _ _ _ _ _ _ _ _ _ rfl rfl hF hr rfl (by simp) (by simp) (by simp) ((Lg.start hll).app _) (AA ..) h0
end
section
variable{g:G}{d:Nat}{hd:Option Nat}{J LA BD:List O}{ll:Nat}{log:tC}{bad:Nat->Prop}
theorem oH(n:Nat):∀ss:List (List Nat),iG J n (ss.map .str)=some (ss.map fun s=>PyData.str ⟨s.toArray⟩)
 | []=>rfl
 | s::r=>by
   simp only[List.map_cons,eI,wN,oH n r]
theorem xI:∀xs:List PyData,PyData.eqv (.list xs) (.list [])=xs.isEmpty
 | []=>by simp[PyData.eqv,PyData.eqvAll]
 | _::_=>by simp[PyData.eqv,PyData.eqvAll]
theorem Qd{l k:Nat}{ss:List (List Nat)}(hl:J[l]?=some (.list (ss.map .str)))(hk:J[k]?=some (.list [])):VL J .Eq (.loc l) (.loc k)=some (decide (ss=[])):=by
 rw[sQ,qJ ((aM (n:=79) hl).trans (congrArg (Option.map _) (oH 79 ss))) ((aM (n:=7) hk).trans (congrArg (Option.map _) XR)),xI]
 induction ss using List.casesOn <;>simp
theorem UM{l i:Nat}{xs:List V}{v:V}(hl:J[l]?=some (.list xs))(hi:i < xs.length):jE J (.loc l) (.int (i:Int)) v (· =J.set l (.list (xs.set i v))):=
 ⟨xs,XA hl,by rw[if_pos (by lia)];exact⟨by simpa using hi,by simp⟩⟩
theorem DV{s:List Nat}{c:Nat}{Q:V->List O->Prop}(h:Q (.int (s.count c:Nat)) J):DB J s [99,111,117,110,116] [.str [c]] Q:=nY h
theorem MW(P:qG g){h:List Nat}{rows:Rows}(hF:KF (yY g d) rows)(hW:KF (IX g d) rows):yY g (d+3) (.mk h rows):=fun {ll v J log} hr hll hsz hlg=>
 P.f737.run rfl rfl fun K e f=>by
   have en:∀{t:List Nat} {L:tC} {LA:List O},K (.ok (.tup [.str t, .none])) LA->wG (.mk h rows)=(.ok t,L)->Lg ll log J L LA->False:=fun k q h=>e k .same (by rw[q];exact⟨rfl,h⟩)
   have er:∀{fl:lI} {l:Nat} {L:tC} {LA:List O},K (.ok (.tup [.str [], .loc l])) LA->wG (.mk h rows)=(.err fl,L)->Lg ll log J L LA->mI J.length LA l fl->False:=fun k q h1 h2=>e k .same (by rw[q];exact⟨_,rfl,_,rfl,h1,h2⟩)
   clear e
   obtain⟨l,us,rfl,hl,hb,hr⟩:=hr.mk
   simp only[NC.r1]at hsz hlg
   have hlll:ll < J.length:=(List.getElem?_eq_some_iff.mp hll).1
   refine f _ rfl _ rfl fun Pw hP h0=>?_
   have key:∀(rs:Rows) (us2 pre:List V) (k:Nat) (ahead val:List Nat) (L:tC) (gB:List O) (x4 x5 x6 x7:Option V),us=pre++us2->k=pre.length->KF (yY g d) rs->KF (IX g d) rs->EA (· =ll) J us2 rs->
    wG (.mk h rows)=((tA rs ahead val).1,L++(tA rs ahead val).2)->ahead.length+WA rs<=h.length+WA rows->L.length+WA rs<=WA rows->Lg ll log J L gB->
    Pw k [some (.tup [.str h, .loc l]),some (.loc ll),some (.str ahead),some (.str val),x4,x5,x6,x7] gB->False:=by
    intro rs
    induction rs using Rows.ind with
    | h0=>
      intro us2 pre k ahead val L gB x4 x5 x6 x7 e1 ek _ _ hr2 eo h1 h2 hg p
      subst ek
      rw[hr2.nl,List.append_nil]at e1
      subst e1
      (first | rw[tA.r1,List.append_nil]at eo | rw[tA.r2,List.append_nil]at eo)
      exact en (hP _ _ _ p _ (YN (hg.chg.get hl hb))) eo hg
    | h1 c e r ih=>
      intro us2 pre k ahead val L gB x4 x5 x6 x7 e1 ek hF2 hW2 hr2 eo h1 h2 hg p
      subst ek
      obtain⟨v,vs,rfl,hv,hr2⟩:=hr2.cs
      simp only[WA.r1,WA.r2]at h1 h2
      have hit:cC gB (.loc l) pre.length=some (some _):=qP (e1 ▸ hg.chg.get hl hb)
      rw[List.append_cons]at e1
      have hv1:=yA.mv (jS hg.chg) (fun u0 q=> .inl q) v c hv
      have hcl:=fO c (PC c) (Nat.le_refl _)
      have hwl:=tO c
      have cl:=tP (d:=d) P hF2.1 hv1 hg.at' (by exact LB h2 hlg) (by simp only[List.length_append];exact LB h2 hlg)
      have p:=hP _ _ _ p _ hit _ (EF (d:=d) P hW2.1 hv1 (by exact LB h2 hlg)) _ (cl.up (by simp+arith only))
      rcases ec:vJ c with⟨o,L3⟩
      rw[ec]at p hcl
      (first | rw[tA.r1,ec]at eo | rw[tA.r2,ec]at eo)
      induction o using PO.casesOn with
      | ok t=>
        have hcl1:t.length<=PC c:=hcl.1
        have hcl2:L3.length<=PC c:=hcl.2
        exact p fun YF hg3 p=>ih vs _ _ _ t (L++L3) YF _ _ _ _ e1 (by simp) hF2.2 hW2.2 hr2 (by rw[List.append_assoc L];exact eo) (by simp only[List.length_append];exact LB hwl h1) (by simp only[List.length_append];exact LB hcl2 h2) (hg.trans hg3) (p false rfl _ (qD (by exact fJ hwl h1 hlg)) _ (qD (by simp only[List.length_append];exact fJ hwl h1 hlg)))
      | err f=>
        refine p fun v YF ⟨lf,e4,hg3,sl,f1,f2,f3,f4,f5⟩ p=>?_
        subst e4
        have hg4:=hg.trans hg3
        have n4:J.length<=lf:=Nat.le_trans hg.chg.len f4
        have n5:J.length<=sl:=Nat.le_trans hg.chg.len f5
        have hsl:(f.src.map V.str).length<=100000:=by rw[List.length_map];have:=hcl.1.2.2.1;exact(fJ this h2 hlg)
        have fin:∀{eJ:List O} {line:Int},line=(FC f ahead (CE c)).line->Lg ll log J (L++L3) eJ->eJ[lf]?=some (.list [.int f.code, .str f.value,f.ec, .int line, .str f.info, .loc sl])->eJ[sl]?=some (.list (f.src.map .str))->
         K (.ok (.tup [.str [], .loc lf])) (eJ.set sl (.list (f.src.map .str++[.str (CE c)])))->False:=by
         intro eJ line e q1 q3 q4 k
         refine er k eo (q1.set _ n5 (by exact Nat.ne_of_gt (LB n5 hlll))) ⟨sl,?_,?_,f3,n4,n5⟩
         ·rw[List.getElem?_set_ne (Ne.symm f3),q3,e];rfl
         ·rw[List.getElem?_set_self (List.getElem?_eq_some_iff.mp q4).1];simp[FC]
        have p:=p true rfl _ (lC (v:= .int f.code) f1 rfl)
        by_cases q:f.code=1
        ·have f1':=GA f1 [O.list []]
         have f2':=GA f2 [O.list []]
         have p:=p true (decide_eq_true q) _ (lC (v:= .loc sl) f1 rfl) _ (Qd f2' (AA ..))
         by_cases q2:f.src=[]
         ·have p:=p true (decide_eq_true q2) _ _ DV _ (UM (i:=3) f1' (by simp))
          refine p fun eJ e4 p=>?_
          have g1:eJ[lf]?=some (.list [.int f.code, .str f.value,f.ec, .int (1+(ahead.count 10:Int)), .str f.info, .loc sl]):=by rw[e4,List.getElem?_set_self (List.getElem?_eq_some_iff.mp f1').1];rfl
          have g2:eJ[sl]?=some (.list (f.src.map .str)):=by rw[e4,List.getElem?_set_ne f3];exact f2'
          have g3:Lg ll log J (L++L3) eJ:=by rw[e4];exact(hg4.app _).set _ n4 (by exact Nat.ne_of_gt (LB n4 hlll))
          exact fin (by simp only[FC];rw[if_pos ⟨q,q2⟩]) g3 g1 g2 (p _ (lC (v:= .loc sl) g1 rfl) _ g2 _ (XA g2) _ _ (uC hsl))
         ·exact fin (by simp only[FC];rw[if_neg (fun k=>q2 k.2)]) (hg4.app _) f1' f2' (p false (decide_eq_false q2) _ (lC (v:= .loc sl) f1' rfl) _ f2' _ (XA f2') _ _ (uC hsl))
        ·exact fin (by simp only[FC];rw[if_neg (fun k=>q k.1)]) hg4 f1 f2 (p false (decide_eq_false q) _ (lC (v:= .loc sl) f1 rfl) _ f2 _ (XA f2) _ _ (uC hsl))
   exact key rows us [] 0 h [] [] J _ _ _ _ rfl rfl hF hW hr rfl (by exact Nat.le_refl _) (by simp) (.start hll) h0
theorem jO(P:qG g):∀(n:Nat) (s:Sc),qM s<=n->yY g (3*n) s
 | 0, .mk h rows,q=>by simp only[qM.r1]at q;lia
 | n+1, .mk h rows,q=>by
   simp only[qM.r1]at q
   exact MW P (sK (F:=yY g (3*n)) (n:=n) (fun s q=>jO P n s q) rows (by exact BB q)) (sK (F:=IX g (3*n)) (n:=n) (fun s q=>FF P n s q) rows (by exact BB q))
end
section
variable{g:G}{d:Nat}{hd:Option Nat}{J LA BD:List O}{bad:Nat->Prop}
noncomputable def bH(s:List Nat):List Nat:=[34]++uB s++[34]
theorem WQ(P:qG g){s:List Nat}(hs:s.length<=1000000):MA g (d+1) none 751 [.str s] J (.at (.ok (.str (bH s))) J):=
 P.f751.run rfl rfl fun K e f=>by
   unfold bH uB at e
   by_cases q:s.length<=150
   ·rw[if_pos q]at e
    exact e (f true (decide_eq_true (by lia)) _ (qD (by simp only[List.length_cons,List.length_nil];exact BB q)) _ (qD (by simp only[List.length_append,List.length_cons,List.length_nil];exact BB q))) .same ⟨rfl,rfl⟩
   ·rw[if_neg q]at e
    have hl:(s.take 150).length<=150:=by rw[List.length_take];lia
    exact e (f false (decide_eq_false (by lia)) _ (vO (k:=150)) _ (qD (by simp only[List.length_cons,List.length_nil];exact BB hl)) _ (qD (by simp only[List.length_append,List.length_cons,List.length_nil];exact BB hl)) _ (qD (by simp only[List.length_append,List.length_cons,List.length_nil];exact BB hl))) .same ⟨rfl,rfl⟩
noncomputable def mC(value info:List Nat):List (List Nat)->List Nat
 | []=>info
 | s::r=>r.foldl (fun i s=>i++WC++uB s++[34]) (if info=[]then value++kG++uB s++[34]else info)
noncomputable def uQ:PO->V
 | .ok v=> .tup [.int 0, .str v, .tup [], .int 0, .str []]
 | .err f=>if f.code≠1 then .tup [.int f.code, .str f.value,f.ec, .int 0, .str []]else .tup [.int f.code, .str f.value,f.ec, .int f.line, .str (mC f.value f.info f.src)]
theorem KV(P:qG g){v:List Nat}:MA g (d+1) none 758 [.str v, .none] J (.at (.ok (uQ (.ok v))) J):=
 P.f758.run rfl rfl fun K e f=>e (f true rfl) .same ⟨rfl,rfl⟩
theorem dZ{l n:Nat}{vs:List V}(h:J[l]?=some (.list vs))(hn:vs.length=n):tG J n (.loc l)=some vs:=by
 show(CB J l).bind _=_;rw[XA h];exact if_pos hn
theorem xR(P:qG g){f:lI}{l n:Nat}{x:List Nat}(hf:mI n J l f)(hs:f.src≠[])(hv:f.value.length<=200000)(hi:f.info.length<=10)(hn:f.src.length<=2000)(hb:∀s∈f.src,s.length<=1000000):
 MA g (d+2) none 758 [.str x, .loc l] J (.to (uQ (.err f)) fun LA=>∃j,LA=J++j):=
 P.f758.run rfl rfl fun K e p=>by
   obtain⟨sl,f1,f2,f3,f4,f5⟩:=hf
   have d1:f.code=1->uQ (.err f)= .tup [.int f.code, .str f.value,f.ec, .int f.line, .str (mC f.value f.info f.src)]:=fun q=>if_neg fun h=>h q
   have d2:f.code≠1->uQ (.err f)= .tup [.int f.code, .str f.value,f.ec, .int 0, .str []]:=fun q=>if_pos q
   by_cases q:f.code=1
   ·rw[d1 q]at e
    clear d1 d2
    rcases hsr:f.src with _ | ⟨s,r⟩
    ·exact absurd hsr hs
    rw[hsr]at f2 hb hn e
    have hcl:∀s,(uB s).length<=153:=OG
    have rl:r.length<=2000:=by simp only[List.length_cons]at hn;exact(nD hn)
    have p:=p false rfl _ (dZ f1 rfl) false (by rw[decide_eq_true q];rfl)
    have p:∃i0:List Nat,i0.length<=200400/\i0=(if f.info=[]then f.value++kG++uB s++[34]else f.info)/\dB g (d+1) none RI.body.tl.tl.tl.tl [some (.str f.value),some (.loc l),none,some (.int f.code),some f.ec,some (.int f.line),some (.str i0),some (.loc sl)] J (cF K) (JF K):=by
     by_cases q2:f.info=[]
     ·have hy:=hcl s
      exact⟨_,by simp only[bH,List.length_append,List.length_cons,List.length_nil];exact LB hy hv,by rw[if_pos q2];simp[bH,kG],p true (decide_eq_true q2) _ (qD (by simp only[List.length_cons,List.length_nil];exact BB hv)) _ (lC (v:= .str s) f2 rfl) _ (WQ P (hb s (by simp))) _ (qD (by simp only[bH,List.length_append,List.length_cons,List.length_nil];exact LB hy hv))⟩
     ·exact⟨_,by exact TD hi,(if_neg q2).symm,p false (decide_eq_false q2)⟩
    obtain⟨i0,hi0,e0,p⟩:=p
    refine p _ _ (fW (x:= .str s) (r:=r.map .str) f2 (by rw[List.length_map];exact TD rl)) _ (AA ..) fun Pw hP h0=>?_
    have key:∀(r2 pre:List (List Nat)) (k:Nat) (i:List Nat) (x2:Option V),r=pre++r2->k=pre.length->i.length+r2.length*300<=i0.length+r.length*300->mC f.value f.info (s::r)=r2.foldl (fun i s=>i++WC++uB s++[34]) i->
     Pw k [some (.str f.value),some (.loc l),x2,some (.int f.code),some f.ec,some (.int f.line),some (.str i),some (.loc sl)] (J++[.list (r.map .str)])->False:=by
     intro r2
     induction r2 with
     | nil=>
       intro pre k i x2 e1 ek hi eo p
       subst ek
       rw[List.append_nil]at e1
       subst e1
       rw[eo]at e
       exact e (hP _ _ _ p _ (List.length_map V.str (as:=r) ▸ YN (AA ..))) .same ⟨rfl,_,rfl⟩
     | cons y r2 ih=>
       intro pre k i x2 e1 ek hi eo p
       subst ek
       simp only[List.length_cons]at hi
       have hy:=hcl y
       have hit:cC (J++[.list (r.map .str)]) (.loc J.length) pre.length=some (some (.str y)):=by
        have:=qP (J:=J++[O.list (r.map .str)]) (l:=J.length) (pre:=pre.map .str) (v:= .str y) (r:=r2.map .str) (by rw[e1,List.map_append];exact AA ..)
        rwa [List.length_map]at this
       refine ih (pre++[y]) (pre.length+1) (i++WC++uB y++[34]) (some (.str y)) (by rw[List.append_assoc];exact e1) (by simp) (by simp only[WC,List.length_append,List.length_cons,List.length_nil];exact LB hy hi) eo ?_
       have p:=hP _ _ _ p _ hit _ (qD (by simp only[List.length_cons,List.length_nil];lia)) _ (WQ P (hb y (by rw[e1];simp))) _ (qD (by simp only[bH,List.length_append,List.length_cons,List.length_nil];lia))
       rw[show i++WC++uB y++[34]=(i++[10,32,32,32,32,105,110,118,111,107,101,100,32,102,114,111,109,32,119,105,116,104,105,110,10])++bH y by simp only[bH,WC,List.append_assoc,List.cons_append,List.nil_append]]
       exact p
    exact key r [] 0 i0 _ rfl rfl (Nat.le_refl _) (by rw[e0];rfl) h0
   ·rw[d2 q]at e
    exact e (p false rfl _ (dZ f1 rfl) true (by rw[decide_eq_false q];rfl)) .same ⟨rfl,[],by simp⟩
theorem ZI(P:Prog g){code:Int}{value:List Nat}:MA g (d+2) hd 84 [.int code, .str value] J (.at (.ok (.loc J.length)) (J++wJ J.length ⟨code,value,ND,[],false,0⟩)):=
 P.c84 _ _ _ _ _ rfl rfl (fun f=>f
   (.inr ⟨84,AA ..⟩) _ (nM rfl (by decide)) _ (xG rfl rfl rfl) _ (xG rfl rfl rfl) _ (xG rfl rfl rfl) _ (xG rfl rfl rfl) _ (xG rfl rfl rfl) _ (xG rfl rfl rfl) _ (xG rfl rfl rfl)
   _ (fun {Q} h=>by
     rw[List.append_assoc,List.length_append]
     exact xG (t:=[.list []]) rfl rfl rfl h) ⟨rfl,rfl,rfl⟩)
noncomputable def zE(ll:Nat):uY where
 St:=tC
 W log J:=J[ll]?=some (.list (log.map wD))/\log.length<=50000
 own _ l:=l=ll
 lt:=by rintro st J l ⟨h,_⟩ rfl;exact(List.getElem?_eq_some_iff.mp h).1
 cong:=by rintro st J LA ⟨h,q⟩ k;exact⟨(k ll rfl).trans h,q⟩
 lists:=by rintro st J l ⟨h,_⟩ rfl;exact⟨_,h⟩
end
section
variable{g:G}{d:Nat}{hd:Option Nat}{J LA BD:List O}{bad:Nat->Prop}{L:HL}{ll:Nat}{hs:uH}{log:tC}
noncomputable abbrev lF(L:HL)(ll:Nat):Wd:=JB L (zE ll)
theorem LT(H:(lF L ll).W (hs,log) J)(row:List (List Nat))(hn:log.length < 50000):IB (lF L ll) (hs,log) J (hs,log++[row]) (J.set ll (.list (log.map wD++[wD row]))):=by
 have hl:J[ll]?=some (.list (log.map wD)):=H.2.1
 refine⟨⟨H.1.cong fun l q=>?_,⟨?_,by simp;exact BB hn⟩⟩,by simp,fun l h1 h2=>?_,fun l q=> .inl q⟩
 ·refine List.getElem?_set_ne fun e=>?_
  subst e
  exact H.1.noList q hl
 ·rw[List.getElem?_set_self (List.getElem?_eq_some_iff.mp hl).1];simp
 ·refine List.getElem?_set_ne fun e=>h2 (.inr e.symm)
noncomputable def sM(f:lI):Rz:=⟨f.code,f.value,f.ec,if f.code=1 then mC f.value f.info f.src else f.info,decide (f.code=1/\f.src≠[]),if f.code=1 then f.line else 0⟩
noncomputable def Ce(w:Wd)(st:w.St):PO->AD w
 | .ok v=> .ok (.str v) st
 | .err f=> .err (sM f) st
theorem EU(P:qG g){nm:List Nat}{ts:List (List Nat)}(hz:nm≠[122,122])(hn:log.length < 50000)(ht:ts.flatten.length+ts.length<=100000)(hnm:nm.length<=10)(hl1000:ts.length<=10000):
 Hc g (zE ll) L (d+3) 765 (.loc ll) (nm::ts) (hs,log) (Ce _ (hs,log++(VD nm ts).2) (VD nm ts).1):=fun {J l} H hm=>
 P.f765.run rfl rfl fun K e f=>by
   have hlog:J[ll]?=some (.list (log.map wD)):=H.2.1
   have ha:IB (lF L ll) (hs,log) J (hs,log++[nm::ts]) _:=LT H (nm::ts) hn
   have hm2:=hm.after ha
   have p:=f _ hlog _ _ (vW hm.at' (by simp only[List.length_map,List.length_cons];exact BB hl1000)) _ (XA hlog) _ _ (uC (by simp only[List.length_map];exact BB hn)) _ (lC (v:= .str nm) hm2.at' rfl)
   by_cases q:nm=[114]
   ·rw[kU hz q]at e
    have hjl:=vF [44] ts
    rw[<-List.length_flatten]at hjl
    simp only[List.length_cons,List.length_nil]at hjl
    exact e (p true (decide_eq_true q) _ _ (fW hm2.at' (by simp only[List.length_map];assumption)) _ _ (lV (AA ..) (BE ts) (by rw[<-List.length_flatten];simp only[List.length_cons,List.length_nil];exact BB ht)) _ (qD (by simp only[List.length_cons,List.length_nil];exact LB hjl ht)) _ (qD (by simp only[List.length_cons,List.length_nil,List.length_append];exact LB hjl ht))) .same ⟨rfl,ha.push _⟩
   ·rw[jU hz q]at e
    have p:=p false (decide_eq_false q) _ (lC (v:= .str nm) hm2.at' rfl)
    have en:∀{z:Rz} {aB:List O} {xl:Nat},z=sM (sH nm ts)->xl=aB.length+2->IB (lF L ll) (hs,log) J (hs,log++[nm::ts]) aB->K (.exn aB.length) (aB++ .exc 84 (aB.length+1):: .ad (z.ad xl)::[.list []])->False:=fun {z aB xl} e1 e2 ha k=>by
     subst e1;subst e2
     exact e k .same ⟨_,rfl,ha.push _,aB.length+1,aB.length+2,ha.len,by have:=ha.len;exact(BB this),by exact Nat.ne_of_lt (Nat.lt_succ_self _),⟨AA ..,(lF L ll).new ha.ok⟩,⟨nB aB _ 1,fun q=>by have:=(lF L ll).lt ha.ok q;lia⟩⟩
    by_cases q3:nm=[116,111,108,100]
    ·have q4:nm≠[115,116,111,112]:=by rw[q3];decide
     exact en (z:=⟨1,VI nm ts,LV,[115,111,32,116,111,108,100],false,0⟩) (by simp[sM,sH,q3,mC]) rfl ha (p false (decide_eq_false q4) _ (lC hm2.at' mJ) _ (ZI (d:=d) P.toProg) _ (lC (v:= .str nm) (GA hm2.at' _) rfl) true (decide_eq_true q3) _ (xG rfl rfl rfl) _ (fun {Q} h=>xG rfl rfl rfl h) _ _ (AA ..) (.inl rfl))
    ·by_cases q4:nm=[115,116,111,112]
     ·exact en (by simp[sM,sH,q3,q4,mC,ND]) rfl ha (p true (decide_eq_true q4) _ (lC hm2.at' mJ) _ (ZI (d:=d) P.toProg) _ (lC (v:= .str nm) (GA hm2.at' _) rfl) false (decide_eq_false q3) _ _ (AA ..) (.inl rfl))
     ·exact en (by simp[sM,sH,q3,q4,mC,ND]) rfl ha (p false (decide_eq_false q4) _ (lC hm2.at' mJ) _ (ZI (d:=d) P.toProg) _ (lC (v:= .str nm) (GA hm2.at' _) rfl) false (decide_eq_false q3) _ _ (AA ..) (.inl rfl))
end
section
variable{g:G}{d:Nat}{T s rest st run:List Nat}{n:Nat}{b:Bool}{acc:List V}
noncomputable def kJ(st rest:List Nat):Prop:=rest=[]\/∃c r,rest=c::r/\st.contains c=true
theorem CG(he:kJ st rest):uA g T d st rest run acc (.ok (.tup (acc++YC run)) rest):=by
 rcases he with rfl | ⟨c,r,rfl,h⟩
 ·exact .nil
 ·exact .stop h
theorem MB{w:List Nat}(hw:∀c∈w,rC st c=true)(he:kJ st rest):uA g T d st (w++rest) run acc (.ok (.tup (acc++YC (run++w))) rest):= .run hw (CG he)
noncomputable def pG(g:G)(T:List Nat)(d:Nat)(s:Sc):Prop:=∀rest,MX g T d (gD s++93::rest) (.ok (.str (gD s)) rest)
noncomputable def tL:List (List Nat×List Nat):=[([97],[97]),([123,99,32,100,125],[99,32,100]),([34,101,10,102,34],[101,10,102]),([92,120,52,49],[65]),([36,118],[118,97,32,108]),([123,103,10,59,104,125],[103,10,59,104]),([35,105],[35,105]),(List.replicate 60 119,List.replicate 60 119),([98],[98]),([122],[122]),([99],[99])]
inductive iQ(F:Sc->Prop):List Nat->aF->Prop
 | lit {w v:List Nat}:(w,v)∈tL->iQ F [] (.cons (.text w v) .nil)
 | run {s:Sc}:F s->iQ F [] (.cons (.run s) .nil)
 | uns:iQ F [] (.cons .unset .nil)
 | quo {s:Sc}:F s->iQ F [34] (.cons (.text [112,10] [112,10]) (.cons (.run s) (.cons (.text [36,118,32,113] [118,97,32,108,32,113]) .nil)))
 | aro {m:List Nat} {s:Sc}:m=[]\/m=[34]->F s->iQ F m (.cons (.text [120] [120]) (.cons (.run s) (.cons (.text [121] [121]) .nil)))
noncomputable def ze:aF->List V
 | .nil=>[]
 | .cons p r=>match p with
   | .unset=>[vr [117] .none]
   | .run s=>[cm (gD s)]
   | .text a b=>match r with
     | .nil=>if a=[36,118]then[vr [118] .none]else[tx b]
     | .cons p2 r2=>match p2 with
       | .run s=>match r2 with
         | .cons p3 _=>match p3 with
           | .text c _=>if c=[36,118,32,113]then[tx a,cm (gD s),vr [118] .none,tx [32,113]]else[tx a,cm (gD s),tx c]
           | _=>[]
         | .nil=>[]
       | _=>[]
theorem JJ{c:Nat}{r:List Nat}(h:c≠123):wE (c::r)=false:=by
 simp[wE,h]
theorem WN{c:Nat}{r:List Nat}(h:c≠42):wE (123::c::r)=false:=by
 simp[wE,h]
theorem ID{s:List Nat}(h:wE s=false):eH s=s:=by simp[eH,h]
theorem NB(P:Prog g){c:Nat}{r rest:List Nat}{ps:List V}(h1:c≠123)(h2:c≠34)(hp:uA g T (d+4) (mB b) (c::r) [] [] (.ok (.tup ps) rest)):iC g T (d+6) b (c::r) (.ok (BP false ps) rest):=by
 have he:=JJ (r:=r) h1
 have:=yN (d:=d) P (s:=c::r) (b:=b) (o:= .ok (.tup ps) rest) (by rw[ID he];intro r q;cases q;exact h1 rfl) (by rw[ID he];intro r q;cases q;exact h2 rfl) (by rw[ID he];exact SJ P hp)
 rw[he]at this
 exact this
theorem kE(P:Prog g){r rest:List Nat}{ps:List V}(hp:uA g T (d+4) [34] r [] [] (.ok (.tup ps) (34::rest))):iC g T (d+6) b (34::r) (.ok (BP false ps) rest):=by
 have he:=JJ (c:=34) (r:=r) (by decide)
 have:=iM (d:=d) P (s:=34::r) (b:=b) (r:=r) (o:= .ok (.tup ps) (34::rest)) (by rw[ID he]) (SJ P hp)
 rw[he]at this
 exact this
theorem lG(P:Prog g){c:Nat}{r rest:List Nat}{i:List Nat}(h1:c≠42)(hi:i≠[])(hp:EB 1 (c::r) [] (some (i,rest))):iC g T (d+6) b (123::c::r) (.ok (BP false [tx i]) rest):=by
 have he:=WN (r:=r) h1
 have:=hM (T:=T) (d:=d) P (s:=123::c::r) (b:=b) (r:=c::r) (o:=some (i,rest)) (by rw[ID he]) hp
 rw[he]at this
 simpa[EZ,YC,hi]using this
theorem rI(b:Bool):(mB b).contains 36=false/\(mB b).contains 91=false/\(mB b).contains 92=false:=by induction b using Bool.casesOn <;>exact⟨rfl,rfl,rfl⟩
noncomputable def Pa(c:Nat):Bool:=!fF c&&!(c==58)&&!(c==40)
theorem PJ(he:kJ (mB b) rest):nI rest/\∀r',rest≠40::r':=by
 rcases he with rfl | ⟨c,r,rfl,h⟩
 ·exact⟨(fun u0 u0 q=>nomatch q),(fun u0 q=>nomatch q)⟩
 ·have h2:Pa c=true:=List.all_eq_true.mp (show(mB b).all Pa=true by induction b using Bool.casesOn <;>rfl) c (List.contains_iff_mem.mp h)
  simp only[Pa,Bool.and_eq_true,Bool.not_eq_true',beq_eq_false_iff_ne]at h2
  obtain⟨⟨h3,h4⟩,h5⟩:=h2
  exact⟨fun c' r' q=>by cases q;exact⟨h3,h4⟩,fun r' q=>h5 (List.cons.inj q).1⟩
theorem lH(P:Prog g){st nm r:List Nat}{o:kF}(hs:st.contains 36=false)(h0:nm≠[])(hn:∀c∈nm,fF c=true)(hr:nI r)(hp:∀r',r≠40::r')(h:uA g T (d+4) st r [] (acc++YC run++[vr nm .none]) o):uA g T (d+4) st (36::(nm++r)) run acc o:=
 .dvar hs (xW (d:=d) P h0 hn hr hp) (by simp) h
theorem BG{st r:List Nat}{s:Sc}{o:kF}(hs:st.contains 91=false)(hb:pG g T d s)(h:uA g T d st r [] (acc++YC run++[cm (gD s)]) o):uA g T d st (91::(gD s++93::r)) run acc o:=
 .bok hs (hb r) (by simp;simp+arith only) h
theorem qb(P:Prog g){m:List Nat}{ps:aF}(h:iQ (pG g T (d+4)) m ps)(he:kJ (mB b) rest):iC g T (d+6) b (m++WB ps++m++rest) (.ok (BP false (ze ps)) rest):=by
 have hv:nI rest/\∀r',rest≠40::r':=PJ he
 have hno:=rI b
 induction h with
 | @lit w v h=>
   simp only[WB.r1,WB.r2,VE.r1,VE.r2,VE.r3,List.nil_append,List.append_nil]
   simp only[tL,List.mem_cons,Prod.mk.injEq,List.not_mem_nil,or_false]at h
   rcases h with⟨rfl,rfl⟩ | ⟨rfl,rfl⟩ | ⟨rfl,rfl⟩ | ⟨rfl,rfl⟩ | ⟨rfl,rfl⟩ | ⟨rfl,rfl⟩ | ⟨rfl,rfl⟩ | ⟨rfl,rfl⟩ | ⟨rfl,rfl⟩ | ⟨rfl,rfl⟩ | ⟨rfl,rfl⟩
   ·exact NB P (by decide) (by decide) (MB (w:=[97]) (run:=[]) (acc:=[]) (by induction b using Bool.casesOn <;>decide) he)
   ·exact lG P (by decide) (by decide) (EB.run (w:=[99,32,100]) (by decide) .done)
   ·exact kE P (MB (w:=[101,10,102]) (run:=[]) (acc:=[]) (by decide) (.inr ⟨34,rest,rfl,rfl⟩))
   ·exact NB P (by decide) (by decide) (.bs hno.2.2 (fun u0 r2 q=>by cases q) (.hex (by decide) (by decide) (by decide) (by decide)) (CG he))
   ·exact NB P (by decide) (by decide) (lH P (nm:=[118]) hno.1 (by simp) (by decide) hv.1 hv.2 (CG (run:=[]) (acc:=[vr [118] .none]) he))
   ·exact lG P (by decide) (by decide) (EB.run (w:=[103,10,59,104]) (by decide) .done)
   ·exact NB P (by decide) (by decide) (MB (w:=[35,105]) (run:=[]) (acc:=[]) (by induction b using Bool.casesOn <;>decide) he)
   ·exact NB P (by decide) (by decide) (MB (w:=List.replicate 60 119) (run:=[]) (acc:=[]) (by induction b using Bool.casesOn <;>decide) he)
   ·exact NB P (by decide) (by decide) (MB (w:=[98]) (run:=[]) (acc:=[]) (by induction b using Bool.casesOn <;>decide) he)
   ·exact NB P (by decide) (by decide) (MB (w:=[122]) (run:=[]) (acc:=[]) (by induction b using Bool.casesOn <;>decide) he)
   ·exact NB P (by decide) (by decide) (MB (w:=[99]) (run:=[]) (acc:=[]) (by induction b using Bool.casesOn <;>decide) he)
 | @run s h=>
   rw[show[]++WB (.cons (.run s) .nil)++[]++rest=91::(gD s++93::rest) by simp only[WB.r1,WB.r2,VE.r1,VE.r2,VE.r3,List.append_assoc,List.nil_append,List.cons_append]]
   exact NB P (by decide) (by decide) (BG hno.2.1 h (CG (run:=[]) (acc:=[cm (gD s)]) he))
 | uns=>exact NB P (c:=36) (r:=117::rest) (by decide) (by decide) (lH P (nm:=[117]) hno.1 (by simp) (by decide) hv.1 hv.2 (CG (run:=[]) (acc:=[vr [117] .none]) he))
 | @quo s h=>
   rw[show[34]++WB (.cons (.text [112,10] [112,10]) (.cons (.run s) (.cons (.text [36,118,32,113] [118,97,32,108,32,113]) .nil)))++[34]++rest=34::([112,10]++91::(gD s++93::(36::([118]++([32,113]++34::rest))))) by simp only[WB.r1,WB.r2,VE.r1,VE.r2,VE.r3,List.append_assoc,List.nil_append,List.cons_append]]
   exact kE P (.run (by decide) (BG (by decide) h (lH P (nm:=[118]) (by decide) (by simp) (by decide) (fun c r q=>by cases q;exact⟨by decide,by decide⟩) (fun r q=>by cases q) (MB (w:=[32,113]) (run:=[]) (acc:=[tx [112,10],cm (gD s),vr [118] .none]) (by decide) (.inr ⟨34,rest,rfl,rfl⟩)))))
 | @aro m s hm h=>
   rcases hm with rfl | rfl
   ·rw[show[]++WB (.cons (.text [120] [120]) (.cons (.run s) (.cons (.text [121] [121]) .nil)))++[]++rest=120::91::(gD s++93::([121]++rest)) by simp only[WB.r1,WB.r2,VE.r1,VE.r2,VE.r3,List.append_assoc,List.nil_append,List.cons_append]]
    exact NB P (by decide) (by decide) (.run (w:=[120]) (by induction b using Bool.casesOn <;>decide) (BG hno.2.1 h (MB (w:=[121]) (run:=[]) (acc:=[tx [120],cm (gD s)]) (by induction b using Bool.casesOn <;>decide) he)))
   ·rw[show[34]++WB (.cons (.text [120] [120]) (.cons (.run s) (.cons (.text [121] [121]) .nil)))++[34]++rest=34::([120]++91::(gD s++93::([121]++34::rest))) by simp only[WB.r1,WB.r2,VE.r1,VE.r2,VE.r3,List.append_assoc,List.nil_append,List.cons_append]]
    exact kE P (.run (w:=[120]) (by decide) (BG (by decide) h (MB (w:=[121]) (run:=[]) (acc:=[tx [120],cm (gD s)]) (by decide) (.inr ⟨34,rest,rfl,rfl⟩))))
end
section
variable{g:G}{d:Nat}{T s rest st run:List Nat}{n:Nat}{b:Bool}{acc:List V}{F F':Sc->Prop}
noncomputable def gN:List (List Nat):=[[114],[122,122],[98,111,111,109],[115,116,111,112],[116,111,108,100]]
noncomputable def bC:List (List Nat):=[[32],[9,32],[32,92,10,32],[32,32]]
noncomputable def XD:List (List Nat):=[[59],[10],[32,59,10],[10,10],[10,35,32,99,59,32,91,114,32,122,93,10],[59,9,59,10],[32,59,35,32,122,122,10],[32,59,32],[59,32]]
noncomputable def ZL:List (List Nat):=[[59],[10],[32,59,10],[10,10],[10,35,32,99,59,32,91,114,32,122,93,10],[59,9,59,10],[32,59,35,32,122,122,10],[32,59,32]]
theorem mE{e:List Nat}(h:e∈ZL):e∈XD:=by revert h;revert e;decide
noncomputable def RG:List (List Nat):=[[],[10],[35,32,104,32,123,10],[32,59,9],[10,32],[35,32,113,10]]
class inductive iK(F:Sc->Prop):mF->Prop
 | nil:iK F .nil
 | cons {m:List Nat} {ps:aF} {r:mF}:iQ F m ps->iK F r->iK F (.cons m ps r)
inductive pM(F:Sc->Prop):Cm->Prop
 | mk {nm gap:List Nat} {ws:mF}:nm∈gN->gap∈bC->iK F ws->pM F (.mk nm ws gap)
class inductive oB(q:Bool)(F:Sc->Prop):Rows->Prop
 | nil:oB q F .nil
 | last {c:Cm} {e:List Nat}:q=true->pM F c->e=[]\/e=[32]->oB q F (.cons c e .nil)
 | cons {c:Cm} {e:List Nat} {r:Rows}:pM F c->e∈XD->oB q F r->oB q F (.cons c e r)
noncomputable def PD:Nat->Sc->Prop
 | 0,_=>False
 | n+1, .mk h rows=>h∈RG/\oB true (PD n) rows
theorem iQ.map{m:List Nat}{ps:aF}(h:iQ F m ps)(k:∀s,F s->F' s):iQ F' m ps:=by
 induction h with
 | lit h=>exact .lit h
 | run h=>exact .run (k _ h)
 | uns=>exact .uns
 | quo h=>exact .quo (k _ h)
 | aro hm h=>exact .aro hm (k _ h)
theorem iK.map{ws:mF}(h:iK F ws)(k:∀s,F s->F' s):iK F' ws:=by
 induction h with
 | nil=>exact .nil
 | cons a _ ih=>exact .cons (a.map k) ih
theorem pM.map{c:Cm}(h:pM F c)(k:∀s,F s->F' s):pM F' c:=by
 induction h with
 | mk a b c=>exact .mk a b (c.map k)
theorem oB.map{q:Bool}{r:Rows}(h:oB q F r)(k:∀s,F s->F' s):oB q F' r:=by
 induction h with
 | nil=>exact .nil
 | last a b c=>exact .last a (b.map k) c
 | cons a b _ ih=>exact .cons (a.map k) b ih
theorem oB.up{q:Bool}{r:Rows}(h:oB q F r):oB true F r:=by
 induction h with
 | nil=>exact .nil
 | last a b c=>exact .last rfl b c
 | cons a b _ ih=>exact .cons a b ih
noncomputable def KT(s:List Nat):Prop:=∃c r,s=c::r/\uF c=false/\c≠10/\c≠59/\c≠93/\(c=92->∀r',r≠10::r')
theorem KT.of{c:Nat}(r:List Nat)(h:(uF c=false/\c≠10/\c≠59/\c≠93)/\c≠92):KT (c::r):=⟨c,r,rfl,h.1.1,h.1.2.1,h.1.2.2.1,h.1.2.2.2,fun q=>absurd q h.2⟩
theorem KT.skip(h:KT s):IA s=s:=by
 obtain⟨c,r,rfl,h1,h2,h3,h4,h5⟩:=h
 exact GE h1 h5
theorem VV{gap:List Nat}(hg:gap∈bC)(h:IA s=s):IA (gap++s)=s:=by
 simp only[bC,List.mem_cons,List.not_mem_nil,or_false]at hg
 rcases hg with rfl | rfl | rfl | rfl
 ·exact(kA (by decide) _).trans h
 ·exact(kA (by decide) _).trans ((kA (by decide) _).trans h)
 ·exact(kA (by decide) _).trans ((ZK _).trans ((kA (by decide) _).trans h))
 ·exact(kA (by decide) _).trans ((kA (by decide) _).trans h)
theorem DS{gap:List Nat}(hg:gap∈bC):kJ (mB b) (gap++s):=by
 simp only[bC,List.mem_cons,List.not_mem_nil,or_false]at hg
 rcases hg with rfl | rfl | rfl | rfl <;>exact .inr ⟨_,_,rfl,by induction b using Bool.casesOn <;>rfl⟩
theorem Ua{gap:List Nat}(hg:gap∈bC):gap≠[]:=by revert hg;revert gap;decide
inductive oQ(b:Bool):List Nat->List Nat->Prop
 | eof {rest:List Nat}:IA rest=[]->oQ b rest []
 | sep {rest r:List Nat} {c:Nat}:IA rest=c::r->c=10\/c=59->oQ b rest r
 | close {rest r:List Nat}:b=true->IA rest=93::r->oQ b rest (93::r)
theorem VT{b0 w rest z:List Nat}{v:V}(hw:iC g T d b (w++rest) (.ok v rest))(hne:w≠[])(hs:oQ b rest z):CH g T d b b0 (w++rest) acc (.ok (acc++[v]) b0 rest z):=by
 have hl:rest.length < (w++rest).length:=by have:=List.length_pos_iff.mpr hne;simp only[List.length_append];exact(BB this)
 cases hs with
 | eof h=>exact .eof hw hl h
 | sep h k=>exact .sep hw hl h k
 | close h k=>exact .close h hw hl k
theorem pJ{b0 w gap next:List Nat}{v:V}{o:ZF}(hw:iC g T d b (w++(gap++next)) (.ok v (gap++next)))(hne:w≠[])(hg:gap∈bC)(hn:KT next)(h:CH g T d b b0 next (acc++[v]) o):CH g T d b b0 (w++(gap++next)) acc o:=by
 have hl:(gap++next).length < (w++(gap++next)).length:=by have:=List.length_pos_iff.mpr hne;simp only[List.length_append];exact(BB this)
 have hs:=VV hg hn.skip
 have hgl:=List.length_pos_iff.mpr (Ua hg)
 obtain⟨c,r,rfl,h1,h2,h3,h4,h5⟩:=hn
 exact .more hw hl hs h2 h3 (fun u0=>h4) (fun q=>by have:=congrArg List.length q;simp only[List.length_append]at this;lia) h
noncomputable def fM:mF->List V
 | .nil=>[]
 | .cons _ ps r=>BP false (ze ps)::fM r
theorem fM.r1:fM (.nil)=([]):=rfl
theorem fM.r2:fM (.cons w1 ps r)=(BP false (ze ps)::fM r):=rfl
noncomputable def Wg:Cm->List V
 | .mk nm ws _=>BP false [tx nm]::fM ws
noncomputable def RC(gap:List Nat):mF->List Nat
 | .nil=>[]
 | .cons m ps r=>gap++(m++WB ps++m)++RC gap r
theorem RC.r1{gap:List Nat}:RC gap (.nil)=([]):=rfl
theorem RC.r2{gap:List Nat}:RC gap (.cons m ps r)=(gap++(m++WB ps++m)++RC gap r):=rfl
theorem xE(gap:List Nat):∀(x:List Nat) (ws:mF),iA gap (x::WE ws)=x++RC gap ws
 | x, .nil=>by simp[iA.r1,iA.r2,iA.r3,WE.r1,WE.r2,RC.r1,RC.r2]
 | x, .cons m ps r=>by
   simp only[WE.r1,WE.r2,iA.r1,iA.r2,iA.r3,RC.r1,RC.r2]
   rw[xE gap _ r];simp
theorem iQ.start{m:List Nat}{ps:aF}(h:iQ F m ps)(rest:List Nat):KT (m++WB ps++m++rest)/\(m++WB ps++m)≠[]:=by
 induction h with
 | @lit w v h=>
   simp only[WB.r1,WB.r2,VE.r1,VE.r2,VE.r3,List.nil_append,List.append_nil]
   simp only[tL,List.mem_cons,Prod.mk.injEq,List.not_mem_nil,or_false]at h
   rcases h with⟨rfl,rfl⟩ | ⟨rfl,rfl⟩ | ⟨rfl,rfl⟩ | ⟨rfl,rfl⟩ | ⟨rfl,rfl⟩ | ⟨rfl,rfl⟩ | ⟨rfl,rfl⟩ | ⟨rfl,rfl⟩ | ⟨rfl,rfl⟩ | ⟨rfl,rfl⟩ | ⟨rfl,rfl⟩
   case inr.inr.inr.inl=>exact⟨⟨92,120::52::49::rest,rfl,by decide,by decide,by decide,by decide,fun u0 r q=>by cases q⟩,by simp⟩
   all_goals exact⟨KT.of _ (by decide),by simp⟩
 | run=>exact⟨KT.of _ (by decide),by simp[WB.r1,WB.r2,VE.r1,VE.r2,VE.r3]⟩
 | uns=>exact⟨KT.of _ (by decide),by simp[WB.r1,WB.r2,VE.r1,VE.r2,VE.r3]⟩
 | quo=>exact⟨KT.of _ (by decide),by simp[WB.r1,WB.r2,VE.r1,VE.r2,VE.r3]⟩
 | aro hm _=>rcases hm with rfl | rfl <;>exact⟨KT.of _ (by decide),by simp[WB.r1,WB.r2,VE.r1,VE.r2,VE.r3]⟩
theorem mY(P:Prog g){b0 gap rest z:List Nat}(hg:gap∈bC)(he:kJ (mB b) rest)(hs:oQ b rest z):∀{ws:mF},iK (pG g T (d+4)) ws->∀{w:List Nat} {v:V} {acc:List V},w≠[]->(∀r,kJ (mB b) r->iC g T (d+6) b (w++r) (.ok v r))->
 CH g T (d+6) b b0 (w++(RC gap ws++rest)) acc (.ok (acc++v::fM ws) b0 rest z):=by
 intro ws h
 induction h with
 | nil=>intro w v acc hne hw;exact VT (hw _ he) hne hs
 | @cons m ps r h1 h2 ih=>
   intro w v acc hne hw
   have e1:RC gap (.cons m ps r)++rest=gap++((m++WB ps++m)++(RC gap r++rest)):=by simp[RC.r1,RC.r2]
   rw[e1]
   have:=ih (w:=m++WB ps++m) (v:=BP false (ze ps)) (acc:=acc++[v]) (h1.start []).2 (fun r hr=>qb P h1 hr)
   refine pJ (hw _ (DS hg)) hne hg (h1.start _).1 ?_
   simpa[fM.r1,fM.r2]using this
theorem xV{nm:List Nat}(h:nm∈gN):∃c r,nm=c::r/\(uF c=false/\c≠10/\c≠59/\c≠35/\c≠92/\c≠93/\c≠123/\c≠34)/\(∀c∈nm,rC (mB true) c=true/\rC (mB false) c=true):=by
 simp only[gN,List.mem_cons,List.not_mem_nil,or_false]at h
 rcases h with rfl | rfl | rfl | rfl | rfl <;>exact⟨_,_,rfl,by decide,by decide⟩
noncomputable def CS(X:List Nat):Prop:=X=[]\/∃c r,X=c::r/\(uF c=false/\c≠10/\c≠59/\c≠35/\c≠92)
theorem CS.skip(h:CS s):IA s=s:=by
 rcases h with rfl | ⟨c,r,rfl,h1,h2,h3,h4,h5⟩
 ·rfl
 ·exact GE h1 (fun q=>absurd q h5)
theorem CS.stop(h:CS s){t:List Nat}(ht:IA t=s):UB t s:=by
 refine .stop ht fun c r e=>?_
 subst e
 rcases h with q | ⟨c,r,q,h1,h2,h3,h4,h5⟩
 ·cases q
 ·cases q;exact⟨h2,h3,h4⟩
theorem CS.cm{c:Cm}(h:pM F c)(rest:List Nat):CS (CE c++rest):=by
 induction h with
 | @mk nm gap ws h1 h2 h3=>
   obtain⟨c,r,rfl,h,_⟩:=xV h1
   simp only[CE.r1,xE,List.cons_append]
   exact .inr ⟨c,_,rfl,h.1,h.2.1,h.2.2.1,h.2.2.2.1,h.2.2.2.2.1⟩
theorem CS.close(rest:List Nat):CS (93::rest):= .inr ⟨93,rest,rfl,by decide⟩
theorem DL{c:Nat}(hc:c=10\/c=59)(h:CS s){t:List Nat}(ht:IA t=c::s):UB t s:= .sep ht hc (h.stop h.skip)
theorem lA{c:Nat}(h:uF c=false/\c≠92)(r:List Nat):IA (c::r)=c::r:=GE h.1 fun q=>absurd q h.2
theorem Mb{e X:List Nat}(h:(e∈XD/\CS X)\/((e=[]\/e=[32])/\(X=[]\/(b=true/\∃r,X=93::r)))):∃z,oQ b (e++X) z/\UB z X/\kJ (mB b) (e++X)/\z.length<=(e++X).length:=by
 rcases h with⟨he,hX⟩ | ⟨he,hX⟩
 ·simp only[XD,List.mem_cons,List.not_mem_nil,or_false]at he
  have hS:=hX.stop hX.skip
  rcases he with rfl | rfl | rfl | rfl | rfl | rfl | rfl | rfl | rfl <;>simp only[List.cons_append,List.nil_append]
  ·exact⟨X, .sep (lA (by decide) _) (.inr rfl),hS, .inr ⟨_,_,rfl,by induction b using Bool.casesOn <;>rfl⟩,by simp⟩
  ·exact⟨X, .sep (lA (by decide) _) (.inl rfl),hS, .inr ⟨_,_,rfl,by induction b using Bool.casesOn <;>rfl⟩,by simp⟩
  ·exact⟨10::X, .sep ((kA (by decide) _).trans (lA (by decide) _)) (.inr rfl),DL (.inl rfl) hX (lA (by decide) _), .inr ⟨_,_,rfl,by induction b using Bool.casesOn <;>rfl⟩,by simp⟩
  ·exact⟨10::X, .sep (lA (by decide) _) (.inl rfl),DL (.inl rfl) hX (lA (by decide) _), .inr ⟨_,_,rfl,by induction b using Bool.casesOn <;>rfl⟩,by simp⟩
  ·refine⟨(35::32::99::59::32::91::114::32::122::93::10::X), .sep (lA (by decide) _) (.inl rfl), .com (lA (by decide) _) ?_, .inr ⟨_,_,rfl,by induction b using Bool.casesOn <;>rfl⟩,by simp⟩
   have e1:SA (35::32::99::59::32::91::114::32::122::93::10::X)=X:=by induction X using List.casesOn <;>simp[SA.r1,SA.r2,SA.r3]
   rw[e1];exact hS
  ·exact⟨(9::59::10::X), .sep (lA (by decide) _) (.inr rfl), .sep ((kA (by decide) _).trans (lA (by decide) _)) (.inr rfl) (DL (.inl rfl) hX (lA (by decide) _)), .inr ⟨_,_,rfl,by induction b using Bool.casesOn <;>rfl⟩,by simp⟩
  ·refine⟨(35::32::122::122::10::X), .sep ((kA (by decide) _).trans (lA (by decide) _)) (.inr rfl), .com (lA (by decide) _) ?_, .inr ⟨_,_,rfl,by induction b using Bool.casesOn <;>rfl⟩,by simp⟩
   have e1:SA (35::32::122::122::10::X)=X:=by induction X using List.casesOn <;>simp[SA.r1,SA.r2,SA.r3]
   rw[e1];exact hS
  ·exact⟨32::X, .sep ((kA (by decide) _).trans (lA (by decide) _)) (.inr rfl),hX.stop ((kA (by decide) _).trans hX.skip), .inr ⟨_,_,rfl,by induction b using Bool.casesOn <;>rfl⟩,by simp⟩
  ·exact⟨32::X, .sep (lA (by decide) _) (.inr rfl),hX.stop ((kA (by decide) _).trans hX.skip), .inr ⟨_,_,rfl,by induction b using Bool.casesOn <;>rfl⟩,by simp⟩
 ·have hX':CS X:=by
   rcases hX with rfl | ⟨_,r,rfl⟩
   ·exact .inl rfl
   ·exact CS.close r
  have hsk:IA (e++X)=X:=by
   rcases he with rfl | rfl
   ·exact hX'.skip
   ·exact(kA (by decide) _).trans hX'.skip
  refine⟨X,?_,hX'.stop hX'.skip,?_,by simp⟩
  ·rcases hX with rfl | ⟨hb,r,rfl⟩
   ·exact .eof hsk
   ·exact .close hb hsk
  ·rcases he with rfl | rfl
   ·rcases hX with rfl | ⟨rfl,r,rfl⟩
    ·exact .inl rfl
    ·exact .inr ⟨_,_,rfl,rfl⟩
   ·exact .inr ⟨32,X,rfl,by induction b using Bool.casesOn <;>rfl⟩
theorem rJ{h X:List Nat}(hh:h∈RG)(hX:CS X):UB (h++X) X:=by
 simp only[RG,List.mem_cons,List.not_mem_nil,or_false]at hh
 have hS:=hX.stop hX.skip
 rcases hh with rfl | rfl | rfl | rfl | rfl | rfl <;>simp only[List.cons_append,List.nil_append]
 ·exact hS
 ·exact DL (.inl rfl) hX (lA (by decide) _)
 ·refine .com (lA (by decide) _) ?_
  have e1:SA (35::32::104::32::123::10::X)=X:=by induction X using List.casesOn <;>simp[SA.r1,SA.r2,SA.r3]
  rw[e1];exact hS
 ·exact .sep ((kA (by decide) _).trans (lA (by decide) _)) (.inr rfl) (hX.stop ((kA (by decide) _).trans hX.skip))
 ·exact .sep (lA (by decide) _) (.inl rfl) (hX.stop ((kA (by decide) _).trans hX.skip))
 ·refine .com (lA (by decide) _) ?_
  have e1:SA (35::32::113::10::X)=X:=by induction X using List.casesOn <;>simp[SA.r1,SA.r2,SA.r3]
  rw[e1];exact hS
theorem vR(P:Prog g){c:Cm}{s rest z:List Nat}(h:pM (pG g T (d+4)) c)(he:kJ (mB b) rest)(hs:oQ b rest z)(hk:UB s (CE c++rest)):eE g T (d+7) b s (.ok (Wg c) (CE c++rest) rest z):=by
 induction h with
 | @mk nm gap ws h1 h2 h3=>
   obtain⟨c,r,rfl,q,q2⟩:=xV h1
   have hw:∀r',kJ (mB b) r'->iC g T (d+6) b ((c::r)++r') (.ok (BP false [tx (c::r)]) r'):=by
    intro r' hr'
    have:=MB (g:=g) (T:=T) (d:=d+4) (st:=mB b) (run:=[]) (acc:=[]) (w:=c::r) (rest:=r') (fun x hx=>by cases b;exact(q2 x hx).2;exact(q2 x hx).1) hr'
    exact NB P q.2.2.2.2.2.2.1 q.2.2.2.2.2.2.2 (by simpa[YC]using this)
   have hl:=mY (b0:=c::(r++(RC gap ws++rest))) P h2 he hs h3 (acc:=[]) (by simp) hw
   have e1:CE (.mk (c::r) ws gap)++rest=c::(r++(RC gap ws++rest)):=by simp[CE.r1,xE]
   rw[e1]at hk ⊢
   exact BV P hk (fun u0=>q.2.2.2.2.2.1) hl
end
section
variable{g:G}{d:Nat}{T s rest st run:List Nat}{n:Nat}{b:Bool}{acc:List V}{F F':Sc->Prop}
theorem pM.start{c:Cm}(h:pM F c):∃x r,CE c=x::r/\x≠93:=by
 induction h with
 | @mk nm gap ws h1 h2 h3=>
   obtain⟨x,r,rfl,h,_⟩:=xV h1
   exact⟨x,r++RC gap ws,by simp only[CE.r1,xE,List.cons_append],h.2.2.2.2.2.1⟩
theorem dG{q:Bool}{rows:Rows}{X:List Nat}(h:oB q F rows)(hX:CS X):CS ((QA rows).flatten++X):=by
 induction h with
 | nil=>simpa[QA.r1,QA.r2]using hX
 | last _ h _=>simp only[QA.r1,QA.r2,List.flatten_cons,List.append_assoc];exact CS.cm h _
 | cons h _ _=>simp only[QA.r1,QA.r2,List.flatten_cons,List.append_assoc];exact CS.cm h _
theorem WW(P:Prog g){rows:Rows}(h:oB true (pG g T (d+4)) rows):∀rest,kI g T (d+7) ((QA rows).flatten++93::rest) (.ok .none rest):=by
 have step:∀{c:Cm} {e X:List Nat} {o:kF},pM (pG g T (d+4)) c->((e∈XD/\CS X)\/((e=[]\/e=[32])/\(X=[]\/(true=true/\∃r,X=93::r))))->kI g T (d+7) X o->kI g T (d+7) (CE c++(e++X)) o:=by
  intro c e X o hc he hX
  obtain⟨z,h1,h2,h3,h4⟩:=Mb (b:=true) he
  have hcs:=CS.cm hc (e++X)
  have:=vR P hc h3 h1 (hcs.stop hcs.skip)
  obtain⟨x,r,hx,hne⟩:=hc.start
  rw[hx,List.cons_append]at this ⊢
  exact .step hne this (by simp only[List.cons_append,List.length_cons,List.length_append]at h4 ⊢;exact BB h4) h2 hX
 induction h with
 | nil=>intro rest;exact .done
 | @last c e _ hc he=>
   intro rest
   have:=step (X:=93::rest) hc (.inr ⟨he, .inr ⟨rfl,rest,rfl⟩⟩) .done
   simpa[QA.r1,QA.r2]using this
 | @cons c e r hc he hr ih=>
   intro rest
   have:=step (X:=(QA r).flatten++93::rest) hc (.inl ⟨he,dG hr (CS.close rest)⟩) (ih rest)
   simpa[QA.r1,QA.r2]using this
theorem jX(P:Prog g){h:List Nat}{rows:Rows}(hh:h∈RG)(hr:oB true (pG g T (d+4)) rows):pG g T (d+8) (.mk h rows):=by
 intro rest
 have:=LI (d:=d+3) P (s:=gD (.mk h rows)++93::rest) (t:=(QA rows).flatten++93::rest) (o:= .ok .none rest) (by simp only[gD.r1,List.append_assoc];exact rJ hh (dG hr (CS.close rest))) (WW P hr rest)
 simp only[Da,List.length_append,List.length_cons]at this
 rw[show(gD (.mk h rows)).length+(rest.length+1) - (rest.length+1)=(gD (.mk h rows)).length from Nat.add_sub_cancel ..,List.take_left]at this
 exact this
theorem GO(P:Prog g):∀(n:Nat) (s:Sc),PD n s->pG g T (4*n+4) s
 | 0,s,h=>h.elim
 | n+1, .mk h rows,q=>jX P (d:=4*n) q.1 (q.2.map fun s k=>GO P n s k)
end
section
variable{g:G}{d:Nat}{T s rest st run:List Nat}{n:Nat}{b:Bool}{acc:List V}{F F':Sc->Prop}{L:HL}{ll:Nat}{hs:uH}{log:tC}
structure lZ(f:lI):Prop where
 l0:f.src=[]->f.line=0
 l1:f.src≠[]->f.code=1->f.line≠0
 inf:f.code≠1->f.info=[]
 ec:∃ss:List (List Nat),f.ec= .tup (ss.map .str)
noncomputable def Eb:PO->Prop
 | .ok _=>True
 | .err f=>lZ f
noncomputable def Gg:PW->Prop
 | .ok _=>True
 | .err f=>lZ f
noncomputable def JQ:PO->Prop
 | .ok _=>True
 | .err f=>lZ f/\f.src≠[]
theorem PT{f:lI}(h:lZ f)(a w:List Nat):lZ (FC f a w)/\(FC f a w).src≠[]:=by
 refine⟨⟨fun q=>by simp[FC]at q,fun u0 q=>?_,h.inf,h.ec⟩,by simp[FC]⟩
 simp only[FC]at q ⊢
 split
 ·lia
 ·rename_i k
  exact h.l1 (fun e=>k ⟨q,e⟩) q
theorem UX(nm:List Nat)(ts:List (List Nat)):Eb (VD nm ts).1:=by
 unfold VD
 split
 ·exact⟨fun u0=>rfl,fun q=>absurd rfl q,fun u0=>rfl,[[84,67,76],[76,79,79,75,85,80],[67,79,77,77,65,78,68],[122,122]],rfl⟩
 ·split
  ·trivial
  ·refine⟨fun u0=>rfl,fun q=>absurd rfl q,fun q=>?_,?_⟩
   ·simp only[sH]at q ⊢
    split at q
    ·rename_i e;subst e;exact if_neg (by decide)
    ·exact absurd rfl q
   ·simp only[sH]
    split
    ·exact⟨[[65],[66,32,99]],rfl⟩
    ·exact⟨[[78,79,78,69]],rfl⟩
mutual
theorem gO:∀(ps:aF) (acc:List Nat),Eb (KA ps acc).1
 | .nil,acc=>by simp only[KA.r1,KA.r2,KA.r3,KA.r4];trivial
 | .cons (.text a b) r,acc=>by simp only[KA.r1,KA.r2,KA.r3,KA.r4];exact gO r _
 | .cons .unset r,acc=>by simp only[KA.r1,KA.r2,KA.r3,KA.r4];exact⟨fun u0=>rfl,fun q=>absurd rfl q,fun u0=>rfl,[[84,67,76],[76,79,79,75,85,80],[86,65,82,78,65,77,69],[117]],rfl⟩
 | .cons (.run s) r,acc=>by
   have h1:=KW s
   simp only[KA.r1,KA.r2,KA.r3,KA.r4]
   revert h1
   match wG s with
   | (.err f,L)=>exact fun q=>q.1
   | (.ok v,L)=>exact fun u0=>gO r _
theorem hO:∀(ws:mF) (acc:List (List Nat)),Gg (jB ws acc).1
 | .nil,acc=>by simp only[jB.r1,jB.r2];trivial
 | .cons m ps r,acc=>by
   have h1:=gO ps []
   simp only[jB.r1,jB.r2]
   revert h1
   match KA ps []with
   | (.err f,L)=>exact id
   | (.ok v,L)=>exact fun u0=>hO r _
theorem JW:∀(c:Cm),Eb (vJ c).1
 | .mk nm ws gap=>by
   have h1:=hO ws []
   simp only[vJ.r1]
   revert h1
   match jB ws []with
   | (.err f,L)=>exact id
   | (.ok v,L)=>exact fun u0=>UX nm v
theorem GQ:∀(c:Rows) (ahead v:List Nat),JQ (tA c ahead v).1
 | .nil,ahead,v=>by simp only[tA.r1,tA.r2];trivial
 | .cons c e r,ahead,v=>by
   have h1:=JW c
   simp only[tA.r1,tA.r2]
   revert h1
   match vJ c with
   | (.err f,L)=>exact fun q=>PT q _ _
   | (.ok v,L)=>exact fun u0=>GQ r _ _
theorem KW:∀(c:Sc),JQ (wG c).1
 | .mk h rows=>by simp only[wG.r1];exact GQ rows h []
end
theorem iP(v i w:List Nat){src:List (List Nat)}(h:src≠[]):mC v i (src++[w])=mC v i src++WC++uB w++[34]:=by
 induction src using List.casesOn with
 | nil=>exact absurd rfl h
 | cons x r=>simp[mC,List.foldl_append]
theorem tT(v i:List Nat){src:List (List Nat)}(h:src≠[]):mC v i src≠[]:=by
 induction src using List.casesOn with
 | nil=>exact absurd rfl h
 | cons x r=>
   simp only[mC]
   have:∀(r:List (List Nat)) (i0:List Nat),i0≠[]->r.foldl (fun i s=>i++WC++uB s++[34]) i0≠[]:=by
    intro r
    induction r with
    | nil=>exact fun u0 h=>h
    | cons y r ih=>intro i0 h;exact ih _ (by simp)
   refine this r _ ?_
   split
   ·simp
   ·assumption
theorem CT{f:lI}(h:f.code=1):sM f=⟨f.code,f.value,f.ec,mC f.value f.info f.src,decide (f.src≠[]),f.line⟩:=by
 unfold sM
 rw[if_pos h,if_pos h,decide_eq_decide.mpr ⟨fun q=>q.2,fun q=>⟨h,q⟩⟩]
theorem eZ{f:lI}(h:f.code≠1):sM f=⟨f.code,f.value,f.ec,f.info,false,0⟩:=by
 unfold sM
 rw[if_neg h,if_neg h,decide_eq_false fun q=>h q.1]
theorem JR{A t:List Nat}:yE (A++t) t=1+(A.count 10:Int):=by
 unfold yE
 rw[show(A++t).length - t.length=A.length by simp,List.take_left];lia
theorem LP{f:lI}{A w:List Nat}{l:Int}(h:(if f.code=1/\f.src=[]then 1+(A.count 10:Int)else f.line)=l):FC f A w={f with line:=l,src:=f.src++[w]}:=by rw[<-h];rfl
theorem CW{c l:Int}{v i s:List Nat}{e:V}{b:Bool}(h:c=1):zL ⟨c,v,e,i,b,l⟩ s=⟨c,v,e,(if i=[]then v++kG++uB s++[34]else if b then i++WC++uB s++[34]else i),true,l⟩:=if_neg fun q=>q h
theorem pV{c l k:Int}{v i:List Nat}{e:V}{b:Bool}(h:c=1):SK ⟨c,v,e,i,b,l⟩ k=if l=0 then⟨c,v,e,i,b,k⟩else⟨c,v,e,i,b,l⟩:=if_neg fun q=>q h
theorem tR{f:lI}(h:lZ f)(A t w:List Nat):pD (A++t) (sM f) t w=sM (FC f A w):=by
 unfold pD
 rw[JR]
 by_cases hc:f.code=1
 ·have ne:decide (f.src++[w]≠[])=true:=decide_eq_true (by simp)
  by_cases hs:f.src=[]
  ·rw[LP (if_pos ⟨hc,hs⟩),CT hc,CT (f:={f with line:=1+(A.count 10:Int),src:=f.src++[w]}) hc,pV hc,if_pos (h.l0 hs),CW hc]
   dsimp only
   rw[ne,hs]
   rfl
  ·rw[LP (if_neg fun q=>hs q.2),CT hc,CT (f:={f with line:=f.line,src:=f.src++[w]}) hc,pV hc,if_neg (h.l1 hs hc),CW hc,if_neg (tT _ _ hs),decide_eq_true hs]
   dsimp only
   rw[ne,iP _ _ _ hs]
   rfl
 ·rw[eZ hc,eZ (f:=FC f A w) hc]
  exact(congrArg (zL · w) (if_pos hc)).trans (if_pos hc)
theorem DR(v i:List Nat)(src:List (List Nat)):(mC v i src).length<=v.length+i.length+200+300*src.length:=by
 induction src using List.casesOn with
 | nil=>simp[mC];simp+arith only
 | cons x r=>
   simp only[mC]
   have:∀(r:List (List Nat)) (i0:List Nat),(r.foldl (fun i s=>i++WC++uB s++[34]) i0).length<=i0.length+300*r.length:=by
    intro r
    induction r with
    | nil=>intro i0;simp
    | cons y r ih=>
      intro i0
      have:=ih (i0++WC++uB y++[34])
      have h2:=OG y
      simp only[List.length_append,List.length_cons,List.length_nil,WC]at this h2
      simp only[List.foldl_cons,List.length_cons]
      simp only[WC]
      exact(LB this h2)
   refine Nat.le_trans (this r _) ?_
   have h2:=OG x
   simp only[List.length_cons]
   split
   ·simp only[List.length_append,List.length_cons,List.length_nil,kG];exact(BB h2)
   ·simp+arith only
theorem FX{f:lI}{n:Nat}(h:f.value.length<=n+40/\f.info.length<=10/\10*f.src.length<=n/\∀s∈f.src,s.length<=n)(hn:n<=20000):lJ (sM f):=by
 refine⟨?_,?_⟩
 ·show f.value.length<=1000000;exact LB hn h.1
 ·show(if f.code=1 then mC f.value f.info f.src else f.info).length<=1000000
  have:=DR f.value f.info f.src
  split <;>(first | lia | exact TD h.2.1)
structure xO(hs:uH):Prop where
 junk:hs.junk=false
 v:∃x,hs.vars.find? (fun v=>v.nm=[118])=some x/\x.set=true/\x.val=[118,97,32,108]
 u:∀x∈hs.vars,x.nm≠[117]
 small:hs.vars.length<=900
noncomputable abbrev xD(L:HL)(ll:Nat)(hs:uH)(log:tC)(p:tC)(j:Bool):(lF L ll).St:=({hs with spent:=hs.spent+p.length,junk:=j},log++p)
noncomputable def iE(L:HL)(ll:Nat)(hs:uH)(log:tC)(p:PO×tC)(j:Bool):AD (lF L ll):=Ce _ (xD L ll hs log p.2 j) p.1
noncomputable def HW(o:PO)(j:Bool):Prop:=∀v,o= .ok v->j=false
theorem yD(h:xO hs)(p:tC):xD L ll hs log p false=({hs with spent:=hs.spent+p.length},log++p):=by
 simp only[xD];rw[<-h.junk];rfl
noncomputable def sY(g:G)(L:HL)(ll n d:Nat)(s:Sc):Prop:=∀(hs:uH) (log:tC),xO hs->hs.depth+n<=40->log.length+NC s<=50000->NC s<=20000->∃j,HW (wG s).1 j/\HT g (lF L ll) L.h d (gD s) (hs,log) (iE L ll hs log (wG s) j)
theorem SW{f:lI}{M:tC}{j:Bool}:iE L ll hs log (.err f,M) j= .err (sM f) (xD L ll hs log M j):=rfl
theorem VY{v:List Nat}{M:tC}{j:Bool}:iE L ll hs log (.ok v,M) j= .ok (.str v) (xD L ll hs log M j):=rfl
theorem cS{f:lI}{j:Bool}:HW (.err f) j:=fun v q=>nomatch q
theorem RW(P:Prog g)(hh:xO hs):GN g (lF L ll) L.h (d+6) [118] (hs,log) (.ok (.str [118,97,32,108]) (hs,log)):=by
 obtain⟨x,hx,hxs,hxv⟩:=hh.v
 have:=iS (d:=d+3) (L:=L) (x:=zE ll) (hs:=hs) (xs:=log) P hx hxs
 rwa [hxv]at this
theorem oW(P:Prog g){v:List Nat}(hv:v.length<=1000):fC g (lF L ll) L.h d [tx v] (hs,log) [] (.ok (.str v) (hs,log)):=by
 have:=fC.text (g:=g) (h:=L.h) (d:=d) (r:=[]) (s:=v) (acc:=[]) (w:=lF L ll) (st:=(hs,log)) (.nil (by rw[List.nil_append,List.flatten_singleton];exact TD hv))
 rwa [List.nil_append,List.flatten_singleton]at this
theorem KY:∀p∈tL,p.2.length<=1000/\(p.1=[36,118]->p.2=[118,97,32,108])/\(p.1≠[36,118]->p.2.length<=1000):=of_decide_eq_true rfl
theorem Ye(hh:xO hs)(M:tC):xO {hs with spent:=hs.spent+M.length,junk:=false}:=⟨rfl,hh.v,hh.u,hh.small⟩
theorem cD{s:Sc}{f:lI}{M:tC}{r:aF}{acc:List Nat}(es:wG s=(.err f,M)):KA (.cons (.run s) r) acc=(.err f,M):=by(first | rw[KA.r1,es] | rw[KA.r2,es] | rw[KA.r3,es] | rw[KA.r4,es])
theorem OE{s:Sc}{v:List Nat}{M:tC}{r:aF}{acc:List Nat}(es:wG s=(.ok v,M)):KA (.cons (.run s) r) acc=((KA r (acc++v)).1,M++(KA r (acc++v)).2):=by(first | rw[KA.r1,es] | rw[KA.r2,es] | rw[KA.r3,es] | rw[KA.r4,es])
theorem mO(P:Prog g){s:Sc}{ps:aF}{a e:List Nat}{vs:List V}(hr:sY g L ll n (d+6) s)(hh:xO hs)(hd:hs.depth+n<=40)(hl:log.length+NC s<=50000)(hsz:NC s<=20000)
 (hp:KA ps []=KA (.cons (.run s) (.cons (.text e e) .nil)) a) (hn:vs.length<=50000)
 (h1:∀{z:Rz} {st:(lF L ll).St},HT g (lF L ll) L.h (d+6) (gD s) (hs,log) (.err z st)->fC g (lF L ll) L.h (d+6) vs (hs,log) [] (.err z st))
 (h2:∀{v:List Nat} {M:tC},v.length<=20000->HT g (lF L ll) L.h (d+6) (gD s) (hs,log) (.ok (.str v) (xD L ll hs log M false))->fC g (lF L ll) L.h (d+6) vs (hs,log) [] (.ok (.str (a++v++e)) (xD L ll hs log M false))):
 ∃j,HW (KA ps []).1 j/\CK g (lF L ll) L.h (d+7) vs (hs,log) (iE L ll hs log (KA ps []) j):=by
 obtain⟨j,hj,hr⟩:=hr hs log hh hd hl hsz
 have hlen:=RJ s (NC s) (Nat.le_refl _)
 rcases es:wG s with⟨o,M⟩
 rw[es]at hj hr hlen
 induction o using PO.casesOn with
 | err f=>
   rw[hp,cD es]
   exact⟨j,cS,nH (d:=d+6) P MH hn (h1 hr)⟩
 | ok v=>
   have ej:=hj v rfl
   subst ej
   have hv:v.length<=NC s:=hlen.1
   have e1:KA (.cons (.text e e) .nil) (a++v)=(.ok (a++v++e),[]):=by(first | rw[KA.r1,KA.r1] | rw[KA.r1,KA.r2] | rw[KA.r1,KA.r3] | rw[KA.r1,KA.r4] | rw[KA.r2,KA.r1] | rw[KA.r2,KA.r2] | rw[KA.r2,KA.r3] | rw[KA.r2,KA.r4] | rw[KA.r3,KA.r1] | rw[KA.r3,KA.r2] | rw[KA.r3,KA.r3] | rw[KA.r3,KA.r4] | rw[KA.r4,KA.r1] | rw[KA.r4,KA.r2] | rw[KA.r4,KA.r3] | rw[KA.r4,KA.r4])
   rw[hp,OE es,e1,List.append_nil]
   exact⟨false,fun u0 u0=>rfl,nH (d:=d+6) P MH hn (h2 (Nat.le_trans hv hsz) hr)⟩
theorem pb(P:Prog g){m:List Nat}{ps:aF}(h:iQ (sY g L ll n (d+6)) m ps)(hh:xO hs)(hd:hs.depth+n<=40)(hl:log.length+jA ps<=50000)(hsz:jA ps<=20000):
 ∃j,HW (KA ps []).1 j/\CK g (lF L ll) L.h (d+7) (ze ps) (hs,log) (iE L ll hs log (KA ps []) j):=by
 induction h with
 | @lit w v h=>
   have e0:xD L ll hs log [] false=(hs,log):=(yD hh []).trans (by rw[List.append_nil];rfl)
   have q:=KY _ h
   have e1:KA (.cons (.text w v) .nil) []=(.ok v,[]):=by(first | rw[KA.r1,KA.r1,List.nil_append] | rw[KA.r1,KA.r2,List.nil_append] | rw[KA.r1,KA.r3,List.nil_append] | rw[KA.r1,KA.r4,List.nil_append] | rw[KA.r2,KA.r1,List.nil_append] | rw[KA.r2,KA.r2,List.nil_append] | rw[KA.r2,KA.r3,List.nil_append] | rw[KA.r2,KA.r4,List.nil_append] | rw[KA.r3,KA.r1,List.nil_append] | rw[KA.r3,KA.r2,List.nil_append] | rw[KA.r3,KA.r3,List.nil_append] | rw[KA.r3,KA.r4,List.nil_append] | rw[KA.r4,KA.r1,List.nil_append] | rw[KA.r4,KA.r2,List.nil_append] | rw[KA.r4,KA.r3,List.nil_append] | rw[KA.r4,KA.r4,List.nil_append])
   rw[e1]
   refine⟨false,fun u0 u0=>rfl,?_⟩
   rw[VY,e0]
   show CK _ _ _ _ (if w=[36,118]then _ else _) _ _
   by_cases c:w=[36,118]
   ·rw[if_pos c,show v=[118,97,32,108]from q.2.1 c]
    exact nH (d:=d+6) P MH (Nat.le_of_ble_eq_true rfl) (.var (RW P hh) (.nil (Nat.le_of_ble_eq_true rfl)))
   ·rw[if_neg c]
    exact nH (d:=d+6) P MH (Nat.le_of_ble_eq_true rfl) (oW P q.1)
 | @run s h=>
   simp only[jA.r1,jA.r2,FB.r1,FB.r2,FB.r3]at hl hsz
   have e1:KA (.cons (.run s) .nil) []=KA (.cons (.run s) (.cons (.text [] []) .nil)) []:=by
    rcases es:wG s with⟨o,M⟩
    induction o using PO.casesOn with
    | err f=>rw[cD es,cD es]
    | ok v=>rw[OE es,OE es];simp only[KA.r1,KA.r2,KA.r3,KA.r4,List.append_nil]
   exact mO P h hh hd (by exact BB hl) (by exact(nD (nD hsz))) e1 (Nat.le_of_ble_eq_true rfl) (fun hr=> .cmdE hr) fun {v M} hv hr=>by
    have:=fC.cmd (acc:=[]) hr (.nil (by rw[List.nil_append,List.flatten_singleton];exact TD hv))
    rw[List.nil_append,List.flatten_singleton]at this
    rw[List.nil_append,List.append_nil];exact this
 | uns=>
   refine⟨true,cS,nH (d:=d+6) P MH (Nat.le_of_ble_eq_true rfl) ?_⟩
   have:=fC.varE (r:=[]) (acc:=[]) (DU (d:=d) (L:=L) (x:=zE ll) (hs:=hs) (xs:=log) (nm:=[117]) P hh.u hh.junk hh.small (by decide))
   rw[show KA (.cons .unset .nil) []=(.err JH,[]) by rw[KA.r3],SW,xD,List.append_nil]
   exact this
 | @quo s h=>
   simp only[jA.r1,jA.r2,FB.r1,FB.r2,FB.r3,List.length_cons,List.length_nil]at hl hsz
   exact mO P h hh hd (a:=[112,10]) (e:=[118,97,32,108,32,113]) (by exact BB hl) (by exact(nD (nD (AP hsz)))) (by(first | rw[KA.r1] | rw[KA.r2] | rw[KA.r3] | rw[KA.r4]);rcases es:wG s with⟨o,M⟩;cases o with | err f=>rw[cD es,cD es] | ok v=>rw[OE es,OE es];simp only[KA.r1,KA.r2,KA.r3,KA.r4,List.nil_append]) (Nat.le_of_ble_eq_true rfl) (fun hr=> .text (.cmdE hr)) fun {v M} hv hr=>by
    have:=fC.text (s:=[112,10]) (fC.cmd (acc:=[]++[[112,10]]) hr (.var (RW P (Ye hh M)) (.text (s:=[32,113]) (.nil (by simp;exact TD hv)))))
    rw[show([]++[[112,10]]++[v]++[[118,97,32,108]]++[[32,113]]:List (List Nat)).flatten=[112,10]++v++[118,97,32,108,32,113] by simp]at this
    exact this
 | @aro m s hm h=>
   simp only[jA.r1,jA.r2,FB.r1,FB.r2,FB.r3,List.length_cons,List.length_nil]at hl hsz
   exact mO P h hh hd (a:=[120]) (e:=[121]) (by exact BB hl) (by exact(nD (nD (AP hsz)))) (by(first | rw[KA.r1,List.nil_append] | rw[KA.r2,List.nil_append] | rw[KA.r3,List.nil_append] | rw[KA.r4,List.nil_append])) (Nat.le_of_ble_eq_true rfl) (fun hr=> .text (.cmdE hr)) fun {v M} hv hr=>by
    have:=fC.text (s:=[120]) (fC.cmd (acc:=[]++[[120]]) hr (.text (s:=[121]) (.nil (by simp;exact TD hv))))
    rw[show([]++[[120]]++[v]++[[121]]:List (List Nat)).flatten=[120]++v++[121] by simp]at this
    exact this
end
section
variable{g:G}{d:Nat}{T s rest st run:List Nat}{n:Nat}{b:Bool}{acc:List V}{F F':Sc->Prop}{L:HL}{ll:Nat}{hs:uH}{log:tC}
theorem eE.up{d':Nat}{c:ZF}(h:eE g T d b s c)(q:d<=d'):eE g T d' b s c:=fun n vs h1 h2=>by obtain⟨x,y,w,h,c⟩:=h n vs h1 h2;exact⟨x,y,w,h,fun {_}=>c.up q⟩
theorem YQ(L1 L2:tC)(j:Bool):xD L ll {hs with spent:=hs.spent+L1.length,junk:=false} (log++L1) L2 j=xD L ll hs log (L1++L2) j:=by
 simp[xD,Nat.add_assoc,List.append_assoc];rfl
noncomputable def UW(L:HL)(ll:Nat)(hs:uH)(log:tC)(nm:List Nat)(p:PW×tC)(j:Bool):GP (lF L ll):=match p.1 with
 | .ok ts=> .ok (nm::ts) (xD L ll hs log p.2 j)
 | .err f=> .err (sM f) (xD L ll hs log p.2 j)
noncomputable def zg(o:PW)(j:Bool):Prop:=∀v,o= .ok v->j=false
theorem lY(P:Prog g){nm:List Nat}{ws:mF}(h:iK (sY g L ll n (d+6)) ws):∀{hs:uH} {log:tC} (ts:List (List Nat)),xO hs->hs.depth+n<=40->log.length+oA ws<=50000->oA ws<=20000->ts.length+GC ws<=20000->
 ∃j,zg (jB ws ts).1 j/\KG g (lF L ll) L.h (d+7) (fM ws) (hs,log) (nm::ts) (UW L ll hs log nm (jB ws ts) j):=by
 induction h with
 | nil=>
   intro hs log ts hh _ _ _ _
   refine⟨false,fun u0 u0=>rfl,?_⟩
   have e0:xD L ll hs log [] false=(hs,log):=(yD hh []).trans (by rw[List.append_nil];rfl)
   simp only[jB.r1,jB.r2,UW,e0]
   exact .nil
 | @cons m ps r h1 h2 ih=>
   intro hs log ts hh hd hl hsz hn
   simp only[oA.r1,oA.r2,GC.r1,GC.r2]at hl hsz hn
   obtain⟨j,hj,hr⟩:=pb (log:=log) P h1 hh hd (by exact BB hl) (by exact(AP (nD (nD hsz))))
   have hlen:=ZH ps [] (jA ps) (by simp)
   simp only[jB.r1,jB.r2]
   revert hj hr hlen
   match KA ps []with
   | (.err f,L1)=>exact fun hj hr u0=>⟨j,fun v q=>(by cases q), .wordE hr⟩
   | (.ok v,L1)=>
     intro hj hr hlen
     have hlen2:L1.length<=jA ps:=hlen.2
     have e:=hj v rfl;subst e
     have h2:xO {hs with spent:=hs.spent+L1.length,junk:=false}:=⟨rfl,hh.v,hh.u,hh.small⟩
     obtain⟨j2,hj2,hr2⟩:=ih (hs:={hs with spent:=hs.spent+L1.length,junk:=false}) (log:=log++L1) (ts++[v]) h2 hd (by have:= @List.length_append _ log L1;exact(fJ (eL this) hlen2 hl)) (by exact(AP hsz)) (by simp only[List.length_append,List.length_cons,List.length_nil];exact BB hn)
     refine⟨j2,hj2,?_⟩
     have:=KG.word (acc:=nm::ts) hr (by simp only[List.length_cons];exact BB hn) hr2
     have e2:UW L ll {hs with spent:=hs.spent+L1.length,junk:=false} (log++L1) nm (jB r (ts++[v])) j2=UW L ll hs log nm ((jB r (ts++[v])).1,L1++(jB r (ts++[v])).2) j2:=by
      simp only[UW,YQ]
     rw[e2]at this
     exact this
noncomputable def kC(ll:Nat):List (List Nat×V):=[([114], .tup [.val (.ref 765), .loc ll]),([98,111,111,109], .tup [.val (.ref 765), .loc ll]),([115,116,111,112], .tup [.val (.ref 765), .loc ll]),([116,111,108,100], .tup [.val (.ref 765), .loc ll])]
theorem Ea(P:qG g){nm:List Nat}{ts:List (List Nat)}(hcm:L.cmds=kC ll)(hnm:nm∈gN)(hh:xO hs)(hn:log.length < 50000)(ht:ts.flatten.length+ts.length<=100000)(hl:ts.length<=10000):
 ∃j,HW (VD nm ts).1 j/\DP g (lF L ll) L.h (d+6) (nm::ts) (hs,log) (iE L ll hs log (VD nm ts) j):=by
 refine⟨false,fun u0 u0=>rfl,?_⟩
 have e0:xD L ll hs log [] false=(hs,log):=(yD hh []).trans (by rw[List.append_nil];rfl)
 by_cases hz:nm=[122,122]
 ·subst hz
  have:=RT (d:=d+1) (L:=L) (x:=zE ll) (hs:=hs) (xs:=log) (nm:=[122,122]) (args:=ts) P.toProg (by rw[hcm];rfl) (by decide)
  have e1:iE L ll hs log (VD [122,122] ts) false= .err (WH [105,110,118,97,108,105,100,32,99,111,109,109,97,110,100,32,110,97,109,101,32,34,122,122,34] (.tup [.str [84,67,76], .str [76,79,79,75,85,80], .str [67,79,77,77,65,78,68], .str [122,122]])) (hs,log):=by
   show AD.err (sM HZ) (xD L ll hs log [] false)=_
   rw[e0];rfl
  rw[e1];exact this
 ·have hrec:=EU (d:=d) (L:=L) (ll:=ll) (hs:={hs with spent:=hs.spent+1}) (log:=log) (nm:=nm) (ts:=ts) P hz hn ht (by revert hnm;clear hz;revert nm;decide) hl
  have hlk:TA nm L.cmds=some (.tup [.val (.ref 765), .loc ll]):=by
   rw[hcm]
   simp only[gN,List.mem_cons,List.not_mem_nil,or_false]at hnm
   rcases hnm with rfl | rfl | rfl | rfl | rfl
   ·rfl
   ·exact absurd rfl hz
   all_goals rfl
  have ha:(VD nm ts).2=[nm::ts]:=by unfold VD;rw[if_neg hz];split <;>rfl
  have e1:iE L ll hs log (VD nm ts) false=Ce (lF L ll) ({hs with spent:=hs.spent+1},log++(VD nm ts).2) (VD nm ts).1:=by
   simp only[iE];rw[ha,yD hh];rfl
  rw[e1]
  refine kX (d:=d+3) P.toProg hlk rfl rfl ?_ hrec
  cases (VD nm ts).1 with
  | ok v=>exact⟨v,rfl⟩
  | err f=>trivial
noncomputable def PR(c:Cm)(e:List Nat)(K:List Nat->List Nat->PO×tC)(A:List Nat):PO×tC:=match vJ c with
 | (.err f,L)=>(.err (FC f A (CE c)),L)
 | (.ok v,L)=>((K (A++CE c++e) v).1,L++(K (A++CE c++e) v).2)
theorem UZ(P:qG g)(hcm:L.cmds=kC ll)(hE:∀s,PD n s->sY g L ll n (4*n+6) s){c:Cm}{e Y:List Nat}{N:Nat}{K:List Nat->List Nat->PO×tC}(hc:pM (PD n) c)(he:(e∈XD/\CS Y)\/((e=[]\/e=[32])/\(Y=[]\/(false=true/\∃r',Y=93::r'))))
 (ih:∀(A:List Nat) (hs:uH) (log:tC) (z res:List Nat),T=A++Y->UB z Y->xO hs->hs.depth+n<=40->log.length+N<=50000->∃c j,eE g T (4*n+8) false z c/\HW (K A res).1 j/\JG g (lF L ll) L.h (4*n+8) T res z c (hs,log) (iE L ll hs log (K A res) j)):
  ∀(A:List Nat) (hs:uH) (log:tC) (z res:List Nat),T=A++(CE c++(e++Y))->UB z (CE c++(e++Y))->xO hs->hs.depth+n<=40->log.length+(PC c+N)<=50000->PC c<=20000->
   ∃c' j,eE g T (4*n+8) false z c'/\HW (PR c e K A).1 j/\JG g (lF L ll) L.h (4*n+8) T res z c' (hs,log) (iE L ll hs log (PR c e K A) j):=by
 intro A hs log z res hT hk hh hd hl hsz
 have hB:∀s,PD n s->pG g T (4*n+4) s:=fun s h=>GO P.toProg n s h
 obtain⟨z',h1,h2,h3,_⟩:=Mb (b:=false) he
 have hcmd:=(vR P.toProg (d:=4*n) (hc.map hB) h3 h1 hk).up (Nat.le_succ _)
 have hcs:=CS.cm hc (e++Y)
 have hself:=hcs.stop hcs.skip
 have htake:(CE c++(e++Y)).take ((CE c++(e++Y)).length - (e++Y).length)=CE c:=by
  rw[show(CE c++(e++Y)).length - (e++Y).length=(CE c).length by simp,List.take_left]
 have hclen:=fO c (PC c) (Nat.le_refl _)
 have hcok:=JW c
 have hbl:∀f:lI,lZ f->pD T (sM f) (CE c++(e++Y)) ((CE c++(e++Y)).take ((CE c++(e++Y)).length - (e++Y).length))=sM (FC f A (CE c)):=fun f hf=>by
  rw[htake,hT];exact tR hf _ _ _
 cases hc with
 | @mk nm gap ws k1 k2 k3=>
 simp only[PC.r1]at hl hsz hclen
 have hnw:=zK ws
 obtain⟨j,hj,hw⟩:=lY (d:=4*n) P.toProg (nm:=nm) (k3.map hE) (hs:=hs) (log:=log) [] hh hd (by exact BB hl) (by exact(AP (nD (nD (nD hsz))))) (by simp;exact LB hnw hsz)
 have hnt:CK g (lF L ll) L.h (4*n+7) [tx nm] (hs,log) (.ok (.str nm) (hs,log)):=by
  refine nH (d:=4*n+6) P.toProg MH (by simp) ?_
  have:=fC.text (g:=g) (h:=L.h) (d:=4*n+6) (r:=[]) (s:=nm) (acc:=[]) (w:=lF L ll) (st:=(hs,log)) (.nil (by simp;exact BB hsz))
  simpa using this
 have hws:=BX P.toProg (KG.word (acc:=[]) hnt (by simp) (by simpa using hw))
 have hwl:=CM ws [] (oA ws) (by simp)
 have hwo:=hO ws []
 simp only[vJ.r1]at hclen hcok
 simp only[PR,vJ.r1]
 revert hj hws hwl hwo hclen hcok
 clear hw
 match jB ws []with
 | (.err f,L1)=>
   intro hclen hcok hj hws hwl hwo
   refine⟨_,j,hcmd,fun v q=>(by cases q),?_⟩
   have:=JG.wordE (T:=T) (e:=e++Y) (res:=res) (s:=z) (z:=z') hws hself (FX (n:=oA ws) hwl.1 (by exact(AP (nD (nD (nD hsz))))))
   rw[hbl f hwo]at this
   exact this
 | (.ok ts,L1)=>
   intro hclen hcok hj hws hwl hwo
   have e:=hj ts rfl;subst e
   have hh2:xO {hs with spent:=hs.spent+L1.length,junk:=false}:=⟨rfl,hh.v,hh.u,hh.small⟩
   have hL1:L1.length<=oA ws:=hwl.2
   have hts:ts.flatten.length+ts.length<=oA ws/\ts.length=GC ws:=⟨hwl.1.1,by simpa using hwl.1.2⟩
   have hla:= @List.length_append _ log L1
   obtain⟨j2,hj2,hcall⟩:=Ea (d:=4*n+2) (L:=L) (ll:=ll) (hs:={hs with spent:=hs.spent+L1.length,junk:=false}) (log:=log++L1) (nm:=nm) (ts:=ts) P hcm k1 hh2 (by exact(fJ (eL hla) hL1 hl)) (by exact LB hts.1 hsz) (by lia)
   have hal:(VD nm ts).2.length<=1:=(HP nm ts (Nat.le_refl _)).2
   simp only at hclen hcok ⊢
   revert hj2 hcall hclen hcok hal
   match VD nm ts with
   | (.err f,L2)=>
     intro hclen hcok hj2 hcall hal
     refine⟨_,j2,hcmd,fun v q=>(by cases q),?_⟩
     have:=JG.callE (T:=T) (e:=e++Y) (res:=res) (s:=z) (z:=z') hws hcall hself (FX (n:=PC (.mk nm ws gap)) hclen.1 (by simp only[PC.r1];assumption))
     rw[hbl f hcok,YQ]at this
     exact this
   | (.ok v,L2)=>
     intro hclen hcok hj2 hcall hal
     have e:=hj2 v rfl;subst e
     have hla2:= @List.length_append _ (log++L1) L2
     have hal:L2.length<=1:=hal
     obtain⟨c',j3,q1,q2,q3⟩:=ih (A++CE (.mk nm ws gap)++e) {hs with spent:=hs.spent+L1.length+L2.length,junk:=false} (log++L1++L2) z' v (by rw[hT];simp) h2 ⟨rfl,hh.v,hh.u,hh.small⟩ hd (by exact(LB hclen.2 hl (by simp+arith only[List.length_cons,List.length_append,List.length_nil])))
     refine⟨_,j3,hcmd,q2,?_⟩
     have:=JG.cmd (T:=T) (b:=CE (.mk nm ws gap)++(e++Y)) (e:=e++Y) (res:=res) (s:=z) (z:=z') hws hcall q1 q3
     have e9:iE L ll {hs with spent:=hs.spent+L1.length+L2.length,junk:=false} (log++L1++L2) (K (A++CE (.mk nm ws gap)++e) v) j3=iE L ll hs log ((K (A++CE (.mk nm ws gap)++e) v).1,L1++L2++(K (A++CE (.mk nm ws gap)++e) v).2) j3:=by
      simp only[iE,xD,List.length_append,Nat.add_assoc,List.append_assoc]
     rw[e9]at this
     exact this
noncomputable def dC:Rows->(List Nat->List Nat->PO×tC)->List Nat->List Nat->PO×tC
 | .nil,K,A,v=>K A v
 | .cons c e r,K,A,_=>PR c e (dC r K) A
theorem dC.r1{K:List Nat->List Nat->PO×tC}{A v:List Nat}:dC .nil K A v=K A v:=rfl
theorem dC.r2{c:Cm}{e:List Nat}{r:Rows}{K:List Nat->List Nat->PO×tC}{A v:List Nat}:dC (.cons c e r) K A v=PR c e (dC r K) A:=rfl
theorem jN:∀(r:Rows) (A v:List Nat),dC r (fun u0 v=>(.ok v,[])) A v=tA r A v
 | .nil,A,v=>by simp only[dC.r1,dC.r2,tA.r1,tA.r2]
 | .cons c e r,A,v=>by
   simp only[dC.r1,dC.r2,tA.r1,tA.r2,PR]
   match vJ c with
   | (.err f,L)=>rfl
   | (.ok v,L)=>simp only[jN r]
theorem kS(P:qG g)(hcm:L.cmds=kC ll)(hE:∀s,PD n s->sY g L ll n (4*n+6) s){K:List Nat->List Nat->PO×tC}{q:Bool}{Y:List Nat}(hq:q=true->Y=[])(hY:CS Y)
 (hK:∀(A:List Nat) (hs:uH) (log:tC) (z res:List Nat),T=A++Y->UB z Y->xO hs->hs.depth+n<=40->log.length<=50000->∃c j,eE g T (4*n+8) false z c/\HW (K A res).1 j/\JG g (lF L ll) L.h (4*n+8) T res z c (hs,log) (iE L ll hs log (K A res) j)):
 ∀{rows:Rows},oB q (PD n) rows->∀(A:List Nat) (hs:uH) (log:tC) (z res:List Nat),T=A++((QA rows).flatten++Y)->UB z ((QA rows).flatten++Y)->xO hs->hs.depth+n<=40->log.length+WA rows<=50000->WA rows<=20000->
 ∃c j,eE g T (4*n+8) false z c/\HW (dC rows K A res).1 j/\JG g (lF L ll) L.h (4*n+8) T res z c (hs,log) (iE L ll hs log (dC rows K A res) j):=by
 intro rows h
 induction h with
 | nil=>
   intro A hs log z res hT hk hh hd hl hsz
   exact hK A hs log z res (by simpa[QA.r1,QA.r2]using hT) (by simpa[QA.r1,QA.r2]using hk) hh hd (by exact(nD hl))
 | @last c e hqt hc he=>
   intro A hs log z res hT hk hh hd hl hsz
   simp only[WA.r1,WA.r2]at hl hsz
   have et:(QA (.cons c e .nil)).flatten++Y=CE c++(e++Y):=by simp[QA.r1,QA.r2]
   rw[et]at hT hk
   exact UZ P hcm hE (N:=0) hc (.inr ⟨he, .inl (hq hqt)⟩) (fun A hs log z res h1 h2 h3 h4 h5=>hK A hs log z res h1 h2 h3 h4 h5) A hs log z res hT hk hh hd (by exact BB hl) (by exact(nD (nD (nD hsz))))
 | @cons c e r hc he hr ih=>
   intro A hs log z res hT hk hh hd hl hsz
   simp only[WA.r1,WA.r2]at hl hsz
   have et:(QA (.cons c e r)).flatten++Y=CE c++(e++((QA r).flatten++Y)):=by simp[QA.r1,QA.r2]
   rw[et]at hT hk
   exact UZ P hcm hE (N:=WA r) hc (.inl ⟨he,dG hr hY⟩) (fun A hs log z res h1 h2 h3 h4 h5=>ih A hs log z res h1 h2 h3 h4 h5 (by exact(AP hsz))) A hs log z res hT hk hh hd (by exact BB hl) (by exact(nD (nD (nD hsz))))
theorem Ib(P:qG g)(hcm:L.cmds=kC ll)(hE:∀s,PD n s->sY g L ll n (4*n+6) s):∀{rows:Rows},oB true (PD n) rows->∀(A:List Nat) (hs:uH) (log:tC) (z res:List Nat),T=A++(QA rows).flatten->UB z (QA rows).flatten->xO hs->hs.depth+n<=40->log.length+WA rows<=50000->WA rows<=20000->
 ∃c j,eE g T (4*n+8) false z c/\HW (tA rows A res).1 j/\JG g (lF L ll) L.h (4*n+8) T res z c (hs,log) (iE L ll hs log (tA rows A res) j):=by
 intro rows h A hs log z res hT hk hh hd hl hsz
 have:=kS (T:=T) P hcm hE (K:=fun u0 v=>(.ok v,[])) (q:=true) (Y:=[]) (fun u0=>rfl) (.inl rfl) ?_ h A hs log z res (by simpa using hT) (by simpa using hk) hh hd hl hsz
 ·simpa only[jN]using this
 ·intro A hs log z res hT hk hh hd hl
  refine⟨_,false,(AV (d:=4*n) P.toProg hk (.inl rfl)).up (Nat.le_succ _),fun u0 u0=>rfl,?_⟩
  have e0:xD L ll hs log [] false=(hs,log):=(yD hh []).trans (by rw[List.append_nil];rfl)
  simp only[iE,Ce,e0]
  exact .none
theorem RM(P:qG g)(hcm:L.cmds=kC ll):∀(n:Nat) (s:Sc),PD n s->(∀s,qM s<=n->True)->∀(hs:uH) (log:tC),xO hs->hs.depth+n<=41->log.length+NC s<=50000->NC s<=20000->∃j,HW (wG s).1 j/\rK g (lF L ll) L.h (4*n+5) (gD s) (hs,log) (iE L ll hs log (wG s) j)
 | 0,s,h,_=>h.elim
 | n+1, .mk h rows,q,_=>by
   intro hs log hh hd hl hsz
   have hE:∀s,PD n s->sY g L ll n (4*n+6) s:=by
    intro s hg hs log hh hd hl hsz
    obtain⟨j,hj,hr⟩:=RM P hcm n s hg (fun u0 u0=>trivial) {hs with depth:=hs.depth+1} log ⟨hh.junk,hh.v,hh.u,hh.small⟩ (by simp only;exact BB hd) hl hsz
    refine⟨j,hj,?_⟩
    have hn:0 < n:=by induction n using Nat.casesOn with
     | zero=>exact hg.elim
     | succ m=>exact Nat.succ_pos _
    unfold iE at hr ⊢
    rcases hp:(wG s).1 with v | f
    ·rw[hp]at hr
     exact nO (d:=4*n+4) (L:=L) (x:=zE ll) (hs:=hs) (xs:=log) P.toProg (by exact LB hn hd) hr rfl
    ·rw[hp]at hr
     exact nO (d:=4*n+4) (L:=L) (x:=zE ll) (hs:=hs) (xs:=log) P.toProg (by exact LB hn hd) hr rfl
   simp only[NC.r1]at hl hsz
   obtain⟨c,j,h1,h2,h3⟩:=Ib (T:=gD (.mk h rows)) P hcm hE q.2 h hs log (gD (.mk h rows)) [] rfl (by have:=rJ q.1 (dG q.2 (X:=[]) (.inl rfl));simpa[gD.r1]using this) hh (by exact BB hd) (by exact BB hl) (by exact(AP (nD hsz)))
   refine⟨j,by simpa only[wG.r1]using h2,?_⟩
   have hwl:=AK (.mk h rows)
   simp only[NC.r1]at hwl
   simp only[wG.r1]
   exact rN (d:=4*n+4) P.toProg MH (by exact LB hwl hsz) h1 h3
end
section
variable{g:G}{d:Nat}{hd:Option Nat}{J LA BD:List O}{bad:Nat->Prop}{pl:Nat}
noncomputable def yC(pl:Nat)(J:List O):Prop:=∃(x:Int) (xs:List Int),J[pl]?=some (.list ((x::xs).map .int))/\xs.length<=1000
theorem yC.app(h:yC pl J)(j:List O):yC pl (J++j):=by obtain⟨x,xs,h,q⟩:=h;exact⟨x,xs,GA h j,q⟩
theorem yC.lt(h:yC pl J):pl < J.length:=by obtain⟨x,xs,h,q⟩:=h;exact(List.getElem?_eq_some_iff.mp h).1
theorem yC.chg(h:yC pl J){l:Nat}(hl:l≠pl)(x:O):yC pl (J.set l x):=by obtain⟨y,xs,h,q⟩:=h;exact⟨y,xs,by rw[List.getElem?_set_ne hl];exact h,q⟩
structure zG(pl:Nat)(J LA:List O):Prop where
 chg:qH pl J LA
 pen:yC pl LA
theorem zG.start(h:yC pl J):zG pl J J:=⟨.refl,h⟩
theorem zG.app(h:zG pl J LA)(j:List O):zG pl J (LA++j):=⟨h.chg.trans (.app j),h.pen.app j⟩
theorem zG.trans(h:zG pl J LA)(k:zG pl LA BD):zG pl J BD:=⟨h.chg.trans k.chg,k.pen⟩
theorem zG.set(h:zG pl J LA){l:Nat}(x:O)(hl:J.length<=l)(hne:l≠pl):zG pl J (LA.set l x):=⟨h.chg.set hl,h.pen.chg hne x⟩
noncomputable abbrev EP(pl:Nat)(J:List O)(Good:V->List O->Prop):Sp:= .val fun v LA=>zG pl J LA/\Good v LA
theorem Je{l:Nat}{x y:V}{r:List V}{Q:V->List O->Prop}(hn:r.length<=100000)(h:Q y (J.set l (.list (x::r)))):TB J l (x::y::r) [112,111,112] [.int 1] Q:=by
 unfold TB;rw[if_neg (by decide),if_neg (by decide),if_pos rfl];exact⟨rfl,hn,h⟩
theorem md{l:Nat}{x v:V}{r:List V}{Q:V->List O->Prop}(hn:r.length<=100000)(h:Q .none (J.set l (.list (x::v::r)))):TB J l (x::r) [105,110,115,101,114,116] [.int 1,v] Q:=by
 unfold TB;rw[if_neg (by decide),if_neg (by decide),if_neg (by decide),if_pos rfl];exact⟨rfl,hn,h⟩
inductive Zc(many:Nat)(v:V)(LA:List O):Prop
 | mk (k:Nat) (h:k < many) (e:v= .int (k:Int))
theorem LD(P:qG g){many:Nat}(hp:yC pl J)(hm:Nat.ble 1 many=true)(hm2:Nat.ble many 1000=true):MA g (d+1) none 652 [.loc pl, .int (many:Int)] J (EP pl J (Zc many)):=
 P.f652.run rfl rfl fun K e f=>by
   have hm:=Nat.le_of_ble_eq_true hm
   have hm2:=Nat.le_of_ble_eq_true hm2
   obtain⟨x,xs,hp,hl⟩:=hp
   have hml:(many:Int).natAbs.log2 < 9000:=Nat.lt_of_le_of_lt (Nat.log2_le_self _) (by simp;lia)
   have hmp:0 < (many:Int):=by lia
   have p:∃(told y:Int) (ys:List Int) (gB:List O),qH pl J gB/\gB[pl]?=some (.list ((y::ys).map .int))/\ys.length<=1000/\dB g d none QH.body.tl [some (.loc pl),some (.int (many:Int)),some (.int told),none] gB (cF K) (JF K):=by
    induction xs using List.casesOn with
    | nil=>exact⟨0,x,[],J, .refl,hp,hl,f _ _ (nG hp) false (by simp)⟩
    | cons y xs=>
      simp only[List.length_cons]at hl
      exact⟨y,x,xs,_,qH.refl.self,by rw[List.getElem?_set_self (List.getElem?_eq_some_iff.mp hp).1];rfl,by exact(nD hl),f _ _ (nG hp) true (decide_eq_true (by simp;lia)) _ hp _ (XA hp) _ _ (Je (r:=xs.map .int) (by rw[List.length_map];exact TD (nD hl)))⟩
   obtain⟨told,y,ys,gB,hc,h1,hy,p⟩:=p
   refine p _ (lC (v:= .int y) h1 rfl) _ (if_pos ⟨hmp,hml⟩) _ (lC (v:= .int y) h1 rfl) _ (if_pos ⟨hmp,hml⟩) _ (UM (i:=0) h1 (by simp)) fun aB e2 p=>?_
   subst e2
   refine e p .same ⟨_,rfl,⟨hc.self,Int.fdiv y many,ys,by rw[List.getElem?_set_self (List.getElem?_eq_some_iff.mp h1).1];rfl,hy⟩,((told+y).fmod many).toNat,?_,?_⟩
   ·exact(Int.toNat_lt (Int.fmod_nonneg_of_pos (told+y) hmp)).mpr (Int.fmod_lt_of_pos (told+y) hmp)
   ·have:=Int.fmod_nonneg_of_pos (told+y) hmp;rw[Int.toNat_of_nonneg this]
theorem LL{α:Type}(T:List α)(i:Nat):jQ T (i:Int)=T[i]?:=by simp[jQ]
theorem GI{l k:Nat}{ss:List (List Nat)}(hl:J[l]?=some (.list (ss.map .str)))(hk:k < ss.length):CR g J (.loc l) (.int (k:Int))=some (.str ss[k]):=
 lC hl (by rw[LL,List.getElem?_map,List.getElem?_eq_getElem hk];rfl)
inductive Tf(v:V)(LA:List O):Prop
 | mk (s:List Nat) (h:s∈bC) (e:v= .str s)
theorem yQ(P:qG g)(hp:yC pl J):MA g (d+2) none 680 [.loc pl] J (EP pl J Tf):=
 P.f680.run rfl rfl fun K e f=>f _ (LD (many:=4) P (hp.app _) rfl rfl) fun v LA ⟨hd,k,hk,ek⟩ p=>by
   subst ek
   exact e (p _ (GI (ss:=bC) (hd.chg.get (AA ..) (by have:=hp.lt;exact Nat.ne_of_gt this)) hk)) .same ⟨_,rfl,((zG.start hp).app _).trans hd,_,List.getElem_mem _,rfl⟩
inductive Qf(v:V)(LA:List O):Prop
 | mk (s:List Nat) (h:s∈ZL) (e:v= .str s)
theorem aL(P:qG g)(hp:yC pl J):MA g (d+2) none 687 [.loc pl] J (EP pl J Qf):=
 P.f687.run rfl rfl fun K e f=>f _ (LD (many:=8) P (hp.app _) rfl rfl) fun v LA ⟨hd,k,hk,ek⟩ p=>by
   subst ek
   exact e (p _ (GI (ss:=ZL) (hd.chg.get (AA ..) (by have:=hp.lt;exact Nat.ne_of_gt this)) hk)) .same ⟨_,rfl,((zG.start hp).app _).trans hd,_,List.getElem_mem _,rfl⟩
noncomputable def DE:Sc:= .mk [] (.cons (.mk [114] (.cons [] (.cons (.text [98] [98]) .nil) .nil) [32]) [] .nil)
theorem jP(P:qG g):MA g (d+1) none 666 [] J (.val fun v LA=>∃j,LA=J++j/\∀{bad:Nat->Prop},(∀l,bad l->l < J.length)->yB bad LA v DE):=
 P.f666.run rfl rfl fun K e f=>by
   refine e f .same ⟨_,rfl,_,by rw[List.append_assoc,List.append_assoc],fun {bad} hb=>?_⟩
   simp only[List.append_assoc,List.cons_append,List.nil_append,List.length_append,List.length_cons,List.length_nil]
   simp only[DE,yB.r1,EA.r1,EA.r2,yA.r1,ZA.r1,ZA.r2,YA.r1,YA.r2,fA.r1,fA.r2,fA.r3]
   refine⟨_,_,rfl,nB J _ 2,fun q=>by have:=hb _ q;lia,_,_,rfl,⟨_,_,rfl,nB J _ 1,fun q=>by have:=hb _ q;lia,_,_,_,rfl,nB J _ 0,fun q=>by have:=hb _ q;lia,?_,rfl⟩,rfl⟩
   exact⟨_,_,rfl,rfl,rfl⟩
noncomputable def US:List (List Nat):=[[97],[123,99,32,100,125],[34,101,10,102,34],[92,120,52,49],[36,118],[123,103,10,59,104,125],[35,105],List.replicate 60 119]
noncomputable def wS:List (List Nat):=[[97],[99,32,100],[101,10,102],[65],[118,97,32,108],[103,10,59,104],[35,105],List.replicate 60 119]
noncomputable def JD(w:Nat):List Nat:=if w=9 then[34]else[]
noncomputable def rM(w:Nat):aF:=if w=8 then .cons (.run DE) .nil else if w=9 then .cons (.text [112,10] [112,10]) (.cons (.run DE) (.cons (.text [36,118,32,113] [118,97,32,108,32,113]) .nil))else .cons (.text (US[w]?.getD []) (wS[w]?.getD [])) .nil
noncomputable def LX(sf:Bool)(w:Nat):Prop:=w < 10/\(sf=true->w=0\/w=3\/w=4\/w=8\/w=7)
inductive DH(bad:Nat->Prop)(J:List O)(v:V)(m:List Nat)(ps:aF):Prop
 | mk (l:Nat) (us:List V) (e:v= .tup [.str m, .loc l]) (h:J[l]?=some (.list us)) (n:¬bad l) (r:YA bad J us ps)
theorem DH.mv{bad':Nat->Prop}{v:V}{m:List Nat}{ps:aF}(hk:∀l,l < J.length->¬bad l->LA[l]?=J[l]?)(hb:∀l,bad' l->bad l\/J.length<=l)(h:DH bad J v m ps):DH bad' LA v m ps:=by
 obtain⟨l,us,rfl,h1,h2,h3⟩:=h
 exact⟨l,us,rfl,MJ hk h1 h2,LJ hb h1 h2,YA.mv hk hb us ps h3⟩
end
section
variable{g:G}{d:Nat}{hd:Option Nat}{J LA BD:List O}{bad:Nat->Prop}{pl:Nat}{sf:Bool}
theorem RZ:KP .Mult (.str [119]) (.int 60)=some (.str (List.replicate 60 119)):=by first | rfl | exact if_pos (by decide)
theorem ZS{k n:Int}(hn:0 < n)(hl:n.natAbs.log2 < 9000):KP .Mod (.int k) (.int n)=some (.int (k.fmod n)):=if_pos ⟨hn,hl⟩
theorem BL(hb:∀l,bad l->l < J.length)(j:List O):¬bad (J++j).length:=fun q=>by have:=hb _ q;simp at this;lia
theorem OB(hb:∀l,bad l->l < J.length)(h:zG pl J LA):∀l,bad l->l < LA.length:=fun l q=>Nat.lt_of_lt_of_le (hb l q) h.chg.len
inductive DZ(sf:Bool)(bad:Nat->Prop)(v:V)(LA:List O):Prop
 | mk (w:Nat) (h:LX sf w) (r:DH bad LA v (JD w) (rM w))
theorem NE(P:qG g)(hp:yC pl J)(hbp:bad pl)(hb:∀l,bad l->l < J.length):MA g (d+2) none 673 [.loc pl, .bool sf] J (EP pl J (DZ sf bad)):=
 P.f673.run rfl rfl fun K e f=>f _ (LD (many:=10) P hp rfl rfl) fun v XE ⟨hd0,k,hk,ek⟩ p=>by
   subst ek
   have p:∃(w:Nat) (gB:List O),LX sf w/\zG pl J gB/\dB g (d+1) none RH.body.tl.tl [some (.loc pl),some (.bool sf),some (.int (w:Int)),none,none] gB (cF K) (JF K):=by
    induction sf using Bool.casesOn with
    | false=>exact⟨k,XE,⟨hk,fun q=>nomatch q⟩,hd0,p false rfl⟩
    | true=>
      have e1:(k:Int).fmod 5=((k % 5:Nat):Int):=by rw[Int.fmod_eq_emod_of_nonneg _ (by decide)];rfl
      have h5:k % 5 < 5:=Nat.mod_lt _ (by decide)
      have hin:([0,3,4,8,7]:List Nat)[k % 5]?=some (([0,3,4,8,7]:List Nat)[k % 5]'(by simpa using h5)):=List.getElem?_eq_getElem _
      have hmem:=List.getElem_mem (l:=([0,3,4,8,7]:List Nat)) (n:=k % 5) (by simpa using h5)
      generalize ([0,3,4,8,7]:List Nat)[k % 5]'(by simpa using h5)=w at hin hmem
      simp only[List.mem_cons,List.not_mem_nil,or_false]at hmem
      exact⟨w,_,⟨by lia,fun u0=>hmem⟩,hd0.app _,p true rfl _ ((ZS (by decide) (by decide)).trans (by rw[e1])) _ (lC (v:= .int (w:Int)) (vs:=([0,3,4,8,7]:List Nat).map fun(i:Nat)=>V.int (i:Int)) (AA ..) (by rw[LL,List.getElem?_map,hin];rfl))⟩
   obtain⟨w,gB,hw,hd1,p⟩:=p
   have hb1:=OB hb hd1
   by_cases q8:w=8
   ·subst q8
    refine p true rfl _ (jP P) fun v aB q9a p=>?_;obtain⟨j,ej,hv⟩:=q9a
    subst ej
    refine e p .same ⟨_,rfl,(hd1.app j).app _,8,hw,_,_,rfl,AA ..,BL hb1 j,?_⟩
    simp only[rM,if_true,YA.r1,YA.r2,fA.r1,fA.r2,fA.r3]
    exact⟨_,_,rfl,⟨_,rfl,yB.mv (zB _) YB v _ (hv hb1)⟩,rfl⟩
   have p:=p false (decide_eq_false (by lia))
   by_cases q9:w=9
   ·subst q9
    refine p true rfl _ (jP P) fun v aB q9a p=>?_;obtain⟨j,ej,hv⟩:=q9a
    subst ej
    refine e p .same ⟨_,rfl,(hd1.app j).app _,9,hw,_,_,rfl,AA ..,BL hb1 j,?_⟩
    simp only[rM,if_true,YA.r1,YA.r2,fA.r1,fA.r2,fA.r3]
    rw[if_neg (by decide)]
    simp only[YA.r1,YA.r2,fA.r1,fA.r2,fA.r3]
    exact⟨_,_,rfl,rfl,_,_,rfl,⟨_,rfl,yB.mv (zB _) YB v _ (hv hb1)⟩,_,_,rfl,rfl,rfl⟩
   have hw8:w < 8:=by have:=hw.1;lia
   refine e (p false (decide_eq_false (by lia)) _ RZ _ (GI (ss:=US) (AA ..) hw8) _ RZ _ (GI (ss:=wS) (AA ..) hw8)) .same ⟨_,rfl,((hd1.app _).app _).app _,w,hw,_,_,?_,AA ..,?_,?_⟩
   ·simp only[JD];rw[if_neg q9]
   ·rw[List.append_assoc];exact BL hb1 _
   ·simp only[rM];rw[if_neg q8,if_neg q9]
    simp only[YA.r1,YA.r2,fA.r1,fA.r2,fA.r3]
    exact⟨_,_,rfl,by rw[List.getElem?_eq_getElem (l:=US) hw8,List.getElem?_eq_getElem (l:=wS) hw8];rfl,rfl⟩
noncomputable def kB:List Nat->mF
 | []=> .nil
 | w::r=> .cons (JD w) (rM w) (kB r)
theorem kB.r1:kB []=(.nil):=rfl
theorem kB.r2:kB (w::r)=(.cons (JD w) (rM w) (kB r)):=rfl
noncomputable def TX(bad:Nat->Prop)(sf:Bool)(n:Nat)(us:List V)(J:List O):Prop:=∃ws:List Nat,ws.length=n/\(∀w∈ws,LX sf w)/\ZA bad J us (kB ws)
theorem jM{inv:List O->Prop}{step:V->List O->(V->List O->Prop)->Prop}(hinv:∀J,inv J)(hbp:bad pl)(hstep:∀{x J} {K:V->List O->Prop},yC pl J->(∀l,bad l->l < J.length)->step x J K->(∀v LA,zG pl J LA/\(DZ sf bad v LA)->K v LA->False)->False){K:List V->List O->Prop}:
 ∀{xs:List V} {J:List O} {acc:List V},yC pl J->(∀l,bad l->l < J.length)->WL inv step xs J acc K->(∀us LA,zG pl J LA->TX bad sf xs.length us LA->K (acc++us) LA->False)->False
 | [],J,acc,hp,hb,p,k=>k [] J (.start hp) ⟨[],rfl,(fun u0 m=>nomatch m),by simp only[kB.r1,kB.r2,ZA.r1,ZA.r2]⟩ (by rw[List.append_nil];exact p (hinv J))
 | x::xs,J,acc,hp,hb,p,k=>hstep hp hb (p (hinv J)) fun v gB ⟨hd1,w,hw,l,us',e1,q1,q2,q3⟩ p=>jM hinv hbp hstep hd1.pen (OB hb hd1) p fun us aB hd2 ⟨ws,h1,h2,h3⟩ p=>
    k _ aB (hd1.trans hd2) ⟨w::ws,congrArg (· +1) h1,fun y hy=>(List.mem_cons.mp hy).elim (fun e=>e ▸ hw) (h2 y),by
      simp only[kB.r1,kB.r2,ZA.r1,ZA.r2]
      exact⟨l,_,us',congrArg (· ::us) e1,hd2.chg.get q1 (fun e=>q2 (e ▸ hbp)),q2,YA.mv (fun l h1 h2=>hd2.chg.keep l h1 fun e=>h2 (e ▸ hbp)) YB _ _ q3,h3⟩⟩ (by rw[List.append_cons];exact p)
noncomputable def rH(ws:List Nat)(gap:List Nat):Cm:= .mk [114] (kB ws) gap
inductive Wf(sf:Bool)(bad:Nat->Prop)(most:Nat)(v:V)(LA:List O):Prop
 | mk (ws:List Nat) (gap:List Nat) (h:ws.length < most) (k:∀w∈ws,LX sf w) (e:gap∈bC) (r:yA bad LA v (rH ws gap))
theorem aH(P:qG g){most:Nat}(hm:Nat.ble 1 most=true)(hm2:Nat.ble most 100=true)(hp:yC pl J)(hbp:bad pl)(hb:∀l,bad l->l < J.length):MA g (d+3) none 692 [.loc pl, .bool sf, .int (most:Int)] J (EP pl J (Wf sf bad most)):=
 P.f692.run rfl rfl fun K e f=>by
   have hm2:=Nat.le_of_ble_eq_true hm2
   refine f _ (LD P hp hm (Nat.ble_eq.mpr (by lia))) fun v gB ⟨hd1,k,hk,ek⟩ p=>p _ (yQ (d:=d) P hd1.pen) fun v2 aB ⟨hd2,gap,hgap,eg⟩ p=>?_
   subst ek
   subst eg
   refine jM (sf:=sf) (bad:=bad) (pl:=pl) (fun u0=>trivial) hbp (fun hp hb p k=>p _ (NE (d:=d) (sf:=sf) (bad:=bad) P hp hbp hb) k) hd2.pen (OB (OB hb hd1) hd2) (p (by lia) (by lia)) fun us YF hd3 ⟨ws,h1,h2,h3⟩ p=>?_
   have hb3:=OB (OB (OB hb hd1) hd2) hd3
   refine e p .same ⟨_,rfl,((hd1.trans hd2).trans hd3).app _,ws,gap,by simp at h1;exact Nat.lt_of_le_of_lt (eL h1) hk,h2,hgap,?_⟩
   simp only[rH,yA.r1]
   exact⟨_,_,rfl,AA ..,by simpa using BL hb3 [],ZA.mv (zB _) YB _ _ h3⟩
end
section
variable{g:G}{d:Nat}{hd:Option Nat}{J LA BD:List O}{bad:Nat->Prop}{pl:Nat}{sf:Bool}{F:Sc->Prop}{n:Nat}
theorem PD.succ:∀(n:Nat) (s:Sc),PD n s->PD (n+1) s
 | 0,s,h=>h.elim
 | n+1, .mk h rows,q=>⟨q.1,q.2.map fun s k=>PD.succ n s k⟩
theorem PD.le{n m:Nat}(h:n<=m){s:Sc}(q:PD n s):PD m s:=by
 induction h with
 | refl=>exact q
 | step _ ih=>exact PD.succ _ _ ih
theorem TG:PD 1 DE:=⟨by decide, .last rfl (.mk (by decide) (by decide) (.cons (.lit (by decide)) .nil)) (.inl rfl)⟩
theorem LY:∀w,w < 8->(US[w]?.getD [],wS[w]?.getD [])∈tL:=of_decide_eq_true rfl
theorem dJ:∀w,w < 10->2*(JD w).length+jA (rM w)+10<=200:=of_decide_eq_true rfl
theorem FG{w:Nat}(h:w < 10):iQ (PD 1) (JD w) (rM w):=by
 by_cases q8:w=8
 ·subst q8;exact .run TG
 ·by_cases q9:w=9
  ·subst q9;exact .quo TG
  ·unfold JD rM
   rw[if_neg q8,if_neg q9,if_neg q9]
   exact .lit (LY w (by lia))
theorem kM:∀{ws:List Nat},(∀w∈ws,LX sf w)->iK (PD 1) (kB ws)/\oA (kB ws)<=200*ws.length/\GC (kB ws)=ws.length
 | [],_=>⟨.nil,by simp[kB.r1,kB.r2,oA.r1,oA.r2],rfl⟩
 | w::r,h=>by
   obtain⟨h1,h2,h3⟩:=kM (ws:=r) fun x q=>h x (by simp[q])
   have h4:=FG (h w (by simp)).1
   have h5:=dJ w (h w (by simp)).1
   exact⟨.cons h4 h1,by simp only[kB.r1,kB.r2,oA.r1,oA.r2,List.length_cons];exact LB h5 h2,by simp only[kB.r1,kB.r2,GC.r1,GC.r2,List.length_cons,h3]⟩
theorem QO{gap:List Nat}(h:gap∈bC):gap.length<=4:=by revert h;revert gap;decide
theorem wI{gap:List Nat}(h:gap∈ZL):gap.length<=12:=by revert h;revert gap;decide
theorem oJ{ws:List Nat}{gap:List Nat}(h:∀w∈ws,LX sf w)(hn:ws.length < 3)(hg:gap∈bC):pM (PD 1) (rH ws gap)/\PC (rH ws gap)<=500:=by
 obtain⟨h1,h2,h3⟩:=kM h
 refine⟨.mk (by decide) hg h1,?_⟩
 have:=QO hg
 have h5:GC (kB ws)*gap.length<=2*4:=Nat.mul_le_mul (by exact LB (eL h3) hn) this
 simp only[rH,PC.r1,List.length_cons,List.length_nil];lia
class inductive iD(sf:Bool):Rows->Prop
 | nil:iD sf .nil
 | cons {ws:List Nat} {gap e:List Nat} {r:Rows}:(∀w∈ws,LX sf w)->ws.length < 3->gap∈bC->e∈ZL->iD sf r->iD sf (.cons (rH ws gap) e r)
theorem iD.good{r:Rows}(h:iD sf r):oB false (PD 1) r/\WA r<=522*oC r:=by
 induction h with
 | nil=>exact⟨.nil,Nat.le_refl _⟩
 | cons h1 h2 h3 h4 _ ih=>
   obtain⟨q1,q2⟩:=oJ h1 h2 h3
   have:=wI h4
   exact⟨.cons q1 (mE h4) ih.1,by simp only[WA.r1,WA.r2,oC.r1,oC.r2];have:=ih.2;lia⟩
noncomputable def Rows.app:Rows->Rows->Rows
 | .nil,s=>s
 | .cons c e r,s=> .cons c e (r.app s)
theorem Rows.app.r1:Rows.app (.nil) s=(s):=rfl
theorem Rows.app.r2:Rows.app (.cons c e r) s=(.cons c e (r.app s)):=rfl
theorem iD.app{r s:Rows}(h:iD sf r)(k:iD sf s):iD sf (r.app s):=by
 induction h with
 | nil=>exact k
 | cons h1 h2 h3 h4 _ ih=>exact .cons h1 h2 h3 h4 ih
theorem oB.app{q:Bool}{r s:Rows}(h:oB false F r)(k:oB q F s):oB q F (r.app s):=by
 induction h with
 | nil=>exact k
 | last h=>cases h
 | cons h1 h2 _ ih=>exact .cons h1 h2 ih
theorem EA.app:∀{r s:Rows} {us vs:List V},EA bad J us r->EA bad J vs s->EA bad J (us++vs) (r.app s)
 | .nil,s,us,vs,h,k=>by simp only[EA.r1,EA.r2]at h;subst h;exact k
 | .cons c e r,s,us,vs,h,k=>by
   simp only[EA.r1,EA.r2]at h
   obtain⟨v,ws,rfl,h1,h2⟩:=h
   simp only[Rows.app.r1,Rows.app.r2,EA.r1,EA.r2,List.cons_append]
   exact⟨v,ws++vs,rfl,h1,EA.app h2 k⟩
theorem eN:∀r s:Rows,oC (r.app s)=oC r+oC s
 | .nil,s=>by simp[Rows.app.r1,Rows.app.r2,oC.r1,oC.r2]
 | .cons c e r,s=>by simp only[Rows.app.r1,Rows.app.r2,oC.r1,oC.r2,eN r s];simp+arith only
theorem gG:∀r s:Rows,WA (r.app s)=WA r+WA s
 | .nil,s=>by simp[Rows.app.r1,Rows.app.r2,WA.r1,WA.r2]
 | .cons c e r,s=>by simp only[Rows.app.r1,Rows.app.r2,WA.r1,WA.r2,gG r s];simp+arith only
inductive Tc(sf:Bool)(bad:Nat->Prop)(n:Nat)(v:V)(LA:List O):Prop
 | mk (rl:Nat) (us:List V) (rows:Rows) (e:v= .loc rl) (z:n<=rl) (h:LA[rl]?=some (.list us)) (r:EA (fun l=>bad l\/l=rl) LA us rows) (d:iD sf rows) (m:oC rows<=2)
theorem cG(P:qG g)(hp:yC pl J)(hbp:bad pl)(hb:∀l,bad l->l < J.length):MA g (d+4) none 699 [.loc pl, .bool sf] J (EP pl J (Tc sf bad J.length)):=
 P.f699.run rfl rfl fun K e f=>f _ (LD (many:=3) P (hp.app _) rfl rfl) fun v gB ⟨hd1,k,hk,ek⟩ p=>by
   subst ek
   have hpl:=hp.lt
   refine p (by lia) (by lia) fun Pw hP h0=>?_
   have key:∀(m i:Nat) (us:List V) (rows:Rows) (aB:List O) (x3 x4:Option V),i+m=k->zG pl J aB->aB[J.length]?=some (.list us)->EA (fun l=>bad l\/l=J.length) aB us rows->iD sf rows->oC rows=i->
    Pw i [some (.loc pl),some (.bool sf),some (.loc J.length),x3,x4] aB->False:=by
    intro m
    induction m with
    | zero=>
      intro i us rows aB x3 x4 ei hd2 hl hr hD hn p
      exact e (hP _ _ _ p false (decide_eq_false (by lia))) .same ⟨_,rfl,hd2,_,us,rows,rfl,Nat.le_refl _,hl,hr,hD,by exact fJ (eL hn) (eL ei) hk⟩
    | succ m ih=>
      intro i us rows aB x3 x4 ei hd2 hl hr hD hn p
      have hlt:=(List.getElem?_eq_some_iff.mp hl).1
      refine hP _ _ _ p true (decide_eq_true (by lia)) _ (aH (bad:=fun l=>bad l\/l=J.length) (sf:=sf) (most:=3) P rfl rfl hd2.pen (.inl hbp) (fun l q=>q.elim (OB hb hd2 l) fun q=>q ▸ hlt)) fun v YF ⟨hd3,ws,gap,h1,h2,h3,h4⟩ p=>?_
      have hl3:=hd3.chg.get hl (by exact Nat.ne_of_gt hpl)
      refine p _ hl3 _ ((aL (d:=d) P hd3.pen).up (by simp+arith only)) fun v' eJ ⟨hd4,en,he,ev⟩ p=>?_
      subst ev
      have hl4:=hd4.chg.get hl3 (by exact Nat.ne_of_gt hpl)
      have hul:=hr.len
      refine ih (i+1) (us++[.tup [v, .str en]]) (rows.app (.cons (rH ws gap) en .nil)) _ _ _ (by exact Nd ei) (((hd2.trans hd3).trans hd4).set _ (Nat.le_refl _) (by exact Nat.ne_of_gt hpl)) (List.getElem?_set_self (List.getElem?_eq_some_iff.mp hl4).1) ?_ (hD.app (.cons h2 h1 h3 he .nil)) (by rw[eN,hn];rfl) (p _ (XA hl4) _ _ (uC (by lia)))
      have hk:∀l,l < eJ.length->¬(bad l\/l=J.length)->(eJ.set J.length (.list (us++[.tup [v, .str en]])))[l]?=eJ[l]?:=fun l u0 q=>List.getElem?_set_ne fun e=>q (.inr e.symm)
      refine EA.mv hk YB _ _ (EA.app (EA.mv (fun l a b=>hd4.chg.keep l a fun e=>b (.inl (e ▸ hbp))) YB _ _ (EA.mv (fun l a b=>hd3.chg.keep l a fun e=>b (.inl (e ▸ hbp))) YB _ _ hr)) ?_)
      simp only[EA.r1,EA.r2]
      exact⟨v,[],rfl,yA.mv (fun l a b=>hd4.chg.keep l a fun e=>b (.inl (e ▸ hbp))) YB _ _ h4,rfl⟩
   exact key k 0 [] .nil _ _ _ (by simp+arith only) (((zG.start hp).app _).trans hd1) (hd1.chg.get (AA ..) (by exact Nat.ne_of_gt hpl)) (by simp only[EA.r1,EA.r2]) .nil rfl h0
end
section
variable{g:G}{d:Nat}{hd:Option Nat}{J LA BD:List O}{bad:Nat->Prop}{pl:Nat}{sf:Bool}{F:Sc->Prop}{n:Nat}
theorem GR(hbp:bad pl)(c:qH pl J LA):∀l,l < J.length->¬bad l->LA[l]?=J[l]?:=fun l a b=>c.keep l a fun e=>b (e ▸ hbp)
theorem nb(hb:∀l,bad l->l < J.length):¬bad J.length:=fun q=>Nat.lt_irrefl _ (hb _ q)
theorem yA.dn{v:V}{c:Cm}(hbp:bad pl)(h:zG pl J LA)(r:yA bad J v c):yA bad LA v c:=yA.mv (GR hbp h.chg) YB v c r
theorem DH.dn{v:V}{m:List Nat}{ps:aF}(hbp:bad pl)(h:zG pl J LA)(r:DH bad J v m ps):DH bad LA v m ps:=r.mv (GR hbp h.chg) YB
theorem ZA.nil':ZA bad J [] .nil:=by simp only[ZA.r1,ZA.r2]
theorem ZA.cons'{v:V}{m:List Nat}{ps:aF}{us:List V}{r:mF}(h:DH bad J v m ps)(k:ZA bad J us r):ZA bad J (v::us) (.cons m ps r):=by
 simp only[ZA.r1,ZA.r2]
 obtain⟨l,vs,e,h1,h2,h3⟩:=h
 exact⟨l,us,vs,by rw[e],h1,h2,h3,k⟩
theorem EA.nil':EA bad J [] .nil:=by simp only[EA.r1,EA.r2]
theorem EA.cons'{v:V}{c:Cm}{e:List Nat}{us:List V}{r:Rows}(h:yA bad J v c)(k:EA bad J us r):EA bad J (.tup [v, .str e]::us) (.cons c e r):=by
 simp only[EA.r1,EA.r2]
 exact⟨v,us,rfl,h,k⟩
theorem yA.mk'{l:Nat}{nm gap:List Nat}{us:List V}{ws:mF}(h1:J[l]?=some (.list us))(h2:¬bad l)(h:ZA bad J us ws):yA bad J (.tup [.str nm, .loc l, .str gap]) (.mk nm ws gap):=by
 simp only[yA.r1]
 exact⟨l,us,rfl,h1,h2,h⟩
noncomputable def UI:List (List Nat):=[[122,122],[98,111,111,109],[115,116,111,112],[114],[116,111,108,100]]
noncomputable def LH:List (List Nat):=[[],[10,32],[35,32,113,10]]
noncomputable def tJ:List (List Nat):=[[],[34]]
theorem Ub{a b:Nat}{m:List Nat}{ps:aF}{gap:List Nat}(ha:a < 10)(hb:b < 10)(hg:gap∈bC):PC (.mk [114] (.cons (JD a) (rM a) (.cons m ps (.cons (JD b) (rM b) .nil))) gap)<=600+2*m.length+jA ps:=by
 have h1:=dJ a ha
 have h2:=dJ b hb
 have h3:=QO hg
 simp only[PC.r1,oA.r1,oA.r2,GC.r1,GC.r2,List.length_cons,List.length_nil];lia
theorem RN{h:List Nat}(q:h∈LH):h∈RG/\h.length<=4:=by revert q;revert h;decide
theorem yT{m:List Nat}(q:m∈tJ):(m=[]\/m=[34])/\m.length<=1:=by revert q;revert m;decide
theorem uT:∀k (h:k < 5),UI[k]'h∈gN/\(UI[k]'h).length<=10:=by decide
noncomputable def JL(h:List Nat)(c1 c2 c3:Cm)(e1 e2:List Nat):Sc:= .mk h (.cons c1 e1 (.cons c2 e2 (.cons c3 [] .nil)))
noncomputable def JN(s:Sc):aF:= .cons (.text [120] [120]) (.cons (.run s) (.cons (.text [121] [121]) .nil))
theorem mU{h e1 e2:List Nat}{c1 c2 c3:Cm}{i:Nat}(hh:h∈LH)(g1:pM (PD 1) c1/\PC c1<=500)(g2:pM (PD (i+1)) c2)(g3:pM (PD 1) c3/\PC c3<=500)(he1:e1∈ZL)(he2:e2∈ZL):
 PD (i+2) (JL h c1 c2 c3 e1 e2)/\jA (JN (JL h c1 c2 c3 e1 e2))<=PC c2+1500:=by
 refine⟨⟨(RN hh).1, .cons (g1.1.map fun s h=>PD.le (by exact Nat.le_add_left _ _) h) (mE he1) (.cons g2 (mE he2) (.last rfl (g3.1.map fun s h=>PD.le (by exact Nat.le_add_left _ _) h) (.inl rfl)))⟩,?_⟩
 have h1:=g1.2
 have h3:=g3.2
 have h4:=wI he1
 have h5:=wI he2
 have h6:=(RN hh).2
 simp only[JN,JL,jA.r1,jA.r2,FB.r1,FB.r2,FB.r3,NC.r1,WA.r1,WA.r2,List.length_cons,List.length_nil];lia
theorem YX{m h e1 e2:List Nat}{c1 c2 c3:Cm}{v1 v2 v3:V}{l:Nat}{LA:List O}(e:LA=J++[.list [.tup [.str [116,101,120,116], .str [120], .str [120]], .tup [.str [114,117,110], .tup [.str h, .loc l]], .tup [.str [116,101,120,116], .str [121], .str [121]]]])(hl:J[l]?=some (.list [.tup [v1, .str e1], .tup [v2, .str e2], .tup [v3, .str []]]))(h1:¬bad l)(h2:¬bad J.length)(r1:yA bad J v1 c1)(r2:yA bad J v2 c2)(r3:yA bad J v3 c3):
 DH bad LA (.tup [.str m, .loc J.length]) m (JN (JL h c1 c2 c3 e1 e2)):=by
 subst e
 have k:∀{v c},yA bad J v c->yA bad (J++[.list [.tup [.str [116,101,120,116], .str [120], .str [120]], .tup [.str [114,117,110], .tup [.str h, .loc l]], .tup [.str [116,101,120,116], .str [121], .str [121]]]]) v c:=fun r=>yA.mv (zB _) YB _ _ r
 refine⟨_,_,rfl,AA ..,h2,?_⟩
 simp only[JN,JL,YA.r1,YA.r2,fA.r1,fA.r2,fA.r3,yB.r1]
 exact⟨_,_,rfl,rfl,_,_,rfl,⟨_,rfl,_,_,rfl,GA hl _,h1, .cons' (k r1) (.cons' (k r2) (.cons' (k r3) .nil'))⟩,_,_,rfl,rfl,rfl⟩
inductive Pf(bad:Nat->Prop)(deep:Nat)(v:V)(LA:List O):Prop
 | mk (c:Cm) (r:yA bad LA v c) (g:pM (PD (deep+1)) c) (z:PC c<=1000+3000*deep)
theorem bT(P:qG g){kind deep:Nat}(hk5:kind < 5)(hdp:deep<=10)(hp:yC pl J)(hbp:bad pl)(hb:∀l,bad l->l < J.length):MA g (d+4) none 706 [.loc pl, .int (kind:Int), .int (deep:Int)] J (EP pl J (Pf bad deep)):=
 P.f706.run rfl rfl fun K e f=>by
   have hpl:=hp.lt
   refine f _ (NE (d:=d+1) (sf:=false) P hp hbp hb) fun v1 gB ⟨hd1,a,ha,rwa⟩ p=>p _ (NE (d:=d+1) (sf:=false) P hd1.pen hbp (OB hb hd1)) fun v2 aB ⟨hd2,b,hbb,rwb⟩ p=>p _ (yQ (d:=d+1) P (hd2.pen.app _)) fun v3 YF ⟨hd3,gap,hgap,eg⟩ p=>?_
   subst eg
   have hl3:=hd3.chg.get (AA ..) (by have:=hd2.pen.lt;exact Nat.ne_of_gt this)
   have hd23:=((zG.start hd2.pen).app _).trans hd3
   have hd03:=(hd1.trans hd2).trans hd23
   have hb2:=OB (OB hb hd1) hd2
   have hb3:=OB hb2 hd23
   have hlt3:=(List.getElem?_eq_some_iff.mp hl3).1
   have gwa:=FG ha.1
   have gwb:=FG hbb.1
   have hnm:=uT kind hk5
   have rwa:=rwa.dn hbp hd2
   have gl:=QO hgap
   have h1:=dJ a ha.1
   have h2:=dJ b hbb.1
   have p:∃(v:V) (c:Cm) (eJ:List O),zG pl J eJ/\yA bad eJ v c/\pM (PD 1) c/\PC c<=1000/\dB g (d+3) none eF.body.tl.tl.tl [some (.loc pl),some (.int (kind:Int)),some (.int (deep:Int)),some v,none,some (.loc aB.length),some (.str gap),none,none,none,none] eJ (cF K) (JF K):=by
    by_cases q:kind=3
    ·have p:=p true (decide_eq_true (by lia)) _ hl3 _ (XA (GA hl3 _)) _ _ (md (by simp))
     have hl4:((YF++[O.list [.tup [.str [117,110,115,101,116]]]]).set aB.length (.list [v1, .tup [.str [], .loc YF.length],v2]))[aB.length]?=some (.list [v1, .tup [.str [], .loc YF.length],v2]):=List.getElem?_set_self (by simp;exact BB hlt3)
     have hd4:=(hd03.app [O.list [.tup [.str [117,110,115,101,116]]]]).set (.list [v1, .tup [.str [], .loc YF.length],v2]) (hd1.trans hd2).chg.len (by have:=hd2.pen.lt;exact Nat.ne_of_gt this)
     have hu4:((YF++[O.list [.tup [.str [117,110,115,101,116]]]]).set aB.length (.list [v1, .tup [.str [], .loc YF.length],v2]))[YF.length]?=some (.list [.tup [.str [117,110,115,101,116]]]):=by
      rw[List.getElem?_set_ne (by exact Nat.ne_of_lt hlt3)];exact AA ..
     have hkp:∀l,l < YF.length->¬(bad l\/l=aB.length)->((YF++[O.list [.tup [.str [117,110,115,101,116]]]]).set aB.length (.list [v1, .tup [.str [], .loc YF.length],v2]))[l]?=YF[l]?:=fun l h1 h2=>by
      rw[List.getElem?_set_ne (fun e=>h2 (.inr e.symm)),List.getElem?_append_left h1]
     refine⟨_, .mk UI[kind] (.cons (JD a) (rM a) (.cons [] (.cons .unset .nil) (.cons (JD b) (rM b) .nil))) gap,_,hd4.app _, .mk' (GA hl4 _) (nb hb2) ?_, .mk hnm.1 hgap (.cons gwa (.cons .uns (.cons gwb .nil))),?_,p _ (GI (ss:=UI) (AA ..) hk5)⟩
     ·have mv:∀{v m ps},DH bad aB v m ps->DH bad ((YF++[O.list [.tup [.str [117,110,115,101,116]]]]).set aB.length (.list [v1, .tup [.str [], .loc YF.length],v2])++[O.list (UI.map V.str)]) v m ps:=fun h=>((h.mv (bad':=fun l=>bad l\/l=aB.length) (GR hbp hd23.chg) (fun l q=>q.imp id fun e=>Nat.le_of_eq e.symm)).mv (bad':=bad) hkp (fun l q=> .inl (.inl q))).mv (zB _) YB
      exact .cons' (mv rwa) (.cons' ⟨YF.length,_,rfl,GA hu4 _,nb hb3,by simp only[YA.r1,YA.r2,fA.r1,fA.r2,fA.r3];exact⟨_,_,rfl,rfl,rfl⟩⟩ (.cons' (mv rwb) .nil'))
     ·have h3:=hnm.2
      simp only[PC.r1,oA.r1,oA.r2,jA.r1,jA.r2,FB.r1,FB.r2,FB.r3,GC.r1,GC.r2,List.length_cons,List.length_nil];lia
    ·have p:=p false (decide_eq_false (by lia)) _ (GI (ss:=UI) (AA ..) hk5)
     refine⟨_, .mk UI[kind] (.cons (JD a) (rM a) (.cons (JD b) (rM b) .nil)) gap,_,hd03.app _, .mk' (GA hl3 _) (nb hb2) (.cons' ((rwa.dn hbp hd23).mv (zB _) YB) (.cons' ((rwb.dn hbp hd23).mv (zB _) YB) .nil')), .mk hnm.1 hgap (.cons gwa (.cons gwb .nil)),?_,p⟩
     have h3:=hnm.2
     simp only[PC.r1,oA.r1,oA.r2,GC.r1,GC.r2,List.length_cons,List.length_nil];lia
   obtain⟨v,c,eJ,hd4,hr,hg,hs,p⟩:=p
   refine p (by lia) (by lia) fun Pw hP h0=>?_
   have key:∀(m i:Nat) (v:V) (c:Cm) (aB:List O) (x4 x5 x6 x7 x8 x9 x10:Option V),i+m=deep->zG pl J aB->yA bad aB v c->pM (PD (i+1)) c->PC c<=1000+3000*i->
    Pw i [some (.loc pl),some (.int (kind:Int)),some (.int (deep:Int)),some v,x4,x5,x6,x7,x8,x9,x10] aB->False:=by
    clear h0 p hr hg hs hd4 rwa rwb gl h1 h2 hd3 hd23 hd03 hb3 hlt3 gwa gwb hnm hl3 hgap hbb ha hb2 hd2 hd1
    intro m
    induction m with
    | zero=>
      intro i v c aB x4 x5 x6 x7 x8 x9 x10 ei hd2 hr hg hs p
      have ei:i=deep:=ei
      subst ei
      exact e (hP _ _ _ p false (decide_eq_false (by lia))) .same ⟨_,rfl,hd2,c,hr,hg,hs⟩
    | succ m ih=>
      intro i v c aB x4 x5 x6 x7 x8 x9 x10 ei hd2 hr hg hs p
      have hb2:=OB hb hd2
      refine hP _ _ _ p true (decide_eq_true (by lia)) _ (LD (d:=d+2) (many:=3) P (hd2.pen.app _) rfl rfl) fun v3 YF ⟨hd3,k,hk,ek⟩ p=>?_
      subst ek
      have hl3:=hd3.chg.get (AA ..) (by have:=hd2.pen.lt;exact Nat.ne_of_gt this)
      have hd3:=((zG.start hd2.pen).app _).trans hd3
      have hb3:=OB hb2 hd3
      refine p _ (GI (ss:=LH) hl3 hk) _ (aH (d:=d) (bad:=bad) (sf:=false) (most:=2) P rfl rfl hd3.pen hbp hb3) fun v4 eJ ⟨hd4,ws1,UV,n1,w1,g1,r1⟩ p=>?_
      refine p _ ((aL (d:=d) P hd4.pen).up (by simp+arith only)) fun v5 CP ⟨hd5,e1,he1,q1⟩ p=>p _ ((aL (d:=d) P hd5.pen).up (by simp+arith only)) fun v6 GX ⟨hd6,e2,he2,q2⟩ p=>?_
      subst q1
      subst q2
      have hd46:=hd5.trans hd6
      have hb6:=OB (OB hb3 hd4) hd46
      refine p _ (aH (d:=d) (bad:=bad) (sf:=false) (most:=2) P rfl rfl hd6.pen hbp hb6) fun v7 ag ⟨hd7,ws2,gap2,n2,w2,g2,r2⟩ p=>?_
      have hb7:=OB hb6 hd7
      refine p _ (LD (d:=d+2) (many:=2) P ((hd7.pen.app _).app _) rfl rfl) fun v8 Jf ⟨hd8,k2,hk2,ek⟩ p=>?_
      subst ek
      have hl7:=hd8.chg.get (GA (AA ..) _) (by have:=hd7.pen.lt;exact Nat.ne_of_gt this)
      have hm7:=hd8.chg.get (AA ..) (by have:=hd7.pen.lt;simp;exact Nat.ne_of_gt (BB this))
      refine p _ (GI (ss:=tJ) hm7 hk2) _ (yQ (d:=d+1) P hd8.pen) fun v9 Dh ⟨hd9,gap,hgap,eg⟩ p=>?_
      subst eg
      have hd79:=(((zG.start hd7.pen).app _).app _).trans (hd8.trans hd9)
      have hb9:=OB hb7 hd79
      have hd49:=hd46.trans (hd7.trans hd79)
      have hrw:=YX (m:=tJ[k2]) (h:=LH[k]) rfl (hd9.chg.get hl7 (by have:=hd7.pen.lt;exact Nat.ne_of_gt this)) (nb hb7) (nb hb9) (r1.dn hbp hd49) (hr.dn hbp ((hd3.trans hd4).trans hd49)) (r2.dn hbp hd79)
      have hd010:=(hd2.trans (((hd3.trans hd4).trans hd49))).app [O.list [.tup [.str [116,101,120,116], .str [120], .str [120]], .tup [.str [114,117,110], .tup [.str LH[k], .loc ag.length]], .tup [.str [116,101,120,116], .str [121], .str [121]]]]
      refine p _ (NE (d:=d+1) (sf:=false) P hd010.pen hbp (OB hb hd010)) fun v11 vb ⟨hd11,a,ha,rwa⟩ p=>p _ (NE (d:=d+1) (sf:=false) P hd11.pen hbp (OB (OB hb hd010) hd11)) fun v12 qY ⟨hd12,b,hbb,rwb⟩ p=>?_
      have hd012:=hd010.trans (hd11.trans hd12)
      obtain⟨ag1,ag2⟩:=mU (i:=i) (List.getElem_mem (l:=LH) hk) (oJ w1 (by exact BB n1) g1) hg (oJ w2 (by exact BB n2) g2) he1 he2
      obtain⟨mk1,mk2⟩:=yT (List.getElem_mem (l:=tJ) hk2)
      refine ih (i+1) _ (.mk [114] (.cons (JD a) (rM a) (.cons tJ[k2] (JN (JL LH[k] (rH ws1 UV) c (rH ws2 gap2) e1 e2)) (.cons (JD b) (rM b) .nil))) gap) _ _ _ _ _ _ _ _ (by exact Nd ei) (hd012.app _)
       (.mk' (AA ..) (nb (OB hb hd012)) (.cons' ((rwa.dn hbp hd12).mv (zB _) YB) (.cons' ((hrw.dn hbp (hd11.trans hd12)).mv (zB _) YB) (.cons' (rwb.mv (zB _) YB) .nil'))))
       (.mk (by decide) hgap (.cons ((FG ha.1).map fun s h=>PD.le (by exact Nat.le_add_left _ _) h) (.cons (.aro mk1 ag1) (.cons ((FG hbb.1).map fun s h=>PD.le (by exact Nat.le_add_left _ _) h) .nil)))) ?_ p
      have:=Ub (m:=tJ[k2]) (ps:=JN (JL LH[k] (rH ws1 UV) c (rH ws2 gap2) e1 e2)) ha.1 hbb.1 hgap
      lia
   exact key deep 0 v c eJ _ _ _ _ _ _ _ (by simp+arith only) hd4 hr hg (by assumption) h0
end
section
variable{g:G}{d:Nat}{hd:Option Nat}{J LA BD:List O}{T s rest st run:List Nat}{b:Bool}{acc:List V}{R:bF->List O->Prop}{pl:Nat}{sf:Bool}{F:Sc->Prop}{n:Nat}
noncomputable def wB:List (List Nat×List Nat):=[([114,32,34,98,32,99],[109,105,115,115,105,110,103,32,34]),([114,32,123,98,32,99],[109,105,115,115,105,110,103,32,99,108,111,115,101,45,98,114,97,99,101]),([114,32,91,114,32,98],[109,105,115,115,105,110,103,32,99,108,111,115,101,45,98,114,97,99,107,101,116]),([114,32,123,98,125,99],[101,120,116,114,97,32,99,104,97,114,97,99,116,101,114,115,32,97,102,116,101,114,32,99,108,111,115,101,45,98,114,97,99,101]),([114,32,34,98,34,99],[101,120,116,114,97,32,99,104,97,114,97,99,116,101,114,115,32,97,102,116,101,114,32,99,108,111,115,101,45,113,117,111,116,101]),([114,32,36,109,40,98],[109,105,115,115,105,110,103,32,41]),([114,32,36,123,98],[109,105,115,115,105,110,103,32,99,108,111,115,101,45,98,114,97,99,101,32,102,111,114,32,118,97,114,105,97,98,108,101,32,110,97,109,101])]
noncomputable def vB(raw:List Nat):Nat->List Nat
 | 0=>raw
 | k+1=>[114,32,97,32,91,114,32,98,59,32]++vB raw k++[93,32,99]
theorem vB.r1{raw:List Nat}:vB raw 0=(raw):=rfl
theorem vB.r2{raw:List Nat}:vB raw (k+1)=([114,32,97,32,91,114,32,98,59,32]++vB raw k++[93,32,99]):=rfl
theorem VJ(raw:List Nat):∀k,(vB raw k).length=raw.length+13*k
 | 0=>rfl
 | k+1=>by simp only[vB.r1,vB.r2,List.length_append,VJ raw k,List.length_cons,List.length_nil];simp+arith only
theorem TY:∀k (h:k < wB.length),(wB[k]'h).1.length<=10:=by decide
theorem kT(P:qG g){deep:Nat}(hdp:deep<=10)(hp:yC pl J):MA g (d+2) none 713 [.loc pl, .int (deep:Int)] J (EP pl J fun v u0=>∃p∈wB,v= .tup [.str (vB p.1 deep), .str p.2]):=
 P.f713.run rfl rfl fun K e f=>f _ (LD (many:=7) P (hp.app _) rfl rfl) fun v gB ⟨hd1,k,hk,ek⟩ p=>by
   subst ek
   have hk:k < wB.length:=hk
   have hrl:=TY k hk
   refine p _ (lC (v:= .tup [.str wB[k].1, .str wB[k].2]) (vs:=wB.map fun p=> .tup [.str p.1, .str p.2]) (hd1.chg.get (AA ..) (by have:=hp.lt;exact Nat.ne_of_gt this)) (by rw[LL,List.getElem?_map,List.getElem?_eq_getElem hk];rfl)) (by lia) (by lia) fun Pw hP h0=>?_
   have key:∀(m i:Nat) (x2:Option V),i+m=deep->Pw i [some (.loc pl),some (.int (deep:Int)),x2,some (.str (vB wB[k].1 i)),some (.str wB[k].2)] gB->False:=by
    intro m
    induction m with
    | zero=>
      intro i x2 ei p
      have ei:i=deep:=ei
      subst ei
      exact e (hP _ _ _ p false (decide_eq_false (by lia))) .same ⟨_,rfl,((zG.start hp).app _).trans hd1,wB[k],List.getElem_mem _,rfl⟩
    | succ m ih=>
      intro i x2 ei p
      have hl:=VJ wB[k].1 i
      exact ih (i+1) _ (by exact Nd ei) (hP _ _ _ p true (decide_eq_true (by lia)) _ (qD (by simp only[List.length_cons,List.length_nil];lia)) _ (qD (by simp only[List.length_append,List.length_cons,List.length_nil];lia)))
   exact key deep 0 _ (by simp+arith only) h0
noncomputable def pZ(X:List Nat):Prop:=kJ (mB false) X
class inductive Sx:List Nat->Prop
 | nil:Sx []
 | ch {c:Nat} {r:List Nat}:¬c∈[36,91,92,34,41,123,125]->Sx r->Sx (c::r)
 | hex {r:List Nat}:Sx r->Sx (92::120::52::49::r)
 | bn {b r:List Nat}:(∀c∈b,c=32\/c=9)->(∀c r',r=c::r'->c≠32/\c≠9)->Sx r->Sx (92::10::(b++r))
 | dv {r:List Nat}:pZ r->Sx r->Sx (36::118::r)
 | br {sc:Sc} {r:List Nat}:PD 1 sc->(gD sc=[114,32,98]\/gD sc=[114,32,122])->Sx r->Sx (91::(gD sc++93::r))
theorem rO{w r:List Nat}(hw:∀c∈w,¬c∈[36,91,92,34,41,123,125])(h:Sx r):Sx (w++r):=by
 induction w with
 | nil=>exact h
 | cons c w ih=>exact .ch (hw c (by simp)) (ih fun x q=>hw x (by simp[q]))
theorem Sx.parts(P:Prog g)(h:Sx s){st:List Nat}(hst:st=[34]\/st=[41]):∀(run:List Nat) (acc:List V),∃v,uA g T (d+8) st s run acc (.ok v []):=by
 have hno:st.contains 36=false/\st.contains 91=false/\st.contains 92=false/\st.contains 32=false:=by rcases hst with rfl | rfl <;>decide
 induction h with
 | nil=>intro run acc;exact⟨_, .nil⟩
 | @ch c r hc _ ih=>
   intro run acc
   obtain⟨v,hv⟩:=ih (run++[c]) acc
   refine⟨v,uA.run (w:=[c]) ?_ hv⟩
   intro x hx
   simp only[List.mem_cons,List.not_mem_nil,or_false]at hx hc
   subst hx
   rcases hst with rfl | rfl <;>simp[rC] <;>lia
 | @hex r _ ih=>
   intro run acc
   obtain⟨v,hv⟩:=ih (run++[65]) acc
   exact⟨v, .bs hno.2.2.1 (fun q=>by rw[hno.2.2.2]at q;cases q) (.hex (a:=52) (b:=49) (by decide) (by decide) (by decide) (by decide)) hv⟩
 | @bn b r hb hr _ ih=>
   intro run acc
   obtain⟨v,hv⟩:=ih (run++[32]) acc
   exact⟨v, .bs hno.2.2.1 (fun q=>by rw[hno.2.2.2]at q;cases q) (.nl hb hr) hv⟩
 | @dv r hr _ ih=>
   intro run acc
   obtain⟨v,hv⟩:=ih [] (acc++YC run++[vr [118] .none])
   obtain⟨h1,h2⟩:=PJ hr
   exact⟨v,lH (d:=d+4) P (nm:=[118]) hno.1 (by simp) (by decide) h1 h2 hv⟩
 | @br sc r hg _ _ ih=>
   intro run acc
   obtain⟨v,hv⟩:=ih [] (acc++YC run++[cm (gD sc)])
   have hb:pG g T (d+8) sc:=fun rest n hs=>by obtain⟨m,h,c⟩:=GO P 1 sc hg rest n hs;exact⟨m,h,fun {_}=>c.up (by exact Nat.le_add_left _ _)⟩
   exact⟨v,BG hno.2.1 hb hv⟩
theorem Sx.brace(h:Sx s):∀(k:Nat) (acc:List Nat),EB (k+1) s acc none:=by
 induction h with
 | nil=>intro k acc;exact .eof
 | @ch c r hc _ ih=>
   intro k acc
   refine EB.run (w:=[c]) ?_ (ih k _)
   intro x hx
   simp only[List.mem_cons,List.not_mem_nil,or_false]at hx hc
   subst hx
   simp[OL];lia
 | @hex r _ ih=>intro k acc;exact .bs (by decide) (EB.run (w:=[52,49]) (by decide) (ih k _))
 | @bn b r hb hr _ ih=>intro k acc;exact .nl (.nl hb hr) (by simp) (ih k _)
 | @dv r hr _ ih=>intro k acc;exact EB.run (w:=[36,118]) (by decide) (ih k _)
 | @br sc r hg hw _ ih=>
   intro k acc
   have e1:91::(gD sc++93::r)=(91::(gD sc++[93]))++r:=by simp
   rw[e1]
   refine EB.run ?_ (ih k _)
   rcases hw with q | q <;>rw[q] <;>decide
theorem Sx.no125(h:Sx s):∀c∈s,c≠125:=by
 induction h with
 | nil=>intro c q;cases q
 | @ch c r hc _ ih=>
   intro x hx
   rcases List.mem_cons.mp hx with rfl | q
   ·simp only[List.mem_cons,List.not_mem_nil,or_false]at hc;lia
   ·exact ih x q
 | @hex r _ ih=>intro x hx;simp only[List.mem_cons]at hx;rcases hx with rfl | rfl | rfl | rfl | q;(all_goals first | decide | exact ih x q)
 | @bn b r hb hr _ ih=>
   intro x hx
   simp only[List.mem_cons,List.mem_append]at hx
   rcases hx with rfl | rfl | q | q
   ·decide
   ·decide
   ·rcases hb x q with rfl | rfl <;>decide
   ·exact ih x q
 | @dv r hr _ ih=>intro x hx;simp only[List.mem_cons]at hx;rcases hx with rfl | rfl | q;(all_goals first | decide | exact ih x q)
 | @br sc r hg hw _ ih=>
   intro x hx
   simp only[List.mem_cons,List.mem_append]at hx
   rcases hx with rfl | q | rfl | q
   ·decide
   ·rcases hw with e | e <;>(rw[e]at q;revert q;revert x;decide)
   ·decide
   ·exact ih x q
noncomputable def Zg:Sc:= .mk [] (.cons (.mk [114] (.cons [] (.cons (.text [122] [122]) .nil) .nil) [32]) [] .nil)
theorem ub:PD 1 Zg:=⟨by decide, .last rfl (.mk (by decide) (by decide) (.cons (.lit (by decide)) .nil)) (.inl rfl)⟩
theorem Sx.ender{e:List Nat}(he:e∈XD)(h:Sx s):Sx (e++s):=by
 simp only[XD,List.mem_cons,List.not_mem_nil,or_false]at he
 rcases he with rfl | rfl | rfl | rfl | rfl | rfl | rfl | rfl | rfl
 case inr.inr.inr.inr.inl=>
  have:=rO (w:=[10,35,32,99,59,32]) (by decide) (Sx.br ub (.inr (by decide)) (rO (w:=[10]) (by decide) h))
  have e1:gD Zg=[114,32,122]:=by decide
  rw[e1]at this
  exact this
 all_goals exact rO (by decide) h
theorem pZ.ender{e:List Nat}(he:e∈XD):pZ (e++s):=by
 simp only[XD,List.mem_cons,List.not_mem_nil,or_false]at he
 rcases he with rfl | rfl | rfl | rfl | rfl | rfl | rfl | rfl | rfl <;>exact .inr ⟨_,_,rfl,rfl⟩
theorem Sx.word{w:Nat}(hw:LX true w)(h:Sx s)(hs:pZ s):Sx (JD w++WB (rM w)++JD w++s)/\∃c r,JD w++WB (rM w)++JD w++s=c::r/\c≠32/\c≠9:=by
 rcases hw.2 rfl with rfl | rfl | rfl | rfl | rfl
 ·exact⟨.ch (by decide) h,_,_,rfl,by decide,by decide⟩
 ·exact⟨.hex h,_,_,rfl,by decide,by decide⟩
 ·exact⟨.dv hs h,_,_,rfl,by decide,by decide⟩
 ·refine⟨?_,_,_,rfl,by decide,by decide⟩
  have:=Sx.br TG (.inl (by decide)) h
  have e1:gD DE=[114,32,98]:=by decide
  rw[e1]at this
  exact this
 ·exact⟨rO (w:=List.replicate 60 119) (by decide) h,_,_,rfl,by decide,by decide⟩
theorem Sx.tail{gap:List Nat}(hg:gap∈bC)(h:Sx s)(hs:pZ s):∀{ws:List Nat},(∀w∈ws,LX true w)->Sx (RC gap (kB ws)++s)/\pZ (RC gap (kB ws)++s)
 | [],_=>⟨h,hs⟩
 | w::ws,hw=>by
   obtain⟨h1,h2⟩:=Sx.tail hg h hs (ws:=ws) fun x q=>hw x (by simp[q])
   obtain⟨h3,c,r,h4,h5,h6⟩:=Sx.word (hw w (by simp)) h1 h2
   have e1:RC gap (kB (w::ws))++s=gap++(JD w++WB (rM w)++JD w++(RC gap (kB ws)++s)):=by simp[kB.r1,kB.r2,RC.r1,RC.r2]
   rw[e1]
   refine⟨?_,DS hg⟩
   simp only[bC,List.mem_cons,List.not_mem_nil,or_false]at hg
   rcases hg with rfl | rfl | rfl | rfl
   ·exact .ch (by decide) h3
   ·exact .ch (by decide) (.ch (by decide) h3)
   ·refine .ch (by decide) (.bn (b:=[32]) (by decide) ?_ h3)
    intro c' r' q;rw[h4]at q;cases q;exact⟨h5,h6⟩
   ·exact .ch (by decide) (.ch (by decide) h3)
theorem Sx.rows{rs:Rows}(h:iD true rs):Sx (QA rs).flatten:=by
 induction h with
 | nil=>exact .nil
 | @cons ws gap e r h1 h2 h3 h4 _ ih=>
   have h4:=mE h4
   have:=(Sx.tail h3 (Sx.ender h4 ih) (pZ.ender h4) h1).1
   have e1:(QA (.cons (rH ws gap) e r)).flatten=114::(RC gap (kB ws)++(e++(QA r).flatten)):=by simp[QA.r1,QA.r2,rH,CE.r1,xE]
   rw[e1]
   exact .ch (by decide) this
end
section
variable{g:G}{d:Nat}{T s rest st X W w:List Nat}{b:Bool}{acc:List V}{n k:Nat}
theorem JI.up{d':Nat}{o:kF}(h:JI g T d st s o)(q:d<=d'):JI g T d' st s o:=fun n hs=>by obtain⟨m,h,c⟩:=h n hs;exact⟨m,h,fun {_}=>c.up q⟩
theorem mG(P:Prog g){c:Nat}{r:List Nat}(h1:c≠123)(h2:c≠34)(hp:uA g T (d+4) (mB b) (c::r) [] [] (.err w)):iC g T (d+6) b (c::r) (.err w):=by
 have he:=JJ (r:=r) h1
 exact yN (d:=d) P (s:=c::r) (b:=b) (o:= .err w) (by rw[ID he];intro r q;cases q;exact h1 rfl) (by rw[ID he];intro r q;cases q;exact h2 rfl) (by rw[ID he];exact SJ P hp)
theorem zS(P:Prog g){c:Nat}(hc:c∈[114,97,98,99])(he:kJ (mB b) X):iC g T (d+6) b (c::X) (.ok (BP false [tx [c]]) X):=by
 have hp:∀x∈[c],rC (mB b) x=true:=by
  intro x hx
  simp only[List.mem_cons,List.not_mem_nil,or_false]at hx hc
  subst hx
  rcases hc with rfl | rfl | rfl | rfl <;>induction b using Bool.casesOn <;>decide
 have h1:c≠123/\c≠34:=by revert hc;clear hp;revert c;decide
 have:=MB (g:=g) (T:=T) (d:=d+4) (st:=mB b) (run:=[]) (acc:=[]) hp he
 exact NB P h1.1 h1.2 (by simpa[YC]using this)
theorem YT:CS (114::X):= .inr ⟨_,_,rfl,by decide⟩
theorem UV:([32]:List Nat)∈bC:=by decide
theorem He:kJ (mB b) (32::X):= .inr ⟨_,_,rfl,by induction b using Bool.casesOn <;>rfl⟩
theorem ME(P:Prog g){o:ZF}(hk:UB s (114::32::W))(hs:KT W)(h:CH g T (d+6) b (114::32::W) W [BP false [tx [114]]] o):eE g T (d+7) b s o:=
 BV P hk (fun u0=>by decide) (pJ (w:=[114]) (gap:=[32]) (zS P (by decide) He) (by simp) UV hs h)
theorem OP(P:Prog g){o:ZF}(hk:UB s (114::32::97::32::W))(hs:KT W)(h:CH g T (d+6) b (114::32::97::32::W) W [BP false [tx [114]],BP false [tx [97]]] o):eE g T (d+7) b s o:=
 ME P hk (.of _ (by decide)) (pJ (w:=[97]) (gap:=[32]) (zS P (by decide) He) (by simp) UV hs h)
theorem Aa(P:Prog g){raw why:List Nat}(hr:(raw,why)∈wB)(h2:raw≠[114,32,91,114,32,98])(hX:Sx X)(hk:UB s (raw++X)):eE g T (d+13) b s (.err why):=by
 have h34:iC g T (d+12) b (34::98::32::99::X) (.err [109,105,115,115,105,110,103,32,34]):=by
  obtain⟨v,hv⟩:=(Sx.parts (d:=d) (T:=T) P (s:=98::32::99::X) (.ch (by decide) (.ch (by decide) (.ch (by decide) hX))) (.inl rfl)) [] []
  exact iM (d:=d+6) P (s:=34::98::32::99::X) (r:=98::32::99::X) (o:= .ok v []) (by rw[ID (JJ (by decide))]) ((SJ P hv).up (by simp+arith only))
 simp only[wB,List.mem_cons,Prod.mk.injEq,List.not_mem_nil,or_false]at hr
 rcases hr with⟨rfl,rfl⟩ | ⟨rfl,rfl⟩ | ⟨rfl,rfl⟩ | ⟨rfl,rfl⟩ | ⟨rfl,rfl⟩ | ⟨rfl,rfl⟩ | ⟨rfl,rfl⟩
 ·exact ME (d:=d+6) P hk (.of _ (by decide)) (.err h34)
 ·have hb:=Sx.brace (s:=98::32::99::X) (.ch (by decide) (.ch (by decide) (.ch (by decide) hX))) 0 []
  have:=hM (T:=T) (d:=d+6) (b:=b) P (s:=123::98::32::99::X) (by rw[ID (WN (by decide))]) hb
  exact ME (d:=d+6) P hk (.of _ (by decide)) (.err this)
 ·exact absurd rfl h2
 ·have hw:iC g T (d+12) b (123::98::125::99::X) (.ok (BP false [tx [98]]) (99::X)):=lG (d:=d+6) P (by decide) (by decide) (EB.run (w:=[98]) (by decide) .done)
  exact ME (d:=d+6) P hk (.of _ (by decide)) (.extra (p':=[123,98]) (x:=125) (c:=99) (r:=X) hw rfl (lA (by decide) _) (by decide) (by decide) (fun u0=>by decide))
 ·have hw:iC g T (d+12) b (34::98::34::99::X) (.ok (BP false [tx [98]]) (99::X)):=kE (d:=d+6) P (by have:=MB (g:=g) (T:=T) (d:=d+6+4) (st:=[34]) (run:=[]) (acc:=[]) (w:=[98]) (rest:=34::99::X) (by decide) (.inr ⟨_,_,rfl,rfl⟩);simpa[YC]using this)
  exact ME (d:=d+6) P hk (.of _ (by decide)) (.extra (p':=[34,98]) (x:=34) (c:=99) (r:=X) hw rfl (lA (by decide) _) (by decide) (by decide) (fun u0=>by decide))
 ·obtain⟨v,hv⟩:=(Sx.parts (d:=d) (T:=T) P (s:=98::X) (.ch (by decide) hX) (.inr rfl)) [] []
  have hvar:=iY (d:=d+6) P (nm:=[109]) (r:=98::X) (o:= .ok v []) (by decide) (by simp) (SJ P hv)
  have:=mG (d:=d+6) (b:=b) P (c:=36) (r:=109::40::98::X) (by decide) (by decide) (.derr (rI b).1 hvar)
  exact ME (d:=d+6) P hk (.of _ (by decide)) (.err this)
 ·have hvar:=FN (T:=T) (d:=d+6) P (r:=98::X) (Sx.no125 (.ch (by decide) hX))
  have:=mG (d:=d+6) (b:=b) P (c:=36) (r:=123::98::X) (by decide) (by decide) (.derr (rI b).1 hvar)
  exact ME (d:=d+6) P hk (.of _ (by decide)) (.err this)
noncomputable def JX:Cm:= .mk [114] (.cons [] (.cons (.text [98] [98]) .nil) .nil) [32]
theorem tI{F:Sc->Prop}:pM F JX:= .mk (by decide) (by decide) (.cons (.lit (by decide)) .nil)
theorem GH:CE JX=[114,32,98]:=by decide
theorem ua(P:Prog g){R why:List Nat}(hR:CS R)(hne:∀r,R≠93::r)(hR0:R≠[])(hin:∀s,UB s R->eE g T (d+13) true s (.err why))(hk:UB s ([114,32,97,32,91,114,32,98,59,32]++R)):eE g T (d+17) b s (.err why):=by
 have hcm:eE g T (d+13) true (114::32::98::59::32::R) (.ok (Wg JX) (114::32::98::59::32::R) (59::32::R) (32::R)):=by
  have:=vR (T:=T) (d:=d+6) (b:=true) (c:=JX) (s:=114::32::98::59::32::R) (rest:=59::32::R) (z:=32::R) P tI (.inr ⟨_,_,rfl,rfl⟩) (.sep (lA (by decide) _) (.inr rfl)) (by rw[GH];exact YT.stop YT.skip)
  rw[GH]at this
  exact this
 have hbl:kI g T (d+13) (114::32::98::59::32::R) (.err why):=by
  refine .step (by decide) hcm (by simp) (hR.stop ((kA (by decide) _).trans hR.skip)) ?_
  cases R with
  | nil=>exact absurd rfl hR0
  | cons c r=>exact .err (fun e=>hne r (by rw[e])) (hin _ (hR.stop hR.skip))
 have hb:=LI (d:=d+9) P (s:=114::32::98::59::32::R) (YT.stop YT.skip) hbl
 have hw:=mG (d:=d+10) (b:=b) P (c:=91) (r:=114::32::98::59::32::R) (by decide) (by decide) (.berr (rI b).2.1 hb)
 exact OP (d:=d+10) P hk (.of _ (by decide)) (.err hw)
theorem Sx.cl(h:Sx X):Sx ([93,32,99]++X):= .ch (by decide) (.ch (by decide) (.ch (by decide) h))
theorem JM{raw:List Nat}{why:List Nat}(hr:(raw,why)∈wB):∀k,∃r,vB raw k=114::32::r
 | 0=>by
   have:∀p∈wB,∃r,p.1=114::32::r:=by
    intro p hp
    simp only[wB,List.mem_cons,List.not_mem_nil,or_false]at hp
    rcases hp with rfl | rfl | rfl | rfl | rfl | rfl | rfl <;>exact⟨_,rfl⟩
   exact this _ hr
 | k+1=>⟨_,rfl⟩
theorem zR(P:Prog g){raw why:List Nat}(hr:(raw,why)∈wB)(h2:raw≠[114,32,91,114,32,98]):∀(k:Nat) {X s:List Nat} {b:Bool},Sx X->UB s (vB raw k++X)->eE g T (4*k+13) b s (.err why)
 | 0,X,s,b,hX,hk=>Aa (d:=0) P hr h2 hX hk
 | k+1,X,s,b,hX,hk=>by
   obtain⟨r,e⟩:=JM hr k
   have e1:vB raw (k+1)++X=[114,32,97,32,91,114,32,98,59,32]++(vB raw k++([93,32,99]++X)):=by simp only[vB.r1,vB.r2,List.append_assoc]
   rw[e1]at hk
   exact ua (d:=4*k) P (by rw[e];exact YT) (by rw[e];intro r q;cases q) (by rw[e];simp) (fun s hs=>zR P hr h2 k hX.cl hs) hk
theorem XW(P:Prog g){rows:Rows}(h:oB false (pG g T (d+4)) rows):kI g T (d+7) (QA rows).flatten (.err [109,105,115,115,105,110,103,32,99,108,111,115,101,45,98,114,97,99,107,101,116]):=by
 induction h with
 | nil=>exact .eof
 | last h=>cases h
 | @cons c e r hc he hr ih=>
   have hcs:CS (QA r).flatten:=by have:=dG hr (X:=[]) (.inl rfl);simpa using this
   obtain⟨z,h1,h2,h3,h4⟩:=Mb (b:=true) (.inl ⟨he,hcs⟩)
   have hcs2:=CS.cm hc (e++(QA r).flatten)
   have:=vR P hc h3 h1 (hcs2.stop hcs2.skip)
   obtain⟨x,r',hx,hne⟩:=hc.start
   have e1:(QA (.cons c e r)).flatten=x::(r'++(e++(QA r).flatten)):=by simp[QA.r1,QA.r2,hx]
   rw[hx,List.cons_append]at this
   rw[e1]
   exact .step hne this (by simp only[List.length_cons,List.length_append]at h4 ⊢;exact BB h4) h2 ih
noncomputable def qC:Nat->Cm
 | 0=> .mk [114] (.cons [] (.cons (.run DE) .nil) (.cons [] (.cons (.text [99] [99]) .nil) .nil)) [32]
 | k+1=> .mk [114] (.cons [] (.cons (.text [97] [97]) .nil) (.cons [] (.cons (.run (.mk [] (.cons JX [59,32] (.cons (qC k) [] .nil)))) .nil) (.cons [] (.cons (.text [99] [99]) .nil) .nil))) [32]
theorem qC.r1:qC 0=(.mk [114] (.cons [] (.cons (.run DE) .nil) (.cons [] (.cons (.text [99] [99]) .nil) .nil)) [32]):=rfl
theorem qC.r2:qC (k+1)=(.mk [114] (.cons [] (.cons (.text [97] [97]) .nil) (.cons [] (.cons (.run (.mk [] (.cons JX [59,32] (.cons (qC k) [] .nil)))) .nil) (.cons [] (.cons (.text [99] [99]) .nil) .nil))) [32]):=rfl
theorem gS:∀k,CE (qC k)=vB [114,32,91,114,32,98] k++[93,32,99]
 | 0=>by decide
 | k+1=>by
   have ih:=gS k
   simp only[qC.r1,qC.r2,CE.r1,WE.r1,WE.r2,iA.r1,iA.r2,iA.r3,WB.r1,WB.r2,VE.r1,VE.r2,VE.r3,gD.r1,QA.r1,QA.r2,ih,vB.r1,vB.r2,List.flatten_cons,List.flatten_nil]
   rw[GH]
   simp
theorem fS:∀k,pM (PD (k+1)) (qC k)
 | 0=> .mk (by decide) (by decide) (.cons (.run TG) (.cons (.lit (by decide)) .nil))
 | k+1=> .mk (by decide) (by decide) (.cons (.lit (by decide)) (.cons (.run ⟨by decide, .cons tI (by decide) (.last rfl (fS k) (.inl rfl))⟩) (.cons (.lit (by decide)) .nil)))
theorem wX(P:Prog g){e:List Nat}{rs:Rows}(he:e∈XD)(hrs:oB false (PD 1) rs):∀(k:Nat) {s:List Nat} {b:Bool},UB s (vB [114,32,91,114,32,98] k++(e++(QA rs).flatten))->eE g T (4*k+17) b s (.err [109,105,115,115,105,110,103,32,99,108,111,115,101,45,98,114,97,99,107,101,116]):=by
 have word:∀(k:Nat) (rows:Rows) (b:Bool),oB false (PD (k+1)) rows->iC g T (4*k+14) b (91::(QA rows).flatten) (.err [109,105,115,115,105,110,103,32,99,108,111,115,101,45,98,114,97,99,107,101,116]):=by
  intro k rows b hg
  have hbl:=XW (T:=T) (d:=4*k+4) P (hg.map fun s h=>GO P (k+1) s h)
  have hcs:CS (QA rows).flatten:=by have:=dG hg (X:=[]) (.inl rfl);simpa using this
  have hb:=LI (d:=4*k+7) P (hcs.stop hcs.skip) hbl
  exact mG (d:=4*k+8) (b:=b) P (c:=91) (by decide) (by decide) (.berr (rI b).2.1 hb)
 intro k s b hk
 cases k with
 | zero=>
   have hw:=word 0 (.cons JX e rs) b (.cons tI he hrs)
   have e1:(QA (.cons JX e rs)).flatten=114::32::98::(e++(QA rs).flatten):=by simp[QA.r1,QA.r2,GH]
   rw[e1]at hw
   exact(ME (d:=8) P hk (.of _ (by decide)) (.err hw)).up (by exact Nat.le_add_left _ _)
 | succ k=>
   have hw:=word k (.cons JX [59,32] (.cons (qC k) e rs)) b (.cons tI (by decide) (.cons (fS k) he (hrs.map fun s h=>PD.le (by exact Nat.le_add_left _ _) h)))
   have e1:vB [114,32,91,114,32,98] (k+1)++(e++(QA rs).flatten)=114::32::97::32::91::(QA (.cons JX [59,32] (.cons (qC k) e rs))).flatten:=by
    simp[QA.r1,QA.r2,GH,gS,vB.r1,vB.r2]
   rw[e1]at hk
   exact(OP (d:=4*k+8) P hk (.of _ (by decide)) (.err hw)).up (by simp+arith only)
theorem xX(P:Prog g){p:List Nat×List Nat}{e:List Nat}{rs:Rows}(hp:p∈wB)(he:e∈XD)(hrs:iD true rs)(hk:UB s (vB p.1 k++(e++(QA rs).flatten))):eE g T (4*k+17) b s (.err p.2):=by
 by_cases h2:p.1=[114,32,91,114,32,98]
 ·have:p.2=[109,105,115,115,105,110,103,32,99,108,111,115,101,45,98,114,97,99,107,101,116]:=by revert hp h2;clear hk;revert p;decide
  rw[h2]at hk
  rw[this]
  exact wX P he hrs.good.1 k hk
 ·exact(zR P (why:=p.2) hp h2 k (Sx.ender he (Sx.rows hrs)) hk).up (by simp+arith only)
end
section
variable{g:G}{d:Nat}{hd:Option Nat}{J LA BD:List O}{T:List Nat}{lg dl:Nat}
theorem rS(n:Nat)(c l:Int)(v i:List Nat)(ss:List (List Nat)):toD J (n+2) (.tup [.int c, .str v, .tup (ss.map .str), .int l, .str i])=some (.tuple [.int c, .str ⟨v.toArray⟩, .tuple (ss.map fun s=>PyData.str ⟨s.toArray⟩), .int l, .str ⟨i.toArray⟩]):=by
 simp[cQ,wN,sS,eI,XR,oH]
theorem IH:∀xs:List PyData,(∀x∈xs,PyData.eqv x x=true)->PyData.eqvAll xs xs=true
 | [],_=>rfl
 | x::xs,h=>by rw[PyData.eqvAll,h x (by simp),IH xs fun y q=>h y (by simp[q])];rfl
theorem UP(ss:List (List Nat)):PyData.eqv (.tuple (ss.map fun s=>PyData.str ⟨s.toArray⟩)) (.tuple (ss.map fun s=>PyData.str ⟨s.toArray⟩))=true:=by
 rw[PyData.eqv]
 refine IH _ fun x q=>?_
 obtain⟨s,_,rfl⟩:=List.mem_map.mp q
 simp[PyData.eqv]
theorem Od{c l:Int}{v i:List Nat}{ss:List (List Nat)}:VL J .Eq (.tup [.int c, .str v, .tup (ss.map .str), .int l, .str i]) (.tup [.int c, .str v, .tup (ss.map .str), .int l, .str i])=some true:=by
 rw[sQ,qJ (rS 78 ..) (rS 6 ..)]
 refine congrArg some ?_
 rw[PyData.eqv]
 simp only[PyData.eqvAll,UP]
 simp[PyData.eqv]
theorem yJ(n:Nat):∀L:tC,iG J (n+1) (L.map wD)=some (L.map fun ws=>PyData.tuple (ws.map fun s=>PyData.str ⟨s.toArray⟩))
 | []=>rfl
 | w::r=>by simp only[List.map_cons,eI,yJ n r,wD,cQ,oH,Option.map]
theorem Pd{L:tC}(h1:J[lg]?=some (.list (L.map wD)))(h2:J[dl]?=some (.list (L.map wD))):VL J .Eq (.loc lg) (.loc dl)=some true:=by
 rw[sQ,qJ ((aM (n:=79) h1).trans (congrArg (Option.map _) (yJ 78 L))) ((aM (n:=7) h2).trans (congrArg (Option.map _) (yJ 6 L)))]
 refine congrArg some ?_
 rw[PyData.eqv]
 refine IH _ fun x q=>?_
 obtain⟨s,_,rfl⟩:=List.mem_map.mp q
 exact UP s
noncomputable def nQ(g:G)(lg Dr:Nat)(T:List Nat)(p:PO×tC):Prop:=∀(L:HL) (hs:uH),L.cmds=kC lg->xO hs->hs.depth=0->∃j,rK g (lF L lg) L.h Dr T (hs,[]) (iE L lg hs [] p j)
noncomputable def x1(m:Nat):uH:=⟨0,0,[⟨[118],m+1,m,m+2,true,[118,97,32,108],1⟩],false⟩
theorem Ee{n m lg:Nat}{c:List (List Nat×V)}{L:tC}(hm:n<=m):∀l,l < n->l≠lg->¬(lF (Lc n c) lg).own (x1 m,L) l:=by
 rintro l h h' ((e | e | e | e | e | ⟨v,hv,e | e⟩) | e)
 ·exact absurd e (Nat.ne_of_lt (Nat.lt_of_lt_of_le h (Nat.le_succ _)))
 ·exact absurd e (Nat.ne_of_lt h)
 ·exact absurd e (Nat.ne_of_lt (Nat.lt_of_lt_of_le h (Nat.le_add_right _ 2)))
 ·exact absurd e (Nat.ne_of_lt (Nat.lt_of_lt_of_le h (Nat.le_add_right _ 4)))
 ·exact absurd e (Nat.ne_of_lt (Nat.lt_of_lt_of_le h (Nat.le_add_right _ 5)))
 ·cases List.mem_singleton.mp hv;exact absurd e (Nat.ne_of_lt (Nat.lt_of_lt_of_le h (Nat.le_succ_of_le hm)))
 ·cases List.mem_singleton.mp hv;exact absurd e (Nat.ne_of_lt (Nat.lt_of_lt_of_le h hm))
 ·exact h' e
theorem za{n lg:Nat}{L:tC}{l:Nat}(hl:l≠lg)(h:l < n\/l=n+3\/l=n+6):¬(lF (CN n) lg).own (⟨0,0,[],false⟩,L) l:=by
 rintro ((e | e | e | e | e | ⟨v,hv,_⟩) | e)
 ·have e:l=n+1:=e
  lia
 ·have e:l=n:=e
  lia
 ·have e:l=n+2:=e
  lia
 ·have e:l=n+4:=e
  lia
 ·have e:l=n+5:=e
  lia
 ·exact nomatch hv
 ·exact hl e
theorem JV{o:PO}(hp:JQ o):∃(c l:Int) (v i:List Nat) (ss:List (List Nat)),uQ o= .tup [.int c, .str v, .tup (ss.map .str), .int l, .str i]:=by
 induction o using PO.casesOn with
 | ok v=>exact⟨0,0,v,[],[],rfl⟩
 | err f=>
   obtain⟨ss,hss⟩:=hp.1.ec
   by_cases h:f.code=1
   ·exact⟨_,_,_,_,ss,(if_neg fun q=>q h).trans (by rw[hss])⟩
   ·exact⟨_,_,_,_,ss,(if_pos h).trans (by rw[hss])⟩
theorem Oa{f:lI}(hp:JQ (.err f)):uQ (.err f)= .tup [.int f.code, .str f.value,f.ec, .int (sM f).line, .str (sM f).info]:=by
 by_cases hc:f.code=1
 ·refine(if_neg fun q=>q hc).trans ?_
  simp only[sM];rw[if_pos hc,if_pos hc]
 ·refine(if_pos hc).trans ?_
  simp only[sM];rw[if_neg hc,if_neg hc,hp.1.inf hc]
noncomputable def Ig:pE:=zA.body.tl.tl.tl.tl.tl.tl.tl.tl.tl
noncomputable def YZ:pE:=zA.body.tl.tl.tl.tl
theorem VW(P:qG g){K:bF->List O->Prop}{n m:Nat}{b:Bool}{L:tC}{dv:V}{x0 x1' x2 x4 x5 x8 x9 x10 x11 x14 x15 x16 x17 x18 x19 x20:Option V}{c l:Int}{v i:List Nat}{ss:List (List Nat)}{CP:List O}(hdv:dv= .tup [.int c, .str v, .tup (ss.map .str), .int l, .str i])(W5:(lF (Lc n (kC lg)) lg).W (xD (Lc n (kC lg)) lg (x1 m) [] L b) CP)(h2:CP[dl]?=some (.list (L.map wD)))
 (f:dB g (d+6) none Ig [x0,x1',x2,some (.loc (n+1)),x4,x5,some (.loc lg),some (.loc dl),x8,x9,x10,x11,some dv,some dv,x14,x15,x16,x17,x18,x19,x20] CP (cF K) (JF K)) (h:∀LA,IB (lF (Lc n (kC lg)) lg) (xD (Lc n (kC lg)) lg (x1 m) [] L b) CP (xD (Lc n (kC lg)) lg (x1 m) [] L b) LA->K (.ok (.bool true)) LA->False):False:=by
 subst hdv
 have e1:CP[lg]?=some (.list (L.map wD)):=W5.2.1
 exact f _ Od true rfl _ (Pd e1 h2) true rfl _ (FD W5.1 rfl (v:= .int ((0+L.length:Nat):Int)) rfl rfl) _ _ (nG e1) true (by rw[List.length_map,Nat.zero_add];exact decide_eq_true rfl) _ (FD W5.1 rfl (v:= .int 0) rfl rfl) true rfl _ W5.1.at'.obj _ W5.1.at'.ad (W5.1.at'.no _ rfl) _
  (iS (d:=d+3) (L:=Lc n (kC lg)) (x:=zE lg) (hs:={x1 m with spent:=0+L.length,junk:=b}) (xs:=[]++L) P.toProg (nm:=[118]) rfl rfl W5) fun GX a6 p=>h GX a6 p
theorem QR(P:qG g){K:bF->List O->Prop}{Dr:Nat}{p:PO×tC}{dv:V}{x0 x1' x2 x5 x8 x9 x10 x14 x15 x16 x17 x18 x19 x20:Option V}(hD:Dr<=d+6)(h1:J[lg]?=some (.list []))(h2:J[dl]?=some (.list (p.2.map wD)))(hne:dl≠lg)(hrun:nQ g lg Dr T p)(hp:JQ p.1)(hdv:dv=uQ p.1)
 (f:dB g (d+6) none YZ [x0,x1',x2,none,none,x5,some (.loc lg),some (.loc dl),x8,x9,x10,some (.str T),some dv,none,x14,x15,x16,x17,x18,x19,x20] J (cF K) (JF K)) (e:∀LA,qH lg J LA->K (.ok (.bool true)) LA->False):False:=by
 have hlg:=(List.getElem?_eq_some_iff.mp h1).1
 have hdl:=(List.getElem?_eq_some_iff.mp h2).1
 refine f _ ((OR (d:=d) P.toProg).up (by simp+arith only)) fun XE ⟨e1,e2,e3,e4,e5,q⟩ f=>?_
 subst q
 refine f _ ((jb (d:=d) P.toProg (XE:=J)).up (by simp+arith only)) fun gB ⟨q1,q2,q3,q4⟩ f=>?_
 have H1:(lF (CN J.length) lg).W (⟨0,0,[],false⟩,[]) gB:=⟨q3,(q2 lg hlg).trans h1,Nat.zero_le _⟩
 refine f _ q3.at'.obj _ q3.at'.ad (q3.at'.no _ rfl) _ (CX (d:=d) P.toProg (L:=CN J.length) (x:=zE lg) (hs:=⟨0,0,[],false⟩) (xs:=[]) (nm:=[118]) (val:=[118,97,32,108]) H1 (fun u0 m=>nomatch m) rfl (Nat.zero_le _)) fun aB a2 f=>?_
 refine f _ a2.ok.1.at'.obj _ a2.ok.1.at'.ad (a2.ok.1.at'.no _ rfl) rfl (Nat.le_of_ble_eq_true rfl) fun ep f=>?_
 have hn1:J.length+7<=aB.length:=by have:=a2.len;exact Nat.le_trans (eR q1) this
 have a3:=a2.push [O.dict (kC lg) ep]
 have hF:fR (CN J.length) [] (aB++[O.dict (kC lg) ep]):=by
  obtain⟨⟨ep1,f1⟩,ep2,f2⟩:=q4
  exact⟨⟨ep1,(a3.keep (J.length+3) (by exact BB (eR q1)) (za (by exact Nat.ne_of_gt (BB hlg)) (.inr (.inl rfl)))).trans f1⟩,ep2,(a3.keep (J.length+6) (by exact BB (eR q1)) (za (by exact Nat.ne_of_gt (BB hlg)) (.inr (.inr rfl)))).trans f2⟩
 refine f _ ((vZ (d:=d) P.toProg (n:=J.length) (gl:=aB.length) (gs:=[([114],765, .loc lg),([98,111,111,109],765, .loc lg),([115,116,111,112],765, .loc lg),([116,111,108,100],765, .loc lg)]) a3.ok.1 hF (AA ..) ⟨by exact Nat.ne_of_gt (BB hn1),by exact Nat.ne_of_gt (BB hn1)⟩ (of_decide_eq_true rfl) (Nat.le_of_ble_eq_true rfl)).up (by simp+arith only)) fun eJ A4 f=>?_
 have l4:=A4.len
 have k1:∀l,l < J.length->l≠lg->eJ[l]?=J[l]?:=fun l h h'=>(A4.keep l (by exact Nat.ne_of_lt (BB h)) (by exact Nat.ne_of_lt (BB h))).trans ((a3.keep l (by exact LB h (eR q1)) (za h' (.inl h))).trans (q2 l h))
 have W4:(lF (Lc J.length (kC lg)) lg).W (x1 gB.length,[]) eJ:=⟨A4.w,(A4.keep lg (by exact Nat.ne_of_lt (BB hlg)) (by exact Nat.ne_of_lt (BB hlg))).trans a3.ok.2.1,Nat.zero_le _⟩
 have hl4:J.length<=eJ.length:=by rw[l4];simp;exact BB hn1
 obtain⟨j,hj⟩:=hrun (Lc J.length (kC lg)) (x1 gB.length) rfl ⟨rfl,⟨_,rfl,rfl,rfl⟩,fun x m=>by rw[List.mem_singleton.mp m];exact fun q=>absurd (List.cons.inj q).1 (by decide),Nat.le_of_ble_eq_true rfl⟩ rfl
 have hm:J.length<=gB.length:=by exact(nD (eR q1))
 have en:∀{CP GX:List O},IB (lF (Lc J.length (kC lg)) lg) (x1 gB.length,[]) eJ (xD (Lc J.length (kC lg)) lg (x1 gB.length) [] p.2 j) CP->IB (lF (Lc J.length (kC lg)) lg) (xD (Lc J.length (kC lg)) lg (x1 gB.length) [] p.2 j) CP (xD (Lc J.length (kC lg)) lg (x1 gB.length) [] p.2 j) GX->K (.ok (.bool true)) GX->False:=fun {CP GX} a5 a6 k=>
  e GX ⟨Nat.le_trans hl4 (a5.trans a6).len,fun l h h'=>((a5.trans a6).keep l (by exact Nat.lt_of_lt_of_le h hl4) (Ee hm l h h')).trans (k1 l h h')⟩ k
 have e2:∀{CP:List O},IB (lF (Lc J.length (kC lg)) lg) (x1 gB.length,[]) eJ (xD (Lc J.length (kC lg)) lg (x1 gB.length) [] p.2 j) CP->CP[dl]?=some (.list (p.2.map wD)):=fun a5=>(a5.keep dl (by exact Nat.lt_of_lt_of_le hdl hl4) (Ee hm dl hdl hne)).trans ((k1 dl hdl hne).trans h2)
 obtain⟨c,l,v,i,ss,hdue⟩:=JV hp
 unfold iE at hj
 have f:=f _ ((hj W4).up hD)
 rcases hp1:p.1 with v | fl
 ·rw[hp1]at f hdue hdv
  subst hdv
  exact f fun CP a5 f=>VW P hdue a5.ok (e2 a5) f fun GX a6 k=>en a5 a6 k
 ·rw[hp1]at f hdue hdv hp
  refine f fun l CP ⟨a5,dl',xl,_,_,_,m1,m2⟩ f=>?_
  obtain⟨ss',hss⟩:=hp.1.ec
  rw[Oa hp]at hdue hdv
  subst hdv
  exact VW P hdue a5.ok (e2 a5) (f _ m1.at' _ (CD m1.at' m2.at' rfl rfl rfl) _ (CD m1.at' m2.at' rfl rfl rfl) _ (CD m1.at' m2.at' rfl rfl (by show aG fl.ec=true;rw[hss];rfl)) _ (CD m1.at' m2.at' rfl rfl rfl) _ (CD m1.at' m2.at' rfl rfl rfl)) fun GX a6 k=>en a5 a6 k
end
section
variable{g:G}{d:Nat}{hd:Option Nat}{J LA BD:List O}{QB1:Bool->Prop}{R:bF->List O->Prop}{bad:Nat->Prop}{pl lg:Nat}{sf:Bool}{F:Sc->Prop}{n:Nat}{T:List Nat}{q:Bool}
theorem iQ.dep{m:List Nat}{ps:aF}(h:iQ (fun s=>qM s<=n) m ps):WD ps<=n:=by
 cases h with
 | lit _=>simp[WD.r1,WD.r2,AH.r1,AH.r2,AH.r3]
 | run h=>simp only[WD.r1,WD.r2,AH.r1,AH.r2,AH.r3];lia
 | uns=>simp[WD.r1,WD.r2,AH.r1,AH.r2,AH.r3]
 | quo h=>simp only[WD.r1,WD.r2,AH.r1,AH.r2,AH.r3];lia
 | aro _ h=>simp only[WD.r1,WD.r2,AH.r1,AH.r2,AH.r3];lia
theorem iK.dep{ws:mF}(h:iK (fun s=>qM s<=n) ws):HH ws<=n:=by
 induction h with
 | nil=>exact Nat.zero_le _
 | cons h _ ih=>have:=h.dep;simp only[HH.r1,HH.r2];lia
theorem oB.dep{rows:Rows}(h:oB q (fun s=>qM s<=n) rows):SD rows<=n:=by
 induction h with
 | nil=>exact Nat.zero_le _
 | last _ h _=>cases h with | mk _ _ h=>have:=h.dep;simp only[SD.r1,SD.r2,qX.r1];lia
 | cons h _ _ ih=>cases h with | mk _ _ h=>have:=h.dep;simp only[SD.r1,SD.r2,qX.r1];lia
theorem PD.dep:∀(n:Nat) (s:Sc),PD n s->qM s<=n
 | 0,s,h=>h.elim
 | n+1, .mk h rows,q=>by
   have:=(q.2.map fun s k=>PD.dep n s k).dep
   simp only[qM.r1];exact(BB this)
theorem ER:∃v L,wG DE=(.ok v,L):=⟨_,_,by simp[DE,wG.r1,tA.r1,tA.r2,vJ.r1,jB.r1,jB.r2,KA.r1,KA.r2,KA.r3,KA.r4,VD];exact⟨rfl,rfl⟩⟩
theorem XU{w:Nat}(h:w < 10):∃v L,KA (rM w) []=(.ok v,L):=by
 obtain⟨v,L,e⟩:=ER
 have:w=0\/w=1\/w=2\/w=3\/w=4\/w=5\/w=6\/w=7\/w=8\/w=9:=(show ∀w:Nat,w < 10->(w=0\/w=1\/w=2\/w=3\/w=4\/w=5\/w=6\/w=7\/w=8\/w=9) by decide) w h
 rcases this with rfl | rfl | rfl | rfl | rfl | rfl | rfl | rfl | rfl | rfl <;>exact⟨_,_,by first | rfl | (simp[rM,KA.r1,KA.r2,KA.r3,KA.r4,e];exact⟨rfl,rfl⟩)⟩
theorem lM:∀{ws:List Nat},(∀w∈ws,LX sf w)->∀acc,∃v L,jB (kB ws) acc=(.ok v,L)
 | [],_,acc=>⟨acc,[],by simp only[kB.r1,kB.r2,jB.r1,jB.r2]⟩
 | w::r,h,acc=>by
   obtain⟨v,L,e⟩:=XU (h w (by simp)).1
   obtain⟨v2,L2,e2⟩:=lM (ws:=r) (fun x q=>h x (by simp[q])) (acc++[v])
   exact⟨v2,L++L2,by simp[kB.r1,kB.r2,jB.r1,jB.r2,e,e2]⟩
theorem iD.play{rows:Rows}(h:iD sf rows):∀A v,∃v' L,tA rows A v=(.ok v',L):=by
 induction h with
 | nil=>intro A v;exact⟨v,[],by simp[tA.r1,tA.r2]⟩
 | @cons ws gap e r h1 h2 h3 h4 _ ih=>
   intro A v
   obtain⟨ts,L,e1⟩:=lM h1 []
   have e2:vJ (rH ws gap)=(.ok ([60]++iA [44] ts++[62]),L++[[114]::ts]):=by simp[rH,vJ.r1,e1,VD]
   obtain⟨v3,L3,e3⟩:=ih (A++CE (rH ws gap)++e) ([60]++iA [44] ts++[62])
   exact⟨v3,_,by simp only[tA.r1,tA.r2,e2,e3];rfl⟩
theorem BM{K:List Nat->List Nat->PO×tC}:∀{r:Rows} {A v v':List Nat} {L:tC},tA r A v=(.ok v',L)->dC r K A v=((K (A++(QA r).flatten) v').1,L++(K (A++(QA r).flatten) v').2)
 | .nil,A,v,v',L,h=>by simp only[tA.r1,tA.r2]at h;cases h;simp[dC.r1,dC.r2,QA.r1,QA.r2]
 | .cons c e r,A,v,v',L,h=>by
   simp only[tA.r1,tA.r2,dC.r1,dC.r2,PR]at h ⊢
   revert h
   match vJ c with
   | (.err f,L1)=>intro h;cases h
   | (.ok v1,L1)=>
     intro h
     simp only at h ⊢
     have h2:tA r (A++CE c++e) v1=(.ok v',(tA r (A++CE c++e) v1).2):=by
      have e9:(tA r (A++CE c++e) v1).1=PO.ok v':=(Prod.mk.inj h).1
      rw[<-e9]
     have e2:=(Prod.mk.inj h).2
     rw[BM (K:=K) h2]
     simp[QA.r1,QA.r2, <-e2]
theorem TR(P:qG g){s:Sc}(hs:PD 4 s)(hz:NC s<=20000):nQ g lg 21 (gD s) (wG s):=by
 intro L hs' hcm hok hd
 obtain⟨j,_,h⟩:=RM (ll:=lg) P hcm 4 s hs (fun u0 u0=>trivial) hs' [] hok (by exact BB (eL hd)) (by simp;exact TD hz) hz
 exact⟨j,h⟩
noncomputable def YD(why A src:List Nat):lI:=⟨1,why,ND,1+(A.count 10:Int),[],[src]⟩
theorem jT(P:qG g){h e:List Nat}{rows rs:Rows}{p:List Nat×List Nat}{k:Nat}{v:List Nat}{L0:tC}(hh:h∈RG)(hr:iD false rows)(hp:p∈wB)(he:e∈XD)(hrs:iD true rs)(hk:k<=2)(hpl:wG (.mk h rows)=(.ok v,L0))(hz:NC (.mk h rows)<=20000)(hz2:WA rs<=20000)(hel:e.length<=20):
 nQ g lg 29 (gD (.mk h rows)++(vB p.1 k++(e++(QA rs).flatten))) (.err (YD p.2 (gD (.mk h rows)) (vB p.1 k++(e++(QA rs).flatten))),L0):=by
 intro L hs hcm hok hd
 obtain⟨raw,why⟩:=p
 obtain⟨r0,hr0⟩:=JM hp k
 have hY:CS (vB raw k++(e++(QA rs).flatten)):=by rw[hr0];exact YT
 have hE:∀s,PD 5 s->sY g L lg 5 (4*5+6) s:=by
  intro s hg hs log hh hd hl hsz
  obtain⟨j,hj,hr⟩:=RM (ll:=lg) P hcm 5 s hg (fun u0 u0=>trivial) {hs with depth:=hs.depth+1} log ⟨hh.junk,hh.v,hh.u,hh.small⟩ (by simp only;exact BB hd) hl hsz
  refine⟨j,hj,?_⟩
  unfold iE at hr ⊢
  rcases hp:(wG s).1 with v | f
  ·rw[hp]at hr
   exact nO (d:=4*5+4) (L:=L) (x:=zE lg) (hs:=hs) (xs:=log) P.toProg (by exact BB hd) hr rfl
  ·rw[hp]at hr
   exact nO (d:=4*5+4) (L:=L) (x:=zE lg) (hs:=hs) (xs:=log) P.toProg (by exact BB hd) hr rfl
 have hwl:=AK (.mk h rows)
 have hwr:=cJ rs
 have hrl:(vB raw k).length<=50:=by
  rw[VJ]
  have:∀p∈wB,p.1.length<=10:=by decide
  have:=this _ hp
  simp only at this;lia
 have hTl:(gD (.mk h rows)++(vB raw k++(e++(QA rs).flatten))).length<=100000:=by
  simp only[List.length_append];lia
 have hwhy:why.length<=100:=by
  have:∀p∈wB,p.2.length<=100:=by decide
  exact this _ hp
 have hg:oB false (PD 5) rows:=hr.good.1.map fun s h=>PD.le (by exact Nat.le_add_left _ _) h
 simp only[NC.r1]at hz
 have:=kS (T:=gD (.mk h rows)++(vB raw k++(e++(QA rs).flatten))) (K:=fun A u0=>(.err (YD why A (vB raw k++(e++(QA rs).flatten))),[])) P hcm hE (q:=false) (Y:=vB raw k++(e++(QA rs).flatten)) (fun q=>by cases q) hY ?_ hg h hs [] (gD (.mk h rows)++(vB raw k++(e++(QA rs).flatten))) [] (by simp[gD.r1]) (by have:=rJ hh (dG hg hY);simpa[gD.r1]using this) hok (by exact BB (eL hd)) (by simp;exact TD (AP (nD hz))) (by exact(AP (nD hz)))
 ·obtain⟨c,j,h1,h2,h3⟩:=this
  have e1:=BM (K:=fun A u0=>(.err (YD why A (vB raw k++(e++(QA rs).flatten))),[])) (r:=rows) (A:=h) (v:=[]) (v':=v) (L:=L0) (by simpa only[wG.r1]using hpl)
  refine⟨j,?_⟩
  rw[e1]at h3
  have:=rN (d:=4*5+4) P.toProg MH hTl h1 h3
  simpa[gD.r1]using this
 ·intro A hs log z res hT hk hh hd hl
  refine⟨_,false,(xX P.toProg hp he hrs hk).up (by lia),fun v q=>(by cases q),?_⟩
  have e0:xD L lg hs log [] false=(hs,log):=(yD hh []).trans (by rw[List.append_nil];rfl)
  have hb:=tR (f:=⟨1,why,ND,0,[],[]⟩) ⟨fun u0=>rfl,fun q=>absurd rfl q,fun u0=>rfl,[[78,79,78,69]],rfl⟩ A (vB raw k++(e++(QA rs).flatten)) (vB raw k++(e++(QA rs).flatten))
  have e2:sM ⟨1,why,ND,0,[],[]⟩=WH why ND:=rfl
  have e3:FC ⟨1,why,ND,0,[],[]⟩ A (vB raw k++(e++(QA rs).flatten))=YD why A (vB raw k++(e++(QA rs).flatten)):=rfl
  rw[e2,e3, <-hT]at hb
  have:=JG.parseE (T:=gD (.mk h rows)++(vB raw k++(e++(QA rs).flatten))) (g:=g) (w:=lF L lg) (h:=L.h) (d:=4*5+8) (res:=res) (st:=(hs,log)) (why:=why) hk (by exact TD hwhy)
  rw[hb]at this
  simp only[iE,Ce,e0]
  exact this
end
section
variable{g:G}{d:Nat}{hd:Option Nat}{J LA BD:List O}{Z:List (Option V)}{QV:V->List O->Prop}{QV1:V->Prop}{QB1:Bool->Prop}{R:bF->List O->Prop}{bad:Nat->Prop}{pl lg:Nat}{sf:Bool}{F:Sc->Prop}{n:Nat}{T:List Nat}{q:Bool}
theorem HE(n:Nat)(s:List Nat):toD J n (.str s)=some (.str ⟨s.toArray⟩):=wN
theorem GB{n:Nat}{v:V}{vs:List V}(h1:(toD J n v).isSome)(h2:(iG J n vs).isSome):(iG J n (v::vs)).isSome:=by
 obtain⟨x,e1⟩:=Option.isSome_iff_exists.mp h1
 obtain⟨y,e2⟩:=Option.isSome_iff_exists.mp h2
 simp[eI,e1,e2]
theorem hG{n:Nat}{vs:List V}(h:(iG J n vs).isSome):(toD J (n+1) (.tup vs)).isSome:=by simpa[cQ]using h
theorem sO{n l:Nat}{vs:List V}(hl:J[l]?=some (.list vs))(h:(iG J n vs).isSome):(toD J (n+1) (.loc l)).isSome:=by rw[aM hl];simpa using h
theorem HD{n:Nat}:(iG J n []).isSome:=rfl
mutual
theorem fA.toD:∀(v:V) (p:Pc),fA bad J v p->∀n,8*AH p<=n->(toD J (n+1) v).isSome
 | v, .text a b,h,n,hn=>by simp only[fA.r1,fA.r2,fA.r3]at h;subst h;exact hG (GB (by rw[HE];rfl) (GB (by rw[HE];rfl) (GB (by rw[HE];rfl) HD)))
 | v, .run s,h,n,hn=>by
   simp only[fA.r1,fA.r2,fA.r3]at h;obtain⟨x,rfl,h⟩:=h
   simp only[AH.r1,AH.r2,AH.r3]at hn
   exact hG (GB (by rw[HE];rfl) (GB (yB.toD x s h n hn) HD))
 | v, .unset,h,n,hn=>by simp only[fA.r1,fA.r2,fA.r3]at h;subst h;exact hG (GB (by rw[HE];rfl) HD)
theorem YA.toD:∀(vs:List V) (p:aF),YA bad J vs p->∀n,8*WD p<=n->(iG J (n+1) vs).isSome
 | vs, .nil,h,n,hn=>by simp only[YA.r1,YA.r2]at h;subst h;exact HD
 | vs, .cons p r,h,n,hn=>by
   simp only[YA.r1,YA.r2]at h;obtain⟨v,ws,rfl,h1,h2⟩:=h
   simp only[WD.r1,WD.r2]at hn
   exact GB (fA.toD v p h1 n (by exact Eg hn)) (YA.toD ws r h2 n (by exact Fg hn))
theorem ZA.toD:∀(vs:List V) (p:mF),ZA bad J vs p->∀n,8*HH p<=n->(iG J (n+3) vs).isSome
 | vs, .nil,h,n,hn=>by simp only[ZA.r1,ZA.r2]at h;subst h;exact HD
 | vs, .cons m ps r,h,n,hn=>by
   simp only[ZA.r1,ZA.r2]at h;obtain⟨l,ws,us,rfl,h1,_,h2,h3⟩:=h
   simp only[HH.r1,HH.r2]at hn
   exact GB (hG (GB (by rw[HE];rfl) (GB (sO h1 (YA.toD us ps h2 n (by exact Eg hn))) HD))) (ZA.toD ws r h3 n (by exact Fg hn))
theorem yA.toD:∀(v:V) (p:Cm),yA bad J v p->∀n,8*qX p<=n->(toD J (n+5) v).isSome
 | v, .mk nm ws gap,h,n,hn=>by
   simp only[yA.r1]at h;obtain⟨l,us,rfl,h1,_,h2⟩:=h
   simp only[qX.r1]at hn
   exact hG (GB (by rw[HE];rfl) (GB (sO h1 (ZA.toD us ws h2 n hn)) (GB (by rw[HE];rfl) HD)))
theorem EA.toD:∀(vs:List V) (p:Rows),EA bad J vs p->∀n,8*SD p<=n->(iG J (n+6) vs).isSome
 | vs, .nil,h,n,hn=>by simp only[EA.r1,EA.r2]at h;subst h;exact HD
 | vs, .cons c e r,h,n,hn=>by
   simp only[EA.r1,EA.r2]at h;obtain⟨v,ws,rfl,h1,h2⟩:=h
   simp only[SD.r1,SD.r2]at hn
   exact GB (hG (GB (yA.toD v c h1 n (by exact Eg hn)) (GB (by rw[HE];rfl) HD))) (EA.toD ws r h2 n (by exact Fg hn))
theorem yB.toD:∀(v:V) (p:Sc),yB bad J v p->∀n,8*qM p<=n->(toD J n v).isSome
 | v, .mk h rows,q,n,hn=>by
   simp only[yB.r1]at q;obtain⟨l,us,rfl,h1,_,h2⟩:=q
   simp only[qM.r1]at hn
   obtain⟨m,rfl⟩:∃m,n=m+8:=⟨n - 8,by lia⟩
   exact hG (GB (by rw[HE];rfl) (GB (sO h1 (EA.toD us rows h2 m (by exact BB hn))) HD))
end
theorem ta{l k:Nat}{us:List V}{rows:Rows}(hl:J[l]?=some (.list us))(hr:EA bad J us rows)(hd:SD rows<=9)(hk:J[k]?=some (.list [])):VL J .NotEq (.loc l) (.loc k)=some (decide (us≠[])):=by
 obtain⟨xs,e⟩:=Option.isSome_iff_exists.mp (EA.toD us rows hr 73 (by lia))
 rw[Ha,qJ ((aM (n:=79) hl).trans (congrArg (Option.map _) e)) ((aM (n:=7) hk).trans (congrArg (Option.map _) XR)),xI]
 induction us using List.casesOn with
 | nil=>cases (show some []=some xs from e);simp
 | cons v vs=>
   rw[eI]at e
   induction e1:toD J 79 v using Option.casesOn with
   | none=>rw[e1]at e;cases e
   | some d=>induction e2:iG J 79 vs using Option.casesOn with
     | none=>rw[e1,e2]at e;cases e
     | some ds=>rw[e1,e2]at e;cases (show some _=some xs from e);simp
noncomputable def Rows.isNil:Rows->Bool
 | .nil=>true
 | .cons _ _ _=>false
theorem Rows.last{rows:Rows}(h:oB false F rows):rows≠ .nil->∃r c e,rows=r.app (.cons c e .nil)/\oB false F r/\pM F c:=by
 set_option tactic.hygienic true in induction h with
 | nil=>exact fun h=>absurd rfl h
 | last q=>cases q
 | cons h1 h2 h3 ih=>
   rename_i c e r
   intro _
   induction r using Rows.casesOn with
   | nil=>exact⟨.nil,c,e,rfl, .nil,h1⟩
   | cons c2 e2 r=>
     obtain⟨r',c',e',q1,q2,q3⟩:=ih fun k=>Bool.noConfusion (congrArg Rows.isNil k)
     exact⟨.cons c e r',c',e',by(first | rw[Rows.app.r1,q1] | rw[Rows.app.r2,q1]), .cons h1 h2 q2,q3⟩
theorem EA.split:∀{r s:Rows} {us:List V},EA bad J us (r.app s)->∃u1 u2,us=u1++u2/\EA bad J u1 r/\EA bad J u2 s
 | .nil,s,us,h=>⟨[],us,rfl,by simp[EA.r1,EA.r2],h⟩
 | .cons c e r,s,us,h=>by
   simp only[Rows.app.r1,Rows.app.r2,EA.r1,EA.r2]at h
   obtain⟨v,ws,rfl,h1,h2⟩:=h
   obtain⟨u1,u2,rfl,h3,h4⟩:=EA.split h2
   exact⟨.tup [v, .str e]::u1,u2,rfl,by simp only[EA.r1,EA.r2];exact⟨v,u1,rfl,h1,h3⟩,h4⟩
theorem TQ{l:Nat}{xs:List V}{x v:V}(hl:J[l]?=some (.list (xs++[x]))):jE J (.loc l) (.int (-1)) v (· =J.set l (.list (xs++[v]))):=by
 refine⟨xs++[x],XA hl,?_⟩
 rw[if_neg (by decide)]
 exact⟨by simp;lia,by rw[show((-1:Int)+((xs++[x]).length:Int)).toNat=xs.length by simp;lia,show(xs++[x]).set xs.length v=xs++[v] by simp]⟩
theorem oU{xs:List V}{x:V}:jQ (xs++[x]) (-1)=some x:=by
 simp only[jQ]
 rw[if_neg (by decide),if_pos (by simp;lia),show((-1:Int)+((xs++[x]).length:Int)).toNat=xs.length by simp;lia]
 simp
noncomputable def KH:List (List Nat):=[[],[10],[35,32,104,32,123,10],[32,59,9]]
theorem qF{h:List Nat}(q:h∈KH):h∈RG/\h.length<=10:=by revert q;revert h;decide
noncomputable def ZO:List (List Nat):=[[],[59],[10],[32]]
theorem vT{e:List Nat}(q:e∈ZO):(e∈XD\/(e=[]\/e=[32]))/\e.length<=10:=by revert q;revert e;decide
theorem QI:∀js:List Int,UG (js.map V.int)=some js
 | []=>rfl
 | j::js=>by show(UG (js.map V.int)).map _=_;rw[QI js];rfl
theorem Dg{l:Nat}{a:Int}{ss:List Int}(hl:J[l]?=some (.list (ss.map .int))):yP J (.int a) (.loc l)=some (ss.contains a):=by
 show(CB J l).bind _=_;rw[XA hl];show(UG _).map _=_;rw[QI];rfl
end
noncomputable def IS.th:IS->pE
 | .ite _ a _=>a
 | _=> .nil
noncomputable def IS.el:IS->pE
 | .ite _ _ b=>b
 | _=> .nil
section
variable{g:G}{d:Nat}{hd:Option Nat}{J LA BD:List O}{bad:Nat->Prop}{pl lg:Nat}{sf:Bool}{F:Sc->Prop}{n:Nat}{T:List Nat}{q:Bool}
noncomputable def Ah:pE:=zA.body.tl.tl.tl.fst.th
noncomputable def Pg:pE:=zA.body.tl.tl.tl.fst.el.tl
noncomputable def mf:pE:=Pg.tl.tl
structure Rt(pl lg:Nat)(XE J:List O):Prop where
 drn:zG pl XE J
 log:J[lg]?=some (.list [])
 due:J[lg+1]?=some (.list [])
 le:XE.length<=lg
 ne:pl < lg
theorem Rt.step(h:Rt pl lg J LA)(k:zG pl LA BD):Rt pl lg J BD:=⟨h.drn.trans k,k.chg.get h.log (Nat.ne_of_gt h.ne),k.chg.get h.due (by have:=h.ne;exact Nat.ne_of_gt (BB this)),h.le,h.ne⟩
theorem Rt.app(h:Rt pl lg J LA)(j:List O):Rt pl lg J (LA++j):=h.step ((zG.start h.drn.pen).app j)
theorem Rt.set{l:Nat}(h:Rt pl lg J LA)(x:O)(h1:J.length<=l)(h2:l≠pl)(h3:l≠lg)(h4:l≠lg+1):Rt pl lg J (LA.set l x):=⟨h.drn.set x h1 h2,(List.getElem?_set_ne h3).trans h.log,(List.getElem?_set_ne h4).trans h.due,h.le,h.ne⟩
theorem Rt.lt(h:Rt pl lg J LA):lg+1 < LA.length:=(List.getElem?_eq_some_iff.mp h.due).1
structure Rw(pl lg:Nat)(rl:Nat)(us:List V)(rows:Rows)(J:List O):Prop where
 at':J[rl]?=some (.list us)
 rep:EA (fun l=>l=pl\/l=rl\/l=lg\/l=lg+1) J us rows
 ne:rl≠pl/\rl≠lg/\rl≠lg+1
theorem Rw.lt{rl:Nat}{us:List V}{rows:Rows}(h:Rw pl lg rl us rows J):rl < J.length:=(List.getElem?_eq_some_iff.mp h.at').1
theorem Rw.step{rl:Nat}{us:List V}{rows:Rows}(h:Rw pl lg rl us rows J)(k:zG pl J LA):Rw pl lg rl us rows LA:=⟨k.chg.get h.at' h.ne.1,EA.mv (GR (.inl rfl) k.chg) YB us rows h.rep,h.ne⟩
theorem Rw.sc{rl:Nat}{us:List V}{rows:Rows}{hh:List Nat}(h:Rw pl lg rl us rows J):yB (fun l=>l=lg+1) J (.tup [.str hh, .loc rl]) (.mk hh rows):=by
 simp only[yB.r1]
 exact⟨rl,us,rfl,h.at',h.ne.2.2,EA.mv (fun u0 u0 u0=>rfl) (fun l q=> .inl (.inr (.inr (.inr q)))) us rows h.rep⟩
theorem qH.ofLg{pl lg:Nat}(k:qH lg LA BD)(h:qH pl J LA)(hl:J.length<=lg):qH pl J BD:=⟨Nat.le_trans h.len k.len,fun l h1 h2=>(k.keep l (Nat.lt_of_lt_of_le h1 h.len) (by exact Nat.ne_of_lt (LB h1 hl))).trans (h.keep l h1 h2)⟩
noncomputable abbrev KS(g:G)(K:bF->List O->Prop):Fl->List (Option V)->List O->Prop:=wM (fun Z J=>dB g 60 none YZ Z J (cF K) (JF K)) (cF K)
theorem OM(P:qG g){K:bF->List O->Prop}{XE:List O}{h:List Nat}{rl:Nat}{us:List V}{rows:Rows}{x1 x8 x9 x10 x14 x15 x16 x17 x18:Option V}(hhd:h∈KH)(hrt:Rt pl lg XE J)(hrw:Rw pl lg rl us rows J)(hgr:oB true (PD 3) rows)(hsz:WA rows<=19000)(e:∀LA,qH pl XE LA->K (.ok (.bool true)) LA->False)
 (f:dB g 60 none mf [some (.loc pl),x1,some (.str h),none,none,some (.loc rl),some (.loc lg),some (.loc (lg+1)),x8,x9,x10,none,none,none,x14,x15,x16,x17,x18,none,none] J (KS g K) (JF K)):False:=by
 have hsg:PD 4 (.mk h rows):=⟨(qF hhd).1,hgr⟩
 have hsd:=PD.dep _ _ hsg
 have hssz:NC (.mk h rows)<=19500:=by have:=(qF hhd).2;simp only[NC.r1];exact(LB this hsz)
 have hsl:=RJ (.mk h rows) _ (Nat.le_refl _)
 have hso:=KW (.mk h rows)
 have hrun:=TR (lg:=lg) P hsg (by exact TD hssz)
 have f:=f _ ((FF P 4 _ hsd hrw.sc (by exact TD hssz)).up (by decide)) _ ((jO P 4 _ hsd (ll:=lg+1) (log:=[]) hrw.sc hrt.due (by exact TD hssz) (by rw[List.length_nil];exact BB hssz)).up (by decide))
 rcases hps:wG (.mk h rows)with⟨o,L⟩
 rw[hps]at f hsl hso hrun
 induction o using PO.casesOn with
 | ok v=>
   exact f fun gB hg f=>QR (d:=54) (Dr:=21) (lg:=lg) (dl:=lg+1) (p:=(.ok v,L)) P (by decide) (hg.chg.get hrt.log (by exact Nat.ne_of_lt (Nat.lt_succ_self _))) hg.at' (by exact Nat.ne_of_gt (by simp+arith only)) hrun hso rfl (f _ ((KV (d:=0) P).up (by decide))) fun LA hc k=>e _ (hc.ofLg (hg.chg.ofLg hrt.drn.chg (Nat.le_succ_of_le hrt.le)) hrt.le) k
 | err fl=>
   refine f fun v gB ⟨l,ev,hg,hf⟩ f=>?_
   subst ev
   have hs1:=hsl.1
   refine f _ ((xR (d:=0) (f:=fl) P hf hso.2 (by have:=hs1.1;exact(LB this hssz)) hs1.2.1 (by have:=hs1.2.2.1;lia) (fun s hs=>Nat.le_trans (hs1.2.2.2 s hs) (by exact TD hssz))).up (by decide)) fun aB ⟨j,ej⟩ f=>?_
   subst ej
   exact QR (d:=54) (Dr:=21) (lg:=lg) (dl:=lg+1) (p:=(.err fl,L)) P (by decide) (GA (hg.chg.get hrt.log (by exact Nat.ne_of_lt (Nat.lt_succ_self _))) j) (GA hg.at' j) (by exact Nat.ne_of_gt (by simp+arith only)) hrun hso rfl f fun LA hc k=>e _ (hc.ofLg ((hg.chg.ofLg hrt.drn.chg (Nat.le_succ_of_le hrt.le)).trans (.app j)) hrt.le) k
theorem PM(P:qG g){K:bF->List O->Prop}{XE:List O}{h:List Nat}{rl:Nat}{us:List V}{rows:Rows}{x1 x8 x9 x10 x14 x15 x16 x17 x18:Option V}(hhd:h∈KH)(hrt:Rt pl lg XE J)(hrw:Rw pl lg rl us rows J)(hgr:oB false (PD 3) rows)(hsz:WA rows<=15000)(e:∀LA,qH pl XE LA->K (.ok (.bool true)) LA->False)
 (f:dB g 60 none Pg [some (.loc pl),x1,some (.str h),none,none,some (.loc rl),some (.loc lg),some (.loc (lg+1)),x8,x9,x10,none,none,none,x14,x15,x16,x17,x18,none,none] J (KS g K) (JF K)):False:=by
 have hb:∀l,(l=pl\/l=rl\/l=lg\/l=lg+1)->l < J.length:=fun l q=>by have:=hrw.lt;have:=hrt.lt;have:=hrt.ne;lia
 refine f _ ((cG (d:=0) (sf:=false) (bad:=fun l=>l=pl\/l=rl\/l=lg\/l=lg+1) P hrt.drn.pen (.inl rfl) hb).up (by decide)) fun v1 gB q9a f=>?_;obtain⟨hd1,rl2,us2,rows2,ev,hrl2,hl2,hr2,hD2,hn2⟩:=q9a
 subst ev
 have hrt1:=hrt.step hd1
 have hrw1:=hrw.step hd1
 have hb1:=OB hb hd1
 have hlt:=hrw1.lt
 have hgood:=hD2.good
 have hnr:=vL rows
 have hlen:us.length+us2.length<=100000:=by rw[hrw.rep.len,hr2.len];exact fJ hnr hn2 hsz
 have hgr9:oB false (PD 3) (rows.app rows2):=hgr.app (hgood.1.map fun s h=>PD.le (by exact Nat.le_add_left _ _) h)
 have hsz9:WA (rows.app rows2)<=17000:=by rw[gG];have:=hgood.2;lia
 have h8:=hrt1.lt
 have hpl:=hrt1.ne
 have hml:=hrt1.drn.chg.len
 have hr9:EA (fun l=>l=pl\/l=gB.length\/l=lg\/l=lg+1) (gB++[.list (us++us2)]) (us++us2) (rows.app rows2):=
  EA.app (EA.mv (zB _) (fun l q=>by rcases q with q | q | q | q;exact .inl (.inl q);exact .inr (Nat.le_of_eq q.symm);exact .inl (.inr (.inr (.inl q)));exact .inl (.inr (.inr (.inr q)))) us rows hrw1.rep)
   (EA.mv (bad:=fun l=>(l=pl\/l=rl\/l=lg\/l=lg+1)\/l=rl2) (zB _) (fun l q=>by rcases q with q | q | q | q;exact .inl (.inl (.inl q));exact .inr (Nat.le_of_eq q.symm);exact .inl (.inl (.inr (.inr (.inl q))));exact .inl (.inl (.inr (.inr (.inr q))))) us2 rows2 hr2)
 have hrt9:=hrt1.app [.list (us++us2)]
 have hrw9:Rw pl lg gB.length (us++us2) (rows.app rows2) (gB++[.list (us++us2)]):=⟨AA ..,hr9,by lia⟩
 have f:=f _ _ (Ba hrw1.at' hl2 hlen) _ (ta (GA hrw9.at' _) (EA.mv (zB _) YB _ _ hr9) (by have:=(hgr9.map fun s h=>PD.dep 3 s h).dep;exact TD this) (AA ..))
 have hml:XE.length<=gB.length:=hml
 generalize us++us2=us9 at*
 generalize rows.app rows2=rows9 at*
 generalize hrl3:gB.length=rl3 at*
 generalize gB++[O.list us9]=Dh at*
 by_cases q:us9=[]
 ·have hrt10:=hrt9.app [O.list []]
  subst q
  exact OM P hhd hrt10 (hrw9.step ((zG.start hrt9.drn.pen).app _)) hgr9.up (by exact TD hsz9) e (f false (decide_eq_false (by simp)))
 ·have hne:rows9≠ .nil:=by rintro rfl;exact q hr9.nl
  obtain⟨r,c,en,e9,g1,g2⟩:=Rows.last hgr9 hne
  subst e9
  obtain⟨u1,u2,eu,r1,r2⟩:=EA.split hr9
  obtain⟨cv,ws,e2,rc,r3⟩:=r2.cs
  have:=r3.nl
  subst this
  subst e2
  subst eu
  refine f true (decide_eq_true q) _ (lC (GA hrw9.at' _) oU) _ rfl _ ((LD (d:=0) (many:=4) P ((hrt9.drn.pen.app _).app _) rfl rfl).up (by decide)) fun v11 vb q9a f=>?_;obtain⟨hd11,k11,hk11,ek⟩:=q9a
  subst ek
  have hls:=hd11.chg.get (AA ..) (by have:=hrt9.lt;simp;exact Nat.ne_of_gt (LB this hpl))
  have hd11:=(((zG.start hrt9.drn.pen).app [O.list []]).app _).trans hd11
  have hrw11:=hrw9.step hd11
  refine f _ (GI (ss:=ZO) hls hk11) _ (TQ hrw11.at') fun qY e12 f=>?_
  have he2:=vT (List.getElem_mem (l:=ZO) hk11)
  generalize ZO[k11]=en2 at*
  have hk:∀l,l < vb.length->¬(l=pl\/l=rl3\/l=lg\/l=lg+1)->qY[l]?=vb[l]?:=fun l u0 h=>by rw[e12];exact List.getElem?_set_ne fun e=>h (.inr (.inl e.symm))
  have hrt12:Rt pl lg XE qY:=by rw[e12];exact(hrt9.step hd11).set _ hml hrw9.ne.1 hrw9.ne.2.1 hrw9.ne.2.2
  have hrw12:Rw pl lg rl3 (u1++[.tup [cv, .str en2]]) (r.app (.cons c en2 .nil)) qY:=⟨by rw[e12];exact List.getElem?_set_self hrw11.lt,
   EA.app (EA.mv hk YB u1 r (EA.mv (GR (.inl rfl) hd11.chg) YB u1 r r1)) (.cons' (yA.mv hk YB cv c (yA.mv (GR (.inl rfl) hd11.chg) YB cv c rc)) .nil'),hrw9.ne⟩
  refine OM P hhd hrt12 hrw12 (g1.app ?_) ?_ e f
  ·rcases he2.1 with h | h
   ·exact .cons g2 h .nil
   ·exact .last rfl g2 h
  ·have:=he2.2
   rw[gG]at hsz9 ⊢
   simp only[WA.r1,WA.r2]at hsz9 ⊢;exact(LB this hsz9)
theorem kY:∀p∈wB,p.1.length<=10/\p.2.length<=100:=by decide
theorem RQ(P:qG g){K:bF->List O->Prop}{XE:List O}{h:List Nat}{rl deep:Nat}{us:List V}{rows:Rows}{x1 x8:Option V}(hdeep:deep<=2)(hhd:h∈KH)(hrt:Rt pl lg XE J)(hrw:Rw pl lg rl us rows J)(hD:iD false rows)(hn:oC rows<=2)(e:∀LA,qH pl XE LA->K (.ok (.bool true)) LA->False)
 (f:dB g 60 none Ah [some (.loc pl),x1,some (.str h),none,none,some (.loc rl),some (.loc lg),some (.loc (lg+1)),x8,some (.int (deep:Int)),none,none,none,none,none,none,none,none,none,none,none] J (KS g K) (JF K)):False:=by
 refine f _ ((kT (d:=0) (deep:=deep) P (by exact TD hdeep) hrt.drn.pen).up (by decide)) fun v1 gB q9a f=>?_;obtain⟨hd1,p,hpt,ev⟩:=q9a
 subst ev
 refine f _ ((aL (d:=0) P hd1.pen).up (by decide)) fun v2 aB q9a f=>?_;obtain⟨hd2,en,he,ev⟩:=q9a
 subst ev
 have hd12:=hd1.trans hd2
 have hrt2:=hrt.step hd12
 have hrw2:=hrw.step hd12
 have hgood:=hD.good
 have hsg:PD 2 (.mk h rows):=⟨(qF hhd).1,hgood.1.up⟩
 have hsd:=PD.dep _ _ hsg
 have hssz:NC (.mk h rows)<=2000:=by have:=(qF hhd).2;have:=hgood.2;simp only[NC.r1];lia
 have hwl:=AK (.mk h rows)
 have hwhy:=kY p hpt
 have hrawl:(vB p.1 deep).length<=60:=by rw[VJ];lia
 have hel:=wI he
 have hlt:=hrt2.lt
 have hpl:=hrt2.ne
 refine f _ ((FF P 2 _ hsd hrw2.sc (by exact TD hssz)).up (by decide)) _ (qD (by exact LB hel hrawl)) _ ((cG (d:=0) (sf:=true) (bad:=fun l=>l=pl\/l=lg+1) P hd2.pen (.inl rfl) (fun l q=>by lia)).up (by decide)) fun v3 YF q9a f=>?_;obtain⟨hd3,rl2,us2,rs,ev,hrl2,hl3,hr3,hD3,hn3⟩:=q9a
 subst ev
 have hrt3:=hrt2.step hd3
 have hrw3:=hrw2.step hd3
 have hgood3:=hD3.good
 have hrep3:yB (fun l=>l=lg+1) YF (.tup [.str [], .loc rl2]) (.mk [] rs):=by
  simp only[yB.r1]
  exact⟨rl2,us2,rfl,hl3,by exact Nat.ne_of_gt (LB hrl2 hlt),EA.mv (fun u0 u0 u0=>rfl) (fun l q=> .inl (.inl (.inr q))) us2 rs hr3⟩
 have hsg3:PD 2 (.mk [] rs):=⟨by decide,hgood3.1.up⟩
 have hssz3:NC (.mk [] rs)<=2000:=by have:=hgood3.2;simp only[NC.r1,List.length_nil];lia
 have hwl3:=AK (.mk [] rs)
 obtain⟨v,L,hpl2⟩:=hD.play h []
 have hps:wG (.mk h rows)=(.ok v,L):=by simpa only[wG.r1]using hpl2
 have hLl:=(RJ (.mk h rows) _ (Nat.le_refl _)).2
 have hplay:=jO P 2 _ hsd (ll:=lg+1) (log:=[]) (hrw3.sc (hh:=h)) hrt3.due (by exact TD hssz) (by rw[List.length_nil];exact BB hssz)
 rw[hps]at hLl hplay
 refine f _ ((FF P 2 _ (PD.dep _ _ hsg3) hrep3 (by exact TD hssz3)).up (by decide)) _ (qD (by simp only[List.length_append];lia)) _ (qD (by simp only[List.length_append];lia)) _ (hplay.up (by decide)) fun eJ hg4 f=>?_
 have hsrc:vB p.1 deep++en++gD (.mk [] rs)=vB p.1 deep++(en++(QA rs).flatten):=by simp[gD.r1]
 rw[hsrc]at f
 refine f _ _ DV _ ((xR (d:=0) (f:=YD p.2 (gD (.mk h rows)) (vB p.1 deep++(en++(QA rs).flatten))) (n:=0) P ⟨eJ.length,AA ..,GA (AA ..) _,by simp,Nat.zero_le _,Nat.zero_le _⟩ (by simp[YD]) (by simp only[YD];exact TD hwhy.2) (by simp[YD]) (by simp[YD]) (by rw[<-hsrc];simp only[YD,List.mem_singleton];rintro s rfl;simp only[List.length_append];lia)).up (by decide)) fun CP q9a f=>?_;obtain⟨j,ej⟩:=q9a
 subst ej
 exact QR (d:=54) (Dr:=29) (lg:=lg) (dl:=lg+1) (p:=(.err (YD p.2 (gD (.mk h rows)) (vB p.1 deep++(en++(QA rs).flatten))),L)) P (by decide) (GA (GA (GA (hg4.chg.get hrt3.log (by exact Nat.ne_of_lt (Nat.lt_succ_self _))) _) _) _) (GA (GA (GA hg4.at' _) _) _) (by exact Nat.ne_of_gt (by simp+arith only))
  (jT (p:=p) P (qF hhd).1 hD hpt (mE he) hD3 (by assumption) hps (by exact TD hssz) (by simp only[NC.r1]at hssz3;exact TD (AP (nD hssz3))) (by exact TD hel)) ⟨⟨fun q=>by simp[YD]at q,fun u0 u0=>by simp only[YD];lia,fun u0=>rfl,[[78,79,78,69]],rfl⟩,by simp[YD]⟩ rfl f
  fun LA hc k=>e _ (hc.ofLg ((((hg4.chg.ofLg hrt3.drn.chg (Nat.le_succ_of_le hrt3.le)).trans (.app _)).trans (.app _)).trans (.app _)) hrt3.le) k
theorem SQ(P:qG g){most:Nat}(hm:Nat.ble 1 most=true)(hm3:Nat.ble most 3=true)(hp:yC pl J):MA g 61 none 772 [.loc pl, .int (most:Int)] J (.to (.bool true) (qH pl J)):=
 P.f772.run rfl rfl fun K en f=>by
   have hm3:=Nat.le_of_ble_eq_true hm3
   have e:∀LA,qH pl J LA->K (.ok (.bool true)) LA->False:=fun LA c k=>en k .same ⟨rfl,c⟩
   refine f _ ((LD (d:=0) (many:=4) P (hp.app _) rfl rfl).up (by decide)) fun v1 gB ⟨hd1,k1,hk1,ek⟩ f=>?_
   subst ek
   have hls:=hd1.chg.get (AA ..) (by have:=hp.lt;exact Nat.ne_of_gt this)
   have hd1:=((zG.start hp).app _).trans hd1
   have hhd:KH[k1]'hk1∈KH:=List.getElem_mem _
   refine f _ (GI (ss:=KH) hls hk1) _ ((cG (d:=0) (sf:=false) (bad:=fun l=>l=pl) P hd1.pen rfl (fun l q=>q ▸ hd1.pen.lt)).up (by decide)) fun v2 aB ⟨hd2,rl,us,rows,ev,hrl,hl2,hr2,hD,hn2⟩ f=>?_
   subst ev
   generalize KH[k1]'hk1=h at*
   have hlt:=(List.getElem?_eq_some_iff.mp hl2).1
   have hpl:=hd2.pen.lt
   have hpl1:=hd1.pen.lt
   have hgood:=hD.good
   have hle:(aB++[O.list []]).length=aB.length+1:=by simp
   have hrt3:Rt pl aB.length J (aB++[O.list []]++[O.list []]):=⟨((hd1.trans hd2).app _).app _,GA (AA ..) _,by rw[<-hle];exact AA ..,(hd1.trans hd2).chg.len,hpl⟩
   have hrw3:Rw pl aB.length rl us rows (aB++[O.list []]++[O.list []]):=⟨GA (GA hl2 _) _,EA.mv (fun l a u0=>by rw[List.getElem?_append_left (by simp;exact BB a),List.getElem?_append_left a]) (fun l q=>by rcases q with q | q | q | q;exact .inl (.inl q);exact .inl (.inr q);exact .inr (by exact(eR q));exact .inr (by exact(nD (eR q)))) us rows hr2,by lia⟩
   have f:=f _ ((LD (d:=0) (many:=8) P hrt3.drn.pen rfl rfl).up (by decide))
   rw[hle]at f
   refine f fun v4 eJ ⟨hd4,kind,hkind,ek⟩ f=>?_
   subst ek
   refine f _ ((LD (d:=0) (many:=most) P hd4.pen hm (Nat.ble_eq.mpr (by lia))).up (by decide)) fun v5 CP ⟨hd5,deep,hdeep,ek⟩ f=>?_
   subst ek
   have hd45:=(hd4.trans hd5).app [O.list [.int 5, .int 6]]
   have hrt6:=hrt3.step hd45
   have hrw6:=hrw3.step hd45
   have hl0:J.length<=rl:=Nat.le_trans hd1.chg.len hrl
   have f:=f _ (Dg (ss:=[5,6]) (AA ..))
   generalize CP++[O.list [.int 5, .int 6]]=GX at*
   generalize hb:List.contains [5,6] (kind:Int)=b at f
   induction b using Bool.casesOn with
   | true=>exact RQ P (by lia) hhd hrt6 hrw6 hD hn2 e (f true rfl)
   | false=>
     have f:=f false rfl
     have hb6:∀l,(l=pl\/l=rl\/l=aB.length\/l=aB.length+1)->l < GX.length:=fun l q=>by have:=hrw6.lt;have:=hrt6.lt;lia
     by_cases q:kind < 5
     ·refine f true (decide_eq_true (by lia)) _ ((bT (d:=0) (kind:=kind) (deep:=deep) (bad:=fun l=>l=pl\/l=rl\/l=aB.length\/l=aB.length+1) P q (by lia) hrt6.drn.pen (.inl rfl) hb6).up (by decide)) fun v7 ag ⟨hd7,c,hrc,hgc,hszc⟩ f=>?_
      have hrw7:=hrw6.step hd7
      refine f _ hrw7.at' _ ((aL (d:=0) P hd7.pen).up (by decide)) fun v8 Jf ⟨hd8,en,he,ev⟩ f=>?_
      subst ev
      have hrw8:=hrw7.step hd8
      have hk:∀l,l < Jf.length->¬(l=pl\/l=rl\/l=aB.length\/l=aB.length+1)->(Jf.set rl (.list (us++[.tup [v7, .str en]])))[l]?=Jf[l]?:=fun l u0 h=>List.getElem?_set_ne fun e=>h (.inr (.inl e.symm))
      have hsz:WA (rows.app (.cons c en .nil))<=15000:=by rw[gG];have:=wI he;have:=hgood.2;simp only[WA.r1,WA.r2];lia
      exact PM P hhd ((hrt6.step (hd7.trans hd8)).set _ hl0 hrw8.ne.1 hrw8.ne.2.1 hrw8.ne.2.2) ⟨List.getElem?_set_self hrw8.lt,EA.app (EA.mv hk YB _ _ hrw8.rep) (.cons' (yA.mv hk YB _ _ (yA.mv (GR (.inl rfl) hd8.chg) YB _ _ hrc)) .nil'),hrw8.ne⟩
       ((hgood.1.map fun s h=>PD.le (by exact Nat.le_add_left _ _) h).app (.cons (hgc.map fun s h=>PD.le (by lia) h) (mE he) .nil)) hsz e (f _ (XA hrw8.at') _ _ (uC (by rw[hrw8.rep.len];exact TD hn2)))
     ·exact PM P hhd hrt6 hrw6 (hgood.1.map fun s h=>PD.le (by exact Nat.le_add_left _ _) h) (by have:=hgood.2;lia) e (f false (decide_eq_false (by lia)))
end
section
variable{g:G}{d:Nat}{hd:Option Nat}{J LA BD:List O}
noncomputable def tZ(vs:List V)(J:List O):Prop:=vs.length=5/\∀v∈vs,∃(l:Nat) (xs:List Int),v= .loc l/\J[l]?=some (.list (xs.map .int))/\xs.length<=100
theorem re{a b c d e:List Int}(h:∀xs∈[a,b,c,d,e],xs.length<=100):
 tZ [V.loc J.length,V.loc (J++[O.list (a.map .int)]).length,V.loc (J++[O.list (a.map .int)]++[O.list (b.map .int)]).length,V.loc (J++[O.list (a.map .int)]++[O.list (b.map .int)]++[O.list (c.map .int)]).length,V.loc (J++[O.list (a.map .int)]++[O.list (b.map .int)]++[O.list (c.map .int)]++[O.list (d.map .int)]).length]
  (J++[O.list (a.map .int)]++[O.list (b.map .int)]++[O.list (c.map .int)]++[O.list (d.map .int)]++[O.list (e.map .int)]++LA):=by
 refine⟨rfl,?_⟩
 intro v hv
 simp only[List.mem_cons,List.not_mem_nil,or_false]at hv
 rcases hv with rfl | rfl | rfl | rfl | rfl
 ·exact⟨_,a,rfl,GA (GA (GA (GA (GA (AA ..) _) _) _) _) _,h a (by simp)⟩
 ·exact⟨_,b,rfl,GA (GA (GA (GA (AA ..) _) _) _) _,h b (by simp)⟩
 ·exact⟨_,c,rfl,GA (GA (GA (AA ..) _) _) _,h c (by simp)⟩
 ·exact⟨_,d,rfl,GA (GA (AA ..) _) _,h d (by simp)⟩
 ·exact⟨_,e,rfl,GA (AA ..) _,h e (by simp)⟩
theorem cY(P:qG g):MA g (d+1) none 659 [] J (.val fun v LA=>∃l vs,v= .loc l/\LA[l]?=some (.list vs)/\tZ vs LA):=
 P.f659.run rfl rfl fun K e f=>e f .same ⟨_,rfl,_,_,rfl,AA ..,re (a:=[2,1,2,2,2,9,4,0,2,8,8,0,1,1,0,4,1,0,0,0,1,0,0,8,0,0,0,0,3,1,0,1,0,2,9,5,1,1,1,0,0,1,0]) (b:=[0,2,1,0,8,6,0,3,5,5,1,1,1,2,2,0,4,4,0,1,2,1,2]) (c:=[3,0,2,1,9,8,2,2,0,0,2,0,1,1,8,0,3,0,7,0,0]) (d:=[1,1,0,3,7,3,0,8,8,1,3,0,1]) (e:=[0,0,4,1,0,3,0,0,1,0,7,3,2,0,0,0,0,7,7,2,0,0]) (by decide)⟩
theorem We{k:Nat}:WM .script (.int (k:Int)) (.int 5) J fun v LA=>∃js:List Int,v= .loc J.length/\LA=J++[.list (js.map .int)]:=⟨by lia,rfl,fun js u0=>⟨js,rfl,rfl⟩⟩
theorem Kg{l:Nat}{js:List Int}{Q:V->List O->Prop}(h:J[l]?=some (.list (js.map .int)))(k:Q (.int js.sum) J):EH g none (.builtin "sum") [.loc l] J Q:=⟨rfl,js.map .int,js,XA h,QI js,k⟩
theorem Ke:KP .Pow (.int 10) (.int 60)=some (.int (10^60)):=by show(if(10:Int)=10/\(60:Int)=60 then some (V.int (10^60))else none)=_;exact if_pos ⟨rfl,rfl⟩
theorem law_ok2(P:qG g):MA g 100 none 779 [.script] [] (.to (.bool true) fun u0=>True):=
 P.f779.run rfl rfl fun K e f=>f _ ((cY (d:=0) P).up (by decide)) fun v J ⟨l,vs,ev,hl,hT⟩ f=>by
   subst ev
   refine f _ (XA hl) fun Pw hP h0=>?_
   have key:∀(m k:Nat) (J:List O) (a b:Option V),k+m=5->J[l]?=some (.list vs)->tZ vs J->Pw k [some .script,a,b] J->False:=by
    intro m
    induction m with
    | zero=>
      intro k J a b ek hl hT p
      have ek:k=5:=ek
      subst ek
      have hi:cC J (.loc l) 5=some none:=hT.1 ▸ YN hl
      exact e (hP _ _ _ p _ hi) .same ⟨rfl,trivial⟩
    | succ m ih=>
      intro k J a b ek hl hT p
      have hk:k < vs.length:=by rw[hT.1];exact BB (eL ek)
      obtain⟨l1,xs,e1,h1,h2⟩:=hT.2 vs[k] (List.getElem_mem _)
      have hi:cC J (.loc l) k=some (some (.loc l1)):=by
       unfold cC;dsimp only;rw[hl]
       exact congrArg some ((List.getElem?_eq_getElem hk).trans (congrArg some e1))
      refine hP _ _ _ p _ hi _ We fun v gB ⟨js,ev,e2⟩ p=>?_
      subst ev
      subst e2
      have p:=p _ _ (Kg (AA ..)) _ Ke _ (ZS (by decide) (by decide)) _ _ (Ba (AA ..) (GA (GA h1 _) _) (by simp only[List.length_cons,List.length_nil,List.length_map];exact BB h2))
      generalize hpl:(J++[O.list (js.map V.int)]++[O.list [V.int (js.sum.fmod (10^60))]]).length=pl at p
      have hp:yC pl (J++[O.list (js.map V.int)]++[O.list [V.int (js.sum.fmod (10^60))]]++[O.list ([V.int (js.sum.fmod (10^60))]++xs.map V.int)]):=⟨js.sum.fmod (10^60),xs,by rw[<-hpl,AA];rfl,by exact TD h2⟩
      have hne:∀{l':Nat} {x:O},J[l']?=some x->l'≠pl:=fun h=>by
       have:=(List.getElem?_eq_some_iff.mp h).1
       simp only[List.length_append,List.length_cons,List.length_nil]at hpl;exact Nat.ne_of_lt (LB (eL hpl) this)
      have back:∀{LA a b},qH pl (J++[O.list (js.map V.int)]++[O.list [V.int (js.sum.fmod (10^60))]]++[O.list ([V.int (js.sum.fmod (10^60))]++xs.map V.int)]) LA->Pw (k+1) [some .script,a,b] LA->False:=fun hc p=>by
       have g:∀{l' x},J[l']?=some x->_:=fun h=>hc.get (GA (GA (GA h _) _) _) (hne h)
       exact ih (k+1) _ _ _ (by exact Nd ek) (g hl) ⟨hT.1,fun v hv=>(hT.2 v hv).imp fun l2 h=>h.imp fun ys h=>⟨h.1,g h.2.1,h.2.2⟩⟩ p
      by_cases q:k=0
      ·exact p true (decide_eq_true (by lia)) _ ((SQ (most:=3) P rfl rfl hp).up (by decide)) fun LA hc p=>back hc (p true rfl)
      ·exact p false (decide_eq_false (by lia)) _ ((SQ (most:=2) P rfl rfl hp).up (by decide)) fun LA hc p=>back hc (p true rfl)
   exact key 5 0 J _ _ rfl hl hT h0
end
section
open PySem.Challenge
noncomputable def Og(u0:World)(h:Heap):Prop:=∃K,Fc K/\K.In h
theorem ud:LeftO rw_np0149_02.row.toRowW.1 qL bO Mg (fun s=>∃K,Fc K/\K.In s.heap) (fun u0=>True) 10000:=
 wT rfl (by decide) (fun u0=>rfl) (M:=5000) (by decide) fun w os=>⟨tX w os,(Jb w os).1,(Jb w os).2.1,eq_true ⟨kL w os,(Jb w os).2.2,RV _ _⟩⟩
theorem Re:namesResolve rw_np0149_02.row.prog=true:=by kernel_rfl
theorem Se:noRoadLSs {strict:=!(importedModules rw_np0149_02.row.prog.main.body).all cThrough.contains,foot:=none,bare:=(["vars","dir","locals"]:List Str).filter (readsOut rw_np0149_02.row.prog rw_np0149_02.row.prog.main.body)} rw_np0149_02.row.prog.main.body=true:=by kernel_rfl
theorem Te:namesMeet rw_np0149_02.row.prog rw_np0149_02.row.prog.main.body (fun _ n=>attrL n)=true:=by kernel_rfl
theorem Ue:looksOpen rw_np0149_02.row.prog=true:=by unfold looksOpen;rw[Re,Se,Te];kernel_rfl
theorem Lb:OpenLaw.wellSaid rw_np0149_02=true:=by unfold OpenLaw.wellSaid OpenRow.wellSaid OpenRow.partSaid;rw[Ue];kernel_rfl
set_option tactic.hygienic true in
theorem Bf(law_ok:∀g,qG g->g.ns.length<=63->CallOk g 100 none (.ref 779) [.script] [] (fun r u0=>r= .ok (.bool true))){d:DefRec}{kwd:List (Str×PySem.Expr)}(hdef:PySem.W.defOf qL rw_np0149_02.row.name=some (d,kwd)):WalkO qL bO (XL qL []) Og rw_np0149_02.row.toRowW d kwd fun f vs=>PySem.call f vs:=by
 intro w ZB CA mg mb G Y fa o pm cd doc dV kV ho hdd hcd hD hmg hg args vals as hpre hlay hrd hwl hlo
 obtain⟨K,Fk,KX⟩:=Y
 have X:=(Ground.X G).1
 have V:=(Ground.X G).2
 refine Ground.open G ?_
 intro T B D TE TW
 clear hcd hD
 have hfa:fa=779:=by
  have h1:=mg_of KX T.g (Fk.law)
  have h2:mg (Str.ofString "law")=some (.ref fa):=by have:=hmg;rw[PySem.W.defOf_name hdef]at this;exact this
  rw[h1]at h2
  cases h2;rfl
 subst hfa
 clear hdd hmg
 wrow_args hpre hlay hrd hwl hlo
 refine enter_call ?_
 rename_i ns _ _ _ _ _ _ _ sa vs _ hL _ _ _ hI _ hcond _
 have big:∃b o,100<=b/\CA.heap.get? b=some o:=⟨779,o,by decide,ho⟩
 have hns:ns.length<=63:=by omega
 have Yg:=wg (prog:=PySem.Challenge.rw_np0149_02.row.prog) (w:=w) (big:=big) (os:=CA.os) (sa:=sa) (ns:=ns) Fk.see KX ⟨mg,T.g⟩ ⟨mb,T.b,T.builtins⟩ T.nolimit ⟨_,hL,by simpa using hI,hns⟩
 have P:=oV Fk Yg
 have S:St (yd PySem.Challenge.rw_np0149_02.row.prog w (K) CA.heap big CA.os sa ns) CA [] []:=
  ⟨fun b o e=>e,List.nodup_nil,(by intro a m;cases m),rfl,(by intro l a x e;simp at e),hg,rfl⟩
 have C:Cx (yd PySem.Challenge.rw_np0149_02.row.prog w (K) CA.heap big CA.os sa ns) callerA CA [] 100 none:=
  ⟨by decide,by decide,rfl,[],rfl,(by intro e m;cases m)⟩
 refine codeAny_mono (law_ok _ P hns callerA CA [] [.ref sa] C S ⟨rfl,trivial⟩) fun r s' p=>?_
 rcases r with e | (_ | _ | _ | v)
 ·obtain⟨⟨l,LA,rA,a,q,_⟩,_⟩:=p
  cases q
 ·exact p.elim
 ·exact p.elim
 ·exact p.elim
 ·obtain⟨mv,LA,rA,q,rv,S',_⟩:=p
  cases q
  cases rv
  refine GoodW.toG ⟨.inl ⟨_, .bool true,[],rfl,?_,?_,?_,?_⟩,S'.base,S'.os,S'.gens⟩
  ·intro cls;rfl
  ·exact .bool _
  ·first | kernel_rfl | with_unfolding_all rfl
  ·intro _;exact⟨List.nodup_nil,by intro a m;cases m⟩
set_option tactic.hygienic true in
theorem fin02(law_ok:∀g,qG g->g.ns.length<=63->CallOk g 100 none (.ref 779) [.script] [] (fun r u0=>r= .ok (.bool true))):rw_np0149_02.Holds:=
 holds_law Lb fun Lb=>by
 refine holds_open (q:=qL) (loose:=bO) (Xt:=Mg) (XP:=XL qL []) (Yf:=fun s=>∃K,Fc K/\K.In s.heap) (Ya:=fun u0=>True) (YP:=Og) (N:=10000) ud (fun w s e=>of_eq_true e) (fun w h h' x k=>?_) (fun s e=>xl_of s (Bool.and_eq_true_iff.mp e).1) XL.keeps (by rfl) (by rfl) (by rfl) (fun s e=>recFacts_of (Bool.and_eq_true_iff.mp e).2) (by rfl) Lb (by decide+kernel) ⟨rfl,rfl,rfl,rfl,rfl,by decide+kernel⟩ ?hw ?hc
 ·obtain⟨K,a,b⟩:=x;exact⟨K,a,b.keeps k⟩
 case hw=>w_witness2
 case hc=>exact Bf law_ok rfl
end
end Mine
theorem PySem.Challenge.cw_np0149_02_holds : PySem.Challenge.rw_np0149_02.Holds := by
  exact Mine.fin02 fun _ P h => Mine.CallOk.mono (Mine.law_ok2 P) fun _ _ q => q.1
