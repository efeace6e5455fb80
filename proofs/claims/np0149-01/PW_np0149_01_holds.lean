import PyProof.Rows.All
import Wide.All
import OpenK.AllK
import Wide.FinOn
import KE.KUnpack
import KE.KTryMore
import KE.KMatchCls
import KE.KDictSum
import PySem.Challenge.RW_np0149_01
set_option Elab.async false
set_option maxHeartbeats 2000000
set_option linter.all false
set_option tactic.hygienic false
set_option genSizeOf false
set_option genInjectivity false
set_option genCtorIdx false
set_option backward.match.sparseCases false
set_option bootstrap.genMatcherCode false
set_option compiler.extract_closed false
set_option maxRecDepth 100000
open PySem PySem.W PyProof.Rows PySem.Calls
namespace Mine
theorem kC{a m n:Nat}(h:a<=m)(k:Nat.ble m n=true:=by rfl):a<=n:=Nat.le_trans h (Nat.le_of_ble_eq_true k)
theorem db{a b n:Nat}(h:a+b<=n):a<=n:=Nat.le_trans (Nat.le_add_right a b) h
theorem dg{a b n:Nat}(h:b+a<=n):a<=n:=Nat.le_trans (Nat.le_add_left a b) h
theorem Wg{a b n:Nat}(h:max a b<=n):a<=n:=Nat.le_trans (Nat.le_max_left a b) h
theorem Zg{a b n:Nat}(h:max b a<=n):a<=n:=Nat.le_trans (Nat.le_max_right b a) h
theorem eL{a b:Nat}(h:a=b):a<=b:=Nat.le_of_eq h
theorem eR{a b:Nat}(h:a=b):b<=a:=Nat.le_of_eq h.symm
theorem qC{L R a b:Nat}(h:a<=b)(k:L+b<=R+a:=by simp+arith only):L<=R:=Nat.le_of_add_le_add_right (Nat.le_trans k (Nat.add_le_add_left h R))
theorem rC{L R a b c d:Nat}(h:a<=b)(g:c<=d)(k:L+(b+d)<=R+(a+c):=by simp+arith only):L<=R:=qC (Nat.add_le_add h g) k
theorem qP{L R a b c d e f:Nat}(h:a<=b)(g:c<=d)(i:e<=f)(k:L+(b+d+f)<=R+(a+c+e):=by simp+arith only):L<=R:=rC (Nat.add_le_add h g) i k
theorem ag{k a b n:Nat}(h:k*max a b<=n):k*a<=n:=Nat.le_trans (Nat.mul_le_mul_left k (Nat.le_max_left a b)) h
theorem bg{k a b n:Nat}(h:k*max b a<=n):k*a<=n:=Nat.le_trans (Nat.mul_le_mul_left k (Nat.le_max_right b a)) h
theorem Mg{a b c d:Nat}(h:a=b)(k:c+b=d+a:=by simp+arith only):c=d:=by rw[h]at k;exact Nat.add_right_cancel k
theorem Ke{T m t k e:Nat}(h:T=m+t)(g:T=k+e):k - m=t - e:=((Nat.add_sub_add_right k e m).symm.trans (by rw[<-g,h])).trans (Nat.add_sub_add_left m t e)
noncomputable def rR:List Addr:=[84,139,146,153,181,188,195,202,209,216,223,230,237,244,251,258,265,272,279,286,293,301,308,315,322,329,336,343,360,371,378,385,392,399,491,498,505,519,526,643]
noncomputable def AZ:List Addr:=[652,659,664,671,676,683,690,697,704,711,718,725,730]
noncomputable def lW:List (List Nat):=[[99,111,100,101],[118,97,108,117,101],[101,114,114,111,114,99,111,100,101],[108,101,118,101,108],[114,101,116],[105,110,102,111],[105,115,95,110,111,116,101,100],[108,105,110,101],[101,120,116,114,97]]
noncomputable def kO:List (List Nat):=[[116,111,111,108,115],[105,110,108,105,110,101],[108,105,109,105,116],[102,117,101,108],[100,101,112,116,104],[115,112,101,110,116],[101,112,111,99,104],[102,114,97,109,101],[99,111,114,111,117,116,105,110,101],[118,97,114,115],[99,111,109,109,97,110,100,115],[102,105,114,115,116,115]]
noncomputable def ZS:List (List Nat):=[[107,105,110,100],[118,97,108,117,101],[116,114,97,99,101,115],[105,115,95,98,117,115,121],[105,115,95,101,108,101,109,101,110,116],[119,114,105,116,101,115]]
noncomputable def yR:List (List Nat×Addr):=[([114,117,110],442),([114,101,97,100],576),([99,97,108,108],456),([116,111,111,108],421),([115,112,101,110,100],428),([98,101,103,105,110],640),([112,108,97,99,101],555),([114,101,97,100,95,118,97,114],562),([119,114,105,116,101,95,118,97,114],569),([119,114,105,116,101],583),([112,117,116],612),([114,101,109,111,118,101],619),([97,100,100],626)]
noncomputable def qD(C:Addr)(n:List Nat):Bool:=(C==84&&lW.contains n)||(C==643&&kO.contains n)||(C==360&&ZS.contains n)
noncomputable def LL(C:Addr)(n:List Nat):Option Addr:=if C=643 then yR.lookup n else none
noncomputable def fZ(C:Addr)(n:List Nat):Option Addr:=if C=480/\n=[95,95,105,110,105,116,95,95]then some 414 else none
noncomputable def jX(a:Addr):Bool:=(rR++AZ).contains a
noncomputable def JU(a:Addr):Bool:=a==84
noncomputable def Wa(a:Addr):Bool:=a==105||a==126
section
set_option genCtorIdx true
inductive V where
 | none
 | bool (b:Bool)
 | int (i:Int)
 | str (s:List Nat)
 | tup (vs:List V)
 | loc (l:Nat)
 | val (v:Value)
 | script
inductive O where
 | list (vs:List V)
 | dict (kvs:List (List Nat×V)) (ep:Nat)
 | ad (kvs:List (List Nat×V))
 | inst (C:Addr) (dl:Nat)
 | exc (C:Addr) (dl:Nat)
 | exc0 (C:Addr)
structure G where
 prog:Program
 w:World
 K:Frag
 WA:Heap
 big:∃b o,100<=b/\WA.get? b=some o
 os:OsState
 sa:Addr
 ns:List Int
inductive Dc(s:List Nat)(v:Value):Prop
 | mk (t:Tok) (e:v= .str ⟨s.toArray⟩ t) (z:s.length<=sizeLine) (c:∀c∈s,c < 0x110000)
inductive Ic(h:Heap)(n:Nat)(R:List Value->Prop)(v:Value):Prop
 | mk (a:Addr) (os:Array Value) (e:v= .ref a) (t:IsTup h a os) (z:n<=2^30) (r:R os.toList)
inductive lY(U:List Addr)(l:Nat)(v:Value):Prop
 | mk (a:Addr) (h:U[l]?=some a) (e:v= .ref a)
mutual
noncomputable def SA(g:G)(h:Heap)(U:List Addr):V->Value->Prop
 | .none,v=>v= .none
 | .bool b,v=>v= .bool b
 | .int i,v=>∃t,v= .int i t
 | .str s,v=>Dc s v
 | .tup vs,v=>Ic h vs.length (fun xs=>MA g h U vs xs) v
 | .loc l,v=>lY U l v
 | .val w,v=>v=w
 | .script,v=>v= .ref g.sa
noncomputable def MA(g:G)(h:Heap)(U:List Addr):List V->List Value->Prop
 | [],[]=>True
 | v::vs,x::xs=>SA g h U v x/\MA g h U vs xs
 | _,_=>False
end
noncomputable def Ac(g:G)(h:Heap)(U:List Addr)(kv:List Nat×V)(e:Str×Value):Prop:=
 e.1=⟨kv.1.toArray⟩/\kv.1.length<=sizeLine/\(∀c∈kv.1,c < 0x110000)/\SA g h U kv.2 e.2
noncomputable def cB(g:G)(h:Heap)(U:List Addr):List (List Nat×V)->List (Str×Value)->Prop
 | [],[]=>True
 | kv::kvs,e::es=>Ac g h U kv e/\cB g h U kvs es
 | _,_=>False
noncomputable def QA(k:List Nat):List (List Nat×V)->Option V
 | []=>none
 | (k',v)::r=>if k'=k then some v else QA k r
theorem QA.r1{k:List Nat}:QA k []=(none):=rfl
theorem QA.r2{k:List Nat}:QA k ((k',v)::r)=(if k'=k then some v else QA k r):=rfl
noncomputable def rJ(g:G)(h:Heap)(U:List Addr):Option V->Option Value->Prop
 | none,none=>True
 | some v,some x=>SA g h U v x
 | _,_=>False
noncomputable def fE(o:Obj):Prop:=o.cls= .type "traceback"/\∃vs,o.data= .fields vs/\3 < vs.size
noncomputable def wP(g:G)(h:Heap)(vs:Array Value):Prop:=4 < vs.size/\(vs[1]?=some .none\/∃tb o,vs[1]?=some (.ref tb)/\g.WA.get? tb=none/\h.get? tb=some o/\fE o)
inductive TZ(g:G)(h:Heap)(U:List Addr)(a:Addr)(vs:List V):Prop
 | mk (os:Array Value) (n:Nat) (e:h.get? a=some {cls:= .type "list",data:= .seq os n}) (z:vs.length<=2^30) (r:MA g h U vs os.toList)
inductive PZ(g:G)(h:Heap)(U:List Addr)(a:Addr)(kvs:List (List Nat×V))(ep:Nat):Prop
 | mk (ps:List (Str×Value)) (d:h.DictAt (strKind g.prog g.w) a ps ep) (z:kvs.length<=sizeLine) (r:cB g h U kvs ps)
inductive Bf(g:G)(h:Heap)(U:List Addr)(a:Addr)(kvs:List (List Nat×V)):Prop
 | mk (o:Obj) (m:Str->Option Value) (e:h.get? a=some o) (c:o.cls= .type "dict") (n:h.Ns a m) (z:∀es n,o.data= .dict es n->es.size<=kvs.length) (r:∀k:List Nat,rJ g h U (QA k kvs) (m ⟨k.toArray⟩))
inductive SZ(h:Heap)(U:List Addr)(a C:Addr)(dl:Nat):Prop
 | mk (x:JU C=false) (dx:Addr) (d:U[dl]?=some dx) (e:h.get? a=some (instObj C dx))
inductive iY(g:G)(h:Heap)(U:List Addr)(a C:Addr)(dl:Nat):Prop
 | mk (x:JU C=true) (dx:Addr) (vs:Array Value) (d:U[dl]?=some dx) (e:h.get? a=some {cls:= .ref C,dict:=some dx,data:= .fields vs}) (t:wP g h vs)
inductive QZ(h:Heap)(a C:Addr):Prop
 | mk (x:JU C=true) (vs:Array Value) (e:h.get? a=some {cls:= .ref C,data:= .fields vs}) (z:4 < vs.size) (t:vs[1]?=some .none)
noncomputable def bF(g:G)(h:Heap)(U:List Addr)(a:Addr):O->Prop
 | .list vs=>TZ g h U a vs
 | .dict kvs ep=>PZ g h U a kvs ep
 | .ad kvs=>Bf g h U a kvs
 | .inst C dl=>SZ h U a C dl
 | .exc C dl=>iY g h U a C dl
 | .exc0 C=>QZ h a C
noncomputable def oF:Value->Bool
 | .type n=>n=="list"||n=="dict"
 | .ref _=>true
 | _=>false
theorem bF.own{g:G}{h:Heap}{U:List Addr}{a:Addr}{x:O}(r:bF g h U a x):∃o,h.get? a=some o/\oF o.cls=true:=by
 induction x using O.casesOn with
 | list vs=>obtain⟨os,n,e,_⟩:=r;exact⟨_,e,rfl⟩
 | dict kvs ep=>obtain⟨ps,⟨o,es,e,x,_⟩,_⟩:=r;exact⟨_,e,by rw[x.1];rfl⟩
 | ad kvs=>obtain⟨o,m,e,c,_⟩:=r;exact⟨_,e,by rw[c];rfl⟩
 | inst C dl=>obtain⟨_,dx,_,e⟩:=r;exact⟨_,e,rfl⟩
 | exc C dl=>obtain⟨_,dx,vs,_,e,_⟩:=r;exact⟨_,e,rfl⟩
 | exc0 C=>obtain⟨_,vs,e,_⟩:=r;exact⟨_,e,rfl⟩
structure St(g:G)(s:Shared)(U:List Addr)(J:List O):Prop where
 base:∀b o,g.WA.get? b=some o->s.heap.get? b=some o
 nodup:U.Nodup
 fresh:∀a∈U,g.WA.get? a=none/\100<=a
 len:U.length=J.length
 objs:∀(l:Nat) (a:Addr) (x:O),U[l]?=some a->J[l]?=some x->bF g s.heap U a x
 gens:s.gens= #[]
 os:s.os=g.os
theorem St.at{g:G}{s:Shared}{U:List Addr}{J:List O}(S:St g s U J){a:Addr}(h:a∈U):∃o,s.heap.get? a=some o/\oF o.cls=true:=by
 obtain⟨l,hl,rfl⟩:=List.getElem_of_mem h
 have:l < J.length:=S.len ▸ hl
 exact(S.objs l _ _ (List.getElem?_eq_getElem hl) (List.getElem?_eq_getElem this)).own
theorem bN{h:Heap}{a:Addr}(q:h.objs.size<=a):h.get? a=none:=by
 induction e:h.get? a using Option.casesOn with
 | none=>rfl
 | some o=>exact absurd (Heap.lt_size e) (Nat.not_lt.mpr q)
theorem St.new{g:G}{s:Shared}{U:List Addr}{J:List O}(S:St g s U J):g.WA.get? s.heap.objs.size=none/\100<=s.heap.objs.size:=by
 constructor
 ·induction e:g.WA.get? s.heap.objs.size using Option.casesOn with
  | none=>rfl
  | some o=>exact absurd (Heap.lt_size (S.base _ _ e)) (Nat.lt_irrefl _)
 ·obtain⟨b,o,hb,e⟩:=g.big
  exact Nat.le_of_lt (Nat.lt_of_le_of_lt hb (Heap.lt_size (S.base _ _ e)))
theorem St.notin{g:G}{s:Shared}{U:List Addr}{J:List O}(S:St g s U J){a:Addr}{o:Obj}(h:s.heap.get? a=some o)(hc:oF o.cls=false):a∉U:=fun m=>by
 obtain⟨o',e,c⟩:=S.at m
 rw[h]at e;cases e;rw[hc]at c;cases c
theorem St.lt{g:G}{s:Shared}{U:List Addr}{J:List O}(S:St g s U J){a:Addr}(h:a∈U):a < s.heap.objs.size:=by
 obtain⟨o,e,_⟩:=S.at h
 exact Heap.lt_size e
theorem St.obj{g:G}{s:Shared}{U:List Addr}{J:List O}(S:St g s U J){l:Nat}{x:O}(h:J[l]?=some x):∃a,U[l]?=some a/\bF g s.heap U a x:=by
 obtain⟨hl,_⟩:=List.getElem?_eq_some_iff.mp h
 have:l < U.length:=S.len ▸ hl
 exact⟨U[l],List.getElem?_eq_getElem this,S.objs l _ _ (List.getElem?_eq_getElem this) h⟩
noncomputable def nB(o:Obj):Prop:=∃es n,o.data= .dict es n
noncomputable def zL(o o':Obj):Prop:=o'=o\/(o.cls= .type "frame"/\∃sl,o'={o with slots:=sl})\/(o.cls= .type "traceback"/\(fE o->fE o'))
inductive mI(h:Heap)(a:Addr):Prop
 | mk (o:Obj) (vs:Array Value) (tb c:Addr) (e:h.get? a=some o) (k:o.cls= .ref c) (d:o.data= .fields vs) (t:vs[1]?=some (.ref tb))
structure KA(h h':Heap)(U iA:List Addr)(X:List Addr):Prop where
 pre:∃new,iA=U++new/\∀a∈new,h.get? a=none
 keep:∀b o,h.get? b=some o->b∉U->b∉X->∃o',h'.get? b=some o'/\zL o o'
 shape:∀b o,h.get? b=some o->b∉U->∃o',h'.get? b=some o'/\o'.cls=o.cls/\(nB o->nB o')
 alive:∀b o,h.get? b=some o->∃o',h'.get? b=some o'
 tbs:∀a,mI h a->mI h' a
theorem zL.refl(o:Obj):zL o o:= .inl rfl
theorem zL.eq{o o':Obj}(k:zL o o')(h:o.cls≠ .type "frame")(h2:o.cls≠ .type "traceback"):o'=o:=by
 rcases k with q | ⟨e,_⟩ | ⟨e,_⟩
 ·exact q
 ·exact absurd e h
 ·exact absurd e h2
theorem KA.refl(h:Heap)(U:List Addr)(X:List Addr):KA h h U U X:=
 ⟨⟨[],by simp,fun u0 m=>nomatch m⟩,fun b o e u0 u0=>⟨o,e, .refl o⟩,fun b o e u0=>⟨o,e,rfl,id⟩,fun b o e=>⟨o,e⟩,fun u0 q=>q⟩
theorem KA.tup{h h':Heap}{U iA X:List Addr}(S:KA h h' U iA X)(hX:∀b∈X,∀os,¬IsTup h b os)(AO:∀b∈U,∀o,h.get? b=some o->oF o.cls=true){a:Addr}{os:Array Value}(t:IsTup h a os):IsTup h' a os:=by
 obtain⟨o,e,c,n,d⟩:=t
 have n1:a∉U:=fun m=>by have:=AO a m o e;rw[c]at this;cases this
 have n2:a∉X:=fun m=>hX a m os ⟨o,e,c,n,d⟩
 obtain⟨o',e',k⟩:=S.keep a o e n1 n2
 have:o'=o:=k.eq (by rw[c];decide) (by rw[c];decide)
 subst this
 exact⟨o',e',c,n,d⟩
mutual
theorem SA.congr{g:G}{h h':Heap}{U iA:List Addr}(ht:∀a os,IsTup h a os->IsTup h' a os)(AO:∀(l:Nat) (a:Addr),U[l]?=some a->iA[l]?=some a):
 ∀(v:V) (x:Value),SA g h U v x->SA g h' iA v x
 | .none,_,r=>r
 | .bool _,_,r=>r
 | .int _,_,r=>r
 | .str _,_,r=>r
 | .tup vs,_,⟨a,os,e,t,z,r⟩=>⟨a,os,e,ht _ _ t,z,MA.congr ht AO vs _ r⟩
 | .loc l,_,⟨a,e,q⟩=>⟨a,AO _ _ e,q⟩
 | .val _,_,r=>r
 | .script,_,r=>r
theorem MA.congr{g:G}{h h':Heap}{U iA:List Addr}(ht:∀a os,IsTup h a os->IsTup h' a os)(AO:∀(l:Nat) (a:Addr),U[l]?=some a->iA[l]?=some a):
 ∀(vs:List V) (xs:List Value),MA g h U vs xs->MA g h' iA vs xs
 | [],[],_=>trivial
 | v::vs,x::xs,⟨a,b⟩=>⟨SA.congr ht AO v x a,MA.congr ht AO vs xs b⟩
 | [],_::_,r=>r.elim
 | _::_,[],r=>r.elim
end
theorem cB.congr{g:G}{h h':Heap}{U iA:List Addr}(ht:∀a os,IsTup h a os->IsTup h' a os)(AO:∀(l:Nat) (a:Addr),U[l]?=some a->iA[l]?=some a):
 ∀(vs:List (List Nat×V)) (xs:List (Str×Value)),cB g h U vs xs->cB g h' iA vs xs
 | [],[],_=>trivial
 | v::vs,x::xs,⟨⟨a1,a2,a3,a4⟩,b⟩=>⟨⟨a1,a2,a3,SA.congr ht AO _ _ a4⟩,cB.congr ht AO vs xs b⟩
 | [],_::_,r=>r.elim
 | _::_,[],r=>r.elim
theorem wP.congr{g:G}{h h':Heap}{vs:Array Value}(T:wP g h vs)(hb:∀b o,h.get? b=some o->fE o->∃o',h'.get? b=some o'/\fE o'):wP g h' vs:=by
 obtain⟨h1,h2⟩:=T
 refine⟨h1,?_⟩
 rcases h2 with q | ⟨tb,o,e,f,q,z⟩
 ·exact .inl q
 ·obtain⟨o',e',z'⟩:=hb tb o q z
  exact .inr ⟨tb,o',e,f,e',z'⟩
theorem bF.congr{g:G}{h h':Heap}{U iA:List Addr}{a:Addr}{x:O}(r:bF g h U a x)(ha:h'.get? a=h.get? a)(ht:∀a os,IsTup h a os->IsTup h' a os)(AO:∀(l:Nat) (a:Addr),U[l]?=some a->iA[l]?=some a)
 (hb:∀b o,h.get? b=some o->fE o->∃o',h'.get? b=some o'/\fE o'):bF g h' iA a x:=by
 induction x using O.casesOn with
 | list vs=>obtain⟨os,n,e,z,q⟩:=r;exact⟨os,n,ha.trans e,z,MA.congr ht AO _ _ q⟩
 | dict kvs ep=>obtain⟨ps,⟨o,es,e,x⟩,z,q⟩:=r;exact⟨ps,⟨o,es,ha.trans e,x⟩,z,cB.congr ht AO _ _ q⟩
 | ad kvs=>
   obtain⟨o,m,e,c,⟨o',es,ep,e',x⟩,z,q⟩:=r
   refine⟨o,m,ha.trans e,c,⟨o',es,ep,ha.trans e',x⟩,z,fun k=>?_⟩
   have:=q k
   revert this
   cases QA k kvs <;>cases m ⟨k.toArray⟩ <;>first | exact id | exact SA.congr ht AO _ _
 | inst C dl=>obtain⟨x0,dx,e,q⟩:=r;exact⟨x0,dx,AO _ _ e,ha.trans q⟩
 | exc C dl=>obtain⟨x0,dx,vs,e,q,t⟩:=r;exact⟨x0,dx,vs,AO _ _ e,ha.trans q,t.congr hb⟩
 | exc0 C=>obtain⟨x0,vs,q,t,u⟩:=r;exact⟨x0,vs,ha.trans q,t,u⟩
theorem KA.loc{h h':Heap}{U iA X:List Addr}(S:KA h h' U iA X):∀(l:Nat) (a:Addr),U[l]?=some a->iA[l]?=some a:=by
 obtain⟨new,rfl,_⟩:=S.pre
 intro l a e
 obtain⟨hl,q⟩:=List.getElem?_eq_some_iff.mp e
 rw[List.getElem?_append_left hl];exact e
theorem KA.memIff{h h':Heap}{U iA X:List Addr}(S:KA h h' U iA X){b:Addr}{o:Obj}(hb:h.get? b=some o)(n:b∉U):b∉iA:=by
 obtain⟨new,rfl,hn⟩:=S.pre
 intro m
 rcases List.mem_append.mp m with q | q
 ·exact n q
 ·have:=hn b q;rw[hb]at this;cases this
theorem zL.trans{a b c:Obj}(x:zL a b)(y:zL b c)(hc:b.cls=a.cls):zL a c:=by
 rcases x with rfl | ⟨e,sl,rfl⟩ | ⟨e,f⟩
 ·exact y
 ·rcases y with rfl | ⟨e',sl',rfl⟩ | ⟨e',_⟩
  ·exact .inr (.inl ⟨e,_,rfl⟩)
  ·exact .inr (.inl ⟨e,sl',rfl⟩)
  ·have:a.cls= .type "traceback":=e'
   rw[e]at this;exact absurd this (by decide)
 ·rcases y with rfl | ⟨e',_,_⟩ | ⟨e',f'⟩
  ·exact .inr (.inr ⟨e,f⟩)
  ·rw[hc,e]at e';exact absurd e' (by decide)
  ·exact .inr (.inr ⟨e,fun t=>f' (f t)⟩)
theorem KA.trans{tA ID wB:Heap}{BA vA gE X:List Addr}(x:KA tA ID BA vA X)(y:KA ID wB vA gE X):KA tA wB BA gE X:=by
 refine⟨?_,fun b o e n1 n2=>?_,fun b o e n1=>?_,fun b o e=>let ⟨o',e'⟩:=x.alive b o e;y.alive b o' e',fun a q=>y.tbs a (x.tbs a q)⟩
 ·obtain⟨n,rfl,hn⟩:=x.pre
  obtain⟨n',rfl,hn'⟩:=y.pre
  refine⟨n++n',by simp,fun a m=>?_⟩
  rcases List.mem_append.mp m with q | q
  ·exact hn a q
  ·induction e:tA.get? a using Option.casesOn with
   | none=>rfl
   | some o=>
     obtain⟨o',e'⟩:=x.alive a o e
     have:=hn' a q
     rw[e']at this;cases this
 ·obtain⟨o',e',k⟩:=x.keep b o e n1 n2
  obtain⟨o'',e'',k'⟩:=y.keep b o' e' (x.memIff e n1) n2
  obtain⟨p,ep,cp,_⟩:=x.shape b o e n1
  rw[e']at ep;cases ep
  exact⟨o'',e'',k.trans k' cp⟩
 ·obtain⟨o',e',c,d⟩:=x.shape b o e n1
  obtain⟨o'',e'',c',d'⟩:=y.shape b o' e' (x.memIff e n1)
  exact⟨o'',e'',c'.trans c,fun q=>d' (d q)⟩
theorem KA.mono{h h':Heap}{U iA X Y:List Addr}(x:KA h h' U iA X)(hXY:∀b∈X,b∈Y):KA h h' U iA Y:=
 ⟨x.pre,fun b o e n1 n2=>x.keep b o e n1 fun m=>n2 (hXY b m),x.shape,x.alive,x.tbs⟩
section
variable{g:G}{s:Shared}{U:List Addr}{J:List O}
theorem St.ownAll(S:St g s U J):∀b∈U,∀o,s.heap.get? b=some o->oF o.cls=true:=fun b m o e=>by
 obtain⟨o',e',c⟩:=S.at m
 rw[e]at e';cases e';exact c
theorem SA.step{h':Heap}{iA X:List Addr}(S:St g s U J)(T:KA s.heap h' U iA X)(hX:∀b∈X,∀os,¬IsTup s.heap b os){v:V}{x:Value}(r:SA g s.heap U v x):SA g h' iA v x:=
 SA.congr (fun u0 u0 t=>T.tup hX S.ownAll t) T.loc v x r
theorem MA.step{h':Heap}{iA X:List Addr}(S:St g s U J)(T:KA s.heap h' U iA X)(hX:∀b∈X,∀os,¬IsTup s.heap b os){v:List V}{x:List Value}(r:MA g s.heap U v x):MA g h' iA v x:=
 MA.congr (fun u0 u0 t=>T.tup hX S.ownAll t) T.loc v x r
theorem SA.step0{h':Heap}{iA:List Addr}(S:St g s U J)(T:KA s.heap h' U iA []){v:V}{x:Value}(r:SA g s.heap U v x):SA g h' iA v x:=r.step S T fun u0 m=>nomatch m
theorem MA.step0{h':Heap}{iA:List Addr}(S:St g s U J)(T:KA s.heap h' U iA []){v:List V}{x:List Value}(r:MA g s.heap U v x):MA g h' iA v x:=r.step S T fun u0 m=>nomatch m
theorem St.toks(S:St g s U J)(t:Nat):St g {s with toks:=t} U J:=⟨S.base,S.nodup,S.fresh,S.len,S.objs,S.gens,S.os⟩
theorem YC{h:Heap}(o:Obj){a:Addr}{os:Array Value}(t:IsTup h a os):IsTup (h.push o) a os:=let ⟨x,e,r⟩:=t;⟨x,Heap.get?_push_of_some _ e,r⟩
theorem St.pushU(S:St g s U J)(o:Obj):St g {s with heap:=s.heap.push o} U J where
 base:=fun b x e=>Heap.get?_push_of_some _ (S.base b x e)
 nodup:=S.nodup
 fresh:=S.fresh
 len:=S.len
 objs:=fun l a x e q=>by
  have r:=S.objs l a x e q
  obtain⟨y,ey,_⟩:=r.own
  exact r.congr ((Heap.get?_push_of_some _ ey).trans ey.symm) (fun u0 u0 t=>YC o t) (fun u0 u0 e=>e) fun b y e z=>⟨y,Heap.get?_push_of_some _ e,z⟩
 gens:=S.gens
 os:=S.os
theorem KA.pushU(h:Heap)(U:List Addr)(o:Obj):KA h (h.push o) U U []:=
 ⟨⟨[],by simp,fun u0 m=>nomatch m⟩,fun b x e u0 u0=>⟨x,Heap.get?_push_of_some _ e, .refl x⟩,fun b x e u0=>⟨x,Heap.get?_push_of_some _ e,rfl,id⟩,fun b x e=>⟨x,Heap.get?_push_of_some _ e⟩,fun a ⟨x,vs,tb,c,e,k,d,t⟩=>⟨x,vs,tb,c,Heap.get?_push_of_some _ e,k,d,t⟩⟩
theorem St.pushT(S:St g s U J)(o:Obj)(x:O)(ho:o.isFreed=false)(r:bF g (s.heap.push o) (U++[s.heap.objs.size]) s.heap.objs.size x):St g {s with heap:=s.heap.push o} (U++[s.heap.objs.size]) (J++[x]) where
 base:=fun b y e=>Heap.get?_push_of_some _ (S.base b y e)
 nodup:=List.nodup_append.mpr ⟨S.nodup,by simp,fun a m b m'=>by
  rw[List.mem_singleton.mp m']
  exact Nat.ne_of_lt (S.lt m)⟩
 fresh:=fun a m=>by
  rcases List.mem_append.mp m with q | q
  ·exact S.fresh a q
  ·rw[List.mem_singleton.mp q];exact S.new
 len:=by simp[S.len]
 objs:=fun l a y e q=>by
  by_cases hl:l < U.length
  ·rw[List.getElem?_append_left hl]at e
   rw[List.getElem?_append_left (S.len ▸ hl)]at q
   have r':=S.objs l a y e q
   obtain⟨z,ez,_⟩:=r'.own
   refine r'.congr ((Heap.get?_push_of_some _ ez).trans ez.symm) (fun u0 u0 t=>YC o t) (fun l a e=>?_) fun b z e z'=>⟨z,Heap.get?_push_of_some _ e,z'⟩
   rw[List.getElem?_append_left (List.getElem?_eq_some_iff.mp e).1];exact e
  ·have hl':U.length<=l:=Nat.le_of_not_lt hl
   rw[List.getElem?_append_right hl']at e
   rw[List.getElem?_append_right (S.len ▸ hl'), <-S.len]at q
   have h0:l - U.length=0:=by
    have:=(List.getElem?_eq_some_iff.mp e).1
    simpa using this
   rw[h0]at e q
   cases e;cases q
   exact r
 gens:=S.gens
 os:=S.os
theorem KA.pushT(h:Heap)(U:List Addr)(o:Obj):KA h (h.push o) U (U++[h.objs.size]) []:=
 ⟨⟨[h.objs.size],rfl,fun a m=>bN (Nat.le_of_eq (List.mem_singleton.mp m).symm)⟩,fun b x e u0 u0=>⟨x,Heap.get?_push_of_some _ e, .refl x⟩,fun b x e u0=>⟨x,Heap.get?_push_of_some _ e,rfl,id⟩,fun b x e=>⟨x,Heap.get?_push_of_some _ e⟩,fun a ⟨x,vs,tb,c,e,k,d,t⟩=>⟨x,vs,tb,c,Heap.get?_push_of_some _ e,k,d,t⟩⟩
theorem fB(U:List Addr)(a:Addr):(U++[a])[U.length]?=some a:=by simp
end
end
set_option genCtorIdx true in
inductive iE where
 | ok (v:V)
 | exn (l:Nat)
noncomputable def vb(g:G)(h:Heap)(env:Env):Prop:=
 env.scope.kind= .function/\∃L o,env.frame=some L/\g.WA.get? L=none/\h.get? L=some o/\o.cls= .type "frame"/\nB o
structure Cx(g:G)(A:Around)(s:Shared)(U:List Addr)(d:Nat)(hd:Option Nat):Prop where
 depth:A.depth+d<=980
 units:A.units+60*(d+1)<=9000
 hand:match hd with | none=>A.handled=none | some l=>∃a,U[l]?=some a/\A.handled=some (.ref a)
 stk:∃fr,A.frames=some fr/\∀env∈fr,vb g s.heap env
inductive mA(g:G)(h:Heap)(U:List Addr)(X:List Addr)(Q:V->List O->Prop)(v:Value)(s':Shared):Prop
 | mk (mv:V) (NA:List O) (iA:List Addr) (q:Q mv NA) (r:SA g s'.heap iA mv v) (S:St g s' iA NA) (T:KA h s'.heap U iA X)
inductive jY(J:List O)(l:Nat):Prop
 | mk (C:Addr) (dl:Nat) (h:J[l]?=some (.exc C dl))
inductive VA(g:G)(h:Heap)(U:List Addr)(X:List Addr)(E:Nat->List O->Prop)(e:Value)(s':Shared):Prop
 | mk (l:Nat) (NA:List O) (iA:List Addr) (a:Addr) (q:E l NA) (r:iA[l]?=some a) (e:e= .ref a) (x:jY NA l) (S:St g s' iA NA) (T:KA h s'.heap U iA X)
noncomputable def TD(s:Shared)(e:Value):Prop:=∃a,e= .ref a/\mI s.heap a
noncomputable def mY(g:G)(h:Heap)(U:List Addr)(R:iE->List O->Prop)(r:Result)(s':Shared):Prop:=match r with
 | .ok (.ret v)=>mA g h U [] (fun v J=>R (.ok v) J) v s'
 | .ok _=>False
 | .error e=>VA g h U [] (fun l J=>R (.exn l) J) e s'/\TD s' e
noncomputable def CallOk(g:G)(d:Nat)(hd:Option Nat)(f:Value)(vs:List V)(J:List O)(R:iE->List O->Prop):Prop:=
 ∀(A:Around) (s:Shared) (U:List Addr) (xs:List Value),Cx g A s U d hd->St g s U J->MA g s.heap U vs xs->
  codeAny (model g.prog g.w) A (.call f ⟨xs,[]⟩) (mY g s.heap U R) s
noncomputable def cT(vs:List V)(D:Prop)(f:Nat->List Nat->Prop):Prop:=match vs with
 | []=>D
 | a::r=>match a with
   | .loc l=>(match r with
     | []=>D
     | b::r=>match b with
       | .str s=>(match r with
         | []=>f l s
         | _::_=>D)
       | _=>D)
   | _=>D
mutual
inductive IE where
 | var (i:Nat)
 | glob (v:Value)
 | none
 | bool (b:Bool)
 | int (i:Int)
 | str (s:List Nat)
 | bin (op:Operator) (a b:IE)
 | cmp (op:CmpOp) (a b:IE)
 | cmp2 (a:IE) (op1:CmpOp) (b:IE) (op2:CmpOp) (c:IE)
 | and (es:nI)
 | neg (a:IE)
 | ite (c:IT) (a b:IE)
 | tup (es:nI)
 | lst (es:nI)
 | dct (ks:List (List Nat)) (vs:nI)
 | idx (a i:IE)
 | slc (a lo hi:IE)
 | slc3 (a lo st:IE)
 | attr (a:IE) (n:List Nat)
 | call (f:IE) (as:nI)
 | meth (o:IE) (n:List Nat) (as:nI)
 | comp (e:IE) (cap:List Nat) (tgt:List Nat) (it:IE)
 | compR (e:IE) (cap:List Nat) (tgt:Nat) (hi:IE)
inductive nI where
 | nil
 | cons (e:IE) (r:nI)
inductive IT where
 | e (e:IE)
 | not (t:IT)
 | and (ts:HU)
 | or (ts:HU)
inductive HU where
 | nil
 | cons (t:IT) (r:HU)
end
mutual
inductive IS where
 | assign (i:Nat) (e:IE)
 | unpk (is:List Nat) (e:IE)
 | swap (is:List Nat) (es:nI)
 | setAttr (o:IE) (n:List Nat) (e:IE)
 | setAttr2 (o1:IE) (n1:List Nat) (o2:IE) (n2:List Nat) (e:IE)
 | setIdx (o i e:IE)
 | aug (i:Nat) (op:Operator) (e:IE)
 | augAttr (o:IE) (n:List Nat) (op:Operator) (e:IE)
 | expr (e:IE)
 | ret (e:IE)
 | ret0
 | ite (c:IT) (a b:ME)
 | whl (c:IT) (b:ME)
 | for1 (i:Nat) (it:IE) (b:ME)
 | forT (is:List Nat) (it:IE) (b:ME)
 | forR0 (i:Nat) (hi:IE) (b:ME)
 | forR (i:Nat) (lo hi:IE) (b:ME)
 | forE (i j:Nat) (it:IE) (b:ME)
 | raise (e:IE)
 | tryE (b:ME) (C:Addr) (i:Nat) (hb:ME)
 | tryF (b f:ME)
 | brk
 | pass
inductive ME where
 | nil
 | cons (s:IS) (r:ME)
end
noncomputable def cK{α:Type}(s:List α)(i:Int):Option α:=if 0<=i then s[i.toNat]? else if 0<=i+s.length then s[(i+s.length).toNat]? else none
noncomputable def XD(n:Nat)(i:Int):Nat:=if i < 0 then(i+n).toNat else min i.toNat n
noncomputable def ff(n:Nat):V->Option Nat
 | .none=>some 0
 | .int i=>some (XD n i)
 | _=>none
noncomputable def xe(n:Nat):V->Option Nat
 | .none=>some n
 | .int i=>some (XD n i)
 | _=>none
noncomputable def gF{α:Type}(s:List α)(lo hi:Nat):List α:=(s.take hi).drop lo
noncomputable def uJ(op:Operator)(a b:V):Option V:=match a with
 | .int a=>(match b with
   | .int b=>(match op with
     | .Add=>some (.int (a+b))
     | .Sub=>some (.int (a - b))
     | .Mult=>if a.natAbs < 2^32/\b.natAbs < 2^32 then some (.int (a*b))else none
     | .FloorDiv=>if 0 < b/\b.natAbs.log2 < 9000 then some (.int (Int.fdiv a b))else none
     | .Mod=>if 0 < b/\b.natAbs.log2 < 9000 then some (.int (Int.fmod a b))else none
     | .Pow=>if a=10/\b=60 then some (.int (10^60))else none
     | _=>none)
   | _=>none)
 | .str a=>(match op with
   | .Add=>(match b with
     | .str b=>if a.length+b.length<=sizeLine then some (.str (a++b))else none
     | _=>none)
   | .Mult=>(match b with
     | .int n=>if a=[119]/\n=60 then some (.str (List.replicate 60 119))else none
     | _=>none)
   | _=>none)
 | _=>none
theorem eE{α:Type}{v:α}{P:Prop}(h:none=some v):P:=nomatch h
noncomputable def Na:O->Option (List V)
 | .list vs=>some vs
 | _=>none
noncomputable def dictOf:O->Option (List (List Nat×V))
 | .dict kvs _=>some kvs
 | _=>none
noncomputable def rA(J:List O)(l:Nat):Option (List V):=(J[l]?).bind Na
theorem TA{J:List O}{l:Nat}{xs:List V}(h:J[l]?=some (.list xs)):rA J l=some xs:=by unfold rA;rw[h];rfl
theorem OQ{J:List O}{l:Nat}{vs:List V}(h:rA J l=some vs):J[l]?=some (.list vs):=by
 unfold rA at h
 rcases e:J[l]? with _ | o
 ·rw[e]at h;exact eE h
 ·rw[e]at h
  induction o using O.casesOn with
  | list k=>cases h;rfl
  | _=>exact eE h
noncomputable def dictAt(J:List O)(l:Nat):Option (List (List Nat×V)):=(J[l]?).bind dictOf
theorem JF{J:List O}{l:Nat}{kvs:List (List Nat×V)}{ep:Nat}(h:J[l]?=some (.dict kvs ep)):dictAt J l=some kvs:=by unfold dictAt;rw[h];rfl
theorem oK{J:List O}{l:Nat}{kvs:List (List Nat×V)}(h:dictAt J l=some kvs):∃ep,J[l]?=some (.dict kvs ep):=by
 unfold dictAt at h
 rcases e:J[l]? with _ | o
 ·rw[e]at h;exact eE h
 ·rw[e]at h
  induction o using O.casesOn with
  | dict k ep=>cases h;exact⟨ep,rfl⟩
  | _=>exact eE h
noncomputable def qH(J:List O)(l:Nat):Option (List (List Nat×V)):=match J[l]? with | some (.ad kvs)=>some kvs | _=>none
noncomputable def cD(J:List O)(l:Nat):Option (Addr×Nat×List (List Nat×V)):=match J[l]? with
 | some (.inst C dl)=>(qH J dl).map fun kvs=>(C,dl,kvs)
 | some (.exc C dl)=>(qH J dl).map fun kvs=>(C,dl,kvs)
 | _=>none
noncomputable def BB(k:List Nat)(v:V):List (List Nat×V)->List (List Nat×V)
 | []=>[(k,v)]
 | (k',v')::r=>if k'=k then(k',v)::r else(k',v')::BB k v r
theorem BB.r1{k:List Nat}{v:V}:BB k v []=([(k,v)]):=rfl
theorem BB.r2{k:List Nat}{v:V}:BB k v ((k',v')::r)=(if k'=k then(k',v)::r else(k',v')::BB k v r):=rfl
noncomputable def zU:V->Option PyData
 | .none=>some .none
 | .bool b=>some (.bool b)
 | .int i=>some (.int i)
 | .str s=>some (.str ⟨s.toArray⟩)
 | _=>none
noncomputable def PQ(f:V->Option PyData):List V->Option (List PyData)
 | []=>some []
 | v::vs=>match f v with
   | some d=>(match PQ f vs with
     | some ds=>some (d::ds)
     | none=>none)
   | none=>none
noncomputable def lL(J:List O):Nat->V->Option PyData
 | 0,v=>zU v
 | n+1,v=>match v with
   | .tup vs=>(PQ (lL J n) vs).map .tuple
   | .loc l=>(rA J l).bind fun vs=>(PQ (lL J n) vs).map .list
   | v=>zU v
noncomputable def LM(J:List O)(n:Nat)(vs:List V):Option (List PyData):=PQ (lL J n) vs
theorem pf{J:List O}{n:Nat}:LM J n []=some []:=rfl
theorem PD{J:List O}{n:Nat}{v:V}{vs:List V}:LM J n (v::vs)=match lL J n v with
 | some d=>(match LM J n vs with
   | some ds=>some (d::ds)
   | none=>none)
 | none=>none:=rfl
theorem GN{J:List O}{n:Nat}{vs:List V}:lL J (n+1) (.tup vs)=(LM J n vs).map .tuple:=rfl
theorem KZ{J:List O}{n l:Nat}:lL J (n+1) (.loc l)=(rA J l).bind fun vs=>(LM J n vs).map .list:=rfl
theorem US{J:List O}{n l:Nat}{vs:List V}(h:J[l]?=some (.list vs)):lL J (n+1) (.loc l)=(LM J n vs).map .list:=by rw[KZ,TA h];rfl
theorem SH{J:List O}:∀{n:Nat} {s:List Nat},lL J n (.str s)=some (.str ⟨s.toArray⟩)
 | 0,_=>rfl
 | _+1,_=>rfl
theorem kP{J:List O}:∀{n:Nat} {s:Int},lL J n (.int s)=some (.int s)
 | 0,_=>rfl
 | _+1,_=>rfl
noncomputable def IU(J:List O)(n:Nat)(a b:V):Option Bool:=(lL J 80 a).bind fun D=>(lL J n b).map fun D'=>PyData.eqv D D'
theorem sI{J:List O}{n:Nat}{a b:V}{D D':PyData}(e1:lL J 80 a=some D)(e2:lL J n b=some D'):IU J n a b=some (PyData.eqv D D'):=by unfold IU;rw[e1,e2];rfl
noncomputable def Je:V->Option (List Nat)
 | .str s=>some s
 | _=>none
noncomputable def Ud:V->Option Int
 | .int s=>some s
 | _=>none
noncomputable def iC:List V->Option (List (List Nat))
 | []=>some []
 | v::r=>(Je v).bind fun s=>(iC r).map (s:: ·)
noncomputable def uI:List V->Option (List Int)
 | []=>some []
 | v::r=>(Ud v).bind fun s=>(uI r).map (s:: ·)
noncomputable def Cb(x:List Nat)(s:List Nat):Option Bool:=match x with
 | [c]=>some (s.contains c)
 | _=>none
noncomputable def RQ(J:List O)(x c:V):Option Bool:=match x with
 | .str x=>(match c with
   | .tup vs=>(iC vs).map fun ss=>ss.contains x
   | .str s=>Cb x s
   | .loc l=>(dictAt J l).map fun kvs=>(QA x kvs).isSome
   | _=>none)
 | .int x=>(match c with
   | .tup vs=>(uI vs).map fun ss=>ss.contains x
   | .loc l=>(rA J l).bind fun vs=>(uI vs).map fun ss=>ss.contains x
   | _=>none)
 | _=>none
noncomputable def iD:V->Option Bool
 | .none=>some true
 | .val _=>none
 | _=>some false
noncomputable def xf(a b:V):Option Bool:=match b with
 | .none=>iD a
 | _=>none
noncomputable def xH(J:List O)(op:CmpOp)(a b:V):Option Bool:=match op with
 | .Eq=>IU J 8 a b
 | .NotEq=>(IU J 8 a b).map (!·)
 | .Lt=>(match a with | .int a=>(match b with | .int b=>some (decide (a < b)) | _=>none) | _=>none)
 | .LtE=>(match a with | .int a=>(match b with | .int b=>some (decide (a<=b)) | _=>none) | _=>none)
 | .Gt=>(match a with | .int a=>(match b with | .int b=>some (decide (b < a)) | _=>none) | _=>none)
 | .GtE=>(match a with | .int a=>(match b with | .int b=>some (decide (b<=a)) | _=>none) | _=>none)
 | .In=>RQ J a b
 | .NotIn=>(RQ J a b).map (!·)
 | .Is=>xf a b
 | .IsNot=>(xf a b).map (!·)
theorem iZ{J:List O}{a b:V}:xH J .Eq a b=IU J 8 a b:=rfl
theorem qU{J:List O}{a b:V}:xH J .NotEq a b=(IU J 8 a b).map (!·):=rfl
noncomputable def nL(J:List O):V->Option Bool
 | .none=>some false
 | .bool b=>some b
 | .int i=>some (decide (i≠0))
 | .str s=>some (!s.isEmpty)
 | .tup vs=>some (!vs.isEmpty)
 | .loc l=>match J[l]? with
   | some (.list vs)=>some (!vs.isEmpty)
   | some (.dict kvs _)=>some (!kvs.isEmpty)
   | _=>none
 | _=>none
noncomputable def QT(g:G)(J:List O)(x y:V):Option V:=match x with
 | .str s=>(match y with
   | .int i=>(cK s i).map fun c=> .str [c]
   | _=>none)
 | .tup vs=>(match y with
   | .int i=>cK vs i
   | _=>none)
 | .loc l=>(match y with
   | .int i=>(rA J l).bind fun vs=>cK vs i
   | .str k=>(dictAt J l).bind (QA k)
   | _=>none)
 | .script=>(match y with
   | .int i=>(cK g.ns i).map .int
   | _=>none)
 | _=>none
noncomputable def aG:V->Bool
 | .val (.builtin _)=>false
 | _=>true
noncomputable def CH(g:G)(J:List O)(v:V)(n:List Nat):Option V:=match v with
 | .loc l=>(cD J l).bind fun x=>if qD x.1 n=true then(QA n x.2.2).bind fun v=>if aG v=true then some v else none else none
 | _=>none
noncomputable def eD(J:List O)(a lo hi:V)(Q:V->List O->Prop):Prop:=match a with
 | .str s=>∃i j,ff s.length lo=some i/\xe s.length hi=some j/\Q (.str (gF s i j)) J
 | .loc l=>∃vs i j,rA J l=some vs/\vs.length<=100000/\ff vs.length lo=some i/\xe vs.length hi=some j/\Q (.loc J.length) (J++[.list (gF vs i j)])
 | .tup vs=>∃k:Nat,lo= .int (k:Int)/\hi= .none/\1<=k/\k<=vs.length/\vs.length<=1000/\Q (.tup (vs.drop k)) J
 | _=>False
noncomputable def GX(J:List O)(op:Operator)(a b:V)(Q:V->List O->Prop):Prop:=match a with
 | .loc x=>(match b with
   | .loc y=>op= .Add/\∃xs ys,rA J x=some xs/\rA J y=some ys/\xs.length+ys.length<=100000/\Q (.loc J.length) (J++[.list (xs++ys)])
   | _=>False)
 | _=>∃v,uJ op a b=some v/\Q v J
noncomputable def AG(J:List O)(n:Nat):V->Option (List V)
 | .tup vs=>if vs.length=n then some vs else none
 | .loc l=>(rA J l).bind fun vs=>if vs.length=n then some vs else none
 | _=>none
noncomputable def dA(sep:List Nat):List (List Nat)->List Nat
 | []=>[]
 | [x]=>x
 | x::y::r=>x++sep++dA sep (y::r)
theorem dA.r1{sep:List Nat}:dA sep []=([]):=rfl
theorem dA.r2{sep:List Nat}:dA sep [x]=(x):=rfl
theorem dA.r3{sep:List Nat}:dA sep (x::y::r)=(x++sep++dA sep (y::r)):=rfl
noncomputable def vD(s:List Nat)(c:Nat)(i:Nat):Int:=match (s.drop i).findIdx? (· ==c)with
 | some j=>((i+j:Nat):Int)
 | none=> -1
noncomputable def fA(c:Nat):List Nat->List (List Nat)
 | []=>[[]]
 | x::r=>if x=c then[]::fA c r else match fA c r with
   | []=>[[x]]
   | y::ys=>(x::y)::ys
theorem fA.r1{c:Nat}:fA c []=([[]]):=rfl
theorem fA.r2{c:Nat}:fA c (x::r)=(if x=c then[]::fA c r else match fA c r with
 | []=>[[x]]
 | y::ys=>(x::y)::ys):=rfl
noncomputable def df(g:G)(J:List O):V->Option Nat
 | .str s=>some s.length
 | .tup vs=>some vs.length
 | .script=>some g.ns.length
 | .loc l=>match J[l]? with
   | some (.list vs)=>some vs.length
   | some (.dict kvs _)=>some kvs.length
   | _=>none
 | _=>none
noncomputable def FG(g:G)(hd:Option Nat)(f:Value)(vs:List V)(J:List O)(Q:V->List O->Prop):Prop:=match f with
 | .builtin f=>
   if f="len" then(match vs with
    | [v]=>∃n,df g J v=some n/\Q (.int n) J
    | _=>False)
   else if f="ord" then(match vs with
    | [v]=>(match v with
      | .str s=>(match s with
        | [c]=>Q (.int c) J
        | _=>False)
      | _=>False)
    | _=>False)
   else if f="chr" then(match vs with
    | [v]=>(match v with
      | .int i=>0<=i/\i < 55296/\Q (.str [i.toNat]) J
      | _=>False)
    | _=>False)
   else if f="isinstance" then(match vs with
    | [x,y]=>(match y with
      | .val c=>(match x with
        | .str _=>(match c with
          | .ref C=>Wa C=true/\Q (.bool false) J
          | _=>False)
        | .tup _=>c= .type "tuple"/\Q (.bool true) J
        | _=>False)
      | _=>False)
    | _=>False)
   else if f="sum" then(match vs with
    | [v]=>(match v with
      | .loc l=>hd=none/\∃vs ns,rA J l=some vs/\uI vs=some ns/\Q (.int ns.sum) J
      | _=>False)
    | _=>False)
   else if f="sorted" then(match vs with
    | [v]=>(match v with
      | .loc l=>hd=none/\∃kvs ep,J[l]?=some (.dict kvs ep)/\kvs.length < 64/\∀ss:List (List Nat),(ss.map fun x=>(⟨x.toArray⟩:Str)).Perm (kvs.map fun kv=>⟨kv.1.toArray⟩)->PyProof.Rows.sortedS (ss.map fun x=>⟨x.toArray⟩)=true->Q (.loc J.length) (J++[.list (ss.map .str)])
      | _=>False)
    | _=>False)
   else False
 | .type f=>
   if f="tuple" then(match vs with
    | [v]=>(match v with
      | .loc l=>∃vs,rA J l=some vs/\vs.length<=100000/\Q (.tup vs) J
      | _=>False)
    | _=>False)
   else if f="list" then(match vs with
    | [v]=>(match v with
      | .loc l=>∃vs,rA J l=some vs/\vs.length<=100000/\Q (.loc J.length) (J++[.list vs])
      | _=>False)
    | _=>False)
   else False
 | _=>False
noncomputable def PN(vs:List V)(f:V->Prop):Prop:=match vs with
 | []=>False
 | v::r=>match r with
   | []=>f v
   | _::_=>False
noncomputable def aZ(vs:List V)(f:V->V->Prop):Prop:=match vs with
 | []=>False
 | v::r=>PN r (f v)
noncomputable def MS(v:V)(f:Nat->Prop):Prop:=match v with
 | .str t=>(match t with
   | []=>False
   | c::t=>match t with
     | []=>f c
     | _::_=>False)
 | _=>False
noncomputable def fX(v:V)(f:Int->Prop):Prop:=match v with
 | .int i=>f i
 | _=>False
noncomputable def Oa(v:V)(f:Nat->Prop):Prop:=match v with
 | .loc l=>f l
 | _=>False
noncomputable def Ie(v:V)(f:List Nat->Prop):Prop:=match v with
 | .str s=>f s
 | _=>False
noncomputable def sA(J:List O)(s:List Nat)(n:List Nat)(vs:List V)(Q:V->List O->Prop):Prop:=
 if n=[102,105,110,100]then(match vs with
  | []=>False
  | v::r=>MS v fun c=>match r with
    | []=>Q (.int (vD s c 0)) J
    | w::r=>PN (w::r) fun w=>fX w fun i=>0<=i/\i<=s.length/\Q (.int (vD s c i.toNat)) J)
 else if n=[106,111,105,110]then PN vs fun v=>Oa v fun l=>∃xs ss,rA J l=some xs/\iC xs=some ss/\(ss.map List.length).sum+ss.length*s.length<=16777216/\(dA s ss).length<=sizeLine/\Q (.str (dA s ss)) J
 else if n=[99,111,117,110,116]then PN vs fun v=>MS v fun c=>Q (.int (s.count c)) J
 else if n=[115,112,108,105,116]then PN vs fun v=>MS v fun c=>s.length<=1000000/\Q (.loc J.length) (J++[.list ((fA c s).map .str)])
 else False
noncomputable def eG:List (List Nat):=[[102,105,110,100],[106,111,105,110],[99,111,117,110,116],[115,112,108,105,116]]
noncomputable def RF:List (List Nat):=[[97,112,112,101,110,100],[101,120,116,101,110,100],[112,111,112],[105,110,115,101,114,116]]
noncomputable def KF:List (List Nat):=[[112,111,112]]
noncomputable def XB(J:List O)(l:Nat)(xs:List V)(n:List Nat)(vs:List V)(Q:V->List O->Prop):Prop:=
 if n=[97,112,112,101,110,100]then PN vs fun v=>xs.length<=100000/\Q .none (J.set l (.list (xs++[v])))
 else if n=[101,120,116,101,110,100]then PN vs fun v=>Oa v fun y=>∃ys,rA J y=some ys/\y≠l/\xs.length+ys.length<=100000/\Q .none (J.set l (.list (xs++ys)))
 else if n=[112,111,112]then PN vs fun v=>v= .int 1/\match xs with
  | []=>False
  | x::t=>match t with
    | []=>False
    | y::r=>r.length<=100000/\Q y (J.set l (.list (x::r)))
 else if n=[105,110,115,101,114,116]then aZ vs fun w v=>w= .int 1/\match xs with
  | []=>False
  | x::r=>r.length<=100000/\Q .none (J.set l (.list (x::v::r)))
 else False
noncomputable def NE(J:List O)(l:Nat)(kvs:List (List Nat×V))(n:List Nat)(vs:List V)(Q:V->List O->Prop):Prop:=
 if n=[112,111,112]then aZ vs fun v w=>w= .none/\Ie v fun k=>QA k kvs=none/\Q .none J
 else False
noncomputable def WL(v:Value):Option Addr:=match v with
 | .ref a=>some a
 | _=>none
theorem YL{v:Value}{a:Addr}(h:WL v=some a):v= .ref a:=by
 induction v using Value.casesOn with
 | ref b=>cases h;rfl
 | _=>cases h
noncomputable def tU(r:CFound):Option Value:=match r with
 | .val v=>some v
 | _=>none
noncomputable def SQ(K:Frag)(C:Addr)(n:List Nat):Option Addr:=(findIn K (.ref C) ⟨n.toArray⟩).bind fun o=>o.bind fun v=>(WL v).bind fun f=>if isFn K (.ref f)&&keepIn K (.ref f)&&plainGet K C ⟨n.toArray⟩then some f else none
noncomputable def qY(K:Frag)(C:Addr)(n:List Nat):Option Addr:=(typeIn K (.ref C)).bind fun mc=>if readsIn K C mc&&specialIn K (.ref C) "__getattribute__"==some (some (.builtin "type.__getattribute__"))then
 (findCls K (.ref C) mc ⟨n.toArray⟩).bind fun r=>(tU r).bind fun v=>(WL v).bind fun f=>if isFn K (.ref f)&&keepIn K (.ref f)then some f else none else none
noncomputable def ND(cap:List Nat)(Z:List (Option V)):List (Option V):=(List.range Z.length).map fun i=>if cap.contains i then(Z[i]?).join else none
noncomputable def rB(Z:List (Option V)):List Nat->List V->List (Option V)
 | [],_=>Z
 | i::is,vs=>match vs with
   | []=>Z
   | v::vs=>rB (Z.set i (some v)) is vs
theorem JW{Z:List (Option V)}{vs:List V}:rB Z [] vs=Z:=rfl
theorem cL{Z:List (Option V)}{i:Nat}{is:List Nat}{v:V}{vs:List V}:rB Z (i::is) (v::vs)=rB (Z.set i (some v)) is vs:=rfl
noncomputable def Xe(J:List O)(tgt:List Nat)(x:V):Option (List V):=match tgt with
 | [_]=>some [x]
 | _=>AG J tgt.length x
noncomputable def AN(x y z:V)(J:List O)(Q:V->List O->Prop):Prop:=match x with
 | .script=>fX y fun i=>fX z fun n=>0<=i/\n=5/\∀js:List Int,js.length<=63->Q (.loc J.length) (J++[.list (js.map .int)])
 | _=>False
inductive Fl where
 | next
 | brk
 | ret (v:V)
noncomputable def CX(op:Operator)(x y:V):Option V:=match x with
 | .int a=>(match y with
   | .int b=>(match op with
     | .Add=>some (.int (a+b))
     | .Sub=>some (.int (a - b))
     | _=>none)
   | _=>none)
 | .str a=>(match y with
   | .str b=>(match op with
     | .Add=>if a.length+b.length<=sizeLine then some (.str (a++b))else none
     | _=>none)
   | _=>none)
 | _=>none
noncomputable def qN(l:List Value):Bool:=l==[.type "object"]||l==[.type "Exception", .type "BaseException", .type "object"]
noncomputable def VI:List Value->Bool
 | []=>qN []
 | v::r=>match WL v with
   | some _=>VI r
   | none=>qN (v::r)
noncomputable def fJ(K:Frag)(C:Addr)(n:List Nat):Bool:=
 findIn K (.ref C) "__setattr__"==some (some (.builtin "object.__setattr__"))&&(clsIn K C).any (fun cd=>VI cd.mro)&&(subIn K (.ref C) (.type "object")==some true)&&(takerIn K C ⟨n.toArray⟩==some none)&&hasDictIn K C
noncomputable def XN:O->Option Addr
 | .exc0 C=>some C
 | _=>none
noncomputable def yG(g:G)(J:List O)(x:V)(n:List Nat)(v:V)(Q:List O->Prop):Prop:=match x with
 | .loc l=>(match (J[l]?).bind XN with
   | some C=>qD C n=true/\n.length<=1000/\Q ((J++[O.ad [(n,v)]]).set l (O.exc C J.length))
   | none=>∃C dl kvs,cD J l=some (C,dl,kvs)/\qD C n=true/\kvs.length<=1000/\n.length<=1000/\Q (J.set dl (.ad (BB n v kvs))))
 | _=>False
noncomputable def rF(J:List O)(x i v:V)(Q:List O->Prop):Prop:=match x with
 | .loc l=>(match i with
   | .str k=>∃kvs,dictAt J l=some kvs/\kvs.length<=100000/\∀ep,Q (J.set l (.dict (BB k v kvs) ep))
   | .int i=>∃xs,rA J l=some xs/\(if 0<=i then i.toNat < xs.length/\Q (J.set l (.list (xs.set i.toNat v)))else 0<=i+xs.length/\Q (J.set l (.list (xs.set (i+xs.length).toNat v))))
   | _=>False)
 | _=>False
noncomputable def vI(J:List O)(x:V)(k:Nat):Option (Option V):=match x with
 | .tup vs=>some vs[k]?
 | .loc l=>match J[l]? with
   | some (.list vs)=>some vs[k]?
   | _=>none
 | _=>none
structure eA where
 np:Nat
 nm:List (List Nat)
 dflt:List V
 body:ME
noncomputable def eA.start(F:eA)(vs:List V):List (Option V):=
 let vs:=vs++F.dflt.drop (F.dflt.length - (F.np - vs.length))
 vs.map some++List.replicate (F.nm.length - F.np) none
theorem LA:sizeLine=16777216:=rfl
noncomputable def JQ(K:Frag)(C:Addr)(n:List Nat):Bool:=findIn K (.ref C) "__getattribute__"==some (some (.builtin "BaseException.__getattribute__"))&&findIn K (.ref C) "__getattr__"==some none&&hasDictIn K C&&(match findIn K (.ref C) ⟨n.toArray⟩with | some a=>noGet K a | none=>false)
noncomputable def WR(K:Frag)(C:Addr)(n:List Nat):Bool:=plainGet K C ⟨n.toArray⟩&&hasDictIn K C&&(match findIn K (.ref C) ⟨n.toArray⟩with | some a=>noGet K a | none=>false)
structure VC(g:G):Prop where
 K:g.K.In g.WA
 glob:∃mg,g.WA.Ns mainGlobals mg
 blt:∃mb,g.WA.Ns builtinsNs mb/\∀x:Str,x≠"__name__"->mb x=bootBuiltins x
 nolimit:g.WA.NoLimit
 tab:∀C n,qD C n=true->(if JU C=true then JQ g.K C n=true else WR g.K C n=true)/\fJ g.K C n=true
 mth:∀C n f,LL C n=some f->SQ g.K C n=some f
 cm:∀C n f,fZ C n=some f->qY g.K C n=some f
 kp:∀a,jX a=true->keepIn g.K (.ref a)=true
 nst:∀C,Wa C=true->isNotIn g.K "str" C=true
 exc:∀C,JU C=true->subIn g.K (.ref C) (.type "BaseException")=some true/\(subIn g.K (.ref C) (.type "Exception")=some true/\hasDictIn g.K C=true)/\typeIn g.K (.ref C)=some (.type "type")/\exmOne g.K (.ref C) (.ref C)=some true
 script:∃vs,g.WA.IsList g.sa vs/\IntsAre vs.toList g.ns/\g.ns.length<=63
section
variable{g:G}{s:Shared}{U:List Addr}{J:List O}
theorem MA.len{h:Heap}:∀{vs:List V} {xs:List Value},MA g h U vs xs->xs.length=vs.length
 | [],[],_=>rfl
 | v::vs,x::xs,⟨_,b⟩=>congrArg (· +1) (MA.len b)
 | [],_::_,r=>r.elim
 | _::_,[],r=>r.elim
theorem MA.get{h:Heap}:∀{vs:List V} {xs:List Value},MA g h U vs xs->∀{i:Nat} {v:V},vs[i]?=some v->∃x,xs[i]?=some x/\SA g h U v x
 | [],[],_,i,v,e=>by simp at e
 | v::vs,x::xs,⟨a,b⟩,i,w,e=>by
   induction i using Nat.casesOn with
   | zero=>simp at e;subst e;exact⟨x,rfl,a⟩
   | succ i=>simpa using MA.get b (i:=i) (v:=w) (by simpa using e)
 | [],_::_,r,_,_,_=>r.elim
 | _::_,[],r,_,_,_=>r.elim
theorem MA.append{h:Heap}:∀{vs ws:List V} {xs ys:List Value},MA g h U vs xs->MA g h U ws ys->MA g h U (vs++ws) (xs++ys)
 | [],_,[],_,_,b=>b
 | v::vs,_,x::xs,_,⟨a,r⟩,b=>⟨a,MA.append r b⟩
 | [],_,_::_,_,r,_=>r.elim
 | _::_,_,[],_,r,_=>r.elim
theorem MA.set{h:Heap}:∀{vs:List V} {xs:List Value},MA g h U vs xs->∀{i:Nat} {v:V} {x:Value},SA g h U v x->MA g h U (vs.set i v) (xs.set i x)
 | [],[],_,_,_,_,_=>trivial
 | v::vs,x::xs,⟨a,b⟩,i,w,y,r=>by
   induction i using Nat.casesOn with
   | zero=>exact⟨r,b⟩
   | succ i=>exact⟨a,MA.set b r⟩
 | [],_::_,r,_,_,_,_=>r.elim
 | _::_,[],r,_,_,_,_=>r.elim
theorem MA.drop{h:Heap}:∀{vs:List V} {xs:List Value} (n:Nat),MA g h U vs xs->MA g h U (vs.drop n) (xs.drop n)
 | _,_,0,r=>by simpa using r
 | [],[],n+1,r=>trivial
 | v::vs,x::xs,n+1,⟨_,r⟩=>by simpa using MA.drop n r
 | [],_::_,_+1,r=>r.elim
 | _::_,[],_+1,r=>r.elim
theorem MA.take{h:Heap}:∀{vs:List V} {xs:List Value} (n:Nat),MA g h U vs xs->MA g h U (vs.take n) (xs.take n)
 | _,_,0,r=>by simp;exact trivial
 | [],[],n+1,r=>trivial
 | v::vs,x::xs,n+1,⟨a,r⟩=>⟨a,MA.take n r⟩
 | [],_::_,_+1,r=>r.elim
 | _::_,[],_+1,r=>r.elim
theorem JM{h h':Heap}{a:Addr}{o:Obj}(hs:Heap.SameBut a h h')(ho:h.get? a=some o)(hc:oF o.cls=true):∀b os,IsTup h b os->IsTup h' b os:=fun b os t=>by
 obtain⟨x,e,c,r⟩:=t
 have:b≠a:=by rintro rfl;rw[ho]at e;cases e;rw[c]at hc;cases hc
 exact⟨x,(hs.2 b this).trans e,c,r⟩
theorem nN{h h':Heap}{a:Addr}{o:Obj}(hs:Heap.SameBut a h h')(ho:h.get? a=some o)(hc:oF o.cls=true):∀b x,h.get? b=some x->fE x->∃x',h'.get? b=some x'/\fE x':=fun b x e t=>by
 have:b≠a:=by rintro rfl;rw[ho]at e;cases e;rw[t.1]at hc;cases hc
 exact⟨x,(hs.2 b this).trans e,t⟩
theorem St.update(S:St g s U J){l:Nat}{a:Addr}{x':O}(hl:U[l]?=some a){h':Heap}(hs:Heap.SameBut a s.heap h')(r:bF g h' U a x')(t:Nat):St g {s with heap:=h',toks:=t} U (J.set l x'):=by
 have hm:a∈U:=List.mem_of_getElem? hl
 obtain⟨o,ho,hc⟩:=S.at hm
 refine⟨fun b y e=>?_,S.nodup,S.fresh,by simp[S.len],fun l' a' y e q=>?_,S.gens,S.os⟩
 ·have:b≠a:=by
   rintro rfl
   rw[(S.fresh _ hm).1]at e;cases e
  exact(hs.2 b this).trans (S.base b y e)
 ·by_cases hll:l=l'
  ·subst hll
   rw[hl]at e;cases e
   have:l < J.length:=S.len ▸ (List.getElem?_eq_some_iff.mp hl).1
   rw[List.getElem?_set_self this]at q;cases q
   exact r
  ·rw[List.getElem?_set_ne hll]at q
   have hne:a'≠a:=by
    rintro rfl
    obtain⟨h1,e1⟩:=List.getElem?_eq_some_iff.mp hl
    obtain⟨h2,e2⟩:=List.getElem?_eq_some_iff.mp e
    exact hll ((List.getElem_inj S.nodup).mp (e1.trans e2.symm))
   exact(S.objs l' a' y e q).congr (hs.2 _ hne) (JM hs ho hc) (fun u0 u0 e=>e) (nN hs ho hc)
theorem KA.update{h h':Heap}{l:Nat}{a:Addr}(hl:U[l]?=some a)(hs:Heap.SameBut a h h')(hb:∀o,h.get? a=some o->∃o',h'.get? a=some o')(ht:mI h a->mI h' a):KA h h' U U []:=
 ⟨⟨[],by simp,fun u0 m=>nomatch m⟩,fun b o e n u0=>⟨o,(hs.2 b fun q=>n (q ▸ List.mem_of_getElem? hl)).trans e, .refl o⟩,fun b o e n=>⟨o,(hs.2 b fun q=>n (q ▸ List.mem_of_getElem? hl)).trans e,rfl,id⟩,fun b o e=>by
   by_cases q:b=a
   ·subst q;exact hb o e
   ·exact⟨o,(hs.2 b q).trans e⟩,fun b q=>by
   by_cases k:b=a
   ·subst k;exact ht q
   ·obtain⟨x,vs,tb,c,e,r,u,v⟩:=q;exact⟨x,vs,tb,c,(hs.2 b k).trans e,r,u,v⟩⟩
theorem St.quiet(S:St g s U J){s':Shared}(hb:∀b o,g.WA.get? b=some o->s.heap.get? b=some o->s'.heap.get? b=some o)(AO:∀b∈U,s'.heap.get? b=s.heap.get? b)(ht:∀a os,IsTup s.heap a os->IsTup s'.heap a os)
 (htb:∀b o,s.heap.get? b=some o->fE o->∃o',s'.heap.get? b=some o'/\fE o') (hg:s'.gens=s.gens) (ho:s'.os=s.os):St g s' U J where
 base:=fun b o e=>hb b o e (S.base b o e)
 nodup:=S.nodup
 fresh:=S.fresh
 len:=S.len
 objs:=fun l a x e q=>(S.objs l a x e q).congr (AO a (List.mem_of_getElem? e)) ht (fun u0 u0 e=>e) htb
 gens:=hg.trans S.gens
 os:=ho.trans S.os
theorem St.ext(S:St g s U J){h':Heap}(k:∀b o,s.heap.get? b=some o->h'.get? b=some o)(t:Nat):St g {s with heap:=h',toks:=t} U J:=
 S.quiet (fun b o u0 e=>k b o e) (fun b m=>by obtain⟨o,e,_⟩:=S.at m;exact(k b o e).trans e.symm) (fun a os ⟨o,e,r⟩=>⟨o,k a o e,r⟩) (fun b o e t=>⟨o,k b o e,t⟩) rfl rfl
theorem KA.ext{h h':Heap}(U:List Addr)(k:∀b o,h.get? b=some o->h'.get? b=some o)(X:List Addr):KA h h' U U X:=
 ⟨⟨[],by simp,fun u0 m=>nomatch m⟩,fun b o e u0 u0=>⟨o,k b o e, .refl o⟩,fun b o e u0=>⟨o,k b o e,rfl,id⟩,fun b o e=>⟨o,k b o e⟩,fun a ⟨x,vs,tb,c,e,r,u,v⟩=>⟨x,vs,tb,c,k a x e,r,u,v⟩⟩
theorem ZP{α:Type}{l:List α}{i:Nat}{x:α}(h:l[i]?=some x):l.set i x=l:=by
 obtain⟨hl,rfl⟩:=List.getElem?_eq_some_iff.mp h
 exact List.set_getElem_self hl
theorem St.track(S:St g s U J){a:Addr}(x:O)(hn:a∉U)(h0:g.WA.get? a=none)(h1:100<=a)(r:bF g s.heap (U++[a]) a x):St g s (U++[a]) (J++[x]) where
 base:=S.base
 nodup:=List.nodup_append.mpr ⟨S.nodup,by simp,fun b m b' m'=>by
  rw[List.mem_singleton.mp m']
  rintro rfl
  exact hn m⟩
 fresh:=fun b m=>by
  rcases List.mem_append.mp m with q | q
  ·exact S.fresh b q
  ·rw[List.mem_singleton.mp q];exact⟨h0,h1⟩
 len:=by simp[S.len]
 objs:=fun l b y e q=>by
  by_cases hl:l < U.length
  ·rw[List.getElem?_append_left hl]at e
   rw[List.getElem?_append_left (S.len ▸ hl)]at q
   exact(S.objs l b y e q).congr rfl (fun u0 u0 t=>t) (fun l b e=>by rw[List.getElem?_append_left (List.getElem?_eq_some_iff.mp e).1];exact e) fun b z e z'=>⟨z,e,z'⟩
  ·have hl':U.length<=l:=Nat.le_of_not_lt hl
   rw[List.getElem?_append_right hl']at e
   rw[List.getElem?_append_right (S.len ▸ hl'), <-S.len]at q
   have h0:l - U.length=0:=by
    have:=(List.getElem?_eq_some_iff.mp e).1
    simpa using this
   rw[h0]at e q
   cases e;cases q
   exact r
 gens:=S.gens
 os:=S.os
theorem KA.track{h h':Heap}{iA X:List Addr}(T:KA h h' U iA X){a:Addr}(hn:h.get? a=none):KA h h' U (iA++[a]) X:=by
 obtain⟨⟨new,e,hp⟩,t2,t3,t4,t5⟩:=T
 refine⟨⟨new++[a],by rw[e];simp,fun b m=>?_⟩,t2,t3,t4,t5⟩
 rcases List.mem_append.mp m with q | q
 ·exact hp b q
 ·rw[List.mem_singleton.mp q];exact hn
theorem St.grow(S:St g s U J){h':Heap}(k:∀b o,s.heap.get? b=some o->h'.get? b=some o)(t:Nat)(x:O)(r:bF g h' (U++[s.heap.objs.size]) s.heap.objs.size x):St g {s with heap:=h',toks:=t} (U++[s.heap.objs.size]) (J++[x]):=by
 have DA:St g {s with heap:=h',toks:=t} U J:=
  {base:=fun b o e=>k b o (S.base b o e)
   nodup:=S.nodup
   fresh:=S.fresh
   len:=S.len
   objs:=fun l a y e q=>by
    have r:=S.objs l a y e q
    obtain⟨z,ez,_⟩:=r.own
    exact r.congr ((k a z ez).trans ez.symm) (fun a os ⟨o,e,r⟩=>⟨o,k a o e,r⟩) (fun u0 u0 e=>e) fun b y e z=>⟨y,k b y e,z⟩
   gens:=S.gens
   os:=S.os}
 exact DA.track x (fun m=>absurd (S.lt m) (Nat.lt_irrefl _)) S.new.1 S.new.2 r
theorem KA.grow{h h':Heap}(U:List Addr)(k:∀b o,h.get? b=some o->h'.get? b=some o):KA h h' U (U++[h.objs.size]) []:=
 ⟨⟨[h.objs.size],rfl,fun a m=>bN (Nat.le_of_eq (List.mem_singleton.mp m).symm)⟩,fun b o e u0 u0=>⟨o,k b o e, .refl o⟩,fun b o e u0=>⟨o,k b o e,rfl,id⟩,fun b o e=>⟨o,k b o e⟩,fun a ⟨x,vs,tb,c,e,r,u,v⟩=>⟨x,vs,tb,c,k a x e,r,u,v⟩⟩
inductive Cg(g:G)(h:Heap)(U:List Addr)(v:V)(xs:List Value):Prop
 | mk (x:Value) (e:xs=[x]) (r:SA g h U v x)
inductive Ig(g:G)(h:Heap)(U:List Addr)(v w:V)(xs:List Value):Prop
 | mk (x y:Value) (e:xs=[x,y]) (r:SA g h U v x) (t:SA g h U w y)
inductive Bg(g:G)(h:Heap)(U:List Addr)(v:V)(vs:List V)(xs:List Value):Prop
 | mk (x:Value) (r':List Value) (e:xs=x::r') (r:SA g h U v x) (t:MA g h U vs r')
inductive Df(g:G)(h:Heap)(U:List Addr)(v w:V)(vs:List V)(xs:List Value):Prop
 | mk (x y:Value) (r':List Value) (e:xs=x::y::r') (r:SA g h U v x) (u:SA g h U w y) (t:MA g h U vs r')
theorem MA.one{h:Heap}{v:V}{xs:List Value}(r:MA g h U [v] xs):Cg g h U v xs:=by
 rcases xs with _ | ⟨x,_ | ⟨_,_⟩⟩
 ·exact r.elim
 ·exact⟨x,rfl,r.1⟩
 ·exact r.2.elim
theorem MA.two{h:Heap}{v w:V}{xs:List Value}(r:MA g h U [v,w] xs):Ig g h U v w xs:=by
 rcases xs with _ | ⟨x,_ | ⟨y,_ | ⟨_,_⟩⟩⟩
 ·exact r.elim
 ·exact r.2.elim
 ·exact⟨x,y,rfl,r.1,r.2.1⟩
 ·exact r.2.2.elim
theorem MA.zero{h:Heap}{xs:List Value}(r:MA g h U [] xs):xs=[]:=by
 rcases xs with _ | ⟨_,_⟩
 ·rfl
 ·exact r.elim
theorem cF{vs:List V}{f:V->Prop}(h:PN vs f):∃v,vs=[v]/\f v:=by
 rcases vs with _ | ⟨v,_ | ⟨_,_⟩⟩ <;>first | exact⟨v,rfl,h⟩ | exact h.elim
theorem BR{vs:List V}{f:V->V->Prop}(h:aZ vs f):∃v w,vs=[v,w]/\f v w:=by
 rcases vs with _ | ⟨v,_ | ⟨w,_ | ⟨_,_⟩⟩⟩ <;>first | exact⟨v,w,rfl,h⟩ | exact h.elim
theorem cI{v:V}{f:Nat->Prop}(h:MS v f):∃c,v= .str [c]/\f c:=by
 induction v using V.casesOn with
 | str t=>rcases t with _ | ⟨c,_ | ⟨_,_⟩⟩ <;>first | exact⟨c,rfl,h⟩ | exact h.elim
 | _=>exact h.elim
theorem eN{v:V}{f:Int->Prop}(h:fX v f):∃i,v= .int i/\f i:=by
 induction v using V.casesOn with
 | int i=>exact⟨i,rfl,h⟩
 | _=>exact h.elim
theorem uR{v:V}{f:Nat->Prop}(h:Oa v f):∃l,v= .loc l/\f l:=by
 induction v using V.casesOn with
 | loc i=>exact⟨i,rfl,h⟩
 | _=>exact h.elim
theorem LY{v:V}{f:List Nat->Prop}(h:Ie v f):∃s,v= .str s/\f s:=by
 induction v using V.casesOn with
 | str i=>exact⟨i,rfl,h⟩
 | _=>exact h.elim
theorem pD{WA:Heap}{RA X:List Addr}{Q:V->List O->Prop}{v:Value}{s':Shared}{mv:V}{NA:List O}{iA:List Addr}(hq:Q mv NA)(r:SA g s'.heap iA mv v)(S:St g s' iA NA)(T:KA WA s'.heap RA iA X):mA g WA RA X Q v s':=⟨mv,NA,iA,hq,r,S,T⟩
theorem MD(S:St g s U J){Q:V->List O->Prop}{v:Value}{mv:V}(hq:Q mv J)(r:SA g s.heap U mv v)(t:Nat):mA g s.heap U [] Q v {s with toks:=t}:=⟨mv,J,U,hq,r,S.toks t, .refl ..⟩
theorem JP(S:St g s U J){Q:V->List O->Prop}{v:Value}{mv:V}(hq:Q mv J)(r:SA g s.heap U mv v):mA g s.heap U [] Q v s:=⟨mv,J,U,hq,r,S, .refl ..⟩
theorem mA.mono{WA:Heap}{RA X:List Addr}{Q Q':V->List O->Prop}{v:Value}{s':Shared}(p:mA g WA RA X Q v s')(k:∀v J,Q v J->Q' v J):mA g WA RA X Q' v s':=let ⟨a,b,c,q,r,S,T⟩:=p;⟨a,b,c,k _ _ q,r,S,T⟩
theorem mA.from{WA tA:Heap}{RA BA X:List Addr}{Q:V->List O->Prop}{v:Value}{s':Shared}(T:KA WA tA RA BA X)(p:mA g tA BA X Q v s'):mA g WA RA X Q v s':=let ⟨a,b,c,q,r,S,T'⟩:=p;⟨a,b,c,q,r,S,T.trans T'⟩
theorem VA.from{WA tA:Heap}{RA BA X:List Addr}{Q:Nat->List O->Prop}{v:Value}{s':Shared}(T:KA WA tA RA BA X)(p:VA g tA BA X Q v s'):VA g WA RA X Q v s':=let ⟨l,b,c,a,q,r,e,x,S,T'⟩:=p;⟨l,b,c,a,q,r,e,x,S,T.trans T'⟩
theorem VA.mono{WA:Heap}{RA X:List Addr}{Q Q':Nat->List O->Prop}{v:Value}{s':Shared}(p:VA g WA RA X Q v s')(k:∀v J,Q v J->Q' v J):VA g WA RA X Q' v s':=let ⟨l,b,c,a,q,r,e,x,S,T⟩:=p;⟨l,b,c,a,k _ _ q,r,e,x,S,T⟩
inductive VZ(g:G)(s:Shared)(U:List Addr)(l:Nat)(vs:List V):Prop
 | mk (a:Addr) (os:Array Value) (n:Nat) (h:U[l]?=some a) (e:s.heap.get? a=some {cls:= .type "list",data:= .seq os n}) (z:vs.length<=2^30) (r:MA g s.heap U vs os.toList)
inductive UZ(g:G)(s:Shared)(U:List Addr)(l:Nat)(vs:List (List Nat×V)):Prop
 | mk (a:Addr) (ps:List (Str×Value)) (h:U[l]?=some a) (d:s.heap.DictOf (strKind g.prog g.w) a ps) (z:vs.length<=sizeLine) (r:cB g s.heap U vs ps)
theorem St.list(S:St g s U J){l:Nat}{vs:List V}(h:rA J l=some vs):VZ g s U l vs:=by
 obtain⟨a,ha,os,n,ho,z,r⟩:=S.obj (OQ h)
 exact⟨a,os,n,ha,ho,z,r⟩
theorem St.dict(S:St g s U J){l:Nat}{vs:List (List Nat×V)}(h:dictAt J l=some vs):UZ g s U l vs:=by
 obtain⟨ep,e⟩:=oK h
 obtain⟨a,ha,os,⟨o,es,ho⟩,z,r⟩:=S.obj e
 exact⟨a,os,ha,⟨o,es,_,ho⟩,z,r⟩
theorem vC{h:Heap}{a:Addr}{os:Array Value}{n:Nat}(e:h.get? a=some {cls:= .type "list",data:= .seq os n}):h.IsList a os:=⟨_,e,rfl,n,rfl⟩
variable{A:Around}{d:Nat}{hd:Option Nat}{E:Value->Shared->Prop}
theorem TB(x:List Nat):(⟨x.toArray⟩:Str).length=x.length:=by simp[Str.length]
theorem Cx.room(C:Cx g A s U d hd):A.units+60 < cLine:=by have:=C.units;show _ < 9900;exact qC this
end
section
variable{g:G}{d:Nat}{hd:Option Nat}{J:List O}{Z:List (Option V)}{QV:V->List O->Prop}{QV1:V->Prop}{QM:List O->Prop}
theorem CallOk.mono{g:G}{d:Nat}{hd:Option Nat}{f:Value}{vs:List V}{J:List O}{R R':iE->List O->Prop}(h:CallOk g d hd f vs J R)(hR:∀r J,R r J->R' r J):CallOk g d hd f vs J R':=by
 intro A s U xs C S rr
 refine codeAny_mono (h A s U xs C S rr) fun r s' p=>?_
 rcases r with e | (_ | _ | _ | v)
 ·exact⟨VA.mono p.1 fun u0 u0=>hR _ _,p.2⟩
 ·exact p.elim
 ·exact p.elim
 ·exact p.elim
 ·exact mA.mono p fun u0 u0=>hR _ _
theorem CallOk.up{g:G}{d d':Nat}{hd:Option Nat}{f:Value}{vs:List V}{J:List O}{R:iE->List O->Prop}(h:CallOk g d hd f vs J R)(hd':d<=d'):CallOk g d' hd f vs J R:=
 fun A s U xs C S rr=>h A s U xs ⟨by have:=C.depth;exact(rC this hd'),by have:=C.units;lia,C.hand,C.stk⟩ S rr
theorem RX(n:Nat)(a b:List Nat):IU J n (.str a) (.str b)=some (decide (a=b)):=by
 have:IU J n (.str a) (.str b)=some ((⟨a.toArray⟩:Str)==⟨b.toArray⟩):=by rw[sI SH SH,PyData.eqv]
 rw[this]
 congr 1
 by_cases h:a=b
 ·subst h;simp
 ·rw[decide_eq_false h,beq_eq_false_iff_ne]
  intro q
  injection q with q
  exact h (by simpa using congrArg Array.toList q)
theorem QX(n:Nat)(a b:Int):IU J n (.int a) (.int b)=some (decide (a=b)):=by
 have:IU J n (.int a) (.int b)=some (a==b):=by rw[sI kP kP,PyData.eqv]
 rw[this]
 congr 1
theorem uN{α:Type}(J l:List α)(i:Nat)(x:α):(J++l).set (J.length+i) x=J++l.set i x:=by
 rw[List.set_append_right _ _ (by exact Nat.le_add_right _ _),Nat.add_sub_cancel_left]
theorem fL{α:Type}(J l:List α)(y x:α):(J++y::l).set J.length x=J++x::l:=uN J (y::l) 0 x
theorem KC{α:Type}(J l:List α)(i:Nat):(J++l)[J.length+i]?=l[i]?:=by rw[List.getElem?_append_right (by exact Nat.le_add_right _ _),Nat.add_sub_cancel_left]
theorem AA{α:Type}(J l:List α)(x:α):(J++x::l)[J.length]?=some x:=KC J (x::l) 0
theorem qQ{C:Addr}{n:List Nat}{v:V}{Q:List O->Prop}(ht:qD C n=true)(hn:n.length<=1000)(h:Q (J++[.exc C (J.length+1), .ad [(n,v)]])):yG g (J++[.exc0 C]) (.loc J.length) n v Q:=by
 unfold yG;dsimp only
 rw[AA]
 refine⟨ht,hn,?_⟩
 rw[List.append_assoc]
 show Q ((J++O.exc0 C::[_]).set J.length _)
 rw[fL,List.length_append]
 exact h
theorem JN{l dl:Nat}{C:Addr}{kvs:List (List Nat×V)}{n:List Nat}{v:V}{Q:List O->Prop}(hl:J[l]?=some (.exc C dl))(hd:J[dl]?=some (.ad kvs))(ht:qD C n=true)(hk:kvs.length<=1000)(hn:n.length<=1000)(h:Q (J.set dl (.ad (BB n v kvs)))):yG g J (.loc l) n v Q:=by
 unfold yG;dsimp only
 rw[hl]
 exact⟨C,dl,kvs,by unfold cD qH;rw[hl];dsimp only;rw[hd];rfl,ht,hk,hn,h⟩
theorem rQ{l dl:Nat}{C:Addr}{kvs:List (List Nat×V)}{n:List Nat}{v:V}{Q:List O->Prop}(hl:J[l]?=some (.inst C dl))(hd:J[dl]?=some (.ad kvs))(ht:qD C n=true)(hk:kvs.length<=1000)(hn:n.length<=1000)(h:Q (J.set dl (.ad (BB n v kvs)))):yG g J (.loc l) n v Q:=by
 unfold yG;dsimp only
 rw[hl]
 exact⟨C,dl,kvs,by unfold cD qH;rw[hl];dsimp only;rw[hd];rfl,ht,hk,hn,h⟩
theorem pQ{l dl:Nat}{C:Addr}{kvs:List (List Nat×V)}{n:List Nat}{v:V}(hl:J[l]?=some (.exc C dl))(hd:J[dl]?=some (.ad kvs))(ht:qD C n=true)(hk:QA n kvs=some v)(ho:aG v=true)(h:QV1 v):∃w,CH g J (.loc l) n=some w/\QV1 w:=by
 refine⟨v,?_,h⟩
 unfold CH cD qH;dsimp only
 rw[hl];dsimp only;rw[hd]
 show(if qD C n=true then _ else _)=_
 rw[if_pos ht]
 show(QA n kvs).bind _=_
 rw[hk]
 exact if_pos ho
theorem nP{l dl:Nat}{C:Addr}{kvs:List (List Nat×V)}{n:List Nat}{v:V}(hl:J[l]?=some (.inst C dl))(hd:J[dl]?=some (.ad kvs))(ht:qD C n=true)(hk:QA n kvs=some v)(ho:aG v=true)(h:QV1 v):∃w,CH g J (.loc l) n=some w/\QV1 w:=by
 refine⟨v,?_,h⟩
 unfold CH cD qH;dsimp only
 rw[hl];dsimp only;rw[hd]
 show(if qD C n=true then _ else _)=_
 rw[if_pos ht]
 show(QA n kvs).bind _=_
 rw[hk]
 exact if_pos ho
theorem xN{a:List Nat}{k:Nat}(h:QV (.str (a.take k)) J):eD J (.str a) .none (.int (k:Int)) QV:=by
 refine⟨0,_,rfl,rfl,?_⟩
 unfold gF XD
 rw[if_neg (by lia)]
 simpa[<-List.take_take]using h
theorem lD{l:Nat}{vs:List V}(hl:J[l]?=some (.list vs))(hn:vs.length<=100000)(h:QV (.tup vs) J):FG g hd (.type "tuple") [.loc l] J QV:=⟨vs,TA hl,hn,h⟩
theorem mH{l:Nat}{vs:List V}(hl:J[l]?=some (.list vs))(h:QV (.int (vs.length:Int)) J):FG g hd (.builtin "len") [.loc l] J QV:=⟨vs.length,by show(match J[l]? with | some (.list vs)=>some vs.length | some (.dict kvs _)=>some kvs.length | _=>none)=_;rw[hl],h⟩
end
inductive Sp where
 | at(r:iE) (J:List O)
 | to (v:V) (Φ:List O->Prop)
 | exn (Φ:Nat->List O->Prop)
 | val (Φ:V->List O->Prop)
noncomputable def Sp.R:Sp->iE->List O->Prop
 | .at r J,r',NA=>r'=r/\NA=J
 | .to v Φ,r',NA=>r'= .ok v/\Φ NA
 | .exn Φ,r',NA=>∃l,r'= .exn l/\Φ l NA
 | .val Φ,r',NA=>∃v,r'= .ok v/\Φ v NA
noncomputable def Sp.K(K:V->List O->Prop)(E:Nat->List O->Prop):Sp->Prop
 | .at r J=>(match r with | .ok v=>K v J | .exn l=>E l J)
 | .to v Φ=>(∀J,Φ J->K v J->False)->False
 | .exn Φ=>(∀l J,Φ l J->E l J->False)->False
 | .val Φ=>(∀v J,Φ v J->K v J->False)->False
noncomputable def JA(g:G)(d:Nat)(hd:Option Nat)(a:Addr)(vs:List V)(J:List O)(S:Sp):Prop:=CallOk g d hd (.ref a) vs J S.R
noncomputable def FV:List (Option V)->Nat->(V->Prop)->Prop
 | [],_,_=>True
 | o::r,i,K=>match i with
   | 0=>(match o with | some v=>K v | none=>True)
   | i+1=>FV r i K
noncomputable def sF:List (Option V)->Nat->Option V->(List (Option V)->Prop)->Prop
 | [],_,_,K=>K []
 | o::r,i,v,K=>match i with
   | 0=>K (v::r)
   | i+1=>sF r i v fun r=>K (o::r)
noncomputable def sC:List Nat->List V->List (Option V)->(List (Option V)->Prop)->Prop
 | [],_,Z,K=>K Z
 | i::is,vs,Z,K=>match vs with
   | v::vs=>sF Z i (some v) fun Z=>sC is vs Z K
   | []=>K Z
noncomputable def ES:Nat->(List (Option V)->Prop)->Prop
 | 0,K=>K []
 | n+1,K=>ES n fun r=>K (none::r)
noncomputable def NS:List V->Nat->(List (Option V)->Prop)->Prop
 | [],n,K=>ES n K
 | v::vs,n,K=>NS vs n fun r=>K (some v::r)
noncomputable def qZ(b:Bool)(A B:Prop):Prop:=∀r,b=r->match r with | true=>A | false=>B
noncomputable def PR(W:(V->List O->Prop)->Prop)(K:V->List O->Prop):Prop:=∀v J,(∀{Q:V->List O->Prop},Q v J->W Q)->K v J
noncomputable def uc(J:List O)(x y z:V)(K:V->List O->Prop):Prop:=match x with
 | .str s=>∀v,(∀{Q:V->List O->Prop},Q (.str v) J->eD J (.str s) y z Q)->K (.str v) J
 | x=>PR (eD J x y z) K
noncomputable def lc(J:List O)(op:Operator)(x y:V)(K:V->List O->Prop):Prop:=match x with
 | .int a=>(match y with
   | .int b=>(match op with
     | .Add=>K (.int (a+b)) J
     | .Sub=>K (.int (a - b)) J
     | _=>∀v,uJ op (.int a) (.int b)=some v->K v J)
   | _=>True)
 | .loc l=>PR (GX J op (.loc l) y) K
 | x=>∀v,uJ op x y=some v->K v J
noncomputable def iI(x y:V)(f:Int->Int->Prop):Prop:=match x with
 | .int a=>(match y with
   | .int b=>f a b
   | _=>True)
 | _=>True
noncomputable def mV(x y:V)(K:Bool->Prop):Prop:=match y with
 | .none=>(match iD x with
   | some b=>K b
   | none=>True)
 | _=>True
noncomputable def Tf(x y:V)(K:Bool->Prop)(D:Prop):Prop:=match x with
 | .str a=>(match y with
   | .str b=>K (decide (a=b))
   | _=>D)
 | .int a=>(match y with
   | .int b=>K (decide (a=b))
   | _=>D)
 | _=>D
noncomputable def Pa(x y:V)(K:Bool->Prop)(D:Prop):Prop:=match x with
 | .str a=>(match y with
   | .tup vs=>∀ss,iC vs=some ss->K (ss.contains a)
   | .str s=>(match a with
     | []=>True
     | c::r=>match r with
       | []=>K (s.contains c)
       | _::_=>True)
   | _=>D)
 | _=>D
noncomputable def rS(J:List O)(op:CmpOp)(x y:V)(K:Bool->Prop):Prop:=match op with
 | .Lt=>iI x y fun a b=>K (decide (a < b))
 | .LtE=>iI x y fun a b=>K (decide (a<=b))
 | .Gt=>iI x y fun a b=>K (decide (b < a))
 | .GtE=>iI x y fun a b=>K (decide (b<=a))
 | .Is=>mV x y K
 | .IsNot=>mV x y fun b=>K (!b)
 | .Eq=>Tf x y K (∀b,xH J .Eq x y=some b->K b)
 | .NotEq=>Tf x y (fun b=>K (!b)) (∀b,xH J .NotEq x y=some b->K b)
 | .In=>Pa x y K (∀b,RQ J x y=some b->K b)
 | .NotIn=>Pa x y (fun b=>K (!b)) (∀b,RQ J x y=some b->K (!b))
noncomputable def BQ(J:List O)(v:V)(K:Bool->Prop):Prop:=match v with
 | .none=>K false
 | .bool b=>K b
 | .int i=>K (decide (i≠0))
 | .str s=>K (!s.isEmpty)
 | .tup vs=>K (!vs.isEmpty)
 | v=>∀b,nL J v=some b->K b
noncomputable def pZ(g:G)(hd:Option Nat)(f:Value)(vs:List V)(J:List O)(K:V->List O->Prop):Prop:=match vs with
 | [.str s]=>(match f with
   | .builtin f=>(match f=="len" with
     | true=>K (.int s.length) J
     | false=>PR (FG g hd (.builtin f) [.str s] J) K)
   | f=>PR (FG g hd f [.str s] J) K)
 | vs=>PR (FG g hd f vs J) K
noncomputable def TO(J:List O)(n:Nat)(v:V)(K:List V->Prop):Prop:=match v with
 | .tup vs=>(match Nat.beq vs.length n with | true=>K vs | false=>True)
 | v=>∀vs,AG J n v=some vs->K vs
noncomputable def oZ(op:Operator)(x y:V)(K:V->Prop):Prop:=match x with
 | .int a=>(match y with
   | .int b=>(match op with
     | .Add=>K (.int (a+b))
     | .Sub=>K (.int (a - b))
     | _=>True)
   | _=>True)
 | x=>∀v,CX op x y=some v->K v
noncomputable def YM(inv:List O->Prop)(step:V->List O->(V->List O->Prop)->Prop):List V->List O->List V->(List V->List O->Prop)->Prop
 | [],J,acc,K=>inv J->K acc J
 | x::xs,J,acc,K=>inv J->step x J fun v NA=>YM inv step xs NA (acc++[v]) K
noncomputable def MG(hd:Option Nat)(K:Prop):Prop:=match hd with | none=>K | some _=>True
noncomputable def OX(J:List O)(tgt:List Nat)(x:V)(K:List V->Prop):Prop:=match tgt with
 | [_]=>K [x]
 | _=>TO J tgt.length x K
noncomputable def qc(J:List O)(x:V)(K:List V->(List O->Prop)->Prop):Prop:=match x with
 | .tup vs=>K vs fun u0=>True
 | .loc l=>∀o,J[l]?=some o->match o with
   | .list vs=>K vs fun J=>rA J l=some vs
   | .dict kvs ep=>K (kvs.map fun kv=>V.str kv.1) fun J=>J[l]?=some (.dict kvs ep)
   | _=>True
 | _=>True
noncomputable def Sf(e:IE)(f:Int->Prop)(A:Prop):Prop:=match e with
 | .int n=>f n
 | _=>A
mutual
noncomputable def dE(g:G)(d:Nat)(hd:Option Nat):IE->List (Option V)->List O->(V->List O->Prop)->(Nat->List O->Prop)->Prop
 | .var i,Z,J,K,_=>FV Z i fun v=>K v J
 | .glob v,_,J,K,_=>K (.val v) J
 | .none,_,J,K,_=>K .none J
 | .bool b,_,J,K,_=>K (.bool b) J
 | .int i,_,J,K,_=>K (.int i) J
 | .str s,_,J,K,_=>K (.str s) J
 | .bin op a b,Z,J,K,E=>dE g d hd a Z J (fun x J=>dE g d hd b Z J (fun y J=>lc J op x y K) E) E
 | .cmp op a b,Z,J,K,E=>dE g d hd a Z J (fun x J=>dE g d hd b Z J (fun y J=>rS J op x y fun r=>K (.bool r) J) E) E
 | .cmp2 a op1 b op2 c,Z,J,K,E=>dE g d hd a Z J (fun x J=>dE g d hd b Z J (fun y J=>rS J op1 x y fun r=>Sf c (fun n=>rS J op2 y (.int n) fun r2=>K (.bool (r&&r2)) J) True) E) E
 | .and es,Z,J,K,E=>nZ g d hd es Z J K E
 | .neg a,Z,J,K,E=>dE g d hd a Z J (fun x J=>match x with | .int i=>K (.int (-i)) J | _=>True) E
 | .ite c a b,Z,J,K,E=>dT g d hd c Z J (fun J=>dE g d hd a Z J K E) (fun J=>dE g d hd b Z J K E) E
 | .tup es,Z,J,K,E=>FK g d hd es Z J (fun vs J=>match Nat.ble vs.length 1000 with | true=>K (.tup vs) J | false=>True) E
 | .lst es,Z,J,K,E=>FK g d hd es Z J (fun vs J=>match Nat.ble vs.length 1000 with | true=>K (.loc J.length) (J++[.list vs]) | false=>True) E
 | .dct ks es,Z,J,K,E=>FK g d hd es Z J (fun vs J=>vs.length=ks.length->vs.length<=15->(∀ep,K (.loc J.length) (J++[.dict ((ks.zip vs).foldl (fun m kv=>BB kv.1 kv.2 m) []) ep])->False)->False) E
 | .idx a i,Z,J,K,E=>dE g d hd a Z J (fun x J=>dE g d hd i Z J (fun y J=>∀v,QT g J x y=some v->K v J) E) E
 | .slc a lo hi,Z,J,K,E=>dE g d hd a Z J (fun x J=>dE g d hd lo Z J (fun y J=>dE g d hd hi Z J (fun z J=>uc J x y z K) E) E) E
 | .slc3 a lo st,Z,J,K,E=>dE g d hd a Z J (fun x J=>dE g d hd lo Z J (fun y J=>dE g d hd st Z J (fun z J=>∀Φ,AN x y z J Φ->(∀v J,Φ v J->K v J->False)->False) E) E) E
 | .attr a n,Z,J,K,E=>dE g d hd a Z J (fun x J=>∀v,CH g J x n=some v->K v J) E
 | .call f as,Z,J,K,E=>dE g d hd f Z J (fun x J=>match x with
  | .val v=>(match v with
    | .ref a=>(match jX a with | true=>FK g d hd as Z J (fun vs J=>∀S:Sp,JA g d hd a vs J S->S.K K E) E | false=>True)
    | .builtin f=>FK g d hd as Z J (fun vs J=>pZ g hd (.builtin f) vs J K) E
    | .type f=>FK g d hd as Z J (fun vs J=>pZ g hd (.type f) vs J K) E
    | _=>True)
  | _=>True) E
 | .meth o n as,Z,J,K,E=>dE g d hd o Z J (fun x J=>match x with
  | .str s=>(match eG.contains n with | true=>FK g d hd as Z J (fun vs J=>PR (sA J s n vs) K) E | false=>True)
  | .val v=>(match v with
    | .ref C=>(match fZ C n with | some f=>FK g d hd as Z J (fun vs J=>∀S:Sp,JA g d hd f vs J S->S.K K E) E | none=>True)
    | .type T=>(match T=="Exception"&&n==[95,95,105,110,105,116,95,95]with
      | true=>FK g d hd as Z J (fun vs J=>cT vs True fun l u0=>((∃C dl,J[l]?=some (.exc C dl))\/∃C,J[l]?=some (.exc0 C))->K .none J) E
      | false=>True)
    | _=>True)
  | .loc l=>∀o,J[l]?=some o->match o with
    | .list _=>(match RF.contains n with | true=>FK g d hd as Z J (fun vs J=>∀xs,rA J l=some xs->PR (XB J l xs n vs) K) E | false=>True)
    | .dict _ _=>(match KF.contains n with | true=>FK g d hd as Z J (fun vs J=>∀xs,dictAt J l=some xs->PR (NE J l xs n vs) K) E | false=>True)
    | .inst C dl=>(match LL C n with
      | some f=>∀kvs,qH J dl=some kvs->QA n kvs=none->FK g d hd as Z J (fun vs J=>∀S:Sp,JA g d hd f (.loc l::vs) J S->S.K K E) E
      | none=>True)
    | _=>True
  | _=>True) E
 | .comp e cap tgt it,Z,J,K,E=>dE g d hd it Z J (fun x J=>MG hd (qc J x fun xs inv=>xs.length<=10000->
  YM inv (fun x J K=>OX J tgt x fun vs=>sC tgt vs (ND cap Z) fun Z=>dE g d hd e Z J K (fun u0 u0=>True)) xs J [] (fun vs J=>K (.loc J.length) (J++[.list vs])))) E
 | .compR e cap tgt hi,Z,J,K,E=>dE g d hd hi Z J (fun x J=>MG hd (match x with
  | .int n=>0<=n->n<=1000->YM (fun u0=>True) (fun x J K=>sF (ND cap Z) tgt (some x) fun Z=>dE g d hd e Z J K (fun u0 u0=>True)) ((List.range n.toNat).map fun(i:Nat)=>V.int (i:Int)) J [] (fun vs J=>K (.loc J.length) (J++[.list vs]))
  | _=>True)) E
noncomputable def FK(g:G)(d:Nat)(hd:Option Nat):nI->List (Option V)->List O->(List V->List O->Prop)->(Nat->List O->Prop)->Prop
 | .nil,_,J,K,_=>K [] J
 | .cons e r,Z,J,K,E=>dE g d hd e Z J (fun v J=>FK g d hd r Z J (fun vs J=>K (v::vs) J) E) E
noncomputable def nZ(g:G)(d:Nat)(hd:Option Nat):nI->List (Option V)->List O->(V->List O->Prop)->(Nat->List O->Prop)->Prop
 | .nil,_,J,_,_=>True
 | .cons e .nil,Z,J,K,E=>dE g d hd e Z J K E
 | .cons e r,Z,J,K,E=>dE g d hd e Z J (fun v J=>BQ J v fun b=>qZ b (nZ g d hd r Z J K E) (K v J)) E
noncomputable def dT(g:G)(d:Nat)(hd:Option Nat):IT->List (Option V)->List O->(List O->Prop)->(List O->Prop)->(Nat->List O->Prop)->Prop
 | .not a,Z,J,T,F,E=>dT g d hd a Z J F T E
 | .and es,Z,J,T,F,E=>uU g d hd es Z J T F E
 | .or es,Z,J,T,F,E=>rZ g d hd es Z J T F E
 | .e e,Z,J,T,F,E=>dE g d hd e Z J (fun v J=>BQ J v fun b=>qZ b (T J) (F J)) E
noncomputable def uU(g:G)(d:Nat)(hd:Option Nat):HU->List (Option V)->List O->(List O->Prop)->(List O->Prop)->(Nat->List O->Prop)->Prop
 | .nil,_,J,T,_,_=>T J
 | .cons e r,Z,J,T,F,E=>dT g d hd e Z J (fun J=>uU g d hd r Z J T F E) F E
noncomputable def rZ(g:G)(d:Nat)(hd:Option Nat):HU->List (Option V)->List O->(List O->Prop)->(List O->Prop)->(Nat->List O->Prop)->Prop
 | .nil,_,J,_,F,_=>F J
 | .cons e r,Z,J,T,F,E=>dT g d hd e Z J T (fun J=>rZ g d hd r Z J T F E) E
end
noncomputable def LG(step:(Nat->List (Option V)->List O->Prop)->Nat->List (Option V)->List O->Prop)(Z:List (Option V))(J:List O):Prop:=
 (∀P:Nat->List (Option V)->List O->Prop,(∀k Z J,P k Z J->step P k Z J)->P 0 Z J->False)->False
noncomputable def FH(N:List (Option V)->List O->Prop)(K:Fl->List (Option V)->List O->Prop)(fl:Fl)(Z:List (Option V))(J:List O):Prop:=match fl with
 | .next=>N Z J
 | .brk=>K .next Z J
 | .ret v=>K (.ret v) Z J
noncomputable def TN(N:List (Option V)->List O->Prop)(K:Fl->List (Option V)->List O->Prop)(fl:Fl)(Z:List (Option V))(J:List O):Prop:=match fl with
 | .next=>N Z J
 | fl=>K fl Z J
noncomputable def vU(g:G)(J:List O)(x:V)(n:List Nat)(v:V)(K:List O->Prop):Prop:=∀NA,(∀{Q:List O->Prop},Q NA->yG g J x n v Q)->K NA
noncomputable def RO(C:Addr)(i:Nat)(B:Nat->List (Option V)->List O->(Fl->List (Option V)->List O->Prop)->(Nat->List (Option V)->List O->Prop)->Prop)(K:Fl->List (Option V)->List O->Prop)(E:Nat->List (Option V)->List O->Prop)(l:Nat)(Z:List (Option V))(J:List O):Prop:=
 ∀dl,J[l]?=some (.exc C dl)->sF Z i (some (.loc l)) fun Z=>B l Z J (fun fl Z J=>sF Z i none fun Z=>K fl Z J) (fun l Z J=>sF Z i none fun Z=>E l Z J)
mutual
noncomputable def dS(g:G)(d:Nat)(hd:Option Nat):IS->List (Option V)->List O->(Fl->List (Option V)->List O->Prop)->(Nat->List (Option V)->List O->Prop)->Prop
 | .assign i e,Z,J,K,E=>dE g d hd e Z J (fun v J=>sF Z i (some v) fun Z=>K .next Z J) (fun l J=>E l Z J)
 | .unpk is e,Z,J,K,E=>dE g d hd e Z J (fun v J=>MG hd (TO J is.length v fun vs=>sC is vs Z fun Z=>K .next Z J)) (fun l J=>E l Z J)
 | .swap is es,Z,J,K,E=>FK g d hd es Z J (fun vs J=>MG hd (match Nat.beq vs.length is.length with | true=>sC is vs Z fun Z=>K .next Z J | false=>True)) (fun l J=>E l Z J)
 | .setAttr o n e,Z,J,K,E=>dE g d hd e Z J (fun v J=>dE g d hd o Z J (fun x J=>vU g J x n v (K .next Z)) (fun l J=>E l Z J)) (fun l J=>E l Z J)
 | .setAttr2 o1 n1 o2 n2 e,Z,J,K,E=>dE g d hd e Z J (fun v J=>MG hd (match v with
  | .tup [a,b]=>dE g d hd o1 Z J (fun x J=>vU g J x n1 a (fun J=>dE g d hd o2 Z J (fun y J=>vU g J y n2 b (K .next Z)) (fun l J=>E l Z J))) (fun l J=>E l Z J)
  | _=>True)) (fun l J=>E l Z J)
 | .setIdx o i e,Z,J,K,E=>dE g d hd e Z J (fun v J=>dE g d hd o Z J (fun x J=>dE g d hd i Z J (fun k J=>∀Φ,rF J x k v Φ->(∀J,Φ J->K .next Z J->False)->False) (fun l J=>E l Z J)) (fun l J=>E l Z J)) (fun l J=>E l Z J)
 | .aug i op e,Z,J,K,E=>FV Z i fun x=>dE g d hd e Z J (fun v J=>oZ op x v fun r=>sF Z i (some r) fun Z=>K .next Z J) (fun l J=>E l Z J)
 | .augAttr o n op e,Z,J,K,E=>dE g d hd o Z J (fun x J=>∀y,CH g J x n=some y->dE g d hd e Z J (fun v J=>oZ op y v fun r=>vU g J x n r (K .next Z)) (fun l J=>E l Z J)) (fun l J=>E l Z J)
 | .expr e,Z,J,K,E=>dE g d hd e Z J (fun u0 J=>K .next Z J) (fun l J=>E l Z J)
 | .ret e,Z,J,K,E=>dE g d hd e Z J (fun v J=>K (.ret v) Z J) (fun l J=>E l Z J)
 | .ret0,Z,J,K,E=>K (.ret .none) Z J
 | .ite c a b,Z,J,K,E=>dT g d hd c Z J (fun J=>dB g d hd a Z J K E) (fun J=>dB g d hd b Z J K E) (fun l J=>E l Z J)
 | .whl c b,Z,J,K,E=>LG (fun P u0 Z J=>dT g d hd c Z J (fun J=>dB g d hd b Z J (FH (P 0) K) E) (fun J=>K .next Z J) (fun l J=>E l Z J)) Z J
 | .for1 i it b,Z,J,K,E=>dE g d hd it Z J (fun x J=>MG hd (match x with
  | .tup vs=>LG (fun P k Z J=>∀r,vs[k]?=r->match r with
    | none=>K .next Z J
    | some v=>sF Z i (some v) fun Z=>dB g d hd b Z J (FH (P (k+1)) K) E) Z J
  | .loc l=>∀o,J[l]?=some o->match o with
    | .dict kvs ep=>LG (fun P k Z J=>J[l]?=some (.dict kvs ep)->∀r,kvs[k]?=r->match r with
      | none=>K .next Z J
      | some v=>sF Z i (some (.str v.1)) fun Z=>dB g d hd b Z J (FH (P (k+1)) K) E) Z J
    | .list _=>LG (fun P k Z J=>∀r,vI J x k=some r->match r with
      | none=>K .next Z J
      | some v=>sF Z i (some v) fun Z=>dB g d hd b Z J (FH (P (k+1)) K) E) Z J
    | _=>True
  | _=>True)) (fun l J=>E l Z J)
 | .forT is it b,Z,J,K,E=>dE g d hd it Z J (fun x J=>MG hd (LG (fun P k Z J=>∀r,vI J x k=some r->match r with
         | none=>K .next Z J
         | some v=>TO J is.length v fun vs=>sC is vs Z fun Z=>dB g d hd b Z J (FH (P (k+1)) K) E) Z J)) (fun l J=>E l Z J)
 | .forR0 i hi b,Z,J,K,E=>dE g d hd hi Z J (fun y J=>MG hd (match y with
  | .int hi=> -1000<=hi->hi<=1000->LG (fun P k Z J=>qZ (decide ((k:Int) < hi)) (sF Z i (some (.int (k:Int))) fun Z=>dB g d hd b Z J (FH (P (k+1)) K) E) (K .next Z J)) Z J
  | _=>True)) (fun l J=>E l Z J)
 | .forR i lo hi b,Z,J,K,E=>dE g d hd lo Z J (fun x J=>dE g d hd hi Z J (fun y J=>MG hd (match x with
  | .int lo=>(match y with
    | .int hi=> -1000<=lo->lo<=1000-> -1000<=hi->hi<=1000->LG (fun P k Z J=>qZ (decide (lo+(k:Int) < hi)) (sF Z i (some (.int (lo+(k:Int)))) fun Z=>dB g d hd b Z J (FH (P (k+1)) K) E) (K .next Z J)) Z J
    | _=>True)
  | _=>True)) (fun l J=>E l Z J)) (fun l J=>E l Z J)
 | .forE i j it b,Z,J,K,E=>dE g d hd it Z J (fun x J=>MG hd (match x with
  | .loc l=>∀vs,rA J l=some vs->LG (fun P k Z J=>∀r,vI J (.loc l) k=some r->match r with
   | none=>K .next Z J
   | some v=>sF Z i (some (.int k)) fun Z=>sF Z j (some v) fun Z=>dB g d hd b Z J (FH (P (k+1)) K) E) Z J
  | _=>True)) (fun l J=>E l Z J)
 | .raise e,Z,J,K,E=>dE g d hd e Z J (fun x J=>match x with
  | .loc l=>∀C dl,J[l]?=some (.exc C dl)->(hd=none\/hd=some l)->E l Z J
  | _=>True) (fun l J=>E l Z J)
 | .tryE b C i hb,Z,J,K,E=>dB g d hd b Z J K (RO C i (fun l=>dB g d (some l) hb) K E)
 | .tryF b f,Z,J,K,E=>dB g d hd b Z J (fun fl Z J=>dB g d hd f Z J (TN (K fl) fun u0 u0 u0=>True) E)
  (fun l Z J=>dB g d (some l) f Z J (TN (E l) fun u0 u0 u0=>True) E)
 | .brk,Z,J,K,E=>K .brk Z J
 | .pass,Z,J,K,E=>K .next Z J
noncomputable def dB(g:G)(d:Nat)(hd:Option Nat):ME->List (Option V)->List O->(Fl->List (Option V)->List O->Prop)->(Nat->List (Option V)->List O->Prop)->Prop
 | .nil,Z,J,K,E=>K .next Z J
 | .cons s .nil,Z,J,K,E=>dS g d hd s Z J K E
 | .cons s r,Z,J,K,E=>dS g d hd s Z J (TN (fun Z J=>dB g d hd r Z J K E) K) E
end
theorem nn{p:Prop}(h:¬¬p):p:=Classical.byContradiction h
noncomputable def NK{α:Type}(K:α->List O->Prop)(v:α)(J:List O):Prop:=¬K v J
section
variable{g:G}{d:Nat}{hd:Option Nat}{J:List O}{K:V->List O->Prop}{KE:Nat->List O->Prop}
noncomputable def NR(K:V->List O->Prop)(KE:Nat->List O->Prop)(r:iE)(J:List O):Prop:=match r with | .ok v=>¬K v J | .exn l=>¬KE l J
theorem aU{a:Addr}{vs:List V}(h:¬∀S:Sp,JA g d hd a vs J S->S.K K KE):CallOk g d hd (.ref a) vs J (NR K KE):=nn fun n=>h fun S w=>by
 induction S using Sp.casesOn with
 | «at» r NA=>induction r using iE.casesOn with
   | ok v=>exact nn fun k=>n (w.mono fun u0 u0 ⟨a,b⟩=>by subst a;subst b;exact k)
   | exn l=>exact nn fun k=>n (w.mono fun u0 u0 ⟨a,b⟩=>by subst a;subst b;exact k)
 | to v Φ=>exact fun k=>n (w.mono fun u0 u0 ⟨a,b⟩=>by subst a;exact fun q=>k _ b q)
 | exn Φ=>exact fun k=>n (w.mono fun u0 u0 ⟨_,a,b⟩=>by subst a;exact fun q=>k _ _ b q)
 | val Φ=>exact fun k=>n (w.mono fun u0 u0 ⟨_,a,b⟩=>by subst a;exact fun q=>k _ _ b q)
theorem Pf{W:(V->List O->Prop)->Prop}(h:¬PR W K):W (NK K):=nn fun n=>h fun v J w=>nn fun q=>n (w q)
theorem Qf{x y z:V}(h:¬uc J x y z K):eD J x y z (NK K):=nn fun n=>h (by
 induction x using V.casesOn with
 | str s=>exact fun v w=>nn fun q=>n (w q)
 | _=>exact fun v J w=>nn fun q=>n (w q))
theorem Of{op:Operator}{x y:V}(h:¬lc J op x y K):GX J op x y (NK K):=nn fun n=>h (by
 induction x using V.casesOn with
 | int a=>induction y using V.casesOn with
   | int b=>
     have g:∀v,uJ op (.int a) (.int b)=some v->K v J:=fun v e=>nn fun q=>n ⟨v,e,q⟩
     induction op using PySem.Operator.casesOn <;>first | exact g _ rfl | exact g
   | _=>trivial
 | loc l=>exact fun v J w=>nn fun q=>n (w q)
 | _=>exact fun v e=>nn fun q=>n ⟨v,e,q⟩)
theorem Tc{f:Value}{vs:List V}(h:¬pZ g hd f vs J K):FG g hd f vs J (NK K):=nn fun n=>by
 have o:PR (FG g hd f vs J) K:=fun v J w=>nn fun q=>n (w q)
 refine h ?_
 rcases vs with _ | ⟨v,_ | ⟨w,r⟩⟩
 ·exact o
 ·induction v using V.casesOn with
  | str s=>induction f using Value.casesOn with
    | builtin f=>
      show match f=="len" with | true=>K (.int s.length) J | false=>PR (FG g hd (.builtin f) [.str s] J) K
      induction q:f=="len" using Bool.casesOn with
      | true=>have q:=eq_of_beq q;subst q;exact nn fun q=>n ⟨_,rfl,q⟩
      | false=>exact o
    | _=>exact o
  | _=>exact o
 ·induction v using V.casesOn <;>exact o
theorem jQ{x y:V}{f:Int->Int->Prop}(h:∀a b,x= .int a->y= .int b->f a b):iI x y f:=by
 induction x using V.casesOn with
 | int a=>induction y using V.casesOn with
   | int b=>exact h a b rfl rfl
   | _=>trivial
 | _=>trivial
theorem DP{x y:V}{K:Bool->Prop}(h:∀b,y= .none->iD x=some b->K b):mV x y K:=by
 induction y using V.casesOn with
 | none=>
   show match iD x with | some b=>K b | none=>True
   induction e:iD x using Option.casesOn with
   | none=>trivial
   | some b=>exact h b rfl e
 | _=>trivial
theorem wU{x y:V}{K:Bool->Prop}{D:Prop}(h:∀b,IU J 8 x y=some b->K b)(d:D):Tf x y K D:=by
 induction x using V.casesOn with
 | str a=>induction y using V.casesOn with
   | str b=>exact h _ (RX (J:=J) 8 a b)
   | _=>exact d
 | int a=>induction y using V.casesOn with
   | int b=>exact h _ (QX (J:=J) 8 a b)
   | _=>exact d
 | _=>exact d
theorem xR{x y:V}{K:Bool->Prop}{D:Prop}(h:∀b,RQ J x y=some b->K b)(d:D):Pa x y K D:=by
 induction x using V.casesOn with
 | str a=>induction y using V.casesOn with
   | tup vs=>exact fun ss e=>h _ (congrArg (Option.map fun ss:List (List Nat)=>ss.contains a) e)
   | str s=>rcases a with _ | ⟨c,_ | ⟨_,_⟩⟩ <;>first | trivial | exact h _ rfl
   | _=>exact d
 | _=>exact d
theorem DX{op:CmpOp}{x y:V}{K:Bool->Prop}(h:¬rS J op x y K):∃r,xH J op x y=some r/\¬K r:=nn fun n=>h (by
 have g:∀b,xH J op x y=some b->K b:=fun b e=>nn fun q=>n ⟨b,e,q⟩
 clear h n
 induction op using PySem.CmpOp.casesOn with
 | Is=>exact DP fun b e1 e2=>g _ (by rw[e1];exact e2)
 | IsNot=>exact DP fun b e1 e2=>g _ (by rw[e1];exact congrArg (Option.map (!·)) e2)
 | Eq=>exact wU (J:=J) (fun b e=>g _ e) g
 | NotEq=>exact wU (J:=J) (fun b e=>g _ (congrArg (Option.map (!·)) e)) g
 | In=>exact xR (J:=J) (fun b e=>g _ e) g
 | NotIn=>exact xR (J:=J) (fun b e=>g _ (congrArg (Option.map (!·)) e)) fun b e=>g _ (congrArg (Option.map (!·)) e)
 | _=>exact jQ fun a b e1 e2=>g _ (by rw[e1,e2];rfl))
theorem bU{v:V}{K:Bool->Prop}(h:¬BQ J v K):∃b,nL J v=some b/\¬K b:=nn fun n=>h (by
 have g:∀b,nL J v=some b->K b:=fun b e=>nn fun q=>n ⟨b,e,q⟩
 induction v using V.casesOn <;>first | exact g _ rfl | exact g)
noncomputable def NI(b:Bool)(A B:Prop):Prop:=match b with | true=>¬A | false=>¬B
theorem Ub{b:Bool}{A B:Prop}(h:¬qZ b A B):NI b A B:=by
 cases b
 ·exact fun q=>h fun r e=>by subst e;exact q
 ·exact fun q=>h fun r e=>by subst e;exact q
theorem Wc{p:Prop} [Decidable p]{A B:Prop}(h:¬qZ (decide p) A B):(p/\¬A)\/(¬p/\¬B):=by
 by_cases q:p
 ·rw[decide_eq_true q]at h;exact .inl ⟨q,Ub h⟩
 ·rw[decide_eq_false q]at h;exact .inr ⟨q,Ub h⟩
theorem aX{i:Nat}{K:V->Prop}:∀{Z:List (Option V)},(∀v,Z[i]?=some (some v)->K v)->FV Z i K:=by
 induction i with
 | zero=>intro Z h;induction Z using List.casesOn with
   | nil=>trivial
   | cons o r=>induction o using Option.casesOn with
     | none=>trivial
     | some v=>exact h v rfl
 | succ i ih=>intro Z h;induction Z using List.casesOn with
   | nil=>trivial
   | cons o r=>exact ih fun v e=>h v (by simpa using e)
theorem PK{v:Option V}:∀{i:Nat} {Z:List (Option V)} {K:List (Option V)->Prop},sF Z i v K=K (Z.set i v)
 | _,[],_=>rfl
 | 0,_::_,_=>rfl
 | i+1,o::r,K=>by show sF r i v _=_;rw[PK];rfl
theorem gH:∀{is:List Nat} {vs:List V} {Z:List (Option V)} {K:List (Option V)->Prop},sC is vs Z K=K (rB Z is vs)
 | [],[],_,_=>rfl
 | [],_::_,_,_=>rfl
 | _::_,[],_,_=>rfl
 | i::is,v::vs,Z,K=>by show sF Z i (some v) _=_;rw[PK,gH];rfl
theorem CP:∀{n:Nat} {K:List (Option V)->Prop},ES n K=K (List.replicate n none)
 | 0,_=>rfl
 | n+1,K=>by show ES n _=_;rw[CP];rfl
theorem bP:∀{vs:List V} {n:Nat} {K:List (Option V)->Prop},NS vs n K=K (vs.map some++List.replicate n none)
 | [],_,_=>CP
 | v::vs,n,K=>by show NS vs n _=_;rw[bP];rfl
theorem OD{i:Nat}{v:Option V}{Z:List (Option V)}{K:List (Option V)->Prop}(h:K (Z.set i v)):sF Z i v K:=by rw[PK];exact h
theorem pF{is:List Nat}{vs:List V}{Z:List (Option V)}{K:List (Option V)->Prop}(h:K (rB Z is vs)):sC is vs Z K:=by rw[gH];exact h
theorem Vc{i:Nat}{Z:List (Option V)}{K:V->Prop}(h:¬FV Z i K):∃v,Z[i]?=some (some v)/\¬K v:=nn fun n=>h (aX fun v e=>nn fun q=>n ⟨v,e,q⟩)
theorem GO{n:Nat}{v:V}{K:List V->Prop}(h:¬TO J n v K):∃vs,AG J n v=some vs/\¬K vs:=nn fun q=>by
 have g:∀b,AG J n v=some b->K b:=fun b e=>nn fun k=>q ⟨b,e,k⟩
 refine h ?_
 induction v using V.casesOn with
 | tup vs=>
   show match Nat.beq vs.length n with | true=>K vs | false=>True
   induction e:Nat.beq vs.length n using Bool.casesOn with
   | true=>exact g _ (if_pos (Nat.eq_of_beq_eq_true e))
   | false=>trivial
 | _=>exact g
theorem Sc{op:Operator}{x y:V}{K:V->Prop}(h:¬oZ op x y K):∃v,CX op x y=some v/\¬K v:=nn fun n=>by
 have g:∀b,CX op x y=some b->K b:=fun b e=>nn fun k=>n ⟨b,e,k⟩
 refine h ?_
 induction x using V.casesOn with
 | int a=>induction y using V.casesOn with
   | int b=>induction op using PySem.Operator.casesOn <;>first | exact g _ rfl | trivial
   | _=>trivial
 | _=>exact g
theorem UE{K:Prop}(h:¬MG hd K):hd=none/\¬K:=by
 induction hd using Option.casesOn with
 | none=>exact⟨rfl,h⟩
 | some _=>exact absurd trivial h
theorem Uc{n m:Nat}{K:Prop}(h:¬match Nat.ble n m with | true=>K | false=>True):n<=m/\¬K:=by
 induction e:Nat.ble n m using Bool.casesOn with
 | true=>rw[e]at h;exact⟨Nat.le_of_ble_eq_true e,h⟩
 | false=>rw[e]at h;exact absurd trivial h
theorem Rf{tgt:List Nat}{x:V}{K:List V->Prop}(h:¬OX J tgt x K):∃vs,Xe J tgt x=some vs/\¬K vs:=by
 rcases tgt with _ | ⟨t,_ | ⟨t2,r⟩⟩
 ·exact GO h
 ·exact⟨_,rfl,h⟩
 ·exact GO h
theorem EX{x:V}{n:List Nat}{v:V}{K:List O->Prop}(h:¬vU g J x n v K):yG g J x n v (fun J=>¬K J):=nn fun q=>h fun u0 w=>nn fun k=>q (w k)
theorem DH{step:(Nat->List (Option V)->List O->Prop)->Nat->List (Option V)->List O->Prop}{Z:List (Option V)}(h:¬LG step Z J)(P:Nat->List (Option V)->List O->Prop)(hP:∀k Z J,¬step (fun k Z J=>¬P k Z J) k Z J->P k Z J):P 0 Z J:=
 nn fun n0=>h fun f=>f (fun k Z J=>¬P k Z J) (fun k Z J np=>nn fun ns=>np (hP k Z J ns)) n0
end
theorem mT{J:List O}{x y z:V}{Q Q':V->List O->Prop}(k:∀v J,Q v J->Q' v J)(h:AN x y z J Q):AN x y z J Q':=by
 induction x using V.casesOn with
 | script=>induction y using V.casesOn with
   | int i=>induction z using V.casesOn with
     | int n=>exact⟨h.1,h.2.1,fun js hj=>k _ _ (h.2.2 js hj)⟩
     | _=>exact h.elim
   | _=>exact h.elim
 | _=>exact h.elim
theorem WP{J:List O}{x i v:V}{Q Q':List O->Prop}(k:∀J,Q J->Q' J)(h:rF J x i v Q):rF J x i v Q':=by
 induction x using V.casesOn with
 | loc l=>induction i using V.casesOn with
   | str s=>obtain⟨a,b,c,h⟩:=h;exact⟨a,b,c,fun ep=>k _ (h ep)⟩
   | int i=>
     obtain⟨a,b,h⟩:=h
     refine⟨a,b,?_⟩
     split at h
     ·rename_i q;rw[if_pos q];exact⟨h.1,k _ h.2⟩
     ·rename_i q;rw[if_neg q];exact⟨h.1,k _ h.2⟩
   | _=>exact h.elim
 | _=>exact h.elim
theorem Yc{x y z:V}{J:List O}{K:V->List O->Prop}(h:¬∀Φ,AN x y z J Φ->(∀v J,Φ v J->K v J->False)->False):AN x y z J (NK K):=nn fun n=>h fun Φ w f=>n (mT f w)
theorem FX{x i v:V}{J:List O}{K:List O->Prop}(h:¬∀Φ,rF J x i v Φ->(∀J,Φ J->K J->False)->False):rF J x i v (fun J=>¬K J):=nn fun n=>h fun Φ w f=>n (WP f w)
noncomputable def LF(K:iE->List O->Prop)(fl:Fl)(Z:List (Option V))(J:List O):Prop:=match fl with
 | .ret v=>K (.ok v) J
 | .next=>K (.ok .none) J
 | .brk=>True
noncomputable def jF(K:iE->List O->Prop)(l:Nat)(Z:List (Option V))(J:List O):Prop:=K (.exn l) J
noncomputable def ME.fst:ME->IS
 | .cons s _=>s
 | .nil=> .pass
noncomputable def IS.hb:IS->ME
 | .tryE _ _ _ b=>b
 | _=> .nil
noncomputable def IS.tb:IS->ME
 | .tryE b _ _ _=>b
 | _=> .nil
noncomputable def IS.wb:IS->ME
 | .whl _ b=>b
 | _=> .nil
noncomputable def ME.tl:ME->ME
 | .cons _ r=>r
 | .nil=> .nil
noncomputable def dF(g:G)(d:Nat)(hd:Option Nat)(F:eA)(vs:List V)(J:List O)(K:iE->List O->Prop):Prop:=
 NS (vs++F.dflt.drop (F.dflt.length - (F.np - vs.length))) (F.nm.length - F.np) fun Z=>dB g d hd F.body Z J (LF K) (jF K)
section
open PyData
theorem jV(a b:Int)(h2:b.natAbs.log2 < 9000):Builtin.divisionGoesByPylong a b=false:=PyProof.noPylong_of_log2 h2
section
variable{g:G}{s:Shared}{U:List Addr}{J:List O}{A:Around}{d:Nat}{hd:Option Nat}{E:Value->Shared->Prop}
theorem bb{α:Type}{c:Prop}{i:Decidable c}{a v:α}(h:(if c then some a else none)=some v):c/\a=v:=by
 by_cases q:c
 ·rw[if_pos q]at h;exact⟨q,Option.some.inj h⟩
 ·rw[if_neg q]at h;cases h
theorem cps_append(a b:List Nat):((⟨a.toArray⟩:Str)++(⟨b.toArray⟩:Str))=(⟨(a++b).toArray⟩:Str):=by
 apply Str.ext'
 rw[Str.cps_append]
 simp
theorem HX(C:Cx g A s U d hd)(S:St g s U J){op:Operator}{x y:V}{a b:Value}{Q:V->List O->Prop}(ra:SA g s.heap U x a)(rb:SA g s.heap U y b)(h:GX J op x y Q):
 wpAny (model g.prog g.w) A (binaryOp op a b) (mA g s.heap U [] Q) E s:=by
 induction x using V.casesOn with
 | loc la=>induction y using V.casesOn with
   | loc lb=>
     obtain⟨rfl,xs,ys,hx,hy,hn,hq⟩:=h
     obtain⟨p,os,n,hp,ho,z,r⟩:=S.list hx
     obtain⟨p',os',n',hp',ho',z',r'⟩:=S.list hy
     obtain⟨Jg,BI,rfl⟩:=ra
     obtain⟨Lg,Fd,rfl⟩:=rb
     rw[hp]at BI;cases BI
     rw[hp']at Fd;cases Fd
     have l1:=r.len;have l2:=r'.len
     simp only[Array.length_toList]at l1 l2
     refine PySem.P.add_list ho ho' ?_ (by rw[l1,l2,LA];exact kC hn)
     refine pD hq ⟨_,?_,rfl⟩ (S.pushT _ (.list (xs++ys)) rfl ⟨os++os',0,Heap.get?_push_size _ rfl,by simp;exact kC hn,?_⟩) (.pushT ..)
     ·rw[<-S.len];exact fB ..
     ·rw[Array.toList_append]
      refine MA.congr (fun u0 u0 t=>YC _ t) (fun l a e=>?_) _ _ (r.append r')
      rw[List.getElem?_append_left (List.getElem?_eq_some_iff.mp e).1];exact e
   | _=>exact h.elim
 | int i=>
   obtain⟨v,hv,hq⟩:=h
   induction y using V.casesOn with
   | int j=>
     obtain⟨t,rfl⟩:=ra;obtain⟨u,rfl⟩:=rb
     induction op using PySem.Operator.casesOn with
     | Add=>cases hv;exact wpAny_add_int (MD S hq ⟨_,rfl⟩ _)
     | Sub=>cases hv;exact PySem.P.sub_int (MD S hq ⟨_,rfl⟩ _)
     | Mult=>
       obtain⟨hb,rfl⟩:=bb hv
       refine mul_int (MD S hq ⟨_,rfl⟩ _) (PySem.IntMulOk.of_left (PySem.intBits_le_64 ?_ ?_)) <;>lia
     | FloorDiv=>
       obtain⟨hb,rfl⟩:=bb hv
       exact floordiv_int (by lia) (MD S hq ⟨_,rfl⟩ _) (.inl (jV _ _ hb.2))
     | Mod=>
       obtain⟨hb,rfl⟩:=bb hv
       exact mod_int (by lia) (MD S hq ⟨_,rfl⟩ _)
     | Pow=>
       obtain⟨⟨rfl,rfl⟩,rfl⟩:=bb hv
       exact PySem.AutoIntOps.pow_4 (by decide) (by decide) (by decide) (by decide) (by decide+kernel) (MD S hq ⟨_,rfl⟩ _)
     | _=>exact eE hv
   | _=>exact eE hv
 | str s=>
   obtain⟨v,hv,hq⟩:=h
   induction op using PySem.Operator.casesOn with
   | Add=>induction y using V.casesOn with
     | str s2=>
       obtain⟨hb,rfl⟩:=bb hv
       obtain⟨t,rfl,z1,c1⟩:=ra;obtain⟨u,rfl,z2,c2⟩:=rb
       refine add_str (fun t' tk=>?_) (by rw[TB,TB];exact hb)
       rw[cps_append]
       exact MD S hq ⟨_,rfl,by simpa using hb,fun c m=>(List.mem_append.mp m).elim (c1 c) (c2 c)⟩ _
     | _=>exact eE hv
   | Mult=>induction y using V.casesOn with
     | int n=>
       obtain⟨⟨rfl,rfl⟩,rfl⟩:=bb hv
       obtain⟨t,rfl,z1,c1⟩:=ra;obtain⟨u,rfl⟩:=rb
       refine PySem.SB.mul (by refine⟨by decide,fun u0 u0=>by decide,fun u0 u0=>by decide⟩) fun t' k=>?_
       exact MD S hq ⟨_,rfl,by decide,by decide⟩ _
     | _=>exact eE hv
   | _=>exact eE hv
 | _=>obtain⟨v,hv,hq⟩:=h;exact eE hv
theorem ZG(Y:VC g)(S:St g s U J){l:Nat}{a:Addr}(h:U[l]?=some a):(a==sysModules)=false:=by
 have:=S.fresh a (List.mem_of_getElem? h)
 have:(a:Nat)≠1:=Nat.ne_of_gt (Nat.lt_of_lt_of_le (by decide:(1:Nat) < 100) this.2)
 simpa[sysModules]using this
theorem cB.len{h:Heap}:∀{vs:List (List Nat×V)} {xs:List (Str×Value)},cB g h U vs xs->xs.length=vs.length
 | [],[],_=>rfl
 | v::vs,x::xs,⟨_,b⟩=>congrArg (· +1) (cB.len b)
 | [],_::_,r=>r.elim
 | _::_,[],r=>r.elim
noncomputable def Mb:Option O->Option Bool
 | some (.list vs)=>some (!vs.isEmpty)
 | some (.dict kvs _)=>some (!kvs.isEmpty)
 | _=>none
theorem HN(Y:VC g)(S:St g s U J){x:V}{a:Value}{b:Bool}{Q:Bool->Shared->Prop}(ra:SA g s.heap U x a)(h:nL J x=some b)(hq:∀t,Q b {s with toks:=t}):
 wpAny (model g.prog g.w) A (truthy a) Q E s:=by
 induction x using V.casesOn with
 | none=>cases h;subst ra;exact PyProof.Rows.truthy_none (hq _)
 | bool b=>cases h;subst ra;exact wpAny_truthy_bool (hq _)
 | int i=>
   cases h;obtain⟨t,rfl⟩:=ra
   refine PyProof.Rows.truthy_int ?_
   have:=hq s.toks
   have e:(i !=0)=decide (i≠0):=by by_cases h:i=0 <;>simp[h]
   rw[e];exact this
 | str x=>
   cases h;obtain⟨t,rfl,z,_⟩:=ra
   refine PySem.P.truthy_str (by rw[TB];rw[LA]at z;lia) ?_
   have:=hq (s.toks+1+1)
   rw[TB]
   have e:(((x.length:Nat):Int) !=0)=!x.isEmpty:=by induction x using List.casesOn <;>simp;lia
   rw[e];exact this
 | tup vs=>
   cases h;obtain⟨t,os,rfl,ht,z,r⟩:=ra
   have l1:=r.len
   simp only[Array.length_toList]at l1
   refine PyProof.Rows.truthy_tuple ht (by lia) ?_
   have e:(!os.isEmpty)=!vs.isEmpty:=by
    have:os.isEmpty=vs.isEmpty:=by
     rw[Bool.eq_iff_iff]
     simp only[Array.isEmpty_iff_size_eq_zero,List.isEmpty_iff_length_eq_zero,l1]
    rw[this]
   rw[e];exact hq _
 | loc l=>
   obtain⟨p,hp,rfl⟩:=ra
   have h:Mb J[l]?=some b:=h
   rcases e:J[l]? with _ | (⟨vs⟩ | ⟨vs,ep⟩ | _ | _ | _ | _) <;>rw[e]at h <;>first | exact eE h | skip
   ·cases h
    obtain⟨p',hp',os,n,ho,z,r⟩:=S.obj e
    rw[hp]at hp';cases hp'
    have l1:=r.len
    simp only[Array.length_toList]at l1
    refine wpAny_truthy_list (vC ho) (by lia) ?_
    have e:(!os.isEmpty)=!vs.isEmpty:=by
     have:os.isEmpty=vs.isEmpty:=by
      rw[Bool.eq_iff_iff]
      simp only[Array.isEmpty_iff_size_eq_zero,List.isEmpty_iff_length_eq_zero,l1]
     rw[this]
    rw[e];exact hq _
   ·cases h
    obtain⟨p',hp',ps,⟨o,es,ho⟩,z,r⟩:=S.obj e
    rw[hp]at hp';cases hp'
    have l1:=r.len
    replace ho:s.heap.DictOf (strKind g.prog g.w) p ps:=⟨o,es,_,ho⟩
    refine wpAny_truthy_dict (ZG Y S hp) ho (by rw[LA]at z;lia) ?_
    have e:(!ps.isEmpty)=!vs.isEmpty:=by
     have:ps.isEmpty=vs.isEmpty:=by
      rw[Bool.eq_iff_iff]
      simp only[List.isEmpty_iff_length_eq_zero,l1]
     rw[this]
    rw[e];exact hq _
 | _=>exact eE h
theorem UW{x:List Nat}(h:∀c∈x,c < 0x110000):PyData.strOk (⟨x.toArray⟩:Str)=true:=by
 unfold PyData.strOk
 rw[<-Array.all_toList]
 simpa using h
theorem ZO(n:Nat){v:V}{x:Value}{D:PyData}(r:SA g s.heap U v x)(e:zU v=some D):(∃as,Reads s.heap x D as)/\D.canLay0=true/\D.depth<=n:=by
 induction v using V.casesOn with
 | none=>cases e;subst r;exact⟨⟨_, .none⟩,rfl,Nat.zero_le _⟩
 | bool b=>cases e;subst r;exact⟨⟨_, .bool _⟩,rfl,Nat.zero_le _⟩
 | int b=>cases e;obtain⟨t,rfl⟩:=r;exact⟨⟨_, .int _ _⟩,rfl,Nat.zero_le _⟩
 | str b=>cases e;obtain⟨t,rfl,_,c⟩:=r;exact⟨⟨_, .str _ _⟩,by simp[canLay0,UW c],Nat.zero_le _⟩
 | _=>exact eE e
theorem wR{f:V->Option PyData}{n:Nat}(hf:∀v x D,SA g s.heap U v x->f v=some D->(∃as,Reads s.heap x D as)/\D.canLay0=true/\D.depth<=n):
 ∀{vs:List V} {xs:List Value} {Ds:List PyData},MA g s.heap U vs xs->PQ f vs=some Ds->(∃as,ReadsAll s.heap xs Ds as)/\canLayAll0 Ds=true/\depthAll Ds<=n:=by
 intro vs
 induction vs with
 | nil=>intro xs Ds r e;cases e;induction xs using List.casesOn with
   | nil=>exact⟨⟨_, .nil⟩,rfl,Nat.zero_le _⟩
   | cons _ _=>exact r.elim
 | cons v vs ih=>intro xs Ds r e;induction xs using List.casesOn with
   | nil=>exact r.elim
   | cons x xs=>
     have e:(match f v with | some d=>(match PQ f vs with | some ds=>some (d::ds) | Option.none=>Option.none) | Option.none=>Option.none)=some Ds:=e
     induction e1:f v using Option.casesOn with
     | none=>rw[e1]at e;cases e
     | some d=>
       induction e2:PQ f vs using Option.casesOn with
       | none=>rw[e1,e2]at e;cases e
       | some ds=>
         rw[e1,e2]at e
         cases e
         obtain⟨⟨a1,q1⟩,q2,q3⟩:=hf v x d r.1 e1
         obtain⟨⟨a2,p1⟩,p2,p3⟩:=ih r.2 e2
         exact⟨⟨_, .cons q1 p1⟩,by simp[canLayAll0,q2,p2],by simp only[depthAll];exact Nat.max_le.mpr ⟨q3,p3⟩⟩
theorem gG(S:St g s U J):∀(n:Nat) (v:V) (x:Value) (D:PyData),SA g s.heap U v x->lL J n v=some D->(∃as,Reads s.heap x D as)/\D.canLay0=true/\D.depth<=n:=by
 intro n
 induction n with
 | zero=>intro v x D r e;exact ZO 0 r e
 | succ n ih=>
   intro v x D r e
   induction v using V.casesOn with
   | tup vs=>
     obtain⟨ds,e1,rfl⟩:=Option.map_eq_some_iff.mp (e)
     obtain⟨a,os,rfl,⟨o,ho,hc,k,hd⟩,_,r⟩:=r
     obtain⟨⟨as,q1⟩,q2,q3⟩:=wR ih r e1
     exact⟨⟨_, .tuple ho hc hd q1⟩,by simpa[canLay0]using q2,by simp[depth];exact q3⟩
   | loc l=>
     obtain⟨vs,hv,e⟩:=Option.bind_eq_some_iff.mp (e)
     ·obtain⟨ds,e1,rfl⟩:=Option.map_eq_some_iff.mp e
      obtain⟨a,os,k,ha,ho,_,r'⟩:=S.list hv
      obtain⟨a',ha',rfl⟩:=r
      rw[ha]at ha';cases ha'
      obtain⟨⟨as,q1⟩,q2,q3⟩:=wR ih r' e1
      exact⟨⟨_, .list ho rfl rfl q1⟩,by simpa[canLay0]using q2,by simp[depth];exact q3⟩
   | _=>exact ZO (n+1) r e
end
end
section
variable{g:G}{s:Shared}{U:List Addr}{J:List O}{A:Around}{d:Nat}{hd:Option Nat}{E:Value->Shared->Prop}
theorem mJ:∀(vs:List V) (ss:List (List Nat)),iC vs=some ss->LM J 0 vs=some (ss.map fun x=> .str ⟨x.toArray⟩)
 | [],_,e=>by cases e;rfl
 | v::vs,ss,e=>by
   obtain⟨x,ex,e⟩:=Option.bind_eq_some_iff.mp e
   obtain⟨r,e',rfl⟩:=Option.map_eq_some_iff.mp e
   induction v using V.casesOn with
   | str x=>cases ex;rw[PD,SH,mJ vs r e'];rfl
   | _=>exact eE ex
theorem QG:∀(vs:List V) (ss:List Int),uI vs=some ss->LM J 0 vs=some (ss.map fun x=> .int x)
 | [],_,e=>by cases e;rfl
 | v::vs,ss,e=>by
   obtain⟨x,ex,e⟩:=Option.bind_eq_some_iff.mp e
   obtain⟨r,e',rfl⟩:=Option.map_eq_some_iff.mp e
   induction v using V.casesOn with
   | int x=>cases ex;rw[PD,kP,QG vs r e'];rfl
   | _=>exact eE ex
theorem EO(x:List Nat)(ss:List (List Nat)):((ss.map fun x=>PyData.str ⟨x.toArray⟩).any fun y=>PyData.eqv y (.str ⟨x.toArray⟩))=ss.contains x:=by
 induction ss with
 | nil=>rfl
 | cons y r ih=>
   simp only[List.map_cons,List.any_cons,List.contains_cons,ih]
   congr 1
   by_cases h:y=x
   ·subst h;simp[PyData.eqv]
   ·have h1:x≠y:=Ne.symm h
    have h2:¬(⟨y.toArray⟩:Str)=⟨x.toArray⟩:=fun q=>h (by simpa using q)
    simp only[PyData.eqv]
    rw[beq_eq_false_iff_ne.mpr h2,beq_eq_false_iff_ne.mpr h1]
theorem rH(x:Int)(ss:List Int):((ss.map fun x=>PyData.int x).any fun y=>PyData.eqv y (.int x))=ss.contains x:=by
 induction ss with
 | nil=>rfl
 | cons y r ih=>
   simp only[List.map_cons,List.any_cons,List.contains_cons,ih]
   congr 1
   by_cases h:y=x
   ·subst h;simp[PyData.eqv]
   ·have h1:x≠y:=Ne.symm h
    simp only[PyData.eqv]
    rw[beq_eq_false_iff_ne.mpr h,beq_eq_false_iff_ne.mpr h1]
theorem gS{h:Heap}{a:Option V}{b:Option Value}(k:rJ g h U a b):b.isSome=a.isSome:=by
 induction a using Option.casesOn <;>induction b using Option.casesOn <;>first | rfl | exact False.elim k
theorem jD{h:Heap}:∀{kvs:List (List Nat×V)} {ps:List (Str×Value)},cB g h U kvs ps->∀k:List Nat,rJ g h U (QA k kvs) (valueAt ps ⟨k.toArray⟩)
 | [],[],_,k=>trivial
 | (k',v)::kvs,(k'',x)::ps,⟨⟨e,_,_,r⟩,rs⟩,k=>by
   have e':k''=⟨k'.toArray⟩:=e
   subst e'
   simp only[QA.r1,QA.r2,valueAt,List.find?_cons]
   by_cases h:k'=k
   ·subst h;simp;exact r
   ·have:¬(⟨k'.toArray⟩:Str)=⟨k.toArray⟩:=fun q=>h (by simpa using q)
    simp only[h,this,if_false,decide_false]
    have ih:=jD rs k
    simpa[valueAt]using ih
 | [],_::_,r,_=>r.elim
 | _::_,[],r,_=>r.elim
theorem fD(k:List Nat)(t:Tok):(strKind g.prog g.w).is ⟨k.toArray⟩ (.str ⟨k.toArray⟩ t)=true:=by
 exact PySem.W.isStrOf_self (⟨k.toArray⟩:Str) t
theorem cV(Y:VC g)(C:Cx g A s U d hd)(S:St g s U J){x y:V}{a b:Value}{r:Bool}(ra:SA g s.heap U x a)(rb:SA g s.heap U y b)(h:RQ J x y=some r):
 (∀(Q:Value->Shared->Prop),(∀t,Q (.bool r) {s with toks:=t})->wpAny (model g.prog g.w) A (compareOp .In a b) Q E s)/\
 (∀(Q:Value->Shared->Prop),(∀t,Q (.bool (!r)) {s with toks:=t})->wpAny (model g.prog g.w) A (compareOp .NotIn a b) Q E s):=by
 have room:=C.room
 induction x using V.casesOn with
 | str x=>induction y using V.casesOn with
   | tup vs=>
     obtain⟨ss,e,rfl⟩:=Option.map_eq_some_iff.mp h
     have t1:lL J 1 (.tup vs)=some (.tuple (ss.map fun x=> .str ⟨x.toArray⟩)):=by simp[GN,mJ vs ss e]
     obtain⟨⟨as,q1⟩,q2,q3⟩:=gG S 1 _ _ _ rb t1
     obtain⟨⟨bs,p1⟩,p2,p3⟩:=gG S 1 (.str x) _ _ ra rfl
     have z:A.units+1+min (PyData.depthAll (ss.map fun x=> .str ⟨x.toArray⟩)) (PyData.depth (.str (⟨x.toArray⟩:Str))) < cLine:=by simp[PyData.depth];exact qC room
     refine⟨fun Q hq=>PySem.SeqAt.in_tuple_reads q1 p1 (by simpa[PyData.canLay0]using q2) p2 z ?_,fun Q hq=>PySem.SeqAt.notIn_tuple_reads q1 p1 (by simpa[PyData.canLay0]using q2) p2 z ?_⟩
     ·rw[EO];exact hq s.toks
     ·rw[EO];exact hq s.toks
   | str vs=>
     rcases x with _ | ⟨c,_ | ⟨c2,x⟩⟩ <;>first | exact eE h | skip
     ·cases h
      obtain⟨t,rfl,_⟩:=ra;obtain⟨u,rfl,_⟩:=rb
      have e:(!(Builtin.Str.occurrences (⟨vs.toArray⟩:Str) ⟨#[c]⟩ 0 (⟨vs.toArray⟩:Str).length 1).isEmpty)=vs.contains c:=by
       rw[PySem.StrLaws.found_one]
       by_cases h:c∈vs <;>simp[h]
      refine⟨fun Q hq=>PySem.P.in_str ?_,fun Q hq=>PySem.P.notIn_str ?_⟩
      ·have:=hq s.toks;rw[<-e]at this;exact this
      ·have:=hq s.toks;rw[<-e]at this;exact this
   | loc l=>
     obtain⟨kvs,hv,rfl⟩:=Option.map_eq_some_iff.mp h
     obtain⟨p,ps,hp,ho,z,r⟩:=S.dict hv
     obtain⟨p',hp',rfl⟩:=rb
     rw[hp]at hp';cases hp'
     obtain⟨t,rfl,_⟩:=ra
     have e:(valueAt ps (⟨x.toArray⟩:Str)).isSome=(QA x kvs).isSome:=by
      have:=jD r x
      exact gS this
     refine⟨fun Q hq=>wpAny_in_of (fD x t) (ZG Y S hp) ho.mapOf ?_,fun Q hq=>wpAny_notIn_of (fD x t) (ZG Y S hp) ho.mapOf ?_⟩
     ·rw[e];exact hq _
     ·rw[e];exact hq _
   | _=>exact eE h
 | int x=>induction y using V.casesOn with
   | tup vs=>
     obtain⟨ss,e,rfl⟩:=Option.map_eq_some_iff.mp h
     have t1:lL J 1 (.tup vs)=some (.tuple (ss.map fun x=> .int x)):=by simp[GN,QG vs ss e]
     obtain⟨⟨as,q1⟩,q2,q3⟩:=gG S 1 _ _ _ rb t1
     obtain⟨⟨bs,p1⟩,p2,p3⟩:=gG S 1 (.int x) _ _ ra rfl
     have z:A.units+1+min (PyData.depthAll (ss.map fun x=> .int x)) (PyData.depth (.int x)) < cLine:=by simp[PyData.depth];exact qC room
     refine⟨fun Q hq=>PySem.SeqAt.in_tuple_reads q1 p1 (by simpa[PyData.canLay0]using q2) p2 z ?_,fun Q hq=>PySem.SeqAt.notIn_tuple_reads q1 p1 (by simpa[PyData.canLay0]using q2) p2 z ?_⟩
     ·rw[rH];exact hq s.toks
     ·rw[rH];exact hq s.toks
   | loc l=>
     obtain⟨vs,hv,h⟩:=Option.bind_eq_some_iff.mp h
     obtain⟨ss,e,rfl⟩:=Option.map_eq_some_iff.mp h
     have t1:lL J 1 (.loc l)=some (.list (ss.map fun x=> .int x)):=by simp[KZ,hv,QG vs ss e]
     obtain⟨⟨as,q1⟩,q2,q3⟩:=gG S 1 _ _ _ rb t1
     obtain⟨⟨bs,p1⟩,p2,p3⟩:=gG S 1 (.int x) _ _ ra rfl
     have z:A.units+1+min (PyData.depthAll (ss.map fun x=> .int x)) (PyData.depth (.int x)) < cLine:=by simp[PyData.depth];exact qC room
     refine⟨fun Q hq=>PySem.SeqAt.in_list_reads q1 p1 (by simpa[PyData.canLay0]using q2) p2 z ?_,fun Q hq=>PySem.SeqAt.notIn_list_reads q1 p1 (by simpa[PyData.canLay0]using q2) p2 z ?_⟩
     ·rw[rH];exact hq s.toks
     ·rw[rH];exact hq s.toks
   | _=>exact eE h
 | _=>exact eE h
theorem kM{x:V}{a:Value}{r:Bool}(ra:SA g s.heap U x a)(h:iD x=some r):plainIs a .none=true/\(a== .none)=r:=by
 induction x using V.casesOn with
 | none=>cases h;subst ra;exact⟨rfl,rfl⟩
 | bool b=>cases h;subst ra;exact⟨rfl,rfl⟩
 | int i=>cases h;obtain⟨t,rfl⟩:=ra;exact⟨rfl,rfl⟩
 | str i=>cases h;obtain⟨t,rfl,_⟩:=ra;exact⟨rfl,rfl⟩
 | tup i=>cases h;obtain⟨t,os,rfl,_⟩:=ra;exact⟨rfl,rfl⟩
 | loc l=>cases h;obtain⟨t,_,rfl⟩:=ra;exact⟨rfl,rfl⟩
 | val v=>cases h
 | script=>cases h;cases ra;exact⟨rfl,rfl⟩
theorem QN(Y:VC g)(C:Cx g A s U d hd)(S:St g s U J){op:CmpOp}{x y:V}{a b:Value}{r:Bool}{Q:Value->Shared->Prop}(ra:SA g s.heap U x a)(rb:SA g s.heap U y b)(h:xH J op x y=some r)
 (hq:∀t,Q (.bool r) {s with toks:=t}):wpAny (model g.prog g.w) A (compareOp op a b) Q E s:=by
 have room:=C.room
 have eqd:∀r,IU J 8 x y=some r->∃D D' as bs,Reads s.heap a D as/\Reads s.heap b D' bs/\D.canLay0=true/\D'.canLay0=true/\A.units+min D.depth D'.depth < cLine/\PyData.eqv D D'=r:=by
  intro r h
  obtain⟨D,e1,h⟩:=Option.bind_eq_some_iff.mp h
  obtain⟨D',e2,rfl⟩:=Option.map_eq_some_iff.mp h
  ·obtain⟨⟨as,q1⟩,q2,q3⟩:=gG S 80 _ _ _ ra e1
   obtain⟨⟨bs,p1⟩,p2,p3⟩:=gG S 8 _ _ _ rb e2
   exact⟨D,D',as,bs,q1,p1,q2,p2,by have:=Nat.min_le_right D.depth D'.depth;exact(qP this p3 room),rfl⟩
 induction op using PySem.CmpOp.casesOn with
 | Eq=>
   obtain⟨D,D',as,bs,q1,q2,q3,q4,q5,q6⟩:=eqd _ h
   exact PySem.SeqAt.compareEq_reads q1 q2 q3 q4 q5 (by rw[q6];exact hq s.toks)
 | NotEq=>
   obtain⟨r',h',rfl⟩:=Option.map_eq_some_iff.mp h;clear h;have h:=h'
   obtain⟨D,D',as,bs,q1,q2,q3,q4,q5,q6⟩:=eqd _ h
   exact PySem.SeqAt.compareNe_reads q1 q2 q3 q4 q5 (by rw[q6];exact hq s.toks)
 | Lt=>induction x using V.casesOn with
   | int i=>induction y using V.casesOn with
     | int j=>cases h;obtain⟨t,rfl⟩:=ra;obtain⟨u,rfl⟩:=rb;exact lt_int (hq s.toks)
     | _=>exact eE h
   | _=>exact eE h
 | LtE=>induction x using V.casesOn with
   | int i=>induction y using V.casesOn with
     | int j=>cases h;obtain⟨t,rfl⟩:=ra;obtain⟨u,rfl⟩:=rb;exact PyProof.Rows.le_int (hq s.toks)
     | _=>exact eE h
   | _=>exact eE h
 | Gt=>induction x using V.casesOn with
   | int i=>induction y using V.casesOn with
     | int j=>cases h;obtain⟨t,rfl⟩:=ra;obtain⟨u,rfl⟩:=rb;exact PyProof.Rows.gt_int (hq s.toks)
     | _=>exact eE h
   | _=>exact eE h
 | GtE=>induction x using V.casesOn with
   | int i=>induction y using V.casesOn with
     | int j=>cases h;obtain⟨t,rfl⟩:=ra;obtain⟨u,rfl⟩:=rb;exact PyProof.Rows.ge_int (hq s.toks)
     | _=>exact eE h
   | _=>exact eE h
 | In=>
   exact(cV Y C S ra rb h).1 Q hq
 | NotIn=>
   obtain⟨r',h',rfl⟩:=Option.map_eq_some_iff.mp h;clear h;have h:=h'
   exact(cV Y C S ra rb h).2 Q hq
 | Is=>induction y using V.casesOn with
   | none=>
     subst rb
     obtain⟨q1,q2⟩:=kM ra h
     exact wpAny_is_plain q1 (by rw[q2];exact hq s.toks)
   | _=>exact eE h
 | IsNot=>
   obtain⟨r',h',rfl⟩:=Option.map_eq_some_iff.mp h;clear h;have h:=h'
   induction y using V.casesOn with
   | none=>
     subst rb
     obtain⟨q1,q2⟩:=kM ra h
     exact wpAny_isNot_plain q1 (by rw[q2];exact hq s.toks)
   | _=>exact eE h
end
noncomputable def BE(n:Nat):Option Int->Nat
 | none=>0
 | some i=>XD n i
noncomputable def zD(n:Nat):Option Int->Nat
 | none=>n
 | some i=>XD n i
theorem mU(a b:Nat):((min a b:Nat):Int)=min (a:Int) b:=by
 rcases Nat.le_total a b with h | h
 ·rw[Nat.min_eq_left h,Int.min_eq_left (Int.ofNat_le.mpr h)]
 ·rw[Nat.min_eq_right h,Int.min_eq_right (Int.ofNat_le.mpr h)]
theorem lK(n:Nat)(i:Int):max 0 (min (if i < 0 then i+n else i) (n:Int))=((XD n i:Nat):Int):=by
 unfold XD
 by_cases h:i < 0
 ·rw[if_pos h,if_pos h,Int.min_eq_left (Int.add_le_of_le_sub_right (by rw[Int.sub_self];exact Int.le_of_lt h)),Int.ofNat_toNat,Int.max_comm]
 ·have h:=Int.not_lt.mp h
  rw[if_neg (Int.not_lt.mpr h),if_neg (Int.not_lt.mpr h),mU,Int.toNat_of_nonneg h,Int.max_eq_right (Int.le_min.mpr ⟨h,Int.natCast_nonneg n⟩)]
theorem AW(a b:Nat):sliceRange (a:Int) (b:Int) 1=(List.range (b - a)).map fun k=>a+k:=by
 unfold sliceRange
 simp only[show(1:Int)>0 by decide,if_true]
 have ec:(if(a:Int) < b then((b:Int) - a+1 - 1) / 1 else 0).toNat=b - a:=by
  by_cases h:(a:Int) < b
  ·rw[if_pos h,Int.add_sub_cancel,Int.ediv_one,Int.toNat_sub]
  ·rw[if_neg h,Nat.sub_eq_zero_of_le (Int.ofNat_le.mp (Int.not_lt.mp h))];rfl
 rw[ec]
 refine List.map_congr_left fun k u0=>?_
 rw[Int.one_mul, <-Int.natCast_add,Int.toNat_natCast]
theorem Ab(lo hi:Option Int)(n:Nat):Builtin.Str.strSliceIndices lo hi 1 n=(List.range (zD n hi - BE n lo)).map fun k=>BE n lo+k:=by
 rw[<-AW]
 unfold Builtin.Str.strSliceIndices
 simp only[show(1:Int)>0 by decide,if_true]
 cases lo <;>cases hi <;>simp only[BE,zD,lK] <;>rfl
theorem HP(n:Nat)(hi:Option Int):zD n hi<=n:=by
 induction hi using Option.casesOn with
 | none=>exact Nat.le_refl _
 | some i=>simp only[zD,XD];split <;>lia
theorem ja{α:Type}(x:List α)(a b:Nat)(hb:b<=x.length):((List.range (b - a)).map fun k=>a+k).filterMap (x[·]?)=gF x a b:=by
 unfold gF
 by_cases h:a<=b
 ·rw[List.filterMap_map]
  have:(x.take b).drop a=(List.range (b - a)).filterMap fun k=>x[a+k]?:=by
   apply List.ext_getElem?
   intro i
   rw[List.getElem?_drop,List.getElem?_take]
   have key:∀m,m<=b - a->((List.range m).filterMap fun k=>x[a+k]?)=((x.drop a).take m):=by
    intro m
    induction m with
    | zero=>intro _;simp
    | succ m ih=>
      intro hm
      rw[List.range_succ,List.filterMap_append,ih (by exact(db hm)),List.take_add_one]
      congr 1
      rw[List.getElem?_drop]
      cases h:x[a+m]? <;>simp[h]
   rw[key _ (Nat.le_refl _),List.getElem?_take,List.getElem?_drop]
   by_cases q:i < b - a
   ·rw[if_pos q,if_pos (by lia)]
   ·rw[if_neg q,if_neg (by lia)]
  rw[this];rfl
 ·have:b - a=0:=by lia
  rw[this]
  simp
  lia
noncomputable def GS:V->Option (Option Int)
 | .none=>some none
 | .int i=>some (some i)
 | _=>none
theorem zO{n:Nat}{v:V}{i:Nat}(h:ff n v=some i):∃o,GS v=some o/\i=BE n o:=by
 induction v using V.casesOn with
 | none=>cases h;exact⟨none,rfl,rfl⟩
 | int i=>cases h;exact⟨some _,rfl,rfl⟩
 | _=>exact eE h
theorem iO{n:Nat}{v:V}{i:Nat}(h:xe n v=some i):∃o,GS v=some o/\i=zD n o:=by
 induction v using V.casesOn with
 | none=>cases h;exact⟨none,rfl,rfl⟩
 | int i=>cases h;exact⟨some _,rfl,rfl⟩
 | _=>exact eE h
theorem IP{g:G}{h:Heap}{U:List Addr}{v:V}{x:Value}{o:Option Int}(r:SA g h U v x)(e:GS v=some o):∃p:Option (Int×Tok),x=partValue p/\p.map (·.1)=o:=by
 induction v using V.casesOn with
 | none=>cases e;subst r;exact⟨none,rfl,rfl⟩
 | int i=>cases e;obtain⟨t,rfl⟩:=r;exact⟨some (_,t),rfl,rfl⟩
 | _=>exact eE e
section
variable{g:G}{s:Shared}{U:List Addr}{J:List O}{A:Around}{d:Nat}{hd:Option Nat}{E:Value->Shared->Prop}
theorem NX{α:Type}{x:List α}{i j:Nat}{c:α}(h:c∈gF x i j):c∈x:=List.mem_of_mem_take (List.mem_of_mem_drop h)
theorem RN{α:Type}(x:List α)(i j:Nat):(gF x i j).length<=x.length:=by unfold gF;simp;lia
theorem oT(S:St g s U J){x:List Nat}{t:Tok}{lo hi:Option (Int×Tok)}{a:Addr}{Q:Value->Shared->Prop}(hs:s.heap.IsSlice a lo hi none)
 (hq:∀t' k,Q (.str ⟨(gF x (BE x.length (lo.map (·.1))) (zD x.length (hi.map (·.1)))).toArray⟩ t') {s with toks:=k}) (hz:x.length<=sizeLine):
 wpAny (model g.prog g.w) A (getItem (.str ⟨x.toArray⟩ t) (.ref a)) Q E s:=by
 refine wpAny_getItem_str_slice hs rfl ?_
 have e:(slicePicked (⟨x.toArray⟩:Str) lo hi none)=(List.range (zD x.length (hi.map (·.1)) - BE x.length (lo.map (·.1)))).map fun k=>BE x.length (lo.map (·.1))+k:=by
  unfold slicePicked
  rw[TB]
  exact Ab _ _ _
 have e2:(slicePicked (⟨x.toArray⟩:Str) lo hi none).filterMap ((⟨x.toArray⟩:Str).cps[·]?)=gF x (BE x.length (lo.map (·.1))) (zD x.length (hi.map (·.1))):=by
  rw[e]
  have:=ja x (BE x.length (lo.map (·.1))) (zD x.length (hi.map (·.1))) (HP _ _)
  simpa using this
 unfold sliceMade
 rw[e2]
 split
 ·rename_i h
  have hlen:(slicePicked (⟨x.toArray⟩:Str) lo hi none).length=x.length:=by
   simp only[Bool.and_eq_true,beq_iff_eq]at h
   rw[h.2,TB]
  rw[e,List.length_map,List.length_range]at hlen
  have h1:=HP x.length (hi.map (·.1))
  have:gF x (BE x.length (lo.map (·.1))) (zD x.length (hi.map (·.1)))=x:=by
   by_cases h0:x.length=0
   ·have:=List.length_eq_zero_iff.mp h0;rw[this];simp[gF]
   ·have a1:BE x.length (lo.map (·.1))=0:=by lia
    have a2:zD x.length (hi.map (·.1))=x.length:=by lia
    rw[a1,a2];simp[gF]
  have z:=hq t s.toks
  rw[this]at z
  exact z
 ·exact⟨by rw[TB];exact Nat.le_trans (RN ..) hz,hq _ _⟩
end
section
variable{M:Model}{A:Around}{E:Value->Shared->Prop}{s:Shared}
theorem eH{vs:List Value}{m:Sem Value}{Q:Value->Shared->Prop}(h:wpAny M A m Q E s):wpAny M A (operate vs m) Q E s:=fun Γ p Yb=>by
 rw[Sem.wp_operate];exact h Γ p Yb
theorem gL{slice:Expr}{o i:Value}{Q:Value->Shared->Prop}(h:wpAny M A (getItem o i) Q E s):wpAny M A (subscripted slice false o i) Q E s:=by
 induction slice using Expr.casesOn with
 | Slice l u st p=>rcases st with _ | st <;>exact eH h
 | _=>exact eH h
end
section
variable{prog:Program}{w:World}{A:Around}{E:Value->Shared->Prop}{s:Shared}
theorem LE{value slice:Expr}{o i:Value}{T id:String}{Q:Value->Shared->Prop}(hT:s.TypeIs o T)(hl:typeLookup (.type T) "__getitem__"=pure (some (.builtin id)))
 (h:wpAny (model prog w) A (getItem o i) Q E s):wpAny (model prog w) A (subscriptTail value slice o i) Q E s:=by
 have g1:wpAny (model prog w) A (getitemInPython o) (fun b s'=>b=false/\s'=s) E s:=by
  exact wpAny_bind (wpAny_specialOf hT hl (wpAny_pure ⟨rfl,rfl⟩))
 refine wpAny_bind (wpAny_mono g1 (fun b s' h'=>?_) fun u0 u0 x=>x)
 obtain⟨rfl,rfl⟩:=h'
 exact wpAny_bind (wpAny_mono (gL h) (fun r s'' hr=>wpAny_bind (wpAny_letTemporaryGo (wpAny_pure hr))) fun u0 u0 x=>x)
end
section
variable{g:G}{s:Shared}{U:List Addr}{J:List O}{A:Around}{d:Nat}{hd:Option Nat}{E:Value->Shared->Prop}
inductive SeqAt{α:Type}(xs:List α)(i:Int)(v:α):Prop
 | mk (a: -(xs.length:Int)<=i) (b:i < xs.length) (j:Nat) (e:seqIndex? i xs.length=some j) (h:xs[j]?=some v)
theorem tN{α:Type}{xs:List α}{i:Int}{v:α}(h:cK xs i=some v):SeqAt xs i v:=by
 unfold cK at h
 split at h
 ·rename_i h0
  have:=(List.getElem?_eq_some_iff.mp h).1
  refine⟨by lia,by lia,i.toNat,?_,h⟩
  unfold seqIndex?
  have h1:¬i < 0:=by lia
  simp only[h1,if_false]
  rw[if_pos (by simp;lia)]
 ·split at h
  ·rename_i h0 h1
   have:=(List.getElem?_eq_some_iff.mp h).1
   refine⟨by lia,by lia,(i+xs.length).toNat,?_,h⟩
   unfold seqIndex?
   have h2:i < 0:=by lia
   simp only[h2,if_true]
   rw[if_pos (by simp;lia)]
  ·cases h
theorem HW{i:Int}{n j:Nat}(e:seqIndex? i n=some j)(h:i < 0):j=(i+n).toNat:=by
 unfold seqIndex? at e
 rw[if_pos h]at e
 dsimp only at e
 split at e
 ·cases e;rfl
 ·cases e
theorem IW{i:Int}{n j:Nat}(e:seqIndex? i n=some j)(h:¬i < 0):j=i.toNat:=by
 unfold seqIndex? at e
 rw[if_neg h]at e
 dsimp only at e
 split at e
 ·cases e;rfl
 ·cases e
theorem Ia(Y:VC g)(S:St g s U J){x y v:V}{a b:Value}{value slice:Expr}{Q:Value->Shared->Prop}(ra:SA g s.heap U x a)(rb:SA g s.heap U y b)(h:QT g J x y=some v)
 (hq:∀w t,SA g s.heap U v w->Q w {s with toks:=t}):wpAny (model g.prog g.w) A (subscriptTail value slice a b) Q E s:=by
 induction x using V.casesOn with
 | str x=>induction y using V.casesOn with
   | int i=>
     obtain⟨c,e,rfl⟩:=Option.map_eq_some_iff.mp h
     obtain⟨t,rfl,z,ok⟩:=ra;obtain⟨u,rfl⟩:=rb
     obtain⟨l1,l2,j,e1,e2⟩:=tN e
     rw[LA]at z
     refine LE (T:="str") rfl PySem.F.slot_str_getitem.lookup (PySem.P.getItem_str (c:=c) (by simp;lia) ?_ ?_)
     ·rw[TB,e1];simpa using e2
     ·exact hq _ _ ⟨_,rfl,by rw[LA];exact Nat.le_of_ble_eq_true rfl,fun c' m=>by rw[List.mem_singleton.mp m];exact ok c (List.mem_of_getElem? e2)⟩
   | _=>exact eE h
 | tup vs=>induction y using V.casesOn with
   | int i=>
     obtain⟨t,os,rfl,ht,z,r⟩:=ra;obtain⟨u,rfl⟩:=rb
     obtain⟨l1,l2,j,e1,e2⟩:=tN h
     obtain⟨w,hw,rw'⟩:=r.get e2
     have l:=r.len
     simp only[Array.length_toList]at l
     refine LE (T:="tuple") (by obtain⟨o,ho,hc,_⟩:=ht;exact⟨o,ho,hc⟩) PySem.F.slot_tuple_getitem.lookup (PyProof.Rows.getItem_tuple ht (by lia) (by lia) (by rw[l];exact e1) (by simpa using hw) (hq _ s.toks rw'))
   | _=>exact eE h
 | loc l=>induction y using V.casesOn with
   | int i=>
     obtain⟨vs,hv,h⟩:=Option.bind_eq_some_iff.mp h
     obtain⟨p,os,n,hp,ho,z,r⟩:=S.list hv
     obtain⟨p',hp',rfl⟩:=ra
     rw[hp]at hp';cases hp'
     obtain⟨u,rfl⟩:=rb
     obtain⟨l1,l2,j,e1,e2⟩:=tN h
     obtain⟨w,hw,rw'⟩:=r.get e2
     have l:=r.len
     simp only[Array.length_toList]at l
     have hl:=vC ho
     refine LE (T:="list") hl.typeIs slot_list_getitem.lookup ?_
     by_cases h0:i < 0
     ·obtain rfl:=HW e1 h0
      refine wpAny_getItem_list_neg hl h0 (by lia) (by lia) ?_ (hq _ s.toks rw')
      rw[l];simpa using hw
     ·obtain rfl:=IW e1 h0
      exact wpAny_getItem_list hl (by lia) (by lia) (by simpa using hw) (hq _ s.toks rw')
   | str k=>
     obtain⟨kvs,hv,h⟩:=Option.bind_eq_some_iff.mp h
     obtain⟨p,ps,hp,ho,z,r⟩:=S.dict hv
     obtain⟨p',hp',rfl⟩:=ra
     rw[hp]at hp';cases hp'
     obtain⟨t,rfl,_⟩:=rb
     have q:=jD r k
     rw[h]at q
     induction e:valueAt ps (⟨k.toArray⟩:Str)using Option.casesOn with
     | none=>rw[e]at q;exact q.elim
     | some w=>
       rw[e]at q
       exact LE (T:="dict") ho.mapOf.typeIs slot_dict_getitem.lookup (wpAny_getItem_of (fD k t) ho.mapOf e (hq _ _ q))
   | _=>exact eE h
 | script=>induction y using V.casesOn with
   | int i=>
     obtain⟨n,e,rfl⟩:=Option.map_eq_some_iff.mp h
     cases ra
     obtain⟨u,rfl⟩:=rb
     obtain⟨vs,hvs,hi,hz⟩:=Y.script
     have hl:s.heap.IsList g.sa vs:=by obtain⟨o,ho,r⟩:=hvs;exact⟨o,S.base _ _ ho,r⟩
     obtain⟨l1,l2,j,e1,e2⟩:=tN e
     have hlen:vs.size=g.ns.length:=by have:=hi.length;simpa using this
     have key:∀{xs:List Value} {ns:List Int},IntsAre xs ns->∀{j:Nat} {n:Int},ns[j]?=some n->∃t,xs[j]?=some (.int n t):=by
      intro xs ns h
      induction h with
      | nil=>intro j n e;simp at e
      | cons i t _ ih=>
        intro j n e
        induction j using Nat.casesOn with
        | zero=>simp at e;subst e;exact⟨_,rfl⟩
        | succ j=>simpa using ih (by simpa using e)
     obtain⟨t,ht⟩:=key hi e2
     refine LE (T:="list") hl.typeIs slot_list_getitem.lookup ?_
     by_cases h0:i < 0
     ·obtain rfl:=HW e1 h0
      refine wpAny_getItem_list_neg hl h0 (by lia) (by lia) ?_ (hq _ s.toks ⟨t,rfl⟩)
      rw[hlen];simpa using ht
     ·obtain rfl:=IW e1 h0
      exact wpAny_getItem_list hl (by lia) (by lia) (by simpa using ht) (hq _ s.toks ⟨t,rfl⟩)
   | _=>exact eE h
 | _=>exact eE h
end
section
open Sem (wp)
theorem KM(name:Str)(hh:Int)(key v:Value)(o:Obj):(Obj.putName name hh key v o).cls=o.cls/\(nB o->nB (Obj.putName name hh key v o)):=by
 rw[Obj.putName_eq]
 obtain⟨c,d,dt,sl⟩:=o
 set_option tactic.hygienic true in cases dt <;>try exact⟨rfl,id⟩
 rename_i es n
 unfold Obj.putNameByArray
 dsimp only
 split
 ·exact⟨rfl,fun u0=>⟨_,_,rfl⟩⟩
 ·exact⟨rfl,fun u0=>⟨_,_,rfl⟩⟩
section
variable{M:Model}{A:Around}{E:Value->Shared->Prop}{s:Shared}
inductive Dg(es:Array DictEntry)(name:Str)(v:Value)(o':Obj):Prop
 | mk (es':Array DictEntry) (ep':Nat) (d:o'.data= .dict es' ep') (f:o'.isFreed=false) (k:StrKeys es') (m:∀x,nsFind es' x=if x=name then some v else nsFind es x) (z:es'.size<=es.size+1) (z2:nsFind es name≠none->es'.size<=es.size)
theorem VQ{es:Array DictEntry}{ep:Nat}{o:Obj}{name:Str}{hh:Int}{t:Tok}{v:Value}(hd:o.data= .dict es ep)(hk:StrKeys es):Dg es name v (Obj.putName name hh (.str name t) v o):=by
 obtain⟨c,d,dt,sl⟩:=o
 subst hd
 induction hi:es.findIdx? (·.key.isStr name)using Option.casesOn with
 | some i=>
   simp only[Obj.putName_eq,Obj.putNameByArray,hi]
   exact⟨_,_,rfl,rfl,hk.modify _ _,fun x=>findBy_modify (fun n v=>v.isStr n) Value.isStr_inj es name x v i hi,by simp,fun u0=>by simp⟩
 | none=>
   simp only[Obj.putName_eq,Obj.putNameByArray,hi]
   refine⟨_,_,rfl,rfl,hk.push _ _ _ _,fun x=>findBy_push (fun n v=>v.isStr n) es name x _ _ v (fun y=>?_) hi,by simp,fun hne=>(hne ?_).elim⟩
   ·show(name==y)=decide (y=name)
    by_cases h:y=name
    ·subst h;simp
    ·have:¬name=y:=fun e=>h e.symm
     simp[h,this]
   ·unfold nsFind findBy
    rw[Array.findIdx?_eq_none_iff]at hi
    rw[Array.find?_eq_none.mpr]
    ·rfl
    ·intro x hx;have:=hi x hx;simpa using this
theorem yI{M:Model}{a:Addr}{m:Str->Option Value}{name:Str}{v:Value}{Q:Unit->Shared->Prop}(hn:s.heap.Ns a m)
 (h:∀h',h'.Ns a (fun x=>if x=name then some v else m x)->Heap.SameBut a s.heap h'->(∀o es n,s.heap.get? a=some o->o.data= .dict es n->∃o' es' n',h'.get? a=some o'/\o'.cls=o.cls/\o'.data= .dict es' n'/\es'.size<=es.size+1/\(m name≠none->es'.size<=es.size))->Q () {s with heap:=h',toks:=s.toks+1}):
 wpAny M A (nsSet a name v) Q E s:=
 fun Γ p u0=>by
 obtain⟨o,es,ep,ho,hd,hk,hm⟩:=hn
 simp only[nsSet,strHash,Sem.wp_bind',Sem.wp_cmd_ask,Sem.wp_pure',Sem.wp_cmd_mkText]
 rw[Sem.wp_loadPart_of M Γ _ p {s with toks:=s.toks+1} (o:=o) _ ho]
 have hany:es.any (·.refKey)=false:=by
  rw[Array.any_eq_false'];intro e he;obtain⟨n,t,h⟩:=hk e he;simp[DictEntry.refKey,h]
 simp only[hd,aRefKeyMayBeTheName_eq,aRefKeyMayBeTheNameByArray,hany,Bool.and_false,Bool.false_eq_true,if_false,Sem.wp_cmd_updatePart]
 obtain⟨es',ep',d',f',k',fm,z,z2⟩:=VQ (name:=name) (hh:=if name.cps.isEmpty=true then 0 else reduceHash (M.w.params.strHash name.cps)) (t:=s.toks) (v:=v) hd hk
 have e:=Heap.get?_update_self (Obj.putName name (if name.cps.isEmpty=true then 0 else reduceHash (M.w.params.strHash name.cps)) (.str name s.toks) v) ho f'
 refine⟨by rw[ho];rfl,h _ ⟨_,es',ep',e,d',k',fun x=>(fm x).trans (by rw[hm])⟩ (Heap.SameBut.update ..) fun o1 es1 n1 e1 ed=>?_⟩
 rw[ho]at e1;cases e1
 rw[hd]at ed;cases ed
 exact⟨_,es',ep',e,(KM ..).1,d',z,fun q=>z2 (by rw[hm];exact q)⟩
theorem pV{a:Addr}{m:Str->Option Value}{name:Str}{v:Value}{Q:Unit->Shared->Prop}(hn:s.heap.Ns a m)
 (h:∀h',h'.Ns a (fun x=>if x=name then some v else m x)->Heap.SameBut a s.heap h'->(∀o,s.heap.get? a=some o->∃o',h'.get? a=some o'/\o'.cls=o.cls/\nB o')->Q () {s with heap:=h',toks:=s.toks+1}):
 wpAny M A (nsSet a name v) Q E s:=yI hn fun h' N hs hz=>h h' N hs fun o e=>by
 obtain⟨td,es,ep,ho,hd,_⟩:=hn
 rw[ho]at e;cases e
 obtain⟨o',es',n',e',c',d',_⟩:=hz _ _ _ ho hd
 exact⟨o',e',c',_,_,d'⟩
theorem EF{env:Env}{name:Str}{m:Str->Option Value}{v:Value}{Q:Unit->Shared->Prop}(hk:env.scope.kind= .function)(hl:env.kindOf name=some .local)(hn:s.heap.Ns env.locals m)
 (h:∀h',h'.Ns env.locals (fun x=>if x=name then some v else m x)->Heap.SameBut env.locals s.heap h'->(∀o,s.heap.get? env.locals=some o->∃o',h'.get? env.locals=some o'/\o'.cls=o.cls/\nB o')->Q () {s with heap:=h',toks:=s.toks+1}):
 wpAny M A (storeName env name v) Q E s:=by
 rw[storeName_local hl (by rw[hk];rfl)]
 exact pV hn h
end
noncomputable def pY(env:Env)(h:Heap)(m:Str->Option Value)(x:Str)(w:Value):Prop:=
 (env.kindOf x=some .local/\m x=some w)\/((env.kindOf x=some .cell\/env.kindOf x=some .free)/\∃c,env.cells.lookup x=some c/\h.IsCell c (some w))
noncomputable def EC(env:Env):List Addr:=env.locals::env.cells.map (·.2)
structure Fm(g:G)(nm:List (List Nat))(s:Shared)(U:List Addr)(env:Env)(Z:List (Option V)):Prop where
 kind:env.scope.kind= .function
 glob:env.globals=mainGlobals
 blt:env.builtins=builtinsNs
 frame:∃f,env.frame=some f
 nodup:nm.Nodup
 len:Z.length=nm.length
 above:∀a∈EC env,g.WA.get? a=none
 out:∀a∈EC env,a∉U
 lcls:∃o,s.heap.get? env.locals=some o/\(o.cls= .type "frame"\/o.cls= .type "dict")/\nB o
 ccls:∀c∈env.cells.map (·.2),∃o v,s.heap.get? c=some o/\o.cls= .type "cell"/\o.data= .cell v
 once:(env.cells.map (·.2)).Nodup
 vars:∃m,s.heap.Ns env.locals m/\∀(i:Nat) (x:List Nat) (v:V),nm[i]?=some x->Z[i]?=some (some v)->∃w,pY env s.heap m ⟨x.toArray⟩ w/\SA g s.heap U v w
section
variable{g:G}{s:Shared}{U:List Addr}{J:List O}{A:Around}{d:Nat}{hd:Option Nat}{E:Value->Shared->Prop}{nm:List (List Nat)}{env:Env}{Z:List (Option V)}
theorem LC{x:Str}{c:Addr}{l:List (Str×Addr)}(h:l.lookup x=some c):c∈l.map (·.2):=by
 induction l with
 | nil=>cases h
 | cons p r ih=>
   obtain⟨a,b⟩:=p
   simp only[List.lookup_cons]at h
   split at h
   ·cases h;simp
   ·simp;exact .inr (by simpa using ih h)
theorem Fm.noTup(F:Fm g nm s U env Z):∀b∈EC env,∀os,¬IsTup s.heap b os:=fun b hb os t=>by
 obtain⟨o,e,c,n,dd⟩:=t
 rcases List.mem_cons.mp hb with rfl | hb
 ·obtain⟨o',e',_,es,ep,d'⟩:=F.lcls
  rw[e]at e';cases e';rw[dd]at d';cases d'
 ·obtain⟨o',v,e',_,d'⟩:=F.ccls b hb
  rw[e]at e';cases e';rw[dd]at d';cases d'
theorem Fm.step{s':Shared}{iA:List Addr}(F:Fm g nm s U env Z)(S:St g s U J)(T:KA s.heap s'.heap U iA []):Fm g nm s' iA env Z:=by
 have lt:∀a∈EC env,∃o,s.heap.get? a=some o:=fun a ha=>by
  rcases List.mem_cons.mp ha with rfl | ha
  ·obtain⟨o,e,_⟩:=F.lcls;exact⟨o,e⟩
  ·obtain⟨o,v,e,_⟩:=F.ccls a ha;exact⟨o,e⟩
 have cell:∀c∈env.cells.map (·.2),∀o,s.heap.get? c=some o->s'.heap.get? c=some o:=fun c hc o e=>by
  obtain⟨aa,v,BI,SN,_⟩:=F.ccls c hc
  rw[e]at BI;cases BI
  obtain⟨o',e',k⟩:=T.keep c o e (F.out c (List.mem_cons_of_mem _ hc)) (fun m=>nomatch m)
  rw[k.eq (by rw[SN];decide) (by rw[SN];decide)]at e'
  exact e'
 refine⟨F.kind,F.glob,F.blt,F.frame,F.nodup,F.len,F.above,fun a ha=>(lt a ha).elim fun u0 e=>T.memIff e (F.out a ha),?_,fun c hc=>?_,F.once,?_⟩
 ·obtain⟨o,e,c,hd⟩:=F.lcls
  obtain⟨o',e',c',d'⟩:=T.shape _ o e (F.out _ (.head _))
  exact⟨o',e',by rw[c'];exact c,d' hd⟩
 ·obtain⟨o,v,e,c1,hd⟩:=F.ccls c hc
  exact⟨o,v,cell _ hc o e,c1,hd⟩
 ·obtain⟨m,⟨o,es,ep,e,hd,hk⟩,hv⟩:=F.vars
  refine⟨m,?_,fun i x v hx hs=>?_⟩
  ·obtain⟨o',e',k⟩:=T.keep _ o e (F.out _ (.head _)) (fun m=>nomatch m)
   obtain⟨aa,BI,SN,_⟩:=F.lcls
   rw[e]at BI;cases BI
   rcases k with rfl | ⟨_,sl,rfl⟩ | ⟨q,_⟩
   ·exact⟨_,es,ep,e',hd,hk⟩
   ·exact⟨_,es,ep,e',hd,hk⟩
   ·rcases SN with SN | SN <;>rw[SN]at q <;>exact absurd q (by decide)
  ·obtain⟨w,hw,r⟩:=hv i x v hx hs
   refine⟨w,?_,r.step0 S T⟩
   rcases hw with q | ⟨k,c,hc,o',e',q⟩
   ·exact .inl q
   ·exact .inr ⟨k,c,hc,o',cell c (LC hc) _ e',q⟩
theorem aJ(S:St g s U J)(F:Fm g nm s U env Z){i:Nat}{v:V}{id:Str}{Q:Value->Shared->Prop}(hx:nm[i]?=some id.cps.toList)(hv:Z[i]?=some (some v))
 (hcd:(id==("__classdict__":Str))=false) (hq:∀w,SA g s.heap U v w->Q w s):wpAny (model g.prog g.w) A (loadName env id) Q E s:=by
 obtain⟨m,hm,vs⟩:=F.vars
 obtain⟨w,hw,r⟩:=vs i _ v hx hv
 obtain⟨⟨id⟩⟩:=id
 rcases hw with⟨k,e⟩ | ⟨k | k,c,hc,ic⟩
 ·exact wpAny_loadName_local F.kind k hm e (hq _ r)
 ·exact wpAny_loadName_cell F.kind k hc ic (hq _ r)
 ·exact wpAny_loadName_free F.kind k hc ic (hq _ r) hcd
theorem oX(S:St g s U J)(F:Fm g nm s U env Z){i:Nat}{x:List Nat}{v:V}{pos:Pos}{id:Str}{Q:V->List O->Prop}(hx:nm[i]?=some x)(hv:Z[i]?=some (some v))(hid:id=⟨x.toArray⟩)(hd:(id==("__debug__":Str))=false)
 (hcd:(id==("__classdict__":Str))=false) (hq:Q v J):wpAny (model g.prog g.w) A (eval (.Name id pos) env) (mA g s.heap U [] Q) E s:=by
 subst hid
 exact wpAny_Name (aJ S F hx hv hcd fun u0 r=>JP S hq r) hd
end
end
structure CC where
 nm:List (List Nat)
 sc:Scope
 K:Frag
noncomputable def sG(K:Frag)(x:Str):Option Value:=match nsIn K mainGlobals x with
 | some (some v)=>some v
 | some none=>if x==("__name__":Str)then none else bootBuiltins x
 | none=>none
noncomputable def bG(id:Str):Bool:=!(id==("__debug__":Str))&&!(id==("__classdict__":Str))
noncomputable def bf:Option NameKind->Bool
 | some k=>k== .local||k== .cell||k== .free
 | none=>false
noncomputable def Ja:Option NameKind->Bool
 | some k=>k== .local||k== .cell
 | none=>false
theorem vO{k:Option NameKind}(h:Ja k=true):k=some .local\/k=some .cell:=by
 rcases k with _ | k
 ·exact Bool.noConfusion h
 ·exact(Bool.or_eq_true_iff.mp h).imp (fun e=>congrArg some (eq_of_beq e)) fun e=>congrArg some (eq_of_beq e)
noncomputable def CC.isVar(c:CC)(i:Nat)(id:Str):Bool:=(c.nm[i]?==some id.cps.toList)&&bG id&&bf (c.sc.names.lookup id)
noncomputable def CC.isLoc(c:CC)(i:Nat)(id:Str):Bool:=(c.nm[i]?==some id.cps.toList)&&bG id&&Ja (c.sc.names.lookup id)
noncomputable def CC.isLocal(c:CC)(i:Nat)(id:Str):Bool:=(c.nm[i]?==some id.cps.toList)&&bG id&&(c.sc.names.lookup id==some .local)
noncomputable def CC.isGlob(c:CC)(v:Value)(id:Str):Bool:=bG id&&(c.sc.names.lookup id==some .globalImplicit)&&(sG c.K id==some v)
noncomputable def OL(s:List Nat)(x:Str):Bool:=x.cps.toList==s&&decide (s.length<=10000)&&s.all fun c=>decide (c < 0x110000)
noncomputable def oG:Expr->Bool
 | .Call (.Name id _) [] [] _=>id==("super":Str)
 | _=>false
noncomputable def sO:Expr->Bool
 | .Slice .. =>true
 | _=>false
noncomputable def oR:Expr->Bool
 | .Attribute .. =>true
 | _=>false
set_option backward.match.sparseCases true in
noncomputable def IB:Expr->Bool
 | .Starred .. =>true
 | _=>false
noncomputable def dD:Expr->Bool
 | .Set .. =>true
 | _=>false
noncomputable def SW:Option Expr->Option Str
 | none=>none
 | some e=>match e with
   | .Constant c _ _=>(match c with
     | .str x=>some x
     | _=>none)
   | _=>none
noncomputable def KG:List (List Nat)->List (Option Expr)->Bool
 | [],q=>q.isEmpty
 | k::ks,q=>match q with
   | []=>false
   | e::r=>(match SW e with
     | some x=>OL k x&&KG ks r
     | none=>false)
noncomputable def zK:Expr->Bool
 | .ListComp .. =>true
 | .SetComp .. =>true
 | .DictComp .. =>true
 | _=>false
noncomputable def CC.inner(c:CC)(sc:Scope):CC:={c with sc:={sc with names:=sc.names.map fun p=>if p.2== .free&&c.sc.names.lookup p.1==some .cell then(p.1, .cell)else p}}
noncomputable def wJ:Expr->Option Str
 | .Name id _=>some id
 | _=>none
noncomputable def iQ:Expr->Option (List Expr)
 | .Tuple vs _ _=>some vs
 | _=>none
noncomputable def mF(p:Nat->Str->Bool):List Nat->List Expr->Bool
 | [],ts=>ts.isEmpty
 | i::is,ts=>match ts with
   | []=>false
   | t::r=>match wJ t with
     | some id=>p i id&&mF p is r
     | none=>false
noncomputable def eB(c:CC)(is:List Nat)(ts:List Expr):Bool:=mF c.isLocal is ts
noncomputable def oD(c:CC)(is:List Nat)(ts:List Expr):Bool:=mF c.isLoc is ts
noncomputable def FN(c:CC)(is:List Nat)(t:Expr):Bool:=match is with
 | []=>false
 | i::r=>match r with
   | []=>(match wJ t with
     | some id=>c.isLocal i id
     | none=>false)
   | _::_=>match iQ t with
     | some ts=>eB c is ts
     | none=>false
noncomputable def kE(c:CC)(sc:Scope):List Nat->Bool
 | []=>true
 | i::r=>(match c.nm[i]? with
   | some x=>c.sc.names.lookup ⟨x.toArray⟩==some .cell&&sc.names.lookup ⟨x.toArray⟩==some .free
   | none=>false)&&kE c sc r
theorem kE.r1{c:CC}{sc:Scope}:kE c sc []=(true):=rfl
theorem kE.r2{c:CC}{sc:Scope}:kE c sc (i::r)=((match c.nm[i]? with
 | some x=>c.sc.names.lookup ⟨x.toArray⟩==some .cell&&sc.names.lookup ⟨x.toArray⟩==some .free
 | none=>false)&&kE c sc r):=rfl
noncomputable def FW(c:CC)(sc:Scope):Bool:=sc.kind== .function&&decide (sc.names.map (·.1)).Nodup&&sc.names.all fun p=>p.2== .local||p.2== .globalImplicit||(p.2== .free&&c.sc.names.lookup p.1==some .cell)
noncomputable def KD(c:CC)(f:Expr):Bool:=match wJ f with
 | some id=>c.isGlob (.type "range") id
 | none=>false
noncomputable def lC{α:Type}(o:Option α)(P:α->Prop):Prop:=match o with | some a=>P a | none=>True
noncomputable def YB{α:Type}(b:Bool)(o:Option α):Option α:=match b with | true=>o | false=>none
section
variable{α β:Type}{o:Option α}{P:α->Prop}
theorem lC.bind{f:α->Option β}{Q:β->Prop}(h:lC o P)(k:∀{a},P a->lC (f a) Q):lC (o.bind f) Q:=by
 induction o using Option.casesOn with
 | none=>trivial
 | some a=>exact k h
theorem lC.map{f:α->β}{Q:β->Prop}(h:lC o P)(k:∀{a},P a->Q (f a)):lC (o.map f) Q:=by
 induction o using Option.casesOn with
 | none=>trivial
 | some a=>exact k h
theorem lC.when{b:Bool}(k:b=true->lC o P):lC (YB b o) P:=by
 induction b using Bool.casesOn with
 | false=>trivial
 | true=>exact k rfl
end
noncomputable def CC.at(c:CC)(id:Str):Nat:=c.nm.findIdx (· ==id.cps.toList)
noncomputable def CC.places(c:CC)(ts:List Expr):List Nat:=ts.filterMap fun t=>(wJ t).map c.at
noncomputable def CC.tgt(c:CC)(t:Expr):List Nat:=match t with
 | .Tuple ts _ _=>c.places ts
 | t=>c.places [t]
noncomputable def keysOf(ks:List (Option Expr)):List (List Nat):=ks.filterMap fun e=>(SW e).map fun x=>x.cps.toList
noncomputable def CC.cap(c:CC)(sc:Scope):List Nat:=(List.range c.nm.length).filter fun i=>sc.names.lookup ⟨(c.nm.getD i []).toArray⟩==some .free
noncomputable def FF(f:Expr->Option IE):List Expr->Option nI
 | []=>some .nil
 | x::xs=>YB (!IB x) ((f x).bind fun a=>(FF f xs).map (.cons a))
noncomputable def SK(f:Expr->Option IT):List Expr->Option HU
 | []=>some .nil
 | x::xs=>(f x).bind fun a=>(SK f xs).map (.cons a)
noncomputable def eQ(c:CC)(id:Str):Option IE:=match c.isVar (c.at id) id with
 | true=>some (.var (c.at id))
 | false=>(sG c.K id).bind fun v=>YB (c.isGlob v id) (some (.glob v))
noncomputable def XS:Const->Option IE
 | .none=>some .none
 | .bool b=>some (.bool b)
 | .int i=>some (.int i)
 | .str x=>YB (OL x.cps.toList x) (some (.str x.cps.toList))
 | _=>none
noncomputable def mL(f:Expr->Option IE):Option Expr->Option IE
 | none=>some .none
 | some x=>f x
noncomputable def ZW(f:Expr->Option IE)(l:Expr)(ops:List CmpOp)(rs:List Expr):Option IE:=match ops with
 | []=>none
 | o::ops=>match ops with
   | _::_=>none
   | []=>match rs with
     | []=>none
     | r::rs=>match rs with
       | _::_=>none
       | []=>YB (!dD r) ((f l).bind fun a=>(f r).map fun b=> .cmp o a b)
noncomputable def Td:Expr->Option Int
 | .Constant k _ _=>(match k with
   | .int i=>some i
   | _=>none)
 | _=>none
noncomputable def Kb(f:Expr->Option IE)(l:Expr)(ops:List CmpOp)(rs:List Expr):Option IE:=match ops with
 | []=>none
 | o::ops=>match ops with
   | []=>ZW f l [o] rs
   | o2::ops=>match ops with
     | _::_=>none
     | []=>match rs with
       | []=>none
       | r::rs=>match rs with
         | []=>none
         | r2::rs=>match rs with
           | _::_=>none
           | []=>YB (!dD r) ((f l).bind fun a=>(f r).bind fun b=>(Td r2).map fun n=> .cmp2 a o b o2 (.int n))
noncomputable def be(f:Expr->Option IE)(v s:Expr):Option IE:=(f v).bind fun a=>match s with
 | .Slice l u st _=>(match st with
   | none=>(mL f l).bind fun lo=>(mL f u).map fun hi=> .slc a lo hi
   | some x=>match l with
     | none=>none
     | some l=>match u with
       | some _=>none
       | none=>(f l).bind fun lo=>(f x).map fun st=> .slc3 a lo st)
 | s=>YB (!sO s) ((f s).map fun i=> .idx a i)
noncomputable def Jb(f:Expr->Option IE)(g:Expr)(as:List Expr)(pos:Pos):Option IE:=YB (decide (as.length<=20)) ((FF f as).bind fun es=>match g with
 | .Attribute v n ap=>YB (!oG v&&(ap.endLine==pos.line)) ((f v).map fun o=> .meth o n.cps.toList es)
 | g=>YB (!oR g) ((f g).map fun a=> .call a es))
noncomputable def XI(c:CC)(it:Expr):Option Expr:=match it with
 | .Call f xs kws _=>YB (KD c f) (match kws with
   | _::_=>none
   | []=>match xs with
     | []=>none
     | x::xs=>match xs with
       | _::_=>none
       | []=>YB (!IB x) (some x))
 | _=>none
noncomputable def YI(c:CC)(it:Expr):Option (Expr×Expr):=match it with
 | .Call f xs kws _=>YB (KD c f) (match kws with
   | _::_=>none
   | []=>match xs with
     | []=>none
     | x::xs=>match xs with
       | []=>none
       | y::xs=>match xs with
         | _::_=>none
         | []=>YB (!IB x) (YB (!IB y) (some (x,y))))
 | _=>none
noncomputable def aW(f:CC->Expr->Option IE)(c:CC)(e:Expr)(sc:Scope)(gens:List Comprehension):Option IE:=match gens with
 | []=>none
 | gn::r=>match r with
   | _::_=>none
   | []=>match gn with
     | ⟨t,iter,ifs,n⟩=>match ifs with
       | _::_=>none
       | []=>YB (decide (n=0)&&FW c sc&&kE c sc (c.cap sc)&&FN (c.inner sc) ((c.inner sc).tgt t) t&&decide (∀i∈(c.inner sc).tgt t,i∉c.cap sc)&&!dD iter) ((f (c.inner sc) e).bind fun b=>match XI c iter with
         | some x=>(match t with
           | .Name id _=>(f c x).map fun hi=> .compR b (c.cap sc) (c.at id) hi
           | _=>none)
         | none=>(f c iter).map fun it=> .comp b (c.cap sc) ((c.inner sc).tgt t) it)
noncomputable def PW(E:CC->Expr->Option IE)(T:CC->Expr->Option IT)(c:CC)(e:Expr):Option IE:=match e with
 | .Name id _=>eQ c id
 | .Constant k _ _=>XS k
 | .BinOp l op r _=>(E c l).bind fun a=>(E c r).map fun b=> .bin op a b
 | .Compare l ops rs _=>ZW (E c) l ops rs
 | .BoolOp op vs _=>(match op with
   | .And=>(FF (E c) vs).map .and
   | .Or=>none)
 | .UnaryOp op x _=>(match op with
   | .USub=>(E c x).map .neg
   | _=>none)
 | .IfExp t a b _=>(T c t).bind fun t=>(E c a).bind fun a=>(E c b).map fun b=> .ite t a b
 | .Tuple vs _ _=>(FF (E c) vs).map .tup
 | .List vs _=>(FF (E c) vs).map .lst
 | .Dict ks vs _=>YB (KG (keysOf ks) ks&&decide ((keysOf ks).length=vs.length/\(keysOf ks).length<=15)) ((FF (E c) vs).map (.dct (keysOf ks)))
 | .Subscript v s _=>be (E c) v s
 | .Attribute v n _=>YB (!oG v) ((E c v).map fun a=> .attr a n.cps.toList)
 | .Call f as kws pos=>(match kws with
   | []=>Jb (E c) f as pos
   | _::_=>none)
 | .ListComp elt gens sc _=>aW E c elt sc gens
 | _=>none
noncomputable def RW(E:CC->Expr->Option IE)(T:CC->Expr->Option IT)(c:CC)(e:Expr):Option IT:=match e with
 | .UnaryOp op x _=>(match op with
   | .Not=>(T c x).map .not
   | _=>none)
 | .BoolOp op vs _=>(match op with
   | .And=>(SK (T c) vs).map .and
   | .Or=>(SK (T c) vs).map .or)
 | .IfExp _ _ _ _=>none
 | .Compare l ops rs _=>(Kb (E c) l ops rs).map .e
 | e=>(E c e).map .e
noncomputable def lP:Nat->(CC->Expr->Option IE)×(CC->Expr->Option IT)
 | 0=>(fun u0 u0=>none,fun u0 u0=>none)
 | n+1=>(PW (lP n).1 (lP n).2,RW (lP n).1 (lP n).2)
noncomputable def wD(ts:List Expr):List Str:=ts.filterMap fun | .Name id _=>some id | _=>none
noncomputable def iL(ts vs:List Expr):Bool:=(wD ts).eraseDups.length==(wD ts).length&&(ts.length==2||ts.length==3)&&vs.length==ts.length&&ts.all (fun t=>(ts.head?.map (·.pos.line)).getD 0==t.pos.line)&&!vs.any IB&&!vs.all (foldedForSure 8)&&!vs.all (constantsAlone 8)
section
variable(E:CC->Expr->Option IE)(T:CC->Expr->Option IT)(B:CC->List Stmt->Option ME)(c:CC)
noncomputable def xP:List Expr->Option (Expr×Str×Expr×Str)
 | []=>none
 | t::r=>match t with
   | .Attribute x n _=>(match r with
     | []=>none
     | u::r=>match u with
       | .Attribute y m _=>(match r with | []=>some (x,n,y,m) | _::_=>none)
       | _=>none)
   | _=>none
noncomputable def DK(c:CC)(ts:List Expr):Bool:=ts.any fun t=>match wJ t with
 | some id=>!(c.sc.names.lookup id==some .local)
 | none=>false
noncomputable def fQ(ts:List Expr)(v:Expr):Option IS:=match xP ts with
 | some (x,n,y,m)=>(E c v).bind fun e=>(E c x).bind fun a=>(E c y).map fun b=> .setAttr2 a n.cps.toList b m.cps.toList e
 | none=>match iQ v with
   | some vs=>(match DK c ts with
     | true=>YB (oD c (c.places ts) ts&&decide (2<=(c.places ts).length)) ((E c v).map (.unpk (c.places ts)))
     | false=>YB (eB c (c.places ts) ts&&decide (c.places ts).Nodup&&iL ts vs) ((FF (E c) vs).map (.swap (c.places ts))))
   | none=>YB (oD c (c.places ts) ts&&decide (2<=(c.places ts).length)) ((E c v).map (.unpk (c.places ts)))
noncomputable def XW(t v:Expr):Option IS:=match t with
 | .Name id _=>YB (c.isLoc (c.at id) id&&!zK v) ((E c v).map (.assign (c.at id)))
 | .Tuple ts _ _=>fQ E c ts v
 | .Attribute x n _=>(E c v).bind fun e=>(E c x).map fun o=> .setAttr o n.cps.toList e
 | .Subscript x k _=>YB (!sO k) ((E c v).bind fun e=>(E c x).bind fun o=>(E c k).map fun i=> .setIdx o i e)
 | _=>none
noncomputable def Ze(t:Expr)(op:Operator)(v:Expr):Option IS:=match t with
 | .Name id _=>YB (c.isLoc (c.at id) id) ((E c v).map (.aug (c.at id) op))
 | .Attribute x n _=>(E c v).bind fun e=>(E c x).map fun o=> .augAttr o n.cps.toList op e
 | _=>none
noncomputable def UN(it:Expr):Option Expr:=match it with
 | .Call f xs kws _=>(match f with
   | .Name id _=>YB (c.isGlob (.type "enumerate") id) (match kws with
     | _::_=>none
     | []=>match xs with
       | []=>none
       | x::xs=>match xs with
         | _::_=>none
         | []=>YB (!IB x) (some x))
   | _=>none)
 | _=>none
noncomputable def ae(t it:Expr)(b:ME):Option IS:=match t with
 | .Name id _=>YB (c.isLocal (c.at id) id) (match XI c it with
   | some x=>(E c x).map fun hi=> .forR0 (c.at id) hi b
   | none=>match YI c it with
     | some p=>(E c p.1).bind fun lo=>(E c p.2).map fun hi=> .forR (c.at id) lo hi b
     | none=>YB (!dD it) ((E c it).map fun i=> .for1 (c.at id) i b))
 | .Tuple ts _ _=>(match UN c it with
   | some x=>(match c.places ts with
     | []=>none
     | i::r=>match r with
       | []=>none
       | j::r=>match r with
         | []=>YB (eB c [i,j] ts) ((E c x).map fun e=> .forE i j e b)
         | _::_=>none)
   | none=>YB (eB c (c.places ts) ts&&decide (2<=(c.places ts).length)&&!dD it) ((E c it).map fun i=> .forT (c.places ts) i b))
 | _=>none
noncomputable def ce(b:List Stmt)(hs:List ExceptHandler)(f:List Stmt):Option IS:=match hs with
 | []=>YB (!f.isEmpty) ((B c b).bind fun b=>(B c f).map fun f=> .tryF b f)
 | h::r=>match r with
   | _::_=>none
   | []=>match f with
     | _::_=>none
     | []=>match h with
       | .ExceptHandler t n hb _=>match t with
         | none=>none
         | some t=>match n with
           | none=>none
           | some n=>match t with
             | .Name id _=>(sG c.K id).bind fun v=>(WL v).bind fun C=>YB (c.isGlob (.ref C) id&&c.isLocal (c.at n) n&&!hb.isEmpty) ((B c b).bind fun b=>(B c hb).map fun hb=> .tryE b C (c.at n) hb)
             | _=>none
noncomputable def QW(st:Stmt):Option IS:=match st with
 | .Assign ts v _=>(match ts with
   | []=>none
   | t::r=>match r with
     | []=>XW E c t v
     | _::_=>none)
 | .AugAssign t op v _=>Ze E c t op v
 | .Expr v _=>YB (!zK v) ((E c v).map .expr)
 | .Return v _=>(match v with
   | some v=>(E c v).map .ret
   | none=>some .ret0)
 | .If t a b _=>(T c t).bind fun t=>(B c a).bind fun a=>(B c b).map fun b=> .ite t a b
 | .While t b o _=>(match o with
   | []=>(T c t).bind fun t=>(B c b).map fun b=> .whl t b
   | _::_=>none)
 | .For t it b o _=>(match o with
   | []=>(B c b).bind fun b=>ae E c t it b
   | _::_=>none)
 | .Raise x y _=>(match x with
   | some x=>(match y with
     | none=>(E c x).map .raise
     | some _=>none)
   | none=>none)
 | .Try b hs o f _=>(match o with
   | []=>ce B c b hs f
   | _::_=>none)
 | .Break _=>some .brk
 | .Pass _=>some .pass
 | _=>none
end
noncomputable def Lb(f:Stmt->Option IS):List Stmt->Option ME
 | []=>some .nil
 | x::xs=>(f x).bind fun a=>(Lb f xs).map (.cons a)
noncomputable def ze:Nat->CC->List Stmt->Option ME
 | 0=>fun u0 u0=>none
 | n+1=>fun c b=>Lb (QW (lP 40).1 (lP 40).2 (ze n) c) b
theorem EN{prog:Program}{w:World}:∀{ps:List (Str×Value)} {vs:List Value},vs.length=ps.length->(∀(j:Nat) (v:Value),vs[j]?=some v->∃k x,ps[j]?=some (k,x)/\(PySem.strKind prog w).is k v=true)->StrsAre vs (ps.map (·.1))
 | [],[],_,_=> .nil
 | (k,x)::ps,v::vs,hl,h=>by
   obtain⟨k',x',e,hk⟩:=h 0 v rfl
   cases e
   obtain⟨t,rfl⟩:∃t,v= .str k t:=by
    induction v using Value.casesOn <;>first | exact Bool.noConfusion (show false=true from hk) | skip
    have:=eq_of_beq (show(_==_)=true from hk)
    subst this
    exact⟨_,rfl⟩
   exact .cons _ _ (EN (by simpa using hl) fun j v e=>h (j+1) v e)
theorem cP{prog:Program}{w:World}{A:Around}{E:Value->Shared->Prop}{s:Shared}{d:Addr}{ps:List (Str×Value)}{ep:Nat}{Q:Value->Shared->Prop}(hh:A.handled=none)(lo:(d==sysModules)=false)(D:s.heap.DictAt (PySem.strKind prog w) d ps ep)(h64:ps.length < 64)
 (h:∀(B:Addr) (h':Heap) (tk:Nat) (out:Array Value) (ss':List Str) (e:Nat),(∀b o,s.heap.get? b=some o->h'.get? b=some o)->(∀b o,s.heap.get? b=some o->b < B)->s.heap.get? B=none->h'.get? B=some (seqObj "list" out e)->StrsAre out.toList ss'->ss'.Perm (ps.map (·.1))->sortedS ss'=true->Q (.ref B) {s with heap:=h',toks:=tk}):
 wpAny (model prog w) A (call (.builtin "sorted") [.ref d]) Q E s:=by
 refine call_function_entry kind_sorted plain_sorted entry_sorted (args_sorted1 _) ?_
 unfold Builtin.«sorted»
 refine wpAny_bind (m:=checkCount "sorted" 1 1 _) (wpAny_pure ?_)
 refine wpAny_bind (kdu_collect (A:=A.in1) (kdl_dict (knd:=PySem.strKind prog w) (kvs:=ps) (ep:=ep) lo) hh D (by rw[sizeLine_eq];omega) fun h' tk acc hk hacc=>?_)
 have hl:acc.toList.length=ps.length:=by rw[Array.length_toList];exact hacc.1
 have hS:StrsAre acc.toList (ps.map (·.1)):=EN hl fun j v e=>hacc.2 j v (by rw[<-Array.getElem?_toList];exact e)
 refine wpAny_bind (wpAny_newList ?_ (by rw[hl];exact Nat.le_trans (Nat.le_of_lt h64) (by rw[sizeLine_eq];decide)))
 have hoL:(h'.push {cls:= .type "list",data:= .seq acc.toList.toArray}).get? h'.objs.size=some (seqObj "list" acc.toList.toArray 0):=Heap.get?_push_size _ rfl
 refine wpAny_bind (wpAny_holding (wpAny_call_entry slot_list_sort ⟨_,hoL,rfl⟩ entry_list_sort (list_sort_treeK strKind_oneLt hoL hS.keysOf (fun v1 v2 rest e=>keyKind_strs (by rw[<-e];exact hS)) (by rw[hl];exact h64) fun st' a1 a2=>⟨_,rfl,?_⟩) (args_list_sort _)))
 obtain⟨ss',b1,b2,b3⟩:=sorted_out_str hS a1 a2
 obtain⟨e,he⟩:=sortedHeap_at (h:=h'.push {cls:= .type "list",data:= .seq acc.toList.toArray}) (out:=(arrOf st').map (·.2)) hoL
 refine wpAny_pure ⟨_,rfl,h h'.objs.size _ tk _ ss' e (fun b o q=>?_) (fun b o q=>Heap.lt_size (hk b o q)) ?_ he b1 b2 b3⟩
 ·have q':=hk b o q
  have hb:=Heap.lt_size q'
  exact(sortedHeap_old (Nat.ne_of_lt hb) (by rw[size_push'];exact Nat.lt_succ_of_lt hb)).trans (Heap.get?_push_of_some _ q')
 ·rcases q:s.heap.get? h'.objs.size with _ | o
  ·rfl
  ·exact absurd (Heap.lt_size (hk _ _ q)) (Nat.lt_irrefl _)
section
open PySem.Builtin.Str
noncomputable def oC(s:List Nat)(c lo n:Nat):List Nat:=(List.range' lo n).filter fun i=>s[i]?==some c
theorem YU(s:List Nat)(c i:Nat):(i+(⟨#[c]⟩:Str).length<=(⟨s.toArray⟩:Str).length/\subAt ⟨s.toArray⟩ ⟨#[c]⟩ i=true)↔s[i]?=some c:=by
 have:=StrLaws.subAt_one ⟨s.toArray⟩ c i
 simpa using this
theorem tV(s:List Nat)(c limit:Nat):∀(n lo:Nat) (arr:Array Nat) (free:Nat),free<=lo->arr.size+n<=limit->
 (forIn (List.range' lo n) (arr,free) (StrLaws.occBody ⟨s.toArray⟩ ⟨#[c]⟩ (⟨s.toArray⟩:Str).length limit)).run.fst.toList=arr.toList++oC s c lo n:=by
 intro n
 induction n with
 | zero=>intro lo arr free _ _;simp[oC]
 | succ n ih=>
   intro lo arr free h1 h2
   rw[List.range'_succ,List.forIn_cons]
   have ha:=YU s c lo
   by_cases hc:s[lo]?=some c
   ·have hb:StrLaws.occBody ⟨s.toArray⟩ ⟨#[c]⟩ (⟨s.toArray⟩:Str).length limit lo (arr,free)=pure (ForInStep.yield (arr.push lo,lo+1)):=by
     unfold StrLaws.occBody
     rw[if_pos]
     ·rfl
     ·obtain⟨q1,q2⟩:=ha.mpr hc
      exact⟨⟨⟨by show arr.size < limit;exact qC h2,h1⟩,q1⟩,q2⟩
    rw[hb]
    have:=ih (lo+1) (arr.push lo) (lo+1) (Nat.le_refl _) (by simp;exact qC h2)
    have hh:oC s c lo (n+1)=lo::oC s c (lo+1) n:=by
     unfold oC;rw[List.range'_succ,List.filter_cons];simp[hc]
    rw[hh]
    simp only[pure_bind]
    rw[this];simp
   ·have hb:StrLaws.occBody ⟨s.toArray⟩ ⟨#[c]⟩ (⟨s.toArray⟩:Str).length limit lo (arr,free)=pure (ForInStep.yield (arr,free)):=by
     unfold StrLaws.occBody
     rw[if_neg]
     rintro ⟨⟨_,q1⟩,q2⟩
     exact hc (ha.mp ⟨q1,q2⟩)
    rw[hb]
    have:=ih (lo+1) arr free (by exact qC h1) (by exact qC h2)
    have hh:oC s c lo (n+1)=oC s c (lo+1) n:=by
     unfold oC;rw[List.range'_succ,List.filter_cons];simp[hc]
    rw[hh]
    simp only[pure_bind]
    rw[this]
theorem IV(s:List Nat)(c lo n:Nat)(h:s.length<=lo+n):oC s c lo (n+1)=oC s c lo n:=by
 unfold oC
 rw[List.range'_concat,List.filter_append]
 have:s[lo+n]?=none:=List.getElem?_eq_none h
 simp[this]
theorem pN(s:List Nat)(c:Nat):occurrences ⟨s.toArray⟩ ⟨#[c]⟩ 0 (⟨s.toArray⟩:Str).length ((⟨s.toArray⟩:Str).length+1)=oC s c 0 s.length:=by
 rw[StrLaws.occ_eq,TB]
 have:=tV s c (s.length+1) (s.length+1 - 0) 0 #[] 0 (Nat.le_refl _) (by simp)
 rw[TB]at this
 rw[this]
 simp only[List.nil_append,Nat.sub_zero]
 exact IV s c 0 s.length (by exact Nat.le_add_left _ _)
theorem MT(x:Nat)(s:List Nat)(c lo n:Nat):oC (x::s) c (lo+1) n=(oC s c lo n).map (· +1):=by
 unfold oC
 have h0:List.range' (lo+1) n=(List.range' lo n).map (1+ ·):=by rw[List.map_add_range',Nat.add_comm]
 rw[h0,List.filter_map]
 have:(fun i=>(x::s)[i]?==some c)∘(fun x=>1+x)=fun i=>s[i]?==some c:=by
  funext i
  simp[Nat.add_comm 1 i]
 rw[this]
 congr 1
 funext i
 simp+arith only
theorem OT(x:Nat)(s:List Nat)(c n:Nat):oC (x::s) c 0 (n+1)=(if x=c then[0]else[])++(oC s c 0 n).map (· +1):=by
 rw[<-MT x s c 0 n]
 unfold oC
 rw[List.range'_succ,List.filter_cons]
 by_cases h:x=c <;>simp[h]
theorem XM(s:List Nat)(c:Nat):(oC s c 0 s.length).length=s.count c:=by
 induction s with
 | nil=>rfl
 | cons x s ih=>
   rw[List.length_cons,OT,List.length_append,List.length_map,ih,List.count_cons]
   by_cases h:x=c <;>simp[h,Nat.add_comm]
theorem AU(s:List Nat)(c:Nat):Txt.count ⟨s.toArray⟩ ⟨#[c]⟩=((s.count c:Nat):Int):=by
 unfold Txt.count
 rw[pN,XM]
theorem WO(s:List Nat)(c lo:Nat):(∀i,lo<=i->s[i]?≠some c)/\vD s c lo= -1\/∃i:Nat,lo<=i/\s[i]?=some c/\(∀k,lo<=k->k < i->s[k]?≠some c)/\vD s c lo=(i:Int):=by
 unfold vD
 induction h:(s.drop lo).findIdx? (· ==c)using Option.casesOn with
 | none=>
   left
   refine⟨fun i hi e=>?_,rfl⟩
   rw[List.findIdx?_eq_none_iff]at h
   have hm:c∈s.drop lo:=by
    refine List.mem_iff_getElem?.mpr ⟨i - lo,?_⟩
    rw[List.getElem?_drop]
    rw[show lo+(i - lo)=i from Nat.add_sub_of_le (by assumption)];exact e
   have:=h c hm
   simp at this
 | some j=>
   right
   obtain⟨hj,h1,h2⟩:=List.findIdx?_eq_some_iff_getElem.mp h
   refine⟨lo+j,by exact Nat.le_add_right _ _,?_,fun k hk hk2 e=>?_,rfl⟩
   ·have h1':(s.drop lo)[j]=c:=by simpa using h1
    have:(s.drop lo)[j]?=some c:=by rw[List.getElem?_eq_getElem hj,h1']
    rw[List.getElem?_drop]at this
    exact this
   ·have:=h2 (k - lo) (by lia)
    have hk3:(s.drop lo)[k - lo]?=some c:=by rw[List.getElem?_drop,show lo+(k - lo)=k from Nat.add_sub_of_le (by assumption)];exact e
    rw[List.getElem?_eq_getElem (by lia)]at hk3
    simp at hk3 this
    exact this hk3
theorem FP(s:List Nat)(c lo:Nat):(match occurrences ⟨s.toArray⟩ ⟨#[c]⟩ lo (⟨s.toArray⟩:Str).length 1 with | i::_=>(i:Int) | []=> -1)=vD s c lo:=by
 have hat:∀i,StrLaws.At ⟨s.toArray⟩ ⟨#[c]⟩ (⟨s.toArray⟩:Str).length i↔s[i]?=some c:=fun i=>YU s c i
 rcases StrLaws.occ_head_from ⟨s.toArray⟩ ⟨#[c]⟩ lo 1 (Nat.le_refl _)with⟨e,h⟩ | ⟨i,r,e,h1,h2,h3⟩
 ·rw[e]
  rcases WO s c lo with⟨_,e2⟩ | ⟨j,hj,hj2,_,_⟩
  ·exact e2.symm
  ·exact absurd ((hat j).mpr hj2) (h j hj)
 ·rw[e]
  rcases WO s c lo with⟨hn,_⟩ | ⟨j,hj,hj2,hj3,e2⟩
  ·exact absurd ((hat i).mp h2) (hn i h1)
  ·rw[e2]
   rcases Nat.lt_trichotomy i j with q | q | q
   ·exact absurd ((hat i).mp h2) (hj3 i h1 q)
   ·rw[q]
   ·exact absurd ((hat j).mpr hj2) (h3 j hj q)
noncomputable def nA(s:List Nat)(p:Nat):List Nat->List (List Nat)
 | []=>[s.drop p]
 | c::r=>(s.take c).drop p::nA s (c+1) r
theorem nA.r1{s:List Nat}{p:Nat}:nA s p []=([s.drop p]):=rfl
theorem nA.r2{s:List Nat}{p:Nat}:nA s p (c::r)=((s.take c).drop p::nA s (c+1) r):=rfl
theorem fK(s:List Nat):∀(cuts:List Nat) (p:Nat),((p::cuts.map (· +1)).zip (cuts++[s.length])).map (fun(i,j)=>strSub ⟨s.toArray⟩ i j)=(nA s p cuts).map fun l=>(⟨l.toArray⟩:Str)
 | [],p=>by
   simp[nA.r1,nA.r2,strSub]
   exact List.take_of_length_le (by simp)
 | c::r,p=>by
   have:=fK s r (c+1)
   simp only[List.map_cons,List.cons_append,List.zip_cons_cons,nA.r1,nA.r2]at this ⊢
   rw[this]
   congr 1
   simp[strSub,List.drop_take]
theorem QL(s:List Nat)(c:Nat):∀(n p:Nat),p+n=s.length->nA s p (oC s c p n)=fA c (s.drop p)
 | 0,p,h=>by
   have:s.drop p=[]:=List.drop_eq_nil_of_le (by exact qC (eR h))
   simp[oC,nA.r1,nA.r2,this,fA.r1,fA.r2]
 | n+1,p,h=>by
   have hp:p < s.length:=by exact qC (eL h)
   have hd:s.drop p=s[p]::s.drop (p+1):=List.drop_eq_getElem_cons hp
   have ih:=QL s c n (p+1) (by exact Mg h)
   rw[hd]
   by_cases hc:s[p]=c
   ·have:oC s c p (n+1)=p::oC s c (p+1) n:=by
     unfold oC;rw[List.range'_succ,List.filter_cons];simp[hc,List.getElem?_eq_getElem hp]
    rw[this]
    simp only[nA.r1,nA.r2,fA.r1,fA.r2,hc,if_true,ih]
    congr 1
    simp
   ·have:oC s c p (n+1)=oC s c (p+1) n:=by
     unfold oC;rw[List.range'_succ,List.filter_cons];simp[hc,List.getElem?_eq_getElem hp]
    rw[this]
    simp only[fA.r1,fA.r2,if_neg hc, <-ih]
    have hlow:∀i∈oC s c (p+1) n,p+1<=i:=fun i m=>by
     unfold oC at m
     have:=(List.mem_filter.mp m).1
     exact(List.mem_range'_1.mp this).1
    induction hh:oC s c (p+1) n using List.casesOn with
    | nil=>simp only[nA.r1,nA.r2];rw[hd]
    | cons c0 r=>
      have hc0:=hlow c0 (by rw[hh];exact .head _)
      simp only[nA.r1,nA.r2]
      congr 1
      have ht:p < (s.take c0).length:=by rw[List.length_take];lia
      rw[List.drop_eq_getElem_cons ht]
      simp
theorem zJ(s:List Nat)(c:Nat):partsBetween ⟨s.toArray⟩ (oC s c 0 s.length) (⟨#[c]⟩:Str).length=(fA c s).map fun l=>(⟨l.toArray⟩:Str):=by
 unfold partsBetween
 have h1:(⟨#[c]⟩:Str).length=1:=rfl
 rw[h1,TB,fK,QL s c s.length 0 (by simp+arith only)]
 simp
theorem iJ(s:List Nat)(c:Nat)(h:c∉s):fA c s=[s]:=by
 induction s with
 | nil=>rfl
 | cons x s ih=>
   simp only[List.mem_cons,not_or]at h
   (first | rw[fA.r1,if_neg (fun e=>h.1 e.symm),ih h.2] | rw[fA.r2,if_neg (fun e=>h.1 e.symm),ih h.2])
theorem JV{s:List Nat}{c:Nat}(h:oC s c 0 s.length=[]):c∉s:=by
 intro m
 have:=XM s c
 rw[h]at this
 have h2:=List.count_pos_iff.mpr m
 rw[<-this]at h2
 exact absurd h2 (by simp)
theorem tF(c:Nat):∀(s:List Nat) (l:List Nat),l∈fA c s->l.length<=s.length/\∀x∈l,x∈s
 | [],l,h=>by simp[fA.r1,fA.r2]at h;subst h;simp
 | x::s,l,h=>by
   (first | rw[fA.r1]at h | rw[fA.r2]at h)
   split at h
   ·rcases List.mem_cons.mp h with rfl | h
    ·simp
    ·obtain⟨h1,h2⟩:=tF c s l h
     exact⟨by simp;exact qC h1,fun y m=>List.mem_cons_of_mem _ (h2 y m)⟩
   ·set_option tactic.hygienic true in split at h
    ·simp at h;subst h;simp
    ·rename_i y ys e
     rcases List.mem_cons.mp h with rfl | h
     ·obtain⟨h1,h2⟩:=tF c s y (by rw[e];exact .head _)
      refine⟨by simp;assumption,fun z m=>?_⟩
      rcases List.mem_cons.mp m with rfl | m
      ·exact .head _
      ·exact List.mem_cons_of_mem _ (h2 z m)
     ·obtain⟨h1,h2⟩:=tF c s l (by rw[e];exact List.mem_cons_of_mem _ h)
      exact⟨by simp;exact qC h1,fun y m=>List.mem_cons_of_mem _ (h2 y m)⟩
theorem iH(c:Nat):∀s:List Nat,(fA c s).length<=s.length+1
 | []=>by simp[fA.r1,fA.r2]
 | x::s=>by
   have:=iH c s
   (first | rw[fA.r1] | rw[fA.r2])
   split
   ·simp;assumption
   ·set_option tactic.hygienic true in split
    ·simp
    ·rename_i y ys e
     rw[e]at this
     simp at this ⊢;exact qC this
theorem gO(sep:List Nat):∀(r:List (List Nat)) (acc:List Nat),(r.map fun l=>(⟨l.toArray⟩:Str)).foldl (fun a p=>a++(⟨sep.toArray⟩:Str).cps++p.cps) acc.toArray=(acc++(r.map (sep++ ·)).flatten).toArray
 | [],acc=>by simp
 | x::r,acc=>by
   have:=gO sep r (acc++sep++x)
   simp only[List.map_cons,List.foldl_cons,List.flatten_cons]
   simp only[List.append_toArray]at this ⊢
   rw[this]
   simp
theorem SI(sep:List Nat):∀(x:List Nat) (r:List (List Nat)),dA sep (x::r)=x++(r.map (sep++ ·)).flatten
 | x,[]=>by simp[dA.r1,dA.r2,dA.r3]
 | x,y::r=>by
   (first | rw[dA.r1,SI sep y r] | rw[dA.r2,SI sep y r] | rw[dA.r3,SI sep y r])
   simp
theorem bW(sep:List Nat)(ss:List (List Nat)):Txt.join ⟨sep.toArray⟩ (ss.map fun l=>(⟨l.toArray⟩:Str))=⟨(dA sep ss).toArray⟩:=by
 unfold Txt.join glued
 induction ss using List.casesOn with
 | nil=>rfl
 | cons x r=>
   have:=gO sep r x
   simp only[List.map_cons,List.drop_succ_cons,List.drop_zero,List.headD_cons]
   rw[this,SI]
end
inductive DD(g:G)(h:Heap)(U:List Addr)(Q:List V->List O->Prop)(vs:List Value)(s':Shared):Prop
 | mk (mv:List V) (NA:List O) (iA:List Addr) (q:Q mv NA) (r:MA g s'.heap iA mv vs) (S:St g s' iA NA) (T:KA h s'.heap U iA [])
inductive GJ(g:G)(h:Heap)(U:List Addr)(Q:Bool->List O->Prop)(b:Bool)(s':Shared):Prop
 | mk (NA:List O) (iA:List Addr) (q:Q b NA) (S:St g s' iA NA) (T:KA h s'.heap U iA [])
section
variable{g:G}{s:Shared}{U:List Addr}{J:List O}{A:Around}{d:Nat}{hd:Option Nat}
theorem Cx.step{s':Shared}{iA X:List Addr}(C:Cx g A s U d hd)(S:St g s U J)(T:KA s.heap s'.heap U iA X):Cx g A s' iA d hd:=by
 refine⟨C.depth,C.units,?_,?_⟩
 ·have:=C.hand
  induction hd using Option.casesOn with
  | none=>exact this
  | some l=>obtain⟨a,e,q⟩:=this;exact⟨a,T.loc _ _ e,q⟩
 ·obtain⟨fr,e,h⟩:=C.stk
  refine⟨fr,e,fun env m=>?_⟩
  obtain⟨k,L,o,f,ab,ho,hc,hd⟩:=h env m
  obtain⟨o',ho',hc',hd'⟩:=T.shape L o ho (S.notin ho (by rw[hc];rfl))
  exact⟨k,L,o',f,ab,ho',hc'.trans hc,hd' hd⟩
theorem DD.mono{WA:Heap}{RA:List Addr}{Q Q':List V->List O->Prop}{v:List Value}{s':Shared}(p:DD g WA RA Q v s')(k:∀v J,Q v J->Q' v J):DD g WA RA Q' v s':=let ⟨a,b,c,q,r,S,T⟩:=p;⟨a,b,c,k _ _ q,r,S,T⟩
theorem GJ.from{WA tA:Heap}{RA BA:List Addr}{Q:Bool->List O->Prop}{v:Bool}{s':Shared}(T:KA WA tA RA BA [])(p:GJ g tA BA Q v s'):GJ g WA RA Q v s':=let ⟨b,c,q,S,T'⟩:=p;⟨b,c,q,S,T.trans T'⟩
theorem DV{WA:Heap}{RA:List Addr}{t:Sem Value}{Q:V->List O->Prop}{E:Nat->List O->Prop}(T:KA WA s.heap RA U [])(h:wpAny (model g.prog g.w) A t (mA g s.heap U [] Q) (VA g s.heap U [] E) s):
 wpAny (model g.prog g.w) A t (mA g WA RA [] Q) (VA g WA RA [] E) s:=wpAny_mono h (fun u0 u0 p=>p.from T) fun u0 u0 p=>p.from T
theorem tY{WA:Heap}{RA:List Addr}{t:Sem Bool}{Q:Bool->List O->Prop}{E:Nat->List O->Prop}(T:KA WA s.heap RA U [])(h:wpAny (model g.prog g.w) A t (GJ g s.heap U Q) (VA g s.heap U [] E) s):
 wpAny (model g.prog g.w) A t (GJ g WA RA Q) (VA g WA RA [] E) s:=wpAny_mono h (fun u0 u0 p=>p.from T) fun u0 u0 p=>p.from T
theorem YT{o:Obj}{es:Array DictEntry}{ep:Nat}{m:Str->Option Value}(hd:o.data= .dict es ep)(hk:StrKeys es)(hm:∀name,nsFind es name=m name)(x:Str):lookIn x o=some (m x):=by
 unfold lookIn
 rw[hd]
 dsimp only
 have h1:nsFind es x=(es.toList.find? (·.key.isStr x)).map (·.val):=by
  unfold nsFind findBy
  rw[<-Array.find?_toList]
 rw[<-hm x,h1]
 induction e:es.toList.find? (·.key.isStr x)using Option.casesOn with
 | some y=>rfl
 | none=>
   have hany:es.toList.any (·.refKey)=false:=by
    rw[Array.any_toList,Array.any_eq_false'];intro e he;obtain⟨n,t,h⟩:=hk e he;simp[DictEntry.refKey,h]
   simp[hany]
inductive vQ(g:G)(s:Shared)(U:List Addr)(J:List O)(l:Nat)(a C:Addr)(dl:Nat)(kvs:List (List Nat×V)):Prop
 | mk (ox od:Obj) (dx:Addr) (m:Str->Option Value) (es:Array DictEntry) (ep:Nat) (I:InstAt s.heap a ox C (some od)) (e1:ox.dict=some dx) (e2:U[dl]?=some dx) (e3:J[dl]?=some (.ad kvs)) (e4:s.heap.get? dx=some od)
   (e5:od.cls= .type "dict") (e6:od.data= .dict es ep) (e7:es.size<=kvs.length) (N:s.heap.Ns dx m) (hl:∀x,lookIn x od=some (m x)) (rr:∀k:List Nat,rJ g s.heap U (QA k kvs) (m ⟨k.toArray⟩)) (x:JU C=true->∃dl,J[l]?=some (.exc C dl))
theorem zW{l:Nat}{kvs:List (List Nat×V)}(h:qH J l=some kvs):J[l]?=some (.ad kvs):=by
 unfold qH at h
 rcases e:J[l]? with _ | o
 ·rw[e]at h;cases h
 ·rw[e]at h
  induction o using O.casesOn with
  | ad k=>cases h;rfl
  | _=>cases h
theorem oO(S:St g s U J){l:Nat}{a C:Addr}{dl:Nat}{kvs:List (List Nat×V)}{ox:Obj}{dx:Addr}(ho:s.heap.get? a=some ox)(hc:ox.cls= .ref C)(hn:notCls ox=true)(hd:ox.dict=some dx)(hdx:U[dl]?=some dx)(hk:qH J dl=some kvs)
 (hx:JU C=true->∃dl,J[l]?=some (.exc C dl)):vQ g s U J l a C dl kvs:=by
 have e:=zW hk
 obtain⟨od,m,e1,c1,N,z,rr⟩:=S.objs _ _ _ hdx e
 obtain⟨o',es,ep,e2,d2,k2,m2⟩:=id N
 rw[e1]at e2;cases e2
 exact⟨ox,od,dx,m,es,ep,⟨ho,hc,hn,by rw[hd];exact e1⟩,hd,hdx,e,e1,c1,d2,z _ _ d2,N,YT d2 k2 m2,rr,hx⟩
theorem dN(S:St g s U J){l:Nat}{a C:Addr}{dl:Nat}{kvs:List (List Nat×V)}(h:cD J l=some (C,dl,kvs))(ha:U[l]?=some a):vQ g s U J l a C dl kvs:=by
 unfold cD at h
 rcases e:J[l]? with _ | o
 ·rw[e]at h;cases h
 ·rw[e]at h
  induction o using O.casesOn with
  | inst C' dl'=>
    obtain⟨kv,hk,h⟩:=Option.map_eq_some_iff.mp h
    cases h
    obtain⟨x0,dx,hdx,ho⟩:=S.objs _ _ _ ha e
    exact oO S ho rfl rfl rfl hdx hk fun q=>by rw[x0]at q;cases q
  | exc C' dl'=>
    obtain⟨kv,hk,h⟩:=Option.map_eq_some_iff.mp h
    cases h
    obtain⟨x0,dx,vs,hdx,ho,_⟩:=S.objs _ _ _ ha e
    exact oO S ho rfl rfl rfl hdx hk fun u0=>⟨_,e⟩
  | _=>cases h
theorem RM{K:Frag}{C:Addr}(h:hasDictIn K C=true):∃cd,clsIn K C=some cd/\cd.hasDict=true:=by
 unfold hasDictIn at h
 induction e:clsIn K C using Option.casesOn with
 | none=>rw[e]at h;cases h
 | some cd=>rw[e]at h;exact⟨cd,rfl,h⟩
theorem XO{K:Frag}{C:Addr}{od:Obj}{n:Str}{v:Value}(hd:hasDictIn K C=true)(hg:(match findIn K (.ref C) n with | some a=>noGet K a | none=>false)=true)(hl:lookIn n od=some (some v)):findObj K C (some od) n=some (.value v):=by
 obtain⟨cd,hc,hh⟩:=RM hd
 unfold findObj
 rw[hc,Option.bind_some]
 induction hf:findIn K (.ref C) n using Option.casesOn with
 | none=>rw[hf]at hg;cases hg
 | some at'=>
   rw[hf]at hg
   rw[Option.bind_some]
   have own:PySem.W.ownOf cd (some od) n=some (some v):=by unfold PySem.W.ownOf;rw[hh];exact hl
   induction at' using Option.casesOn with
   | none=>rw[own];rfl
   | some a=>
     have hsp:specialIn K a "__get__"=some none:=by
      have:(specialIn K a "__get__"==some none)=true:=hg
      simpa using this
     show(specialIn K a "__get__").bind _=_;rw[hsp];rw[own];rfl
section
variable{E:Value->Shared->Prop}{prog:Program}{w:World}{K:Frag}{x C:Addr}{ox:Obj}{od:Option Obj}{name:Str}{expr:Bool}{Q:Value->Shared->Prop}
theorem bX{v:Value}(X:K.In s.heap)(I:InstAt s.heap x ox C od)(hga:findIn K (.ref C) "__getattribute__"=some (some (.builtin "BaseException.__getattribute__")))(hk:findIn K (.ref C) "__getattr__"=some none)
 (hb:subIn K (.ref C) (.type "BaseException")=some true) (hf:findObj K C od name=some (.value v)) (hh:handedIn v=true) (h:Q v {s with toks:=s.toks+1}):wpAny (model prog w) A (getAttr (.ref x) name expr) Q E s:=by
 obtain⟨hp,g,d,t,os⟩:=s
 have L0:=I.type (M:=model prog w)
 have L1:=looks_findIn (M:=model prog w) X hga
 have L2:=looks_findIn (M:=model prog w) X hk
 have L3:=looks_find (M:=model prog w) X I hf
 have ga:=PySem.F.excAttr_ValueError.ga
 have hs:Looks (model prog w) hp (isInstance (.ref x) (.type "BaseException")) true:=L0.andThen (looks_subIn X hb)
 refine wpAny_bind (wpAny_mkText (wpAny_holding (wpAny_bind (L0.at (wpAny_bind (L1.at ?_))))))
 dsimp only
 have hx2:(Value.builtin "BaseException.__getattribute__"==Value.builtin "object.__getattribute__")=false:=by decide+kernel
 rw[hx2,Bool.and_false,if_neg Bool.false_ne_true]
 unfold getAttrByItsOwn hookBefore
 rw[if_pos (show onTheHeap (Value.ref C)=true from rfl)]
 refine wpAny_bind (L2.at (wpAny_bind (wpAny_attempt (wpAny_holding ?_))))
 unfold callGetattribute
 rw[show(expr&&onTheHeap (Value.builtin "BaseException.__getattribute__"))=false from by induction expr using Bool.casesOn <;>rfl,if_neg Bool.false_ne_true]
 unfold boundAndCalled
 rw[ga.bind]
 refine wpAny_bind (wpAny_pure (wpAny_call ?_))
 have hk1:builtinKind "BaseException.__getattribute__"=some .slot:=by decide+kernel
 have hk2:splitId "BaseException.__getattribute__"=some ("BaseException","__getattribute__"):=by decide+kernel
 show codeAny _ _ (.call (.builtin "BaseException.__getattribute__") ⟨[.ref x, .str name t],[]⟩) _ _
 refine codeAny_call_builtin ga.plain PySem.F.entry_bexc_ga (@check_slot (model prog w) _ _ ⟨hp,g,d,t+1,os⟩ "BaseException.__getattribute__" "BaseException" "__getattribute__" (.ref x) [.str name t] [] _ hk1 hk2 hs (PySem.F.args_bexc_ga _ _) ?_)
 refine wpAny_bind (wpAny_pure (wpAny_bind (wpAny_pure (wpAny_bind (L0.at (wpAny_bind (L3.at ?_)))))))
 refine wpAny_pure ?_
 show wpAny _ _ (handedOut v) _ _ _
 rw[handedOut_of hh];exact wpAny_pure h
end
theorem aL{h:Heap}{v:V}{x:Value}(r:SA g h U v x)(ok:aG v=true):handedIn x=true:=by
 induction v using V.casesOn with
 | none=>subst r;rfl
 | bool b=>subst r;rfl
 | int i=>obtain⟨t,rfl⟩:=r;rfl
 | str s=>obtain⟨t,rfl,_⟩:=r;rfl
 | tup vs=>obtain⟨a,os,rfl,_⟩:=r;rfl
 | loc l=>obtain⟨a,_,rfl⟩:=r;rfl
 | val w=>subst r;induction x using Value.casesOn <;>first | rfl | cases ok
 | script=>subst r;rfl
theorem CR(Y:VC g)(C:Cx g A s U d hd)(S:St g s U J){x:V}{n:List Nat}{v:V}{a:Value}{E:Value->Shared->Prop}{Q:V->List O->Prop}(ra:SA g s.heap U x a)(h:CH g J x n=some v)(hq:Q v J):
 wpAny (model g.prog g.w) A (getAttr a ⟨n.toArray⟩ true) (mA g s.heap U [] Q) E s:=by
 induction x using V.casesOn with
 | loc l=>
   have h:((cD J l).bind fun x=>if qD x.1 n=true then(QA n x.2.2).bind fun v=>if aG v=true then some v else none else none)=some v:=h
   obtain⟨a,ha,rfl⟩:=ra
   induction hi:cD J l using Option.casesOn with
   | none=>rw[hi]at h;cases h
   | some t=>
     obtain⟨Cl,dl,kvs⟩:=t
     rw[hi]at h
     simp only[Option.bind_some]at h
     set_option tactic.hygienic true in split at h
     ·rename_i ht
      induction hk:QA n kvs using Option.casesOn with
      | none=>rw[hk]at h;cases h
      | some v'=>
        rw[hk]at h
        simp only[Option.bind_some]at h
        set_option tactic.hygienic true in split at h
        ·rename_i hok
         cases h
         obtain⟨ox,od,dx,m,es,ep,I,_,_,_,_,_,_,_,_,hl,rr,_⟩:=dN S hi ha
         have hr:=rr n
         rw[hk]at hr
         induction hm:m ⟨n.toArray⟩using Option.casesOn with
         | none=>rw[hm]at hr;exact hr.elim
         | some x=>
           rw[hm]at hr
           have hlx:=hl ⟨n.toArray⟩
           rw[hm]at hlx
           have K:g.K.In s.heap:=Y.K.keeps S.base
           have tb:=(Y.tab Cl n ht).1
           have fin:=MD S (Q:=Q) hq hr (s.toks+1)
           by_cases hx:JU Cl=true
           ·rw[if_pos hx]at tb
            unfold JQ at tb
            simp only[Bool.and_eq_true,beq_iff_eq]at tb
            obtain⟨⟨⟨t1,t2⟩,t3⟩,t4⟩:=tb
            exact bX K I t1 t2 (Y.exc Cl hx).1 (XO t3 t4 hlx) (aL hr hok) fin
           ·rw[if_neg hx]at tb
            unfold WR plainGet at tb
            simp only[Bool.and_eq_true,beq_iff_eq]at tb
            obtain⟨⟨⟨t1,t2⟩,t3⟩,t4⟩:=tb
            exact get_value K I t1 (XO t3 t4 hlx) (aL hr hok) fin
        ·cases h
     ·cases h
 | _=>exact eE h
theorem BL{h:Heap}{v:V}{x:Value}{o:Option Int}(r:SA g h U v x)(e:GS v=some o):IsPart x o:=by
 induction v using V.casesOn with
 | none=>cases e;subst r;exact .none
 | int i=>cases e;obtain⟨t,rfl⟩:=r;exact .int _ _
 | _=>exact eE e
theorem VM(n:Nat)(i:Int):clipAt n i=XD n i:=by
 have:=clipAt_cast n i
 have:=lK n i
 lia
theorem sM{h:Heap}{vs:List Value}{ns:List Int}(hi:IntsAre vs ns):∀l:List Nat,∃js:List Int,js.length<=l.length/\MA g h U (js.map .int) (l.filterMap (vs[·]?))
 | []=>⟨[],Nat.le_refl _,trivial⟩
 | k::l=>by
   obtain⟨js,h1,h2⟩:=sM hi l
   rw[List.filterMap_cons]
   induction e:vs[k]? using Option.casesOn with
   | none=>exact⟨js,by simp;exact qC h1,h2⟩
   | some x=>
     obtain⟨n,t,rfl⟩:∃n t,x= .int n t:=by
      clear h1 h2
      induction hi generalizing k with
      | nil=>simp at e
      | cons n t _ ih=>
        induction k using Nat.casesOn with
        | zero=>simp at e;exact⟨n,t,e.symm⟩
        | succ k=>exact ih k (by simpa using e)
     exact⟨n::js,by simp;assumption,⟨⟨t,rfl⟩,h2⟩⟩
theorem oL{h:Shared}{a:Addr}{os:Array Value}{n:Nat}(e:h.heap.get? a=some {cls:= .type "list",data:= .seq os n}):h.TypeIs (.ref a) "list":=⟨_,e,rfl⟩
theorem LW(Y:VC g)(C:Cx g A s U d hd)(S:St g s U J){value slice:Expr}{x y z:V}{a b c:Value}{E:Value->Shared->Prop}{Q:V->List O->Prop}(ra:SA g s.heap U x a)(rb:SA g s.heap U y b)(rc:SA g s.heap U z c)(h:eD J x y z Q):
 wpAny (model g.prog g.w) A (subscriptTail value slice a (.ref s.heap.objs.size)) (mA g s.heap U [] Q) E {s with heap:=s.heap.push {cls:= .type "slice",data:= .fields #[b,c, .none]}}:=by
 have DA:=S.pushU {cls:= .type "slice",data:= .fields #[b,c, .none]}
 have GA:=KA.pushU s.heap U {cls:= .type "slice",data:= .fields #[b,c, .none]}
 induction x using V.casesOn with
 | str x=>
   obtain⟨i,j,h1,h2,hq⟩:=h
   obtain⟨t,rfl,hz,hc⟩:=ra
   obtain⟨o1,e1,rfl⟩:=zO h1
   obtain⟨o2,e2,rfl⟩:=iO h2
   obtain⟨p1,rfl,q1⟩:=IP rb e1
   obtain⟨p2,rfl,q2⟩:=IP rc e2
   refine LE (T:="str") rfl PySem.F.slot_str_getitem.lookup ?_
   refine oT DA (lo:=p1) (hi:=p2) ⟨_,Heap.get?_push_size _ rfl,rfl,rfl⟩ (fun t' k=>?_) hz
   rw[q1,q2]
   refine pD hq ⟨t',rfl,Nat.le_trans (RN ..) hz,fun c m=>hc c (NX m)⟩ (DA.toks k) GA
 | loc l=>
   obtain⟨vs,i,j,hl,hsz,h1,h2,hq⟩:=h
   obtain⟨a,ha,rfl⟩:=ra
   obtain⟨o1,e1,rfl⟩:=zO h1
   obtain⟨o2,e2,rfl⟩:=iO h2
   obtain⟨a',os,n,ha',ho,hz,rr⟩:=DA.list hl
   rw[ha]at ha';cases ha'
   refine LE (T:="list") (oL ho) PySem.slot_list_getitem.lookup ?_
   have hlen:=rr.len
   rw[Array.length_toList]at hlen
   refine wpAny_getItem_list_slice (vC ho) (.new _ _ _ _) (BL rb e1) (BL rc e2) .none (by simp) ?_ (by rw[LA];exact rC (eL hlen) hsz)
   have hc:(slicePick os o1 o2 none).toList=gF os.toList (BE vs.length o1) (zD vs.length o2):=by
    rw[slicePick_plain]
    unfold gF
    rw[List.drop_take]
    have e1:o1.elim 0 (clipAt os.size)=BE vs.length o1:=by induction o1 using Option.casesOn <;>simp[BE,VM,hlen]
    have e2:o2.elim os.size (clipAt os.size)=zD vs.length o2:=by induction o2 using Option.casesOn <;>simp[zD,VM,hlen]
    rw[e1,e2]
   have bA:=KA.pushT (s.heap.push {cls:= .type "slice",data:= .fields #[b,c, .none]}) U {cls:= .type "list",data:= .seq (slicePick os o1 o2 none)}
   refine pD hq ⟨_,?_,rfl⟩ (DA.pushT _ (.list (gF vs (BE vs.length o1) (zD vs.length o2))) rfl ⟨slicePick os o1 o2 none,0,Heap.get?_push_size _ rfl,?_,?_⟩) (GA.trans bA)
   ·rw[<-DA.len];exact fB ..
   ·have:=RN vs (BE vs.length o1) (zD vs.length o2);exact Nat.le_trans this hz
   ·rw[hc]
    exact((rr.take _).drop _).step0 DA bA
 | tup vs=>
   obtain⟨k,rfl,rfl,h1,h2,h3,hq⟩:=h
   obtain⟨a,os,rfl,ht,hz,rr⟩:=ra
   obtain⟨u,rfl⟩:=rb
   cases rc
   have zY:IsTup (s.heap.push {cls:= .type "slice",data:= .fields #[.int (k:Int) u, .none, .none]}) a os:=ht.keeps fun b o e=>Heap.get?_push_of_some _ e
   have hlen:=rr.len
   rw[Array.length_toList]at hlen
   refine LE (T:="tuple") (by obtain⟨o,ho,hc,_⟩:=zY;exact⟨o,ho,hc⟩) PySem.F.slot_tuple_getitem.lookup ?_
   refine PyProof.Rows.getItem_tuple_from zY ⟨_,Heap.get?_push_size _ rfl,rfl,rfl⟩ h1 (by rw[hlen];exact h2) ?_ (by rw[LA,hlen];exact kC h3)
   have bA:=KA.pushU (s.heap.push {cls:= .type "slice",data:= .fields #[.int (k:Int) u, .none, .none]}) U {cls:= .type "tuple",data:= .seq (os.toList.drop k).toArray}
   refine pD hq ⟨_,(os.toList.drop k).toArray,rfl,⟨_,Heap.get?_push_size _ rfl,rfl,0,rfl⟩,by rw[List.length_drop];exact Nat.le_trans (Nat.sub_le _ _) hz,?_⟩ (DA.pushU _) (GA.trans bA)
   exact((rr.drop k).step0 S GA).step0 DA bA
 | _=>exact h.elim
theorem jZ{st:Int}{m:Nat}(h:0<=st)(hm:m<=63):(sliceRange st (m:Int) 5).length<=63:=by
 unfold sliceRange
 simp only[show(5:Int)>0 from by decide,if_true,List.length_map,List.length_range]
 split <;>lia
theorem nT(Y:VC g)(C:Cx g A s U d hd)(S:St g s U J){value slice:Expr}{x y z:V}{a b c:Value}{E:Value->Shared->Prop}{Q:V->List O->Prop}(ra:SA g s.heap U x a)(rb:SA g s.heap U y b)(rc:SA g s.heap U z c)
 (h:AN x y z J Q):
 wpAny (model g.prog g.w) A (subscriptTail value slice a (.ref s.heap.objs.size)) (mA g s.heap U [] Q) E {s with heap:=s.heap.push {cls:= .type "slice",data:= .fields #[b, .none,c]}}:=by
 induction x using V.casesOn with
 | script=>
   obtain⟨i,rfl,h⟩:=eN h
   obtain⟨n,rfl,hi,rfl,hq⟩:=eN h
   subst ra
   obtain⟨tb,rfl⟩:=rb
   obtain⟨tc,rfl⟩:=rc
   obtain⟨vs,hl,hints,h63⟩:=Y.script
   have hlen:vs.size=g.ns.length:=by have:=hints.length;simpa using this
   have DA:=S.pushU {cls:= .type "slice",data:= .fields #[.int i tb, .none, .int 5 tc]}
   have GA:=KA.pushU s.heap U {cls:= .type "slice",data:= .fields #[.int i tb, .none, .int 5 tc]}
   obtain⟨o,ho,hc,n,hd⟩:=hl
   have vK:=DA.base _ _ ho
   refine LE (T:="list") ⟨o,vK,hc⟩ PySem.F.slot_list_getitem.lookup ?_
   refine wpAny_getItem_list_slice ⟨o,vK,hc,n,hd⟩ (.new _ _ _ _) (.int _ _) .none (.int _ _) (by decide) ?_ (by rw[LA];exact rC (eL hlen) h63)
   have bA:=KA.pushT (s.heap.push {cls:= .type "slice",data:= .fields #[.int i tb, .none, .int 5 tc]}) U {cls:= .type "list",data:= .seq (slicePick vs (some i) none (some 5))}
   obtain⟨js,hj,rr⟩:=sM (g:=g) (U:=U++[(s.heap.push {cls:= .type "slice",data:= .fields #[.int i tb, .none, .int 5 tc]}).objs.size]) (h:=(s.heap.push {cls:= .type "slice",data:= .fields #[.int i tb, .none, .int 5 tc]}).push {cls:= .type "list",data:= .seq (slicePick vs (some i) none (some 5))}) hints (sliceRange (sliceBounds (some i) none (some 5) vs.size).1 (sliceBounds (some i) none (some 5) vs.size).2.1 (sliceBounds (some i) none (some 5) vs.size).2.2)
   have hcnt:(sliceRange (sliceBounds (some i) none (some 5) vs.size).1 (sliceBounds (some i) none (some 5) vs.size).2.1 (sliceBounds (some i) none (some 5) vs.size).2.2).length<=63:=by
    refine jZ (st:=max 0 (min (if i < 0 then i+vs.size else i) vs.size)) (m:=vs.size) ?_ (by exact Nat.le_trans (eL hlen) h63)
    lia
   have hpk:(slicePick vs (some i) none (some 5)).toList=(sliceRange (sliceBounds (some i) none (some 5) vs.size).1 (sliceBounds (some i) none (some 5) vs.size).2.1 (sliceBounds (some i) none (some 5) vs.size).2.2).filterMap (vs.toList[·]?):=by
    unfold slicePick
    simp
   refine pD (hq js (Nat.le_trans hj hcnt)) ⟨_,?_,rfl⟩ (DA.pushT _ (.list (js.map .int)) rfl ⟨slicePick vs (some i) none (some 5),0,Heap.get?_push_size _ rfl,?_,?_⟩) (GA.trans bA)
   ·rw[<-DA.len];exact fB ..
   ·simp;exact rC hcnt hj
   ·rw[hpk];exact rr
 | _=>exact h.elim
theorem iX{h:Heap}:∀{vs:List V} {ns:List Int} {xs:List Value},uI vs=some ns->MA g h U vs xs->IntsAre xs ns:=by
 intro vs
 induction vs with
 | nil=>intro ns xs e r;cases e;induction xs using List.casesOn with
   | nil=>exact .nil
   | cons _ _=>exact r.elim
 | cons v vs ih=>intro ns xs e r;induction xs using List.casesOn with
   | nil=>exact r.elim
   | cons x xs=>induction v using V.casesOn with
     | int i=>
       obtain⟨⟨t,rfl⟩,rr⟩:=r
       obtain⟨m,q,rfl⟩:=Option.map_eq_some_iff.mp (e)
       exact .cons i t (ih q rr)
     | _=>exact eE e
noncomputable def cf:Option O->Option Nat
 | some (.list vs)=>some vs.length
 | some (.dict kvs _)=>some kvs.length
 | _=>none
theorem iP{h:Heap}:∀{vs:List Value} {ss:List Str},StrsAre vs ss->(∀x∈ss,x.cps.toList.length<=sizeLine/\∀c∈x.cps.toList,c < 0x110000)->MA g h U ((ss.map fun x=>x.cps.toList).map V.str) vs
 | _,_, .nil,_=>trivial
 | _,_, .cons y t q,k=>⟨⟨t,by rw[Array.toArray_toList],(k y (.head _)).1,(k y (.head _)).2⟩,iP q fun x m=>k x (.tail _ m)⟩
theorem wO{h:Heap}:∀{kvs:List (List Nat×V)} {ps:List (Str×Value)},cB g h U kvs ps->ps.map (·.1)=kvs.map (fun kv=>(⟨kv.1.toArray⟩:Str))/\∀x∈ps.map (·.1),x.cps.toList.length<=sizeLine/\∀c∈x.cps.toList,c < 0x110000
 | [],[],_=>⟨rfl,fun x m=>nomatch m⟩
 | (k,v)::kvs,(k',x)::ps,⟨⟨e,h1,h2,_⟩,r⟩=>by
   have e:k'=⟨k.toArray⟩:=e
   subst e
   obtain⟨a,b⟩:=wO r
   refine⟨by rw[List.map_cons,List.map_cons,a],fun y m=>?_⟩
   rcases List.mem_cons.mp m with rfl | m
   ·exact⟨h1,h2⟩
   ·exact b y m
theorem IY{l:Nat}{a:Addr}{kvs:List (List Nat×V)}{ep:Nat}{E:Value->Shared->Prop}{Q:V->List O->Prop}(Y:VC g)(S:St g s U J)(hh:A.handled=none)(ha:U[l]?=some a)(hl:J[l]?=some (.dict kvs ep))(hn:kvs.length < 64)
 (hq:∀ss:List (List Nat),(ss.map fun x=>(⟨x.toArray⟩:Str)).Perm (kvs.map fun kv=>⟨kv.1.toArray⟩)->sortedS (ss.map fun x=>⟨x.toArray⟩)=true->Q (.loc J.length) (J++[.list (ss.map .str)])):
 wpAny (model g.prog g.w) A (call (.builtin "sorted") [.ref a]) (mA g s.heap U [] Q) E s:=by
 obtain⟨ps,Dd,hz,rr⟩:=S.objs l a _ ha hl
 have hlen:=rr.len
 refine cP hh (ZG Y S ha) Dd (by rw[hlen];exact hn) fun B h' tk out ss' e k kb k0 he b1 b2 b3=>?_
 obtain⟨e1,e2⟩:=wO rr
 have hb:∀x∈ss',x.cps.toList.length<=sizeLine/\∀c∈x.cps.toList,c < 0x110000:=fun x m=>e2 x (b2.mem_iff.mp m)
 have em:(ss'.map fun x=>x.cps.toList).map (fun x=>(⟨x.toArray⟩:Str))=ss':=by
  rw[List.map_map]
  exact(List.map_congr_left fun x _=>by show(⟨x.cps.toList.toArray⟩:Str)=x;rw[Array.toArray_toList]).trans (List.map_id _)
 have hB:100<=B:=by
  obtain⟨b,o,h1,h2⟩:=g.big
  exact Nat.le_trans h1 (Nat.le_of_lt (kb b o (S.base b o h2)))
 have T:KA s.heap h' U (U++[B]) []:=(KA.ext U k []).track k0
 have hm:B∉U:=fun m=>by obtain⟨o,q,_⟩:=S.at m;rw[k0]at q;cases q
 have h0:g.WA.get? B=none:=by
  rcases q:g.WA.get? B with _ | o
  ·rfl
  ·exact absurd ((S.base B o q).symm.trans k0) (by simp)
 have DA:St g {s with heap:=h',toks:=tk} (U++[B]) (J++[.list ((ss'.map fun x=>x.cps.toList).map .str)]):=(S.ext k tk).track (.list ((ss'.map fun x=>x.cps.toList).map .str)) hm h0 hB
  ⟨out,e,he,by have:=b2.length_eq;simp only[List.length_map]at this ⊢;rw[this,hlen];exact kC (Nat.le_of_lt hn),iP b1 hb⟩
 refine pD (hq (ss'.map fun x=>x.cps.toList) (by rw[em, <-e1];exact b2) (by rw[em];exact b3)) ⟨B,?_,rfl⟩ DA T
 rw[<-S.len];exact fB ..
theorem cU(Y:VC g)(C:Cx g A s U d hd)(S:St g s U J){f:Value}{vs:List V}{xs:List Value}{E:Value->Shared->Prop}{Q:V->List O->Prop}(r:MA g s.heap U vs xs)(h:FG g hd f vs J Q):
 wpAny (model g.prog g.w) A (call f xs) (mA g s.heap U [] Q) E s:=by
 induction f using Value.casesOn with
 | builtin f=>
   unfold FG at h
   dsimp only at h
   by_cases q:f="len"
   ·rw[if_pos q]at h;subst q
    rcases vs with _ | ⟨v,_ | ⟨v2,vs⟩⟩ <;>first | exact h.elim | skip
    obtain⟨n,hn,hq⟩:=h
    obtain⟨x,rfl,rv⟩:=r.one
    ·have fin:mA g s.heap U [] Q (.int (n:Int) (s.toks+1)) {s with toks:=s.toks+1+1}:=MD S hq ⟨_,rfl⟩ _
     induction v using V.casesOn with
     | str s=>
       cases hn
       obtain⟨t,rfl,hz,_⟩:=rv
       rw[<-TB]at fin
       exact PySem.P.len_str (by rw[TB];rw[LA]at hz;lia) fin
     | tup vs=>
       cases hn
       obtain⟨a,os,rfl,t,hz,rr⟩:=rv
       have hlen:=rr.len
       rw[Array.length_toList]at hlen
       rw[<-hlen]at fin hz
       exact PyProof.Rows.len_tuple t (by lia) fin
     | script=>
       cases hn
       subst rv
       obtain⟨vs,hl,hints,h63⟩:=Y.script
       have hlen:vs.size=g.ns.length:=by have:=hints.length;simpa using this
       rw[<-hlen]at fin h63
       obtain⟨o,ho,r⟩:=hl
       exact call_len_list ⟨o,S.base _ _ ho,r⟩ (by lia) fin
     | loc l=>
       obtain⟨a,ha,rfl⟩:=rv
       have hn:cf J[l]?=some n:=hn
       rcases hl:J[l]? with _ | (⟨ws⟩ | ⟨kvs,ep⟩ | _ | _ | _ | _) <;>rw[hl]at hn <;>first | exact eE hn | skip
       ·cases hn
        obtain⟨os,m,ho,hz,rr⟩:=S.objs _ a _ ha hl
        have hlen:=rr.len
        rw[Array.length_toList]at hlen
        rw[<-hlen]at fin hz
        exact call_len_list (vC ho) (by lia) fin
       ·cases hn
        obtain⟨ps,D,hz,rr⟩:=S.objs _ a _ ha hl
        have hlen:=rr.len
        rw[<-hlen]at fin hz
        exact call_len_dict (ZG Y S ha) D.dictOf (by rw[LA]at hz;lia) fin
     | _=>exact eE hn
   rw[if_neg q]at h;clear q
   by_cases q:f="ord"
   ·rw[if_pos q]at h;subst q
    rcases vs with _ | ⟨v,_ | ⟨v2,vs⟩⟩ <;>first | exact h.elim | skip
    set_option tactic.hygienic true in induction v using V.casesOn <;>first | exact h.elim | skip
    rename_i s
    rcases s with _ | ⟨c,_ | ⟨c2,s⟩⟩ <;>first | exact h.elim | skip
    obtain⟨x,rfl,t,rfl,_⟩:=r.one
    exact PySem.P.ord_of_char (MD S h ⟨_,rfl⟩ _)
   rw[if_neg q]at h;clear q
   by_cases q:f="chr"
   ·rw[if_pos q]at h;subst q
    rcases vs with _ | ⟨v,_ | ⟨v2,vs⟩⟩ <;>first | exact h.elim | skip
    set_option tactic.hygienic true in induction v using V.casesOn <;>first | exact h.elim | skip
    rename_i i
    obtain⟨x,rfl,t,rfl⟩:=r.one
    ·obtain⟨h1,h2,hq⟩:=h
     refine PySem.P.chr_of_int ?_ (MD S hq ⟨_,rfl,by rw[LA];simp,fun c m=>?_⟩ _)
     ·simp;lia
     ·rw[List.mem_singleton.mp m];lia
   rw[if_neg q]at h;clear q
   by_cases q:f="isinstance"
   ·rw[if_pos q]at h;subst q
    rcases vs with _ | ⟨v,_ | ⟨v2,_ | ⟨v3,vs⟩⟩⟩ <;>first | exact h.elim | skip
    set_option tactic.hygienic true in induction v2 using V.casesOn <;>first | exact h.elim | skip
    rename_i cv
    induction v using V.casesOn with
    | str sx=>induction cv using Value.casesOn with
      | ref Cl=>
        obtain⟨x,y,rfl,⟨t,rfl,_⟩,rfl⟩:=r.two
        ·obtain⟨hn,hq⟩:=h
         exact isn_call (K:=g.K) (P:=fun u0=>True) (Y.K.keeps S.base) (fun M=>Looks.of_pure rfl) (Y.nst _ hn) (by simp) trivial (fun p h=>str_cls p h) (MD S hq rfl _)
      | _=>exact h.elim
    | tup ws=>
      obtain⟨rfl,h⟩:=h
      obtain⟨x,y,rfl,⟨a,os,rfl,⟨o,e,c,_⟩,_⟩,rfl⟩:=r.two
      ·exact PySem.IsiPair.tuple_tuple e c (JP S h rfl)
    | _=>exact h.elim
   rw[if_neg q]at h;clear q
   by_cases q:f="sum"
   ·rw[if_pos q]at h;subst q
    rcases vs with _ | ⟨v,_ | ⟨v2,vs⟩⟩ <;>first | exact h.elim | skip
    set_option tactic.hygienic true in induction v using V.casesOn <;>first | exact h.elim | skip
    rename_i l
    obtain⟨rfl,vs,ns,hl,hi,hq⟩:=h
    obtain⟨x,rfl,a,ha,rfl⟩:=r.one
    ·obtain⟨a',os,m,ha',ho,hz,rr⟩:=S.list hl
     rw[ha]at ha';cases ha'
     have hints:=iX hi rr
     obtain⟨ys,hx⟩:=hints.allInts.items
     have e0:os=intItems ys:=by rw[<-hx]
     refine sum_intListG (xs:=ys) C.hand (by rw[<-e0];exact vC ho) fun h' tk t' hk=>?_
     have e1:ns=ys.toList.map (·.1):=by
      rw[<-nums_intItems, <-e0]
      exact(hints.numsOf).symm
     have e2:preSum (numAt ys) ys.size=ns.sum:=by
      rw[preSum_eq,List.take_of_length_le (by simp),e1]
     rw[e2]
     exact pD hq ⟨_,rfl⟩ (S.ext hk tk) (KA.ext U hk [])
   rw[if_neg q]at h;clear q
   by_cases q:f="sorted"
   ·rw[if_pos q]at h;subst q
    rcases vs with _ | ⟨v,_ | ⟨v2,vs⟩⟩ <;>first | exact h.elim | skip
    set_option tactic.hygienic true in induction v using V.casesOn <;>first | exact h.elim | skip
    rename_i l
    obtain⟨rfl,kvs,ep,hl,hn,hq⟩:=h
    obtain⟨x,rfl,a,ha,rfl⟩:=r.one
    exact IY Y S C.hand ha hl hn hq
   rw[if_neg q]at h;clear q
   exact h.elim
 | type f=>
   unfold FG at h
   dsimp only at h
   by_cases q:f="tuple"
   ·rw[if_pos q]at h;subst q
    rcases vs with _ | ⟨v,_ | ⟨v2,vs⟩⟩ <;>first | exact h.elim | skip
    set_option tactic.hygienic true in induction v using V.casesOn <;>first | exact h.elim | skip
    rename_i l
    obtain⟨vs,hl,hz',hq⟩:=h
    obtain⟨x,rfl,a,ha,rfl⟩:=r.one
    ·obtain⟨a',os,m,ha',ho,hz,rr⟩:=S.list hl
     rw[ha]at ha';cases ha'
     have hlen:=rr.len
     rw[Array.length_toList]at hlen
     refine call_tuple_list (vC ho) (fun h' hk=>?_) (by rw[LA];exact rC (eL hlen) hz')
     have DA:=S.ext hk s.toks
     have GA:=KA.ext U hk []
     have bA:=GA.trans (KA.pushU h' U {cls:= .type "tuple",data:= .seq os})
     exact pD hq ⟨_,os,rfl,⟨_,Heap.get?_push_size _ rfl,rfl,0,rfl⟩,by assumption,rr.step0 S bA⟩ (DA.pushU _) bA
   rw[if_neg q]at h;clear q
   by_cases q:f="list"
   ·rw[if_pos q]at h;subst q
    rcases vs with _ | ⟨v,_ | ⟨v2,vs⟩⟩ <;>first | exact h.elim | skip
    set_option tactic.hygienic true in induction v using V.casesOn <;>first | exact h.elim | skip
    rename_i l
    obtain⟨vs,hl,hz',hq⟩:=h
    obtain⟨x,rfl,a,ha,rfl⟩:=r.one
    ·obtain⟨a',os,m,ha',ho,hz,rr⟩:=S.list hl
     rw[ha]at ha';cases ha'
     have hlen:=rr.len
     rw[Array.length_toList]at hlen
     refine call_list_seq a (.inl rfl) ho rfl rfl (fun h' c' hk hD=>?_) (by rw[LA];exact rC (eL hlen) hz')
     have GA:=KA.grow U hk
     refine pD hq ⟨_,?_,rfl⟩ (S.grow hk s.toks (.list vs) ⟨os,c',hD,hz,rr.step0 S GA⟩) GA
     rw[<-S.len];exact fB ..
   rw[if_neg q]at h;clear q
   exact h.elim
 | _=>exact h.elim
end
section
open PySem.Builtin.Str
noncomputable def CO(g:G)(h:Heap)(U:List Addr):List (List Nat)->List V->List (Value×Value)->Prop
 | [],[],[]=>True
 | k::ks,v::vs,p::r=>(∃t,p.1= .str ⟨k.toArray⟩ t)/\SA g h U v p.2/\CO g h U ks vs r
 | _,_,_=>False
inductive OU(g:G)(h:Heap)(U:List Addr)(ks:List (List Nat))(Q:List V->List O->Prop)(ps:List (Value×Value))(s':Shared):Prop
 | mk (mv:List V) (NA:List O) (iA:List Addr) (q:Q mv NA) (r:CO g s'.heap iA ks mv ps) (S:St g s' iA NA) (T:KA h s'.heap U iA [])
section
variable{g:G}{s:Shared}{U:List Addr}{J:List O}{A:Around}{d:Nat}{hd:Option Nat}
theorem BH{f:Value}{trees:List (Bool×Sem Value)}(hp:trees.any (·.1)=false){Q:Args->Shared->Prop}{E:Value->Shared->Prop}{s:Shared}{M:Model}{A:Around}(h:wpAny M A (spliced trees) (fun vs s'=>Q ⟨vs,[]⟩ s') E s):wpAny M A (evalArgs f true trees []) Q E s:=by
 induction trees using List.casesOn with
 | nil=>
   refine wpAny_bind (wpAny_mono h (fun vs s' h'=>?_) fun u0 u0 x=>x)
   refine wpAny_holding ?_
   exact wpAny_bind (wpAny_pure (wpAny_bind (wpAny_pure (wpAny_pure h'))))
 | cons t r=>
   obtain⟨b,t⟩:=t
   induction b using Bool.casesOn with
   | true=>simp at hp
   | false=>exact Calls.evalArgs_plain h
theorem iK{f:Value}{xs:List Value}{Q:V->List O->Prop}{E:Nat->List O->Prop}{WA:Heap}{RA:List Addr}{CA:Shared}{BA:List Addr}(T:KA WA CA.heap RA BA [])
 (h:codeAny (model g.prog g.w) A (.call f ⟨xs,[]⟩) (mY g CA.heap BA (fun r J=>match r with | .ok v=>Q v J | .exn l=>E l J)) CA):
 wpAny (model g.prog g.w) A (call f xs) (mA g WA RA [] Q) (VA g WA RA [] E) CA:=by
 refine wpAny_call (codeAny_mono h fun r s' p=>?_)
 rcases r with e | (_ | _ | _ | v)
 ·exact p.1.from T
 ·exact p.elim
 ·exact p.elim
 ·exact p.elim
 ·exact mA.from T p
theorem lS(Y:VC g)(C:Cx g A s U d hd)(S:St g s U J){a:Addr}{pos:Pos}{trees:List (Bool×Sem Value)}{Q:V->List O->Prop}{E:Nat->List O->Prop}(hp:trees.any (·.1)=false)(hk:jX a=true)
 (h:wpAny (model g.prog g.w) A (spliced trees) (DD g s.heap U (fun vs J=>CallOk g d hd (.ref a) vs J (fun r J=>match r with | .ok v=>Q v J | .exn l=>E l J))) (VA g s.heap U [] E) s):
 wpAny (model g.prog g.w) A (callWith pos (.ref a) [] trees []) (mA g s.heap U [] Q) (VA g s.heap U [] E) s:=by
 refine callWith_of (P:=fun h=>g.K.In h) (by rw[hp];rfl) (fun h X=>keeps_K (Y.kp a hk) h X) (BH hp (wpAny_mono h (fun xs CA p=>?_) fun u0 u0 e=>e))
 obtain⟨mvs,HA,BA,q,r,DA,GA⟩:=p
 exact⟨Y.K.keeps DA.base,iK GA (q A CA BA xs (C.step S GA) DA r)⟩
theorem jU(Y:VC g)(C:Cx g A s U d hd)(S:St g s U J){f:String}{pos:Pos}{trees:List (Bool×Sem Value)}{Q:V->List O->Prop}{E:Nat->List O->Prop}(hp:trees.any (·.1)=false)
 (h:wpAny (model g.prog g.w) A (spliced trees) (DD g s.heap U (fun vs J=>FG g hd (.builtin f) vs J Q)) (VA g s.heap U [] E) s):
 wpAny (model g.prog g.w) A (callWith pos (.builtin f) [] trees []) (mA g s.heap U [] Q) (VA g s.heap U [] E) s:=by
 refine PySem.Calls.callWith_builtin hp (BH hp (wpAny_mono h (fun xs CA p=>?_) fun u0 u0 e=>e))
 obtain⟨mvs,HA,BA,q,r,DA,GA⟩:=p
 exact wpAny_mono (cU Y (C.step S GA) DA r q) (fun u0 u0 p=>p.from GA) fun u0 u0 e=>e
theorem kU(Y:VC g)(C:Cx g A s U d hd)(S:St g s U J){f:String}{pos:Pos}{trees:List (Bool×Sem Value)}{Q:V->List O->Prop}{E:Nat->List O->Prop}(hp:trees.any (·.1)=false)
 (h:wpAny (model g.prog g.w) A (spliced trees) (DD g s.heap U (fun vs J=>FG g hd (.type f) vs J Q)) (VA g s.heap U [] E) s):
 wpAny (model g.prog g.w) A (callWith pos (.type f) [] trees []) (mA g s.heap U [] Q) (VA g s.heap U [] E) s:=by
 refine PyProof.Rows.callWith_type hp (BH hp (wpAny_mono h (fun xs CA p=>?_) fun u0 u0 e=>e))
 obtain⟨mvs,HA,BA,q,r,DA,GA⟩:=p
 exact wpAny_mono (cU Y (C.step S GA) DA r q) (fun u0 u0 p=>p.from GA) fun u0 u0 e=>e
theorem qS{r:CFound}{v:Value}(h:tU r=some v):r= .val v:=by
 induction r using CFound.casesOn with
 | val b=>cases h;rfl
 | _=>cases h
theorem DL{α:Type}{p:Prop} [Decidable p]{o:Option α}{a:α}(h:(if p then o else none)=some a):p/\o=some a:=by
 by_cases q:p
 ·rw[if_pos q]at h;exact⟨q,h⟩
 ·rw[if_neg q]at h;cases h
theorem ZT{K:Frag}{C:Addr}{n:List Nat}{f:Addr}(h:SQ K C n=some f):findIn K (.ref C) ⟨n.toArray⟩=some (some (.ref f))/\typeIn K (.ref f)=some (.type "function")/\keepIn K (.ref f)=true/\
 findIn K (.ref C) "__getattribute__"=some (some (.builtin "object.__getattribute__"))/\findIn K (.ref C) "__getattr__"=some none:=by
 obtain⟨o,e1,h⟩:=Option.bind_eq_some_iff.mp h
 obtain⟨v,e2,h⟩:=Option.bind_eq_some_iff.mp h
 obtain⟨f',e3,h⟩:=Option.bind_eq_some_iff.mp h
 obtain⟨hc,h⟩:=DL h
 cases h
 unfold isFn plainGet at hc
 simp only[Bool.and_eq_true,beq_iff_eq]at hc
 exact⟨by rw[e1,e2,YL e3],hc.1.1,hc.1.2,hc.2.1,hc.2.2⟩
theorem nO(Y:VC g)(C:Cx g A s U d hd)(S:St g s U J){l:Nat}{a Cl:Addr}{dl:Nat}{kvs:List (List Nat×V)}{f:Addr}{n:List Nat}{pos:Pos}{pl:Sem Bool}{trees:List (Bool×Sem Value)}{Q:V->List O->Prop}{E:Nat->List O->Prop}
 (hl:J[l]?=some (.inst Cl dl)) (ha:U[l]?=some a) (hk:qH J dl=some kvs) (hn:QA n kvs=none) (hm:LL Cl n=some f) (hp:trees.any (·.1)=false)
 (h:wpAny (model g.prog g.w) A (spliced trees) (DD g s.heap U (fun vs J=>CallOk g d hd (.ref f) (.loc l::vs) J (fun r J=>match r with | .ok v=>Q v J | .exn l=>E l J))) (VA g s.heap U [] E) s):
 wpAny (model g.prog g.w) A (getMethod (.ref a) ⟨n.toArray⟩ pl) (fun fm UA=>wpAny (model g.prog g.w) A (callWith pos fm.1 fm.2 trees []) (mA g s.heap U [] Q) (VA g s.heap U [] E) UA) (VA g s.heap U [] E) s:=by
 have hi:cD J l=some (Cl,dl,kvs):=by unfold cD;rw[hl];simp[hk]
 obtain⟨ox,od,dx,m,es,ep,I,_,_,_,_,_,_,_,_,hlk,rr,_⟩:=dN S hi ha
 obtain⟨m1,m2,m3,m4,m5⟩:=ZT (Y.mth _ _ _ hm)
 have hr:=rr n
 rw[hn]at hr
 have hsh:shadowIn (some od) ⟨n.toArray⟩=some false:=by
  show(lookIn ⟨n.toArray⟩ od).map (·.isSome)=some false
  rw[hlk]
  induction q:m ⟨n.toArray⟩using Option.casesOn with
  | none=>rfl
  | some x=>rw[q]at hr;exact hr.elim
 refine method_fn (Y.K.keeps S.base) I m4 m5 m1 m2 hsh ?_
 refine callWith_of (P:=fun h=>g.K.In h) (by rw[hp];rfl) (fun h X=>keeps_K m3 h X) (BH hp (wpAny_mono h (fun xs CA p=>?_) fun u0 u0 e=>e))
 obtain⟨mvs,HA,BA,q,r,DA,GA⟩:=p
 exact⟨Y.K.keeps DA.base,iK GA (q A CA BA (.ref a::xs) (C.step S GA) DA ⟨⟨a,GA.loc _ _ ha,rfl⟩,r⟩)⟩
theorem zP(Y:VC g)(C:Cx g A s U d hd)(S:St g s U J){Cl f:Addr}{n:List Nat}{pos:Pos}{pl:Sem Bool}{trees:List (Bool×Sem Value)}{Q:V->List O->Prop}{E:Nat->List O->Prop}
 (hm:fZ Cl n=some f) (hp:trees.any (·.1)=false)
 (h:∀t,wpAny (model g.prog g.w) A (spliced trees) (DD g s.heap U (fun vs J=>CallOk g d hd (.ref f) vs J (fun r J=>match r with | .ok v=>Q v J | .exn l=>E l J))) (VA g s.heap U [] E) {s with toks:=t}):
 wpAny (model g.prog g.w) A (getMethod (.ref Cl) ⟨n.toArray⟩ pl) (fun fm UA=>wpAny (model g.prog g.w) A (callWith pos fm.1 fm.2 trees []) (mA g s.heap U [] Q) (VA g s.heap U [] E) UA) (VA g s.heap U [] E) s:=by
 have hm:=Y.cm _ _ _ hm
 have K:g.K.In s.heap:=Y.K.keeps S.base
 obtain⟨mc,e1,hm⟩:=Option.bind_eq_some_iff.mp hm
 obtain⟨hc,hm⟩:=DL hm
 simp only[Bool.and_eq_true,beq_iff_eq]at hc
 obtain⟨r,e2,hm⟩:=Option.bind_eq_some_iff.mp hm
 obtain⟨v,e3,hm⟩:=Option.bind_eq_some_iff.mp hm
 obtain⟨f',e4,hm⟩:=Option.bind_eq_some_iff.mp hm
 obtain⟨hk,hm⟩:=DL hm
 cases hm
 have hk:=Bool.and_eq_true_iff.mp hk
 rw[qS e3,YL e4]at e2
 refine method_cls K hc.2 (cls_value K hc.1 e2 rfl ?_)
 refine callWith_of (P:=fun h=>g.K.In h) (by rw[hp];rfl) (fun h X=>keeps_K hk.2 h X) (BH hp (wpAny_mono (h _) (fun xs CA p=>?_) fun u0 u0 e=>e))
 obtain⟨mvs,HA,BA,q,r,DA,GA⟩:=p
 exact⟨Y.K.keeps DA.base,iK GA (q A CA BA xs (C.step S GA) DA r)⟩
theorem eJ{h h':Heap}(ht:∀a os,IsTup h a os->IsTup h' a os):∀{ks:List (List Nat)} {vs:List V} {xs:List (Value×Value)},CO g h U ks vs xs->CO g h' U ks vs xs
 | [],[],[],_=>trivial
 | _::_,_::_,_::_,⟨a,b,c⟩=>⟨a,SA.congr ht (fun u0 u0 e=>e) _ _ b,eJ ht c⟩
 | [],_::_,_,r=>r.elim
 | [],[],_::_,r=>r.elim
 | _::_,[],_,r=>r.elim
 | _::_,_::_,[],r=>r.elim
theorem uL{α:Type}{M:Model}{a:α}{Q:α->Shared->Prop}{E:Value->Shared->Prop}{s:Shared}(h:wpAny M A (pure a) Q E s)(hA:∃Γ:Ctx,Γ.In A):Q a s:=by
 obtain⟨Γ,Yb⟩:=hA
 exact h Γ default Yb
theorem KV{e:Option Expr}{x:Str}(h:SW e=some x):∃n p,e=some (.Constant (.str x) n p):=by
 induction e using Option.casesOn with
 | none=>exact eE h
 | some e=>induction e using Expr.casesOn with
   | Constant v n p=>induction v using PySem.Const.casesOn with
     | str kx=>exact⟨n,p,by rw[Option.some.inj (h)]⟩
     | _=>exact eE h
   | _=>exact eE h
theorem FI{k:List Nat}{ks:List (List Nat)}{keys:List (Option Expr)}(h:KG (k::ks) keys=true):∃kx n p r,keys=some (.Constant (.str kx) n p)::r/\OL k kx=true/\KG ks r=true:=by
 induction keys using List.casesOn with
 | nil=>exact Bool.noConfusion (show false=true from h)
 | cons e r=>
   have h:(match SW e with | some x=>OL k x&&KG ks r | none=>false)=true:=h
   induction q:SW e using Option.casesOn with
   | none=>rw[q]at h;exact Bool.noConfusion h
   | some x=>
     rw[q]at h
     obtain⟨n,p,rfl⟩:=KV q
     exact⟨x,n,p,r,rfl,Bool.and_eq_true_iff.mp h⟩
theorem nS:∀{ks:List (List Nat)} {keys:List (Option Expr)},KG ks keys=true->ks.length=keys.length:=by
 intro ks
 induction ks with
 | nil=>intro keys h;induction keys using List.casesOn with
   | nil=>rfl
   | cons k r=>exact Bool.noConfusion (h)
 | cons k ks ih=>
   intro keys h
   obtain⟨x,n,p,r,rfl,_,h⟩:=FI h
   exact congrArg (· +1) (ih h)
theorem mS:∀{ks:List (List Nat)} {keys:List (Option Expr)},KG ks keys=true->keys.all (·.isSome)=true:=by
 intro ks
 induction ks with
 | nil=>intro keys h;induction keys using List.casesOn with
   | nil=>rfl
   | cons k r=>exact Bool.noConfusion (show false=true from h)
 | cons k ks ih=>
   intro keys h
   obtain⟨x,n,p,r,rfl,_,h2⟩:=FI h
   show(true&&r.all (·.isSome))=true
   rw[Bool.true_and];exact ih h2
theorem nU:∀{ks:List (List Nat)} {keys:List (Option Expr)},KG ks keys=true->∀k∈ks,k.length<=sizeLine/\∀c∈k,c < 0x110000:=by
 intro ks
 induction ks with
 | nil=>intro keys h k m;cases m
 | cons k ks ih=>
   intro keys h k' m
   obtain⟨x,n,p,r,rfl,h1,h⟩:=FI h
   rcases List.mem_cons.mp m with rfl | m
   ·unfold OL at h1
    simp only[Bool.and_eq_true,beq_iff_eq,decide_eq_true_eq,List.all_eq_true]at h1
    exact⟨by rw[LA];exact kC h1.1.2,h1.2⟩
   ·exact ih h k' m
theorem RL(k:List Nat)(v:V):∀kvs:List (List Nat×V),(BB k v kvs).length<=kvs.length+1
 | []=>by simp[BB.r1,BB.r2]
 | (k',v')::r=>by
   have:=RL k v r
   (first | rw[BB.r1] | rw[BB.r2]);split <;>simp <;>assumption
theorem jH{h:Heap}{k:List Nat}{v:V}{x:Value}(hk:k.length<=sizeLine/\∀c∈k,c < 0x110000)(rv:SA g h U v x):∀{kvs:List (List Nat×V)} {ps:List (Str×Value)},cB g h U kvs ps->(ps.map (·.1)).Nodup->cB g h U (BB k v kvs) (stored ps (⟨k.toArray⟩:Str) x)
 | [],[],_,_=>⟨⟨rfl,hk.1,hk.2,rv⟩,trivial⟩
 | (k',v')::kvs,(p1,p2)::ps,⟨⟨e1,e2,e3,e4⟩,rr⟩,hn=>by
   simp only[List.map_cons,List.nodup_cons]at hn
   have e1':p1=⟨k'.toArray⟩:=e1
   subst e1'
   by_cases hkk:k'=k
   ·subst hkk
    (first | rw[BB.r1,if_pos rfl] | rw[BB.r2,if_pos rfl])
    have hno:∀p∈ps,¬p.1=(⟨k'.toArray⟩:Str):=fun p m e=>hn.1 (List.mem_map.mpr ⟨p,m,e⟩)
    have:stored (((⟨k'.toArray⟩:Str),p2)::ps) ⟨k'.toArray⟩ x=(⟨k'.toArray⟩,x)::ps:=by
     unfold stored
     rw[if_pos (by simp)]
     simp only[List.map_cons,if_true]
     congr 1
     conv=>rhs;rw[<-List.map_id ps]
     refine List.map_congr_left fun p m=>?_
     rw[if_neg (hno p m)];rfl
    rw[this]
    exact⟨⟨rfl,e2,e3,rv⟩,rr⟩
   ·(first | rw[BB.r1,if_neg hkk] | rw[BB.r2,if_neg hkk])
    have hne:¬(⟨k'.toArray⟩:Str)=⟨k.toArray⟩:=fun e=>hkk (by have:=congrArg (fun s:Str=>s.cps.toList) e;simpa using this)
    have:stored (((⟨k'.toArray⟩:Str),p2)::ps) ⟨k.toArray⟩ x=(⟨k'.toArray⟩,p2)::stored ps ⟨k.toArray⟩ x:=by
     unfold stored
     simp only[List.any_cons,hne,decide_false,Bool.false_or,List.map_cons,if_false]
     split <;>rfl
    rw[this]
    exact⟨⟨rfl,e2,e3,e4⟩,jH hk rv rr hn.2⟩
 | [],_::_,r,_=>r.elim
 | _::_,[],r,_=>r.elim
theorem St.other(S:St g s U J){d:Addr}(hn:d∉U)(h0:g.WA.get? d=none){o:Obj}(ho:s.heap.get? d=some o)(hc:o.cls= .type "dict"){h':Heap}(hs:Heap.SameBut d s.heap h')(t:Nat):St g {s with heap:=h',toks:=t} U J/\∀a os,IsTup s.heap a os->IsTup h' a os:=by
 have ht:∀a os,IsTup s.heap a os->IsTup h' a os:=fun a os ⟨y,e,c,r⟩=>⟨y,(hs.2 a fun q=>by subst q;rw[ho]at e;cases e;rw[hc]at c;exact absurd c (by decide)).trans e,c,r⟩
 refine⟨S.quiet (fun b y e e'=>(hs.2 b fun q=>by subst q;rw[h0]at e;cases e).trans e') (fun b m=>hs.2 b fun q=>hn (q ▸ m)) ht (fun b y e t=>⟨y,(hs.2 b fun q=>by subst q;rw[ho]at e;cases e;rw[t.1]at hc;exact absurd hc (by decide)).trans e,t⟩) rfl rfl,ht⟩
theorem fP{E:Value->Shared->Prop}{d:Addr}:∀{ks:List (List Nat)} {vs:List V} {xs:List (Value×Value)} {s:Shared} {kvs:List (List Nat×V)} {ps:List (Str×Value)} (S:St g s U J),d∉U->g.WA.get? d=none->s.heap.DictOf (PySem.strKind g.prog g.w) d ps->cB g s.heap U kvs ps->(∀k∈ks,k.length<=sizeLine/\∀c∈k,c < 0x110000)->CO g s.heap U ks vs xs->kvs.length+ks.length<=100->∀{Q:PUnit->Shared->Prop},
 (∀h' t,St g {s with heap:=h',toks:=t} U J->Heap.SameBut d s.heap h'->∀ps',h'.DictOf (PySem.strKind g.prog g.w) d ps'->cB g h' U ((ks.zip vs).foldl (fun m kv=>BB kv.1 kv.2 m) kvs) ps'->((ks.zip vs).foldl (fun m kv=>BB kv.1 kv.2 m) kvs).length<=sizeLine->Q () {s with heap:=h',toks:=t})->
 wpAny (model g.prog g.w) A (storeAll d xs) Q E s:=by
 intro ks
 induction ks with
 | nil=>
   intro vs xs s kvs ps S hd h0 D rr hk r hz Q k
   induction vs using List.casesOn with
   | cons _ _=>induction xs using List.casesOn <;>exact r.elim
   | nil=>induction xs using List.casesOn with
     | cons _ _=>exact r.elim
     | nil=>exact wpAny_pure (k s.heap s.toks S (.refl ..) ps D rr (by simp at hz ⊢;rw[LA];exact kC hz))
 | cons key ks ih=>
   intro vs xs s kvs ps S hd h0 D rr hk r hz Q k
   induction vs using List.casesOn with
   | nil=>induction xs using List.casesOn <;>exact r.elim
   | cons v vs=>induction xs using List.casesOn with
    | nil=>exact r.elim
    | cons p xs=>
     obtain⟨p1,p2⟩:=p
     obtain⟨⟨t,e⟩,rv,r⟩:=r
     have e':p1= .str ⟨key.toArray⟩ t:=e
     subst e'
     unfold storeAll
     rw[List.forIn_cons]
     have hlen:=rr.len
     simp only[List.length_cons]at hz
     refine wpAny_bind (wpAny_bind (wpAny_dictSet_pairs (k:=(⟨key.toArray⟩:Str)) (fD key t) D (fun h' D' hs=>?_) (by rw[hlen,LA];exact kC (db hz))))
     refine wpAny_pure ?_
     obtain⟨o,es,ep,ho,X,_⟩:=id D
     obtain⟨S',ht⟩:=S.other hd h0 ho X.1 hs (s.toks+1)
     have nd:(ps.map (·.1)).Nodup:=by obtain⟨_,_,_,_,_,_,_,_,hn⟩:=D;exact hn
     have rr':cB g h' U (BB key v kvs) (stored ps (⟨key.toArray⟩:Str) p2):=cB.congr ht (fun u0 u0 e=>e) _ _ (jH (hk key (.head _)) rv rr nd)
     have hl2:=RL key v kvs
     refine ih S' hd h0 D' rr' (fun q m=>hk q (List.mem_cons_of_mem _ m)) (eJ ht r) (by exact rC hl2 hz) fun h'' t' S'' hs' ps' D'' rr'' hz'=>?_
     exact k h'' t' S'' (hs.trans hs') ps' D'' rr'' hz'
theorem tS(Y:VC g)(C:Cx g A s U d hd)(S:St g s U J){env:Env}{keys:List (Option Expr)}{values:List Expr}{pos:Pos}{ks:List (List Nat)}{E:Nat->List O->Prop}{Q:V->List O->Prop}(hk:KG ks keys=true)(hl:ks.length=values.length)(hle:ks.length<=15)
 (h:wpAny (model g.prog g.w) A (evalPairs (pairTrees keys values env pos)) (OU g (s.heap.push {cls:= .type "dict",data:= .dict #[]}) U ks (fun vs J=>vs.length=ks.length/\vs.length<=15/\∀ep,Q (.loc J.length) (J++[.dict ((ks.zip vs).foldl (fun m kv=>BB kv.1 kv.2 m) []) ep])))
  (VA g (s.heap.push {cls:= .type "dict",data:= .dict #[]}) U [] E) {s with heap:=s.heap.push {cls:= .type "dict",data:= .dict #[]}}):
 wpAny (model g.prog g.w) A (eval (.Dict keys values pos) env) (mA g s.heap U [] Q) (VA g s.heap U [] E) s:=by
 have hks:=nS hk
 have hnew:=S.new
 have hnr:s.heap.objs.size∉U:=fun m=>absurd (S.lt m) (Nat.lt_irrefl _)
 have fin:∀{UA:Shared} {HA:List O} {BA:List Addr} {kvs:List (List Nat×V)} {ps:List (Str×Value)},St g UA BA HA->s.heap.objs.size∉BA->(∃new,BA=U++new/\∀a∈new,s.heap.get? a=none)->(∀b o,s.heap.get? b=some o->b∉U->∃o',UA.heap.get? b=some o'/\zL o o')->KA s.heap UA.heap U BA []->
  UA.heap.DictOf (PySem.strKind g.prog g.w) s.heap.objs.size ps->cB g UA.heap BA kvs ps->kvs.length<=sizeLine->(∀ep,Q (.loc HA.length) (HA++[.dict kvs ep]))->mA g s.heap U [] Q (.ref s.heap.objs.size) UA:=by
  intro UA HA BA kvs ps XA hn _ _ T D rr hz q
  obtain⟨ep,D⟩:=D.dictAt
  refine pD (q ep) ⟨_,?_,rfl⟩ (XA.track (.dict kvs ep) hn hnew.1 hnew.2 ⟨ps,D,hz,cB.congr (fun u0 u0 t=>t) (fun l b e=>by rw[List.getElem?_append_left (List.getElem?_eq_some_iff.mp e).1];exact e) _ _ rr⟩) (T.track (bN (Nat.le_refl _)))
  rw[<-XA.len];exact fB ..
 by_cases h0:keys=[]
 ·subst h0
  have hv:values=[]:=by
   have:ks.length=0:=by rw[hks];rfl
   rw[this]at hl;exact List.length_eq_zero_iff.mp hl.symm
  have hkn:ks=[]:=List.length_eq_zero_iff.mp (by rw[hks];rfl)
  subst hv hkn
  refine fun Γ p Yb=>wpAny_Dict_empty (M:=model g.prog g.w) (A:=A) ?_ Γ p Yb
  have h':wpAny (model g.prog g.w) A (pure []) _ _ _:=h
  have h'':=uL h' ⟨Γ,Yb⟩
  obtain⟨mvs,HA,BA,⟨hl1,_,q⟩,r,DA,GA⟩:=h''
  have hm0:mvs=[]:=List.length_eq_zero_iff.mp hl1
  subst hm0
  have T:=(KA.pushU s.heap U {cls:= .type "dict",data:= .dict #[]}).trans GA
  have hn1:s.heap.objs.size∉BA:=GA.memIff (Heap.get?_push_size _ rfl) hnr
  exact fin DA hn1 T.pre (fun b o e n=>T.keep b o e n (fun m=>nomatch m)) T (kvs:=[]) (.new _) trivial (by simp) q
 ·refine wpAny_Dict_any (mS hk) (by rw[<-hks];exact hl) h0 (by rw[<-hks];exact hle) (wpAny_mono h (fun ps CA p=>?_) fun u0 u0 e=>VA.from (.pushU ..) e)
  obtain⟨mvs,HA,BA,⟨hl1,_,q⟩,r,DA,GA⟩:=p
  have hd0:(s.heap.push {cls:= .type "dict",data:= .dict #[]}).get? s.heap.objs.size=some {cls:= .type "dict",data:= .dict #[]}:=Heap.get?_push_size _ rfl
  have hn1:s.heap.objs.size∉BA:=GA.memIff hd0 hnr
  obtain⟨o',e',k⟩:=GA.keep _ _ hd0 hnr (fun m=>nomatch m)
  have:=k.eq (by decide) (by decide)
  subst this
  have D0:CA.heap.DictOf (PySem.strKind g.prog g.w) s.heap.objs.size []:=⟨_, #[],0,e',⟨rfl,rfl,rfl⟩,rfl,fun u0 he=>by simp at he,Pairs.nil,List.nodup_nil⟩
  refine fP DA hn1 hnew.1 (kvs:=[]) D0 trivial (nU hk) r (by show 0+ks.length<=100;exact qC hle) fun h' t XA hs ps' D rr hz=>?_
  have T0:=(KA.pushU s.heap U {cls:= .type "dict",data:= .dict #[]}).trans GA
  have T:KA s.heap h' U BA []:=by
   have ne:∀b o,s.heap.get? b=some o->b≠s.heap.objs.size:=fun b o e=>Nat.ne_of_lt (Heap.lt_size e)
   refine⟨T0.pre,fun b o e n1 n2=>?_,fun b o e n=>?_,fun b o e=>?_,fun a q=>?_⟩
   ·obtain⟨o',e',k⟩:=T0.keep b o e n1 n2
    exact⟨o',(hs.2 b (ne b o e)).trans e',k⟩
   ·obtain⟨o',e',k⟩:=T0.shape b o e n
    exact⟨o',(hs.2 b (ne b o e)).trans e',k⟩
   ·obtain⟨o',e'⟩:=T0.alive b o e
    exact⟨o',(hs.2 b (ne b o e)).trans e'⟩
   ·obtain⟨o,_,_,_,e,_⟩:=id q
    obtain⟨o',vs',tb',c',e',r,u,v⟩:=T0.tbs a q
    exact⟨o',vs',tb',c',(hs.2 a (ne a o e)).trans e',r,u,v⟩
  exact fin XA hn1 T.pre (fun b o e n=>T.keep b o e n (fun m=>nomatch m)) T D rr hz q
theorem yT{K:Frag}{C:Addr}(h:subIn K (.ref C) (.type "Exception")=some true){M:Model}{s:Shared}(X:K.In s.heap){a:Addr}{dx:Option Addr}{vs:Array Value}(ho:s.heap.get? a=some {cls:= .ref C,dict:=dx,data:= .fields vs}):Looks M s.heap (isInstance (.ref a) (.type "Exception")) true:=by
 intro A Q E s' k q
 exact wpAny_bind (wpAny_typeOf_ref (k _ _ ho) ((looks_subIn X h) A Q E s' k q))
theorem KP{C:Addr}{M:Model}{s:Shared}{E:Value->Shared->Prop}{whole:Bool}{sig:Manifest.Signature}{a:Addr}{dx:Option Addr}{vs:Array Value}{n:String}{Q:String->Shared->Prop}(hs:sig.receiver= .self)(ho:s.heap.get? a=some {cls:= .ref C,dict:=dx,data:= .fields vs})
 (hn:Looks M s.heap (typeNameWhole (.ref C)) n) (h:∀x,Q x s):wpAny M A (Bind.printed "*" whole sig (some (.ref a))) Q E s:=by
 unfold Bind.printed Bind.receiverType
 rw[if_neg (by decide),hs]
 refine wpAny_bind (m:=(if(Manifest.Receiver.self==Manifest.Receiver.cls)=true then pure (Value.ref a)else typeOf (Value.ref a))) ?_
 rw[if_neg (by decide)]
 exact wpAny_typeOf_ref ho (wpAny_bind (hn.here (wpAny_pure (h _))))
theorem yS{K:Frag}{C:Addr}(h:subIn K (.ref C) (.type "Exception")=some true)(hd:hasDictIn K C=true){M:Model}{s:Shared}(X:K.In s.heap){a:Addr}{dx:Option Addr}{vs:Array Value}(ho:s.heap.get? a=some {cls:= .ref C,dict:=dx,data:= .fields vs}){y:Value}{Q:Unit->Shared->Prop}{E:Value->Shared->Prop}(q:Q () s):
 wpAny M A (checkBuiltinCall "Exception.__init__" ⟨[.ref a,y],[]⟩) Q E s:=by
 have hc:=PyProof.Rows.excClass_Exception
 simp only[checkBuiltinCall,hc.initKind,hc.initSplit,hc.initSig]
 refine wpAny_bind ((yT h X ho).here ?_)
 simp only[Bool.not_true,Bool.false_eq_true,if_false]
 obtain⟨n,hn⟩:=mc_name (M:=M) X hd
 refine wpAny_bind (m:=Bind.printed "*" true _ _) (KP (a:=a) rfl ho hn fun full=>?_)
 refine wpAny_bind (m:=Bind.printed "Exception" false _ _) (PyProof.Rows.printed_name hc.notStar ?_)
 show wpAny M A (Sem.onRaise (Bind.check _ full "Exception" _ []) _) Q E s
 rw[PyProof.Rows.check_varPos]
 exact wpAny_pure q
theorem uV{vs:List V}{f f':Nat->List Nat->Prop}(k:∀l s,¬f l s->f' l s)(h:¬cT vs True f):cT vs False f':=by
 rcases vs with _ | ⟨a,r⟩
 ·exact h trivial
 ·induction a using V.casesOn with
  | loc l=>
    rcases r with _ | ⟨b,r⟩
    ·exact h trivial
    ·induction b using V.casesOn with
     | str s=>rcases r with _ | ⟨_,_⟩ <;>first | exact k _ _ h | exact h trivial
     | _=>exact h trivial
  | _=>exact h trivial
theorem uX{vs:List V}{f:Nat->List Nat->Prop}(h:cT vs False f):∃l s,vs=[.loc l, .str s]/\f l s:=by
 rcases vs with _ | ⟨a,r⟩
 ·exact h.elim
 ·induction a using V.casesOn with
  | loc l=>
    rcases r with _ | ⟨b,r⟩
    ·exact h.elim
    ·induction b using V.casesOn with
     | str s=>rcases r with _ | ⟨_,_⟩ <;>first | exact⟨l,s,rfl,h⟩ | exact h.elim
     | _=>exact h.elim
  | _=>exact h.elim
theorem CQ(Y:VC g)(C:Cx g A s U d hd)(S:St g s U J){pos:Pos}{pl:Sem Bool}{trees:List (Bool×Sem Value)}{Q:V->List O->Prop}{E:Nat->List O->Prop}(hp:trees.any (·.1)=false)
 (h:∀t,wpAny (model g.prog g.w) A (spliced trees) (DD g s.heap U (fun vs J=>cT vs False fun l u0=>((∃C dl,J[l]?=some (.exc C dl))\/∃C,J[l]?=some (.exc0 C))/\Q .none J)) (VA g s.heap U [] E) {s with toks:=t}):
 wpAny (model g.prog g.w) A (getMethod (.type "Exception") ⟨#[95,95,105,110,105,116,95,95]⟩ pl) (fun fm UA=>wpAny (model g.prog g.w) A (callWith pos fm.1 fm.2 trees []) (mA g s.heap U [] Q) (VA g s.heap U [] E) UA) (VA g s.heap U [] E) s:=by
 obtain⟨mg,hmg⟩:=Y.glob
 have F0:Fr ({objs:= #[]}:Heap) mainGlobals s.heap mg:=⟨hmg.keeps S.base,fun b o e=>by simp[Heap.get?]at e,Nat.zero_le _⟩
 have X0:Frag.In [] ({objs:= #[]}:Heap):=fun a o e=>by cases e
 have e1:findCls [] (.type "Exception") (.type "type") ⟨#[95,95,105,110,105,116,95,95]⟩=some (.val (.builtin "Exception.__init__")):=by kernel_rfl
 refine method_type F0 X0 (by rfl) (by decide+kernel) e1 (by decide+kernel) ?_
 refine PySem.Calls.callWith_builtin hp (BH hp (wpAny_mono (h _) (fun xs CA p=>?_) fun u0 u0 e=>e))
 obtain⟨mvs,HA,BA,q,r,DA,GA⟩:=p
 obtain⟨l,sx,rfl,hex,hq⟩:=uX q
 obtain⟨x,y,rfl,⟨a,ha,rfl⟩,⟨ty,rfl,_⟩⟩:=r.two
 have hob:∃Cl xo dxo vs,HA[l]?=some xo/\JU Cl=true/\CA.heap.get? a=some {cls:= .ref Cl,dict:=dxo,data:= .fields vs}/\wP g CA.heap vs/\(∀h' vs',vs'.size=vs.size->vs'[1]?=vs[1]?->h'.get? a=some {cls:= .ref Cl,dict:=dxo,data:= .fields vs'}->wP g h' vs'->bF g h' BA a xo):=by
  rcases hex with⟨Cl,dl,hl⟩ | ⟨Cl,hl⟩
  ·obtain⟨hx,dx,vs,hdx,ho,tb⟩:=DA.objs l a _ ha hl
   exact⟨Cl,_,some dx,vs,hl,hx,ho,tb,fun h' vs' u0 u0 e t=>⟨hx,dx,vs',hdx,e,t⟩⟩
  ·obtain⟨hx,vs,ho,t1,t2⟩:=DA.objs l a _ ha hl
   exact⟨Cl,_,none,vs,hl,hx,ho,⟨t1, .inl t2⟩,fun h' vs' z1 z2 e u0=>⟨hx,vs',e,by rw[z1];exact t1,by rw[z2];exact t2⟩⟩
 obtain⟨Cl,xo,dxo,vs,hl,hx,ho,⟨tb1,tb2⟩,hrep⟩:=hob
 have Jf:g.K.In CA.heap:=Y.K.keeps DA.base
 have hc:=PyProof.Rows.excClass_Exception
 show wpAny _ A (call (.builtin "Exception.__init__") [.ref a, .str ⟨sx.toArray⟩ ty]) _ _ CA
 refine wpAny_call (codeAny_call_builtin hc.init.plain hc.initEntry (yS (Y.exc Cl hx).2.1.1 (Y.exc Cl hx).2.1.2 Jf ho ?_))
 unfold Builtin.«BaseException.__init__»
 dsimp only
 rw[if_neg (by simp)]
 have bR:=Heap.get?_push_of_some (h:=CA.heap) {cls:= .type "tuple",data:= .seq #[.str ⟨sx.toArray⟩ ty]} ho
 refine wpAny_bind (wpAny_newObj_type (wpAny_bind (wpAny_bind (wpAny_field bR rfl (x:=vs[0]) (by simp) (wpAny_bind (wpAny_setField bR rfl (by exact qC tb1) ?_))))) (by show 1<=sizeLine;rw[LA];exact Nat.le_add_left _ _))
 have hne:a≠CA.heap.objs.size:=Nat.ne_of_lt (DA.lt (List.mem_of_getElem? ha))
 have XA:=DA.pushU {cls:= .type "tuple",data:= .seq #[.str ⟨sx.toArray⟩ ty]}
 have hself:=Heap.get?_update_self (Obj.mapFields (·.setIfInBounds 0 (Value.ref CA.heap.objs.size))) bR rfl
 have hv1:∀x,(vs.setIfInBounds 0 (Value.ref CA.heap.objs.size))[1]?=some x↔vs[1]?=some x:=fun x=>by rw[Array.getElem?_setIfInBounds_ne (by exact Nat.ne_of_lt (Nat.lt_succ_self _))]
 have tb:wP g ((CA.heap.push {cls:= .type "tuple",data:= .seq #[.str ⟨sx.toArray⟩ ty]}).update a (Obj.mapFields (·.setIfInBounds 0 (Value.ref CA.heap.objs.size)))) (vs.setIfInBounds 0 (Value.ref CA.heap.objs.size)):=by
  refine⟨by rw[Array.size_setIfInBounds];exact tb1,?_⟩
  rcases tb2 with q | ⟨tb,o,e,f,q,z⟩
  ·exact .inl ((hv1 _).mpr q)
  ·refine .inr ⟨tb,o,(hv1 _).mpr e,f,?_,z⟩
   have hta:tb≠a:=fun h=>by subst h;rw[ho]at q;cases q;cases z.1
   exact(Heap.get?_update_other _ _ (Ne.symm hta)).trans (Heap.get?_push_of_some _ q)
 have KB:=XA.update ha (Heap.SameBut.update _ a (Obj.mapFields (·.setIfInBounds 0 (Value.ref CA.heap.objs.size)))) (x':=xo) (hrep _ _ (by rw[Array.size_setIfInBounds]) (by rw[Array.getElem?_setIfInBounds_ne (by exact Nat.ne_of_lt (Nat.lt_succ_self _))]) hself tb) CA.toks
 rw[ZP hl]at KB
 have GB:KA s.heap ((CA.heap.push {cls:= .type "tuple",data:= .seq #[.str ⟨sx.toArray⟩ ty]}).update a (Obj.mapFields (·.setIfInBounds 0 (Value.ref CA.heap.objs.size)))) U BA []:=(GA.trans (.pushU ..)).trans (KA.update ha (Heap.SameBut.update ..) (fun o e=>⟨_,hself⟩) fun⟨o',vs',tb',c',q1,q2,q3,q4⟩=>by
  rw[bR]at q1;cases q1;cases q3
  exact⟨_,_,tb',_,hself,rfl,rfl,(hv1 _).mpr q4⟩)
 have fin:mA g s.heap U [] Q .none {CA with heap:=(CA.heap.push {cls:= .type "tuple",data:= .seq #[.str ⟨sx.toArray⟩ ty]}).update a (Obj.mapFields (·.setIfInBounds 0 (Value.ref CA.heap.objs.size)))}:=pD hq rfl KB GB
 generalize vs[0]=y
 induction y using Value.casesOn <;>first | exact wpAny_letGo (wpAny_pure fin) | exact wpAny_pure (wpAny_pure fin)
theorem QP{h:Heap}:∀(ls:List (List Nat)) (l:List (Str×Tok)),l.map (·.1)=ls.map (fun x=>(⟨x.toArray⟩:Str))->(∀x∈ls,x.length<=sizeLine/\∀c∈x,c < 0x110000)->MA g h U (ls.map .str) (strValues l)
 | [],[],_,_=>trivial
 | x::ls,p::l,e,k=>by
   simp only[List.map_cons,List.cons.injEq]at e
   obtain⟨p1,p2⟩:=p
   have:p1=⟨x.toArray⟩:=e.1
   subst this
   exact⟨⟨p2,rfl,(k x (.head _)).1,(k x (.head _)).2⟩,QP ls l e.2 fun y m=>k y (List.mem_cons_of_mem _ m)⟩
 | [],_::_,e,_=>by simp at e
 | _::_,[],e,_=>by simp at e
theorem OY{h:Heap}:∀{vs:List V} {ss:List (List Nat)} {xs:List Value},iC vs=some ss->MA g h U vs xs->StrsAre xs (ss.map fun x=>(⟨x.toArray⟩:Str))/\∀x∈ss,∀c∈x,c < 0x110000:=by
 intro vs
 induction vs with
 | nil=>intro ss xs e r;cases e;induction xs using List.casesOn with
   | nil=>exact⟨.nil,fun u0 m=>nomatch m⟩
   | cons _ _=>exact r.elim
 | cons v vs ih=>intro ss xs e r;induction xs using List.casesOn with
   | nil=>exact r.elim
   | cons x xs=>induction v using V.casesOn with
     | str s=>
       obtain⟨⟨t,rfl,_,hc⟩,rr⟩:=r
       obtain⟨m,q,rfl⟩:=Option.map_eq_some_iff.mp (e)
       obtain⟨h1,h2⟩:=ih q rr
       refine⟨.cons _ t h1,fun y hm=>?_⟩
       rcases List.mem_cons.mp hm with rfl | hm
       ·exact hc
       ·exact h2 y hm
     | _=>exact eE e
theorem lM(sep:List Nat):∀(ss:List (List Nat)) (c:Nat),c∈dA sep ss->(∀c∈sep,c < 0x110000)->(∀x∈ss,∀c∈x,c < 0x110000)->c < 0x110000
 | [],c,m,_,_=>by simp[dA.r1,dA.r2,dA.r3]at m
 | [x],c,m,_,h=>h x (.head _) c m
 | x::y::r,c,m,h1,h2=>by
   (first | rw[dA.r1]at m | rw[dA.r2]at m | rw[dA.r3]at m)
   rcases List.mem_append.mp m with m | m
   ·rcases List.mem_append.mp m with m | m
    ·exact h2 x (.head _) c m
    ·exact h1 c m
   ·exact lM sep (y::r) c m h1 fun z hz=>h2 z (List.mem_cons_of_mem _ hz)
theorem TV{x:List Nat}{c:Nat}(m:c∈x):PySem.Builtin.Str.strKind ⟨[c].toArray⟩<=PySem.Builtin.Str.strKind ⟨x.toArray⟩:=by
 unfold PySem.Builtin.Str.strKind
 have h1:(⟨x.toArray⟩:Str).cps.all (· < 256)=x.all (· < 256):=by simp
 have h2:(⟨x.toArray⟩:Str).cps.all (· < 65536)=x.all (· < 65536):=by simp
 have h3:(⟨[c].toArray⟩:Str).cps.all (· < 256)=decide (c < 256):=by simp
 have h4:(⟨[c].toArray⟩:Str).cps.all (· < 65536)=decide (c < 65536):=by simp
 rw[h1,h2,h3,h4]
 by_cases a:c < 256
 ·simp only[a,decide_true,if_true];split <;>(try split) <;>(first | exact Nat.le_refl _ | exact Nat.le_add_left _ _)
 ·have:x.all (· < 256)=false:=by
   rw[List.all_eq_false];exact⟨c,m,by simpa using a⟩
  rw[this]
  simp only[a,decide_false,Bool.false_eq_true,if_false]
  by_cases b:c < 65536
  ·simp only[b,decide_true,if_true];split <;>(first | exact Nat.le_refl _ | exact Nat.le_add_left _ _)
  ·have:x.all (· < 65536)=false:=by
    rw[List.all_eq_false];exact⟨c,m,by simpa using b⟩
   rw[this]
   simp[b]
theorem bQ(Y:VC g)(C:Cx g A s U d hd)(S:St g s U J){x n:List Nat}{a:Value}{pos:Pos}{pl:Sem Bool}{trees:List (Bool×Sem Value)}{Q:V->List O->Prop}{E:Nat->List O->Prop}(ra:SA g s.heap U (.str x) a)(hn:n∈eG)(hp:trees.any (·.1)=false)
 (h:wpAny (model g.prog g.w) A (spliced trees) (DD g s.heap U (fun vs J=>sA J x n vs Q)) (VA g s.heap U [] E) s):
 wpAny (model g.prog g.w) A (getMethod a ⟨n.toArray⟩ pl) (fun fm UA=>wpAny (model g.prog g.w) A (callWith pos fm.1 fm.2 trees []) (mA g s.heap U [] Q) (VA g s.heap U [] E) UA) (VA g s.heap U [] E) s:=by
 obtain⟨tx,rfl,hz,hcp⟩:=ra
 have core:∀{id:String},(∀xs mvs CA BA HA,sA HA x n mvs Q->MA g CA.heap BA mvs xs->St g CA BA HA->wpAny (model g.prog g.w) A (call (.builtin id) (.str ⟨x.toArray⟩ tx::xs)) (mA g CA.heap BA [] Q) (VA g s.heap U [] E) CA)->
  wpAny (model g.prog g.w) A (callWith pos (.builtin id) [.str ⟨x.toArray⟩ tx] trees []) (mA g s.heap U [] Q) (VA g s.heap U [] E) s:=by
  intro id k
  refine PySem.Calls.callWith_builtin hp (BH hp (wpAny_mono h (fun xs CA p=>?_) fun u0 u0 e=>e))
  obtain⟨mvs,HA,BA,q,r,DA,GA⟩:=p
  exact wpAny_mono (k xs mvs CA BA HA q r DA) (fun u0 u0 p=>p.from GA) fun u0 u0 e=>e
 simp only[eG,List.mem_cons,List.not_mem_nil,or_false]at hn
 rcases hn with rfl | rfl | rfl | rfl
 ·have e:(⟨[102,105,110,100].toArray⟩:Str)="find":=by decide
  rw[e]
  refine PySem.GM.find (core fun xs mvs CA BA HA q r DA=>?_)
  unfold sA at q
  rw[if_pos rfl]at q
  rcases mvs with _ | ⟨v,_ | ⟨w,mvs⟩⟩
  ·exact q.elim
  ·obtain⟨c,rfl,q⟩:=cI q
   obtain⟨y,rfl,t,rfl,_⟩:=r.one
   refine PySem.SC.find ?_
   rw[show PySem.Txt.find ⟨x.toArray⟩ ⟨[c].toArray⟩=vD x c 0 from FP x c 0]
   exact MD DA q ⟨_,rfl⟩ _
  ·obtain⟨c,rfl,q2⟩:=cI q
   obtain⟨w,e,q3⟩:=cF q2
   clear q q2
   cases e
   obtain⟨i,rfl,hi,hi2,q⟩:=eN q3
   obtain⟨y,z,rfl,⟨t,rfl,_⟩,⟨u,rfl⟩⟩:=r.two
   refine PySem.SC.find3 ?_
   have hf:fromIndex (⟨x.toArray⟩:Str).length i=i.toNat:=by
    unfold fromIndex
    rw[TB]
    rw[if_neg (Int.not_lt.mpr hi),Int.max_eq_right hi]
   rw[show PySem.Txt.find3 ⟨x.toArray⟩ ⟨[c].toArray⟩ i=vD x c i.toNat from by unfold PySem.Txt.find3;rw[hf];exact FP x c i.toNat]
   exact MD DA q ⟨_,rfl⟩ _
 ·have e:(⟨[106,111,105,110].toArray⟩:Str)="join":=by decide
  rw[e]
  refine PySem.GM.join (core fun xs mvs CA BA HA q r DA=>?_)
  unfold sA at q
  rw[if_neg (by decide),if_pos rfl]at q
  ·obtain⟨v,rfl,q⟩:=cF q
   obtain⟨l,rfl,ys,ss,hl,hs,h1,h2,q⟩:=uR q
   obtain⟨y,rfl,a,ha,rfl⟩:=r.one
   obtain⟨a',os,m,ha',ho,hz',rr⟩:=DA.list hl
   rw[ha]at ha';cases ha'
   obtain⟨hstrs,hcp'⟩:=OY hs rr
   refine join_list (vC ho) hstrs ?_ fun t' k=>?_
   ·rw[List.length_map,TB,List.map_map]
    have:((fun s:Str=>s.length)∘fun x:List Nat=>(⟨x.toArray⟩:Str))=List.length:=by funext x;exact TB x
    rw[this];exact h1
   ·rw[bW]
    refine MD DA q ⟨t',rfl,h2,fun c m=>?_⟩ _
    exact lM x ss c m hcp hcp'
 ·have e:(⟨[99,111,117,110,116].toArray⟩:Str)="count":=by decide
  rw[e]
  refine PySem.GM.count (core fun xs mvs CA BA HA q r DA=>?_)
  unfold sA at q
  rw[if_neg (by decide),if_neg (by decide),if_pos rfl]at q
  ·obtain⟨v,rfl,q⟩:=cF q
   obtain⟨c,rfl,q⟩:=cI q
   obtain⟨y,rfl,t,rfl,_⟩:=r.one
   refine PySem.SC.count ?_
   have:=AU x c
   rw[this]
   exact MD DA q ⟨_,rfl⟩ _
 ·have e:(⟨[115,112,108,105,116].toArray⟩:Str)="split":=by decide
  rw[e]
  refine PySem.GM.split (core fun xs mvs CA BA HA q r DA=>?_)
  unfold sA at q
  rw[if_neg (by decide),if_neg (by decide),if_neg (by decide),if_pos rfl]at q
  ·obtain⟨v,rfl,q⟩:=cF q
   obtain⟨c,rfl,hx,q⟩:=cI q
   obtain⟨y,rfl,t,rfl,_⟩:=r.one
   have hok:∀y∈fA c x,y.length<=sizeLine/\∀d∈y,d < 0x110000:=fun y m=>by
    obtain⟨h1,h2⟩:=tF c x y m
    exact⟨Nat.le_trans h1 hz,fun d hd=>hcp d (h2 d hd)⟩
   have fin:∀(l:List (Str×Tok)) (k:Nat),l.map (·.1)=(fA c x).map (fun x=>(⟨x.toArray⟩:Str))->mA g CA.heap BA [] Q (.ref CA.heap.objs.size) {CA with heap:=CA.heap.push {cls:= .type "list",data:= .seq (strValues l).toArray},toks:=k}:=by
    intro l k e
    refine pD q ⟨_,?_,rfl⟩ ((DA.pushT _ (.list ((fA c x).map .str)) rfl ⟨(strValues l).toArray,0,Heap.get?_push_size _ rfl,?_,?_⟩).toks k) (.pushT ..)
    ·rw[<-DA.len];exact fB ..
    ·have:=iH c x
     rw[List.length_map];lia
    ·exact QP _ _ e hok
   have hy:((⟨[c].toArray⟩:Str).length==0)=false:=rfl
   cases h1:(decide ((⟨x.toArray⟩:Str).length < (⟨[c].toArray⟩:Str).length)||decide (PySem.Builtin.Str.strKind ⟨x.toArray⟩ < PySem.Builtin.Str.strKind ⟨[c].toArray⟩))
   ·cases hf:(occurrences ⟨x.toArray⟩ ⟨[c].toArray⟩ 0 (⟨x.toArray⟩:Str).length ((⟨x.toArray⟩:Str).length+1)).isEmpty
    ·have hp:partsBetween ⟨x.toArray⟩ (occurrences ⟨x.toArray⟩ ⟨[c].toArray⟩ 0 (⟨x.toArray⟩:Str).length ((⟨x.toArray⟩:Str).length+1)) (⟨[c].toArray⟩:Str).length=(fA c x).map fun l=>(⟨l.toArray⟩:Str):=by
      have:=pN x c
      show partsBetween _ (occurrences ⟨x.toArray⟩ ⟨#[c]⟩ 0 _ _) (⟨#[c]⟩:Str).length=_
      rw[this];exact zJ x c
     refine call_meets PySem.F.slot_str_split (typeIs_str _ _ _) PySem.F.entry_str_split (PySem.F.args_str_split_2 _ _) (meets_str_split_sep _ _ tx t h1 hy hf (by rw[TB];exact hz) ?_) ?_
     ·rw[hp,List.length_map];have:=iH c x;rw[LA];exact(rC this hx)
     ·show wants _ _ _ {CA with toks:=_,heap:=CA.heap.push {cls:= .type "list",data:= .seq (strsFrom CA.toks (partsBetween ⟨x.toArray⟩ (occurrences ⟨x.toArray⟩ ⟨[c].toArray⟩ 0 (⟨x.toArray⟩:Str).length ((⟨x.toArray⟩:Str).length+1)) (⟨[c].toArray⟩:Str).length)).toArray}}
      rw[strsFrom_eq,hp]
      exact fin _ _ (numbered_texts _ _)
    ·refine call_meets PySem.F.slot_str_split (typeIs_str _ _ _) PySem.F.entry_str_split (PySem.F.args_str_split_2 _ _) (meets_str_split_not_found _ _ tx t h1 hy hf) (fin [(⟨x.toArray⟩,tx)] CA.toks ?_)
     rw[iJ x c (JV ?_)]; · rfl
     have:=pN x c
     have hf':(occurrences ⟨x.toArray⟩ ⟨#[c]⟩ 0 (⟨x.toArray⟩:Str).length ((⟨x.toArray⟩:Str).length+1)).isEmpty=true:=hf
     rw[this]at hf'
     exact List.isEmpty_iff.mp hf'
   ·refine call_meets PySem.F.slot_str_split (typeIs_str _ _ _) PySem.F.entry_str_split (PySem.F.args_str_split_2 _ _) (meets_str_split_cannot_occur _ _ tx t h1) (fin [(⟨x.toArray⟩,tx)] CA.toks ?_)
    rw[iJ x c ?_]; · rfl
    intro m
    simp only[Bool.or_eq_true,decide_eq_true_eq]at h1
    rcases h1 with h1 | h1
    ·rw[TB,TB]at h1
     have:=List.length_pos_of_mem m
     simp at h1;rw[h1]at m;cases m
    ·exact absurd h1 (Nat.not_lt.mpr (TV m))
theorem MA.cons1{h:Heap}{v:V}{vs:List V}{xs:List Value}(r:MA g h U (v::vs) xs):Bg g h U v vs xs:=by
 match xs,r with
 | x::r',⟨a,b⟩=>exact⟨x,r',rfl,a,b⟩
theorem MA.cons2{h:Heap}{v w:V}{vs:List V}{xs:List Value}(r:MA g h U (v::w::vs) xs):Df g h U v w vs xs:=by
 match xs,r with
 | x::y::r',⟨a,b,c⟩=>exact⟨x,y,r',rfl,a,b,c⟩
theorem xO(Y:VC g)(C:Cx g A s U d hd)(S:St g s U J){l:Nat}{fW:List V}{a:Addr}{n:List Nat}{pos:Pos}{pl:Sem Bool}{trees:List (Bool×Sem Value)}{Q:V->List O->Prop}{E:Nat->List O->Prop}(hl:J[l]?=some (.list fW))(ha:U[l]?=some a)(hn:n∈RF)(hp:trees.any (·.1)=false)
 (h:wpAny (model g.prog g.w) A (spliced trees) (DD g s.heap U (fun vs J=>∃xs,rA J l=some xs/\XB J l xs n vs Q)) (VA g s.heap U [] E) s):
 wpAny (model g.prog g.w) A (getMethod (.ref a) ⟨n.toArray⟩ pl) (fun fm UA=>wpAny (model g.prog g.w) A (callWith pos fm.1 fm.2 trees []) (mA g s.heap U [] Q) (VA g s.heap U [] E) UA) (VA g s.heap U [] E) s:=by
 have core:∀{id:String},(∀xs mvs ws CA BA HA os m,BA[l]?=some a->rA HA l=some ws->CA.heap.get? a=some {cls:= .type "list",data:= .seq os m}->ws.length<=2^30->MA g CA.heap BA ws os.toList->XB HA l ws n mvs Q->MA g CA.heap BA mvs xs->St g CA BA HA->
  wpAny (model g.prog g.w) A (call (.builtin id) (.ref a::xs)) (mA g CA.heap BA [] Q) (VA g s.heap U [] E) CA)->
  wpAny (model g.prog g.w) A (callWith pos (.builtin id) [.ref a] trees []) (mA g s.heap U [] Q) (VA g s.heap U [] E) s:=by
  intro id k
  refine PySem.Calls.callWith_builtin hp (BH hp (wpAny_mono h (fun xs CA p=>?_) fun u0 u0 e=>e))
  obtain⟨mvs,HA,BA,⟨ws,hw,q⟩,r,DA,GA⟩:=p
  obtain⟨a',os,m,ha',ho,hz,rr⟩:=DA.list hw
  rw[GA.loc _ _ ha]at ha';cases ha'
  exact wpAny_mono (k xs mvs ws CA BA HA os m (GA.loc _ _ ha) hw ho hz rr q r DA) (fun u0 u0 p=>p.from GA) fun u0 u0 e=>e
 obtain⟨yf,Rg,mO,_⟩:=S.objs l a _ ha hl
 have fin:∀{CA:Shared} {BA:List Addr} {HA:List O} {os os':Array Value} {m m':Nat} {ws':List V} {v:V} {x:Value} {h':Heap},St g CA BA HA->BA[l]?=some a->CA.heap.get? a=some {cls:= .type "list",data:= .seq os m}->Heap.SameBut a CA.heap h'->h'.get? a=some {cls:= .type "list",data:= .seq os' m'}->
  MA g CA.heap BA ws' os'.toList->SA g CA.heap BA v x->ws'.length<=2^30->Q v (HA.set l (.list ws'))->mA g CA.heap BA [] Q x {CA with heap:=h'}:=by
  intro CA BA HA os os' m m' ws' v x h' DA WE ho hs ho' rr rv hz q
  have GA:KA CA.heap h' BA BA []:=KA.update WE hs (fun o e=>⟨_,ho'⟩) fun⟨o',vs',tb',c',q1,q2,_,_⟩=>by rw[ho]at q1;cases q1;cases q2
  exact pD q (rv.step0 DA GA) (DA.update WE hs (x':= .list ws') ⟨os',m',ho',hz,rr.step0 DA GA⟩ CA.toks) GA
 simp only[RF,List.mem_cons,List.not_mem_nil,or_false]at hn
 have big:∀{n:Nat},n<=100001->n<=sizeLine:=fun h=>by rw[LA];exact kC h
 have gm:∀{nm:Str} {id:String} {R:Value×List Value->Shared->Prop} {E':Value->Shared->Prop},Slot "list" nm id->typeOf (.builtin id)=pure (.type "method_descriptor")->R (.builtin id,[.ref a]) s->wpAny (model g.prog g.w) A (getMethod (.ref a) nm pl) R E' s:=
  fun sl ty h=>getMethod_builtin (oL mO) PySem.F.plainAttrs_list sl ty (fun b e=>by cases e;exact⟨_,mO,rfl⟩) h
 rcases hn with rfl | rfl | rfl | rfl
 ·have e:(⟨[97,112,112,101,110,100].toArray⟩:Str)="append":=by decide
  rw[e]
  refine gm PySem.F.slot_list_append PySem.F.type_list_append (core fun xs mvs ws CA BA HA os m WE hw ho hz rr q r DA=>?_)
  have hlen:=rr.len
  rw[Array.length_toList]at hlen
  unfold XB at q
  rw[if_pos rfl]at q
  ·obtain⟨v,rfl,h1,q⟩:=cF q
   obtain⟨x,rfl,rv⟩:=r.one
   refine append_at ho (fun h' hs ho'=>?_) (big (by exact rC h1 (eL hlen)))
   exact fin DA WE ho hs ho' (by rw[Array.toList_push];exact rr.append ⟨rv,trivial⟩) (v:= .none) rfl (by simp;exact kC h1) q
 ·have e:(⟨[101,120,116,101,110,100].toArray⟩:Str)="extend":=by decide
  rw[e]
  refine gm PySem.F.slot_list_extend PySem.F.type_list_extend (core fun xs mvs ws CA BA HA os m WE hw ho hz rr q r DA=>?_)
  have hlen:=rr.len
  rw[Array.length_toList]at hlen
  unfold XB at q
  rw[if_neg (by decide),if_pos rfl]at q
  ·obtain⟨v,rfl,q⟩:=cF q
   obtain⟨y,rfl,ys,hy,hne,h1,q⟩:=uR q
   obtain⟨x,rfl,b,hb,rfl⟩:=r.one
   obtain⟨b',os2,m2,hb',ho2,hz2,rr2⟩:=DA.list hy
   rw[hb]at hb';cases hb'
   have hlen2:=rr2.len
   rw[Array.length_toList]at hlen2
   refine call_meets PySem.F.slot_list_extend (oL ho) PySem.F.entry_list_extend (PySem.F.args_list_extend_2 _ _) (PySem.AutoSeq1.list_extend_list_list_0 a os m b os2 m2 ?_ (big (by exact rC h1 (eL hlen))) (by have:=big (n:=os.size+os2.size) (by exact qP (eL hlen2) h1 (eL hlen));exact kC this)) ⟨ho,ho2,?_⟩
   ·have:Builtin.List.listTooLong (os.size+os2.size)=false:=by
     unfold Builtin.List.listTooLong
     have:=big (n:=os.size+os2.size) (by exact qP (eL hlen2) h1 (eL hlen))
     simp;assumption
    rw[this];simp
   ·have hself:=Heap.get?_update_self (Obj.mapSeq fun x=>x++os2) ho rfl
    exact fin DA WE ho (Heap.SameBut.update ..) hself (by rw[Array.toList_append];exact rr.append rr2) (v:= .none) rfl (by simp;exact kC h1) q
 ·have e:(⟨[112,111,112].toArray⟩:Str)="pop":=by decide
  rw[e]
  refine gm PySem.F.slot_list_pop PySem.F.type_list_pop (core fun xs mvs ws CA BA HA os m WE hw ho hz rr q r DA=>?_)
  have hlen:=rr.len
  rw[Array.length_toList]at hlen
  unfold XB at q
  rw[if_neg (by decide),if_neg (by decide),if_pos rfl]at q
  ·obtain⟨v,rfl,rfl,q2⟩:=cF q
   clear q
   rcases ws with _ | ⟨x0,_ | ⟨y0,rest⟩⟩
   ·exact(show False from q2).elim
   ·exact(show False from q2).elim
   ·obtain⟨x,rfl,t,rfl⟩:=r.one
    obtain⟨h1,q⟩:=q2
    obtain⟨xa,ya,ra,e1,rx,ry,rr'⟩:=MA.cons2 rr
    have eo:os=(xa::ya::ra).toArray:=by rw[<-e1,Array.toArray_toList]
    subst eo
    have hself:=Heap.get?_update_self (Obj.mapSeq fun xs=>xs.eraseIdxIfInBounds 1) ho rfl
    have hsz:(xa::ya::ra).toArray.size=ra.length+2:=by simp
    refine call_meets PySem.F.slot_list_pop (oL ho) PySem.F.entry_list_pop (PySem.F.args_list_pop_2 _ _) (PySem.MeetsSeq.list_pop_at a _ m 1 t 1 ya (by decide) ?_ (by simp) ?_) ⟨ho,?_⟩
    ·unfold seqIndex?;rw[hsz];simp;lia
    ·rw[hsz];have:=rr'.len;rw[LA];exact(rC (eL this) h1)
    ·refine fin DA WE ho (Heap.SameBut.update ..) hself ?_ ry (by simp at hz ⊢;exact kC hz) q
     have:((xa::ya::ra).toArray.eraseIdxIfInBounds 1).toList=xa::ra:=by simp[Array.eraseIdxIfInBounds]
     rw[this];exact⟨rx,rr'⟩
 ·have e:(⟨[105,110,115,101,114,116].toArray⟩:Str)="insert":=by decide
  rw[e]
  refine gm PySem.F.slot_list_insert PySem.F.type_list_insert (core fun xs mvs ws CA BA HA os m WE hw ho hz rr q r DA=>?_)
  have hlen:=rr.len
  rw[Array.length_toList]at hlen
  unfold XB at q
  rw[if_neg (by decide),if_neg (by decide),if_neg (by decide),if_pos rfl]at q
  ·obtain⟨w,v,rfl,rfl,q2⟩:=BR q
   clear q
   rcases ws with _ | ⟨x0,rest⟩
   ·exact(show False from q2).elim
   ·obtain⟨x,y,rfl,⟨t,rfl⟩,rv⟩:=r.two
    obtain⟨h1,q⟩:=q2
    obtain⟨xa,ra,e1,rx,rr'⟩:=MA.cons1 rr
    have eo:os=(xa::ra).toArray:=by rw[<-e1,Array.toArray_toList]
    subst eo
    have hself:=Heap.get?_update_self (Obj.mapSeq fun xs:Array Value=>have k:=if(1:Int) < 0 then((1:Int)+(xs.size:Int)).toNat else min (1:Int).toNat xs.size;(xs.extract 0 k).push y++xs.extract k) ho rfl
    have hl2:=rr'.len
    refine call_meets PySem.F.slot_list_insert (oL ho) PySem.F.entry_list_insert (PySem.F.args_list_insert_3 _ _ _) (PySem.AutoSeq1.list_insert_list_int_val_1 a _ m 1 t y (by decide) (by simp;rw[LA];exact rC (eL hl2) h1)) ⟨ho,?_⟩
    refine fin DA WE ho (Heap.SameBut.update ..) hself ?_ (v:= .none) rfl (by simp;exact kC h1) q
    have:((((xa::ra).toArray.extract 0 (min 1 (xa::ra).toArray.size)).push y)++(xa::ra).toArray.extract (min 1 (xa::ra).toArray.size)).toList=xa::y::ra:=by simp
    show MA g CA.heap BA _ ((((xa::ra).toArray.extract 0 (min 1 (xa::ra).toArray.size)).push y)++(xa::ra).toArray.extract (min 1 (xa::ra).toArray.size)).toList
    rw[this];exact⟨rx,rv,rr'⟩
theorem UO(Y:VC g)(C:Cx g A s U d hd)(S:St g s U J){l:Nat}{fW:List (List Nat×V)}{a:Addr}{n:List Nat}{pos:Pos}{pl:Sem Bool}{trees:List (Bool×Sem Value)}{Q:V->List O->Prop}{E:Nat->List O->Prop}{ep:Nat}(hl:J[l]?=some (.dict fW ep))(ha:U[l]?=some a)(hn:n∈KF)(hp:trees.any (·.1)=false)
 (h:wpAny (model g.prog g.w) A (spliced trees) (DD g s.heap U (fun vs J=>∃xs,dictAt J l=some xs/\NE J l xs n vs Q)) (VA g s.heap U [] E) s):
 wpAny (model g.prog g.w) A (getMethod (.ref a) ⟨n.toArray⟩ pl) (fun fm UA=>wpAny (model g.prog g.w) A (callWith pos fm.1 fm.2 trees []) (mA g s.heap U [] Q) (VA g s.heap U [] E) UA) (VA g s.heap U [] E) s:=by
 simp only[KF,List.mem_cons,List.not_mem_nil,or_false]at hn
 subst hn
 obtain⟨DZ,Ff,_⟩:=S.objs l a _ ha hl
 have e:(⟨[112,111,112].toArray⟩:Str)="pop":=by decide
 rw[e]
 obtain⟨td,uf,mO,Nc,_⟩:=Ff
 refine getMethod_builtin (T:="dict") ⟨td,mO,Nc.1⟩ PySem.F.plainAttrs_dict PySem.F.slot_dict_pop PySem.F.type_dict_pop (fun b e=>by cases e;exact⟨_,mO,Nc.2.1⟩) ?_
 refine PySem.Calls.callWith_builtin hp (BH hp (wpAny_mono h (fun xs CA p=>?_) fun u0 u0 e=>e))
 obtain⟨mvs,HA,BA,⟨kvs,hk,q⟩,r,DA,GA⟩:=p
 unfold NE at q
 rw[if_pos rfl]at q
 ·obtain⟨v,w,rfl,rfl,q2⟩:=BR q
  clear q
  obtain⟨k,rfl,h0,q⟩:=LY q2
  obtain⟨x,y,rfl,⟨t,rfl,_⟩,ry⟩:=r.two
  subst ry
  obtain⟨a',ps,ha',D,hz,rr⟩:=DA.dict hk
  rw[GA.loc _ _ ha]at ha';cases ha'
  have hv:=jD rr k
  rw[h0]at hv
  have hv':valueAt ps (⟨k.toArray⟩:Str)=none:=by
   induction q:valueAt ps (⟨k.toArray⟩:Str)using Option.casesOn with
   | none=>rfl
   | some x=>rw[q]at hv;exact hv.elim
  have fin:mA g s.heap U [] Q .none {CA with toks:=CA.toks+1}:=pD q rfl (DA.toks _) GA
  refine call_meetsIn PySem.F.slot_dict_pop D.mapOf.typeIs PySem.F.entry_dict_pop (PySem.F.args_dict_pop_3 _ _ _) (meets_dict_pop_default (PySem.strKind g.prog g.w) a (fD k t) (ZG Y DA (GA.loc _ _ ha)) rfl .none) ⟨ps,D,hv',fin⟩
end
end
section
variable{g:G}{A:Around}{d:Nat}{hd:Option Nat}{c:CC}{env:Env}
theorem pG{id:Str}(h:bG id=true):(id==("__debug__":Str))=false/\(id==("__classdict__":Str))=false:=by
 unfold bG at h
 simpa using h
theorem OV{i:Nat}{id:Str}(h:c.isVar i id=true):c.nm[i]?=some id.cps.toList/\bG id=true:=by
 unfold CC.isVar at h
 simp only[Bool.and_eq_true,beq_iff_eq]at h
 exact h.1
theorem DR{id:Str}{v:Value}{s:Shared}{U:List Addr}{J:List O}(Y:VC g)(S:St g s U J)(hK:g.K=c.K)(hs:env.scope.names=c.sc.names)(F:env.scope.kind= .function)(hg:env.globals=mainGlobals)(hb:env.builtins=builtinsNs)(h:c.isGlob v id=true)
 {pos:Pos} {Q:Value->Shared->Prop} {E:Value->Shared->Prop} (hq:Q v s):wpAny (model g.prog g.w) A (eval (.Name id pos) env) Q E s:=by
 unfold CC.isGlob at h
 simp only[Bool.and_eq_true,beq_iff_eq]at h
 obtain⟨⟨h1,h2⟩,h3⟩:=h
 obtain⟨mg,hmg⟩:=Y.glob
 have hmg':s.heap.Ns mainGlobals mg:=hmg.keeps S.base
 have K':g.K.In s.heap:=Y.K.keeps S.base
 refine Name_function_global F (by unfold Env.kindOf;rw[hs];exact h2) ?_ (pG h1).1
 unfold sG at h3
 rw[<-hK]at h3
 set_option tactic.hygienic true in split at h3
 ·rename_i w e
  cases h3
  exact loadGlobal_global (by rw[hg];exact hmg') (mg_of K' hmg' e) hq
 ·rename_i e
  split at h3
  ·set_option tactic.hygienic true in cases h3
  ·rename_i hn
   obtain⟨mb,hmb,hb'⟩:=Y.blt
   refine loadGlobal_builtin (by rw[hg];exact hmg') (mg_none_of K' hmg' e) (by rw[hb];exact hmb.keeps S.base) ?_ hq
   rw[hb' id (by simpa using hn)];exact h3
 ·cases h3
theorem wA{e:Expr}{r:List Expr}(h:IB e=false):starEach (e::r) env=(false,eval e env)::starEach r env:=by
 induction e using Expr.casesOn <;>first | rfl | cases h
theorem xC(pos:Pos)(t:Sem Value)(r:List (Bool×Sem Value)):backTo pos ((false,t)::r)=(false,t)::backTo pos r:=rfl
class inductive IG(P:IE->Expr->Prop):nI->List Expr->Prop
 | nil:IG P .nil []
 | cons {e:IE} {r:nI} {x:Expr} {xs:List Expr} (h:IB x=false) (p:P e x) (q:IG P r xs):IG P (.cons e r) (x::xs)
class inductive fS(P:IT->Expr->Prop):HU->List Expr->Prop
 | nil:fS P .nil []
 | cons {e:IT} {r:HU} {x:Expr} {xs:List Expr} (p:P e x) (q:fS P r xs):fS P (.cons e r) (x::xs)
theorem CJ{P:IE->Expr->Prop}{f:Expr->Option IE}(h:∀x,lC (f x) fun e=>P e x):∀xs,lC (FF f xs) fun es=>IG P es xs
 | []=> .nil
 | x::xs=> .when fun s=>(h x).bind fun p=>(CJ h xs).map fun q=> .cons (Bool.not_eq_true' _ ▸ s) p q
theorem lH{P:IT->Expr->Prop}{f:Expr->Option IT}(h:∀x,lC (f x) fun e=>P e x):∀xs,lC (SK f xs) fun es=>fS P es xs
 | []=> .nil
 | x::xs=>(h x).bind fun p=>(lH h xs).map fun q=> .cons p q
theorem fH{P:IE->Expr->Prop}(pos:Pos){es:nI}{xs:List Expr}(h:IG P es xs):(backTo pos (starEach xs env)).any (·.1)=false:=by
 induction h with
 | nil=>rfl
 | cons h _ _ ih=>rw[wA h,xC];exact ih
theorem lV{op:CmpOp}{r:Expr}(h:dD r=false):behindInMarks op r=false:=by
 induction r using Expr.casesOn <;>first | rfl | cases h
theorem DS{o:Expr}{attr:Str}{whole:Sem Value}(h:oG o=false):attributeBase o attr env whole=whole:=by
 induction o using Expr.casesOn with
 | Call f as kws p=>
   induction f using Expr.casesOn with
   | Name id q=>
     rcases as with _ | ⟨_,_⟩
     ·rcases kws with _ | ⟨_,_⟩
      ·have h:(id==("super":Str))=false:=h
       have:(id !="super")=true:=by rw[bne,h];rfl
       delta attributeBase
       dsimp only
       rw[this];rfl
      ·rfl
     ·rfl
   | _=>rfl
 | _=>rfl
noncomputable def SE(g:G)(A:Around)(d:Nat)(hd:Option Nat)(c:CC)(env:Env)(ie:IE)(e:Expr):Prop:=
 ∀{Z:List (Option V)} {J:List O} {K:V->List O->Prop} {E:Nat->List O->Prop},¬dE g d hd ie Z J K E->∀{s:Shared} {U:List Addr},Cx g A s U d hd->St g s U J->Fm g c.nm s U env Z->
  wpAny (model g.prog g.w) A (eval e env) (mA g s.heap U [] (NK K)) (VA g s.heap U [] (NK E)) s
noncomputable def Fg(g:G)(A:Around)(d:Nat)(hd:Option Nat)(c:CC)(env:Env)(es:nI)(xs:List Expr):Prop:=
 ∀{Z:List (Option V)} {J:List O} {K:List V->List O->Prop} {E:Nat->List O->Prop},¬FK g d hd es Z J K E->∀{s:Shared} {U:List Addr} (pos:Pos),Cx g A s U d hd->St g s U J->Fm g c.nm s U env Z->
  wpAny (model g.prog g.w) A (spliced (backTo pos (starEach xs env))) (DD g s.heap U (NK K)) (VA g s.heap U [] (NK E)) s
noncomputable def Eg(g:G)(A:Around)(d:Nat)(hd:Option Nat)(c:CC)(env:Env)(es:nI)(xs:List Expr):Prop:=
 ∀(ks:List (List Nat)) (keys:List (Option Expr)),KG ks keys=true->ks.length=xs.length->∀{Z:List (Option V)} {J:List O} {K:List V->List O->Prop} {E:Nat->List O->Prop},¬FK g d hd es Z J K E->∀{s:Shared} {U:List Addr} (pos:Pos),Cx g A s U d hd->St g s U J->Fm g c.nm s U env Z->
  wpAny (model g.prog g.w) A (evalPairs (pairTrees keys xs env pos)) (OU g s.heap U ks (NK K)) (VA g s.heap U [] (NK E)) s
noncomputable def Lf(g:G)(A:Around)(d:Nat)(hd:Option Nat)(c:CC)(env:Env)(es:nI)(xs:List Expr):Prop:=
 ∀{Z:List (Option V)} {J:List O} {K:V->List O->Prop} {E:Nat->List O->Prop},¬nZ g d hd es Z J K E->∀{s:Shared} {U:List Addr} (pos:Pos),Cx g A s U d hd->St g s U J->Fm g c.nm s U env Z->
  wpAny (model g.prog g.w) A (boolOp pos .And (evalEach xs env)) (mA g s.heap U [] (NK K)) (VA g s.heap U [] (NK E)) s
noncomputable def NT(T F:List O->Prop)(b:Bool)(J:List O):Prop:=NI b (T J) (F J)
noncomputable def ST(g:G)(A:Around)(d:Nat)(hd:Option Nat)(c:CC)(env:Env)(t:IT)(e:Expr):Prop:=
 ∀{Z:List (Option V)} {J:List O} {T F:List O->Prop} {E:Nat->List O->Prop},¬dT g d hd t Z J T F E->∀{s:Shared} {U:List Addr},Cx g A s U d hd->St g s U J->Fm g c.nm s U env Z->
  wpAny (model g.prog g.w) A (isTrue e env (eval e env)) (GJ g s.heap U (NT T F)) (VA g s.heap U [] (NK E)) s
noncomputable def Gg(g:G)(A:Around)(d:Nat)(hd:Option Nat)(c:CC)(env:Env)(t:HU)(e:List Expr):Prop:=
 ∀{Z:List (Option V)} {J:List O} {T F:List O->Prop} {E:Nat->List O->Prop},¬uU g d hd t Z J T F E->∀{s:Shared} {U:List Addr},Cx g A s U d hd->St g s U J->Fm g c.nm s U env Z->
  wpAny (model g.prog g.w) A (allTrue .And e env) (GJ g s.heap U (NT T F)) (VA g s.heap U [] (NK E)) s
noncomputable def Hg(g:G)(A:Around)(d:Nat)(hd:Option Nat)(c:CC)(env:Env)(t:HU)(e:List Expr):Prop:=
 ∀{Z:List (Option V)} {J:List O} {T F:List O->Prop} {E:Nat->List O->Prop},¬rZ g d hd t Z J T F E->∀{s:Shared} {U:List Addr},Cx g A s U d hd->St g s U J->Fm g c.nm s U env Z->
  wpAny (model g.prog g.w) A (allTrue .Or e env) (GJ g s.heap U (NT T F)) (VA g s.heap U [] (NK E)) s
theorem two{a:IE}{x:Expr}(ha:SE g A d hd c env a x){Z:List (Option V)}{J:List O}{K:V->List O->Prop}{E:Nat->List O->Prop}(h:¬dE g d hd a Z J K E){s:Shared}{U:List Addr}(C:Cx g A s U d hd)(S:St g s U J)(F:Fm g c.nm s U env Z)
 {R:Value->Shared->Prop}
 (k:∀v CA mv HA BA,¬K mv HA->SA g CA.heap BA mv v->Cx g A CA BA d hd->St g CA BA HA->Fm g c.nm CA BA env Z->KA s.heap CA.heap U BA []->R v CA):
 wpAny (model g.prog g.w) A (eval x env) R (VA g s.heap U [] (NK E)) s:=
 wpAny_mono (ha h C S F) (fun v CA p=>by
  obtain⟨mv,HA,BA,q,r,DA,T⟩:=p
  exact k v CA mv HA BA q r (C.step S T) DA (F.step S T) T) fun u0 u0 e=>e
structure Gd(g:G)(c:CC)(env:Env):Prop where
 K:g.K=c.K
 names:env.scope.names=c.sc.names
 cells:∀x,env.scope.names.lookup x=some .cell->∃a,env.cells.lookup x=some a
end
noncomputable def AE(g:G)(c:CC)(ie:IE)(e:Expr):Prop:=∀(A:Around) (d:Nat) (hd:Option Nat) (env:Env),Gd g c env->SE g A d hd c env ie e
noncomputable def AT(g:G)(c:CC)(t:IT)(e:Expr):Prop:=∀(A:Around) (d:Nat) (hd:Option Nat) (env:Env),Gd g c env->ST g A d hd c env t e
section
variable{g:G}{A:Around}{d:Nat}{hd:Option Nat}{c:CC}{env:Env}
theorem GP{s:List Nat}{x:Str}(h:OL s x=true):x=⟨s.toArray⟩/\s.length<=sizeLine/\∀c∈s,c < 0x110000:=by
 unfold OL at h
 simp only[Bool.and_eq_true,beq_iff_eq,decide_eq_true_eq,List.all_eq_true]at h
 obtain⟨⟨h1,h2⟩,h3⟩:=h
 refine⟨?_,by rw[LA];omega,h3⟩
 obtain⟨a⟩:=x
 simp at h1
 subst h1
 simp
theorem NY{n:Str}{x:List Nat}(h:n.cps.toList=x):n=⟨x.toArray⟩:=by
 obtain⟨a⟩:=n;simp at h;subst h;simp
theorem ZL{M:Model}{vs keep:List Value}{Q:Unit->Shared->Prop}{E:Value->Shared->Prop}{s:Shared}(h:Q () s):wpAny M A (release vs keep) Q E s:=fun Γ p u0=>by
 rw[Sem.wp_release];exact h
theorem eV{o:Expr}{name:Str}{apos pos:Pos}{args:List Expr}{Q:Value->Shared->Prop}{E:Value->Shared->Prop}{s:Shared}{es:nI}{P:IE->Expr->Prop}(hsup:oG o=false)(hline:(apos.endLine==pos.line)=true)(hc:IG P es args)(hlen:args.length<=20)
 (h:wpAny (model g.prog g.w) A (eval o env) (fun ov CA=>∀pl:Sem Bool,wpAny (model g.prog g.w) A (getMethod ov name pl) (fun fm UA=>wpAny (model g.prog g.w) A (callWith pos fm.1 fm.2 (backTo pos (starEach args env)) []) Q E UA) E CA) E s):
 wpAny (model g.prog g.w) A (eval (.Call (.Attribute o name apos) args [] pos) env) Q E s:=by
 rw[arm_eval_Call,DS hsup]
 refine wpAny_bind (wpAny_mono h (fun ov CA tA=>wpAny_bind (wpAny_standAt ?_)) fun u0 u0 e=>e)
 have hform:methodCallForm (args.length+([]:List Keyword).length) (backTo pos (starEach args env)) (backToKw pos (keywordEach [] env))=true:=by
  unfold methodCallForm
  have:=fH (env:=env) pos hc
  have h1:(backTo pos (starEach args env)).all (fun x=>!x.1)=true:=by
   rw[List.all_eq_true]
   intro x hx
   have:=List.any_eq_false.mp this x hx
   simpa using this
  rw[h1]
  rw[show backToKw pos (keywordEach [] env)=[]from rfl]
  simp;omega
 have hpos:methodCallPos true o env apos pos=pure pos:=by unfold methodCallPos;simp[hline]
 unfold methodCall
 rw[hform]
 refine wpAny_bind (wpAny_holding ?_)
 exact wpAny_mono (tA (do return (<-importBound o env).getD true)) (fun fm UA wB=>wpAny_bind (wpAny_of_eq hpos wB)) fun u0 u0 e=>e
end
section
variable{g:G}{s:Shared}{U:List Addr}{J:List O}{A:Around}{d:Nat}{hd:Option Nat}{M:Model}{E:Value->Shared->Prop}{env:Env}
theorem Cx.fun(C:Cx g A s U d hd){fr:List Env}(h:A.frames=some fr):s.heap.FunFrames g.WA fr/\∀L∈fr.filterMap (·.frame),g.WA.get? L=none/\∃o,s.heap.get? L=some o/\o.cls= .type "frame"/\nB o:=by
 obtain⟨fr',e,k⟩:=C.stk
 rw[h]at e;cases e
 clear h
 induction fr with
 | nil=>exact⟨trivial,fun u0 m=>nomatch m⟩
 | cons env r ih=>
   obtain⟨i1,i2⟩:=ih fun env m=>k env (List.mem_cons_of_mem _ m)
   obtain⟨k1,L,o,f,ab,ho,hc,hdd⟩:=k env (.head _)
   refine⟨⟨by rw[k1];decide,⟨L,o,f,?_,ho,fun vs q=>?_⟩,i1⟩,fun L' m=>?_⟩
   ·exact ab
   ·obtain⟨es,n,e⟩:=hdd
    rw[e]at q;cases q
   ·rw[List.filterMap_cons,f]at m
    rcases List.mem_cons.mp m with rfl | m
    ·exact⟨ab,o,ho,hc,hdd⟩
    ·exact i2 L' m
theorem St.slots(S:St g s U J){F:List Addr}(hF:∀L∈F,g.WA.get? L=none/\∃o,s.heap.get? L=some o/\o.cls= .type "frame"/\nB o){h':Heap}(x:Heap.SlotsOnly F s.heap h'):
 St g {s with heap:=h'} U J/\KA s.heap h' U U []:=by
 have other:∀b o,s.heap.get? b=some o->o.cls≠ .type "frame"->h'.get? b=some o:=fun b o e n=>(x.2.1 b fun m=>by
  obtain⟨_,o',e',c,_⟩:=hF b m
  rw[e]at e';cases e';exact n c).trans e
 constructor
 ·refine S.quiet (fun b o e e'=>(x.2.1 b fun m=>?_).trans e') (fun b m=>?_) (fun a os ⟨o,e,c,r⟩=>⟨o,other a o e (by rw[c];decide),c,r⟩) (fun b o e t=>⟨o,other b o e (by rw[t.1];decide),t⟩) rfl rfl
  ·rw[(hF b m).1]at e;cases e
  ·obtain⟨o,e,c⟩:=S.at m
   exact(other b o e (by intro q;rw[q]at c;cases c)).trans e.symm
 ·refine⟨⟨[],by simp,fun u0 m=>nomatch m⟩,fun b o e u0 u0=>?_,fun b o e u0=>?_,fun b o e=>let ⟨_,q⟩:=x.2.2 b o e;⟨_,q⟩,fun a ⟨y,vs,tb,c,e,c1,d1,r⟩=>let ⟨sl,q⟩:=x.2.2 a y e;⟨_,vs,tb,c,q,c1,d1,r⟩⟩
  ·obtain⟨sl,q⟩:=x.2.2 b o e
   by_cases m:b∈F
   ·obtain⟨_,o',e',c,_⟩:=hF b m
    rw[e]at e';cases e'
    exact⟨_,q, .inr (.inl ⟨c,sl,rfl⟩)⟩
   ·exact⟨o,(x.2.1 b m).trans e, .refl o⟩
  ·obtain⟨sl,q⟩:=x.2.2 b o e
   exact⟨_,q,rfl,fun⟨es,n,z⟩=>⟨es,n,z⟩⟩
theorem St.exc(S:St g s U J){l:Nat}{a C:Addr}{dl:Nat}(hl:J[l]?=some (.exc C dl))(ha:U[l]?=some a):iY g s.heap U a C dl:=S.objs l a _ ha hl
theorem St.xc(S:St g s U J){l:Nat}{a C:Addr}{dl:Nat}(hl:J[l]?=some (.exc C dl))(ha:U[l]?=some a):JU C=true:=by obtain⟨x,_⟩:=S.objs l a _ ha hl;exact x
theorem VO(C:Cx g A s U d hd)(S:St g s U J){outer:List Env}(hf:A.frames=some (env::outer)){L:Addr}(hL:env.frame=some L){l:Nat}{a Cl:Addr}{dl:Nat}(he:J[l]?=some (.exc Cl dl))(ha:U[l]?=some a){head:Value}{hadNext:Bool}
 {Q:Unit->Shared->Prop} (h:∀h',St g {s with heap:=h'} U J->KA s.heap h' U U []->TD {s with heap:=h'} (.ref a)->Q () {s with heap:=h'}):
 wpAny M A (do let fo <-frameOf env;let pl <-entryPlaceOf L hadNext;let b <-EntryCells.newEntry head fo .none (rawInt L) .none pl;setField (.ref a) 1 b) Q E s:=by
 obtain⟨F1,F2⟩:=C.fun hf
 refine wpAny_bind (wpAny_frameOf_fun hf F1 hL fun tA gR=>?_)
 obtain⟨DA,GA⟩:=S.slots F2 gR
 refine wpAny_bind (wpAny_entryPlaceOf fun pl hpl=>?_)
 refine wpAny_bind (wpAny_newObj_type ?_ (hpl.sizeOk5 _ _ _ _ _))
 generalize hto:({cls:= .type "traceback",dict:=none,data:= .fields ([head, .ref L, .none,rawInt L, .none]++(if pl.isEmpty then List.replicate 6 Value.none else pl)).toArray}:Obj)=to
 have tb:fE to:=by subst hto;exact⟨rfl,_,rfl,by simp only[List.size_toArray,List.length_append,List.length_cons,List.length_nil] <;>simp+arith only⟩
 have XA:St g {s with heap:=tA.push to} U J:=DA.pushU to
 obtain⟨_,dx,vs,hdx,ho,T1,T2⟩:=XA.exc he ha
 refine wpAny_setField ho rfl (by exact qC T1) ?_
 have ho':=Heap.get?_update_self (Obj.mapFields (·.setIfInBounds 1 (Value.ref tA.objs.size))) ho (Obj.isFreed_of_fields (Obj.data_mapFields rfl _))
 have htn:a≠tA.objs.size:=Nat.ne_of_lt (DA.lt (List.mem_of_getElem? ha))
 have KB:=XA.update ha (Heap.SameBut.update (tA.push to) a (Obj.mapFields (·.setIfInBounds 1 (Value.ref tA.objs.size)))) (x':= .exc Cl dl) (by
  refine⟨S.xc he ha,dx,_,hdx,ho',by rw[Array.size_setIfInBounds];exact T1, .inr ⟨tA.objs.size,to,by rw[Array.getElem?_setIfInBounds_self_of_lt (by exact qC T1)],DA.new.1,?_,tb⟩⟩
  exact(Heap.get?_update_other _ _ htn).trans (Heap.get?_push_size _ (by subst hto;rfl))) s.toks
 rw[ZP he]at KB
 refine h _ KB ?_ ⟨a,rfl,_,_,tA.objs.size,_,ho',rfl,rfl,by rw[Array.getElem?_setIfInBounds_self_of_lt (by exact qC T1)]⟩
 exact(GA.trans (.pushU tA U to)).trans (KA.update ha (Heap.SameBut.update ..) (fun o e=>⟨_,ho'⟩) fun u0=>⟨_,_,tA.objs.size,_,ho',rfl,rfl,by rw[Array.getElem?_setIfInBounds_self_of_lt (by exact qC T1)]⟩)
theorem jP(S:St g s U J){tb:Addr}{o:Obj}(hn:g.WA.get? tb=none)(ho:s.heap.get? tb=some o)(ht:fE o)(x:Value):
 St g {s with heap:=s.heap.update tb (Obj.mapFields (·.setIfInBounds 3 x))} U J/\KA s.heap (s.heap.update tb (Obj.mapFields (·.setIfInBounds 3 x))) U U []:=by
 obtain⟨hc,vs,hd,hz⟩:=ht
 have hself:=Heap.get?_update_self (Obj.mapFields (·.setIfInBounds 3 x)) ho (Obj.isFreed_of_fields (Obj.data_mapFields hd _))
 have hs:=Heap.SameBut.update s.heap tb (Obj.mapFields (·.setIfInBounds 3 x))
 have tb':fE (Obj.mapFields (·.setIfInBounds 3 x) o):=⟨(Obj.cls_mapFields _ _).trans hc,_,Obj.data_mapFields hd _,by simpa using hz⟩
 constructor
 ·refine S.quiet (fun b o' e e'=>(hs.2 b fun q=>?_).trans e') (fun b m=>hs.2 b fun q=>?_) (fun a os ⟨y,e,c,r⟩=>⟨y,(hs.2 a fun q=>?_).trans e,c,r⟩) (fun b y e t=>?_) rfl rfl
  ·subst q;rw[hn]at e;cases e
  ·subst q;exact S.notin ho (by rw[hc];rfl) m
  ·subst q;rw[ho]at e;cases e;rw[c]at hc;exact absurd hc (by decide)
  ·by_cases q:b=tb
   ·subst q;exact⟨_,hself,tb'⟩
   ·exact⟨y,(hs.2 b q).trans e,t⟩
 ·refine⟨⟨[],by simp,fun u0 m=>nomatch m⟩,fun b y e u0 u0=>?_,fun b y e u0=>?_,fun b y e=>?_,fun b ⟨y,vs',tb',c',e,c1,r,u⟩=>⟨y,vs',tb',c',(hs.2 b fun q=>by subst q;rw[ho]at e;cases e;rw[hc]at c1;cases c1).trans e,c1,r,u⟩⟩
  ·by_cases q:b=tb
   ·subst q;rw[ho]at e;cases e;exact⟨_,hself, .inr (.inr ⟨hc,fun u0=>tb'⟩)⟩
   ·exact⟨y,(hs.2 b q).trans e, .refl y⟩
  ·by_cases q:b=tb
   ·subst q;rw[ho]at e;cases e;exact⟨_,hself,Obj.cls_mapFields _ _,fun⟨es,n,z⟩=>by rw[hd]at z;cases z⟩
   ·exact⟨y,(hs.2 b q).trans e,rfl,id⟩
  ·by_cases q:b=tb
   ·subst q;exact⟨_,hself⟩
   ·exact⟨y,(hs.2 b q).trans e⟩
theorem nF(C:Cx g A s U d hd)(S:St g s U J){outer:List Env}(hf:A.frames=some (env::outer)){l:Nat}{a Cl:Addr}{dl:Nat}(he:J[l]?=some (.exc Cl dl))(ha:U[l]?=some a)
 {Q:Unit->Shared->Prop} (h:∀h',St g {s with heap:=h'} U J->KA s.heap h' U U []->TD {s with heap:=h'} (.ref a)->Q () {s with heap:=h'}):
 wpAny M A (noteFrame (.ref a) env) Q E s:=by
 obtain⟨_,dx,vs,hdx,ho,T1,T2⟩:=S.exc he ha
 have hL:∃L,env.frame=some L:=by
  obtain⟨fr,e,k⟩:=C.stk
  rw[hf]at e;cases e
  obtain⟨_,L,_,f,_⟩:=k env (.head _)
  exact⟨L,f⟩
 obtain⟨L,hL⟩:=hL
 unfold noteFrame
 simp only[hL]
 rcases T2 with T2 | ⟨tb,ob,T2,hn,hob,ht⟩
 ·refine wpAny_bind (wpAny_field ho rfl T2 ?_)
  rw[if_neg (by decide)]
  exact VO C S hf hL he ha h
 ·refine wpAny_bind (wpAny_field ho rfl T2 ?_)
  rw[if_pos (show(Value.ref tb !=Value.none)=true from by simp)]
  have ht':=ht
  obtain⟨hc,ws,hd',hz⟩:=ht
  refine wpAny_bind (wpAny_field hob hd' (x:=ws[3]) (by simp) ?_)
  split
  ·exact wpAny_pure (h _ S (.refl ..) ⟨a,rfl,_,vs,tb,_,ho,rfl,rfl,T2⟩)
  ·refine wpAny_bind (wpAny_setField hob hd' hz ?_)
   obtain⟨DA,GA⟩:=jP S hn hob ht' .none
   exact VO (C.step S GA) DA hf hL he ha fun h' S' T' q=>h h' S' (GA.trans T') q
theorem TD.obj(S:St g s U J){l:Nat}{a Cl:Addr}{dl:Nat}(he:J[l]?=some (.exc Cl dl))(ha:U[l]?=some a)(q:TD s (.ref a)):
 ∃dx vs tb o,s.heap.get? a=some {cls:= .ref Cl,dict:=some dx,data:= .fields vs}/\vs[1]?=some (.ref tb)/\g.WA.get? tb=none/\s.heap.get? tb=some o/\fE o:=by
 obtain⟨_,dx,vs,hdx,ho,T1,T2⟩:=S.exc he ha
 obtain⟨a',q1,o',vs',tb',_,q2,_,q3,q4⟩:=q
 cases q1
 rw[ho]at q2;cases q2
 cases q3
 rcases T2 with T2 | ⟨tb,ob,T2,hn,hob,ht⟩
 ·rw[T2]at q4;cases q4
 ·exact⟨dx,vs,tb,ob,ho,T2,hn,hob,ht⟩
theorem aD(S:St g s U J){l:Nat}{a Cl:Addr}{dl:Nat}(he:J[l]?=some (.exc Cl dl))(ha:U[l]?=some a)(fr:Option Addr)
 {Q:Unit->Shared->Prop} (h:∀h',St g {s with heap:=h'} U J->KA s.heap h' U U []->(TD s (.ref a)->TD {s with heap:=h'} (.ref a))->Q () {s with heap:=h'}):
 wpAny M A (setFlight (.ref a) fr) Q E s:=by
 obtain⟨_,dx,vs,hdx,ho,T1,T2⟩:=S.exc he ha
 rcases T2 with T2 | ⟨tb,ob,T2,hn,hob,ht⟩
 ·refine wpAny_bind (wpAny_field ho rfl T2 ?_)
  rw[if_neg (by decide)]
  exact wpAny_pure (h _ S (.refl ..) id)
 ·refine wpAny_bind (wpAny_field ho rfl T2 ?_)
  rw[if_pos (by simp)]
  have ht':=ht
  obtain⟨hc,ws,hd',hz⟩:=ht
  refine wpAny_setField hob hd' hz ?_
  obtain⟨DA,GA⟩:=jP S hn hob ht' (fr.elim Value.none fun f=>rawInt f)
  refine h _ DA GA fun u0=>?_
  have hne:a≠tb:=fun q=>by subst q;rw[ho]at hob;cases hob;cases hc
  exact⟨a,rfl,_,vs,tb,_,(Heap.get?_update_other _ _ (Ne.symm hne)).trans ho,rfl,rfl,T2⟩
theorem LR(S:St g s U J){l:Nat}{a Cl:Addr}{dl:Nat}(he:J[l]?=some (.exc Cl dl))(ha:U[l]?=some a)(q:TD s (.ref a))
 {Q:Value->Shared->Prop} (h:∀h',St g {s with heap:=h'} U J->KA s.heap h' U U []->TD {s with heap:=h'} (.ref a)->Q (.ref a) {s with heap:=h'}):
 cameBackBy M A env Q (.ref a) s:=by
 obtain⟨dx,vs,tb,o,ho,T2,hn,hob,ht⟩:=TD.obj S he ha q
 refine wpAny_bind (wpAny_field ho rfl T2 ?_)
 rw[if_neg (by simp)]
 exact aD S he ha _ fun h' S' T' q'=>h h' S' T' (q' q)
theorem rM(S:St g s U J){l:Nat}{a Cl:Addr}{dl:Nat}(he:J[l]?=some (.exc Cl dl))(ha:U[l]?=some a)(q:TD s (.ref a)){α:Type}{what:String}{Q:α->Shared->Prop}
 (h:∀h',St g {s with heap:=h'} U J->KA s.heap h' U U []->TD {s with heap:=h'} (.ref a)->E (.ref a) {s with heap:=h'}):
 wpAny M A (PySem.passOn what (.ref a) env) Q E s:=by
 obtain⟨dx,vs,tb,o,ho,T2,hn,hob,ht⟩:=TD.obj S he ha q
 refine wpAny_bind (wpAny_field ho rfl T2 ?_)
 rw[if_neg (by simp)]
 exact wpAny_bind (aD S he ha _ fun h' S' T' q'=>wpAny_throw (h h' S' T' (q' q)))
end
section
variable{g:G}{s:Shared}{U:List Addr}{J:List O}{A:Around}{d:Nat}{hd:Option Nat}{E:Value->Shared->Prop}{env:Env}{nm:List (List Nat)}{Z:List (Option V)}
theorem CZ{α:Type}{a:α}{P:Prop}(h:none=some a):P:=nomatch h
theorem ZU(S:St g s U J){op:Operator}{x y z:V}{a b:Value}{Q:Value->Shared->Prop}(ra:SA g s.heap U x a)(rb:SA g s.heap U y b)(h:CX op x y=some z)
 (hq:∀w t,SA g s.heap U z w->Q w {s with toks:=t}):wpAny (model g.prog g.w) A (inplaceOp op a b) Q E s:=by
 induction x using V.casesOn with
 | int i=>induction y using V.casesOn with
   | int j=>induction op using PySem.Operator.casesOn with
     | Add=>
       cases h
       obtain⟨t,rfl⟩:=ra;obtain⟨u,rfl⟩:=rb
       exact PySem.AutoIntOps.iadd_0 (hq _ _ ⟨_,rfl⟩)
     | Sub=>
       cases h
       obtain⟨t,rfl⟩:=ra;obtain⟨u,rfl⟩:=rb
       exact PySem.AutoIntOps.isub_0 (hq _ _ ⟨_,rfl⟩)
     | _=>exact CZ h
   | _=>exact CZ h
 | str i=>induction y using V.casesOn with
   | str j=>induction op using PySem.Operator.casesOn with
     | Add=>
       have h:(if i.length+j.length<=sizeLine then some (V.str (i++j))else none)=some z:=h
       by_cases hb:i.length+j.length<=sizeLine
       ·rw[if_pos hb]at h
        cases h
        obtain⟨t,rfl,z1,c1⟩:=ra;obtain⟨u,rfl,z2,c2⟩:=rb
        refine PyProof.Rows.iadd_str (fun t' tk=>?_) (by rw[TB,TB];exact hb)
        refine hq _ _ ⟨t',by rw[cps_append],by simpa using hb,fun c m=>?_⟩
        rcases List.mem_append.mp m with m | m
        ·exact c1 c m
        ·exact c2 c m
       ·rw[if_neg hb]at h;exact CZ h
     | _=>exact CZ h
   | _=>exact CZ h
 | _=>exact CZ h
variable{M:Model}
theorem Fm.locals(S:St g s U J)(F:Fm g nm s U env Z){h':Heap}(hs:Heap.SameBut env.locals s.heap h')(hc:∀o,s.heap.get? env.locals=some o->∃o',h'.get? env.locals=some o'/\o'.cls=o.cls/\nB o')(t:Nat):
 St g {s with heap:=h',toks:=t} U J/\KA s.heap h' U U (EC env):=by
 obtain⟨o,ho,hcl,hdo⟩:=F.lcls
 have hb:∀b x,s.heap.get? b=some x->x.cls≠ .type "frame"->x.cls≠ .type "dict"->h'.get? b=some x:=fun b x e n1 n2=>(hs.2 b fun q=>by
  subst q;rw[ho]at e;cases e
  rcases hcl with q | q
  ·exact n1 q
  ·exact n2 q).trans e
 constructor
 ·refine S.quiet (fun b x e e'=>(hs.2 b fun q=>?_).trans e') (fun b m=>hs.2 b fun q=>?_) (fun a os ⟨x,e,c,r⟩=>⟨x,hb a x e (by rw[c];decide) (by rw[c];decide),c,r⟩) (fun b x e t=>⟨x,hb b x e (by rw[t.1];decide) (by rw[t.1];decide),t⟩) rfl rfl
  ·subst q;rw[F.above _ (.head _)]at e;cases e
  ·subst q;exact F.out _ (.head _) m
 ·refine⟨⟨[],by simp,fun u0 m=>nomatch m⟩,fun b x e u0 n=>⟨x,(hs.2 b fun q=>n (by subst q;exact .head _)).trans e, .refl x⟩,fun b x e u0=>?_,fun b x e=>?_,fun b ⟨y,vs',tb',c',e,c1,d1,r⟩=>⟨y,vs',tb',c',hb b y e (by rw[c1];intro q;cases q) (by rw[c1];intro q;cases q),c1,d1,r⟩⟩
  by_cases q:b=env.locals
  ·subst q
   obtain⟨o',e',c',d'⟩:=hc x e
   exact⟨o',e',c',fun u0=>d'⟩
  ·exact⟨x,(hs.2 b q).trans e,rfl,id⟩
  by_cases q:b=env.locals
  ·subst q
   obtain⟨o',e',_⟩:=hc x e
   exact⟨o',e'⟩
  ·exact⟨x,(hs.2 b q).trans e⟩
theorem tD(F:Fm g nm s U env Z):env.locals∉env.cells.map (·.2):=fun m=>by
 obtain⟨o,v,e,c,_⟩:=F.ccls _ m
 obtain⟨o',e',c',_⟩:=F.lcls
 rw[e]at e';cases e'
 rcases c' with c' | c' <;>rw[c]at c' <;>exact absurd c' (by decide)
theorem LS{i j:Nat}{v:Option V}{x:V}(h:(Z.set i v)[j]?=some (some x)):(j=i/\v=some x)\/(j≠i/\Z[j]?=some (some x)):=by
 by_cases e:i=j
 ·subst e
  rw[List.getElem?_set_self']at h
  induction q:Z[i]? using Option.casesOn with
  | none=>rw[q]at h;cases h
  | some y=>rw[q]at h;simp at h;exact .inl ⟨rfl,h⟩
 ·rw[List.getElem?_set_ne e]at h
  exact .inr ⟨fun q=>e q.symm,h⟩
theorem fV(F:Fm g nm s U env Z){i j:Nat}{x y:List Nat}(hx:nm[i]?=some x)(hy:nm[j]?=some y)(h:j≠i):(⟨y.toArray⟩:Str)≠⟨x.toArray⟩:=fun q=>by
 have:y=x:=by
  have:=congrArg (fun s:Str=>s.cps.toList) q
  simpa using this
 subst this
 obtain⟨h1,e1⟩:=List.getElem?_eq_some_iff.mp hx
 obtain⟨h2,e2⟩:=List.getElem?_eq_some_iff.mp hy
 exact h ((List.getElem_inj F.nodup).mp (e2.trans e1.symm))
theorem Fm.setLocal(S:St g s U J)(F:Fm g nm s U env Z){i:Nat}{x:List Nat}(hx:nm[i]?=some x)(hk:env.kindOf ⟨x.toArray⟩=some .local){m:Str->Option Value}(hv:∀(i:Nat) (x:List Nat) (v:V),nm[i]?=some x->Z[i]?=some (some v)->∃w,pY env s.heap m ⟨x.toArray⟩ w/\SA g s.heap U v w)
 {h':Heap} {w:Option Value} {v:Option V} (hn:h'.Ns env.locals (fun y=>if y=⟨x.toArray⟩then w else m y))
 (hs:Heap.SameBut env.locals s.heap h') (hc:∀o,s.heap.get? env.locals=some o->∃o',h'.get? env.locals=some o'/\o'.cls=o.cls/\nB o') (t:Nat)
 (hw:∀y,v=some y->∃z,w=some z/\SA g s.heap U y z):Fm g nm {s with heap:=h',toks:=t} U env (Z.set i v):=by
 obtain⟨S',T⟩:=F.locals S hs hc t
 have up:∀{y:V} {z:Value},SA g s.heap U y z->SA g h' U y z:=fun r=>r.step S T F.noTup
 refine⟨F.kind,F.glob,F.blt,F.frame,F.nodup,by simp[F.len],F.above,F.out,?_,fun c hc'=>?_,F.once,_,hn,fun j y u hy hu=>?_⟩
 ·obtain⟨o,ho,hcl,hdo⟩:=F.lcls
  obtain⟨o',e',c',d'⟩:=hc o ho
  exact⟨o',e',by rw[c'];exact hcl,d'⟩
 ·obtain⟨o,u,e,c1,d1⟩:=F.ccls c hc'
  exact⟨o,u,(hs.2 c fun q=>tD F (q ▸ hc')).trans e,c1,d1⟩
 ·rcases LS hu with⟨rfl,rfl⟩ | ⟨hne,hu⟩
  ·rw[hx]at hy;cases hy
   obtain⟨z,rfl,r⟩:=hw u rfl
   exact⟨z, .inl ⟨hk,by simp⟩,up r⟩
  ·obtain⟨z,hz,r⟩:=hv j y u hy hu
   refine⟨z,?_,up r⟩
   rcases hz with⟨k,e⟩ | ⟨k,c,hcl,o',e',q⟩
   ·exact .inl ⟨k,by simp only[if_neg (fV F hx hy hne)];exact e⟩
   ·exact .inr ⟨k,c,hcl,o',(hs.2 c fun q=>tD F (q ▸ LC hcl)).trans e',q⟩
theorem jK{l:List (Str×Addr)}(hn:(l.map (·.2)).Nodup){x y:Str}{c:Addr}(hx:l.lookup x=some c)(hy:l.lookup y=some c):x=y:=by
 induction l with
 | nil=>cases hx
 | cons p r ih=>
   obtain⟨a,b⟩:=p
   simp only[List.map_cons,List.nodup_cons]at hn
   simp only[List.lookup_cons]at hx hy
   split at hx
   ·rename_i e1
    cases hx
    split at hy
    ·rename_i e2
     rw[eq_of_beq e1,eq_of_beq e2]
    ·exact absurd (LC hy) hn.1
   ·split at hy
    ·cases hy
     exact absurd (LC hx) hn.1
    ·exact ih hn.2 hx hy
theorem jJ(S:St g s U J)(F:Fm g nm s U env Z){i:Nat}{x:List Nat}{id:Str}(hx:nm[i]?=some x)(hid:id=⟨x.toArray⟩)(hk:env.kindOf id=some .local\/env.kindOf id=some .cell/\∃c,env.cells.lookup id=some c)
 {v:V} {w:Value} (r:SA g s.heap U v w) {Q:Unit->Shared->Prop}
 (h:∀h' t,St g {s with heap:=h',toks:=t} U J->Fm g nm {s with heap:=h',toks:=t} U env (Z.set i (some v))->KA s.heap h' U U (EC env)->Q () {s with heap:=h',toks:=t}):
 wpAny M A (storeName env id w) Q E s:=by
 subst hid
 obtain⟨m,hm,hv⟩:=F.vars
 rcases hk with hk | ⟨hk,c,hc⟩
 ·refine EF F.kind hk hm fun h' hn hs hc=>?_
  obtain⟨S',T⟩:=F.locals S hs hc (s.toks+1)
  exact h _ _ S' (F.setLocal S hx hk hv (v:=some v) hn hs hc _ fun y e=>by cases e;exact⟨w,rfl,r⟩) T
 ·have hcm:=LC hc
  obtain⟨o,u,ho,ocl,od⟩:=F.ccls c hcm
  unfold storeName
  rw[hk,F.kind]
  refine wpAny_bind (wpAny_cellOf hc ?_)
  refine wpAny_bind (wpAny_load ho ?_)
  rw[od]
  refine wpAny_update ho ?_
  have hself:=Heap.get?_update_self (fun o=>{o with data:= .cell (some w)}) ho rfl
  have hs:=Heap.SameBut.update s.heap c (fun o=>{o with data:= .cell (some w)})
  generalize hh:s.heap.update c (fun o=>{o with data:= .cell (some w)})=h' at hself hs
  have hne:env.locals≠c:=fun q=>tD F (q ▸ hcm)
  have hb:∀b x,s.heap.get? b=some x->x.cls≠ .type "cell"->h'.get? b=some x:=fun b x e n1=>(hs.2 b fun q=>by
   subst q;rw[ho]at e;cases e;exact n1 ocl).trans e
  have S':St g {s with heap:=h',toks:=s.toks} U J:=by
   refine S.quiet (fun b x e e'=>(hs.2 b fun q=>?_).trans e') (fun b m=>hs.2 b fun q=>?_) (fun a os ⟨x,e,c,r⟩=>⟨x,hb a x e (by rw[c];decide),c,r⟩) (fun b x e t=>⟨x,hb b x e (by rw[t.1];decide),t⟩) rfl rfl
   ·subst q;rw[F.above _ (List.mem_cons_of_mem _ hcm)]at e;cases e
   ·subst q;exact F.out _ (List.mem_cons_of_mem _ hcm) m
  have T:KA s.heap h' U U (EC env):=by
   refine⟨⟨[],by simp,fun u0 m=>nomatch m⟩,fun b x e u0 n=>⟨x,(hs.2 b fun q=>n (by subst q;exact List.mem_cons_of_mem _ hcm)).trans e, .refl x⟩,fun b x e u0=>?_,fun b x e=>?_,fun b ⟨y,vs',tb',c',e,c1,d1,r⟩=>⟨y,vs',tb',c',hb b y e (by rw[c1];intro q;cases q),c1,d1,r⟩⟩
   by_cases q:b=c
   ·subst q
    rw[ho]at e;cases e
    exact⟨_,hself,rfl,fun⟨es,n,z⟩=>by rw[od]at z;cases z⟩
   ·exact⟨x,(hs.2 b q).trans e,rfl,id⟩
   by_cases q:b=c
   ·subst q;exact⟨_,hself⟩
   ·exact⟨x,(hs.2 b q).trans e⟩
  have up:∀{y:V} {z:Value},SA g s.heap U y z->SA g h' U y z:=fun r=>r.step S T F.noTup
  refine h h' s.toks S' ⟨F.kind,F.glob,F.blt,F.frame,F.nodup,by simp[F.len],F.above,F.out,?_,fun c' hc'=>?_,F.once,m,?_,fun j y u' hy hu=>?_⟩ T
  ·obtain⟨o,ho,hcl,hdo⟩:=F.lcls
   exact⟨o,(hs.2 _ hne).trans ho,hcl,hdo⟩
  ·by_cases q:c'=c
   ·subst q;exact⟨_,some w,hself,ocl,rfl⟩
   ·obtain⟨o',u',e',c1,d1⟩:=F.ccls c' hc'
    exact⟨o',u',(hs.2 c' q).trans e',c1,d1⟩
  ·obtain⟨o',es,ep,e',r⟩:=hm
   exact⟨o',es,ep,(hs.2 _ hne).trans e',r⟩
  ·rcases LS hu with⟨rfl,q⟩ | ⟨hne',hu⟩
   ·cases q
    rw[hx]at hy;cases hy
    exact⟨w, .inr ⟨.inl hk,c,hc,_,hself,rfl⟩,up r⟩
   ·obtain⟨z,hz,r⟩:=hv j y u' hy hu
    refine⟨z,?_,up r⟩
    rcases hz with q | ⟨k,c',hcl,o',e',q⟩
    ·exact .inl q
    ·refine .inr ⟨k,c',hcl,o',(hs.2 c' fun q'=>?_).trans e',q⟩
     subst q'
     exact fV F hx hy hne' (jK F.once hcl hc)
theorem iF(name:Str)(o:Obj):(Obj.dropName name o).cls=o.cls/\(nB o->nB (Obj.dropName name o)):=by
 rw[Obj.dropName_eq]
 obtain⟨c,d,dt,sl⟩:=o
 cases dt <;>try exact⟨rfl,id⟩
 unfold Obj.dropNameByArray
 dsimp only
 split
 ·exact⟨rfl,fun u0=>⟨_,_,rfl⟩⟩
 ·exact⟨rfl,fun u0=>⟨_,_,rfl⟩⟩
theorem ZR(S:St g s U J)(F:Fm g nm s U env Z){i:Nat}{x:List Nat}{id:Str}{pos:Pos}(hx:nm[i]?=some x)(hid:id=⟨x.toArray⟩)(hk:env.kindOf id=some .local)
 {Q:Unit->Shared->Prop}
 (h:∀h' t,St g {s with heap:=h',toks:=t} U J->Fm g nm {s with heap:=h',toks:=t} U env (Z.set i none)->KA s.heap h' U U (EC env)->Q () {s with heap:=h',toks:=t}):
 wpAny M A (do bindName env id .none;unbindBehindTheSuite env id pos) Q E s:=by
 subst hid
 obtain⟨m,hm,hv⟩:=F.vars
 refine wpAny_bind (wpAny_bindName (EF F.kind hk hm fun tA Od gR Ld=>?_))
 refine wpAny_onRaise ?_
 refine wpAny_bind (wpAny_point (wpAny_bind ?_))
 unfold deleteName
 simp only[hk,F.kind]
 rw[if_neg (by intro q;cases q)]
 have T0:∀h',Heap.SameBut env.locals tA h'->Heap.SameBut env.locals s.heap h':=fun h' q=>gR.trans q
 obtain⟨o,es,ep,ho,hdo,hkk,hmm⟩:=id Od
 have hany:es.any (·.refKey)=false:=by
  rw[Array.any_eq_false'];intro e he;obtain⟨n,t,h⟩:=hkk e he;simp[DictEntry.refKey,h]
 have hsome:es.any (·.key.isStr ⟨x.toArray⟩)=true:=by
  have:=hmm ⟨x.toArray⟩
  simp only[if_true]at this
  have h2:(nsFind es ⟨x.toArray⟩).isSome=true:=by rw[this];rfl
  simp only[nsFind,findBy,Option.isSome_map,Array.find?_isSome]at h2
  obtain⟨y,hy,hp⟩:=h2
  rw[Array.any_eq_true]
  obtain⟨i,hi,rfl⟩:=Array.mem_iff_getElem.mp hy
  exact⟨i,hi,hp⟩
 have hhas:nsHas ⟨x.toArray⟩ o=pure true:=by
  rw[nsHas_eq];unfold nsHasByArray;rw[hdo]
  show(if(es.any fun y=>y.key.isStr _)=true then _ else _)=_
  rw[if_pos hsome]
 refine wpAny_bind (wpAny_bind (wpAny_loadPart ho ?_))
 rw[hhas]
 refine wpAny_bind (wpAny_pure ?_)
 simp only[if_true]
 refine wpAny_bind (wpAny_updatePart ho (wpAny_pure ?_))
 simp only[Bool.not_true,Bool.false_eq_true,if_false]
 refine wpAny_pure (wpAny_point ?_)
 have hs:=gR.trans (Heap.SameBut.update tA env.locals (Obj.dropName ⟨x.toArray⟩))
 have hfree:(Obj.dropName ⟨x.toArray⟩ o).isFreed=false:=by
  obtain⟨es',n',q⟩:=(iF ⟨x.toArray⟩ o).2 ⟨_,_,hdo⟩
  generalize Obj.dropName ⟨x.toArray⟩ o=o' at q
  obtain⟨c,d,dt,sl⟩:=o'
  subst q;rfl
 have hself:=Heap.get?_update_self (Obj.dropName ⟨x.toArray⟩) ho hfree
 have hc:∀o',s.heap.get? env.locals=some o'->∃o'',(tA.update env.locals (Obj.dropName ⟨x.toArray⟩)).get? env.locals=some o''/\o''.cls=o'.cls/\nB o'':=fun o' e=>by
  obtain⟨o1,e1,c1,_⟩:=Ld o' e
  rw[ho]at e1;cases e1
  exact⟨_,hself,(iF _ _).1.trans c1,(iF _ _).2 ⟨_,_,hdo⟩⟩
 have hn:∃v,(tA.update env.locals (Obj.dropName ⟨x.toArray⟩)).Ns env.locals (fun y=>if y=⟨x.toArray⟩then v else m y):=by
  obtain⟨cl,d,dt,sl⟩:=o
  subst hdo
  induction hi:es.findIdx? (·.key.isStr ⟨x.toArray⟩)using Option.casesOn with
  | some i=>
    refine⟨nsFind (es.eraseIdxIfInBounds i) ⟨x.toArray⟩,_,_,ep+1,hself,(by simp only[Obj.dropName_eq,Obj.dropNameByArray,hi] <;>rfl),hkk.erase i,fun y=>?_⟩
    show nsFind (es.eraseIdxIfInBounds i) y=_
    by_cases hx':y=⟨x.toArray⟩
    ·subst hx';simp only[if_true]
    ·rw[nsFind_erase_other hi hx',hmm];simp only[if_neg hx']
  | none=>
    refine⟨some .none,_,_,ep,hself,(by simp only[Obj.dropName_eq,Obj.dropNameByArray,hi] <;>rfl),hkk,fun y=>?_⟩
    exact hmm y
 obtain⟨v,hn⟩:=hn
 obtain⟨S',T⟩:=F.locals S hs hc (s.toks+1)
 exact h _ _ S' (F.setLocal S hx hk hv (v:=none) hn hs hc _ fun y e=>by cases e) T
end
noncomputable def PU(g:G)(h:Heap)(U:List Addr):Fl->Flow->Prop
 | .next,f=>f= .next
 | .brk,f=>f= .brk
 | .ret v,f=>∃x,f= .ret x/\SA g h U v x
inductive UD(g:G)(nm:List (List Nat))(env:Env)(h:Heap)(U:List Addr)(Q:Fl->List (Option V)->List O->Prop)(f:Flow)(s':Shared):Prop
 | mk (fl:Fl) (oJ:List (Option V)) (NA:List O) (iA:List Addr) (q:Q fl oJ NA) (r:PU g s'.heap iA fl f) (S:St g s' iA NA) (F:Fm g nm s' iA env oJ) (T:KA h s'.heap U iA (EC env))
inductive lB(g:G)(nm:List (List Nat))(env:Env)(h:Heap)(U:List Addr)(E:Nat->List (Option V)->List O->Prop)(e:Value)(s':Shared):Prop
 | mk (l:Nat) (oJ:List (Option V)) (NA:List O) (iA:List Addr) (a:Addr) (q:E l oJ NA) (r:iA[l]?=some a) (e:e= .ref a) (x:jY NA l) (S:St g s' iA NA) (F:Fm g nm s' iA env oJ) (T:KA h s'.heap U iA (EC env))
section
variable{g:G}{s:Shared}{U:List Addr}{J:List O}{A:Around}{d:Nat}{hd:Option Nat}{env:Env}{nm:List (List Nat)}{Z:List (Option V)}
variable{WA tA:Heap}{RA BA:List Addr}{Q Q':Fl->List (Option V)->List O->Prop}{E E':Nat->List (Option V)->List O->Prop}{f:Flow}{e:Value}{s':Shared}
theorem UD.from(T:KA WA tA RA BA (EC env))(p:UD g nm env tA BA Q f s'):UD g nm env WA RA Q f s':=let ⟨a,b,c,d,q,r,S,F,T'⟩:=p;⟨a,b,c,d,q,r,S,F,T.trans T'⟩
theorem lB.from(T:KA WA tA RA BA (EC env))(p:lB g nm env tA BA E e s'):lB g nm env WA RA E e s':=let ⟨a,b,c,d,x,q,r,y,z,S,F,T'⟩:=p;⟨a,b,c,d,x,q,r,y,z,S,F,T.trans T'⟩
theorem KA.x{h h':Heap}{U iA:List Addr}{X:List Addr}(T:KA h h' U iA []):KA h h' U iA X:=T.mono fun u0 m=>nomatch m
theorem VA.toX{E:Nat->List (Option V)->List O->Prop}(S:St g s U J)(F:Fm g nm s U env Z)(p:VA g s.heap U [] (fun l J=>E l Z J) e s'):lB g nm env s.heap U E e s':=by
 obtain⟨l,NA,iA,a,q,r,y,z,S',T⟩:=p
 exact⟨l,Z,NA,iA,a,q,r,y,z,S',F.step S T,T.x⟩
theorem PU.step{h':Heap}{iA X:List Addr}(S:St g s U J)(T:KA s.heap h' U iA X)(hX:∀b∈X,∀os,¬IsTup s.heap b os){fl:Fl}(r:PU g s.heap U fl f):PU g h' iA fl f:=by
 induction fl using Fl.casesOn with
 | next=>exact r
 | brk=>exact r
 | ret v=>obtain⟨x,e,r⟩:=r;exact⟨x,e,r.step S T hX⟩
theorem Cx.mark'(C:Cx g A s U d hd){l:Nat}{a:Addr}(h:U[l]?=some a):Cx g (A.mark (some (.ref a))) s U d (some l):=
 ⟨C.depth,C.units,⟨a,h,rfl⟩,C.stk⟩
theorem lB.noted(C:Cx g A s U d hd)(S:St g s U J){outer:List Env}(hf:A.frames=some (env::outer))(p:lB g nm env s.heap U E e s')
 {R:Value->Shared->Prop} (h:∀s'',lB g nm env s.heap U E e s''->TD s'' e->R e s''):notedBy (model g.prog g.w) A env R e s':=by
 obtain⟨l,oJ,NA,iA,a,q,r,rfl,⟨Cl,dl,z⟩,S',F',T⟩:=p
 exact nF (C.step S T) S' hf z r fun h' S'' T' tb=>h _ ⟨l,oJ,NA,iA,a,q,r,rfl,⟨Cl,dl,z⟩,S'',F'.step S' T',T.trans T'.x⟩ tb
theorem lB.came(p:lB g nm env WA U E e s')(tb:TD s' e){R:Value->Shared->Prop}(h:∀s'',lB g nm env WA U E e s''->TD s'' e->R e s''):cameBackBy (model g.prog g.w) A env R e s':=by
 obtain⟨l,oJ,NA,iA,a,q,r,rfl,⟨Cl,dl,z⟩,S',F',T⟩:=p
 exact LR S' z r tb fun h' S'' T' tb=>h _ ⟨l,oJ,NA,iA,a,q,r,rfl,⟨Cl,dl,z⟩,S'',F'.step S' T',T.trans T'.x⟩ tb
theorem lB.out(C:Cx g A s U d hd)(S:St g s U J){outer:List Env}(hf:A.frames=some (env::outer))(p:lB g nm env s.heap U E e s'):
 notedBy (model g.prog g.w) A env (fun e s'=>cameBackBy (model g.prog g.w) A env (lB g nm env s.heap U E) e s') e s':=
 p.noted C S hf fun u0 p tb=>p.came tb fun u0 p u0=>p
variable{R:Result->Shared->Prop}{N:Value->Shared->Prop}
theorem hW{test:Expr}{body:List Stmt}
 (h:wpAny (model g.prog g.w) A (isTrue test env (eval test env)) (fun b UA=>
  if b then wpAny (model g.prog g.w) A (execs body env) (fun f TC=>match f with
   | .next | .cont=>codeAny (model g.prog g.w) A (.whileLoop test body [] env) R TC
   | .brk=>R (.ok .next) TC
   | .ret v=>R (.ok (.ret v)) TC) (notedBy (model g.prog g.w) A env fun e s'=>R (.error e) s') UA
  else R (.ok .next) UA)
  (notedBy (model g.prog g.w) A env fun e s'=>R (.error e) s') s):codeAny (model g.prog g.w) A (.whileLoop test body [] env) R s:=by
 refine codeAny_of_tree ?_
 show wpAny _ A ((whileTurn test body [] env).onRaise (fun x=>do noteFrame x env;theTreesLotGoes x)) _ _ s
 refine wpAny_noted ?_
 simp only[whileTurn]
 refine wpAny_bind (wpAny_mono h (fun b UA ID=>?_) fun u0 u0 h'=>h')
 induction b using Bool.casesOn with
 | false=>
   simp only[Bool.false_eq_true,if_false]at ID ⊢
   rw[execs_nil]
   exact wpAny_bind (wpAny_pure (wpAny_pure ID))
 | true=>
   simp only[if_true]at ID ⊢
   refine wpAny_bind (wpAny_mono ID (fun f TC wB=>?_) fun u0 u0 h'=>h')
   induction f using PySem.Flow.casesOn with
   | next=>exact wpAny_pure ⟨rfl,wB⟩
   | cont=>exact wpAny_pure ⟨rfl,wB⟩
   | brk=>exact wpAny_pure wB
   | ret v=>exact wpAny_pure wB
theorem BV{target:Expr}{it:Value}{body:List Stmt}
 (h:wpAny (model g.prog g.w) A (pyNext it) (fun r CA=>match r with
  | none=>R (.ok .next) CA
  | some v=>wpAny (model g.prog g.w) A (letOwnedTupleGo target it v) (fun u0 fI=>
   wpAny (model g.prog g.w) A (assign target env v) (fun u0 UA=>wpAny (model g.prog g.w) A (execs body env) (fun f TC=>match f with
    | .next | .cont=>codeAny (model g.prog g.w) A (.forLoop target it body [] env) R TC
    | .brk=>R (.ok .next) TC
    | .ret v=>R (.ok (.ret v)) TC) (notedBy (model g.prog g.w) A env fun e s'=>R (.error e) s') UA) (notedBy (model g.prog g.w) A env fun e s'=>R (.error e) s') fI)
   (notedBy (model g.prog g.w) A env fun e s'=>R (.error e) s') CA) (notedBy (model g.prog g.w) A env fun e s'=>R (.error e) s') s):
 codeAny (model g.prog g.w) A (.forLoop target it body [] env) R s:=by
 refine codeAny_of_tree ?_
 show wpAny _ A ((forTurn target it body [] env).onRaise (fun x=>do noteFrame x env;theTreesLotGoes x)) _ _ s
 refine wpAny_noted ?_
 simp only[forTurn]
 refine wpAny_bind (wpAny_standAt (wpAny_bind (wpAny_onRaise (wpAny_mono h (fun r CA tA=>?_) fun u0 u0 h'=>wpAny_standAt h'))))
 induction r using Option.casesOn with
 | none=>exact wpAny_pure ⟨rfl,codeAny_block (by rw[execs_nil];exact wpAny_pure tA)⟩
 | some v=>
   refine wpAny_bind (wpAny_mono tA (fun u0 fI Pd=>?_) fun u0 u0 h'=>h')
   refine wpAny_bind (wpAny_mono Pd (fun u0 UA ID=>wpAny_bind (wpAny_mono ID (fun f TC wB=>?_) fun u0 u0 h'=>h')) fun u0 u0 h'=>h')
   induction f using PySem.Flow.casesOn with
   | next=>exact wpAny_pure ⟨rfl,wB⟩
   | cont=>exact wpAny_pure ⟨rfl,wB⟩
   | brk=>exact wpAny_pure wB
   | ret v=>exact wpAny_pure wB
noncomputable def Ea(n:String):Bool:=n=="list_iterator"||n=="tuple_iterator"||n=="range_iterator"||n=="dict_keyiterator"||n=="enumerate"
noncomputable def mE:Value->Bool
 | .type n=>Ea n
 | _=>false
noncomputable def zN(h:Heap)(Y:List Addr):Prop:=∀y∈Y,∃o,h.get? y=some o/\mE o.cls=true
noncomputable def yL(Y:List Addr)(h h':Heap):Prop:=∀b o,b∉Y->h.get? b=some o->h'.get? b=some o
theorem yL.refl(Y:List Addr)(h:Heap):yL Y h h:=fun u0 u0 u0 e=>e
theorem yL.trans{Y:List Addr}{a b c:Heap}(x:yL Y a b)(y:yL Y b c):yL Y a c:=fun q o n e=>y q o n (x q o n e)
theorem IK{v:Value}(h:mE v=true):oF v=false/\v≠ .type "tuple"/\v≠ .type "frame"/\v≠ .type "traceback"/\v≠ .type "cell"/\v≠ .type "dict":=by
 induction v using Value.casesOn <;>first | exact Bool.noConfusion (show false=true from h) | skip
 have h:Ea _=true:=h
 simp only[Ea,Bool.or_eq_true,beq_iff_eq]at h
 rcases h with(((rfl | rfl) | rfl) | rfl) | rfl <;>refine⟨rfl,?_,?_,?_,?_,?_⟩ <;>decide
variable{Y:List Addr}
theorem zN.ne(H:zN s.heap Y){b:Addr}{o:Obj}(e:s.heap.get? b=some o)(n:mE o.cls=false):b∉Y:=fun m=>by
 obtain⟨o',e',q⟩:=H b m
 rw[e]at e';cases e';rw[n]at q;cases q
theorem zN.notin(S:St g s U J)(H:zN s.heap Y):∀y∈Y,y∉U:=fun y m=>by
 obtain⟨o,e,q⟩:=H y m
 exact S.notin e (IK q).1
theorem zN.noEnv(F:Fm g nm s U env Z)(H:zN s.heap Y):∀y∈Y,y∉EC env:=fun y m k=>by
 obtain⟨o,e,q⟩:=H y m
 obtain⟨_,_,h1,_,h2,h3⟩:=IK q
 rcases List.mem_cons.mp k with rfl | k
 ·obtain⟨o',e',c,_⟩:=F.lcls
  rw[e]at e';cases e'
  rcases c with c | c
  ·exact h1 c
  ·exact h3 c
 ·obtain⟨o',v,e',c,_⟩:=F.ccls y k
  rw[e]at e';cases e';exact h2 c
theorem zN.kept{h':Heap}{iA:List Addr}(S:St g s U J)(F:Fm g nm s U env Z)(H:zN s.heap Y)(T:KA s.heap h' U iA (EC env)):∀y o,y∈Y->s.heap.get? y=some o->h'.get? y=some o:=fun y o m e=>by
 obtain⟨o',e',q⟩:=H y m
 rw[e]at e';cases e'
 obtain⟨_,_,h1,h2,_,_⟩:=IK q
 obtain⟨o',e',k⟩:=T.keep y o e (zN.notin S H y m) (zN.noEnv F H y m)
 rw[k.eq h1 h2]at e';exact e'
theorem OE{o:Obj}{v:Value}(h:o.cls=v)(q:mE v=false):mE o.cls=false:=by rw[h];exact q
theorem vX{v:Value}(h:oF v=true):mE v=false:=by
 induction e:mE v using Bool.casesOn with
 | false=>rfl
 | true=>rw[(IK e).1]at h;cases h
theorem IsTup.but{h':Heap}(H:zN s.heap Y)(B:yL Y s.heap h'){a:Addr}{os:Array Value}(t:IsTup s.heap a os):IsTup h' a os:=by
 obtain⟨o,e,c,r⟩:=t
 exact⟨o,B a o (H.ne e (OE c rfl)) e,c,r⟩
theorem St.but(S:St g s U J)(H:zN s.heap Y)(hY:∀y∈Y,g.WA.get? y=none){h':Heap}(B:yL Y s.heap h')(t:Nat):St g {s with heap:=h',toks:=t} U J:=
 S.quiet (fun b o e e'=>B b o (fun m=>by rw[hY b m]at e;cases e) e') (fun b m=>by obtain⟨o,e,c⟩:=S.at m;exact(B b o (H.ne e (vX c)) e).trans e.symm)
   (fun a os t=>IsTup.but H B t) (fun b o e t=>⟨o,B b o (H.ne e (OE t.1 rfl)) e,t⟩) rfl rfl
theorem SA.but{h':Heap}(H:zN s.heap Y)(B:yL Y s.heap h'){v:V}{x:Value}(r:SA g s.heap U v x):SA g h' U v x:=
 SA.congr (fun u0 u0 t=>IsTup.but H B t) (fun u0 u0 e=>e) v x r
theorem KA.but{iA X:List Addr}{hs h':Heap}(T:KA hs s.heap U iA X)(hY:∀y∈Y,hs.get? y=none)(B:yL Y s.heap h'):KA hs h' U iA X:=by
 have out:∀b o,hs.get? b=some o->b∉Y:=fun b o e m=>by rw[hY b m]at e;cases e
 refine⟨T.pre,fun b o e n1 n2=>?_,fun b o e n1=>?_,fun b o e=>?_,fun a q=>?_⟩
 ·obtain⟨o',e',k⟩:=T.keep b o e n1 n2
  exact⟨o',B b o' (out b o e) e',k⟩
 ·obtain⟨o',e',k⟩:=T.shape b o e n1
  exact⟨o',B b o' (out b o e) e',k⟩
 ·obtain⟨o',e'⟩:=T.alive b o e
  exact⟨o',B b o' (out b o e) e'⟩
 ·obtain⟨o',_,_,_,e',_⟩:=id q
  obtain⟨x,vs,tb,c,e,r,u,v⟩:=T.tbs a q
  exact⟨x,vs,tb,c,B a x (out a o' e') e,r,u,v⟩
theorem Fm.but(F:Fm g nm s U env Z)(H:zN s.heap Y){h':Heap}(B:yL Y s.heap h')(t:Nat):Fm g nm {s with heap:=h',toks:=t} U env Z:=by
 refine⟨F.kind,F.glob,F.blt,F.frame,F.nodup,F.len,F.above,F.out,?_,fun c hc=>?_,F.once,?_⟩
 ·obtain⟨o,e,c,hd⟩:=F.lcls
  refine⟨o,B _ o (H.ne e ?_) e,c,hd⟩
  rcases c with c | c <;>exact OE c rfl
 ·obtain⟨o,v,e,c1,hd⟩:=F.ccls c hc
  exact⟨o,v,B _ o (H.ne e (OE c1 rfl)) e,c1,hd⟩
 ·obtain⟨m,⟨o,es,ep,e,hd,hk⟩,hv⟩:=F.vars
  refine⟨m,⟨o,es,ep,B _ o (H.ne e ?_) e,hd,hk⟩,fun i x v hx hs=>?_⟩
  ·obtain⟨o',e',c,_⟩:=F.lcls
   rw[e]at e';cases e'
   rcases c with c | c <;>exact OE c rfl
  ·obtain⟨w,hw,r⟩:=hv i x v hx hs
   refine⟨w,?_,r.but H B⟩
   rcases hw with q | ⟨k,c,hc,o',e',q⟩
   ·exact .inl q
   ·obtain⟨aa,Vg,BI,SN,_⟩:=F.ccls c (LC hc)
    rw[e']at BI;cases BI
    exact .inr ⟨k,c,hc,o',B _ o' (H.ne e' (OE SN rfl)) e',q⟩
end
section
variable{g:G}{s:Shared}{U:List Addr}{J:List O}{A:Around}{d:Nat}{hd:Option Nat}{env:Env}{c:CC}{Z:List (Option V)}{M:Model}{E:Value->Shared->Prop}
theorem AL{i:Nat}{id:Str}(X:Gd g c env)(h:c.isLoc i id=true):c.nm[i]?=some id.cps.toList/\(env.kindOf id=some .local\/env.kindOf id=some .cell/\∃a,env.cells.lookup id=some a):=by
 unfold CC.isLoc at h
 simp only[Bool.and_eq_true,beq_iff_eq]at h
 refine⟨h.1.1,?_⟩
 have hk:env.kindOf id=c.sc.names.lookup id:=by unfold Env.kindOf;rw[X.names]
 rw[hk]
 exact(vO h.2).imp (fun e=>e) fun e=>⟨e,X.cells _ (by rw[X.names];exact e)⟩
theorem bH{i:Nat}{id:Str}(X:Gd g c env)(h:c.isLocal i id=true):c.nm[i]?=some id.cps.toList/\env.kindOf id=some .local:=by
 unfold CC.isLocal at h
 simp only[Bool.and_eq_true,beq_iff_eq]at h
 refine⟨h.1.1,?_⟩
 have hk:env.kindOf id=c.sc.names.lookup id:=by unfold Env.kindOf;rw[X.names]
 exact hk.trans h.2
theorem NC{i:Nat}{id:Str}(h:c.isLocal i id=true):c.isLoc i id=true:=by
 unfold CC.isLocal at h
 unfold CC.isLoc
 simp only[Bool.and_eq_true,beq_iff_eq]at h ⊢
 exact⟨h.1,by rw[h.2];rfl⟩
theorem JK(t:Expr):lC (wJ t) fun id=>∃p,t= .Name id p:=by
 induction t using Expr.casesOn with
 | Name id p=>exact⟨_,rfl⟩
 | _=>trivial
theorem lC.get{α:Type}{o:Option α}{P:α->Prop}{a:α}(h:lC o P)(e:o=some a):P a:=by subst e;exact h
inductive zb(p:Nat->Str->Bool)(i:Nat)(is:List Nat)(ts:List Expr):Prop
 | mk (id:Str) (pos:Pos) (r:List Expr) (e:ts= .Name id pos::r) (h:p i id=true) (q:mF p is r=true)
theorem zA{p:Nat->Str->Bool}{i:Nat}{is:List Nat}{ts:List Expr}(h:mF p (i::is) ts=true):zb p i is ts:=by
 rcases ts with _ | ⟨t,r⟩
 ·exact Bool.noConfusion h
 ·have h:(match wJ t with | some id=>p i id&&mF p is r | none=>false)=true:=h
  rcases e:wJ t with _ | id
  ·rw[e]at h;exact Bool.noConfusion h
  ·rw[e]at h
   obtain⟨q,rfl⟩:=(JK t).get e
   exact⟨id,q,r,rfl,(Bool.and_eq_true_iff.mp h).1,(Bool.and_eq_true_iff.mp h).2⟩
theorem ZC{p:Nat->Str->Bool}{ts:List Expr}(h:mF p [] ts=true):ts=[]:=List.isEmpty_iff.mp h
theorem YG:∀(is:List Nat) {ts:List Expr},eB c is ts=true->oD c is ts=true
 | [],_,h=>h
 | i::is,ts,h=>by
   obtain⟨id,p,r,rfl,h1,h2⟩:=zA h
   exact Bool.and_eq_true_iff.mpr ⟨NC h1,YG is h2⟩
theorem iG(X:Gd g c env)(S:St g s U J)(F:Fm g c.nm s U env Z){i:Nat}{id:Str}(h:c.isLoc i id=true){v:V}{w:Value}(r:SA g s.heap U v w){Q:Unit->Shared->Prop}
 (k:∀h' t,St g {s with heap:=h',toks:=t} U J->Fm g c.nm {s with heap:=h',toks:=t} U env (Z.set i (some v))->KA s.heap h' U U (EC env)->Q () {s with heap:=h',toks:=t}):
 wpAny M A (storeName env id w) Q E s:=
 jJ S F (AL X h).1 (by simp) (AL X h).2 r k
theorem gV(X:Gd g c env):∀(is:List Nat) {ts:List Expr} {vs:List V} {xs:List Value} {Z:List (Option V)} {s:Shared},oD c is ts=true->vs.length=is.length->St g s U J->Fm g c.nm s U env Z->MA g s.heap U vs xs->
 ∀{Q:Unit->Shared->Prop},(∀h' t,St g {s with heap:=h',toks:=t} U J->Fm g c.nm {s with heap:=h',toks:=t} U env (rB Z is vs)->KA s.heap h' U U (EC env)->Q () {s with heap:=h',toks:=t})->
 wpAny M A (assignInOrder ((assignEach ts env).map (·.2)) xs) Q E s:=by
 intro is
 induction is with
 | nil=>
   intro ts vs xs Z s h hl S F rr Q k
   rw[ZC h]
   induction vs using List.casesOn with
   | cons _ _=>simp at hl
   | nil=>exact wpAny_pure (k s.heap s.toks S F (.refl ..))
 | cons i is ih=>
   intro ts vs xs Z s h hl S F rr Q k
   obtain⟨id,pos,r,rfl,h1,h2⟩:=zA h
   induction vs using List.casesOn with
   | nil=>simp at hl
   | cons v vs=>
     induction xs using List.casesOn with
     | nil=>exact rr.elim
     | cons x xs=>
       show wpAny M A (do holding xs (assign (.Name id pos) env x);assignInOrder ((assignEach r env).map (·.2)) xs) Q E s
       refine wpAny_bind (wpAny_holding (wpAny_assign_Name (iG X S F h1 rr.1 fun h' t S' F' T=>?_)))
       exact ih h2 (by simpa using hl) S' F' (rr.2.step S T F.noTup) fun h'' t' S'' F'' T'=>k h'' t' S'' F'' (T.trans T')
theorem RB{h h':Heap}(x:Heap.ExtBut h.objs.size h h'):∀b o,h.get? b=some o->h'.get? b=some o:=fun b o e=>
 x b o (Nat.ne_of_lt (Heap.lt_size e)) e
theorem vF(S:St g s U J)(hh:A.handled=none){n:Nat}{v:V}{vs:List V}{x:Value}(h:AG J n v=some vs)(r:SA g s.heap U v x){Q:List Value->Shared->Prop}
 (hq:∀h' xs,St g {s with heap:=h'} U J->KA s.heap h' U U []->MA g h' U vs xs->vs.length=n->(∀b o,s.heap.get? b=some o->h'.get? b=some o)->Q xs {s with heap:=h'}):wpAny (model g.prog g.w) A (unpackItems x n none) Q E s:=by
 induction v using V.casesOn with
 | tup ws=>
   have h:(if ws.length=n then some ws else none)=some vs:=h
   set_option tactic.hygienic true in split at h
   ·rename_i hl
    cases h
    obtain⟨a,os,rfl,t,z,r⟩:=r
    have hz:os.size=n:=by have:=r.len;simpa[hl]using this
    subst hz
    obtain⟨o,e,c1,m,dd⟩:=t
    refine wpAny_unpackItems_tuple hh ⟨o,e,c1,m,dd⟩ fun h' x=>?_
    have T:=KA.ext U (RB x) []
    exact hq h' _ (S.ext (RB x) s.toks) T (r.step0 S T) hl (RB x)
   ·cases h
 | loc l=>
   obtain⟨a,ha,rfl⟩:=r
   obtain⟨ws,hl,h⟩:=Option.bind_eq_some_iff.mp (h)
   ·set_option tactic.hygienic true in split at h
    ·rename_i hl'
     cases h
     obtain⟨a',os,m,ha',e,z,r⟩:=S.list hl
     rw[ha]at ha';cases ha'
     have hz:os.size=n:=by have:=r.len;simpa[hl']using this
     subst hz
     refine kun_itemsOf hh (vC e) fun h' x=>?_
     have T:=KA.ext U (RB x) []
     exact hq h' _ (S.ext (RB x) s.toks) T (r.step0 S T) hl' (RB x)
    ·cases h
 | _=>exact eE h
theorem ML(env:Env):∀(is:List Nat) {ts:List Expr},oD c is ts=true->(assignEach ts env).length=is.length/\(assignEach ts env).findIdx? (·.1)=none:=by
 intro is
 induction is with
 | nil=>intro ts h;rw[ZC h];exact⟨rfl,rfl⟩
 | cons i is ih=>
   intro ts h
   obtain⟨id,pos,r,rfl,h1,h2⟩:=zA h
   obtain⟨h1,h2⟩:=ih h2
   have:assignEach (.Name id pos::r) env=(false,assign (.Name id pos) env)::assignEach r env:=rfl
   rw[this]
   refine⟨by simp[h1],?_⟩
   simp[List.findIdx?_cons,h2]
theorem wN(X:Gd g c env)(S:St g s U J)(F:Fm g c.nm s U env Z)(hh:A.handled=none){is:List Nat}{ts:List Expr}{x1:Nat}{pos:Pos}{v:V}{vs:List V}{x:Value}(hn:oD c is ts=true)(h:AG J is.length v=some vs)(r:SA g s.heap U v x){Q:Unit->Shared->Prop}
 (k:∀h' t,St g {s with heap:=h',toks:=t} U J->Fm g c.nm {s with heap:=h',toks:=t} U env (rB Z is vs)->KA s.heap h' U U (EC env)->Q () {s with heap:=h',toks:=t}):
 wpAny (model g.prog g.w) A (assign (.Tuple ts x1 pos) env x) Q E s:=by
 obtain⟨n1,n2⟩:=ML env is hn
 rw[assign_Tuple]
 refine wpAny_bind (wpAny_standAt ?_)
 unfold unpack
 rw[n1,n2]
 refine wpAny_bind (wpAny_holding (vF S hh h r fun h' xs S' T rr hl u0=>?_))
 exact gV X is hn hl S' (F.step S T) rr fun h'' t S'' F'' T'=>k h'' t S'' F'' (T.x.trans T')
end
section
set_option backward.match.sparseCases true
section
variable{g:G}{s:Shared}{U:List Addr}{J:List O}{A:Around}{d:Nat}{hd:Option Nat}{env:Env}{c:CC}{Z:List (Option V)}{M:Model}{E:Value->Shared->Prop}
theorem XJ{a:Addr}{Cl:Addr}{dx:Option Addr}{vs:Array Value}(ho:s.heap.get? a=some {cls:= .ref Cl,dict:=dx,data:= .fields vs}){Q:Bool->Shared->Prop}(h:Q false s):wpAny M A (isType (.ref a)) Q E s:=by
 exact wpAny_bind (wpAny_loadPart ho (wpAny_pure h))
theorem zV(Y:VC g)(C:Cx g A s U d hd)(S:St g s U J){l:Nat}{a Cl:Addr}{dl:Nat}(he:J[l]?=some (.exc Cl dl))(ha:U[l]?=some a)(hh:hd=none\/hd=some l){x:Sem Value}{Q:Flow->Shared->Prop}{LB:Shared}
 (hx:∀R:Value->Shared->Prop,R (.ref a) s->wpAny (model g.prog g.w) A x R E LB)
 (h:∀h',St g {s with heap:=h'} U J->KA s.heap h' U U []->E (.ref a) {s with heap:=h'}):
 wpAny (model g.prog g.w) A (raiseStmt env (some x) none) Q E LB:=by
 obtain⟨_,dx,vs,hdx,ho,T⟩:=S.exc he ha
 obtain⟨e1,_,e2,e3⟩:=Y.exc Cl (S.xc he ha)
 have K:g.K.In s.heap:=Y.K.keeps S.base
 refine wpAny_bind (hx _ ?_)
 refine wpAny_bind (wpAny_pure ?_)
 refine wpAny_bind (wpAny_holding ?_)
 refine wpAny_bind (wpAny_bind (XJ ho ?_))
 rw[if_neg Bool.false_ne_true]
 refine wpAny_pure ?_
 rw[if_neg Bool.false_ne_true]
 refine wpAny_bind ?_
 refine wpAny_bind (wpAny_typeOf_ref ho ((looks_subIn K e1).here ?_))
 rw[if_pos rfl]
 refine wpAny_pure ?_
 refine wpAny_bind (XJ ho ?_)
 rw[if_neg Bool.false_ne_true]
 refine wpAny_bind ?_
 refine wpAny_bind (wpAny_typeOf_ref ho (wpAny_bind ((looks_typeIn K e2).here ?_)))
 rw[if_pos (by simp)]
 refine wpAny_pure ?_
 refine wpAny_bind (aD S he ha none fun h' S' T' tb=>?_)
 have hE:=h h' S' T'
 refine wpAny_bind (wpAny_handled ?_)
 have hc:=C.hand
 rcases hh with rfl | rfl
 ·rw[hc]
  exact wpAny_bind (wpAny_pure (wpAny_throw hE))
 ·obtain⟨a',q,r⟩:=hc
  rw[ha]at q;cases q
  rw[r]
  dsimp only
  rw[if_neg (by simp)]
  exact wpAny_bind (wpAny_pure (wpAny_throw hE))
theorem Fa(Y:VC g)(S:St g s U J){l:Nat}{a Cl:Addr}{dl:Nat}(he:J[l]?=some (.exc Cl dl))(ha:U[l]?=some a){Q:Bool->Shared->Prop}(h:Q true s):wpAny M A (excMatches (.ref a) (.ref Cl)) Q E s:=by
 obtain⟨_,dx,vs,hdx,ho,T⟩:=S.exc he ha
 obtain⟨e1,_,e2,e3⟩:=Y.exc Cl (S.xc he ha)
 have K:g.K.In s.heap:=Y.K.keeps S.base
 exact(exm_one K (fun A Q E s' k q=>wpAny_typeOf_ref (k _ _ ho) q) e3).here h
theorem lF:∀(is:List Nat) {ts:List Expr},eB c is ts=true->ts.length=is.length/\(wD ts).length=is.length:=by
 intro is
 induction is with
 | nil=>intro ts h;rw[ZC h];exact⟨rfl,rfl⟩
 | cons i is ih=>
   intro ts h
   obtain⟨id,pos,r,rfl,h1,h2⟩:=zA h
   obtain⟨h3,h4⟩:=ih h2
   exact⟨by simp[h3],by rw[show wD (.Name id pos::r)=id::wD r from rfl];simp[h4]⟩
noncomputable def cJ(env:Env)(line:Nat):Expr->Option Str
 | .Name id pos=>if env.kindOf id==some .local&&pos.line==line then some id else none
 | _=>none
theorem LQ(X:Gd g c env)(line:Nat):∀(is:List Nat) {ts:List Expr},eB c is ts=true->(ts.all fun t=>line==t.pos.line)=true->ts.filterMap (cJ env line)=wD ts:=by
 intro is
 induction is with
 | nil=>intro ts h _;rw[ZC h];rfl
 | cons i is ih=>
   intro ts h hl
   obtain⟨id,pos,r,rfl,h1,h2⟩:=zA h
   simp only[List.all_cons,Bool.and_eq_true,beq_iff_eq]at hl
   have h3:=ih h2 hl.2
   have hk:=(bH X h1).2
   have hp:pos.line=line:=hl.1.symm
   have:wD (.Name id pos::r)=id::wD r:=rfl
   rw[this,List.filterMap_cons,h3]
   rw[show cJ env line (.Name id pos)=if env.kindOf id==some .local&&pos.line==line then some id else none from rfl,hk,hp]
   simp
theorem uF(env:Env)(ts vs:List Expr)(k k':Nat)(p p':Pos):swappedStores [.Tuple ts k p] (.Tuple vs k' p') env=
 (if !(ts.length==2||ts.length==3)||vs.length !=ts.length||env.blockKind != .function then pure none else
  if vs.any IB then pure none else
  if(ts.filterMap (cJ env ((ts.head?.map (·.pos.line)).getD 0))).length !=ts.length||(ts.filterMap (cJ env ((ts.head?.map (·.pos.line)).getD 0))).eraseDups.length !=(ts.filterMap (cJ env ((ts.head?.map (·.pos.line)).getD 0))).length then pure none else
  if vs.all (foldedForSure 8)then pure none else
  if vs.all (constantsAlone 8)then(unsupported "assign.tuple-of-constant-expressions:order-of-the-stores":Sem Unit) >>= fun u0=>pure (some (ts.filterMap (cJ env ((ts.head?.map (·.pos.line)).getD 0))))else
  pure (some (ts.filterMap (cJ env ((ts.head?.map (·.pos.line)).getD 0))))):=by rfl
theorem dQ(X:Gd g c env)(hF:env.scope.kind= .function){is:List Nat}{ts vs:List Expr}{k k':Nat}{p p':Pos}(hn:eB c is ts=true)(hs:iL ts vs=true):
 swappedStores [.Tuple ts k p] (.Tuple vs k' p') env=pure (some (wD ts)):=by
 unfold iL at hs
 simp only[Bool.and_eq_true,Bool.not_eq_true',Bool.or_eq_true,beq_iff_eq]at hs
 obtain⟨⟨⟨⟨⟨⟨h1,h2⟩,h3⟩,h4⟩,h5⟩,h6⟩,h7⟩:=hs
 have hb:env.blockKind= .function:=by unfold Env.blockKind;rw[hF];rfl
 have hl:=lF is hn
 have hif:(!(ts.length==2||ts.length==3)||vs.length !=ts.length||env.blockKind != .function)=false:=by
  rw[hb,h3];rcases h2 with h2 | h2 <;>rw[h2] <;>rfl
 have hids:=LQ X _ is hn h4
 rw[uF,hids,hif,h5,h6,h7]
 have:((wD ts).length !=ts.length||(wD ts).eraseDups.length !=(wD ts).length)=false:=by
  rw[h1,hl.2,hl.1];simp
 rw[this]
 rfl
theorem FZ{M:Model}(X:Gd g c env)(S:St g s U J)(F:Fm g c.nm s U env Z){i j:Nat}{a b:Str}{v w:V}{x y:Value}(a1:c.isLocal i a=true)(b1:c.isLocal j b=true)(hij:i≠j)(r1:SA g s.heap U v x)(r2:SA g s.heap U w y){Q:Unit->Shared->Prop}
 (k:∀h' t,St g {s with heap:=h',toks:=t} U J->Fm g c.nm {s with heap:=h',toks:=t} U env ((Z.set i (some v)).set j (some w))->KA s.heap h' U U (EC env)->Q () {s with heap:=h',toks:=t}):
 wpAny M A (do holding [x] (bindName env b y);holding [] (bindName env a x);pure ()) Q E s:=by
 refine wpAny_bind (wpAny_holding (wpAny_bindName (iG X S F (NC b1) r2 fun tA SY DA aA GA=>?_)))
 refine wpAny_bind (wpAny_holding (wpAny_bindName (iG X DA aA (NC a1) (r1.step S GA F.noTup) fun ID MM XA vB bA=>wpAny_pure ?_)))
 exact k ID MM XA (by rw[List.set_comm _ _ hij];exact vB) (GA.trans bA)
theorem Me{M:Model}(X:Gd g c env)(S:St g s U J)(F:Fm g c.nm s U env Z){i j l:Nat}{a b e:Str}{v w u:V}{x y z:Value}(a1:c.isLocal i a=true)(b1:c.isLocal j b=true)(e1:c.isLocal l e=true)(hij:i≠j/\i≠l/\j≠l)(r1:SA g s.heap U v x)(r2:SA g s.heap U w y)(r3:SA g s.heap U u z){Q:Unit->Shared->Prop}
 (k:∀h' t,St g {s with heap:=h',toks:=t} U J->Fm g c.nm {s with heap:=h',toks:=t} U env (((Z.set i (some v)).set j (some w)).set l (some u))->KA s.heap h' U U (EC env)->Q () {s with heap:=h',toks:=t}):
 wpAny M A (do holding [y,x] (bindName env e z);holding [x] (bindName env b y);holding [] (bindName env a x);pure ()) Q E s:=by
 refine wpAny_bind (wpAny_holding (wpAny_bindName (iG X S F (NC e1) r3 fun tA SY DA aA GA=>?_)))
 refine FZ X DA aA a1 b1 hij.1 (r1.step S GA F.noTup) (r2.step S GA F.noTup) fun ID MM XA vB bA=>k ID MM XA ?_ (GA.trans bA)
 rw[List.set_comm _ _ hij.2.2,List.set_comm _ _ hij.2.1];exact vB
theorem Le{M:Model}(X:Gd g c env)(S:St g s U J)(F:Fm g c.nm s U env Z){is:List Nat}{ts:List Expr}{vs:List V}{xs:List Value}(hn:eB c is ts=true)(hnd:is.Nodup)(h23:ts.length=2\/ts.length=3)(hl:vs.length=is.length)(rr:MA g s.heap U vs xs){Q:Unit->Shared->Prop}
 (k:∀h' t,St g {s with heap:=h',toks:=t} U J->Fm g c.nm {s with heap:=h',toks:=t} U env (rB Z is vs)->KA s.heap h' U U (EC env)->Q () {s with heap:=h',toks:=t}):
 wpAny M A (assignInOrder ((wD ts).reverse.map fun n=>bindName env n) xs.reverse) Q E s:=by
 obtain⟨q1,q2⟩:=lF is hn
 rcases is with _ | ⟨i,_ | ⟨j,_ | ⟨l,_ | ⟨m,is⟩⟩⟩⟩
 ·rw[q1]at h23;exact absurd h23 (by decide)
 ·rw[q1]at h23;exact absurd h23 (by simp)
 ·obtain⟨a,p1,r,rfl,a1,hn2⟩:=zA hn
  clear hn
  obtain⟨b,p2,r,rfl,b1,hn⟩:=zA hn2
  clear hn2
  cases ZC hn
  rcases vs with _ | ⟨v,_ | ⟨w,_ | ⟨u,vs⟩⟩⟩
  ·exact absurd hl (by simp)
  ·exact absurd hl (by simp)
  ·obtain⟨x,y,rfl,r1,r2⟩:=rr.two
   have hij:i≠j:=fun e=>(List.nodup_cons.mp hnd).1 (by rw[e];exact .head _)
   exact FZ X S F a1 b1 hij r1 r2 k
  ·exact absurd hl (by simp)
 ·obtain⟨a,p1,r,rfl,a1,hn2⟩:=zA hn
  clear hn
  obtain⟨b,p2,r,rfl,b1,hn⟩:=zA hn2
  clear hn2
  obtain⟨e,p3,r,rfl,e1,hn2⟩:=zA hn
  clear hn
  cases ZC hn2
  rcases vs with _ | ⟨v,_ | ⟨w,_ | ⟨u,_ | ⟨u2,vs⟩⟩⟩⟩
  ·exact absurd hl (by simp)
  ·exact absurd hl (by simp)
  ·exact absurd hl (by simp)
  ·rcases xs with _ | ⟨x,xs⟩
   ·exact rr.elim
   obtain⟨r1,rr⟩:=rr
   obtain⟨y,z,rfl,r2,r3⟩:=MA.two rr
   have hij:i≠j/\i≠l/\j≠l:=by
    have h1:=List.nodup_cons.mp hnd
    have h2:=List.nodup_cons.mp h1.2
    exact⟨fun e=>h1.1 (by rw[e];exact .head _),fun e=>h1.1 (by rw[e];exact .tail _ (.head _)),fun e=>h2.1 (by rw[e];exact .head _)⟩
   exact Me X S F a1 b1 e1 hij r1 r2 r3 k
  ·exact absurd hl (by simp)
 ·rw[q1]at h23;simp only[List.length_cons]at h23;lia
end
end
noncomputable def NF{α:Type}(K:α->List (Option V)->List O->Prop)(v:α)(Z:List (Option V))(J:List O):Prop:=¬K v Z J
noncomputable def SB(g:G)(A:Around)(d:Nat)(hd:Option Nat)(c:CC)(env:Env)(b:ME)(body:List Stmt):Prop:=
 ∀{Z:List (Option V)} {J:List O} {K:Fl->List (Option V)->List O->Prop} {E:Nat->List (Option V)->List O->Prop},¬dB g d hd b Z J K E->∀{s:Shared} {U:List Addr},Cx g A s U d hd->St g s U J->Fm g c.nm s U env Z->
  wpAny (model g.prog g.w) A (execs body env) (UD g c.nm env s.heap U (NF K)) (lB g c.nm env s.heap U (NF E)) s
noncomputable def SS(g:G)(A:Around)(d:Nat)(hd:Option Nat)(c:CC)(env:Env)(b:IS)(st:Stmt):Prop:=
 ∀{Z:List (Option V)} {J:List O} {K:Fl->List (Option V)->List O->Prop} {E:Nat->List (Option V)->List O->Prop},¬dS g d hd b Z J K E->∀{s:Shared} {U:List Addr},Cx g A s U d hd->St g s U J->Fm g c.nm s U env Z->
  wpAny (model g.prog g.w) A (exec st env) (UD g c.nm env s.heap U (NF K)) (lB g c.nm env s.heap U (NF E)) s
noncomputable def Cf(g:G)(A:Around)(nm:List (List Nat))(env:Env)(target:Expr)(bind:List O->V->List (Option V)->Option (List (Option V))):Prop:=
 ∀{s:Shared} {U:List Addr} {J:List O} {Z oJ:List (Option V)} {v:V} {x:Value},St g s U J->Fm g nm s U env Z->bind J v Z=some oJ->SA g s.heap U v x->∀(Q:Unit->Shared->Prop) (E:Value->Shared->Prop),
  (∀h' t,St g {s with heap:=h',toks:=t} U J->Fm g nm {s with heap:=h',toks:=t} U env oJ->KA s.heap h' U U (EC env)->Q () {s with heap:=h',toks:=t})->wpAny (model g.prog g.w) A (assign target env x) Q E s
structure kY(g:G)(A:Around)(target:Expr)(it:Value)(Y:List Addr)(It:Nat->Heap->List Addr->Prop)(item:Nat->List O->Option V->Prop):Prop where
 hid:∀k h U,It k h U->zN h Y
 frame:∀(k:Nat) (s:Shared) (U:List Addr) (J:List O) (s':Shared) (iA:List Addr) (nm:List (List Nat)) (env:Env) (Z:List (Option V)),It k s.heap U->St g s U J->Fm g nm s U env Z->KA s.heap s'.heap U iA (EC env)->It k s'.heap iA
 other:∀(k:Nat) (h h':Heap) (U:List Addr),It k h U->(∀y o,y∈Y->h.get? y=some o->h'.get? y=some o)->(∀a os,IsTup h a os->IsTup h' a os)->It k h' U
 next:∀(k:Nat) (s:Shared) (U:List Addr) (J:List O),St g s U J->It k s.heap U->∀r,item k J r->∀(N:Shared->Prop) (K:Value->Shared->Prop) (E:Value->Shared->Prop),
  (r=none->∀h' t,yL Y s.heap h'->N {s with heap:=h',toks:=t})->
  (∀v,r=some v->∀h' t x,yL Y s.heap h'->It (k+1) h' U->SA g h' U v x->K x {s with heap:=h',toks:=t})->
  wpAny (model g.prog g.w) A (pyNext it) (fun r CA=>match r with
   | none=>N CA
   | some x=>wpAny (model g.prog g.w) A (letOwnedTupleGo target it x) (fun u0 UA=>K x UA) E CA) E s
section
variable{g:G}{A:Around}{d:Nat}{hd:Option Nat}{env:Env}{c:CC}
theorem uE{outer:List Env}(hf:A.frames=some (env::outer)){LB:Shared}{RA:List Addr}{LN:List O}(VK:Cx g A LB RA d hd)(VH:St g LB RA LN)
 {target:Expr} {it:Value} {Y:List Addr} {It:Nat->Heap->List Addr->Prop} {item:Nat->List O->Option V->Prop} (I:kY g A target it Y It item) (hY:∀y∈Y,LB.heap.get? y=none/\g.WA.get? y=none)
 {body:List Stmt} {b:ME} (hb:SB g A d hd c env b body) {bind:List O->V->List (Option V)->Option (List (Option V))}
 (hbind:Cf g A c.nm env target bind)
 {K:Fl->List (Option V)->List O->Prop} {E:Nat->List (Option V)->List O->Prop} {CG:List (Option V)} {HA:List O}
 (H:∀P:Nat->List (Option V)->List O->Prop,(∀k Z J,(∃r,item k J r/\match r with
  | none=>¬K .next Z J
  | some v=>∃oJ,bind J v Z=some oJ/\¬dB g d hd b oJ J (FH (fun Z J=>¬P (k+1) Z J) K) E)->P k Z J)->P 0 CG HA)
 {s:Shared} {U:List Addr} (S:St g s U HA) (F:Fm g c.nm s U env CG) (T:KA LB.heap s.heap RA U (EC env)) (hIt:It 0 s.heap U):
 codeAny (model g.prog g.w) A (.forLoop target it body [] env) (fun r s'=>match r with | .ok f=>UD g c.nm env LB.heap RA (NF K) f s' | .error e=>cameBackBy (model g.prog g.w) A env (lB g c.nm env LB.heap RA (NF E)) e s') s:=by
 refine H (fun k Z J=>∀s U,St g s U J->Fm g c.nm s U env Z->KA LB.heap s.heap RA U (EC env)->It k s.heap U->codeAny (model g.prog g.w) A (.forLoop target it body [] env)
  (fun r s'=>match r with | .ok f=>UD g c.nm env LB.heap RA (NF K) f s' | .error e=>cameBackBy (model g.prog g.w) A env (lB g c.nm env LB.heap RA (NF E)) e s') s) ?_ s U S F T hIt
 clear H S F T hIt s U
 rintro k Z J ⟨r,hr,hq⟩ s U S F T hIt
 refine BV ?_
 have hH:=I.hid _ _ _ hIt
 refine wpAny_mono (I.next k s U J S hIt r hr (UD g c.nm env LB.heap RA (NF K) .next) (fun v fI=>
  wpAny (model g.prog g.w) A (assign target env v) (fun u0 UA=>wpAny (model g.prog g.w) A (execs body env) (fun f TC=>match f with
   | .next | .cont=>codeAny (model g.prog g.w) A (.forLoop target it body [] env) (fun r s'=>match r with | .ok f=>UD g c.nm env LB.heap RA (NF K) f s' | .error e=>cameBackBy (model g.prog g.w) A env (lB g c.nm env LB.heap RA (NF E)) e s') TC
   | .brk=>UD g c.nm env LB.heap RA (NF K) .next TC
   | .ret v=>UD g c.nm env LB.heap RA (NF K) (.ret v) TC) (notedBy (model g.prog g.w) A env fun e s'=>cameBackBy (model g.prog g.w) A env (lB g c.nm env LB.heap RA (NF E)) e s') UA) (notedBy (model g.prog g.w) A env fun e s'=>cameBackBy (model g.prog g.w) A env (lB g c.nm env LB.heap RA (NF E)) e s') fI)
  (notedBy (model g.prog g.w) A env fun e s'=>cameBackBy (model g.prog g.w) A env (lB g c.nm env LB.heap RA (NF E)) e s') (fun e h' t B=>?_) (fun v e h' t x B hIt' rv=>?_)) (fun r CA p=>by induction r using Option.casesOn <;>exact p) fun u0 u0 e=>e
 ·subst e
  exact⟨.next,Z,J,U,hq,rfl,S.but hH (fun y m=>(hY y m).2) B t,F.but hH B t,T.but (fun y m=>(hY y m).1) B⟩
 ·subst e
  obtain⟨oJ,hbd,hw⟩:=hq
  have DA:=S.but hH (fun y m=>(hY y m).2) B t
  have aA:=F.but hH B t
  have GA:=T.but (fun y m=>(hY y m).1) B
  refine hbind DA aA hbd rv _ _ fun ID MM XA vB bA=>?_
  have T':=GA.trans bA
  have KQ:=I.frame _ _ _ _ {s with heap:=ID,toks:=MM} _ _ _ _ hIt' DA aA bA
  refine wpAny_mono (hb hw (VK.step VH T') XA vB) (fun f TC p=>?_) fun e TC p=>(p.from T').out VK VH hf
  obtain⟨fl,NZ,TH,gE,q,rf,KB,ZF,GB⟩:=p
  have tC:=T'.trans GB
  induction fl using Fl.casesOn with
  | next=>
    subst rf
    exact nn q TC gE KB ZF tC (I.frame _ _ _ _ TC _ _ _ _ KQ XA vB GB)
  | brk=>subst rf;exact⟨.next,NZ,TH,gE,q,rfl,KB,ZF,tC⟩
  | ret v=>obtain⟨x,rfl,r⟩:=rf;exact⟨.ret v,NZ,TH,gE,q,⟨x,rfl,r⟩,KB,ZF,tC⟩
variable{s:Shared}{U:List Addr}{J:List O}{E:Value->Shared->Prop}{M:Model}
theorem TI{target:Expr}{y:Addr}{x:Value}{o:Obj}{Q:Unit->Shared->Prop}(ho:s.heap.get? y=some o){n:String}(hc:o.cls= .type n)(hn:(["enumerate","zip","dict_itemiterator","dict_reverseitemiterator","odict_iterator","itertools.zip_longest","itertools.pairwise"].contains n)=false)(h:Q () s):
 wpAny M A (letOwnedTupleGo target (.ref y) x) Q E s:=by
 obtain⟨oc,od,o3,o4⟩:=o
 subst hc
 induction target using Expr.casesOn <;>first
  | exact wpAny_pure h
  | (induction x using Value.casesOn <;>first
   | exact wpAny_pure h
   | (refine wpAny_bind (wpAny_load ho ?_)
      induction o3 using PySem.Data.casesOn <;>first
      | exact wpAny_pure h
      | (dsimp only;rw[hn,Bool.false_and,if_neg Bool.false_ne_true];exact wpAny_pure h)))
theorem WF{nm:List (List Nat)}{Z:List (Option V)}{s':Shared}{iA:List Addr}(S:St g s U J)(F:Fm g nm s U env Z)(T:KA s.heap s'.heap U iA (EC env)){y:Addr}{o:Obj}(ho:s.heap.get? y=some o)(hc:mE o.cls=true):s'.heap.get? y=some o:=
 zN.kept (Y:=[y]) S F (fun y' m=>by rw[List.mem_singleton.mp m];exact⟨o,ho,hc⟩) T y o (List.mem_singleton.mpr rfl) ho
theorem WC{y:Addr}{h h':Heap}(x:Heap.SameBut y h h'):yL [y] h h':=fun b o n e=>(x.2 b fun q=>n (by simp[q])).trans e
theorem eF{y:Addr}{h h':Heap}(x:Heap.ExtBut y h h'):yL [y] h h':=fun b o n e=>x b o (fun q=>n (by simp[q])) e
theorem EL(hh:A.handled=none){target:Expr}{y a:Addr}{l:Nat}:
 kY g A target (.ref y) [y] (fun k h U=>U[l]?=some a/\h.IsListIter y a k) (fun k J r=>∃vs,rA J l=some vs/\r=vs[k]?) where
 hid:=fun k h U ⟨_,o,e,c,_⟩ y' m=>by rw[List.mem_singleton.mp m];exact⟨o,e,by rw[c];rfl⟩
 frame:=fun k s U J s' iA nm env Z ⟨q,o,e,c,dd⟩ S F T=>⟨T.loc _ _ q,o,WF S F T e (by rw[c];rfl),c,dd⟩
 other:=fun k h h' U ⟨q,o,e,c,dd⟩ hy u0=>⟨q,o,hy _ _ (List.mem_singleton.mpr rfl) e,c,dd⟩
 next:=by
  rintro k s U J S ⟨ha,hit⟩ r ⟨vs,hl,rfl⟩ N K E h1 h2
  obtain⟨a',os,n,ha',ho,hz,rr⟩:=S.list hl
  rw[ha]at ha';cases ha'
  induction hk:vs[k]? using Option.casesOn with
  | none=>
    have:os[k]?=none:=by
     have:=rr.len
     rw[Array.length_toList]at this
     rw[Array.getElem?_eq_none];have:=List.getElem?_eq_none_iff.mp hk;lia
    exact wpAny_pyNext_list_end hh hit (vC ho) this fun h' x=>h1 hk h' s.toks (eF x)
  | some v=>
    obtain⟨x,hx,rv⟩:=rr.get hk
    have hx':os[k]?=some x:=by rw[<-Array.getElem?_toList];exact hx
    refine wpAny_pyNext_list_item hit (vC ho) hx' fun h' hit' hs=>?_
    obtain⟨o',e',c',d'⟩:=id hit'
    refine TI e' c' (by decide) ?_
    have B:=WC hs
    obtain⟨o,e,c,dd⟩:=hit
    exact h2 v hk h' s.toks x B ⟨ha,hit'⟩ (rv.but (fun y' m=>by rw[List.mem_singleton.mp m];exact⟨o,e,by rw[c];rfl⟩) B)
theorem xI(hh:A.handled=none){target:Expr}{y a:Addr}{vs:List V}{os:Array Value}:
 kY g A target (.ref y) [y] (fun k h U=>h.IsTupleIter y a k/\IsTup h a os/\MA g h U vs os.toList) (fun k J r=>r=vs[k]?) where
 hid:=fun k h U ⟨⟨o,e,c,_⟩,_⟩ y' m=>by rw[List.mem_singleton.mp m];exact⟨o,e,by rw[c];rfl⟩
 frame:=fun k s U J s' iA nm env Z ⟨⟨o,e,c,dd⟩,t,rr⟩ S F T=>⟨⟨o,WF S F T e (by rw[c];rfl),c,dd⟩,T.tup F.noTup S.ownAll t,rr.step S T F.noTup⟩
 other:=fun k h h' U ⟨⟨o,e,c,dd⟩,t,rr⟩ hy ht=>⟨⟨o,hy _ _ (List.mem_singleton.mpr rfl) e,c,dd⟩,ht _ _ t,MA.congr ht (fun u0 u0 e=>e) _ _ rr⟩
 next:=by
  rintro k s U J S ⟨hit,ht,rr⟩ r rfl N K E h1 h2
  have ht':s.heap.IsTuple a os:=by obtain⟨o,e,c,n,dd⟩:=ht;exact⟨o,e,c,n,dd⟩
  have H:zN s.heap [y]:=fun y' m=>by obtain⟨o,e,c,_⟩:=hit;rw[List.mem_singleton.mp m];exact⟨o,e,by rw[c];rfl⟩
  induction hk:vs[k]? using Option.casesOn with
  | none=>
    have:os[k]?=none:=by
     have:=rr.len
     rw[Array.length_toList]at this
     rw[Array.getElem?_eq_none];have:=List.getElem?_eq_none_iff.mp hk;lia
    exact wpAny_pyNext_tuple_end hh hit ht' this fun h' x=>h1 hk h' s.toks (eF x)
  | some v=>
    obtain⟨x,hx,rv⟩:=rr.get hk
    have hx':os[k]?=some x:=by rw[<-Array.getElem?_toList];exact hx
    refine wpAny_pyNext_tuple_item hit ht' hx' fun h' hit' hs=>?_
    obtain⟨o',e',c',d'⟩:=id hit'
    refine TI e' c' (by decide) ?_
    have B:=WC hs
    exact h2 v hk h' s.toks x B ⟨hit',IsTup.but H B ht,MA.congr (fun u0 u0 t=>IsTup.but H B t) (fun u0 u0 e=>e) _ _ rr⟩ (rv.but H B)
theorem VL{lo hi:Int}:Builtin.Range.rangeSize lo hi 1=if lo < hi then hi - lo else 0:=by
 unfold Builtin.Range.rangeSize
 simp only[show(1:Int)>0 from by decide,if_true,Int.ediv_one]
 split
 ·lia
 ·rfl
theorem wI(hh:A.handled=none){target:Expr}{y:Addr}{lo hi:Int}:
 kY g A target (.ref y) [y] (fun k h U=>IsRangeIter h y (lo+(k:Int)) (Builtin.Range.rangeSize lo hi 1 - (k:Int)) 1) (fun k J r=>r=if lo+(k:Int) < hi then some (.int (lo+(k:Int)))else none) where
 hid:=fun k h U e y' m=>by rw[List.mem_singleton.mp m];exact⟨_,e,rfl⟩
 frame:=fun k s U J s' iA nm env Z e S F T=>WF S F T e rfl
 other:=fun k h h' U e hy u0=>hy _ _ (List.mem_singleton.mpr rfl) e
 next:=by
  rintro k s U J S hit r rfl N K E h1 h2
  by_cases hk:lo+(k:Int) < hi
  ·have hl:Builtin.Range.rangeSize lo hi 1=hi - lo:=by rw[VL,if_pos (by lia)]
   refine wpAny_pyNext_range_item hit (by lia) fun h' hit' hs=>?_
   refine TI (n:="range_iterator") hit' rfl (by decide) ?_
   refine h2 _ (if_pos hk) h' _ _ (WC hs) ?_ ⟨_,rfl⟩
   have e1:lo+((k+1:Nat):Int)=lo+(k:Int)+1:=by lia
   have e2:Builtin.Range.rangeSize lo hi 1 - ((k+1:Nat):Int)=Builtin.Range.rangeSize lo hi 1 - (k:Int) - 1:=by lia
   rw[e1,e2];exact hit'
  ·refine wpAny_pyNext_range_end hh hit ?_ fun h' x=>h1 (if_neg hk) h' s.toks (eF x)
   rw[VL]
   split <;>lia
theorem cB.get{h:Heap}:∀{kvs:List (List Nat×V)} {ps:List (Str×Value)},cB g h U kvs ps->∀{i:Nat} {kv},kvs[i]?=some kv->∃p,ps[i]?=some p/\Ac g h U kv p
 | [],[],_,i,v,e=>by simp at e
 | v::vs,x::xs,⟨a,b⟩,i,w,e=>by
   induction i using Nat.casesOn with
   | zero=>simp at e;subst e;exact⟨x,rfl,a⟩
   | succ i=>simpa using cB.get b (i:=i) (kv:=w) (by simpa using e)
 | [],_::_,r,_,_,_=>r.elim
 | _::_,[],r,_,_,_=>r.elim
theorem tO(hh:A.handled=none){target:Expr}{y a:Addr}{l:Nat}{kvs:List (List Nat×V)}{ep:Nat}:
 kY g A target (.ref y) [y] (fun k h U=>U[l]?=some a/\h.IsKeyIter y a k kvs.length ep) (fun k J r=>J[l]?=some (.dict kvs ep)/\r=kvs[k]?.map (fun kv=> .str kv.1)) where
 hid:=fun k h U ⟨_,o,e,c,_⟩ y' m=>by rw[List.mem_singleton.mp m];exact⟨o,e,by rw[c];rfl⟩
 frame:=fun k s U J s' iA nm env Z ⟨q,o,e,c,dd⟩ S F T=>⟨T.loc _ _ q,o,WF S F T e (by rw[c];rfl),c,dd⟩
 other:=fun k h h' U ⟨q,o,e,c,dd⟩ hy u0=>⟨q,o,hy _ _ (List.mem_singleton.mpr rfl) e,c,dd⟩
 next:=by
  rintro k s U J S ⟨ha,hit⟩ r ⟨hl,rfl⟩ N K E h1 h2
  obtain⟨ps,D,hz,rr⟩:=S.objs l a _ ha hl
  have hlen:=rr.len
  rw[<-hlen]at hit h2
  induction hk:kvs[k]? using Option.casesOn with
  | none=>
    have:ps[k]?=none:=by
     rw[List.getElem?_eq_none_iff]at hk ⊢;exact Nat.le_trans (eL hlen) hk
    exact wpAny_pyNext_dict_end hh hit D this fun h' x=>h1 (by rw[hk];rfl) h' s.toks (eF x)
  | some kv=>
    obtain⟨p,hx,⟨r1,r2,r3,r4⟩⟩:=rr.get hk
    obtain⟨p1,p2⟩:=p
    refine wpAny_pyNext_dict_item hit D hx fun key h' hkey hit' hs=>?_
    obtain⟨o',e',c',d'⟩:=id hit'
    refine TI e' c' (by decide) ?_
    have B:=WC hs
    obtain⟨t,rfl⟩:=Value.isStrOf_shape hkey
    have r1':p1=⟨kv.1.toArray⟩:=r1
    subst r1'
    exact h2 (.str kv.1) (by rw[hk];rfl) h' s.toks _ B ⟨ha,hit'⟩ ⟨t,rfl,r2,r3⟩
theorem PV(hh:A.handled=none){elts:List Expr}{x1:Nat}{pos:Pos}{e y a:Addr}(hne:e≠y){l:Nat}:
 kY g A (.Tuple elts x1 pos) (.ref e) [e,y] (fun k h U=>U[l]?=some a/\h.IsListIter y a k/\∃old,IsEnum h e y (k:Int) old) (fun k J r=>∃vs,rA J l=some vs/\r=vs[k]?.map fun v=> .tup [.int (k:Int),v]) where
 hid:=fun k h U ⟨_,⟨o,q,c,_⟩,old,he⟩ y' m=>by
  rcases List.mem_cons.mp m with rfl | m
  ·exact⟨_,he,rfl⟩
  ·rw[List.mem_singleton.mp m];exact⟨o,q,by rw[c];rfl⟩
 frame:=fun k s U J s' iA nm env Z ⟨q,⟨o,e,c,dd⟩,old,he⟩ S F T=>⟨T.loc _ _ q,⟨o,WF S F T e (by rw[c];rfl),c,dd⟩,old,WF S F T he rfl⟩
 other:=fun k h h' U ⟨q,⟨o,e,c,dd⟩,old,he⟩ hy u0=>⟨q,⟨o,hy _ _ (by simp) e,c,dd⟩,old,hy _ _ (by simp) he⟩
 next:=by
  rintro k s U J S ⟨ha,hit,old,he⟩ r ⟨vs,hl,rfl⟩ N K E h1 h2
  obtain⟨a',os,n,ha',ho,hz,rr⟩:=S.list hl
  rw[ha]at ha';cases ha'
  induction hk:vs[k]? using Option.casesOn with
  | none=>
    have:os[k]?=none:=by
     have:=rr.len
     rw[Array.length_toList]at this
     rw[Array.getElem?_eq_none];have:=List.getElem?_eq_none_iff.mp hk;lia
    exact wpAny_pyNext_enum_end hh he hit (vC ho) this fun h' x=>h1 (by rw[hk];rfl) h' s.toks fun b o n e=>x b o (fun q=>n (by simp[q])) e
  | some v=>
    obtain⟨x,hx,rv⟩:=rr.get hk
    have hx':os[k]?=some x:=by rw[<-Array.getElem?_toList];exact hx
    refine wpAny_pyNext_enum_item he hit (vC ho) hx' hne fun h' he' hit' htup hsz hkeep=>?_
    refine wpAny_letOwnedTupleGo_enum he' fun h'' he'' hs=>?_
    have B:yL [e,y] s.heap h'':=fun b o n q=>(hs.2 b fun z=>n (by simp[z])).trans (hkeep b o (fun z=>n (by simp[z])) (fun z=>n (by simp[z])) q)
    have H:zN s.heap [e,y]:=fun y' m=>by
     rcases List.mem_cons.mp m with rfl | m
     ·exact⟨_,he,rfl⟩
     ·obtain⟨o,q,c,_⟩:=hit;rw[List.mem_singleton.mp m];exact⟨o,q,by rw[c];rfl⟩
    have hte:s.heap.objs.size≠e:=fun q=>by
     have:=Heap.lt_size he;rw[<-q]at this;exact Nat.lt_irrefl _ this
    refine h2 (.tup [.int (k:Int),v]) (by rw[hk];rfl) h'' _ _ B ⟨ha,?_,x,?_⟩ ⟨_, #[.int (k:Int) s.toks,x],rfl,⟨_,(hs.2 _ hte).trans htup,rfl,0,rfl⟩,by simp,⟨_,rfl⟩,rv.but H B,trivial⟩
    ·obtain⟨o,q,r⟩:=hit'
     exact⟨o,(hs.2 _ (Ne.symm hne)).trans q,r⟩
    ·exact he''
end
section
open Sem (wp)
inductive xQ(g:G)(h:Heap)(U:List Addr)(Q:List O->Prop)(s':Shared):Prop
 | mk (NA:List O) (iA:List Addr) (q:Q NA) (S:St g s' iA NA) (T:KA h s'.heap U iA [])
section
variable{g:G}{A:Around}{d:Nat}{hd:Option Nat}{env:Env}{c:CC}{s:Shared}{U:List Addr}{J:List O}{Z:List (Option V)}{E:Value->Shared->Prop}
theorem PP(self:Value):∀{l:List Value},VI l=true->refuseLoop self "__setattr__" l=pure ():=by
 intro l
 induction l with
 | nil=>intro e;exact absurd e (by decide)
 | cons v r ih=>
   intro e
   have e:(match WL v with | some _=>VI r | none=>qN (v::r))=true:=e
   rcases q:WL v with _ | c
   rotate_left
   ·rw[q]at e
    rw[YL q,refuseLoop_ref];exact ih e
   ·rw[q]at e
    have e':(v::r==[.type "object"]||v::r==[.type "Exception", .type "BaseException", .type "object"])=true:=e
    simp only[Bool.or_eq_true,beq_iff_eq]at e'
    rcases e' with e' | e'
    ·rw[e'];exact refuse_only self rfl
    ·rw[e'];exact PySem.F.store_Exception.passes self
theorem kJ{prog:Program}{w:World}{K:Frag}{x C:Addr}{ox:Obj}{od:Option Obj}{n:List Nat}{v:Value}{Q:Unit->Shared->Prop}(X:K.In s.heap)(I:InstAt s.heap x ox C od)(hs:fJ K C n=true)
 (h:∀cd b,clsIn K C=some cd->cd.hasDict=true->wpAny (model prog w) A.in1 (PySem.Builtin.ObjectAttr.storeInOwnDict (.ref x) (.ref C) (.str ⟨n.toArray⟩ s.toks) ⟨n.toArray⟩ v b) (fun fin s'=>match fin with | .done (.ret _)=>Q () s' | _=>False) E {s with toks:=s.toks+1}):
 wpAny (model prog w) A (setAttr (.ref x) ⟨n.toArray⟩ v) Q E s:=by
 unfold fJ at hs
 simp only[Bool.and_eq_true,beq_iff_eq]at hs
 obtain⟨⟨⟨⟨s1,s2⟩,s3⟩,s4⟩,s5⟩:=hs
 refine set_plain X I s1 ?_
 have SF:=PySem.F.store_object
 obtain⟨cd,hc,ho⟩:=any_some s2
 obtain⟨cd',hc',hh⟩:=RM s5
 rw[hc]at hc';cases hc'
 obtain⟨hp,gg,dr,tk,oo⟩:=s
 have sub:Looks (model prog w) hp (isInstance (.ref x) (.type "object")) true:=(I.type (M:=model prog w)).andThen (looks_subIn X s3)
 refine codeAny_call_builtin SF.slot.plain SF.entry (@check_slot (model prog w) _ _ ⟨hp,gg,dr,tk+1,oo⟩ "object.__setattr__" "object" "__setattr__" (.ref x) [.str ⟨n.toArray⟩ tk,v] [] _ SF.kind SF.split sub (SF.args (.ref x) (.str ⟨n.toArray⟩ tk) v) ?_)
 obtain⟨attr,ha,hr⟩:=Option.bind_eq_some_iff.mp s4
 have hm:Looks (model prog w) hp (mroOf (.ref C)) cd.mro:=(looks_clsIn X hc).andThen .now
 have L3:Looks (model prog w) hp (PySem.Builtin.ObjectAttr.storeTaker? attr) none:=by
  induction attr using Option.casesOn with
  | none=>exact .now
  | some a=>
    obtain⟨b,hb,hr'⟩:=Option.map_eq_some_iff.mp hr
    refine(looks_takesIn X hb).andThen ?_
    cases b
    ·exact .now
    ·cases hr'
 rw[osa_eq,refuse_eq]
 refine wpAny_bind (wpAny_bind ((I.type (M:=model prog w)).at (wpAny_bind (hm.at ?_))))
 rw[PP _ ho]
 refine wpAny_pure (wpAny_bind ((I.type (M:=model prog w)).at (wpAny_bind ((looks_findIn (M:=model prog w) X ha).at (wpAny_bind (L3.at ?_))))))
 refine wpAny_mono (h cd _ hc hh) (fun fin s' p=>?_) fun u0 u0 e=>e
 rcases fin with(_ | _ | _ | _) | _ <;>first | exact p | exact p.elim
theorem xT{prog:Program}{w:World}{K:Frag}{x C:Addr}{ox od:Obj}{dx:Addr}{m:Str->Option Value}{n:List Nat}{v:Value}{Q:Unit->Shared->Prop}(X:K.In s.heap)(I:InstAt s.heap x ox C (some od))(hd:ox.dict=some dx)(hs:fJ K C n=true)(hn:s.heap.Ns dx m)
 (hsz:∀es k,od.data= .dict es k->es.size<=1000)
 (h:∀h',h'.Ns dx (fun x=>if x=⟨n.toArray⟩then some v else m x)->Heap.SameBut dx s.heap h'->(∀o es n',s.heap.get? dx=some o->o.data= .dict es n'->∃o' es' n'',h'.get? dx=some o'/\o'.cls=o.cls/\o'.data= .dict es' n''/\es'.size<=es.size+1/\(m ⟨n.toArray⟩≠none->es'.size<=es.size))->∀t,Q () {s with heap:=h',toks:=t}):
 wpAny (model prog w) A (setAttr (.ref x) ⟨n.toArray⟩ v) Q E s:=by
 refine kJ X I hs fun cd b hc hh=>?_
 obtain⟨hp,gg,dr,tk,oo⟩:=s
 obtain⟨hx,hcl,hno,hdo⟩:=I
 obtain⟨oc,odi,oda,osl⟩:=ox
 dsimp only at hcl hd
 subst hcl hd
 refine wpAny_bind (wpAny_pure (wpAny_bind (wpAny_bind (wpAny_loadPart hx (wpAny_bind ((looks_clsIn (M:=model prog w) X hc).at ?_))))))
 rw[hh]
 refine wpAny_pure (a:=some dx) (wpAny_bind (wpAny_pure (wpAny_bind ?_)))
 refine yI (s:=⟨hp,gg,dr,tk+1,oo⟩) hn fun h' hn' hs' hz=>?_
 have hdo':hp.get? dx=some od:=hdo
 obtain⟨aa,vf,Sg,BI,Bd,La,_⟩:=id hn
 rw[hdo']at BI;cases BI
 obtain⟨o',es',n',ho',_,hd',hz',_⟩:=hz _ _ _ hdo' Bd
 have:=hsz _ _ Bd
 refine wpAny_bind (wpAny_lookBehind ho' (by rw[hd'];exact pastItsLine_dict (by rw[LA];exact rC this hz')) ?_)
 exact wpAny_pure (h h' hn' hs' hz _)
theorem wT{prog:Program}{w:World}{K:Frag}{x C:Addr}{vs:Array Value}{n:List Nat}{v:Value}{Q:Unit->Shared->Prop}(X:K.In s.heap)(ho:s.heap.get? x=some {cls:= .ref C,data:= .fields vs})(hs:fJ K C n=true)
 (h:∀h',h'.Ns s.heap.objs.size (fun y=>if y=⟨n.toArray⟩then some v else none)->Heap.SameBut s.heap.objs.size ((s.heap.push emptyDict).update x (fun o=>{o with dict:=some s.heap.objs.size})) h'->(∃o' es' n',h'.get? s.heap.objs.size=some o'/\o'.cls= .type "dict"/\o'.data= .dict es' n'/\es'.size<=1)->∀t,Q () {s with heap:=h',toks:=t}):
 wpAny (model prog w) A (setAttr (.ref x) ⟨n.toArray⟩ v) Q E s:=by
 refine kJ X (od:=none) ⟨ho,rfl,rfl,trivial⟩ hs fun cd b hc hh=>?_
 obtain⟨hp,gg,dr,tk,oo⟩:=s
 refine wpAny_bind (wpAny_pure (wpAny_bind (wpAny_bind (wpAny_loadPart ho (wpAny_bind ((looks_clsIn (M:=model prog w) X hc).at ?_))))))
 rw[hh]
 have vK:(hp.push emptyDict).get? x=some {cls:= .ref C,data:= .fields vs}:=Heap.get?_push_of_some _ ho
 have hne:x≠hp.objs.size:=Nat.ne_of_lt (Heap.lt_size ho)
 have eM:((hp.push emptyDict).update x (fun o=>{o with dict:=some hp.objs.size})).get? hp.objs.size=some emptyDict:=(Heap.get?_update_other _ _ hne).trans (Heap.get?_push_size _ rfl)
 refine wpAny_bind (wpAny_alloc (wpAny_bind (wpAny_update vK (wpAny_bind (wpAny_pure (wpAny_pure ?_))))))
 refine wpAny_bind (wpAny_pure (wpAny_bind ?_))
 refine yI (s:=⟨(hp.push emptyDict).update x (fun o=>{o with dict:=some hp.objs.size}),gg,dr,tk+1,oo⟩) (m:=fun u0=>none) ⟨_, #[],0,eM,rfl,fun e he=>by simp at he,fun name=>rfl⟩ fun h' hn' hs' hz=>?_
 obtain⟨o',es',n',ho',hcl',hd',hz',_⟩:=hz _ _ _ eM rfl
 refine wpAny_bind (wpAny_lookBehind ho' (by rw[hd'];exact pastItsLine_dict (by simp at hz';rw[LA];exact kC hz')) ?_)
 exact wpAny_pure (h h' hn' hs' ⟨o',es',n',ho',hcl',hd',by simpa using hz'⟩ _)
theorem oM(k:List Nat)(v:V):∀(kvs:List (List Nat×V)) (k':List Nat),QA k' (BB k v kvs)=if k'=k then some v else QA k' kvs
 | [],k'=>by
   by_cases h:k=k'
   ·subst h;simp[BB.r1,BB.r2,QA.r1,QA.r2]
   ·have h':¬k'=k:=fun e=>h e.symm
    simp[BB.r1,BB.r2,QA.r1,QA.r2,h,h']
 | (a,b)::r,k'=>by
   (first | rw[BB.r1] | rw[BB.r2])
   have ih:=oM k v r k'
   split
   ·rename_i e
    subst e
    by_cases h:a=k'
    ·subst h;simp[QA.r1,QA.r2]
    ·have h':¬k'=a:=fun e=>h e.symm
     simp[QA.r1,QA.r2,h,h']
   ·rename_i e
    by_cases h:a=k'
    ·subst h;simp[QA.r1,QA.r2,e]
    ·simp[QA.r1,QA.r2,h,ih]
theorem vM{k:List Nat}{v:V}:∀{kvs:List (List Nat×V)},QA k kvs=none->(BB k v kvs).length=kvs.length+1
 | [],_=>rfl
 | (a,b)::r,h=>by
   (first | rw[QA.r1]at h | rw[QA.r2]at h)
   split at h
   ·cases h
   ·rename_i e
    (first | rw[BB.r1,if_neg e] | rw[BB.r2,if_neg e])
    simp[vM h]
theorem wM{k:List Nat}{v:V}:∀(kvs:List (List Nat×V)),kvs.length<=(BB k v kvs).length
 | []=>by simp[BB.r1,BB.r2]
 | (a,b)::r=>by
   have:=wM (k:=k) (v:=v) r
   (first | rw[BB.r1] | rw[BB.r2]);split <;>simp <;>assumption
theorem xS{o:Option O}{C:Addr}(h:o.bind XN=some C):o=some (.exc0 C):=by
 rcases o with _ | o
 ·exact CZ h
 ·induction o using O.casesOn with
  | exc0 D=>cases h;rfl
  | _=>exact CZ h
theorem qF(Y:VC g)(C:Cx g A s U d hd)(S:St g s U J){x v:V}{n:List Nat}{Q:List O->Prop}{a w:Value}(ra:SA g s.heap U x a)(rv:SA g s.heap U v w)(h:yG g J x n v Q):
 wpAny (model g.prog g.w) A (setAttr a ⟨n.toArray⟩ w) (fun u0 s'=>xQ g s.heap U Q s') E s:=by
 set_option tactic.hygienic true in induction x using V.casesOn <;>first | exact h.elim | skip
 rename_i l
 ·obtain⟨a,ha,rfl⟩:=ra
  have h:(match (J[l]?).bind XN with
   | some C=>qD C n=true/\n.length<=1000/\Q ((J++[O.ad [(n,v)]]).set l (O.exc C J.length))
   | none=>∃C dl kvs,cD J l=some (C,dl,kvs)/\qD C n=true/\kvs.length<=1000/\n.length<=1000/\Q (J.set dl (.ad (BB n v kvs)))):=h
  rcases he:(J[l]?).bind XN with _ | Cl <;>rw[he]at h
  case some=>
   have hl:=xS he
   obtain⟨ht,hnl,hq⟩:=h
   obtain⟨hx,vs,ho,t1,t2⟩:=S.objs l a _ ha hl
   refine wT (Y.K.keeps S.base) ho (Y.tab _ _ ht).2 fun h' N' hs' hz t=>?_
   obtain⟨o',es',n',ho',hc',hd',z1⟩:=hz
   have hll:l < U.length:=(List.getElem?_eq_some_iff.mp ha).1
   have DA:=S.pushT emptyDict (.ad []) rfl ⟨_,fun u0=>none,Heap.get?_push_size _ rfl,rfl,⟨_, #[],0,Heap.get?_push_size _ rfl,rfl,fun e he=>by simp at he,fun name=>rfl⟩,fun es n q=>by cases q;simp,fun k=>trivial⟩
   have GA:=KA.pushT s.heap U emptyDict
   have WE:(U++[s.heap.objs.size])[l]?=some a:=by rw[List.getElem?_append_left hll];exact ha
   have eM:(U++[s.heap.objs.size])[J.length]?=some s.heap.objs.size:=by rw[<-S.len];exact fB ..
   have vK:(s.heap.push emptyDict).get? a=some {cls:= .ref Cl,data:= .fields vs}:=Heap.get?_push_of_some _ ho
   have hself:=Heap.get?_update_self (fun o=>{o with dict:=some s.heap.objs.size}) vK rfl
   have XA:=DA.update WE (Heap.SameBut.update (s.heap.push emptyDict) a (fun o=>{o with dict:=some s.heap.objs.size})) (x':= .exc Cl J.length) ⟨hx,_,vs,eM,hself,t1, .inl t2⟩ s.toks
   have bA:KA (s.heap.push emptyDict) ((s.heap.push emptyDict).update a (fun o=>{o with dict:=some s.heap.objs.size})) (U++[s.heap.objs.size]) (U++[s.heap.objs.size]) []:=
    KA.update WE (Heap.SameBut.update ..) (fun o e=>⟨_,hself⟩) fun⟨o1,vs',tb',c',q1,q2,q3,q4⟩=>by rw[vK]at q1;cases q1;cases q3;rw[t2]at q4;cases q4
   have hne:a≠s.heap.objs.size:=Nat.ne_of_lt (Heap.lt_size ho)
   have hdo:((s.heap.push emptyDict).update a (fun o=>{o with dict:=some s.heap.objs.size})).get? s.heap.objs.size=some emptyDict:=(Heap.get?_update_other _ _ hne).trans (Heap.get?_push_size _ rfl)
   have GB:KA ((s.heap.push emptyDict).update a (fun o=>{o with dict:=some s.heap.objs.size})) h' (U++[s.heap.objs.size]) (U++[s.heap.objs.size]) []:=
    KA.update eM hs' (fun o e=>⟨_,ho'⟩) fun⟨o1,vs',tb',c',q1,q2,q3,q4⟩=>by rw[hdo]at q1;cases q1;cases q3
   have T:=GA.trans (bA.trans GB)
   have rv':=rv.step0 S T
   have KB:=XA.update eM hs' (x':= .ad [(n,v)]) ⟨o',_,ho',hc',N',fun es'' n'' q=>by rw[hd']at q;cases q;simpa using z1,fun k=>?_⟩ t
   ·refine⟨_,_,?_,KB,T⟩
    have hne':l≠J.length:=by have:=S.len;exact Nat.ne_of_lt (rC (eL this) hll)
    have e:((J++[O.ad []]).set l (.exc Cl J.length)).set J.length (.ad [(n,v)])=(J++[O.ad [(n,v)]]).set l (.exc Cl J.length):=by
     rw[List.set_comm _ _ hne',List.set_append_right _ _ (Nat.le_refl _)]
     simp
    rw[e];exact hq
   ·by_cases hkn:n=k
    ·subst hkn
     simp only[QA.r1,QA.r2,if_true];exact rv'
    ·have:(⟨k.toArray⟩:Str)≠⟨n.toArray⟩:=fun e=>hkn (by have:=congrArg (fun s:Str=>s.cps.toList) e;simpa using this.symm)
     simp only[QA.r1,QA.r2,if_neg hkn,if_neg this];trivial
  obtain⟨Cl,dl,kvs,hi,ht,hk,hnl,hq⟩:=h
  obtain⟨ox,od,dx,m,es,ep,I,e1,e2,e3,e4,e5,e6,e7,N,hl,rr,_⟩:=dN S hi ha
  refine xT (Y.K.keeps S.base) I e1 (Y.tab _ _ ht).2 N (fun es' k q=>by rw[e6]at q;cases q;exact Nat.le_trans e7 hk) fun h' N' hs hz t=>?_
  obtain⟨o',es',n',ho',hc',hd',z1,z2⟩:=hz _ _ _ e4 e6
  have T:KA s.heap h' U U []:=KA.update e2 hs (fun o e=>⟨_,ho'⟩) fun⟨o1,vs',tb',c',q1,q2,_,_⟩=>by rw[e4]at q1;cases q1;rw[e5]at q2;cases q2
  refine⟨J.set dl (.ad (BB n v kvs)),U,hq,S.update e2 hs (x':= .ad (BB n v kvs)) ⟨o',_,ho',hc'.trans e5,N',fun es'' n'' q=>?_,fun k=>?_⟩ t,T⟩
  ·rw[hd']at q;cases q
   have hr:=rr n
   induction hlk:QA n kvs using Option.casesOn with
   | none=>rw[vM hlk];exact(rC z1 e7)
   | some y=>
     rw[hlk]at hr
     have:=z2 (by intro q;rw[q]at hr;exact hr.elim)
     have:=wM (k:=n) (v:=v) kvs
     lia
  ·rw[oM]
   by_cases hkn:k=n
   ·subst hkn
    simp only[if_true]
    exact rv.step0 S T
   ·have:(⟨k.toArray⟩:Str)≠⟨n.toArray⟩:=fun e=>hkn (by have:=congrArg (fun s:Str=>s.cps.toList) e;simpa using this)
    simp only[if_neg hkn,if_neg this]
    have hr:=rr k
    revert hr
    cases QA k kvs <;>cases m ⟨k.toArray⟩ <;>first | exact id | exact fun r=>SA.step0 S T r
theorem kT(Y:VC g)(C:Cx g A s U d hd)(S:St g s U J){x i v:V}{Q:List O->Prop}{a k w:Value}(ra:SA g s.heap U x a)(rk:SA g s.heap U i k)(rv:SA g s.heap U v w)(h:rF J x i v Q):
 wpAny (model g.prog g.w) A (setItem a k w) (fun u0 s'=>xQ g s.heap U Q s') E s:=by
 set_option tactic.hygienic true in induction x using V.casesOn <;>first | exact h.elim | skip
 rename_i l
 set_option tactic.hygienic true in induction i using V.casesOn <;>first | exact h.elim | skip
 case str key=>
  obtain⟨kvs,hk,hz,q⟩:=h
  obtain⟨a,ha,rfl⟩:=ra
  obtain⟨t,rfl,h1,h2⟩:=rk
  ·obtain⟨ep,hl⟩:=oK hk
   obtain⟨ps,D,hz',rr⟩:=S.objs l a _ ha hl
   obtain⟨o,es,ho,X,_⟩:=id D
   have hlen:=rr.len
   refine wpAny_setItem_pairs (fD key t) D.dictOf (fun h' D' hs=>?_) (by rw[hlen,LA];exact kC hz')
   obtain⟨ep',D'⟩:=D'.dictAt
   have T:KA s.heap h' U U []:=KA.update ha hs (fun o e=>by obtain⟨o',_,e',_⟩:=D';exact⟨o',e'⟩) fun⟨o1,vs',tb',c',q1,q2,_,_⟩=>by rw[ho]at q1;cases q1;rw[X.1]at q2;cases q2
   have hl2:=RL key v kvs
   refine⟨_,U,q ep',S.update ha hs (x':= .dict (BB key v kvs) ep') ⟨_,D',by rw[LA];exact rC hl2 hz,?_⟩ _,T⟩
   exact cB.congr (fun a os t=>T.tup (fun u0 m=>nomatch m) S.ownAll t) (fun u0 u0 e=>e) _ _ (jH ⟨h1,h2⟩ rv rr D.nodup)
 case int i=>
  obtain⟨xs,hl,q⟩:=h
  obtain⟨a,ha,rfl⟩:=ra
  obtain⟨t,rfl⟩:=rk
  obtain⟨a',os,n,ha',ho,hz,rr⟩:=S.list hl
  rw[ha]at ha';cases ha'
  have hlen:=rr.len
  rw[Array.length_toList]at hlen
  have fin:∀k:Nat,Q (J.set l (.list (xs.set k v)))->xQ g s.heap U Q {s with heap:=s.heap.update a (Obj.mapSeq (·.setIfInBounds k w))}:=fun k q=>by
   have hself:=Heap.get?_update_self (Obj.mapSeq (·.setIfInBounds k w)) ho rfl
   have T:KA s.heap (s.heap.update a (Obj.mapSeq (·.setIfInBounds k w))) U U []:=KA.update ha (Heap.SameBut.update ..) (fun o e=>⟨_,hself⟩) fun⟨o1,vs',tb',c',q1,q2,_,_⟩=>by rw[ho]at q1;cases q1;cases q2
   refine⟨_,U,q,S.update ha (Heap.SameBut.update ..) (x':= .list (xs.set k v)) ⟨_,_,hself,by simpa using hz,?_⟩ s.toks,T⟩
   rw[Array.toList_setIfInBounds]
   exact(rr.set (i:=k) rv).step0 S T
  set_option tactic.hygienic true in split at q
  ·rename_i h0
   exact ki_setAt ho h0 (by lia) (by lia) (fin _ q.2)
  ·rename_i h0
   have:=ki_setBack (prog:=g.prog) (w:=g.w) (A:=A) (E:=E) (Q:=fun u0 s'=>xQ g s.heap U Q s') (t:=t) (v:=w) ho (k:=i) (by lia) (by lia) (by lia) (by have:=fin (i+xs.length).toNat q.2;rw[hlen];exact this)
   exact this
theorem QS{e:Expr}{t:Option Expr}{l:Nat}(h:zK e=false):swapsWith e t l env=pure false:=by induction e using Expr.casesOn <;>first | rfl | cases h
theorem tK{e:Expr}{x:Value}(h:dD e=false):foldedSetIterable e env x=pure x:=by induction e using Expr.casesOn <;>first | rfl | cases h
theorem WJ(Y:VC g)(X:Gd g c env)(S:St g s U J)(F:Fm g c.nm s U env Z){v:Value}{id:Str}{pos:Pos}{Q:Value->Shared->Prop}(h:c.isGlob v id=true)(hq:Q v s):wpAny (model g.prog g.w) A (eval (.Name id pos) env) Q E s:=
 DR Y S X.1 X.2 F.kind F.glob F.blt h hq
theorem RI{f:Expr}(h:KD c f=true):∃id pos,f= .Name id pos/\c.isGlob (.type "range") id=true:=by
 unfold KD at h
 rcases e:wJ f with _ | id
 ·rw[e]at h;exact Bool.noConfusion h
 ·rw[e]at h
  obtain⟨p,rfl⟩:=(JK f).get e
  exact⟨id,p,rfl,h⟩
theorem AF{id:Str}{p0 pos:Pos}{T:String}{as':List Expr}{Q:Value->Shared->Prop}(Y:VC g)(X:Gd g c env)(S:St g s U J)(F:Fm g c.nm s U env Z)(h:c.isGlob (.type T) id=true)(hp:(backTo pos (starEach as' env)).any (·.1)=false)
 (k:wpAny (model g.prog g.w) A (spliced (backTo pos (starEach as' env))) (fun vs CA=>wpAny (model g.prog g.w) A (call (.type T) vs) Q E CA) E s):
 wpAny (model g.prog g.w) A (eval (.Call (.Name id p0) as' [] pos) env) Q E s:=by
 refine wpAny_bind (WJ Y X S F h ?_)
 refine PyProof.Rows.callWith_type hp (BH hp (wpAny_mono k (fun vs CA tA=>?_) fun u0 u0 e=>e))
 simpa using tA
theorem dJ(Y:VC g)(X:Gd g c env){f x:Expr}{hi:IE}{pos:Pos}(hr:KD c f=true)(hx:IB x=false)(hs:SE g A d hd c env hi x){K:V->List O->Prop}{E:Nat->List O->Prop}(hw:¬dE g d hd hi Z J K E)
 (hQ:∀v J,¬K v J->∃n,v= .int n/\ -1000<=n/\n<=1000) (C:Cx g A s U d hd) (S:St g s U J) (F:Fm g c.nm s U env Z) {R:Value->Shared->Prop}
 (k:∀n HA CA BA y,¬K (.int n) HA->St g CA BA HA->Fm g c.nm CA BA env Z->KA s.heap CA.heap U BA []->s.heap.get? y=none->g.WA.get? y=none->IsRangeIter CA.heap y 0 (Builtin.Range.rangeSize 0 n 1) 1->R (.ref y) CA):
 wpAny (model g.prog g.w) A (eval (.Call f [x] [] pos) env) (fun v CA=>wpAny (model g.prog g.w) A (pyIter v) R (VA g s.heap U [] (NK E)) CA) (VA g s.heap U [] (NK E)) s:=by
 obtain⟨id,p0,rfl,hg⟩:=RI hr
 have hp:(backTo pos (starEach [x] env)).any (·.1)=false:=by rw[wA hx];rfl
 refine AF Y X S F hg hp ?_
 rw[wA hx,xC]
 refine Calls.spliced_cons (wpAny_mono (hs hw C S F) (fun v CA p=>?_) fun u0 u0 e=>e)
 obtain⟨mv,HA,BA,q,rv,DA,GA⟩:=p
 obtain⟨n,rfl,n1,n2⟩:=hQ _ _ q
 obtain⟨t,rfl⟩:=rv
 refine Calls.spliced_nil ?_
 refine PySem.call_range_1 ?_
 have hsm:Builtin.Range.small 0 n 1=true:=PySem.small_one (by decide) (by decide) (by lia) (by lia)
 refine wpAny_pyIter_range (Heap.get?_push_size _ rfl) hsm ?_
 have XA:=(DA.pushU {cls:= .type "range",data:= .fields #[.int 0 CA.toks, .int n t, .int 1 (CA.toks+1)]}).toks (CA.toks+1+1)
 have KB:=XA.pushU {cls:= .type "range_iterator",data:= .fields #[rawInt 0,rawInt (Builtin.Range.rangeSize 0 n 1),rawInt 1]}
 have GB:KA s.heap ((CA.heap.push {cls:= .type "range",data:= .fields #[.int 0 CA.toks, .int n t, .int 1 (CA.toks+1)]}).push {cls:= .type "range_iterator",data:= .fields #[rawInt 0,rawInt (Builtin.Range.rangeSize 0 n 1),rawInt 1]}) U BA []:=GA.trans ((KA.pushU ..).trans (.pushU ..))
 refine k n HA _ BA _ q KB (F.step S GB) GB ?_ ?_ (Heap.get?_push_size _ rfl)
 ·induction e:s.heap.get? (CA.heap.push {cls:= .type "range",data:= .fields #[.int 0 CA.toks, .int n t, .int 1 (CA.toks+1)]}).objs.size using Option.casesOn with
  | none=>rfl
  | some o=>
    obtain⟨o',e'⟩:=(GA.trans (KA.pushU CA.heap BA {cls:= .type "range",data:= .fields #[.int 0 CA.toks, .int n t, .int 1 (CA.toks+1)]})).alive _ o e
    exact absurd (Heap.lt_size e') (Nat.lt_irrefl _)
 ·exact XA.new.1
theorem wS(Y:VC g)(X:Gd g c env){x:Expr}{id:Str}{p0:Pos}{e:IE}{pos:Pos}(hg:c.isGlob (.type "enumerate") id=true)(hx:IB x=false)(hs:SE g A d hd c env e x){K:V->List O->Prop}{E:Nat->List O->Prop}(hw:¬dE g d hd e Z J K E)
 (hQ:∀v J,¬K v J->∃l vs,v= .loc l/\rA J l=some vs) (C:Cx g A s U d hd) (S:St g s U J) (F:Fm g c.nm s U env Z) {R:Value->Shared->Prop}
 (k:∀l a HA CA BA e y,¬K (.loc l) HA->St g CA BA HA->Fm g c.nm CA BA env Z->KA s.heap CA.heap U BA []->s.heap.get? y=none->g.WA.get? y=none->s.heap.get? e=none->g.WA.get? e=none->e≠y->BA[l]?=some a->IsEnum CA.heap e y 0 .none->CA.heap.IsListIter y a 0->R (.ref e) CA):
 wpAny (model g.prog g.w) A (eval (.Call (.Name id p0) [x] [] pos) env) R (VA g s.heap U [] (NK E)) s:=by
 have hp:(backTo pos (starEach [x] env)).any (·.1)=false:=by rw[wA hx];rfl
 refine AF Y X S F hg hp ?_
 rw[wA hx,xC]
 refine Calls.spliced_cons (wpAny_mono (hs hw C S F) (fun v CA p=>?_) fun u0 u0 e=>e)
 obtain⟨mv,HA,BA,q,rv,DA,GA⟩:=p
 obtain⟨l,vs,rfl,hl⟩:=hQ _ _ q
 obtain⟨a,ha,rfl⟩:=rv
 obtain⟨a',os,n,ha',ho,hz,rr⟩:=DA.list hl
 rw[ha]at ha';cases ha'
 refine Calls.spliced_nil ?_
 refine PySem.call_enumerate_1 ho fun h' he hit hsz hk=>?_
 have XA:=DA.ext hk CA.toks
 have bA:=KA.ext BA hk []
 have T:=GA.trans bA
 have gone:∀b,CA.heap.objs.size<=b->s.heap.get? b=none:=fun b hb=>by
  induction e:s.heap.get? b using Option.casesOn with
  | none=>rfl
  | some o=>
    obtain⟨o',e'⟩:=GA.alive _ o e
    exact absurd (Heap.lt_size e') (Nat.not_lt.mpr hb)
 have gone':∀b,CA.heap.objs.size<=b->g.WA.get? b=none:=fun b hb=>by
  induction e:g.WA.get? b using Option.casesOn with
  | none=>rfl
  | some o=>exact absurd (Heap.lt_size (DA.base _ _ e)) (Nat.not_lt.mpr hb)
 exact k l a HA _ BA _ _ q XA (F.step S T) T (gone _ (Nat.le_refl _)) (gone' _ (Nat.le_refl _)) (gone _ (Nat.le_succ _)) (gone' _ (Nat.le_succ _)) (Nat.ne_of_gt (Nat.lt_succ_self _)) ha he hit
end
end
section
variable{g:G}{s:Shared}{U:List Addr}{J:List O}{A:Around}{d:Nat}{hd:Option Nat}{env:Env}{nm:List (List Nat)}{Z:List (Option V)}{c:CC}{M:Model}{E:Value->Shared->Prop}
theorem fc{y:Addr}{h h':Heap}(x:Heap.SameBut y h h'):yL [y] h h':=WC x
theorem ZV(X:Gd g c env)(S:St g s U J)(F:Fm g c.nm s U env Z){i:Nat}{id:Str}(h:c.isLocal i id=true){v:V}{w:Value}(r:SA g s.heap U v w){Q:Unit->Shared->Prop}
 (k:∀h' t,St g {s with heap:=h',toks:=t} U J->Fm g c.nm {s with heap:=h',toks:=t} U env (Z.set i (some v))->KA s.heap h' U U (EC env)->yL [env.locals] s.heap h'->Q () {s with heap:=h',toks:=t}):
 wpAny M A (storeName env id w) Q E s:=by
 obtain⟨hx,hk⟩:=bH X h
 obtain⟨m,hm,hv⟩:=F.vars
 refine EF F.kind hk hm fun h' hn hs hc=>?_
 obtain⟨S',T⟩:=F.locals S hs hc (s.toks+1)
 have hid:(⟨id.cps.toList.toArray⟩:Str)=id:=by simp
 exact k _ _ S' (F.setLocal S (x:=id.cps.toList) hx (by rw[hid];exact hk) hv (v:=some v) (by rw[hid];exact hn) hs hc _ fun y e=>by cases e;exact⟨w,rfl,r⟩) T (fc hs)
theorem AP(X:Gd g c env):∀(is:List Nat) {ts:List Expr} {vs:List V} {xs:List Value} {Z:List (Option V)} {s:Shared},eB c is ts=true->vs.length=is.length->St g s U J->Fm g c.nm s U env Z->MA g s.heap U vs xs->
 ∀{Q:Unit->Shared->Prop},(∀h' t,St g {s with heap:=h',toks:=t} U J->Fm g c.nm {s with heap:=h',toks:=t} U env (rB Z is vs)->KA s.heap h' U U (EC env)->yL [env.locals] s.heap h'->Q () {s with heap:=h',toks:=t})->
 wpAny M A (assignInOrder ((assignEach ts env).map (·.2)) xs) Q E s:=by
 intro is
 induction is with
 | nil=>
   intro ts vs xs Z s h hl S F rr Q k
   rw[ZC h]
   induction vs using List.casesOn with
   | cons _ _=>simp at hl
   | nil=>exact wpAny_pure (k s.heap s.toks S F (.refl ..) (yL.refl _ _))
 | cons i is ih=>
   intro ts vs xs Z s h hl S F rr Q k
   obtain⟨id,pos,r,rfl,h1,h2⟩:=zA h
   induction vs using List.casesOn with
   | nil=>simp at hl
   | cons v vs=>
     induction xs using List.casesOn with
     | nil=>exact rr.elim
     | cons x xs=>
       show wpAny M A (do holding xs (assign (.Name id pos) env x);assignInOrder ((assignEach r env).map (·.2)) xs) Q E s
       refine wpAny_bind (wpAny_holding (wpAny_assign_Name (ZV X S F h1 rr.1 fun h' t S' F' T B=>?_)))
       exact ih h2 (by simpa using hl) S' F' (rr.2.step S T F.noTup) fun h'' t' S'' F'' T' B'=>k h'' t' S'' F'' (T.trans T') (B.trans B')
theorem RY(t:Expr):lC (iQ t) fun ts=>∃k p,t= .Tuple ts k p:=by
 induction t using Expr.casesOn with
 | Tuple ts k p=>exact⟨_,_,rfl⟩
 | _=>trivial
theorem Hb(X:Gd g c env)(S:St g s U J)(F:Fm g c.nm s U env Z)(hh:A.handled=none){tgt:List Nat}{t:Expr}(h:FN c tgt t=true){v:V}{vs:List V}{x:Value}
 (hv:Xe J tgt v=some vs) (r:SA g s.heap U v x) {Q:Unit->Shared->Prop}
 (k:∀h' t,St g {s with heap:=h',toks:=t} U J->Fm g c.nm {s with heap:=h',toks:=t} U env (rB Z tgt vs)->KA s.heap h' U U (EC env)->yL [env.locals] s.heap h'->Q () {s with heap:=h',toks:=t}):
 wpAny (model g.prog g.w) A (assign t env x) Q E s:=by
 rcases tgt with _ | ⟨i,_ | ⟨j,l⟩⟩
 ·exact Bool.noConfusion h
 ·have h:(match wJ t with | some id=>c.isLocal i id | none=>false)=true:=h
  rcases e:wJ t with _ | id
  ·rw[e]at h;exact Bool.noConfusion h
  ·rw[e]at h
   obtain⟨p,rfl⟩:=(JK t).get e
   cases hv
   exact wpAny_assign_Name (ZV X S F h r k)
 ·have h:(match iQ t with | some ts=>eB c (i::j::l) ts | none=>false)=true:=h
  rcases e:iQ t with _ | ts
  ·rw[e]at h;exact Bool.noConfusion h
  ·rw[e]at h
   obtain⟨x1,pos,rfl⟩:=(RY t).get e
   obtain⟨n1,n2⟩:=ML env _ (YG _ h)
   rw[assign_Tuple]
   refine wpAny_bind (wpAny_standAt ?_)
   unfold unpack
   rw[n1,n2]
   refine wpAny_bind (wpAny_holding (vF S hh (show AG J (i::j::l).length v=some vs from hv) r fun tA xs S' T rr hl B=>?_))
   exact AP X _ h hl S' (F.step S T) rr fun h'' t S'' F'' T' B'=>k h'' t S'' F'' (T.x.trans T') fun b o n e=>B' b o n (B b o e)
end
section
variable{g:G}{s:Shared}{U:List Addr}{J:List O}{A:Around}{d:Nat}{hd:Option Nat}{env:Env}{nm:List (List Nat)}{Z:List (Option V)}{c:CC}{M:Model}{E:Value->Shared->Prop}
theorem WM{elt target iter:Expr}{scope:Scope}{pos:Pos}{it acc:Value}{R:Result->Shared->Prop}
 (h:wpAny (model g.prog g.w) A (pyNext it) (fun r CA=>match r with
  | none=>R (.ok .next) CA
  | some v=>wpAny (model g.prog g.w) A (letOwnedTupleGo target it v) (fun u0 fI=>wpAny (model g.prog g.w) A (assign target env v) (fun u0 UA=>wpAny (model g.prog g.w) A (eval elt env) (fun x TC=>
   wpAny (model g.prog g.w) A (call (.builtin "list.append") [acc,x]) (fun u0 yJ=>codeAny (model g.prog g.w) A (.compLoop (.ListComp elt [⟨target,iter,[],0⟩] scope pos) 0 it acc env) R yJ) (fun u0 u0=>False) TC) (fun u0 u0=>False) UA) (fun u0 u0=>False) fI) (fun u0 u0=>False) CA) (fun u0 u0=>False) s):
 codeAny (model g.prog g.w) A (.compLoop (.ListComp elt [⟨target,iter,[],0⟩] scope pos) 0 it acc env) R s:=by
 refine codeAny_of_tree ?_
 show wpAny _ A ((compTurn (.ListComp elt [⟨target,iter,[],0⟩] scope pos) 0 it acc env).onRaise (fun x=>do noteFrame x env;theTreesLotGoes x)) _ _ s
 refine wpAny_noted ?_
 rw[compTurn_list1]
 refine wpAny_bind (wpAny_standAt (wpAny_bind (wpAny_mono h (fun r CA tA=>?_) fun u0 u0 h'=>h'.elim)))
 induction r using Option.casesOn with
 | none=>exact wpAny_pure tA
 | some v=>
   exact wpAny_bind (wpAny_mono tA (fun u0 fI tA=>wpAny_bind (wpAny_mono tA (fun u0 UA ID=>wpAny_bind (wpAny_bind (wpAny_mono ID (fun x TC wB=>wpAny_bind (wpAny_mono wB
    (fun u0 yJ IM=>wpAny_pure (wpAny_pure ⟨rfl,IM⟩)) fun u0 u0 h'=>h'.elim)) fun u0 u0 h'=>h'.elim))) fun u0 u0 h'=>h'.elim)) fun u0 u0 h'=>h'.elim)
theorem St.otherL(S:St g s U J){d:Addr}(hn:d∉U)(h0:g.WA.get? d=none){o:Obj}(ho:s.heap.get? d=some o)(hc:o.cls≠ .type "tuple"/\o.cls≠ .type "traceback"){h':Heap}(hs:Heap.SameBut d s.heap h')(t:Nat):St g {s with heap:=h',toks:=t} U J/\∀a os,IsTup s.heap a os->IsTup h' a os:=by
 have ht:∀a os,IsTup s.heap a os->IsTup h' a os:=fun a os ⟨y,e,c,r⟩=>⟨y,(hs.2 a fun q=>by subst q;rw[ho]at e;cases e;exact hc.1 c).trans e,c,r⟩
 refine⟨S.quiet (fun b y e e'=>(hs.2 b fun q=>by subst q;rw[h0]at e;cases e).trans e') (fun b m=>hs.2 b fun q=>hn (q ▸ m)) ht (fun b y e t=>⟨y,(hs.2 b fun q=>by subst q;rw[ho]at e;cases e;exact hc.2 t.1).trans e,t⟩) rfl rfl,ht⟩
theorem Fm.otherL(F:Fm g nm s U env Z){d:Addr}(hn:d∉EC env){h':Heap}(hs:Heap.SameBut d s.heap h')(ht:∀a os,IsTup s.heap a os->IsTup h' a os)(t:Nat):Fm g nm {s with heap:=h',toks:=t} U env Z:=by
 have hl:env.locals≠d:=fun q=>hn (q ▸ .head _)
 have hcl:∀c∈env.cells.map (·.2),c≠d:=fun c m q=>hn (q ▸ List.mem_cons_of_mem _ m)
 refine⟨F.kind,F.glob,F.blt,F.frame,F.nodup,F.len,F.above,F.out,?_,fun c hc=>?_,F.once,?_⟩
 ·obtain⟨o,e,c⟩:=F.lcls;exact⟨o,(hs.2 _ hl).trans e,c⟩
 ·obtain⟨o,v,e,c1⟩:=F.ccls c hc;exact⟨o,v,(hs.2 _ (hcl c hc)).trans e,c1⟩
 ·obtain⟨m,⟨o,es,ep,e,r⟩,hv⟩:=F.vars
  refine⟨m,⟨o,es,ep,(hs.2 _ hl).trans e,r⟩,fun i x v hx hs'=>?_⟩
  obtain⟨w,hw,r⟩:=hv i x v hx hs'
  refine⟨w,?_,SA.congr ht (fun u0 u0 e=>e) _ _ r⟩
  rcases hw with q | ⟨k,c,hc,o',e',q⟩
  ·exact .inl q
  ·exact .inr ⟨k,c,hc,o',(hs.2 _ (hcl c (LC hc))).trans e',q⟩
theorem Fm.weaken(F:Fm g nm s U env Z){oJ:List (Option V)}(hl:oJ.length=Z.length)(h:∀(i:Nat) (v:V),oJ[i]?=some (some v)->Z[i]?=some (some v)):Fm g nm s U env oJ:=
 ⟨F.kind,F.glob,F.blt,F.frame,F.nodup,hl.trans F.len,F.above,F.out,F.lcls,F.ccls,F.once,let ⟨m,hm,hv⟩:=F.vars;⟨m,hm,fun i x v hx hs=>hv i x v hx (h i v hs)⟩⟩
theorem dL:∀(is:List Nat) (vs:List V) (Z:List (Option V)),(rB Z is vs).length=Z.length
 | i::is,v::vs,Z=>by rw[cL,dL is vs,List.length_set]
 | [],_,_=>rfl
 | _::_,[],_=>rfl
theorem bI:∀(is:List Nat) (vs:List V) (Z:List (Option V)) (i:Nat),i∉is->(rB Z is vs)[i]?=Z[i]?
 | j::is,v::vs,Z,i,h=>by
   rw[cL,bI is vs _ i (fun m=>h (List.mem_cons_of_mem _ m)),List.getElem?_set_ne (fun q=>h (by rw[q];exact .head _))]
 | [],_,_,_,_=>rfl
 | _::_,[],_,_,_=>rfl
theorem aI{cap:List Nat}{Z:List (Option V)}{i:Nat}{v:V}(h:(ND cap Z)[i]?=some (some v)):i∈cap/\Z[i]?=some (some v):=by
 unfold ND at h
 rw[List.getElem?_map]at h
 induction hr:(List.range Z.length)[i]? using Option.casesOn with
 | none=>rw[hr]at h;cases h
 | some j=>
   rw[hr]at h
   obtain⟨hi,rfl⟩:=List.getElem?_eq_some_iff.mp hr
   simp only[List.getElem_range,Option.map_some,Option.some.injEq]at h
   split at h
   ·rename_i hc
    refine⟨by simpa using hc,?_⟩
    induction q:Z[i]? using Option.casesOn with
    | none=>rw[q]at h;cases h
    | some o=>rw[q]at h;simp at h;rw[h]
   ·cases h
theorem sN(cap:List Nat)(Z:List (Option V)):(ND cap Z).length=Z.length:=by simp[ND]
theorem pS(hh:A.handled=none){LB:Shared}{RA:List Addr}{LN:List O}(VK:Cx g A LB RA d none)(VH:St g LB RA LN)(Xc:Gd g c env){b:IE}{elt target iter:Expr}{scope:Scope}{pos:Pos}(hb:SE g A d none c env b elt){it:Value}{Y:List Addr}{It:Nat->Heap->List Addr->Prop}{item:Nat->List O->Option V->Prop}(I:kY g A target it Y It item)
 (hY:∀y∈Y,LB.heap.get? y=none/\g.WA.get? y=none) (hC:LB.heap.get? env.locals=none) {acc:Addr} (hacc:LB.heap.get? acc=none/\g.WA.get? acc=none) (haY:acc∉Y) (hax:acc∉EC env) {tgt:List Nat} (htg:FN c tgt target=true) {jb:List (Option V)} (Xf:∀(i:Nat) (v:V),jb[i]?=some (some v)->i∉tgt)
 {inv:List O->Prop} {R:Result->Shared->Prop} {K:List V->List O->Prop} (all:List V) (hitem:∀k J,inv J->item k J all[k]?)
 (hR:∀s U J vs os n Z,¬K vs J->St g s U J->Fm g c.nm s U env Z->KA LB.heap s.heap RA U []->acc∉U->s.heap.get? acc=some {cls:= .type "list",data:= .seq os n}->MA g s.heap U vs os.toList->vs.length<=100000->R (.ok .next) s):
 ∀(xs:List V) (k:Nat) (s:Shared) (U:List Addr) (J:List O) (vs:List V) (os:Array Value) (n:Nat) (Z:List (Option V)),xs=all.drop k->vs.length+xs.length<=100000->¬YM inv (fun x J K=>OX J tgt x fun vs=>sC tgt vs jb fun Z=>dE g d none b Z J K (fun u0 u0=>True)) xs J vs K->
  St g s U J->Fm g c.nm s U env Z->Z.length=jb.length->(∀(i:Nat) (v:V),jb[i]?=some (some v)->Z[i]?=some (some v))->KA LB.heap s.heap RA U []->It k s.heap U->acc∉U->s.heap.get? acc=some {cls:= .type "list",data:= .seq os n}->MA g s.heap U vs os.toList->
  codeAny (model g.prog g.w) A (.compLoop (.ListComp elt [⟨target,iter,[],0⟩] scope pos) 0 it (.ref acc) env) R s:=by
 intro xs
 induction xs with
 | nil=>
   intro k s U J vs os n Z hx hz hw S F hlen Zb T hIt han ha rr
   have hw:=Classical.not_imp.mp hw
   have hk:all[k]?=none:=by
    rw[List.getElem?_eq_none_iff]
    exact List.drop_eq_nil_iff.mp hx.symm
   have hi:=hitem k J hw.1
   rw[hk]at hi
   refine WM (wpAny_mono (I.next k s U J S hIt none hi (fun s=>R (.ok .next) s) (fun u0 u0=>False) (fun u0 u0=>False) (fun u0 h' t B=>?_) (fun v e=>nomatch e)) (fun r CA p=>by
    induction r using Option.casesOn with
    | none=>exact p
    | some x=>exact wpAny_mono p (fun u0 u0 f=>f.elim) fun u0 u0 f=>f) fun u0 u0 e=>e)
   have hH:=I.hid _ _ _ hIt
   exact hR _ U J vs os n Z hw.2 (S.but hH (fun y m=>(hY y m).2) B t) (F.but hH B t) (T.but (fun y m=>(hY y m).1) B) han (B acc _ haY ha) (MA.congr (fun u0 u0 t=>IsTup.but hH B t) (fun u0 u0 e=>e) _ _ rr) (by simp at hz;exact hz)
 | cons x xs ih=>
   intro k s U J vs os n Z hx hz hw S F hlen Zb T hIt han ha rr
   obtain⟨hinv,hw⟩:=Classical.not_imp.mp hw
   obtain⟨us,hus,hw⟩:=Rf hw
   rw[gH]at hw
   have hkl:k < all.length:=by
    rcases Nat.lt_or_ge k all.length with q | q
    ·exact q
    ·rw[List.drop_eq_nil_of_le q]at hx;cases hx
   have hd:=List.drop_eq_getElem_cons hkl
   rw[hd]at hx
   obtain⟨hx1,hx2⟩:=List.cons.inj hx
   have hk:all[k]?=some x:=by rw[List.getElem?_eq_getElem hkl, <-hx1]
   have hi:=hitem k J hinv
   rw[hk]at hi
   have hH:=I.hid _ _ _ hIt
   refine WM (wpAny_mono (I.next k s U J S hIt (some x) hi (fun u0=>False) (fun v fI=>wpAny (model g.prog g.w) A (assign target env v) (fun u0 UA=>wpAny (model g.prog g.w) A (eval elt env) (fun x TC=>
    wpAny (model g.prog g.w) A (call (.builtin "list.append") [.ref acc,x]) (fun u0 yJ=>codeAny (model g.prog g.w) A (.compLoop (.ListComp elt [⟨target,iter,[],0⟩] scope pos) 0 it (.ref acc) env) R yJ) (fun u0 u0=>False) TC) (fun u0 u0=>False) UA) (fun u0 u0=>False) fI) (fun u0 u0=>False) (fun e=>nomatch e) (fun v e tA SY xv B Ca rv=>?_)) (fun r CA p=>by
    induction r using Option.casesOn with
    | none=>exact p.elim
    | some x=>exact p) fun u0 u0 e=>e)
   cases e
   have DA:=S.but hH (fun y m=>(hY y m).2) B SY
   have aA:=(F.but hH B SY).weaken hlen.symm Zb
   have GA:=T.but (fun y m=>(hY y m).1) B
   have WE:=B acc _ haY ha
   have Ae:MA g tA U vs os.toList:=MA.congr (fun u0 u0 t=>IsTup.but hH B t) (fun u0 u0 e=>e) _ _ rr
   refine Hb Xc DA aA hh htg hus rv fun ID MM XA vB bA nb=>?_
   have nY:=GA.but (h':=ID) (fun y m=>by rw[List.mem_singleton.mp m];exact hC) nb
   have wY:=nb acc _ (fun m=>hax (by rw[List.mem_singleton.mp m];exact .head _)) WE
   have BW:=Ae.step DA bA aA.noTup
   have KQ:=I.frame _ _ _ _ {s with heap:=ID,toks:=MM} _ _ _ _ Ca DA aA bA
   refine wpAny_mono (hb hw (VK.step (s':={s with heap:=ID,toks:=MM}) VH nY) XA vB) (fun w TC p=>?_) fun e TC p=>by obtain⟨l,_,_,_,f,_⟩:=p;exact(f trivial).elim
   obtain⟨mv,TH,gE,q,rw',KB,GB⟩:=p
   have ZF:=vB.step XA GB
   have Jc:=nY.trans GB
   obtain⟨o',xY,kk⟩:=GB.keep acc _ wY han (fun m=>nomatch m)
   have:=kk.eq (by show Value.type "list"≠Value.type "frame";decide) (by show Value.type "list"≠Value.type "traceback";decide)
   subst this
   have GV:=GB.memIff wY han
   have EZ:=BW.step0 XA GB
   have Da:=I.frame _ _ _ _ TC _ _ _ _ KQ XA vB GB.x
   have dR:=EZ.len
   rw[Array.length_toList]at dR
   simp only[List.length_cons]at hz
   refine append_at xY (fun IM iR Kd=>?_) (by rw[LA];exact rC (eL dR) hz)
   obtain⟨FE,jR⟩:=KB.otherL GV hacc.2 xY ⟨by show Value.type "list"≠Value.type "tuple";decide,by show Value.type "list"≠Value.type "traceback";decide⟩ iR TC.toks
   have lI:=ZF.otherL hax iR jR TC.toks
   have tC:=Jc.but (h':=IM) (Y:=[acc]) (fun y m=>by rw[List.mem_singleton.mp m];exact hacc.1) (WC iR)
   have cN:=I.other _ _ IM _ Da (fun y o m e=>(iR.2 y fun q=>haY (q ▸ m)).trans e) jR
   refine ih (k+1) _ gE TH (vs++[mv]) (os.push w) (n+1) (rB jb tgt us) hx2 (by simp;exact qC hz) q FE lI (dL _ _ _) (fun i v e=>by rw[bI _ _ _ _ (Xf i v e)];exact e) tC cN GV Kd ?_
   rw[Array.toList_push]
   exact(MA.congr jR (fun u0 u0 e=>e) _ _ EZ).append ⟨SA.congr jR (fun u0 u0 e=>e) _ _ rw',trivial⟩
noncomputable def aH(names:List (Str×NameKind)):List Str:=(names.filter fun p=>p.2== .free).map (·.1)
theorem YH(env:Env):∀(names:List (Str×NameKind)) (cs:List (Str×Addr)),(∀x,(x,NameKind.free)∈names->∃a,env.cells.lookup x=some a)->
 ∃cl,(forIn names cs (fun x r=>match x with | (name,kind)=>(do
  if kind== .free then do
   let y <-cellOf env name
   pure (ForInStep.yield ((name,y)::r))
  else pure (ForInStep.yield r):Sem (ForInStep (List (Str×Addr))))):Sem (List (Str×Addr)))=pure (cl++cs)/\(cl.map (·.1))=(aH names).reverse/\∀x a,(x,a)∈cl->env.cells.lookup x=some a
 | [],cs,_=>⟨[],rfl,rfl,fun u0 u0 m=>nomatch m⟩
 | (n,k)::r,cs,h=>by
   rw[List.forIn_cons]
   by_cases hk:k= .free
   ·subst hk
    obtain⟨a,ha⟩:=h n (.head _)
    obtain⟨cl,e,h1,h2⟩:=YH env r ((n,a)::cs) fun x m=>h x (List.mem_cons_of_mem _ m)
    refine⟨cl++[(n,a)],?_,?_,fun x b m=>?_⟩
    ·have hc:cellOf env n=pure a:=by unfold cellOf;rw[ha]
     simp only[beq_self_eq_true,if_true,hc,pure_bind]
     rw[e];simp
    ·simp[aH,h1]
    ·rcases List.mem_append.mp m with m | m
     ·exact h2 x b m
     ·simp at m;obtain⟨rfl,rfl⟩:=m;exact ha
   ·obtain⟨cl,e,h1,h2⟩:=YH env r cs fun x m=>h x (List.mem_cons_of_mem _ m)
    have hkb:(k==NameKind.free)=false:=by simpa using hk
    refine⟨cl,?_,?_,h2⟩
    ·simp only[hkb,Bool.false_eq_true,if_false,pure_bind]
     exact e
    ·simp[aH,hkb,h1]
theorem mK{sc:Scope}(h:∀x,(x,NameKind.free)∈sc.names->∃a,env.cells.lookup x=some a):∃cl,closureFor sc env=pure cl/\(cl.map (·.1))=(aH sc.names).reverse/\∀x a,(x,a)∈cl->env.cells.lookup x=some a:=by
 obtain⟨cl,e,h1,h2⟩:=YH env sc.names [] h
 refine⟨cl,?_,h1,h2⟩
 rw[List.append_nil]at e
 exact(congrArg (fun m:Sem (List (Str×Addr))=>m >>= fun s=>pure s) e).trans (pure_bind _ _)
theorem qM:∀{cl:List (Str×Addr)},(cl.map (·.1)).Nodup->(∀x y a,(x,a)∈cl->(y,a)∈cl->x=y)->(cl.map (·.2)).Nodup
 | [],_,_=>List.nodup_nil
 | (x,a)::r,hn,h=>by
   simp only[List.map_cons,List.nodup_cons]at hn ⊢
   refine⟨fun m=>?_,qM hn.2 fun x y a h1 h2=>h x y a (List.mem_cons_of_mem _ h1) (List.mem_cons_of_mem _ h2)⟩
   obtain⟨q,hq,e⟩:=List.mem_map.mp m
   obtain⟨y,b⟩:=q
   have e':b=a:=e
   subst e'
   have:=h x y b (.head _) (List.mem_cons_of_mem _ hq)
   subst this
   exact hn.1 (List.mem_map.mpr ⟨_,hq,rfl⟩)
theorem tE{β:Type}{x:Str}{a:β}:∀{l:List (Str×β)},l.lookup x=some a->(x,a)∈l
 | [],h=>by cases h
 | (y,b)::r,h=>by
   simp only[List.lookup_cons]at h
   split at h
   ·rename_i e
    cases h
    rw[eq_of_beq e];exact .head _
   ·exact List.mem_cons_of_mem _ (tE h)
theorem cE{β:Type}{x:Str}{a:β}:∀{l:List (Str×β)},(l.map (·.1)).Nodup->(x,a)∈l->l.lookup x=some a
 | (y,b)::r,hn,h=>by
   simp only[List.map_cons,List.nodup_cons]at hn
   simp only[List.lookup_cons]
   rcases List.mem_cons.mp h with h' | h'
   ·cases h';simp
   ·have:(x==y)=false:=by
     rw[beq_eq_false_iff_ne];intro e
     exact hn.1 (List.mem_map.mpr ⟨(x,a),h',e⟩)
    rw[this];exact cE hn.2 h'
theorem pM{f:Str×NameKind->Str×NameKind}(hf:∀p,(f p).1=p.1){x:Str}:∀{l:List (Str×NameKind)} {k:NameKind},l.lookup x=some k->(l.map f).lookup x=some (f (x,k)).2
 | (y,b)::r,k,h=>by
   simp only[List.lookup_cons]at h
   have h1:=hf (y,b)
   cases hfy:f (y,b)with
   | mk y' b'=>
     rw[hfy]at h1
     have h1':y'=y:=h1
     subst h1'
     simp only[List.map_cons,hfy,List.lookup_cons]
     split at h
     ·rename_i e
      cases h
      have:=eq_of_beq e
      subst this
      simp[hfy]
     ·exact pM hf h
 | [],_,h=>by cases h
structure wW(c:CC)(sc:Scope):Prop where
 kind:sc.kind= .function
 nodup:(sc.names.map (·.1)).Nodup
 kinds:∀p∈sc.names,p.2= .local\/p.2= .globalImplicit\/(p.2= .free/\c.sc.names.lookup p.1=some .cell)
theorem JS{sc:Scope}(h:FW c sc=true):wW c sc:=by
 unfold FW at h
 simp only[Bool.and_eq_true,beq_iff_eq,decide_eq_true_eq,List.all_eq_true,Bool.or_eq_true]at h
 obtain⟨⟨h1,h2⟩,h3⟩:=h
 exact⟨h1,h2,fun p m=>by
  rcases h3 p m with(q | q) | q
  ·exact .inl q
  ·exact .inr (.inl q)
  ·exact .inr (.inr q)⟩
theorem JO{sc:Scope}:∀{cap:List Nat},kE c sc cap=true->∀i∈cap,∃x,c.nm[i]?=some x/\c.sc.names.lookup ⟨x.toArray⟩=some .cell/\sc.names.lookup ⟨x.toArray⟩=some .free
 | j::r,h,i,m=>by
   simp only[kE.r1,kE.r2,Bool.and_eq_true]at h
   rcases List.mem_cons.mp m with rfl | m
   ·have h1:=h.1
    set_option tactic.hygienic true in split at h1
    ·rename_i x e
     simp only[Bool.and_eq_true,beq_iff_eq]at h1
     exact⟨x,e,h1⟩
    ·cases h1
   ·exact JO h.2 i m
theorem RH(X:Gd g c env)(hk:env.scope.kind= .function)(sc:Scope):(relabel sc env).names=(c.inner sc).sc.names:=by
 refine List.map_congr_left fun p u0=>?_
 obtain⟨n,k⟩:=p
 have:env.kindOf n=c.sc.names.lookup n:=by unfold Env.kindOf;rw[X.names]
 simp only[hk,this]
 by_cases h:(k==NameKind.free&&c.sc.names.lookup n==some NameKind.cell)=true
 ·rw[if_pos h,if_pos (by simpa using h)]
 ·rw[if_neg h,if_neg (by simpa using h)]
theorem JX(X:Gd g c env)(hk:env.scope.kind= .function){sc:Scope}(hs:wW c sc){cl:List (Str×Addr)}(hcl:(cl.map (·.1))=(aH sc.names).reverse)(C:Addr):Gd g (c.inner sc) (compEnvC sc cl C env):=by
 refine⟨X.K,RH X hk sc,fun x h=>?_⟩
 have hm:=tE h
 have hm':(x,NameKind.cell)∈(c.inner sc).sc.names:=by rw[<-RH X hk sc];exact hm
 obtain⟨p,hp,e⟩:=List.mem_map.mp hm'
 have hfree:(x,NameKind.free)∈sc.names:=by
  split at e
  ·rename_i hq
   simp only[Bool.and_eq_true,beq_iff_eq]at hq
   cases e
   obtain⟨a,b⟩:=p
   have:b=NameKind.free:=hq.1
   subst this;exact hp
  ·subst e
   rcases hs.kinds _ hp with q | q | ⟨q,_⟩ <;>cases q
 have:x∈cl.map (·.1):=by
  rw[hcl,List.mem_reverse]
  exact List.mem_map.mpr ⟨_,List.mem_filter.mpr ⟨hfree,rfl⟩,rfl⟩
 obtain⟨q,hq,rfl⟩:=List.mem_map.mp this
 have hn:(cl.map (·.1)).Nodup:=by
  rw[hcl]
  unfold List.Nodup
  rw[List.pairwise_reverse]
  exact(hs.nodup.sublist ((List.filter_sublist).map _)).imp fun h=>h.symm
 exact⟨q.2,cE hn hq⟩
theorem IX(X:Gd g c env)(S:St g s U J)(F:Fm g c.nm s U env Z){sc:Scope}(hs:wW c sc){cl:List (Str×Addr)}(hcl:(cl.map (·.1))=(aH sc.names).reverse)(hcl2:∀x a,(x,a)∈cl->env.cells.lookup x=some a){C:Addr}(hC:g.WA.get? C=none)(Ba:C∉U)
 {o:Obj} (ho:s.heap.get? C=some o) (hoc:o.cls= .type "dict") (hod:nB o) (hns:s.heap.Ns C (fun u0=>none)) {cap:List Nat} (hcap:kE c sc cap=true):Fm g c.nm s U (compEnvC sc cl C env) (ND cap Z):=by
 have hn:(cl.map (·.1)).Nodup:=by
  rw[hcl]
  unfold List.Nodup
  rw[List.pairwise_reverse]
  exact(hs.nodup.sublist ((List.filter_sublist).map _)).imp fun h=>h.symm
 have hcm:∀a∈cl.map (·.2),a∈env.cells.map (·.2):=fun a m=>by
  obtain⟨q,hq,rfl⟩:=List.mem_map.mp m
  exact LC (hcl2 q.1 q.2 hq)
 refine⟨hs.kind,F.glob,F.blt,F.frame,F.nodup,(sN ..).trans F.len,fun a m=>?_,fun a m=>?_,⟨o,ho, .inr hoc,hod⟩,fun a m=>F.ccls a (hcm a m),?_,_,hns,fun i x v hx hv=>?_⟩
 ·rcases List.mem_cons.mp m with rfl | m
  ·exact hC
  ·exact F.above a (List.mem_cons_of_mem _ (hcm a m))
 ·rcases List.mem_cons.mp m with rfl | m
  ·exact Ba
  ·exact F.out a (List.mem_cons_of_mem _ (hcm a m))
 ·refine qM hn fun x y a h1 h2=>?_
  exact jK F.once (hcl2 _ _ h1) (hcl2 _ _ h2)
 ·obtain⟨hi,Zb⟩:=aI hv
  obtain⟨x',hx',k1,k2⟩:=JO hcap i hi
  rw[hx]at hx';cases hx'
  obtain⟨m,hm,vs⟩:=F.vars
  obtain⟨w,hw,r⟩:=vs i x v hx Zb
  have hko:env.kindOf ⟨x.toArray⟩=some .cell:=by unfold Env.kindOf;rw[X.names];exact k1
  refine⟨w, .inr ⟨.inl ?_,?_⟩,r⟩
  ·show(relabel sc env).names.lookup _=_
   have:=pM (f:=fun p=>if(p.2==NameKind.free&&env.scope.kind==ScopeKind.function&&env.kindOf p.1==some NameKind.cell)=true then(p.1,NameKind.cell)else(p.1,p.2)) (by intro p;split <;>rfl) k2
   refine Eq.trans ?_ (this.trans ?_)
   ·rfl
   ·simp[F.kind,hko]
  ·rcases hw with⟨q,_⟩ | ⟨_,c',hc',ic⟩
   ·rw[hko]at q;cases q
   ·refine⟨c',?_,ic⟩
    have:(⟨x.toArray⟩:Str)∈cl.map (·.1):=by
     rw[hcl,List.mem_reverse]
     exact List.mem_map.mpr ⟨_,List.mem_filter.mpr ⟨tE k2,rfl⟩,rfl⟩
    obtain⟨q,hq,e⟩:=List.mem_map.mp this
    obtain⟨q1,q2⟩:=q
    have e':q1=(⟨x.toArray⟩:Str):=e
    subst e'
    have:=hcl2 _ _ hq
    rw[hc']at this;cases this
    exact cE hn hq
end
section
variable{g:G}{A:Around}{d:Nat}{hd:Option Nat}{env:Env}{Z:List (Option V)}{c:CC}{E:Value->Shared->Prop}
theorem NL{L:Sem Addr}:∀(names:List (Str×NameKind)) (cs:List (Str×Addr)),(∀p∈names,p.2≠ .cell)->
 (forIn names cs (fun x r=>match x with | (name,kind)=>(do
  if kind== .cell then do
   let y <-L
   pure (ForInStep.yield ((name,y)::r))
  else pure (ForInStep.yield r):Sem (ForInStep (List (Str×Addr))))):Sem (List (Str×Addr)))=pure cs
 | [],cs,_=>rfl
 | (n,k)::r,cs,h=>by
   rw[List.forIn_cons]
   have hkb:(k==NameKind.cell)=false:=by have:=h (n,k) (.head _);simpa using this
   simp only[hkb,Bool.false_eq_true,if_false,pure_bind]
   exact NL r cs fun p m=>h p (List.mem_cons_of_mem _ m)
theorem aT{sc:Scope}{glb:Addr}{cl:List (Str×Addr)}{qual:Str}(h:∀p∈sc.names,p.2≠ .cell):
 newFunctionEnv sc glb cl [] qual none .none (some env)=(alloc {cls:= .type "dict",data:= .dict #[]} >>= fun L=>pure (newEnv sc L glb cl qual none .none (some env) builtinsNs)):=by
 unfold newFunctionEnv
 simp only[Option.isSome_some,if_true]
 refine bind_congr fun L=>?_
 have:=NL (L:=alloc {cls:= .type "cell",data:= .cell none}) sc.names cl h
 refine(congrArg (fun m:Sem (List (Str×Addr))=>m >>= _) this).trans ?_
 rw[pure_bind]
 rfl
theorem EK(Y:VC g)(X:Gd g c env){b:IE}{cap tgt:List Nat}{elt t iter:Expr}{sc:Scope}{pos:Pos}(hs:wW c sc)(h2:kE c sc cap=true)(h3:FN (c.inner sc) tgt t=true)(h4:∀i∈tgt,i∉cap)
 (h7:AE g (c.inner sc) b elt) {cl:List (Str×Addr)} (hcl:(cl.map (·.1))=(aH sc.names).reverse) (hcl2:∀x a,(x,a)∈cl->env.cells.lookup x=some a)
 {LB:Shared} {RA:List Addr} {LN:List O} (VK:Cx g A LB RA d none) (VH:St g LB RA LN) (vP:Fm g c.nm LB RA env Z) {UA:Shared} {U:List Addr} {J:List O} (XA:St g UA U J) (bA:KA LB.heap UA.heap RA U [])
 {it:Value} {Ys:List Addr} {It:Nat->Heap->List Addr->Prop} {item:Nat->List O->Option V->Prop} (I:kY g A t it Ys It item) (hY:∀y∈Ys,LB.heap.get? y=none/\g.WA.get? y=none) (hIt:It 0 UA.heap U)
 (again:∀s,It 0 s.heap U->∀(Q:Value->Shared->Prop) (E:Value->Shared->Prop),Q it s->wpAny (model g.prog g.w) A (pyIter it) Q E s) {all:List V} {inv:List O->Prop} (hitem:∀k J,inv J->item k J all[k]?) (hlen:all.length<=10000) {K:V->List O->Prop}
 (hw:¬YM inv (fun x J K=>OX J tgt x fun vs=>sC tgt vs (ND cap Z) fun Z=>dE g d none b Z J K (fun u0 u0=>True)) all J [] (fun vs J=>K (.loc J.length) (J++[.list vs]))):
 wpAny (model g.prog g.w) A (newList []) (fun acc TC=>wpAny (model g.prog g.w) A (newFunctionEnv sc env.globals cl [] env.qual none .none (some env)) (fun cenv yJ=>
  codeAny (model g.prog g.w) A (.compStart (.ListComp elt [⟨t,iter,[],0⟩] sc pos) 0 it acc {cenv with scope:=relabel sc env}) (compPost (model g.prog g.w) A E none (mA g LB.heap RA [] (NK K)) acc cenv.locals) yJ) E TC) E UA:=by
 have hh:A.handled=none:=VK.hand
 refine wpAny_newList ?_ (by show 0<=sizeLine;exact Nat.zero_le _)
 rw[aT (fun p m=>by rcases hs.kinds p m with q | q | ⟨q,_⟩ <;>rw[q] <;>decide)]
 refine wpAny_bind (wpAny_alloc (wpAny_pure ?_))
 have KB:=XA.pushU {cls:= .type "list",data:= .seq #[]}
 have GB:KA LB.heap (UA.heap.push {cls:= .type "list",data:= .seq #[]}) RA U []:=bA.trans (.pushU ..)
 have FE:=KB.pushU {cls:= .type "dict",data:= .dict #[]}
 have tC:KA LB.heap ((UA.heap.push {cls:= .type "list",data:= .seq #[]}).push {cls:= .type "dict",data:= .dict #[]}) RA U []:=GB.trans (.pushU ..)
 generalize cR:UA.heap.push {cls:= .type "list",data:= .seq #[]}=wB at*
 have hacc0:LB.heap.get? UA.heap.objs.size=none:=by
  induction e:LB.heap.get? UA.heap.objs.size using Option.casesOn with
  | none=>rfl
  | some o=>obtain⟨o',e'⟩:=bA.alive _ o e;exact absurd (Heap.lt_size e') (Nat.lt_irrefl _)
 have hC0:LB.heap.get? wB.objs.size=none:=by
  induction e:LB.heap.get? wB.objs.size using Option.casesOn with
  | none=>rfl
  | some o=>obtain⟨o',e'⟩:=GB.alive _ o e;exact absurd (Heap.lt_size e') (Nat.lt_irrefl _)
 have hCa:wB.objs.size=UA.heap.objs.size+1:=by rw[<-cR,Heap.size_push]
 have hac:(wB.push {cls:= .type "dict",data:= .dict #[]}).get? UA.heap.objs.size=some {cls:= .type "list",data:= .seq #[]}:=by
  refine Heap.get?_push_of_some _ ?_
  rw[<-cR];exact Heap.get?_push_size _ rfl
 have hcd:(wB.push {cls:= .type "dict",data:= .dict #[]}).get? wB.objs.size=some {cls:= .type "dict",data:= .dict #[]}:=Heap.get?_push_size _ rfl
 have lI:=vP.step (s':={UA with heap:=wB.push {cls:= .type "dict",data:= .dict #[]}}) VH tC
 have Xc:=JX X vP.kind hs hcl wB.objs.size
 have Ba:wB.objs.size∉U:=fun m=>absurd (KB.lt m) (Nat.lt_irrefl _)
 have Fc:=IX (C:=wB.objs.size) X FE lI hs hcl hcl2 KB.new.1 Ba hcd rfl ⟨#[],0,rfl⟩ ⟨_, #[],0,hcd,rfl,fun e he=>by simp at he,fun name=>rfl⟩ h2
 have cN:It 0 (wB.push {cls:= .type "dict",data:= .dict #[]}) U:=by
  refine I.other _ _ _ _ hIt (fun y o u0 e=>Heap.get?_push_of_some _ ?_) (fun a os t=>YC _ ?_)
  ·rw[<-cR];exact Heap.get?_push_of_some _ e
  ·rw[<-cR];exact YC _ t
 have hk2:∀a∈env.cells.map (·.2),a < UA.heap.objs.size:=fun a m=>by
  obtain⟨o,v,e,_⟩:=vP.ccls a m
  obtain⟨o',e'⟩:=bA.alive _ o e
  exact Heap.lt_size e'
 have loop:∀st,st=Code.compLoop (.ListComp elt [⟨t,iter,[],0⟩] sc pos) 0 it (.ref UA.heap.objs.size) (compEnvC sc cl wB.objs.size env)->codeAny (model g.prog g.w) A st (compPost (model g.prog g.w) A E none (mA g LB.heap RA [] (NK K)) (.ref UA.heap.objs.size) wB.objs.size) {UA with heap:=wB.push {cls:= .type "dict",data:= .dict #[]}}:=by
  rintro st rfl
  refine pS hh VK VH Xc (h7 _ _ _ _ Xc) I hY hC0 ⟨hacc0,XA.new.1⟩ (fun m=>?_) (fun m=>?_) h3 (jb:=ND cap Z) (fun i v e m=>h4 i m (aI e).1) all hitem ?_ all 0 _ U J [] #[] 0 _ (by simp) (by simp;exact kC hlen) hw FE Fc rfl (fun i v e=>e) tC cN (fun m=>absurd (XA.lt m) (Nat.lt_irrefl _)) hac trivial
  ·obtain⟨o,e,_⟩:=I.hid _ _ _ hIt _ m
   exact absurd (Heap.lt_size e) (Nat.lt_irrefl _)
  ·rcases List.mem_cons.mp m with q | m
   ·have:UA.heap.objs.size=wB.objs.size:=q
    rw[hCa]at this;exact absurd this (Nat.ne_of_lt (Nat.lt_succ_self _))
   ·obtain⟨q,hq,e⟩:=List.mem_map.mp m
    have:=hk2 _ (LC (hcl2 q.1 q.2 hq))
    rw[e]at this;exact absurd this (Nat.lt_irrefl _)
  ·intro s iA NA vs os n oJ hq S F T han ha rr hvs
   obtain⟨m,hm,_⟩:=F.vars
   refine⟨m,hm,fun h' hs'=>?_⟩
   obtain⟨o,ho,hcls,_⟩:=F.lcls
   have hClo:(compEnvC sc cl wB.objs.size env).locals=wB.objs.size:=rfl
   rw[hClo]at ho
   have hne:UA.heap.objs.size≠wB.objs.size:=by rw[hCa];exact Nat.ne_of_lt (Nat.lt_succ_self _)
   obtain⟨S',ht⟩:=S.otherL (F.out _ (.head _)) (F.above _ (.head _)) ho (by rcases hcls with q | q <;>rw[q] <;>decide) hs' s.toks
   have T':=T.but (h':=h') (Y:=[wB.objs.size]) (fun y m=>by rw[List.mem_singleton.mp m];exact hC0) (WC hs')
   refine pD hq ⟨_,?_,rfl⟩ (S'.track (.list vs) han XA.new.1 XA.new.2 ⟨os,n,(hs'.2 _ hne).trans ha,?_,MA.congr ht (fun l b e=>by rw[List.getElem?_append_left (List.getElem?_eq_some_iff.mp e).1];exact e) _ _ rr⟩) (T'.track hacc0)
   ·rw[<-S'.len];exact fB ..
   ·exact kC hvs
 refine codeAny_compStart_list (loop _ rfl) (again _ cN _ _ (loop _ rfl))
theorem LX{c:CC}{env:Env}(Y:VC g)(X:Gd g c env){b it:IE}{cap tgt:List Nat}{elt t iter:Expr}{sc:Scope}{pos:Pos}(h1:FW c sc=true)(h2:kE c sc cap=true)(h3:FN (c.inner sc) tgt t=true)
 (h4:∀i∈tgt,i∉cap) (h5:dD iter=false) (h6:SE g A d hd c env it iter) (h7:AE g (c.inner sc) b elt):
 SE g A d hd c env (.comp b cap tgt it) (.ListComp elt [⟨t,iter,[],0⟩] sc pos):=by
 intro Z J K E hw s U C S F
 have hs:=JS h1
 obtain⟨cl,hclos,hcl,hcl2⟩:=mK (sc:=sc) (env:=env) fun x m=>by
  rcases hs.kinds _ m with q | q | ⟨_,q⟩
  ·cases q
  ·cases q
  ·exact X.cells x (by rw[X.names];exact q)
 rw[arm_eval_ListComp]
 refine wpAny_comprehension_free rfl (fun u0=>tK h5) hclos hs.kind (fun x m e=>cE hs.nodup (by obtain⟨a,b⟩:=x;subst e;exact m)) ?_
 refine two h6 hw C S F fun x CA mv HA BA q rv qA DA aA GA=>?_
 obtain⟨rfl,q⟩:=UE q
 have hh:=C.hand
 have hY:∀y∈[CA.heap.objs.size],s.heap.get? y=none/\g.WA.get? y=none:=fun y m=>by
  rw[List.mem_singleton.mp m];exact⟨by
   induction e:s.heap.get? CA.heap.objs.size using Option.casesOn with
   | none=>rfl
   | some o=>obtain⟨o',e'⟩:=GA.alive _ o e;exact absurd (Heap.lt_size e') (Nat.lt_irrefl _),DA.new.1⟩
 clear hw
 induction mv using V.casesOn with
 | tup vs=>
   obtain⟨hlen,q⟩:=Classical.not_imp.mp q
   obtain⟨a,os,rfl,t',z,r⟩:=rv
   have t'':=t'
   obtain⟨o,e,c1,n,dd⟩:=t''
   refine wpAny_pyIter_tuple ⟨o,e,c1,n,dd⟩ ?_
   exact EK Y X hs h2 h3 h4 h7 hcl hcl2 C S F (DA.pushU _) (GA.trans (.pushU ..)) (xI (os:=os) (a:=a) hh) hY ⟨⟨_,Heap.get?_push_size _ rfl,rfl,rfl⟩,YC _ t',r.step0 DA (.pushU ..)⟩
    (fun s hi Q E q=>PySem.wpAny_pyIter_tupleiter hi.1 q) (fun k J u0=>rfl) hlen q
 | loc l=>
   obtain⟨a,ha,rfl⟩:=rv
   obtain⟨ob,q⟩:=Classical.not_forall.mp q
   obtain⟨hl,q⟩:=Classical.not_imp.mp q
   induction ob using O.casesOn with
   | list vs=>
     obtain⟨hlen,q⟩:=Classical.not_imp.mp q
     obtain⟨os,n,ho,hz,rr⟩:=DA.objs _ a _ ha hl
     refine wpAny_pyIter_list (vC ho) ?_
     exact EK Y X hs h2 h3 h4 h7 hcl hcl2 C S F (DA.pushU _) (GA.trans (.pushU ..)) (EL (l:=l) (a:=a) hh) hY ⟨ha,_,Heap.get?_push_size _ rfl,rfl,rfl⟩
      (fun s hi Q E q=>wpAny_pyIter_listiter hi.2 q) (fun k J h=>⟨_,h,rfl⟩) hlen q
   | dict kvs ep=>
     obtain⟨hlen,q⟩:=Classical.not_imp.mp q
     obtain⟨ps,D,hz,rr⟩:=DA.objs _ a _ ha hl
     refine wpAny_pyIter_dict (ZG Y DA ha) D ?_
     exact EK Y X hs h2 h3 h4 h7 hcl hcl2 C S F (DA.pushU _) (GA.trans (.pushU ..)) (tO (kvs:=kvs) (ep:=ep) (l:=l) (a:=a) hh) hY ⟨ha,_,Heap.get?_push_size _ rfl,rfl,by show _=Data.fields #[Value.ref a, .int 0 0, .int kvs.length 0, .int ep 0];rw[<-rr.len]⟩
      (fun s hi Q E q=>PySem.wpAny_pyIter_keyiter hi.2 q) (fun k J h=>⟨h,by rw[List.getElem?_map]⟩) hlen q
   | _=>exact(q trivial).elim
 | _=>exact(q trivial).elim
theorem rU{c:CC}{env:Env}(Y:VC g)(X:Gd g c env){b hi:IE}{cap:List Nat}{tgt:Nat}{elt t f x:Expr}{sc:Scope}{pos p:Pos}(h1:FW c sc=true)(h2:kE c sc cap=true)(h3:FN (c.inner sc) [tgt] t=true)
 (h4:cap.contains tgt=false) (h5:KD c f=true) (hx:IB x=false) (h6:SE g A d hd c env hi x) (h7:AE g (c.inner sc) b elt):
 SE g A d hd c env (.compR b cap tgt hi) (.ListComp elt [⟨t, .Call f [x] [] p,[],0⟩] sc pos):=by
 intro Z J K E hw s U C S F
 have hs:=JS h1
 obtain⟨cl,hclos,hcl,hcl2⟩:=mK (sc:=sc) (env:=env) fun x m=>by
  rcases hs.kinds _ m with q | q | ⟨_,q⟩
  ·cases q
  ·cases q
  ·exact X.cells x (by rw[X.names];exact q)
 rw[arm_eval_ListComp]
 refine wpAny_comprehension_free rfl (fun u0=>rfl) hclos hs.kind (fun x m e=>cE hs.nodup (by obtain⟨a,b⟩:=x;subst e;exact m)) ?_
 refine dJ Y X h5 hx h6 hw (fun v J q=>?_) C S F fun n HA CA BA y q DA aA GA y1 y2 hit=>?_
 ·have q:=(UE q).2
  induction v using V.casesOn with
  | int n=>exact⟨_,rfl,by have:=(Classical.not_imp.mp q).1;lia,(Classical.not_imp.mp (Classical.not_imp.mp q).2).1⟩
  | _=>exact(q trivial).elim
 obtain⟨rfl,q⟩:=UE q
 obtain⟨hn0,q⟩:=Classical.not_imp.mp q
 obtain⟨hn1,q⟩:=Classical.not_imp.mp q
 have hh:=C.hand
 have hY:∀z∈[y],s.heap.get? z=none/\g.WA.get? z=none:=fun z m=>by
  rw[List.mem_singleton.mp m];exact⟨y1,y2⟩
 refine EK Y X hs h2 h3 (fun i m=>by rw[List.mem_singleton.mp m];simpa using h4) h7 hcl hcl2 C S F DA GA (wI (lo:=0) (hi:=n) hh) hY (by simpa using hit)
  (fun s hi Q E q=>PySem.wpAny_pyIter_rangeiter hi q) (fun k J u0=>?_) (by simp;lia) q
 by_cases hk:k < n.toNat
 ·rw[if_pos (by clear q;lia),List.getElem?_map,List.getElem?_range hk];simp
 ·rw[if_neg (by clear q;lia),List.getElem?_eq_none (by clear q;simp;lia)]
end
section
variable{g:G}{A:Around}{d:Nat}{hd:Option Nat}{c:CC}{env:Env}{Z:List (Option V)}{J HA:List O}{s CA:Shared}{U BA:List Addr}
theorem tX{a:IE}{x:Expr}(ha:SE g A d hd c env a x){K:V->List O->Prop}{E:Nat->List O->Prop}(h:¬dE g d hd a Z HA K E)(C:Cx g A CA BA d hd)(S:St g CA BA HA)(F:Fm g c.nm CA BA env Z)(GA:KA s.heap CA.heap U BA [])
 {R:Value->Shared->Prop}
 (k:∀v UA mv uB vA,¬K mv uB->SA g UA.heap vA mv v->Cx g A UA vA d hd->St g UA vA uB->Fm g c.nm UA vA env Z->KA CA.heap UA.heap BA vA []->KA s.heap UA.heap U vA []->R v UA):
 wpAny (model g.prog g.w) A (eval x env) R (VA g s.heap U [] (NK E)) CA:=
 wpAny_mono (two ha h C S F fun v UA mv uB vA q r DE XA vB bA=>k v UA mv uB vA q r DE XA vB bA (GA.trans bA)) (fun u0 u0 p=>p) fun u0 u0 e=>e.from GA
theorem Cx.tk{t:Nat}(C:Cx g A s U d hd):Cx g A {s with toks:=t} U d hd:=⟨C.depth,C.units,C.hand,C.stk⟩
theorem Fm.tk{t:Nat}(S:St g s U J)(F:Fm g c.nm s U env Z):Fm g c.nm {s with toks:=t} U env Z:=F.step S (.refl ..)
theorem ud{ie:IE}{f:Expr->Option IE}{o:Option Expr}(hx:∀x,lC (f x) fun ie=>SE g A d hd c env ie x)(e:mL f o=some ie)
 {K:V->List O->Prop} {E:Nat->List O->Prop} (h:¬dE g d hd ie Z HA K E) (C:Cx g A CA BA d hd) (S:St g CA BA HA) (F:Fm g c.nm CA BA env Z) (GA:KA s.heap CA.heap U BA [])
 {R:Value->Shared->Prop}
 (k:∀v UA mv uB vA,¬K mv uB->SA g UA.heap vA mv v->Cx g A UA vA d hd->St g UA vA uB->Fm g c.nm UA vA env Z->KA CA.heap UA.heap BA vA []->KA s.heap UA.heap U vA []->R v UA):
 wpAny (model g.prog g.w) A (evalPart o env) R (VA g s.heap U [] (NK E)) CA:=by
 induction o using Option.casesOn with
 | some x=>have:=hx x;rw[show f x=some ie from e]at this;exact tX this h C S F GA k
 | none=>cases e;exact wpAny_pure (k _ _ .none _ _ h rfl C S F (.refl ..) GA)
end
section
variable{g:G}{c:CC}{pos:Pos}
theorem Ra(Y:VC g){id:Str}:lC (eQ c id) fun ie=>AE g c ie (.Name id pos):=by
 unfold eQ
 induction h:c.isVar (c.at id) id using Bool.casesOn with
 | true=>
   obtain⟨h1,h2⟩:=OV h
   intro A d hd env X Z J K E hw s U C S F
   obtain⟨v,hv,q⟩:=Vc hw
   exact wpAny_mono (oX S F h1 hv (NY rfl) (pG h2).1 (pG h2).2 (Q:=NK K) q) (fun u0 u0 x=>x) fun u0 u0 x=>x
 | false=>
   induction hr:sG c.K id using Option.casesOn with
   | none=>trivial
   | some v=>exact .when fun h A d hd env X Z J K E hw s U C S F=>DR Y S X.1 X.2 F.kind F.glob F.blt h (JP (Q:=NK K) S hw rfl)
theorem MX{k:Const}{n:Nat}:lC (XS k) fun ie=>AE g c ie (.Constant k n pos):=by
 induction k using PySem.Const.casesOn with
 | none=>exact fun A d hd env X Z J K E hw s U C S F=>wpAny_pure (JP (Q:=NK K) S hw rfl)
 | bool b=>exact fun A d hd env X Z J K E hw s U C S F=>wpAny_pure (JP (Q:=NK K) S hw rfl)
 | int b=>exact fun A d hd env X Z J K E hw s U C S F=>wpAny_Constant_int (MD (Q:=NK K) S hw ⟨_,rfl⟩ _)
 | str x=>
   refine .when fun h A d hd env X Z J K E hw s U C S F=>?_
   obtain⟨h1,h2,h3⟩:=GP h
   exact Calls.Constant_str (MD (Q:=NK K) S hw ⟨_,by rw[<-h1],h2,h3⟩ _)
 | _=>trivial
theorem Zc{op:Operator}{a b:IE}{l r:Expr}(ha:AE g c a l)(hb:AE g c b r):AE g c (.bin op a b) (.BinOp l op r pos):=fun A d hd env X Z J K E hw s U C S F=>
 wpAny_BinOp (two (ha A d hd env X) hw C S F fun v CA mv HA BA q rv qA DA aA GA=>tX (hb A d hd env X) q qA DA aA GA fun w UA mw uB vA q rw' DE XA vB bA T=>
  wpAny_mono (HX DE XA (rv.step0 DA bA) rw' (Of q)) (fun u0 u0 p=>p.from T) fun u0 u0 e=>e)
theorem gc(Y:VC g){op:CmpOp}{a b:IE}{l r:Expr}(hs:dD r=false)(ha:AE g c a l)(hb:AE g c b r):AE g c (.cmp op a b) (.Compare l [op] [r] pos):=fun A d hd env X Z J K E hw s U C S F=>
 wpAny_Compare1 (two (ha A d hd env X) hw C S F fun v CA mv HA BA q rv qA DA aA GA=>tX (hb A d hd env X) q qA DA aA GA fun w UA mw uB vA q rw' DE XA vB bA T=>by
  obtain⟨r,hr,q⟩:=DX q
  exact QN Y DE XA (rv.step0 DA bA) rw' hr fun t=>⟨_,_,_,q,rfl,XA.toks t,T⟩) (lV hs)
theorem jc(Y:VC g){op:CmpOp}{a b:IE}{l r:Expr}(hs:dD r=false)(ha:AE g c a l)(hb:AE g c b r):AT g c (.e (.cmp op a b)) (.Compare l [op] [r] pos):=fun A d hd env X Z J K1 K2 E hw s U C S F=>
 wpAny_isTrue_Compare1 (two (ha A d hd env X) hw C S F fun v CA mv HA BA q rv qA DA aA GA=>tX (hb A d hd env X) q qA DA aA GA fun w UA mw uB vA q rw' DE XA vB bA T=>by
  obtain⟨r,hr,q⟩:=DX q
  exact QN Y DE XA (rv.step0 DA bA) rw' hr fun t=>wpAny_truthy_bool ⟨_,_,Ub q,XA.toks t,T⟩) (lV hs)
theorem hZ(Y:VC g){op1 op2:CmpOp}{a b:IE}{l r1:Expr}{n:Int}{kn:Nat}{kp:Pos}(g1:dD r1=false)(ha:AE g c a l)(hb:AE g c b r1):AT g c (.e (.cmp2 a op1 b op2 (.int n))) (.Compare l [op1,op2] [r1, .Constant (.int n) kn kp] pos):=by
 intro A d hd env X Z J K1 K2 E hw s U C S F
 rw[arm_isTrue_Compare]
 refine wpAny_bind (two (ha A d hd env X) hw C S F fun v CA mv HA BA q rv qA DA aA GA=>?_)
 show wpAny _ _ (testChain pos v [op1,op2] [eval r1 env,markedBehindIn op2 (.Constant (.int n) kn kp) (eval (.Constant (.int n) kn kp) env)]) _ _ _
 rw[markedBehindIn_of_false (lV rfl)]
 ·refine wpAny_bind (wpAny_holding (tX (hb A d hd env X) q qA DA aA GA fun w UA mw uB vA q rw' DE XA vB bA T=>?_))
  obtain⟨r,hr,q⟩:=DX q
  obtain⟨r2,hr2,q⟩:=DX (show ¬rS uB op2 mw (.int n) (fun r2=>qZ (r&&r2) (K1 uB) (K2 uB))from q)
  have q:=Ub q
  refine wpAny_bind (wpAny_standAt (wpAny_bind (wpAny_holding (QN Y DE XA (rv.step0 DA bA) rw' hr fun t=>?_))))
  refine wpAny_bind (ZL (wpAny_bind (wpAny_holding (wpAny_truthy_bool ?_))))
  induction r using Bool.casesOn with
  | false=>rw[if_neg Bool.false_ne_true];exact wpAny_pure ⟨_,_,q,XA.toks t,T⟩
  | true=>
    rw[if_pos rfl]
    have KB:=(XA.toks t).toks (t+1)
    refine wpAny_bind (wpAny_holding (wpAny_Constant_int (wpAny_bind (wpAny_standAt (wpAny_bind (eH (QN Y (Cx.tk (Cx.tk DE)) KB rw' (show SA g UA.heap vA (.int n) (.int n t)from⟨_,rfl⟩) hr2 fun t'=>wpAny_holding (wpAny_truthy_bool ⟨_,_,q,KB.toks t',T⟩))))))))
theorem ld{a:IE}{x:Expr}(ha:AE g c a x):AE g c (.neg a) (.UnaryOp .USub x pos):=fun A d hd env X Z J K E hw s U C S F=>
 wpAny_UnaryOp (two (ha A d hd env X) hw C S F fun v CA mv HA BA q rv qA DA aA GA=>by
  induction mv using V.casesOn with
  | int i=>obtain⟨t,rfl⟩:=rv;exact PyProof.Rows.neg_int ⟨_,_,_,q,⟨_,rfl⟩,DA.toks _,GA⟩
  | _=>exact(q trivial).elim)
theorem Vd{t:IT}{a b:IE}{t' a' b':Expr}(ht:AT g c t t')(ha:AE g c a a')(hb:AE g c b b'):AE g c (.ite t a b) (.IfExp t' a' b' pos):=fun A d hd env X Z J K E hw s U C S F=>
 wpAny_IfExp (wpAny_mono (ht A d hd env X hw C S F) (fun r CA p=>by
  obtain⟨HA,BA,q,DA,GA⟩:=p
  induction r using Bool.casesOn with
  | true=>exact DV GA (ha A d hd env X q (C.step S GA) DA (F.step S GA))
  | false=>exact DV GA (hb A d hd env X q (C.step S GA) DA (F.step S GA))) fun u0 u0 e=>e)
theorem pK{es:nI}{xs:List Expr}(h:IG (AE g c) es xs):∀(A:Around) (d:Nat) (hd:Option Nat) (env:Env),Gd g c env->Fg g A d hd c env es xs:=by
 intro A d hd env X
 induction h with
 | nil=>exact fun {Z J K E} hw {s U} pos C S F=>Calls.spliced_nil ⟨[],_,_,hw,trivial,S, .refl ..⟩
 | cons h p _ ih=>
   intro Z J K E hw s U pos C S F
   rw[wA h,xC]
   refine Calls.spliced_cons (two (p A d hd env X) hw C S F fun v CA mv HA BA q rv qA DA aA GA=>?_)
   refine wpAny_mono (ih q pos qA DA aA) (fun vs UA p=>?_) fun u0 u0 e=>e.from GA
   obtain⟨mvs,uB,vA,q2,rs,XA,bA⟩:=p
   exact⟨mv::mvs,_,_,q2,⟨rv.step0 DA bA,rs⟩,XA,GA.trans bA⟩
set_option tactic.hygienic true in
theorem YZ(Y:VC g){es:nI}{xs:List Expr}(h:IG (AE g c) es xs):∀(A:Around) (d:Nat) (hd:Option Nat) (env:Env),Gd g c env->Lf g A d hd c env es xs:=by
 intro A d hd env X
 induction h with
 | nil=>exact fun {Z J K E} hw=>(hw trivial).elim
 | cons h p hr ih=>
   intro Z J K E hw s U pos C S F
   cases hr with
   | nil=>exact p A d hd env X hw C S F
   | cons h2 p2 hr2=>
     rename_i x _ _ x2 xs
     ·refine wpAny_bind (two (p A d hd env X) hw C S F fun v CA mv HA BA q rv qA DA aA GA=>?_)
      obtain⟨b,hb,q⟩:=bU q
      have q:=Ub q
      refine wpAny_bind (wpAny_standAt (wpAny_bind (wpAny_holding (HN Y DA rv hb fun t=>?_))))
      induction b using Bool.casesOn with
      | false=>exact wpAny_pure ⟨_,_,_,q,rv,DA.toks t,GA⟩
      | true=>exact wpAny_mono (ih q pos (s:={CA with toks:=t}) (Cx.tk qA) (DA.toks t) (Fm.tk DA aA)) (fun w UA p=>p.from GA) fun u0 u0 e=>e.from GA
set_option tactic.hygienic true in
theorem zc{es:nI}{xs:List Expr}(h:IG (AE g c) es xs):∀(A:Around) (d:Nat) (hd:Option Nat) (env:Env),Gd g c env->Eg g A d hd c env es xs:=by
 intro A d hd env X
 induction h with
 | nil=>
   intro ks keys hk hl Z J K E hw s U pos C S F
   induction ks using List.casesOn with
   | cons _ _=>simp at hl
   | nil=>
     have:pairTrees keys [] env pos=[]:=by cases keys with | nil=>rfl | cons k _=>induction k using Option.casesOn <;>rfl
     rw[this]
     exact evalPairs_nil ⟨[],_,_,hw,trivial,S, .refl ..⟩
 | cons h p hr ih=>
   intro ks keys hk hl Z J K E hw s U pos C S F
   induction ks using List.casesOn with
   | nil=>simp at hl
   | cons k ks=>
     rename_i x xs
     obtain⟨kx,n,p',keys,rfl,hk1,hk2⟩:=FI hk
     obtain⟨rfl,_,_⟩:=GP hk1
     show wpAny _ _ (evalPairs ((eval (.Constant (.str ⟨k.toArray⟩) n p') env,do let y <-eval x env;standAt pos;pure y)::pairTrees keys xs env pos)) _ _ _
     refine evalPairs_cons (Calls.Constant_str (wpAny_bind ?_))
     refine two (p A d hd env X) hw (s:={s with toks:=s.toks+1}) (Cx.tk C) (S.toks _) (Fm.tk S F) fun v CA mv HA BA q rv qA DA aA GA=>?_
     refine wpAny_bind (wpAny_standAt (wpAny_pure ?_))
     refine wpAny_mono (ih _ _ hk2 (by simpa using hl) q pos qA DA aA) (fun vs UA p=>?_) fun u0 u0 e=>e.from GA
     obtain⟨mvs,uB,vA,q2,rs,XA,bA⟩:=p
     exact⟨mv::mvs,_,_,q2,⟨⟨_,rfl⟩,rv.step0 DA bA,rs⟩,XA,KA.trans GA bA⟩
theorem ee{es:nI}{xs:List Expr}{k:Nat}(h:IG (AE g c) es xs):AE g c (.tup es) (.Tuple xs k pos):=by
 intro A d hd env X Z J K E hw s U C S F
 refine PyProof.Rows.Tuple_ (wpAny_mono (pK h A d hd env X hw pos C S F) (fun xs CA p=>?_) fun u0 u0 e=>e)
 obtain⟨mvs,HA,BA,q,r,DA,GA⟩:=p
 obtain⟨hz,q⟩:=Uc q
 have hl:=r.len
 refine wpAny_newObj_type ?_ (by show xs.toArray.size<=sizeLine;rw[List.size_toArray,LA];exact rC (eL hl) hz)
 refine pD q ⟨_,xs.toArray,rfl,⟨_,Heap.get?_push_size _ rfl,rfl,0,rfl⟩,by exact kC hz,?_⟩ (DA.pushU _) (GA.trans (.pushU ..))
 exact(by simpa using r:MA g CA.heap BA mvs xs.toArray.toList).step0 DA (.pushU ..)
theorem jd{es:nI}{xs:List Expr}(h:IG (AE g c) es xs):AE g c (.lst es) (.List xs pos):=by
 intro A d hd env X Z J K E hw s U C S F
 refine PyProof.Rows.List_ (wpAny_mono (pK h A d hd env X hw pos C S F) (fun xs CA p=>?_) fun u0 u0 e=>e)
 obtain⟨mvs,HA,BA,q,r,DA,GA⟩:=p
 obtain⟨hz,q⟩:=Uc q
 have hl:=r.len
 refine wpAny_newObj_type ?_ (by show xs.toArray.size<=sizeLine;rw[List.size_toArray,LA];exact rC (eL hl) hz)
 refine pD q ⟨_,?_,rfl⟩ (DA.pushT _ (.list mvs) rfl ⟨xs.toArray,0,Heap.get?_push_size _ rfl,by exact kC hz,?_⟩) (GA.trans (.pushT ..))
 ·rw[<-DA.len];exact fB ..
 ·exact(by simpa using r:MA g CA.heap BA mvs xs.toArray.toList).step0 DA (.pushT ..)
theorem vc(Y:VC g){es:nI}{keys:List (Option Expr)}{xs:List Expr}{ks:List (List Nat)}(h1:KG ks keys=true)(h3:ks.length=xs.length)(h4:ks.length<=15)(h:IG (AE g c) es xs):AE g c (.dct ks es) (.Dict keys xs pos):=by
 intro A d hd env X Z J K E hw s U C S F
 have T0:=KA.pushU s.heap U {cls:= .type "dict",data:= .dict #[]}
 refine tS Y C S h1 h3 h4 (wpAny_mono (zc h A d hd env X _ _ h1 h3 hw pos (s:={s with heap:=s.heap.push {cls:= .type "dict",data:= .dict #[]}}) (C.step S T0) (S.pushU _) (F.step S T0)) (fun ps s' p=>?_) fun u0 u0 e=>e)
 obtain⟨vs,NA,iA,q,r,S,T⟩:=p
 have q1:=Classical.not_imp.mp q
 have q2:=Classical.not_imp.mp q1.2
 exact⟨vs,NA,iA,⟨q1.1,q2.1,fun ep k=>nn q2.2 ep k⟩,r,S,T⟩
theorem Rd(Y:VC g){a i:IE}{v sl:Expr}(ha:AE g c a v)(hi:AE g c i sl):AE g c (.idx a i) (.Subscript v sl pos):=by
 intro A d hd env X Z J K E hw s U C S F
 rw[arm_eval_Subscript]
 refine wpAny_bind (two (ha A d hd env X) hw C S F fun x CA mv HA BA q rv qA DA aA GA=>?_)
 refine wpAny_bind (wpAny_holding (tX (hi A d hd env X) q qA DA aA GA fun y UA mw uB vA q rw' DE XA vB bA T=>?_))
 obtain⟨r,q⟩:=Classical.not_forall.mp q
 obtain⟨hr,q⟩:=Classical.not_imp.mp q
 exact wpAny_bind (wpAny_standAt (Ia Y XA (rv.step0 DA bA) rw' hr fun w t rr=>⟨_,_,_,q,rr,XA.toks t,T⟩))
theorem He(Y:VC g){f:Expr->Option IE}(hf:∀x,lC (f x) fun ie=>AE g c ie x){a lo hi:IE}{v:Expr}{l u:Option Expr}{p:Pos}(ha:AE g c a v)(h1:mL f l=some lo)(h2:mL f u=some hi):AE g c (.slc a lo hi) (.Subscript v (.Slice l u none p) pos):=by
 intro A d hd env X Z J K E hw s U C S F
 have hf':∀x,lC (f x) fun ie=>SE g A d hd c env ie x:=fun x=>by
  have:=hf x
  induction e:f x using Option.casesOn with
  | none=>trivial
  | some ie=>rw[e]at this;have h2:SE g A d hd c env ie x:=this A d hd env X;exact @h2
 rw[arm_eval_Subscript]
 refine wpAny_bind (two (ha A d hd env X) hw C S F fun x CA mv HA BA q rv qA DA aA GA=>?_)
 refine wpAny_bind (wpAny_holding (wpAny_Slice (ud hf' h1 q qA DA aA GA fun y UA my uB vA q ry DE XA vB bA T=>?_)))
 refine ud hf' h2 q DE XA vB T fun z TC mz TH gE q rz kI KB ZF GB T'=>?_
 refine wpAny_pure (wpAny_bind (wpAny_standAt ?_))
 exact wpAny_mono (LW Y kI KB ((rv.step0 DA bA).step0 XA GB) (ry.step0 XA GB) rz (Qf q)) (fun u0 u0 p=>p.from T') fun u0 u0 e=>e
theorem va(Y:VC g){a lo st:IE}{v l sx:Expr}{p:Pos}(ha:AE g c a v)(hl:AE g c lo l)(hs:AE g c st sx):AE g c (.slc3 a lo st) (.Subscript v (.Slice (some l) none (some sx) p) pos):=by
 intro A d hd env X Z J K E hw s U C S F
 rw[arm_eval_Subscript]
 refine wpAny_bind (two (ha A d hd env X) hw C S F fun x CA mv HA BA q rv qA DA aA GA=>?_)
 refine wpAny_bind (wpAny_holding (wpAny_Slice (tX (hl A d hd env X) q qA DA aA GA fun y UA my uB vA q ry DE XA vB bA T=>wpAny_pure ?_)))
 refine tX (hs A d hd env X) q DE XA vB T fun z TC mz TH gE q rz kI KB ZF GB T'=>?_
 refine wpAny_bind (wpAny_standAt ?_)
 exact wpAny_mono (nT Y kI KB ((rv.step0 DA bA).step0 XA GB) (ry.step0 XA GB) rz (Yc q)) (fun u0 u0 p=>p.from T') fun u0 u0 e=>e
theorem bZ(Y:VC g){a:IE}{v:Expr}{n:Str}(h0:oG v=false)(ha:AE g c a v):AE g c (.attr a n.cps.toList) (.Attribute v n pos):=by
 intro A d hd env X Z J K E hw s U C S F
 rw[arm_eval_Attribute,DS h0]
 refine wpAny_bind (two (ha A d hd env X) hw C S F fun x CA mv HA BA q rv qA DA aA GA=>?_)
 obtain⟨r,q⟩:=Classical.not_forall.mp q
 obtain⟨hr,q⟩:=Classical.not_imp.mp q
 refine wpAny_bind (wpAny_standAt (wpAny_bind (wpAny_holding (wpAny_mono (CR Y qA DA rv hr (Q:=NK K) q) (fun w UA p=>?_) fun u0 u0 e=>e))))
 exact wpAny_bind (wpAny_letTemporaryGo (wpAny_pure (p.from GA)))
theorem UX(Y:VC g){f:IE}{as:nI}{f':Expr}{as':List Expr}(h0:oR f'=false)(hf:AE g c f f')(hs:IG (AE g c) as as'):AE g c (.call f as) (.Call f' as' [] pos):=by
 intro A d hd env X Z J K E hw s U C S F
 have e1:eval (.Call f' as' [] pos) env=(do callWith pos (<-eval f' env) [] (backTo pos (starEach as' env)) (backToKw pos (keywordEach [] env))):=by
  induction f' using Expr.casesOn <;>first | rfl | cases h0
 rw[e1]
 refine wpAny_bind (two (hf A d hd env X) hw C S F fun x CA mv HA BA q rv qA DA aA GA=>?_)
 have hp:=fH (env:=env) pos hs
 refine DV GA ?_
 induction mv using V.casesOn with
 | val w=>induction w using Value.casesOn with
   | ref a=>
     subst rv
     have q:¬(match jX a with | true=>FK g d hd as Z HA (fun vs J=>∀S:Sp,JA g d hd a vs J S->S.K K E) E | false=>True):=q
     induction hk:jX a using Bool.casesOn with
     | true=>
       rw[hk]at q
       exact lS Y qA DA hp hk (wpAny_mono (pK hs A d hd env X q pos qA DA aA) (fun xs UA p=>p.mono fun vs J q=>aU q) fun u0 u0 e=>e)
     | false=>rw[hk]at q;exact(q trivial).elim
   | builtin f=>subst rv;exact jU Y qA DA hp (wpAny_mono (pK hs A d hd env X q pos qA DA aA) (fun xs UA p=>p.mono fun vs J q=>Tc q) fun u0 u0 e=>e)
   | type f=>subst rv;exact kU Y qA DA hp (wpAny_mono (pK hs A d hd env X q pos qA DA aA) (fun xs UA p=>p.mono fun vs J q=>Tc q) fun u0 u0 e=>e)
   | _=>exact(q trivial).elim
 | _=>exact(q trivial).elim
theorem Qa(Y:VC g){o:IE}{as:nI}{v:Expr}{n:Str}{ap:Pos}{as':List Expr}(h0:oG v=false)(hline:(ap.endLine==pos.line)=true)(h4:as'.length<=20)(ho:AE g c o v)(hs:IG (AE g c) as as'):AE g c (.meth o n.cps.toList as) (.Call (.Attribute v n ap) as' [] pos):=by
 obtain⟨⟨n⟩⟩:=n
 intro A d hd env X Z J K E hw s U C S F
 have hp:=fH (env:=env) pos hs
 refine eV h0 hline hs h4 (two (ho A d hd env X) hw C S F fun x CA mv HA BA q rv qA DA aA GA pl=>?_)
 have fin:∀{t:Sem (Value×List Value)},wpAny (model g.prog g.w) A t (fun fm UA=>wpAny (model g.prog g.w) A (callWith pos fm.1 fm.2 (backTo pos (starEach as' env)) []) (mA g CA.heap BA [] (NK K)) (VA g CA.heap BA [] (NK E)) UA) (VA g CA.heap BA [] (NK E)) CA->
  wpAny (model g.prog g.w) A t (fun fm UA=>wpAny (model g.prog g.w) A (callWith pos fm.1 fm.2 (backTo pos (starEach as' env)) []) (mA g s.heap U [] (NK K)) (VA g s.heap U [] (NK E)) UA) (VA g s.heap U [] (NK E)) CA:=
  fun h=>wpAny_mono h (fun fm UA ID=>wpAny_mono ID (fun u0 u0 p=>p.from GA) fun u0 u0 e=>e.from GA) fun u0 u0 e=>e.from GA
 have args:∀{K':List V->List O->Prop} {Q:List V->List O->Prop} (t:Nat),¬FK g d hd as Z HA K' E->(∀vs J,¬K' vs J->Q vs J)->
  wpAny (model g.prog g.w) A (spliced (backTo pos (starEach as' env))) (DD g CA.heap BA Q) (VA g CA.heap BA [] (NK E)) {CA with toks:=t}:=fun t q k=>
  wpAny_mono (pK hs A d hd env X q pos (s:={CA with toks:=t}) (Cx.tk qA) (DA.toks t) (Fm.tk DA aA)) (fun xs UA p=>p.mono k) fun u0 u0 e=>e
 refine fin ?_
 clear fin hw
 induction mv using V.casesOn with
 | str x=>
   have q:¬(match eG.contains n with | true=>FK g d hd as Z HA (fun vs J=>PR (sA J x n vs) K) E | false=>True):=q
   induction hn:eG.contains n using Bool.casesOn with
   | true=>rw[hn]at q;exact bQ Y qA DA rv (List.contains_iff_mem.mp hn) hp (args CA.toks q fun vs J q=>Pf q)
   | false=>rw[hn]at q;exact(q trivial).elim
 | val w=>induction w using Value.casesOn with
   | ref Cl=>
     subst rv
     have q:¬(match fZ Cl n with | some f=>FK g d hd as Z HA (fun vs J=>∀S:Sp,JA g d hd f vs J S->S.K K E) E | none=>True):=q
     induction hn:fZ Cl n using Option.casesOn with
     | some f=>rw[hn]at q;exact zP Y qA DA hn hp fun t=>args t q fun vs J q=>aU q
     | none=>rw[hn]at q;exact(q trivial).elim
   | type T=>
     have q2:¬(match T=="Exception"&&n==[95,95,105,110,105,116,95,95]with
      | true=>FK g d hd as Z HA (fun vs J=>cT vs True fun l u0=>((∃C dl,J[l]?=some (.exc C dl))\/∃C,J[l]?=some (.exc0 C))->K .none J) E
      | false=>True):=q
     induction hn:T=="Exception"&&n==[95,95,105,110,105,116,95,95]using Bool.casesOn with
     | true=>
       rw[hn]at q2
       have hn:=Bool.and_eq_true_iff.mp hn
       have hT:=eq_of_beq hn.1
       subst hT
       subst rv
       rw[show n=_ from eq_of_beq hn.2]
       exact CQ Y qA DA hp fun t=>args t q2 fun vs J q=>uV (fun u0 u0=>Classical.not_imp.mp) q
     | false=>rw[hn]at q2;exact(q2 trivial).elim
   | _=>exact(q trivial).elim
 | loc l=>
   obtain⟨a,ha,rfl⟩:=rv
   obtain⟨ob,q⟩:=Classical.not_forall.mp q
   obtain⟨hl,q⟩:=Classical.not_imp.mp q
   induction ob using O.casesOn with
   | list vs=>
     have q:¬(match RF.contains n with | true=>FK g d hd as Z HA (fun vs J=>∀xs,rA J l=some xs->PR (XB J l xs n vs) K) E | false=>True):=q
     induction hn:RF.contains n using Bool.casesOn with
     | true=>rw[hn]at q;exact xO Y qA DA hl ha (List.contains_iff_mem.mp hn) hp (args CA.toks q fun vs J q=>(Classical.not_forall.mp q).imp fun xs q=>(Classical.not_imp.mp q).imp id Pf)
     | false=>rw[hn]at q;exact(q trivial).elim
   | dict kvs ep=>
     have q:¬(match KF.contains n with | true=>FK g d hd as Z HA (fun vs J=>∀xs,dictAt J l=some xs->PR (NE J l xs n vs) K) E | false=>True):=q
     induction hn:KF.contains n using Bool.casesOn with
     | true=>rw[hn]at q;exact UO Y qA DA hl ha (List.contains_iff_mem.mp hn) hp (args CA.toks q fun vs J q=>(Classical.not_forall.mp q).imp fun xs q=>(Classical.not_imp.mp q).imp id Pf)
     | false=>rw[hn]at q;exact(q trivial).elim
   | inst Cl dl=>
     have q:¬(match LL Cl n with
      | some f=>∀kvs,qH HA dl=some kvs->QA n kvs=none->FK g d hd as Z HA (fun vs J=>∀S:Sp,JA g d hd f (.loc l::vs) J S->S.K K E) E
      | none=>True):=q
     induction hn:LL Cl n using Option.casesOn with
     | some f=>
       rw[hn]at q
       obtain⟨kvs,q⟩:=Classical.not_forall.mp q
       obtain⟨k1,q⟩:=Classical.not_imp.mp q
       obtain⟨k2,q⟩:=Classical.not_imp.mp q
       exact nO Y qA DA hl ha k1 k2 hn hp (args CA.toks q fun vs J q=>aU q)
     | none=>rw[hn]at q;exact(q trivial).elim
   | _=>exact(q trivial).elim
 | _=>exact(q trivial).elim
end
theorem lC.self{α:Type}(o:Option α):lC o fun a=>o=some a:=by
 induction o using Option.casesOn with
 | none=>trivial
 | some a=>exact rfl
theorem xG{b:Bool}(h:(!b)=true):b=false:=by induction b using Bool.casesOn <;>first | rfl | cases h
section
variable{g:G}{c:CC}{pos:Pos}
theorem NP(it:Expr):lC (YI c it) fun x=>∃f p,it= .Call f [x.1,x.2] [] p/\KD c f=true/\IB x.1=false/\IB x.2=false:=by
 induction it using Expr.casesOn with
 | Call f xs kws p=>
   refine .when fun h1=>?_
   rcases kws with _ | ⟨_,_⟩
   ·rcases xs with _ | ⟨x,_ | ⟨y,_ | ⟨_,_⟩⟩⟩
    ·trivial
    ·trivial
    ·exact .when fun h2=> .when fun h3=>⟨_,_,rfl,h1,xG h2,xG h3⟩
    ·trivial
   ·trivial
 | _=>trivial
theorem UL(it:Expr):lC (XI c it) fun x=>∃f p,it= .Call f [x] [] p/\KD c f=true/\IB x=false:=by
 induction it using Expr.casesOn with
 | Call f xs kws p=>
   refine .when fun h1=>?_
   rcases kws with _ | ⟨_,_⟩
   ·rcases xs with _ | ⟨x,_ | ⟨_,_⟩⟩
    ·trivial
    ·exact .when fun h2=>⟨_,_,rfl,h1,xG h2⟩
    ·trivial
   ·trivial
 | _=>trivial
theorem zZ(Y:VC g){f:CC->Expr->Option IE}(hf:∀c x,lC (f c x) fun ie=>AE g c ie x){e:Expr}{sc:Scope}{gens:List Comprehension}:lC (aW f c e sc gens) fun ie=>AE g c ie (.ListComp e gens sc pos):=by
 induction gens using List.casesOn with
 | nil=>trivial
 | cons gn r=>induction r using List.casesOn with
   | cons _ _=>trivial
   | nil=>
     obtain⟨t,iter,ifs,n⟩:=gn
     induction ifs using List.casesOn with
     | cons _ _=>trivial
     | nil=>
       refine .when fun h=>(hf _ e).bind fun hb=>?_
       simp only[Bool.and_eq_true,decide_eq_true_eq,Bool.not_eq_true']at h
       obtain⟨⟨⟨⟨⟨rfl,h1⟩,h2⟩,h3⟩,h4⟩,h5⟩:=h
       induction hr:XI c iter using Option.casesOn with
       | some x=>
         obtain⟨fn,p,rfl,h6,h7⟩:=(UL _).get hr
         induction t using Expr.casesOn with
         | Name id _=>exact(hf c x).map fun hi A d hd env X=>rU Y X h1 h2 h3 (Bool.eq_false_iff.mpr fun q=>h4 _ (.head _) (List.contains_iff_mem.mp q)) h6 h7 (hi A d hd env X) hb
         | _=>trivial
       | none=>exact(hf c iter).map fun hi A d hd env X=>LX Y X h1 h2 h3 h4 h5 (hi A d hd env X) hb
theorem ke(Y:VC g){a:IE}{e:Expr}(ha:AE g c a e)(he:∀env whole,isTrue e env whole=(do let v <-whole;standAt e.pos;holding [v] (truthy v))):AT g c (.e a) e:=fun A d hd env X Z J K1 K2 E hw s U C S F=>
 wpAny_isTrue_value (two (ha A d hd env X) hw C S F fun v CA mv HA BA q rv qA DA aA GA=>by
  obtain⟨b,hb,q⟩:=bU q
  exact HN Y DA rv hb fun t=>⟨_,_,Ub q,DA.toks t,GA⟩) (he _ _)
theorem pd{t:IT}{x:Expr}(h:AT g c t x):AT g c (.not t) (.UnaryOp .Not x pos):=fun A d hd env X Z J K1 K2 E hw s U C S F=>
 wpAny_isTrue_Not (wpAny_mono (h A d hd env X hw C S F) (fun b CA p=>by
  obtain⟨HA,BA,q,DA,GA⟩:=p
  exact⟨HA,BA,by induction b using Bool.casesOn <;>exact q,DA,GA⟩) fun u0 u0 e=>e)
theorem ZZ{ts:HU}{xs:List Expr}(h:fS (AT g c) ts xs){A:Around}{d:Nat}{hd:Option Nat}{env:Env}(X:Gd g c env):Gg g A d hd c env ts xs:=by
 induction h with
 | nil=>exact fun {Z J K1 K2 E} hw {s U} C S F=>wpAny_allTrue_And_nil ⟨_,_,hw,S, .refl ..⟩
 | cons p _ ih=>
   intro Z J K1 K2 E hw s U C S F
   refine wpAny_allTrue_And_cons (wpAny_mono (p A d hd env X hw C S F) (fun b CA p=>?_) fun u0 u0 e=>e)
   obtain⟨HA,BA,q,DA,GA⟩:=p
   induction b using Bool.casesOn with
   | true=>exact tY GA (ih q (C.step S GA) DA (F.step S GA))
   | false=>exact⟨_,_,q,DA,GA⟩
theorem sd{ts:HU}{xs:List Expr}(h:fS (AT g c) ts xs){A:Around}{d:Nat}{hd:Option Nat}{env:Env}(X:Gd g c env):Hg g A d hd c env ts xs:=by
 induction h with
 | nil=>exact fun {Z J K1 K2 E} hw {s U} C S F=>wpAny_allTrue_Or_nil ⟨_,_,hw,S, .refl ..⟩
 | cons p _ ih=>
   intro Z J K1 K2 E hw s U C S F
   refine wpAny_allTrue_Or_cons (wpAny_mono (p A d hd env X hw C S F) (fun b CA p=>?_) fun u0 u0 e=>e)
   obtain⟨HA,BA,q,DA,GA⟩:=p
   induction b using Bool.casesOn with
   | true=>exact⟨_,_,q,DA,GA⟩
   | false=>exact tY GA (ih q (C.step S GA) DA (F.step S GA))
theorem tT(Y:VC g){E:CC->Expr->Option IE}{T:CC->Expr->Option IT}(hE:∀c x,lC (E c x) fun ie=>AE g c ie x)(hT:∀c x,lC (T c x) fun t=>AT g c t x)(e:Expr):lC (PW E T c e) fun ie=>AE g c ie e:=by
 have hL:∀xs,lC (FF (E c) xs) fun es=>IG (AE g c) es xs:=CJ (hE c)
 induction e using Expr.casesOn with
 | Name id p=>exact Ra Y
 | Constant k n p=>exact MX
 | BinOp l op r p=>exact(hE c l).bind fun ha=>(hE c r).map fun hb=>Zc ha hb
 | Compare l ops rs p=>
   show lC (ZW (E c) l ops rs) _
   rcases ops with _ | ⟨o,_ | ⟨o2,ops⟩⟩
   ·trivial
   ·rcases rs with _ | ⟨r,_ | ⟨r2,rs⟩⟩
    ·trivial
    ·exact .when fun h=>(hE c l).bind fun ha=>(hE c r).map fun hb=>gc Y (xG h) ha hb
    ·trivial
   ·trivial
 | BoolOp op vs p=>induction op using PySem.BoolOp.casesOn with
   | And=>exact(hL vs).map fun h A d hd env X Z J K E hw s U C S F=>by rw[arm_eval_BoolOp];exact YZ Y h A d hd env X hw p C S F
   | Or=>trivial
 | UnaryOp op x p=>induction op using PySem.UnaryOp.casesOn with
   | USub=>exact(hE c x).map fun h=>ld h
   | _=>trivial
 | IfExp t a b p=>exact(hT c t).bind fun ht=>(hE c a).bind fun ha=>(hE c b).map fun hb=>Vd ht ha hb
 | Tuple vs k p=>exact(hL vs).map fun h=>ee h
 | List vs p=>exact(hL vs).map fun h=>jd h
 | Dict ks vs p=>
   refine .when fun h=>(hL vs).map fun hv=>?_
   simp only[Bool.and_eq_true,decide_eq_true_eq]at h
   exact vc Y h.1 h.2.1 h.2.2 hv
 | Subscript v sl p=>
   refine(hE c v).bind fun ha=>?_
   induction sl using Expr.casesOn with
   | Slice l u st p=>
     induction st using Option.casesOn with
     | none=>exact(lC.self _).bind fun h1=>(lC.self _).map fun h2=>He Y (hE c) ha h1 h2
     | some sx=>induction l using Option.casesOn with
       | none=>trivial
       | some l=>induction u using Option.casesOn with
         | some _=>trivial
         | none=>exact(hE c l).bind fun hl=>(hE c sx).map fun hs=>va Y ha hl hs
   | _=>exact .when fun u0=>(hE c _).map fun hi=>Rd Y ha hi
 | Attribute v n p=>exact .when fun h=>(hE c v).map fun ha=>bZ Y (xG h) ha
 | Call f as kws p=>induction kws using List.casesOn with
   | cons _ _=>trivial
   | nil=>
     refine .when fun h=>(hL as).bind fun hs=>?_
     have h:=of_decide_eq_true h
     induction f using Expr.casesOn with
     | Attribute v n ap=>
       refine .when fun h0=>(hE c v).map fun ho=>?_
       have h0:=Bool.and_eq_true_iff.mp h0
       exact Qa Y (xG h0.1) h0.2 h ho hs
     | _=>exact .when fun h0=>(hE c _).map fun hf=>UX Y (xG h0) hf hs
 | ListComp elt gens sc p=>exact zZ Y hE
 | _=>trivial
theorem vT(Y:VC g){E:CC->Expr->Option IE}{T:CC->Expr->Option IT}(hE:∀c x,lC (E c x) fun ie=>AE g c ie x)(hT:∀c x,lC (T c x) fun t=>AT g c t x)(e:Expr):lC (RW E T c e) fun t=>AT g c t e:=by
 induction e using Expr.casesOn with
 | UnaryOp op x p=>induction op using PySem.UnaryOp.casesOn with
   | Not=>exact(hT c x).map fun h=>pd h
   | _=>trivial
 | BoolOp op vs p=>induction op using PySem.BoolOp.casesOn with
   | And=>exact(lH (hT c) vs).map fun h A d hd env X Z J K1 K2 E hw s U C S F=>wpAny_isTrue_BoolOp (ZZ h X hw C S F)
   | Or=>exact(lH (hT c) vs).map fun h A d hd env X Z J K1 K2 E hw s U C S F=>wpAny_isTrue_BoolOp (sd h X hw C S F)
 | IfExp t a b p=>trivial
 | Compare l ops rs p=>
   rcases ops with _ | ⟨o,_ | ⟨o2,_ | ⟨o3,ops⟩⟩⟩
   ·trivial
   ·rcases rs with _ | ⟨r,_ | ⟨r2,rs⟩⟩
    ·trivial
    ·exact lC.map (P:=fun ie=>AT g c (.e ie) (.Compare l [o] [r] p)) (.when fun h=>(hE c l).bind fun ha=>(hE c r).map fun hb=>jc Y (xG h) ha hb) fun h=>h
    ·trivial
   ·rcases rs with _ | ⟨r,_ | ⟨r2,_ | ⟨r3,rs⟩⟩⟩
    ·trivial
    ·trivial
    ·refine lC.map (P:=fun ie=>AT g c (.e ie) (.Compare l [o,o2] [r,r2] p)) (.when fun h=>(hE c l).bind fun ha=>(hE c r).bind fun hb=>?_) fun h=>h
     induction r2 using Expr.casesOn with
     | Constant k n p=>induction k using PySem.Const.casesOn with
       | int i=>exact hZ Y (xG h) ha hb
       | _=>trivial
     | _=>trivial
    ·trivial
   ·trivial
 | _=>exact(hE c _).map fun h=>ke Y h fun u0 u0=>rfl
theorem vG(Y:VC g):∀n:Nat,(∀c x,lC ((lP n).1 c x) fun ie=>AE g c ie x)/\∀c x,lC ((lP n).2 c x) fun t=>AT g c t x
 | 0=>⟨fun u0 u0=>trivial,fun u0 u0=>trivial⟩
 | n+1=>⟨fun c e=>tT Y (vG Y n).1 (vG Y n).2 e,fun c e=>vT Y (vG Y n).1 (vG Y n).2 e⟩
end
section
variable{g:G}{d:Nat}
theorem gX{env:Env}(h:env.scope.kind= .function):interactive env=false:=by unfold interactive;rw[h];rfl
section
variable{A:Around}{hd:Option Nat}{env:Env}{c:CC}{s:Shared}{U:List Addr}{J:List O}{Z:List (Option V)}
theorem kR{ie:IE}{e:Expr}(he:SE g A d hd c env ie e){K:V->List O->Prop}{E:Nat->List (Option V)->List O->Prop}(h:¬dE g d hd ie Z J K (fun l J=>E l Z J))(C:Cx g A s U d hd)(S:St g s U J)(F:Fm g c.nm s U env Z)
 {R:Value->Shared->Prop}
 (k:∀v CA mv HA BA,¬K mv HA->SA g CA.heap BA mv v->Cx g A CA BA d hd->St g CA BA HA->Fm g c.nm CA BA env Z->KA s.heap CA.heap U BA []->R v CA):
 wpAny (model g.prog g.w) A (eval e env) R (lB g c.nm env s.heap U (NF E)) s:=
 wpAny_mono (two he h C S F k) (fun u0 u0 p=>p) fun u0 u0 p=>VA.toX (E:=NF E) S F p
theorem cb{ie:IE}{e:Expr}(he:SE g A d hd c env ie e){LB:Shared}{RA:List Addr}(SU:KA LB.heap s.heap RA U []){K:V->List O->Prop}{E:Nat->List (Option V)->List O->Prop}(h:¬dE g d hd ie Z J K (fun l J=>E l Z J))(C:Cx g A s U d hd)(S:St g s U J)(F:Fm g c.nm s U env Z)
 {R:Value->Shared->Prop}
 (k:∀v CA mv HA BA,¬K mv HA->SA g CA.heap BA mv v->Cx g A CA BA d hd->St g CA BA HA->Fm g c.nm CA BA env Z->KA s.heap CA.heap U BA []->R v CA):
 wpAny (model g.prog g.w) A (eval e env) R (lB g c.nm env LB.heap RA (NF E)) s:=
 wpAny_mono (kR he h C S F k) (fun u0 u0 p=>p) fun u0 u0 p=>p.from SU.x
theorem rY{h':Heap}{iA X:List Addr}{t:Nat}(C:Cx g A s U d hd)(S:St g s U J)(T:KA s.heap h' U iA X):Cx g A {s with heap:=h',toks:=t} iA d hd:=C.step (s':={s with heap:=h',toks:=t}) S T
theorem vE{K:Fl->List (Option V)->List O->Prop}{h:Heap}{RA:List Addr}(q:¬K .next Z J)(S:St g s U J)(F:Fm g c.nm s U env Z)(T:KA h s.heap RA U (EC env)):UD g c.nm env h RA (NF K) .next s:=⟨.next,Z,J,U,q,rfl,S,F,T⟩
theorem bK{M:Model}{o:Expr}{attr:Str}{pos:Pos}{v:Value}{Q:Unit->Shared->Prop}{E:Value->Shared->Prop}(h:wpAny M A (eval o env) (fun ov CA=>wpAny M A (setAttr ov attr v) Q E CA) E s):
 wpAny M A (assign (.Attribute o attr pos) env v) Q E s:=by
 show wpAny M A (do let ov <-holding [v] (eval o env);standAt pos.atName;holding [v,ov] (setAttr ov attr v);release [v,ov] []) Q E s
 refine wpAny_bind (wpAny_holding (wpAny_mono h (fun ov CA tA=>?_) fun u0 u0 e=>e))
 exact wpAny_bind (wpAny_standAt (wpAny_bind (wpAny_holding (wpAny_mono tA (fun u0 u0 q=>ZL q) fun u0 u0 e=>e))))
theorem JT{h h':Heap}{U iA X:List Addr}(T:KA h h' U iA X):h.get? h'.objs.size=none:=by
 induction e:h.get? h'.objs.size using Option.casesOn with
 | none=>rfl
 | some o=>
   obtain⟨o',e'⟩:=T.alive _ o e
   exact absurd (Heap.lt_size e') (Nat.lt_irrefl _)
theorem MQ{x:V}{N:List (Option V)->List O->Prop}{B:(Nat->List (Option V)->List O->Prop)->Nat->V->List (Option V)->List O->Prop}(q:¬LG (fun P k Z J=>∀r,vI J x k=some r->match r with | none=>N Z J | some v=>B P k v Z J) Z J):
 (∃vs,x= .tup vs)\/∃l vs,x= .loc l/\rA J l=some vs:=by
 have h:=DH q (fun k u0 J=>vI J x k≠none) fun k Z J n e=>n fun r er=>by rw[e]at er;cases er
 induction x using V.casesOn with
 | tup vs=>exact .inl ⟨vs,rfl⟩
 | loc l=>
   have h:(match J[l]? with | some (.list vs)=>some vs[0]? | _=>none)≠none:=h
   induction e:J[l]? using Option.casesOn with
   | none=>rw[e]at h;exact(h rfl).elim
   | some ob=>
     rw[e]at h
     induction ob using O.casesOn with
     | list vs=>exact .inr ⟨l,vs,rfl,TA e⟩
     | _=>exact(h rfl).elim
 | _=>exact(h rfl).elim
theorem cH{l k:Nat}{r:Option V}(h:vI J (.loc l) k=some r):∃vs,rA J l=some vs/\r=vs[k]?:=by
 have h:(match J[l]? with | some (.list vs)=>some vs[k]? | _=>none)=some r:=h
 induction e:J[l]? using Option.casesOn with
 | none=>rw[e]at h;cases h
 | some ob=>
   rw[e]at h
   induction ob using O.casesOn with
   | list vs=>cases h;exact⟨vs,TA e,rfl⟩
   | _=>cases h
theorem zS(S:St g s U J){l:Nat}{a:Addr}(ha:U[l]?=some a)(q:mI s.heap a):∃C dl,J[l]?=some (.exc C dl):=by
 obtain⟨o,vs,tb,cl,e,c1,dd,r⟩:=q
 have hl:l < J.length:=S.len ▸ (List.getElem?_eq_some_iff.mp ha).1
 have hm:=List.getElem?_eq_getElem hl
 have R:=S.objs l a _ ha hm
 induction hx:J[l]using O.casesOn with
 | list vs=>rw[hx]at R;obtain⟨os,n,e',_⟩:=R;rw[e]at e';cases e';cases c1
 | dict kvs ep=>rw[hx]at R;obtain⟨ps,⟨o',es,e',x,_⟩,_⟩:=R;rw[e]at e';cases e';rw[x.1]at c1;cases c1
 | ad kvs=>rw[hx]at R;obtain⟨o',m,e',c2,_⟩:=R;rw[e]at e';cases e';rw[c2]at c1;cases c1
 | inst C dl=>rw[hx]at R;obtain⟨_,dx,_,e'⟩:=R;rw[e]at e';cases e';cases dd
 | exc C dl=>exact⟨C,dl,by rw[hm,hx]⟩
 | exc0 C=>rw[hx]at R;obtain⟨_,vs',e',_,t1⟩:=R;rw[e]at e';cases e';cases dd;rw[t1]at r;cases r
theorem EI(C:Cx g A s U d none):A.handled=none:=C.hand
theorem IQ{LB:Shared}{RA:List Addr}{t:Sem Flow}{K:Fl->List (Option V)->List O->Prop}{E:Nat->List (Option V)->List O->Prop}(T:KA LB.heap s.heap RA U (EC env))
 (h:wpAny (model g.prog g.w) A t (UD g c.nm env s.heap U K) (lB g c.nm env s.heap U E) s):wpAny (model g.prog g.w) A t (UD g c.nm env LB.heap RA K) (lB g c.nm env LB.heap RA E) s:=
 wpAny_mono h (fun u0 u0 p=>p.from T) fun u0 u0 p=>p.from T
theorem fU(X:Gd g c env){i:Nat}{id:Str}{p0:Pos}(h:c.isLocal i id=true):Cf g A c.nm env (.Name id p0) fun u0 v Z=>some (Z.set i (some v)):=fun S F hb rv Q E k=>by
 cases hb;exact wpAny_assign_Name (iG X S F (NC h) rv k)
theorem dZ(X:Gd g c env)(hh:A.handled=none){is:List Nat}{ts:List Expr}{x1:Nat}{p0:Pos}(h:eB c is ts=true):Cf g A c.nm env (.Tuple ts x1 p0) fun J v Z=>(AG J is.length v).map (rB Z is):=fun {s U J Z oJ v x} S F hb rv Q E k=>by
 have hb:(AG J is.length v).map (rB Z is)=some oJ:=hb
 induction hu:AG J is.length v using Option.casesOn with
 | none=>rw[hu]at hb;cases hb
 | some vs=>rw[hu]at hb;cases hb;exact wN X S F hh (YG is h) hu rv k
theorem md{CA:Shared}{BA:List Addr}{HA:List O}(GA:KA s.heap CA.heap U BA [])(DA:St g CA BA HA):∀y∈[CA.heap.objs.size],s.heap.get? y=none/\g.WA.get? y=none:=fun y m=>by
 rw[List.mem_singleton.mp m];exact⟨JT GA,DA.new.1⟩
end
noncomputable def AS(g:G)(c:CC)(is:IS)(st:Stmt):Prop:=∀(A:Around) (d:Nat) (hd:Option Nat) (env:Env) (outer:List Env),Gd g c env->A.frames=some (env::outer)->SS g A d hd c env is st
noncomputable def AB(g:G)(c:CC)(b:ME)(body:List Stmt):Prop:=∀(A:Around) (d:Nat) (hd:Option Nat) (env:Env) (outer:List Env),Gd g c env->A.frames=some (env::outer)->SB g A d hd c env b body
section
variable{c:CC}{pos:Pos}
theorem WU{i:Nat}{e:IE}{id:Str}{p0:Pos}{v:Expr}(h1:c.isLoc i id=true)(h2:zK v=false)(he:AE g c e v):AS g c (.assign i e) (.Assign [.Name id p0] v pos):=fun A d hd env outer X hf Z J K E hw s U C S F=>
 wpAny_Assign_Name (kR (he A d hd env X) hw C S F fun w CA mv HA BA q rv qA DA aA GA=>iG X DA aA h1 rv fun h' t XA vB bA=>vE (fun k=>q (OD k)) XA vB (GA.x.trans bA)) (QS h2)
theorem Qb{is:List Nat}{e:IE}{ts:List Expr}{x1:Nat}{p0:Pos}{v:Expr}(h1:oD c is ts=true)(h3:iQ v=none)(he:AE g c e v):AS g c (.unpk is e) (.Assign [.Tuple ts x1 p0] v pos):=fun A d hd env outer X hf Z J K E hw s U C S F=>by
 have hsw:swapsWithSole [.Tuple ts x1 p0] v pos.line env=pure false:=by
  induction v using Expr.casesOn <;>rfl
 have hss:swappedStores [.Tuple ts x1 p0] v env=pure none:=by
  induction v using Expr.casesOn <;>first | rfl | cases h3
 refine wpAny_Assign_stores (kR (he A d hd env X) hw C S F fun w CA mv HA BA q rv qA DA aA GA=>?_) hsw hss
 obtain⟨rfl,q⟩:=UE q
 obtain⟨vs,hv,q⟩:=GO q
 show wpAny _ _ (assign (.Tuple ts x1 p0) env w) _ _ _
 exact wN X DA aA (EI qA) h1 hv rv fun h' t XA vB bA=>vE (fun k=>q (pF k)) XA vB (GA.x.trans bA)
theorem bM{α β:Type}{f:α->Option β}:∀{l:List α},(∃t∈l,f t=none)->(l.filterMap f).length < l.length
 | [],h=>by obtain⟨t,m,_⟩:=h;cases m
 | a::l,h=>by
   rw[List.filterMap_cons]
   rcases e:f a with _ | b
   ·exact Nat.lt_succ_of_le (List.length_filterMap_le _ _)
   ·obtain⟨t,m,q⟩:=h
    rcases List.mem_cons.mp m with rfl | m
    ·rw[e]at q;cases q
    ·exact Nat.succ_lt_succ (bM ⟨t,m,q⟩)
theorem UY{is:List Nat}{e:IE}{ts vs:List Expr}{x1 k:Nat}{p0 p1:Pos}(h1:oD c is ts=true)(h3:DK c ts=true)(he:AE g c e (.Tuple vs k p1)):AS g c (.unpk is e) (.Assign [.Tuple ts x1 p0] (.Tuple vs k p1) pos):=fun A d hd env outer X hf Z J K E hw s U C S F=>by
 have hsw:swapsWithSole [.Tuple ts x1 p0] (.Tuple vs k p1) pos.line env=pure false:=rfl
 have hss:swappedStores [.Tuple ts x1 p0] (.Tuple vs k p1) env=pure none:=by
  rw[uF]
  have:(ts.filterMap (cJ env ((ts.head?.map (·.pos.line)).getD 0))).length≠ts.length:=Nat.ne_of_lt (bM (by
   obtain⟨t,m,q⟩:=List.any_eq_true.mp h3
   refine⟨t,m,?_⟩
   rcases e:wJ t with _ | id
   ·rw[e]at q;exact Bool.noConfusion q
   ·rw[e]at q
    obtain⟨p,rfl⟩:=(JK t).get e
    have hk:(env.kindOf id==some NameKind.local)=false:=by
     rw[show env.kindOf id=c.sc.names.lookup id by unfold Env.kindOf;rw[X.names]]
     simpa using q
    show(if env.kindOf id==some .local&&p.line==_ then some id else none)=none
    rw[hk];rfl))
  split
  ·rfl
  split
  ·rfl
  exact if_pos (by rw[Bool.or_eq_true];exact .inl (bne_iff_ne.mpr this))
 refine wpAny_Assign_stores (kR (he A d hd env X) hw C S F fun w CA mv HA BA q rv qA DA aA GA=>?_) hsw hss
 obtain⟨rfl,q⟩:=UE q
 obtain⟨vs,hv,q⟩:=GO q
 show wpAny _ _ (assign (.Tuple ts x1 p0) env w) _ _ _
 exact wN X DA aA (EI qA) h1 hv rv fun h' t XA vB bA=>vE (fun k=>q (pF k)) XA vB (GA.x.trans bA)
theorem Eb{is:List Nat}{es:nI}{ts vs:List Expr}{x1 k:Nat}{p0 p1:Pos}(h1:eB c is ts=true)(h2:is.Nodup)(h3:iL ts vs=true)(he:IG (AE g c) es vs):AS g c (.swap is es) (.Assign [.Tuple ts x1 p0] (.Tuple vs k p1) pos):=by
 intro A d hd env outer X hf Z J K E hw s U C S F
 rw[arm_exec_Assign]
 refine wpAny_bind (wpAny_standAt ?_)
 rw[show swapsWithSole [.Tuple ts x1 p0] (.Tuple vs k p1) pos.line env=pure false from rfl]
 refine wpAny_bind (wpAny_pure ?_)
 rw[if_neg Bool.false_ne_true]
 refine wpAny_bind (PyProof.Rows.Tuple_ (wpAny_mono (pK he A d hd env X hw p1 C S F) (fun xs CA p=>?_) fun u0 u0 p=>VA.toX (E:=NF E) S F p))
 obtain⟨mvs,HA,BA,q,r,DA,GA⟩:=p
 obtain⟨rfl,q⟩:=UE q
 have q:¬(match Nat.beq mvs.length is.length with | true=>sC is mvs Z fun Z=>K .next Z HA | false=>True):=q
 have q:mvs.length=is.length/\¬sC is mvs Z fun Z=>K .next Z HA:=by
  induction e:Nat.beq mvs.length is.length using Bool.casesOn with
  | true=>rw[e]at q;exact⟨Nat.eq_of_beq_eq_true e,q⟩
  | false=>rw[e]at q;exact(q trivial).elim
 obtain⟨hz,q⟩:=q
 have hl:=r.len
 have hts:=lF is h1
 have h23:ts.length=2\/ts.length=3:=by
  unfold iL at h3
  simp only[Bool.and_eq_true,Bool.or_eq_true,beq_iff_eq]at h3
  exact h3.1.1.1.1.1.2
 refine wpAny_newObj_type ?_ (by show xs.toArray.size<=sizeLine;rw[List.size_toArray,LA];lia)
 rw[dQ X F.kind h1 h3]
 refine wpAny_bind (wpAny_pure ?_)
 show wpAny _ A (do rule "assign.swapped-stores";let items <-unpackItems (.ref CA.heap.objs.size) (wD ts).length none;assignInOrder ((wD ts).reverse.map fun n=>bindName env n) items.reverse;pure Flow.next) _ _ _
 refine wpAny_bind (wpAny_rule ?_)
 have XA:=DA.pushU {cls:= .type "tuple",data:= .seq xs.toArray}
 have bA:KA s.heap (CA.heap.push {cls:= .type "tuple",data:= .seq xs.toArray}) U BA []:=GA.trans (.pushU ..)
 have hsz:(wD ts).length=xs.toArray.size:=by rw[List.size_toArray,hl,hz,hts.2]
 rw[hsz]
 refine wpAny_bind (wpAny_unpackItems_tuple (EI C) ⟨_,Heap.get?_push_size _ rfl,rfl,0,rfl⟩ fun h' x=>?_)
 have GB:=bA.trans (KA.ext (h:=CA.heap.push {cls:= .type "tuple",data:= .seq xs.toArray}) BA (RB x) [])
 have KB:=XA.ext (RB x) CA.toks
 have lf:MA g h' BA mvs xs:=r.step0 DA ((KA.pushU CA.heap BA {cls:= .type "tuple",data:= .seq xs.toArray}).trans (KA.ext BA (RB x) []))
 refine wpAny_bind (Le X KB (F.step S GB) h1 h2 h23 hz (by simpa using lf) fun h'' t FE lI tC=>wpAny_pure ?_)
 exact vE (fun k=>q (pF k)) FE lI (GB.x.trans tC)
theorem jT(Y:VC g){o e:IE}{x v:Expr}{n:Str}{p0:Pos}(he:AE g c e v)(ho:AE g c o x):AS g c (.setAttr o n.cps.toList e) (.Assign [.Attribute x n p0] v pos):=by
 obtain⟨⟨n⟩⟩:=n
 intro A d hd env outer X hf Z J K E hw s U C S F
 refine plainObj_wpAny_Assign_Attribute (kR (he A d hd env X) hw C S F fun w CA mv HA BA q rv qA DA aA GA=>?_) (by induction v using Expr.casesOn <;>rfl)
 refine cb (ho A d hd env X) GA q qA DA aA fun ov UA mo uB vA q ro DE XA vB bA=>?_
 refine wpAny_mono (qF Y DE XA ro (rv.step0 DA bA) (EX q)) (fun u0 TC p=>?_) fun u0 u0 e=>e
 obtain⟨TH,gE,q,KB,GB⟩:=p
 exact vE q KB (vB.step XA GB) (GA.trans (bA.trans GB)).x
theorem ZQ(Y:VC g){o1 o2 e:IE}{x y v:Expr}{n1 n2:Str}{p1 p2 p0:Pos}{k:Nat}(he:AE g c e v)(h1:AE g c o1 x)(h2:AE g c o2 y):AS g c (.setAttr2 o1 n1.cps.toList o2 n2.cps.toList e) (.Assign [.Tuple [.Attribute x n1 p1, .Attribute y n2 p2] k p0] v pos):=by
 obtain⟨⟨n1⟩⟩:=n1
 obtain⟨⟨n2⟩⟩:=n2
 intro A d hd env outer X hf Z J K E hw s U C S F
 have hsw:swapsWithSole [.Tuple [.Attribute x ⟨n1.toArray⟩ p1, .Attribute y ⟨n2.toArray⟩ p2] k p0] v pos.line env=pure false:=by
  induction v using Expr.casesOn <;>rfl
 have hss:swappedStores [.Tuple [.Attribute x ⟨n1.toArray⟩ p1, .Attribute y ⟨n2.toArray⟩ p2] k p0] v env=pure none:=by
  induction v using Expr.casesOn <;>first | rfl | skip
  rw[uF]
  split
  ·rfl
  split
  ·rfl
  exact if_pos rfl
 refine wpAny_Assign_stores (kR (he A d hd env X) hw C S F fun w CA mv HA BA q rv qA DA aA GA=>?_) hsw hss
 obtain⟨rfl,q⟩:=UE q
 rcases mv with _ | _ | _ | _ | (_ | ⟨a,_ | ⟨b,_ | ⟨b3,r⟩⟩⟩) | _ | _ | _ <;>first | exact(q trivial).elim | skip
 show wpAny _ _ (assign (.Tuple [.Attribute x ⟨n1.toArray⟩ p1, .Attribute y ⟨n2.toArray⟩ p2] k p0) env w) _ _ _
 rw[assign_Tuple]
 refine wpAny_bind (wpAny_standAt ?_)
 refine wpAny_bind (wpAny_holding (vF (vs:=[a,b]) DA (EI qA) rfl rv fun h' xs XA bA rr hl u0=>?_))
 obtain⟨xa,xb,rfl,ra,rb⟩:=MA.two rr
 ·show wpAny _ _ (do holding [xb] (assign (.Attribute x ⟨n1.toArray⟩ p1) env xa);holding [] (assign (.Attribute y ⟨n2.toArray⟩ p2) env xb);pure ()) _ _ _
  have T':=GA.trans bA
  refine wpAny_bind (wpAny_holding (bK ?_))
  refine cb (h1 A d none env X) T' q (rY qA DA bA) XA (aA.step DA bA) fun ov TC mo TH gE q ro kI KB ZF GB=>?_
  refine wpAny_mono (qF Y kI KB ro (ra.step0 XA GB) (EX q)) (fun u0 yJ p=>?_) fun u0 u0 e=>e
  obtain⟨vL,nJ,q,FE,tC⟩:=p
  have lI:=ZF.step KB tC
  have rW:=kI.step KB tC
  have T'':=T'.trans (GB.trans tC)
  refine wpAny_bind (wpAny_holding (bK ?_))
  refine cb (h2 A d none env X) T'' q rW FE lI fun ov Fb mo LZ MZ q ro tP sJ MU DM=>?_
  refine wpAny_mono (qF Y tP sJ ro (rb.step0 XA (GB.trans (tC.trans DM))) (EX q)) (fun u0 jL p=>?_) fun u0 u0 e=>e
  obtain⟨eS,oP,q,ZK,tJ⟩:=p
  exact wpAny_pure (vE q ZK (MU.step sJ tJ) (T''.trans (DM.trans tJ)).x)
theorem KW(Y:VC g){o i e:IE}{x k v:Expr}{p0:Pos}(he:AE g c e v)(ho:AE g c o x)(hi:AE g c i k):AS g c (.setIdx o i e) (.Assign [.Subscript x k p0] v pos):=by
 intro A d hd env outer X hf Z J K E hw s U C S F
 refine wpAny_Assign_Subscript (kR (he A d hd env X) hw C S F fun w CA mv HA BA q rv qA DA aA GA=>?_) (by induction v using Expr.casesOn <;>rfl)
 refine cb (ho A d hd env X) GA q qA DA aA fun ov UA mo uB vA q ro DE XA vB bA=>?_
 refine cb (hi A d hd env X) (GA.trans bA) q DE XA vB fun kv TC mk TH gE q rk kI KB ZF GB=>?_
 refine wpAny_mono (kT Y kI KB (ro.step0 XA GB) rk (rv.step0 DA (bA.trans GB)) (FX q)) (fun u0 yJ p=>?_) fun u0 u0 e=>e
 obtain⟨vL,nJ,q,FE,tC⟩:=p
 exact vE q FE (ZF.step KB tC) (GA.trans (bA.trans (GB.trans tC))).x
theorem Qc{i:Nat}{op:Operator}{e:IE}{id:Str}{p0:Pos}{v:Expr}(h1:c.isLoc i id=true)(he:AE g c e v):AS g c (.aug i op e) (.AugAssign (.Name id p0) op v pos):=by
 intro A d hd env outer X hf Z J K E hw s U C S F
 obtain⟨x,hx,q⟩:=Vc hw
 refine wpAny_AugAssign_Name (aJ S F (AL X h1).1 hx ?_ fun w Be=>?_)
 ·have:bG id=true:=by unfold CC.isLoc at h1;simp only[Bool.and_eq_true]at h1;exact h1.1.2
  exact(pG this).2
 ·refine kR (he A d hd env X) q C S F fun u CA mv HA BA q rv qA DA aA GA=>?_
  obtain⟨r,hr,q⟩:=Sc q
  refine ZU DA (Be.step0 S GA) rv hr fun z t rz=>?_
  exact iG X (DA.toks t) (aA.step DA (.refl ..)) h1 rz fun h' t' XA vB bA=>vE (fun k=>q (OD k)) XA vB (GA.x.trans bA)
theorem kS(Y:VC g){o e:IE}{op:Operator}{x v:Expr}{n:Str}{p0:Pos}(he:AE g c e v)(ho:AE g c o x):AS g c (.augAttr o n.cps.toList op e) (.AugAssign (.Attribute x n p0) op v pos):=by
 obtain⟨⟨n⟩⟩:=n
 intro A d hd env outer X hf Z J K E hw s U C S F
 refine wpAny_AugAssign_AttributeAny (kR (ho A d hd env X) hw C S F fun ov CA mo HA BA q ro qA DA aA GA=>?_)
 obtain⟨y,q⟩:=Classical.not_forall.mp q
 obtain⟨hy,q⟩:=Classical.not_imp.mp q
 refine wpAny_mono (CR Y qA DA ro hy (Q:=fun v J=>v=y/\J=HA) ⟨rfl,rfl⟩) (fun old UA p=>?_) fun u0 u0 e=>e
 obtain⟨my,uB,vA,⟨rfl,rfl⟩,ry,XA,bA⟩:=p
 refine cb (he A d hd env X) (GA.trans bA) q (qA.step DA bA) XA (aA.step DA bA) fun u TC mv TH gE q rv kI KB ZF GB=>?_
 obtain⟨r,hr,q⟩:=Sc q
 refine ZU KB (ry.step0 XA GB) rv hr fun z t rz=>?_
 refine wpAny_mono (qF Y (s:={TC with toks:=t}) (Cx.tk kI) (KB.toks t) ((ro.step0 DA bA).step0 XA GB) rz (EX q)) (fun u0 yJ p=>?_) fun u0 u0 e=>e
 obtain⟨vL,nJ,q,FE,tC⟩:=p
 have oY:KA TC.heap yJ.heap gE nJ []:=tC
 exact vE q FE (ZF.step KB oY) (GA.trans (bA.trans (GB.trans oY))).x
theorem uZ{e:IE}{v:Expr}(h:zK v=false)(he:AE g c e v):AS g c (.expr e) (.Expr v pos):=fun A d hd env outer X hf Z J K E hw s U C S F=>
 wpAny_Expr_any (kR (he A d hd env X) hw C S F fun w CA mv HA BA q rv qA DA aA GA=>vE q DA aA GA.x) (gX F.kind) (QS h)
theorem yd{e:IE}{v:Expr}(he:AE g c e v):AS g c (.ret e) (.Return (some v) pos):=fun A d hd env outer X hf Z J K E hw s U C S F=>
 wpAny_Return_some (kR (he A d hd env X) hw C S F fun w CA mv HA BA q rv qA DA aA GA=>⟨.ret mv,Z,HA,BA,q,⟨w,rfl,rv⟩,DA,aA,GA.x⟩)
theorem oa:AS g c .ret0 (.Return none pos):=fun A d hd env outer X hf Z J K E hw s U C S F=>wpAny_Return_none ⟨.ret .none,Z,J,U,hw,⟨_,rfl,rfl⟩,S,F, .refl ..⟩
theorem Xd{t:IT}{a b:ME}{t':Expr}{a' b':List Stmt}(ht:AT g c t t')(ha:AB g c a a')(hb:AB g c b b'):AS g c (.ite t a b) (.If t' a' b' pos):=fun A d hd env outer X hf Z J K E hw s U C S F=>
 wpAny_If (wpAny_mono (ht A d hd env X hw C S F) (fun r CA p=>by
  obtain⟨HA,BA,q,DA,GA⟩:=p
  induction r using Bool.casesOn with
  | true=>exact IQ GA.x (ha A d hd env outer X hf q (C.step S GA) DA (F.step S GA))
  | false=>exact IQ GA.x (hb A d hd env outer X hf q (C.step S GA) DA (F.step S GA))) fun u0 u0 p=>VA.toX (E:=NF E) S F p)
theorem oe{t:IT}{b:ME}{t':Expr}{b':List Stmt}(ht:AT g c t t')(hb:AB g c b b'):AS g c (.whl t b) (.While t' b' [] pos):=by
 intro A d hd env outer X hf Ag LN K E hw LB RA VK VH vP
 refine wpAny_While ?_
 refine DH hw (fun u0 Z J=>∀s U,St g s U J->Fm g c.nm s U env Z->KA LB.heap s.heap RA U (EC env)->codeAny (model g.prog g.w) A (.whileLoop t' b' [] env)
  (fun r s'=>match r with | .ok f=>UD g c.nm env LB.heap RA (NF K) f s' | .error e=>cameBackBy (model g.prog g.w) A env (lB g c.nm env LB.heap RA (NF E)) e s') s) ?_ LB RA VH vP (.refl ..)
 intro _ Z J hq s U S F T
 have C:=VK.step VH T
 refine hW (wpAny_mono (ht A d hd env X hq C S F) (fun r CA p=>?_) fun e s' p=>((VA.toX (E:=NF E) S F p).from T).out VK VH hf)
 obtain⟨HA,BA,q,DA,GA⟩:=p
 have aA:=F.step S GA
 have T':=T.trans GA.x
 induction r using Bool.casesOn with
 | false=>exact vE q DA aA T'
 | true=>
   refine wpAny_mono (hb A d hd env outer X hf q (C.step S GA) DA aA) (fun f UA p=>?_) fun e UA p=>(p.from T').out VK VH hf
   obtain⟨fl,mW,uB,vA,q,rf,XA,vB,bA⟩:=p
   have GB:=T'.trans bA
   induction fl using Fl.casesOn with
   | next=>subst rf;exact nn q UA vA XA vB GB
   | brk=>subst rf;exact vE q XA vB GB
   | ret v=>obtain⟨x,rfl,r⟩:=rf;exact⟨.ret v,mW,uB,vA,q,⟨x,rfl,r⟩,XA,vB,GB⟩
end
end
section
set_option backward.match.sparseCases true
section
variable{g:G}{c:CC}{pos:Pos}
theorem lC.imp{α:Type}{o:Option α}{P Q:α->Prop}(h:lC o P)(k:∀{a},P a->Q a):lC o Q:=by
 induction o using Option.casesOn with
 | none=>trivial
 | some a=>exact k h
theorem vZ(Y:VC g){i:Nat}{it:IE}{b:ME}{id:Str}{p0:Pos}{it':Expr}{b':List Stmt}(h1:c.isLocal i id=true)(h2:dD it'=false)(hi:AE g c it it')(hb:AB g c b b'):AS g c (.for1 i it b) (.For (.Name id p0) it' b' [] pos):=by
 intro A d hd env outer X hf Z J K E hw s U C S F
 refine wpAny_For (kR (hi A d hd env X) hw C S F fun x CA mv HA BA q rv qA DA aA GA=>?_) (fun u0=>tK h2)
 obtain⟨rfl,q⟩:=UE q
 have hh:=EI C
 have hY:=md GA DA
 induction mv using V.casesOn with
 | tup vs=>
   obtain⟨a,os,rfl,t,z,r⟩:=rv
   have t':=t
   obtain⟨o,e,c1,n,dd⟩:=t'
   refine wpAny_pyIter_tuple ⟨o,e,c1,n,dd⟩ ?_
   refine uE hf C S (xI (vs:=vs) (os:=os) (a:=a) hh) hY (hb A d none env outer X hf) (fU X h1) (fun P hP=>DH q P fun k Z J hm=>hP k Z J ?_) (DA.pushU _) (aA.step DA (.pushU ..)) (GA.trans (.pushU ..)).x ⟨⟨_,Heap.get?_push_size _ rfl,rfl,rfl⟩,YC _ t,r.step0 DA (.pushU ..)⟩
   refine⟨_,rfl,?_⟩
   induction hk:vs[k]? using Option.casesOn with
   | none=>exact fun n=>hm fun r e=>by rw[hk]at e;subst e;exact n
   | some v=>exact⟨_,rfl,fun n=>hm fun r e=>by rw[hk]at e;subst e;exact OD n⟩
 | loc l=>
   obtain⟨a,ha,rfl⟩:=rv
   obtain⟨ob,q⟩:=Classical.not_forall.mp q
   obtain⟨hl,q⟩:=Classical.not_imp.mp q
   induction ob using O.casesOn with
   | dict kvs ep=>
     obtain⟨ps,D,hz,rr⟩:=DA.objs _ a _ ha hl
     refine wpAny_pyIter_dict (ZG Y DA ha) D ?_
     refine uE hf C S (tO (kvs:=kvs) (ep:=ep) (l:=l) (a:=a) hh) hY (hb A d none env outer X hf) (fU X h1) (fun P hP=>DH q P fun k Z J hm=>hP k Z J ?_) (DA.pushU _) (aA.step DA (.pushU ..)) (GA.trans (.pushU ..)).x ⟨ha,_,Heap.get?_push_size _ rfl,rfl,by show _=Data.fields #[Value.ref a, .int 0 0, .int kvs.length 0, .int ep 0];rw[<-rr.len]⟩
     obtain⟨hd1,hm⟩:=Classical.not_imp.mp hm
     refine⟨_,⟨hd1,rfl⟩,?_⟩
     induction hk:kvs[k]? using Option.casesOn with
     | none=>exact fun n=>hm fun r e=>by rw[hk]at e;subst e;exact n
     | some v=>exact⟨_,rfl,fun n=>hm fun r e=>by rw[hk]at e;subst e;exact OD n⟩
   | list vs=>
     obtain⟨os,n,ho,hz,rr⟩:=DA.objs _ a _ ha hl
     refine wpAny_pyIter_list (vC ho) ?_
     refine uE hf C S (EL (l:=l) (a:=a) hh) hY (hb A d none env outer X hf) (fU X h1) (fun P hP=>DH q P fun k Z J hm=>hP k Z J ?_) (DA.pushU _) (aA.step DA (.pushU ..)) (GA.trans (.pushU ..)).x ⟨ha,_,Heap.get?_push_size _ rfl,rfl,rfl⟩
     obtain⟨r,hm⟩:=Classical.not_forall.mp hm
     obtain⟨hr,hm⟩:=Classical.not_imp.mp hm
     refine⟨r,cH hr,?_⟩
     induction r using Option.casesOn with
     | none=>exact hm
     | some v=>exact⟨_,rfl,fun n=>hm (OD n)⟩
   | _=>exact(q trivial).elim
 | _=>exact(q trivial).elim
theorem yZ(Y:VC g){is:List Nat}{it:IE}{b:ME}{ts:List Expr}{x1:Nat}{p0:Pos}{it':Expr}{b':List Stmt}(h1:eB c is ts=true)(h2:dD it'=false)(hi:AE g c it it')(hb:AB g c b b'):AS g c (.forT is it b) (.For (.Tuple ts x1 p0) it' b' [] pos):=by
 intro A d hd env outer X hf Z J K E hw s U C S F
 refine wpAny_For (kR (hi A d hd env X) hw C S F fun x CA mv HA BA q rv qA DA aA GA=>?_) (fun u0=>tK h2)
 obtain⟨rfl,q⟩:=UE q
 have hh:=EI C
 have hY:=md GA DA
 have turn:∀{r:Option V} {N:Prop} {Z:List (Option V)} {J:List O} {B:List (Option V)->Prop},¬(match r with | none=>N | some v=>TO J is.length v fun vs=>sC is vs Z fun Z=>B Z)->match r with
  | none=>¬N
  | some v=>∃oJ,(AG J is.length v).map (rB Z is)=some oJ/\¬B oJ:=by
  intro r N Z J B hm
  induction r using Option.casesOn with
  | none=>exact hm
  | some v=>
    obtain⟨vs,hu,hm⟩:=GO hm
    exact⟨_,by rw[hu];rfl,fun n=>hm (pF n)⟩
 rcases MQ q with⟨vs,rfl⟩ | ⟨l,vs,rfl,hl⟩
 ·obtain⟨a,os,rfl,t,z,r⟩:=rv
  have t':=t
  obtain⟨o,e,c1,n,dd⟩:=t'
  refine wpAny_pyIter_tuple ⟨o,e,c1,n,dd⟩ ?_
  refine uE hf C S (xI (vs:=vs) (os:=os) (a:=a) hh) hY (hb A d none env outer X hf) (dZ X hh h1) (fun P hP=>DH q P fun k Z J hm=>hP k Z J ?_) (DA.pushU _) (aA.step DA (.pushU ..)) (GA.trans (.pushU ..)).x ⟨⟨_,Heap.get?_push_size _ rfl,rfl,rfl⟩,YC _ t,r.step0 DA (.pushU ..)⟩
  obtain⟨r,hm⟩:=Classical.not_forall.mp hm
  obtain⟨hr,hm⟩:=Classical.not_imp.mp hm
  exact⟨r,(Option.some.inj hr).symm,turn hm⟩
 ·obtain⟨a,ha,rfl⟩:=rv
  obtain⟨a',os,n,ha',ho,hz,rr⟩:=DA.list hl
  rw[ha]at ha';cases ha'
  refine wpAny_pyIter_list (vC ho) ?_
  refine uE hf C S (EL (l:=l) (a:=a) hh) hY (hb A d none env outer X hf) (dZ X hh h1) (fun P hP=>DH q P fun k Z J hm=>hP k Z J ?_) (DA.pushU _) (aA.step DA (.pushU ..)) (GA.trans (.pushU ..)).x ⟨ha,_,Heap.get?_push_size _ rfl,rfl,rfl⟩
  obtain⟨r,hm⟩:=Classical.not_forall.mp hm
  obtain⟨hr,hm⟩:=Classical.not_imp.mp hm
  exact⟨r,cH hr,turn hm⟩
theorem ZX(Y:VC g){i:Nat}{hi:IE}{b:ME}{id:Str}{p0 p1:Pos}{f y:Expr}{b':List Stmt}(h1:c.isLocal i id=true)(h2:KD c f=true)(h3:IB y=false)(he:AE g c hi y)(hb:AB g c b b'):AS g c (.forR0 i hi b) (.For (.Name id p0) (.Call f [y] [] p1) b' [] pos):=by
 intro A d hd env outer X hf Z J K E hw s U C S F
 refine wpAny_For (wpAny_mono (dJ Y X h2 h3 (he A d hd env X) hw (fun v J q=>?_) C S F fun n HA CA BA y q DA aA GA y1 y2 hit=>?_) (fun v CA p=>wpAny_mono p (fun u0 u0 q=>q) fun u0 u0 p=>VA.toX (E:=NF E) S F p) fun u0 u0 p=>VA.toX (E:=NF E) S F p) (fun u0=>rfl)
 ·have q:=(UE q).2
  induction v using V.casesOn with
  | int n=>exact⟨_,rfl,(Classical.not_imp.mp q).1,(Classical.not_imp.mp (Classical.not_imp.mp q).2).1⟩
  | _=>exact(q trivial).elim
 obtain⟨rfl,q⟩:=UE q
 have q:=(Classical.not_imp.mp (Classical.not_imp.mp q).2).2
 have hh:=EI C
 have hY:∀z∈[y],s.heap.get? z=none/\g.WA.get? z=none:=fun z m=>by
  rw[List.mem_singleton.mp m];exact⟨y1,y2⟩
 refine uE hf C S (wI (lo:=0) (hi:=n) hh) hY (hb A d none env outer X hf) (fU X h1) (fun P hP=>DH q P fun k Z J hm=>hP k Z J ?_) DA aA GA.x (by simpa using hit)
 refine⟨_,rfl,?_⟩
 rcases Wc hm with⟨hk,hm⟩ | ⟨hk,hm⟩
 ·rw[if_pos (by lia)];refine⟨_,rfl,?_⟩;rw[Int.zero_add];exact fun n=>hm (OD n)
 ·rw[if_neg (by lia)];exact hm
theorem MP(Y:VC g)(X:Gd g c env){f x y:Expr}{lo hi:IE}{pos:Pos}(hr:KD c f=true)(hx:IB x=false)(hy:IB y=false)(hs1:SE g A d hd c env lo x)(hs2:SE g A d hd c env hi y){K:V->V->List O->Prop}{E:Nat->List O->Prop}
 (hw:¬dE g d hd lo Z J (fun u J=>dE g d hd hi Z J (K u) E) E) (hQ:∀u v J,¬K u v J->∃m n,u= .int m/\v= .int n/\ -1000<=m/\m<=1000/\ -1000<=n/\n<=1000) (C:Cx g A s U d hd) (S:St g s U J) (F:Fm g c.nm s U env Z) {R:Value->Shared->Prop}
 (k:∀m n HA CA BA y,¬K (.int m) (.int n) HA->St g CA BA HA->Fm g c.nm CA BA env Z->KA s.heap CA.heap U BA []->s.heap.get? y=none->g.WA.get? y=none->IsRangeIter CA.heap y m (Builtin.Range.rangeSize m n 1) 1->R (.ref y) CA):
 wpAny (model g.prog g.w) A (eval (.Call f [x,y] [] pos) env) (fun v CA=>wpAny (model g.prog g.w) A (pyIter v) R (VA g s.heap U [] (NK E)) CA) (VA g s.heap U [] (NK E)) s:=by
 obtain⟨id,p0,rfl,hg⟩:=RI hr
 have hp:(backTo pos (starEach [x,y] env)).any (·.1)=false:=by rw[wA hx,wA hy];rfl
 refine AF Y X S F hg hp ?_
 rw[wA hx,wA hy,xC,xC]
 refine Calls.spliced_cons (two hs1 hw C S F fun v CA mv HA BA q rv qA DA aA GA=>?_)
 refine Calls.spliced_cons (tX hs2 q qA DA aA GA fun w UA mw uB vA q rw' DE XA vB bA T=>?_)
 obtain⟨m,n,rfl,rfl,m1,m2,n1,n2⟩:=hQ _ _ _ q
 obtain⟨t,rfl⟩:=rv
 obtain⟨u,rfl⟩:=rw'
 refine Calls.spliced_nil ?_
 refine PySem.call_range_2 ?_
 have hsm:Builtin.Range.small m n 1=true:=PySem.small_one (by lia) (by lia) (by lia) (by lia)
 refine wpAny_pyIter_range (Heap.get?_push_size _ rfl) hsm ?_
 have KB:=(XA.pushU {cls:= .type "range",data:= .fields #[.int m t, .int n u, .int 1 UA.toks]}).toks (UA.toks+1)
 have FE:=KB.pushU {cls:= .type "range_iterator",data:= .fields #[rawInt m,rawInt (Builtin.Range.rangeSize m n 1),rawInt 1]}
 have GB:KA s.heap ((UA.heap.push {cls:= .type "range",data:= .fields #[.int m t, .int n u, .int 1 UA.toks]}).push {cls:= .type "range_iterator",data:= .fields #[rawInt m,rawInt (Builtin.Range.rangeSize m n 1),rawInt 1]}) U vA []:=T.trans ((KA.pushU ..).trans (.pushU ..))
 refine k m n uB _ vA _ q FE (F.step S GB) GB ?_ ?_ (Heap.get?_push_size _ rfl)
 ·induction e:s.heap.get? (UA.heap.push {cls:= .type "range",data:= .fields #[.int m t, .int n u, .int 1 UA.toks]}).objs.size using Option.casesOn with
  | none=>rfl
  | some o=>
    obtain⟨o',e'⟩:=(T.trans (KA.pushU UA.heap vA {cls:= .type "range",data:= .fields #[.int m t, .int n u, .int 1 UA.toks]})).alive _ o e
    exact absurd (Heap.lt_size e') (Nat.lt_irrefl _)
 ·exact KB.new.1
theorem xZ(Y:VC g){i:Nat}{lo hi:IE}{b:ME}{id:Str}{p0 p1:Pos}{f x y:Expr}{b':List Stmt}(h1:c.isLocal i id=true)(h2:KD c f=true)(h3:IB x=false)(h4:IB y=false)(hx:AE g c lo x)(he:AE g c hi y)(hb:AB g c b b'):AS g c (.forR i lo hi b) (.For (.Name id p0) (.Call f [x,y] [] p1) b' [] pos):=by
 intro A d hd env outer X hf Z J K E hw s U C S F
 refine wpAny_For (wpAny_mono (MP Y X h2 h3 h4 (hx A d hd env X) (he A d hd env X) hw (fun u v J q=>?_) C S F fun m n HA CA BA y q DA aA GA y1 y2 hit=>?_) (fun v CA p=>wpAny_mono p (fun u0 u0 q=>q) fun u0 u0 p=>VA.toX (E:=NF E) S F p) fun u0 u0 p=>VA.toX (E:=NF E) S F p) (fun u0=>rfl)
 ·have q:=(UE q).2
  induction u using V.casesOn with
  | int m=>induction v using V.casesOn with
    | int n=>
      obtain⟨a1,q⟩:=Classical.not_imp.mp q
      obtain⟨a2,q⟩:=Classical.not_imp.mp q
      obtain⟨a3,q⟩:=Classical.not_imp.mp q
      exact⟨_,_,rfl,rfl,a1,a2,a3,(Classical.not_imp.mp q).1⟩
    | _=>exact(q trivial).elim
  | _=>exact(q trivial).elim
 obtain⟨rfl,q⟩:=UE q
 have q:=(Classical.not_imp.mp (Classical.not_imp.mp (Classical.not_imp.mp (Classical.not_imp.mp q).2).2).2).2
 have hh:=EI C
 have hY:∀z∈[y],s.heap.get? z=none/\g.WA.get? z=none:=fun z m=>by
  rw[List.mem_singleton.mp m];exact⟨y1,y2⟩
 refine uE hf C S (wI (lo:=m) (hi:=n) hh) hY (hb A d none env outer X hf) (fU X h1) (fun P hP=>DH q P fun k Z J hm=>hP k Z J ?_) DA aA GA.x (by simpa using hit)
 refine⟨_,rfl,?_⟩
 rcases Wc hm with⟨hk,hm⟩ | ⟨hk,hm⟩
 ·rw[if_pos hk];exact⟨_,rfl,fun n=>hm (OD n)⟩
 ·rw[if_neg hk];exact hm
theorem wZ(Y:VC g){i j:Nat}{it:IE}{b:ME}{ts:List Expr}{x1:Nat}{p0 p3 p4:Pos}{id:Str}{y:Expr}{b':List Stmt}(h1:eB c [i,j] ts=true)(h3:c.isGlob (.type "enumerate") id=true)(h4:IB y=false)(he:AE g c it y)(hb:AB g c b b'):
 AS g c (.forE i j it b) (.For (.Tuple ts x1 p0) (.Call (.Name id p3) [y] [] p4) b' [] pos):=by
 intro A d hd env outer X hf Z J K E hw s U C S F
 refine wpAny_For (wpAny_mono (wS Y X h3 h4 (he A d hd env X) hw (fun v J q=>?_) C S F (R:=fun v CA=>wpAny (model g.prog g.w) A (pyIter v) (fun it UA=>codeAny (model g.prog g.w) A (.forLoop (.Tuple ts x1 p0) it b' [] env) (fun r s'=>match r with | .ok f=>UD g c.nm env s.heap U (NF K) f s' | .error e=>cameBackBy (model g.prog g.w) A env (lB g c.nm env s.heap U (NF E)) e s') UA) (lB g c.nm env s.heap U (NF E)) CA) fun l a' HA CA BA e' y' q DA aA GA y1 y2 y3 y4 hne ha he hit=>?_) (fun v CA p=>p) fun u0 u0 p=>VA.toX (E:=NF E) S F p) (fun u0=>rfl)
 ·have q:=(UE q).2
  induction v using V.casesOn with
  | loc l=>obtain⟨vs,q⟩:=Classical.not_forall.mp q;exact⟨l,vs,rfl,(Classical.not_imp.mp q).1⟩
  | _=>exact(q trivial).elim
 obtain⟨rfl,q⟩:=UE q
 obtain⟨vs,q⟩:=Classical.not_forall.mp q
 obtain⟨hl,q⟩:=Classical.not_imp.mp q
 have hh:=EI C
 have hY:∀y∈[e',y'],s.heap.get? y=none/\g.WA.get? y=none:=fun y m=>by
  rcases List.mem_cons.mp m with rfl | m
  ·exact⟨y3,y4⟩
  ·rw[List.mem_singleton.mp m];exact⟨y1,y2⟩
 refine PySem.wpAny_pyIter_enum he ?_
 refine uE hf C S (PV (l:=l) (a:=a') (e:=e') (y:=y') hh hne) hY (hb A d none env outer X hf) (dZ X hh h1) (fun P hP=>DH q P fun k Z J hm=>hP k Z J ?_) DA aA GA.x ⟨ha,hit,_,he⟩
 obtain⟨r,hm⟩:=Classical.not_forall.mp hm
 obtain⟨hr,hm⟩:=Classical.not_imp.mp hm
 obtain⟨ws,hl',rfl⟩:=cH hr
 induction hk:ws[k]? using Option.casesOn with
 | none=>rw[hk]at hm;exact⟨none,⟨ws,hl',by rw[hk];rfl⟩,hm⟩
 | some v=>rw[hk]at hm;exact⟨some (.tup [.int (k:Int),v]),⟨ws,hl',by rw[hk];rfl⟩,_,rfl,fun n=>hm (OD (OD n))⟩
theorem CY(Y:VC g){e:IE}{x:Expr}(he:AE g c e x):AS g c (.raise e) (.Raise (some x) none pos):=by
 intro A d hd env outer X hf Z J K E hw s U C S F
 rw[arm_exec_Raise]
 refine wpAny_bind (wpAny_standAt ?_)
 show wpAny _ A (raiseStmt env (some (do let v <-eval x env;standAt pos;pure v)) none) _ _ _
 refine wpAny_bind (wpAny_bind (kR (he A d hd env X) hw C S F fun w CA mv HA BA q rv qA DA aA GA=>wpAny_bind (wpAny_standAt (wpAny_pure ?_))))
 induction mv using V.casesOn with
 | loc l=>
   obtain⟨Cl,q⟩:=Classical.not_forall.mp q
   obtain⟨dl,q⟩:=Classical.not_forall.mp q
   obtain⟨hl,q⟩:=Classical.not_imp.mp q
   obtain⟨hh,q⟩:=Classical.not_imp.mp q
   obtain⟨a,ha,rfl⟩:=rv
   show wpAny _ A (raiseStmt env (some (pure (.ref a))) none) _ _ _
   refine zV Y qA DA hl ha hh (fun R r=>wpAny_pure r) fun h' XA bA=>?_
   exact⟨l,Z,HA,BA,a,q,ha,rfl,⟨Cl,dl,hl⟩,XA,aA.step DA bA,(GA.trans bA).x⟩
 | _=>exact(q trivial).elim
theorem Nb(Y:VC g){b hb:ME}{Cl:Addr}{i:Nat}{id n:Str}{p0 p1:Pos}{b' hb':List Stmt}(h2:c.isGlob (.ref Cl) id=true)(h3:c.isLocal i n=true)(h5:hb'.isEmpty=false)(h1:AB g c b b')(h4:AB g c hb hb'):
 AS g c (.tryE b Cl i hb) (.Try b' [.ExceptHandler (some (.Name id p0)) (some n) hb' p1] [] [] pos):=by
 intro A d hd env outer X hf Z J K E hw s U Cc S F
 induction hb' using List.casesOn with
 | nil=>cases h5
 | cons Kg body=>
 obtain⟨hn1,hn2⟩:=bH X h3
 refine wpAny_Try_except (wpAny_mono (h1 A d hd env outer X hf hw Cc S F) (fun f CA p=>?_) fun e CA p=>?_)
 ·induction f using PySem.Flow.casesOn <;>first | exact p | (show wpAny _ _ (execs [] env) _ _ _;rw[execs_nil];exact wpAny_pure p)
 obtain⟨l,CG,HA,BA,a,q,ha,rfl,_,DA,aA,GA⟩:=p
 obtain⟨dl,q⟩:=Classical.not_forall.mp q
 obtain⟨hl,q⟩:=Classical.not_imp.mp q
 rw[PK]at q
 have qA:=Cc.step S GA
 refine nF qA DA hf hl ha fun ID XA bA Ue=>?_
 refine aD XA hl ha none fun wB KB GB HZ=>?_
 have AR:=bA.trans GB
 have ZF:=aA.step (s':={CA with heap:=wB}) DA AR
 refine wpAny_handleBy_cons ?_ (ref_ne_byPass a)
 refine codeAny_handlers_test (WJ Y X KB ZF h2 (Fa Y KB hl ha ?_))
 simp only[if_true]
 refine codeAny_handlers_suite_as ?_
 refine aD KB hl ha none fun IM FE tC IZ=>?_
 have lI:=ZF.step (s':={CA with heap:=IM}) KB tC
 refine iG X FE lI (NC h3) (v:= .loc l) ⟨a,ha,rfl⟩ fun eX fe sJ MU DM=>?_
 have SU:KA s.heap eX U BA (EC env):=GA.trans ((AR.trans tC).x.trans DM)
 have tP:Cx g (A.mark (some (.ref a))) {CA with heap:=eX,toks:=fe} BA d (some l):=(Cc.step (s':={CA with heap:=eX,toks:=fe}) S SU).mark' ha
 refine wpAny_mono (h4 (A.mark (some (.ref a))) d (some l) env outer X hf q tP sJ MU) (fun f jL p=>?_) fun x jL p=>?_
 ·obtain⟨fl,ue,eS,oP,q,rf,ZK,vW,tJ⟩:=p
  show wpAny _ A (do bindName env n .none;unbindBehindTheSuite env n p1) _ _ jL
  refine ZR ZK vW hn1 (by simp) hn2 fun Qd Ug WZ RZ TU=>?_
  exact⟨fl,_,eS,oP,fun k=>q (OD k),rf.step ZK TU vW.noTup,WZ,RZ,SU.trans (tJ.trans TU)⟩
 ·obtain⟨gf,ue,eS,oP,Rc,q,hO,rfl,⟨Ef,yc,jO⟩,ZK,vW,tJ⟩:=p
  have qb:=tP.step sJ tJ
  refine nF qb ZK hf jO hO fun Qd WZ TU Ve=>?_
  have RZ:=vW.step (s':={jL with heap:=Qd}) ZK TU
  refine ZR WZ RZ hn1 (by simp) hn2 fun af BU Ec Gf Kc=>?_
  have We:TD {jL with heap:=af,toks:=BU} (.ref Rc):=by
   obtain⟨a',e,q⟩:=Ve
   exact⟨a',e,Kc.tbs _ q⟩
  refine rM Ec jO hO We fun Ha Gc Mc zf=>?_
  have Hf:=Gf.step (s':={jL with heap:=Ha,toks:=BU}) Ec Mc
  have T':=tJ.trans (TU.x.trans (Kc.trans Mc.x))
  have sb:Cx g (A.mark (some (.ref a))) {jL with heap:=Ha,toks:=BU} oP d (some l):=tP.step (s':={jL with heap:=Ha,toks:=BU}) sJ T'
  refine nF sb Gc hf jO hO fun WA VH yQ Se=>?_
  have vP:=Hf.step (s':={jL with heap:=WA,toks:=BU}) Gc yQ
  refine LR VH jO hO Se fun dX yW zQ Te=>?_
  have uW:=vP.step (s':={jL with heap:=dX,toks:=BU}) VH zQ
  exact⟨gf,_,eS,oP,Rc,fun k=>q (OD k),hO,rfl,⟨Ef,yc,jO⟩,yW,uW,SU.trans (T'.trans (yQ.trans zQ).x)⟩
theorem Ob(Y:VC g){b f:ME}{b' f':List Stmt}(h3:f'.isEmpty=false)(h1:AB g c b b')(h2:AB g c f f'):AS g c (.tryF b f) (.Try b' [] [] f' pos):=by
 intro A d hd env outer X hf Z J K E hw s U C S F
 induction f' using List.casesOn with
 | nil=>cases h3
 | cons Vf fs=>
 have plain:∀{fl:Fl} {f':Flow} {CG:List (Option V)} {HA:List O} {BA:List Addr} {CA:Shared},¬dB g d hd f CG HA (TN (K fl) fun u0 u0 u0=>True) E->PU g CA.heap BA fl f'->St g CA BA HA->Fm g c.nm CA BA env CG->KA s.heap CA.heap U BA (EC env)->
  wpAny (model g.prog g.w) A (execs (Vf::fs) env) (fun g' s'=>match g' with | .next=>UD g c.nm env s.heap U (NF K) f' s' | g'=>UD g c.nm env s.heap U (NF K) g' s') (notedBy (model g.prog g.w) A env (cameBackBy (model g.prog g.w) A env (lB g c.nm env s.heap U (NF E)))) CA:=by
  intro fl f' CG HA BA CA hq rf DA aA GA
  refine wpAny_mono (h2 A d hd env outer X hf hq (C.step S GA) DA aA) (fun Og UA p=>?_) fun e UA p=>(p.from GA).out C S hf
  obtain⟨Hd,mW,uB,vA,q,zd,XA,vB,bA⟩:=p
  induction Hd using Fl.casesOn with
  | next=>subst zd;exact⟨fl,mW,uB,vA,q,rf.step DA bA aA.noTup,XA,vB,GA.trans bA⟩
  | brk=>exact(q trivial).elim
  | ret v=>exact(q trivial).elim
 refine wpAny_Try_finally (wpAny_mono (h1 A d hd env outer X hf hw C S F) (fun Ng CA p=>?_) fun e CA p=>?_)
 ·obtain⟨fl,CG,HA,BA,q,rf,DA,aA,GA⟩:=p
  induction fl using Fl.casesOn with
  | next=>
    subst rf
    show wpAny _ _ (execs [] env) _ _ _
    rw[execs_nil]
    exact wpAny_pure (plain (fl:= .next) q rfl DA aA GA)
  | brk=>subst rf;exact plain (fl:= .brk) q rfl DA aA GA
  | ret v=>
    obtain⟨x,rfl,r⟩:=rf
    exact plain (fl:= .ret v) q ⟨x,rfl,r⟩ DA aA GA
 obtain⟨l,CG,HA,BA,a,q,ha,rfl,⟨Cl,dl,hl⟩,DA,aA,GA⟩:=p
 have qA:=C.step S GA
 refine nF qA DA hf hl ha fun ID XA bA Ue=>?_
 refine⟨ref_ne_byPass a,?_⟩
 refine nF (rY qA DA bA) XA hf hl ha fun wB KB GB HZ=>?_
 refine aD KB hl ha none fun IM FE tC IZ=>?_
 have T':=GA.trans (bA.trans (GB.trans tC)).x
 have lI:=aA.step (s':={CA with heap:=IM}) DA (bA.trans (GB.trans tC))
 have rW:Cx g (A.mark (some (.ref a))) {CA with heap:=IM} BA d (some l):=(C.step (s':={CA with heap:=IM}) S T').mark' ha
 refine wpAny_mono (h2 (A.mark (some (.ref a))) d (some l) env outer X hf q rW FE lI) (fun Pg Fb p=>?_) fun x Fb p=>?_
 ·obtain⟨fl,te,LZ,MZ,q,rf,sJ,MU,DM⟩:=p
  induction fl using Fl.casesOn with
  | brk=>exact(q trivial).elim
  | ret v=>exact(q trivial).elim
  | next=>
    subst rf
    show wpAny _ A (passOn "try.finally" (.ref a) env) _ _ _
    have HV:=DM.loc _ _ ha
    have RS:TD Fb (.ref a):=by
     obtain⟨a',e,q⟩:=IZ HZ
     exact⟨a',e,DM.tbs _ q⟩
    obtain⟨a',e,jf⟩:=id RS
    cases e
    obtain⟨tP,wc,yY⟩:=zS sJ HV jf
    refine rM sJ yY HV RS fun Zf ZK tJ JZ=>?_
    exact⟨l,te,LZ,MZ,a,q,HV,rfl,⟨tP,wc,yY⟩,ZK,MU.step sJ tJ,T'.trans (DM.trans tJ.x)⟩
 ·exact p.noted rW FE hf fun jL p tb=>(p.from T').came tb fun u0 p u0=>p
theorem jS(ts:List Expr):lC (xP ts) fun w=>∃p q,ts=[.Attribute w.1 w.2.1 p, .Attribute w.2.2.1 w.2.2.2 q]:=by
 rcases ts with _ | ⟨t,r⟩
 ·trivial
 ·induction t using Expr.casesOn with
  | Attribute x n p=>rcases r with _ | ⟨u,r⟩
                     ·trivial
                     ·induction u using Expr.casesOn with
                      | Attribute y m q=>induction r using List.casesOn with
                        | nil=>exact⟨_,_,rfl⟩
                        | cons _ _=>trivial
                      | _=>trivial
  | _=>trivial
theorem vS(it:Expr):lC (UN c it) fun x=>∃id p q,it= .Call (.Name id p) [x] [] q/\c.isGlob (.type "enumerate") id=true/\IB x=false:=by
 induction it using Expr.casesOn with
 | Call f xs kws p=>induction f using Expr.casesOn with
   | Name id q=>
     refine .when fun h1=>?_
     rcases kws with _ | ⟨_,_⟩
     ·rcases xs with _ | ⟨x,_ | ⟨_,_⟩⟩
      ·trivial
      ·exact .when fun h2=>⟨_,_,_,rfl,h1,xG h2⟩
      ·trivial
     ·trivial
   | _=>trivial
 | _=>trivial
theorem uT(Y:VC g){E:CC->Expr->Option IE}{T:CC->Expr->Option IT}{B:CC->List Stmt->Option ME}(hE:∀c x,lC (E c x) fun ie=>AE g c ie x)(hT:∀c x,lC (T c x) fun t=>AT g c t x)(hB:∀c x,lC (B c x) fun t=>AB g c t x)(st:Stmt):lC (QW E T B c st) fun is=>AS g c is st:=by
 have hL:∀xs,lC (FF (E c) xs) fun es=>IG (AE g c) es xs:=CJ (hE c)
 induction st using PySem.Stmt.casesOn with
 | Assign ts v p=>induction ts using List.casesOn with
   | nil=>trivial
   | cons t r=>induction r using List.casesOn with
     | cons _ _=>trivial
     | nil=>induction t using Expr.casesOn with
       | Name id q=>exact .when fun h=>(hE c v).map fun he=>WU (Bool.and_eq_true_iff.mp h).1 (xG (Bool.and_eq_true_iff.mp h).2) he
       | Tuple ts k q=>
         show lC (fQ E c ts v) _
         unfold fQ
         induction ha:xP ts using Option.casesOn with
         | some w=>
           obtain⟨x,n,y,m⟩:=w
           obtain⟨p1,p2,rfl⟩:=(jS _).get ha
           exact(hE c v).bind fun he=>(hE c x).bind fun hx=>(hE c y).map fun hy=>ZQ Y he hx hy
         | none=>induction hv:iQ v using Option.casesOn with
           | some vs=>
             induction v using Expr.casesOn with
             | Tuple vs' k' q'=>
               cases hv
               show lC (match DK c ts with | true=>_ | false=>_) _
               induction hc:DK c ts using Bool.casesOn with
               | true=>exact .when fun h=>(hE c _).map fun he=>UY (Bool.and_eq_true_iff.mp h).1 hc he
               | false=>
                 refine .when fun h=>(hL _).map fun hs=>?_
                 simp only[Bool.and_eq_true,decide_eq_true_eq]at h
                 exact Eb h.1.1 h.1.2 h.2 hs
             | _=>cases hv
           | none=>exact .when fun h=>(hE c v).map fun he=>Qb (Bool.and_eq_true_iff.mp h).1 hv he
       | Attribute x n q=>exact(hE c v).bind fun he=>(hE c x).map fun ho=>jT Y he ho
       | Subscript x k q=>exact .when fun h=>(hE c v).bind fun he=>(hE c x).bind fun ho=>(hE c k).map fun hi=>KW Y he ho hi
       | _=>trivial
 | AugAssign t op v p=>induction t using Expr.casesOn with
   | Name id q=>exact .when fun h=>(hE c v).map fun he=>Qc h he
   | Attribute x n q=>exact(hE c v).bind fun he=>(hE c x).map fun ho=>kS Y he ho
   | _=>trivial
 | Expr v p=>exact .when fun h=>(hE c v).map fun he=>uZ (xG h) he
 | Return v p=>induction v using Option.casesOn with
   | some v=>exact(hE c v).map fun he=>yd he
   | none=>exact oa
 | If t a b p=>exact(hT c t).bind fun ht=>(hB c a).bind fun ha=>(hB c b).map fun hb=>Xd ht ha hb
 | While t b o p=>induction o using List.casesOn with
   | cons _ _=>trivial
   | nil=>exact(hT c t).bind fun ht=>(hB c b).map fun hb=>oe ht hb
 | For t it b o p=>induction o using List.casesOn with
   | cons _ _=>trivial
   | nil=>
     refine(hB c b).bind fun hb=>?_
     induction t using Expr.casesOn with
     | Name id q=>
       refine .when fun h1=>?_
       induction hr:XI c it using Option.casesOn with
       | some x=>
         obtain⟨f,p',rfl,h2,h3⟩:=(UL _).get hr
         exact(hE c x).map fun he=>ZX Y h1 h2 h3 he hb
       | none=>
         show lC (match YI c it with | some p=>_ | none=>_) _
         induction hr2:YI c it using Option.casesOn with
         | some x=>
           obtain⟨x,y⟩:=x
           obtain⟨f,p',rfl,h2,h3,h4⟩:=(NP _).get hr2
           exact(hE c x).bind fun hx=>(hE c y).map fun hy=>xZ Y h1 h2 h3 h4 hx hy hb
         | none=>exact .when fun h2=>(hE c it).map fun he=>vZ Y h1 (xG h2) he hb
     | Tuple ts k q=>
       show lC (match UN c it with | some x=>_ | none=>_) _
       induction hr:UN c it using Option.casesOn with
       | some x=>
         obtain⟨id,p',q',rfl,h2,h3⟩:=(vS _).get hr
         show lC (match c.places ts with | []=>_ | i::r=>_) _
         rcases c.places ts with _ | ⟨i,_ | ⟨j,_ | ⟨l,r⟩⟩⟩
         ·trivial
         ·trivial
         ·exact .when fun h1=>(hE c x).map fun he=>wZ Y h1 h2 h3 he hb
         ·trivial
       | none=>
         refine .when fun h=>(hE c it).map fun he=>?_
         have h:=Bool.and_eq_true_iff.mp h
         exact yZ Y (Bool.and_eq_true_iff.mp h.1).1 (xG h.2) he hb
     | _=>trivial
 | Raise x y p=>induction x using Option.casesOn with
   | none=>trivial
   | some x=>induction y using Option.casesOn with
     | some _=>trivial
     | none=>exact(hE c x).map fun he=>CY Y he
 | Try b hs o f p=>induction o using List.casesOn with
   | cons _ _=>trivial
   | nil=>induction hs using List.casesOn with
     | nil=>exact .when fun h=>(hB c b).bind fun hb=>(hB c f).map fun hf=>Ob Y (xG h) hb hf
     | cons h r=>induction r using List.casesOn with
       | cons _ _=>trivial
       | nil=>induction f using List.casesOn with
         | cons _ _=>trivial
         | nil=>
           obtain⟨t,n,hb,p1⟩:=h
           induction t using Option.casesOn with
           | none=>trivial
           | some t=>induction n using Option.casesOn with
             | none=>trivial
             | some n=>induction t using Expr.casesOn with
               | Name id q=>
                 show lC ((sG c.K id).bind _) _
                 refine(lC.self _).bind fun u0=>(lC.self _).bind fun u0=> .when fun h=>(hB c b).bind fun h1=>(hB c hb).map fun h4=>?_
                 simp only[Bool.and_eq_true]at h
                 exact Nb Y h.1.1 h.1.2 (xG h.2) h1 h4
               | _=>trivial
 | Break p=>exact fun A d hd env outer X hf Z J K E hw s U C S F=>wpAny_Break ⟨.brk,Z,J,U,hw,rfl,S,F, .refl ..⟩
 | Pass p=>exact fun A d hd env outer X hf Z J K E hw s U C S F=>wpAny_Pass (vE hw S F (.refl ..))
 | _=>trivial
class inductive KU(P:IS->Stmt->Prop):ME->List Stmt->Prop
 | nil:KU P .nil []
 | cons {e:IS} {r:ME} {x:Stmt} {xs:List Stmt} (p:P e x) (q:KU P r xs):KU P (.cons e r) (x::xs)
theorem YS{P:IS->Stmt->Prop}{f:Stmt->Option IS}(h:∀x,lC (f x) fun e=>P e x):∀xs,lC (Lb f xs) fun es=>KU P es xs
 | []=> .nil
 | x::xs=>(h x).bind fun p=>(YS h xs).map fun q=> .cons p q
theorem eU{b:ME}{xs:List Stmt}(h:KU (AS g c) b xs):AB g c b xs:=by
 intro A d hd env outer X hf
 induction h with
 | nil=>exact fun {Z J K E} hw {s U} C S F=>by rw[execs_nil];exact wpAny_pure (vE hw S F (.refl ..))
 | cons p hr ih=>
   intro Z J K E hw s U C S F
   rw[execs_cons]
   cases hr with
   | nil=>
     refine wpAny_bind (wpAny_mono (p A d hd env outer X hf hw C S F) (fun f CA p=>?_) fun u0 u0 p=>p)
     induction f using PySem.Flow.casesOn <;>first | exact wpAny_pure p | (show wpAny _ _ (execs [] env) _ _ _;rw[execs_nil];exact wpAny_pure p)
   | cons p2 hr2=>
     refine wpAny_bind (wpAny_mono (p A d hd env outer X hf hw C S F) (fun f CA p=>?_) fun u0 u0 p=>p)
     obtain⟨fl,CG,HA,BA,q,rf,DA,aA,GA⟩:=p
     induction fl using Fl.casesOn with
     | next=>subst rf;exact IQ GA (ih q (C.step S GA) DA aA)
     | brk=>subst rf;exact wpAny_pure ⟨.brk,CG,HA,BA,q,rfl,DA,aA,GA⟩
     | ret v=>obtain⟨y,rfl,r⟩:=rf;exact wpAny_pure ⟨.ret v,CG,HA,BA,q,⟨y,rfl,r⟩,DA,aA,GA⟩
theorem YW(Y:VC g):∀(n:Nat) (c:CC) (b:List Stmt),lC (ze n c b) fun is=>AB g c is b
 | 0,_,_=>trivial
 | n+1,c,b=>lC.imp (YS (fun x=>uT Y (vG Y 40).1 (vG Y 40).2 (YW Y n) x) b) fun h=>eU h
end
end
section
variable{g:G}{s:Shared}{U:List Addr}{J:List O}{A:Around}{d:Nat}{hd:Option Nat}{env:Env}{nm:List (List Nat)}{Z:List (Option V)}{c:CC}{M:Model}{E:Value->Shared->Prop}
theorem KA.drop{h h':Heap}{U iA X:List Addr}(T:KA h h' U iA X)(hX:∀b∈X,h.get? b=none):KA h h' U iA []:=
 ⟨T.pre,fun b o e n u0=>T.keep b o e n (fun m=>by rw[hX b m]at e;cases e),T.shape,T.alive,T.tbs⟩
theorem qI:∀(names:List (Str×NameKind)) (h:Heap) (acc:List (Str×Addr)) (x:Str) (a:Addr),(x,a)∈cellsFrom h.objs.size names acc->(x,a)∈acc\/(h.objs.size<=a/\(pushCells h names).get? a=some {cls:= .type "cell",data:= .cell none})
 | [],_,_,_,_,m=> .inl m
 | (n,k)::r,h,acc,x,a,m=>by
   unfold cellsFrom at m
   unfold pushCells
   split at m
   ·rename_i hk
    rw[if_pos hk]
    have hz:(h.push {cls:= .type "cell",data:= .cell none}).objs.size=h.objs.size+1:=Heap.size_push ..
    have:=qI r (h.push {cls:= .type "cell",data:= .cell none}) ((n,h.objs.size)::acc) x a (by rw[hz];exact m)
    rcases this with q | ⟨q1,q2⟩
    ·rcases List.mem_cons.mp q with e | q
     ·cases e
      exact .inr ⟨Nat.le_refl _,pushCells_keeps _ _ _ _ (Heap.get?_push_size _ rfl)⟩
     ·exact .inl q
    ·exact .inr ⟨by exact rC q1 (eR hz),q2⟩
   ·rename_i hk
    rw[if_neg hk]
    exact qI r h acc x a m
theorem XH:∀(names:List (Str×NameKind)) (n:Nat) (acc:List (Str×Addr)) (x:Str),(x,NameKind.cell)∈names\/x∈acc.map (·.1)->x∈(cellsFrom n names acc).map (·.1)
 | [],_,_,_,h=>by
   rcases h with h | h
   ·cases h
   ·exact h
 | (y,k)::r,n,acc,x,h=>by
   unfold cellsFrom
   split
   ·rename_i hk
    refine XH r _ _ x ?_
    rcases h with h | h
    ·rcases List.mem_cons.mp h with e | h
     ·cases e;exact .inr (by simp)
     ·exact .inl h
    ·exact .inr (by simp only[List.map_cons,List.mem_cons];exact .inr h)
   ·rename_i hk
    refine XH r _ _ x ?_
    rcases h with h | h
    ·rcases List.mem_cons.mp h with e | h
     ·cases e;exact absurd rfl hk
     ·exact .inl h
    ·exact .inr h
theorem PH{x:Str}:∀{l:List (Str×Addr)},x∈l.map (·.1)->∃a,l.lookup x=some a
 | (y,b)::r,h=>by
   rw[List.lookup_cons]
   induction e:x==y using Bool.casesOn with
   | true=>exact⟨b,rfl⟩
   | false=>
     rcases List.mem_cons.mp h with q | q
     ·rw[q]at e;simp at e
     ·exact PH q
noncomputable def Kf(nm:List (List Nat))(names:List (Str×NameKind))(i:Nat)(x:Str):Prop:=nm[i]?=some x.cps.toList/\(names.lookup x=some .local\/names.lookup x=some .cell)
theorem FR(hcells:∀x,env.scope.names.lookup x=some .cell->∃a,env.cells.lookup x=some a)(f:Str×Value->PUnit->Sem (ForInStep PUnit))(hf:∀n v u,f (n,v) u=(do storeName env n v;pure (.yield ⟨⟩))):∀(pn:List Str) (vs:List V) (xs:List Value) (i:Nat) (Z:List (Option V)) (s:Shared),vs.length=pn.length->(∀j x,pn[j]?=some x->Kf nm env.scope.names (i+j) x)->
 St g s U J->Fm g nm s U env Z->MA g s.heap U vs xs->∀{Q:PUnit->Shared->Prop},
 (∀h' t,St g {s with heap:=h',toks:=t} U J->Fm g nm {s with heap:=h',toks:=t} U env (rB Z (List.range' i pn.length) vs)->KA s.heap h' U U (EC env)->Q ⟨⟩ {s with heap:=h',toks:=t})->
 wpAny M A (forIn (pn.zip xs) PUnit.unit f) Q E s
 | [],vs,xs,i,Z,s,hl,hp,S,F,rr,Q,k=>by
   have:vs=[]:=List.length_eq_zero_iff.mp hl
   subst this
   have:xs=[]:=rr.zero
   subst this
   exact wpAny_pure (k s.heap s.toks S F (.refl ..))
 | x::pn,v::vs,xs,i,Z,s,hl,hp,S,F,rr,Q,k=>by
   obtain⟨y,ys,rfl,ry,rr'⟩:=MA.cons1 rr
   rw[List.zip_cons_cons,List.forIn_cons,hf]
   obtain⟨h1,h2⟩:=hp 0 x rfl
   have hk:env.kindOf x=some .local\/env.kindOf x=some .cell/\∃c,env.cells.lookup x=some c:=by
    rcases h2 with h2 | h2
    ·exact .inl h2
    ·exact .inr ⟨h2,hcells x h2⟩
   refine wpAny_bind (wpAny_bind (jJ S F (i:=i) (x:=x.cps.toList) h1 (by simp) hk ry fun h' t S' F' T=>wpAny_pure ?_))
   refine FR hcells f hf pn vs ys (i+1) _ _ (by simpa using hl) (fun j z e=>by have:=hp (j+1) z (by simpa using e);rw[Nat.add_right_comm,Nat.add_assoc];exact this) S' F' (rr'.step S T F.noTup) fun h'' t' S'' F'' T'=>k h'' t' S'' ?_ (T.trans T')
   exact F''
 | _::_,[],_,_,_,_,hl,_,_,_,_,_,_=>by simp at hl
structure ub(g:G)(f:Addr)(F:eA)(fd:FuncData)(pn:List Str):Prop where
 look:∃oc od osl,g.K.lookup f=some ⟨oc,od, .func fd,osl⟩
 body:∃body,fd.body= .stmts body/\ze 20 ⟨F.nm,fd.scope,g.K⟩ body=some F.body
 co:fd.scope.isCoroutine=false
 gen:fd.scope.isGenerator=false
 kind:fd.scope.kind= .function
 clo:fd.closure=[]
 glob:fd.globals=mainGlobals
 blt:fd.builtins=builtinsNs
 code:codeIn g.K fd.code fd.qualname=true
 nodup:F.nm.Nodup
 names:(fd.scope.names.map (·.1)).Nodup
 prm:∀j x,pn[j]?=some x->Kf F.nm fd.scope.names j x
 np:pn.length=F.np
 le:F.np<=F.nm.length
theorem sT(n:Nat):∀(vs:List V),vs.length<=n->rB (List.replicate n none) (List.range' 0 vs.length) vs=vs.map some++List.replicate (n - vs.length) none:=by
 have gen:∀(vs:List V) (pre:List (Option V)) (m:Nat),vs.length<=m->rB (pre++List.replicate m none) (List.range' pre.length vs.length) vs=pre++(vs.map some++List.replicate (m - vs.length) none):=by
  intro vs
  induction vs with
  | nil=>intro pre m _;simp[JW]
  | cons v vs ih=>
    intro pre m h
    induction m using Nat.casesOn with
    | zero=>simp at h
    | succ m=>
      rw[List.length_cons,List.range'_succ,cL]
      have:(pre++List.replicate (m+1) none).set pre.length (some v)=(pre++[some v])++List.replicate m none:=by
       rw[List.set_append_right _ _ (Nat.le_refl _)]
       simp[List.replicate_succ]
      rw[this]
      have:=ih (pre++[some v]) m (by simp at h;assumption)
      rw[List.length_append]at this
      simp only[List.length_cons,List.length_nil]at this
      rw[this]
      simp
 intro vs h
 have:=gen vs [] n h
 simpa using this
theorem Cx.deep(C:Cx g A s U (d+1) hd)(S:St g s U J){h':Heap}{t:Nat}{X:List Addr}(T:KA s.heap h' U U X){L:Addr}{o:Obj}(k:env.scope.kind= .function/\env.frame=some L)(hg:g.WA.get? L=none)(ho:h'.get? L=some o)(hc:o.cls= .type "frame")(hdd:nB o):Cx g (A.deeper env) {s with heap:=h',toks:=t} U d hd:=by
 obtain⟨fr,hfr,hobj⟩:=C.stk
 refine⟨?_,?_,C.hand,env::fr,by show A.frames.map _=_;rw[hfr];rfl,fun e m=>?_⟩
 ·have:=C.depth;show A.depth+1+d<=980;exact qC this
 ·have:=C.units;show A.units+3+60*(d+1)<=9000;exact qC this
 ·rcases List.mem_cons.mp m with rfl | m
  ·exact⟨k.1,L,o,k.2,hg,ho,hc,hdd⟩
  ·obtain⟨k,L,o,f',ab,ho,hc,hdd⟩:=hobj e m
   obtain⟨o',ho',hc',hd'⟩:=T.shape L o ho (S.notin ho (by rw[hc];rfl))
   exact⟨k,L,o',f',ab,ho',hc'.trans hc,hd' hdd⟩
theorem YX(Y:VC g){f:Addr}{F:eA}{fd:FuncData}{pn:List Str}(FA:ub g f F fd pn){vs:List V}{ds:List Value}{K:iE->List O->Prop}(hds:∀h U,(∀b o,g.WA.get? b=some o->h.get? b=some o)->MA g h U (F.dflt.drop (F.dflt.length - (F.np - vs.length))) ds)(hn:(vs++F.dflt.drop (F.dflt.length - (F.np - vs.length))).length=F.np)
 (hb:∀(s:Shared) (xs:List Value),(∀b o,g.WA.get? b=some o->s.heap.get? b=some o)->xs.length=vs.length->BindsTo s fd ⟨xs,[]⟩ (pn.zip (xs++ds)))
 (hw:¬dF g d hd F vs J K):CallOk g (d+1) hd (.ref f) vs J (NK K):=by
 intro A s U xs C S rr
 obtain⟨oc,od,osl,hlook⟩:=FA.look
 obtain⟨body,hbody,hchk⟩:=FA.body
 have Kh:g.K.In s.heap:=Y.K.keeps S.base
 have hroom:A.depth < recursionLimit:=by have:=C.depth;show A.depth < 1000;exact qC this
 refine codeAny_call_function hroom (Kh _ _ hlook) rfl FA.co FA.gen hbody (codeRec_of Kh FA.code) (hb s xs S.base rr.len _ _ _ _ ?_)
 unfold newFunctionEnv
 simp only[Option.isSome_none,Bool.false_eq_true,if_false]
 refine wpAny_bind (wpAny_alloc ?_)
 rw[FA.clo]
 refine wpAny_bind (wpAny_layCells _ (fun name kind cells=>by cases hkc:kind==NameKind.cell <;>simp[hkc]) _ _ _ _ ?_)
 have DA:=S.pushU {cls:= .type "frame",data:= .dict #[]}
 have hz:(s.heap.push {cls:= .type "frame",data:= .dict #[]}).objs.size=s.heap.objs.size+1:=Heap.size_push ..
 have hL:(s.heap.push {cls:= .type "frame",data:= .dict #[]}).get? s.heap.objs.size=some {cls:= .type "frame",data:= .dict #[]}:=Heap.get?_push_size _ rfl
 generalize Nd:s.heap.push {cls:= .type "frame",data:= .dict #[]}=tA at*
 have La:∀b o,s.heap.get? b=some o->tA.get? b=some o:=fun b o e=>by rw[<-Nd];exact Heap.get?_push_of_some _ e
 have VV:=pushCells_keeps fd.scope.names tA
 have ok:=cellsFrom_ok fd.scope.names tA (s.heap.objs.size+1) [] ⟨fun u0 u0 hm=>(nomatch hm),List.Pairwise.nil⟩ (by rw[hz];exact Nat.le_refl _)
 have hnew:=fun x a=>qI fd.scope.names tA [] x a
 have hhave:∀x,(x,NameKind.cell)∈fd.scope.names->∃a,(cellsFrom tA.objs.size fd.scope.names []).lookup x=some a:=fun x m=>PH (XH fd.scope.names tA.objs.size [] x (.inl m))
 have XA:St g {s with heap:=pushCells tA fd.scope.names,toks:=s.toks} U J:=S.ext (fun b o e=>VV b o (La b o e)) s.toks
 have bA:KA s.heap (pushCells tA fd.scope.names) U U []:=KA.ext U (fun b o e=>VV b o (La b o e)) []
 generalize hcl:cellsFrom tA.objs.size fd.scope.names []=cl at*
 have hm:∀x a,(x,a)∈cl->s.heap.objs.size+1<=a/\(pushCells tA fd.scope.names).get? a=some {cls:= .type "cell",data:= .cell none}:=fun x a m=>by
  rcases hnew x a m with q | ⟨q1,q2⟩
  ·cases q
  ·exact⟨by exact Nat.le_trans (eR hz) q1,q2⟩
 generalize wf:pushCells tA fd.scope.names=ID at*
 generalize henv:({scope:=fd.scope,locals:=s.heap.objs.size,globals:=fd.globals,cells:=cl,qual:=fd.qualname++".<locals>.",func:=some f,code:=fd.code,frame:=some s.heap.objs.size,builtins:=fd.builtins}:Env)=env
 have none_new:∀a,s.heap.objs.size<=a->s.heap.get? a=none:=fun a q=>bN q
 have g_new:∀a,s.heap.objs.size<=a->g.WA.get? a=none:=fun a q=>by
  induction e:g.WA.get? a using Option.casesOn with
  | none=>rfl
  | some o=>exact absurd (Heap.lt_size (S.base _ _ e)) (Nat.not_lt.mpr q)
 have hX:∀a∈EC env,s.heap.objs.size<=a:=fun a m=>by
  subst henv
  rcases List.mem_cons.mp m with q | m
  ·exact Nat.le_of_eq q.symm
  ·obtain⟨q,hq,rfl⟩:=List.mem_map.mp m
   have:=(hm q.1 q.2 hq).1;exact(db this)
 have Wf:∀a∈EC env,a∉U:=fun a m q=>absurd (S.lt q) (Nat.not_lt.mpr (hX a m))
 have vB:Fm g F.nm {s with heap:=ID,toks:=s.toks} U env (List.replicate F.nm.length none):=by
  refine⟨by subst henv;exact FA.kind,by subst henv;exact FA.glob,by subst henv;exact FA.blt,by subst henv;exact⟨_,rfl⟩,FA.nodup,by simp,fun a m=>g_new a (hX a m),Wf,?_,?_,?_,fun u0=>none,?_,?_⟩
  ·subst henv;exact⟨_,VV _ _ hL, .inl rfl, #[],0,rfl⟩
  ·intro a m
   subst henv
   obtain⟨q,hq,rfl⟩:=List.mem_map.mp m
   exact⟨_,_,(hm q.1 q.2 hq).2,rfl,rfl⟩
  ·subst henv
   exact List.pairwise_map.mpr ok.apart
  ·subst henv;exact⟨_, #[],0,VV _ _ hL,rfl,fun e he=>by simp at he,fun name=>rfl⟩
  ·intro i x v hx hv
   rw[List.getElem?_replicate]at hv
   split at hv <;>simp at hv
 have hcells:∀x,env.scope.names.lookup x=some .cell->∃a,env.cells.lookup x=some a:=fun x e=>by
  subst henv;exact hhave x (tE e)
 have BW:MA g ID U (vs++F.dflt.drop (F.dflt.length - (F.np - vs.length))) (xs++ds):=(rr.step0 S bA).append (hds ID U XA.base)
 refine wpAny_bind (FR hcells _ (fun n v u=>rfl) pn _ _ 0 _ _ (by rw[hn,FA.np]) (fun j x e=>by rw[Nat.zero_add];subst henv;exact FA.prm j x e) XA vB BW fun wB t KB ZF GB=>wpAny_pure ?_)
 have T:KA s.heap wB U U (EC env):=bA.x.trans GB
 have Xg:Gd g ⟨F.nm,fd.scope,g.K⟩ env:=⟨rfl,by subst henv;rfl,hcells⟩
 refine⟨Y.nolimit.keeps KB.base,codeAny_func ?_⟩
 obtain⟨fr,hfr,_⟩:=C.stk
 have hf':(A.deeper env).frames=some (env::fr):=by show A.frames.map _=_;rw[hfr];rfl
 have kI:Cx g (A.deeper env) {s with heap:=wB,toks:=t} U d hd:=by
  obtain⟨o',ho',hc',hd'⟩:=GB.shape s.heap.objs.size _ (VV _ _ hL) (fun q=>absurd (S.lt q) (Nat.lt_irrefl _))
  exact C.deep S T (L:=s.heap.objs.size) (o:=o') (by subst henv;exact⟨FA.kind,rfl⟩) (g_new _ (Nat.le_refl _)) ho' hc' (hd' ⟨_,_,rfl⟩)
 have Zb:rB (List.replicate F.nm.length none) (List.range' 0 pn.length) (vs++F.dflt.drop (F.dflt.length - (F.np - vs.length)))=F.start vs:=by
  have:=sT F.nm.length (vs++F.dflt.drop (F.dflt.length - (F.np - vs.length))) (by rw[hn];exact FA.le)
  rw[hn]at this
  rw[FA.np,this]
  rfl
 rw[Zb]at ZF
 unfold dF at hw
 rw[bP]at hw
 have hb:=YW Y 20 ⟨F.nm,fd.scope,g.K⟩ body
 rw[hchk]at hb
 have hXn:∀b∈EC env,s.heap.get? b=none:=fun b m=>none_new b (hX b m)
 refine wpAny_mono (hb (A.deeper env) d hd env fr Xg hf' hw kI KB ZF) (fun fl yJ p=>?_) fun e yJ p=>?_
 ·obtain⟨fl',se,vL,nJ,q,rf,FE,lI,tC⟩:=p
  have T':=(T.trans tC).drop hXn
  induction fl' using Fl.casesOn with
  | next=>subst rf;exact⟨_,vL,nJ,q,rfl,FE,T'⟩
  | brk=>exact(q trivial).elim
  | ret v=>obtain⟨x,rfl,r⟩:=rf;exact⟨v,vL,nJ,q,r,FE,T'⟩
 ·obtain⟨l,se,vL,nJ,a,q,ha,rfl,⟨Cl,dl,hl⟩,FE,lI,tC⟩:=p
  refine wpAny_bind (nF (kI.step KB tC) FE hf' hl ha fun eX sJ DM RS=>?_)
  refine aD sJ hl ha none fun Zf ZK tJ JZ=>?_
  have T':=(T.trans (tC.trans (DM.trans tJ).x)).drop hXn
  exact⟨⟨l,vL,nJ,a,q,ha,rfl,⟨Cl,dl,hl⟩,ZK,T'⟩,JZ RS⟩
end
section
variable{g:G}{s:Shared}{U:List Addr}{J:List O}{A:Around}{d:Nat}{hd:Option Nat}
theorem CU(A:Around)(C:Addr)(rest:List Value):(A.under (.builtin "type.__call__" ⟨.ref C::rest,[]⟩)).depth=A.depth+1/\(A.under (.builtin "type.__call__" ⟨.ref C::rest,[]⟩)).units=A.units+1/\
 (A.under (.builtin "type.__call__" ⟨.ref C::rest,[]⟩)).handled=A.handled/\(A.under (.builtin "type.__call__" ⟨.ref C::rest,[]⟩)).frames=A.frames:=
 ⟨rfl,rfl,rfl,by show pushEnvs [] A.frames=A.frames;cases A.frames <;>rfl⟩
theorem Cx.undr(Cc:Cx g A s U (d+1) hd)(C:Addr)(rest:List Value):Cx g (A.under (.builtin "type.__call__" ⟨.ref C::rest,[]⟩)) s U d hd:=by
 obtain⟨e1,e2,e3,e4⟩:=CU A C rest
 refine⟨by rw[e1];have:=Cc.depth;exact(qC this),by rw[e2];have:=Cc.units;exact(qC this),?_,?_⟩
 ·have:=Cc.hand;rw[e3];exact this
 ·rw[e4];exact Cc.stk
theorem OO(Y:VC g){C f:Addr}(hx:JU C=false)(hmk:makesIn g.K C=true)(hi:findIn g.K (.ref C) "__init__"=some (some (.ref f)))(hf:typeIn g.K (.ref f)=some (.type "function")){vs:List V}{R:iE->List O->Prop}
 (h:CallOk g d hd (.ref f) (.loc (J.length+1)::vs) (J++[.ad [], .inst C J.length]) (fun r NA=>match r with | .ok v=>v= .none/\R (.ok (.loc (J.length+1))) NA | .exn l=>R (.exn l) NA)):
 CallOk g (d+1) hd (.ref C) vs J R:=by
 intro A s U xs Cc S rr
 have K:g.K.In s.heap:=Y.K.keeps S.base
 obtain⟨hp,gg,dr,tk,oo⟩:=s
 refine make_core (makes_of K hmk) (looks_findIn K hi) (fun self=>?_) (.inl (by rw[bne_iff_ne];intro q;cases q)) ?_
 ·exact bind_fn K self hf
 ·have DA:=S.pushT emptyDict (.ad []) rfl ⟨_,fun u0=>none,Heap.get?_push_size _ rfl,rfl,⟨_, #[],0,Heap.get?_push_size _ rfl,rfl,fun e he=>by simp at he,fun name=>rfl⟩,fun es n q=>by cases q;simp,fun k=>trivial⟩
  have XA:=DA.pushT (instObj C hp.objs.size) (.inst C J.length) rfl ⟨hx,hp.objs.size,by rw[<-S.len];simp,Heap.get?_push_size _ rfl⟩
  have T:KA hp ((hp.push emptyDict).push (instObj C hp.objs.size)) U (U++[hp.objs.size]++[(hp.push emptyDict).objs.size]) []:=(KA.pushT ..).trans (.pushT ..)
  have hsz:(hp.push emptyDict).objs.size=hp.objs.size+1:=Heap.size_push ..
  rw[List.append_assoc,List.append_assoc]at XA
  simp only[List.cons_append,List.nil_append]at XA
  have hl:(U++[hp.objs.size,(hp.push emptyDict).objs.size])[J.length+1]?=some (hp.objs.size+1):=by
   rw[List.getElem?_append_right (by rw[S.len];exact Nat.le_add_right _ _),S.len,hsz]
   simp
  have T':KA hp ((hp.push emptyDict).push (instObj C hp.objs.size)) U (U++[hp.objs.size,(hp.push emptyDict).objs.size]) []:=by
   have:=T;rw[List.append_assoc]at this;exact this
  have DE:=(Cc.undr C xs).step (s':=⟨(hp.push emptyDict).push (instObj C hp.objs.size),gg,dr,tk,oo⟩) S T'
  refine codeAny_mono (h _ ⟨(hp.push emptyDict).push (instObj C hp.objs.size),gg,dr,tk,oo⟩ _ (.ref (hp.objs.size+1)::xs) DE XA ⟨⟨_,hl,rfl⟩,rr.step0 S T'⟩) fun r s' p=>?_
  rcases r with e | (_ | _ | _ | v)
  ·exact⟨p.1.from T',p.2⟩
  ·exact p.elim
  ·exact p.elim
  ·exact p.elim
  ·obtain⟨mv,NA,iA,⟨rfl,q⟩,rv,S',T''⟩:=p
   exact⟨rv,_,NA,iA,q,⟨_,T''.loc _ _ hl,rfl⟩,S',T'.trans T''⟩
end
section
variable{prog:Program}{w:World}{A:Around}{E:Value->Shared->Prop}{h:Heap}{g:Array GenState}{d:Drawn}{t:Nat}{os:OsState}
variable{nm q:Str}{C N:Addr}{bs bm:List Value}{hdct:Bool}{sn:List Str}{sub:List Value}{ab:Bool}{col:Option Bool}{dd:Option Addr}{k0 k1 k2 k3 k5:Option Value}{B newId initId:String}
theorem HM(F:ExcBaseFacts B newId initId bm){K:Frag}(X:K.In h){f:Addr}{rest:List Value}{Q:Fin->Shared->Prop}
 (hC:h.get? C=some (excClassObj nm q C N bs bm hdct sn sub ab col dd k0 k1 k2 k3 k5 newId)) (hi:findIn K (.ref C) "__init__"=some (some (.ref f))) (hf:typeIn K (.ref f)=some (.type "function"))
 (hq:wpAny (model prog w) A (call (.ref f) (.ref (h.objs.size+1)::rest)) (fun v s'=>v= .none/\Q (.done (.ret (.ref (h.objs.size+1)))) s') E
  ⟨(h.push {cls:= .type "tuple",data:= .seq rest.toArray}).push {cls:= .ref C,data:= .fields #[.ref h.objs.size, .none, .none, .none, .bool false, .none]},g,d,t,os⟩) (hrest:rest.length<=sizeLine):
 wpAny (model prog w) A (Builtin.«type.__call__» ⟨.ref C::rest,[]⟩) Q E ⟨h,g,d,t,os⟩:=by
 repeat (first | with_reducible refine wpAny_loadPart_at hC ?_ | with_reducible refine wpAny_madeBy_exc hC ?_ | wp_step)
 refine codeAny_call_builtin_code (Code.quiet_builtin _ F.quiet) (wpAny_check_new_sub F hC ?_)
 refine codeAny_exc_new_sub F hC ?_ hrest
 show wpAny _ _ _ _ _ _
 have Jd:=Heap.get?_push_of_some {cls:= .ref C,data:= .fields #[.ref h.objs.size, .none, .none, .none, .bool false, .none]}
  (Heap.get?_push_of_some {cls:= .type "tuple",data:= .seq rest.toArray} hC)
 have hget:((h.push {cls:= .type "tuple",data:= .seq rest.toArray}).push
  {cls:= .ref C,data:= .fields #[.ref h.objs.size, .none, .none, .none, .bool false, .none]}).get? (h.objs.size+1)=some
  {cls:= .ref C,data:= .fields #[.ref h.objs.size, .none, .none, .none, .bool false, .none]}:=by heap_get
 have hcC:(Value.ref C::bm).contains (.ref C)=true:=by simp
 repeat (first | with_reducible refine wpAny_loadPart_at hget ?_ | (with_reducible refine wpAny_isSubtype_exc Jd ?_;rw[hcC]) | wp_step)
 show wpAny _ _ (typeLookup (.ref C) _) _ _ _
 have Oc:K.In ((h.push {cls:= .type "tuple",data:= .seq rest.toArray}).push {cls:= .ref C,data:= .fields #[.ref h.objs.size, .none, .none, .none, .bool false, .none]}):=X.keeps fun b o e=>Heap.get?_push_of_some _ (Heap.get?_push_of_some _ e)
 refine(looks_findIn Oc hi).at ?_
 refine wpAny_holding (wpAny_bind ((bind_fn (M:=model prog w) Oc (.ref (h.objs.size+1)) hf).at ?_))
 refine wpAny_bind (wpAny_mono hq (fun v s' p=>?_) fun u0 u0 e=>e)
 obtain⟨rfl,p⟩:=p
 refine wpAny_pure ?_
 dsimp only
 rw[if_neg (by decide)]
 exact wpAny_pure p
theorem FM(F:ExcBaseFacts B newId initId bm){K:Frag}(X:K.In h){f:Addr}{rest:List Value}{R:Result->Shared->Prop}
 (hC:h.get? C=some (excClassObj nm q C N bs bm hdct sn sub ab col dd k0 k1 k2 k3 k5 newId)) (hi:findIn K (.ref C) "__init__"=some (some (.ref f))) (hf:typeIn K (.ref f)=some (.type "function"))
 (hq:wpAny (model prog w) (A.under (.builtin "type.__call__" ⟨.ref C::rest,[]⟩)) (call (.ref f) (.ref (h.objs.size+1)::rest)) (fun v s'=>v= .none/\R (.ok (.ret (.ref (h.objs.size+1)))) s') (fun e s'=>R (.error e) s')
  ⟨(h.push {cls:= .type "tuple",data:= .seq rest.toArray}).push {cls:= .ref C,data:= .fields #[.ref h.objs.size, .none, .none, .none, .bool false, .none]},g,d,t,os⟩) (hrest:rest.length<=sizeLine):
 codeAny (model prog w) A (.call (.ref C) ⟨rest,[]⟩) R ⟨h,g,d,t,os⟩:=by
 have f1:=tc_lookup
 have f2:=tc_bind (.ref C)
 have hT:(⟨h,g,d,t,os⟩:Shared).TypeIs (.ref C) "type":=⟨_,hC,rfl⟩
 refine codeAny_of_tree ?_
 show wpAny _ _ (callAny (.ref C) _) _ _ _
 repeat (any_goals (first | assumption | with_reducible refine wpAny_loadPart_at hC ?_ | wp_step))
 refine⟨rfl,?_⟩
 refine codeAny_call_builtin_at (Code.quiet_builtin _ (by decide+kernel)) entry_typeCall (wpAny_check_type_call_sub hC (HM F X hC hi hf ?_ hrest))
 exact hq
end
section
variable{g:G}{s:Shared}{U:List Addr}{J:List O}{A:Around}{d:Nat}{hd:Option Nat}
theorem xU(Y:VC g){C f N:Addr}{nm q:Str}{bs bm:List Value}{hdct:Bool}{sn:List Str}{sub:List Value}{ab:Bool}{col:Option Bool}{dd:Option Addr}{k0 k1 k2 k3 k5:Option Value}{B newId initId:String}(F:ExcBaseFacts B newId initId bm)
 (hx:JU C=true) (hC:g.K.lookup C=some (excClassObj nm q C N bs bm hdct sn sub ab col dd k0 k1 k2 k3 k5 newId)) (hi:findIn g.K (.ref C) "__init__"=some (some (.ref f))) (hf:typeIn g.K (.ref f)=some (.type "function")) {vs:List V} {R:iE->List O->Prop} (hvs:vs.length<=1000)
 (h:CallOk g d hd (.ref f) (.loc J.length::vs) (J++[.exc0 C]) (fun r NA=>match r with | .ok v=>v= .none/\R (.ok (.loc J.length)) NA | .exn l=>R (.exn l) NA)):
 CallOk g (d+1) hd (.ref C) vs J R:=by
 intro A s U xs Cc S rr
 have K:g.K.In s.heap:=Y.K.keeps S.base
 have hlen:=rr.len
 obtain⟨hp,gg,dr,tk,oo⟩:=s
 have DA:=S.pushU {cls:= .type "tuple",data:= .seq xs.toArray}
 have hsz:(hp.push {cls:= .type "tuple",data:= .seq xs.toArray}).objs.size=hp.objs.size+1:=Heap.size_push ..
 have XA:=DA.pushT {cls:= .ref C,data:= .fields #[.ref hp.objs.size, .none, .none, .none, .bool false, .none]} (.exc0 C) rfl ⟨hx,_,Heap.get?_push_size _ rfl,by simp,by simp⟩
 have T:KA hp ((hp.push {cls:= .type "tuple",data:= .seq xs.toArray}).push {cls:= .ref C,data:= .fields #[.ref hp.objs.size, .none, .none, .none, .bool false, .none]}) U (U++[(hp.push {cls:= .type "tuple",data:= .seq xs.toArray}).objs.size]) []:=(KA.pushU ..).trans (.pushT ..)
 have hl:(U++[(hp.push {cls:= .type "tuple",data:= .seq xs.toArray}).objs.size])[J.length]?=some (hp.objs.size+1):=by
  rw[<-S.len,hsz];exact fB ..
 have DE:=(Cc.undr C xs).step (s':=⟨(hp.push {cls:= .type "tuple",data:= .seq xs.toArray}).push {cls:= .ref C,data:= .fields #[.ref hp.objs.size, .none, .none, .none, .bool false, .none]},gg,dr,tk,oo⟩) S T
 have hcall:=h _ ⟨(hp.push {cls:= .type "tuple",data:= .seq xs.toArray}).push {cls:= .ref C,data:= .fields #[.ref hp.objs.size, .none, .none, .none, .bool false, .none]},gg,dr,tk,oo⟩ _ (.ref (hp.objs.size+1)::xs) DE XA ⟨⟨_,hl,rfl⟩,rr.step0 S T⟩
 refine FM F K (K _ _ hC) hi hf (wpAny_call (codeAny_mono hcall fun r s' p=>?_)) (by rw[hlen,LA];exact kC hvs)
 rcases r with e | (_ | _ | _ | v)
 ·exact⟨p.1.from T,p.2⟩
 ·exact p.elim
 ·exact p.elim
 ·exact p.elim
 ·obtain⟨mv,NA,iA,⟨rfl,q⟩,rv,S',T''⟩:=p
  exact⟨rv,_,NA,iA,q,⟨_,T''.loc _ _ hl,rfl⟩,S',T.trans T''⟩
end
noncomputable def RG:eA:={np:=6,nm:=[[115,101,108,102],[99,111,100,101],[118,97,108,117,101],[101,114,114,111,114,99,111,100,101],[108,101,118,101,108],[114,101,116]],dflt:=[.tup [.str [78,79,78,69]], .int 0, .int 0],body:=
 (.cons (.expr (.meth (.glob (.type "Exception")) [95,95,105,110,105,116,95,95] (.cons (.var 0) (.cons (.var 2) .nil))))
 (.cons (.setAttr (.var 0) [99,111,100,101] (.var 1))
 (.cons (.setAttr (.var 0) [118,97,108,117,101] (.var 2))
 (.cons (.setAttr (.var 0) [101,114,114,111,114,99,111,100,101] (.var 3))
 (.cons (.setAttr (.var 0) [108,101,118,101,108] (.var 4))
 (.cons (.setAttr (.var 0) [114,101,116] (.var 5))
 (.cons (.setAttr (.var 0) [105,110,102,111] (.str []))
 (.cons (.setAttr (.var 0) [105,115,95,110,111,116,101,100] (.bool false))
 (.cons (.setAttr (.var 0) [108,105,110,101] (.int 0))
 (.cons (.setAttr (.var 0) [101,120,116,114,97] (.lst .nil))
 .nil))))))))))}
noncomputable def rO:eA:={np:=2,nm:=[[116,101,120,116],[101,114,114,111,114,99,111,100,101]],dflt:=[.tup [.str [78,79,78,69]]],body:=
 (.cons (.ret (.call (.glob (.ref 84)) (.cons (.int 1) (.cons (.var 0) (.cons (.var 1) .nil)))))
 .nil)}
noncomputable def MV:eA:={np:=2,nm:=[[116,101,120,116],[109,111,115,116]],dflt:=[],body:=
 (.cons (.ite (.e (.cmp .Gt (.call (.glob (.builtin "len")) (.cons (.var 0) .nil)) (.var 1)))
  (.cons (.ret (.bin .Add (.slc (.var 0) .none (.var 1)) (.str [46,46,46])))
  .nil)
  .nil)
 (.cons (.ret (.var 0))
 .nil))}
noncomputable def nR:eA:={np:=2,nm:=[[114,97,105,115,101,100],[115,111,117,114,99,101]],dflt:=[],body:=
 (.cons (.ite (.e (.cmp .NotEq (.attr (.var 0) [99,111,100,101]) (.int 1)))
  (.cons .ret0
  .nil)
  .nil)
 (.cons (.ite (.e (.cmp .Eq (.attr (.var 0) [105,110,102,111]) (.str [])))
  (.cons (.setAttr (.var 0) [105,110,102,111] (.bin .Add (.bin .Add (.bin .Add (.attr (.var 0) [118,97,108,117,101]) (.str [10,32,32,32,32,119,104,105,108,101,32,101,120,101,99,117,116,105,110,103,10,34])) (.call (.glob (.ref 146)) (.cons (.var 1) (.cons (.int 150) .nil)))) (.str [34])))
  .nil)
  (.cons (.ite (.e (.attr (.var 0) [105,115,95,110,111,116,101,100]))
   (.cons (.setAttr (.var 0) [105,110,102,111] (.bin .Add (.bin .Add (.bin .Add (.attr (.var 0) [105,110,102,111]) (.str [10,32,32,32,32,105,110,118,111,107,101,100,32,102,114,111,109,32,119,105,116,104,105,110,10,34])) (.call (.glob (.ref 146)) (.cons (.var 1) (.cons (.int 150) .nil)))) (.str [34])))
   .nil)
   .nil)
  .nil))
 (.cons (.setAttr (.var 0) [105,115,95,110,111,116,101,100] (.bool true))
 .nil)))}
noncomputable def OJ:eA:={np:=1,nm:=[[99]],dflt:=[],body:=
 (.cons (.ret (.cmp .In (.var 0) (.tup (.cons (.str [32]) (.cons (.str [9]) (.cons (.str [10]) (.cons (.str [11]) (.cons (.str [12]) (.cons (.str [13]) .nil)))))))))
 .nil)}
noncomputable def qO:eA:={np:=1,nm:=[[99],[110]],dflt:=[],body:=
 (.cons (.ite (.e (.cmp .NotEq (.call (.glob (.builtin "len")) (.cons (.var 0) .nil)) (.int 1)))
  (.cons (.ret (.neg (.int 1)))
  .nil)
  .nil)
 (.cons (.assign 1 (.call (.glob (.builtin "ord")) (.cons (.var 0) .nil)))
 (.cons (.ite (.e (.cmp2 (.int 48) .LtE (.var 1) .LtE (.int 57)))
  (.cons (.ret (.bin .Sub (.var 1) (.int 48)))
  .nil)
  .nil)
 (.cons (.ite (.e (.cmp2 (.int 97) .LtE (.var 1) .LtE (.int 122)))
  (.cons (.ret (.bin .Sub (.var 1) (.int 87)))
  .nil)
  .nil)
 (.cons (.ite (.e (.cmp2 (.int 65) .LtE (.var 1) .LtE (.int 90)))
  (.cons (.ret (.bin .Sub (.var 1) (.int 55)))
  .nil)
  .nil)
 (.cons (.ret (.neg (.int 1)))
 .nil))))))}
noncomputable def NJ:eA:={np:=2,nm:=[[116,101,120,116],[97,116],[109,111,115,116],[112,108,97,99,101],[118,97,108,117,101],[115,116,101,112]],dflt:=[],body:=
 (.cons (.assign 2 (.bin .Add (.var 1) (.int 3)))
 (.cons (.ite (.e (.cmp .Eq (.idx (.var 0) (.var 1)) (.str [117])))
  (.cons (.assign 2 (.bin .Add (.var 1) (.int 5)))
  .nil)
  (.cons (.ite (.e (.cmp .Eq (.idx (.var 0) (.var 1)) (.str [85])))
   (.cons (.assign 2 (.bin .Add (.var 1) (.int 9)))
   .nil)
   .nil)
  .nil))
 (.cons (.assign 3 (.bin .Add (.var 1) (.int 1)))
 (.cons (.assign 4 (.int 0))
 (.cons (.whl (.and (.cons (.e (.cmp .Lt (.var 3) (.var 2))) (.cons (.e (.cmp .Lt (.var 3) (.call (.glob (.builtin "len")) (.cons (.var 0) .nil)))) (.cons (.e (.cmp .LtE (.var 4) (.int 69631))) .nil))))
  (.cons (.assign 5 (.call (.glob (.ref 188)) (.cons (.idx (.var 0) (.var 3)) .nil)))
  (.cons (.ite (.or (.cons (.e (.cmp .Lt (.var 5) (.int 0))) (.cons (.e (.cmp .Gt (.var 5) (.int 15))) .nil)))
   (.cons .brk
   .nil)
   .nil)
  (.cons (.assign 4 (.bin .Add (.bin .Mult (.var 4) (.int 16)) (.var 5)))
  (.cons (.aug 3 .Add (.int 1))
  .nil)))))
 (.cons (.ite (.e (.cmp .Eq (.var 3) (.bin .Add (.var 1) (.int 1))))
  (.cons (.ret (.tup (.cons (.idx (.var 0) (.var 1)) (.cons (.var 3) .nil))))
  .nil)
  .nil)
 (.cons (.ret (.tup (.cons (.call (.glob (.builtin "chr")) (.cons (.var 4) .nil)) (.cons (.var 3) .nil))))
 .nil)))))))}
noncomputable def JI:eA:={np:=2,nm:=[[116,101,120,116],[97,116],[115,105,103,110],[107,110,111,119,110],[98,101,104,105,110,100]],dflt:=[],body:=
 (.cons (.assign 2 (.slc (.var 0) (.bin .Add (.var 1) (.int 1)) (.bin .Add (.var 1) (.int 2))))
 (.cons (.ite (.e (.cmp .Eq (.var 2) (.str [])))
  (.cons (.ret (.tup (.cons (.str [92]) (.cons (.bin .Add (.var 1) (.int 1)) .nil))))
  .nil)
  .nil)
 (.cons (.assign 3 (.meth (.str [97,98,102,110,114,116,118]) [102,105,110,100] (.cons (.var 2) .nil)))
 (.cons (.ite (.e (.cmp .GtE (.var 3) (.int 0)))
  (.cons (.ret (.tup (.cons (.idx (.str [7,8,12,10,13,9,11]) (.var 3)) (.cons (.bin .Add (.var 1) (.int 2)) .nil))))
  .nil)
  .nil)
 (.cons (.ite (.e (.cmp .Eq (.var 2) (.str [10])))
  (.cons (.assign 4 (.bin .Add (.var 1) (.int 2)))
  (.cons (.whl (.e (.cmp .In (.slc (.var 0) (.var 4) (.bin .Add (.var 4) (.int 1))) (.tup (.cons (.str [32]) (.cons (.str [9]) .nil)))))
   (.cons (.aug 4 .Add (.int 1))
   .nil))
  (.cons (.ret (.tup (.cons (.str [32]) (.cons (.var 4) .nil))))
  .nil)))
  .nil)
 (.cons (.ite (.e (.cmp .In (.var 2) (.tup (.cons (.str [120]) (.cons (.str [117]) (.cons (.str [85]) .nil))))))
  (.cons (.ret (.call (.glob (.ref 195)) (.cons (.var 0) (.cons (.bin .Add (.var 1) (.int 1)) .nil))))
  .nil)
  .nil)
 (.cons (.ite (.e (.cmp .In (.var 2) (.tup (.cons (.str [48]) (.cons (.str [49]) (.cons (.str [50]) (.cons (.str [51]) (.cons (.str [52]) (.cons (.str [53]) (.cons (.str [54]) (.cons (.str [55]) .nil)))))))))))
  (.cons (.ret (.call (.glob (.ref 202)) (.cons (.var 0) (.cons (.bin .Add (.var 1) (.int 1)) .nil))))
  .nil)
  .nil)
 (.cons (.ret (.tup (.cons (.var 2) (.cons (.bin .Add (.var 1) (.int 2)) .nil))))
 .nil))))))))}
noncomputable def hM:eA:={np:=1,nm:=[[99]],dflt:=[],body:=
 (.cons (.ret (.cmp .In (.var 0) (.tup (.cons (.str [32]) (.cons (.str [9]) (.cons (.str [11]) (.cons (.str [12]) (.cons (.str [13]) .nil))))))))
 .nil)}
noncomputable def QI:eA:={np:=2,nm:=[[116,101,120,116],[97,116]],dflt:=[],body:=
 (.cons (.whl (.e (.cmp .Lt (.var 1) (.call (.glob (.builtin "len")) (.cons (.var 0) .nil))))
  (.cons (.ite (.e (.call (.glob (.ref 216)) (.cons (.idx (.var 0) (.var 1)) .nil)))
   (.cons (.aug 1 .Add (.int 1))
   .nil)
   (.cons (.ite (.e (.cmp .Eq (.slc (.var 0) (.var 1) (.bin .Add (.var 1) (.int 2))) (.str [92,10])))
    (.cons (.aug 1 .Add (.int 2))
    .nil)
    (.cons (.ret (.var 1))
    .nil))
   .nil))
  .nil))
 (.cons (.ret (.var 1))
 .nil))}
noncomputable def rE:eA:={np:=2,nm:=[[116,101,120,116],[97,116],[115,105,122,101]],dflt:=[],body:=
 (.cons (.assign 2 (.call (.glob (.builtin "len")) (.cons (.var 0) .nil)))
 (.cons (.whl (.e (.cmp .Lt (.var 1) (.var 2)))
  (.cons (.ite (.e (.cmp .Eq (.idx (.var 0) (.var 1)) (.str [92])))
   (.cons (.aug 1 .Add (.int 2))
   .nil)
   (.cons (.ite (.e (.cmp .Eq (.idx (.var 0) (.var 1)) (.str [10])))
    (.cons (.ret (.bin .Add (.var 1) (.int 1)))
    .nil)
    (.cons (.aug 1 .Add (.int 1))
    .nil))
   .nil))
  .nil))
 (.cons (.ret (.var 2))
 .nil)))}
noncomputable def aE:eA:={np:=2,nm:=[[116,101,120,116],[97,116]],dflt:=[],body:=
 (.cons (.assign 1 (.call (.glob (.ref 223)) (.cons (.var 0) (.cons (.var 1) .nil))))
 (.cons (.whl (.e (.cmp .In (.slc (.var 0) (.var 1) (.bin .Add (.var 1) (.int 1))) (.tup (.cons (.str [10]) (.cons (.str [59]) (.cons (.str [35]) .nil))))))
  (.cons (.ite (.e (.cmp .Eq (.idx (.var 0) (.var 1)) (.str [35])))
   (.cons (.assign 1 (.call (.glob (.ref 230)) (.cons (.var 0) (.cons (.var 1) .nil))))
   .nil)
   (.cons (.aug 1 .Add (.int 1))
   .nil))
  (.cons (.assign 1 (.call (.glob (.ref 223)) (.cons (.var 0) (.cons (.var 1) .nil))))
  .nil)))
 (.cons (.ret (.var 1))
 .nil)))}
noncomputable def PI:eA:={np:=2,nm:=[[116,101,120,116],[97,116]],dflt:=[],body:=
 (.cons (.whl (.e (.cmp .Lt (.var 1) (.call (.glob (.builtin "len")) (.cons (.var 0) .nil))))
  (.cons (.ite (.or (.cons (.e (.cmp .Eq (.idx (.var 0) (.var 1)) (.str [95]))) (.cons (.e (.cmp .GtE (.call (.glob (.ref 188)) (.cons (.idx (.var 0) (.var 1)) .nil)) (.int 0))) .nil)))
   (.cons (.aug 1 .Add (.int 1))
   .nil)
   (.cons (.ite (.e (.cmp .Eq (.slc (.var 0) (.var 1) (.bin .Add (.var 1) (.int 2))) (.str [58,58])))
    (.cons (.aug 1 .Add (.int 2))
    (.cons (.whl (.e (.cmp .Eq (.slc (.var 0) (.var 1) (.bin .Add (.var 1) (.int 1))) (.str [58])))
     (.cons (.aug 1 .Add (.int 1))
     .nil))
    .nil))
    (.cons (.ret (.var 1))
    .nil))
   .nil))
  .nil))
 (.cons (.ret (.var 1))
 .nil))}
noncomputable def UJ:eA:={np:=2,nm:=[[116,101,120,116],[97,116],[98,101,103,105,110],[98,101,104,105,110,100],[99,108,111,115,101],[105,110,100,101,120]],dflt:=[],body:=
 (.cons (.assign 2 (.bin .Add (.var 1) (.int 1)))
 (.cons (.ite (.e (.cmp .Eq (.slc (.var 0) (.var 2) (.bin .Add (.var 2) (.int 1))) (.str [123])))
  (.cons (.assign 4 (.meth (.var 0) [102,105,110,100] (.cons (.str [125]) (.cons (.var 2) .nil))))
  (.cons (.ite (.e (.cmp .Lt (.var 4) (.int 0)))
   (.cons (.raise (.call (.glob (.ref 139)) (.cons (.str [109,105,115,115,105,110,103,32,99,108,111,115,101,45,98,114,97,99,101,32,102,111,114,32,118,97,114,105,97,98,108,101,32,110,97,109,101]) .nil)))
   .nil)
   .nil)
  (.cons (.ret (.tup (.cons (.tup (.cons (.str [118,97,114]) (.cons (.slc (.var 0) (.bin .Add (.var 2) (.int 1)) (.var 4)) (.cons .none .nil)))) (.cons (.bin .Add (.var 4) (.int 1)) .nil))))
  .nil)))
  .nil)
 (.cons (.assign 3 (.call (.glob (.ref 244)) (.cons (.var 0) (.cons (.var 2) .nil))))
 (.cons (.ite (.e (.cmp .Eq (.slc (.var 0) (.var 3) (.bin .Add (.var 3) (.int 1))) (.str [40])))
  (.cons (.unpk [5,4] (.call (.glob (.ref 272)) (.cons (.var 0) (.cons (.bin .Add (.var 3) (.int 1)) (.cons (.tup (.cons (.str [41]) .nil)) .nil)))))
  (.cons (.ite (.e (.cmp .GtE (.var 4) (.call (.glob (.builtin "len")) (.cons (.var 0) .nil))))
   (.cons (.raise (.call (.glob (.ref 139)) (.cons (.str [109,105,115,115,105,110,103,32,41]) .nil)))
   .nil)
   .nil)
  (.cons (.ret (.tup (.cons (.tup (.cons (.str [118,97,114]) (.cons (.slc (.var 0) (.var 2) (.var 3)) (.cons (.var 5) .nil)))) (.cons (.bin .Add (.var 4) (.int 1)) .nil))))
  .nil)))
  .nil)
 (.cons (.ite (.e (.cmp .Eq (.var 3) (.var 2)))
  (.cons (.ret (.tup (.cons (.tup (.cons (.str [116,101,120,116]) (.cons (.str [36]) .nil))) (.cons (.var 2) .nil))))
  .nil)
  .nil)
 (.cons (.ret (.tup (.cons (.tup (.cons (.str [118,97,114]) (.cons (.slc (.var 0) (.var 2) (.var 3)) (.cons .none .nil)))) (.cons (.var 3) .nil))))
 .nil))))))}
noncomputable def MJ:eA:={np:=2,nm:=[[116,101,120,116],[97,116],[98,101,103,105,110],[112,108,97,99,101],[99,111,109,109,97,110,100]],dflt:=[],body:=
 (.cons (.assign 2 (.bin .Add (.var 1) (.int 1)))
 (.cons (.assign 3 (.call (.glob (.ref 237)) (.cons (.var 0) (.cons (.var 2) .nil))))
 (.cons (.whl (.and (.cons (.e (.cmp .Lt (.var 3) (.call (.glob (.builtin "len")) (.cons (.var 0) .nil)))) (.cons (.e (.cmp .NotEq (.idx (.var 0) (.var 3)) (.str [93]))) .nil)))
  (.cons (.assign 4 (.call (.glob (.ref 301)) (.cons (.var 0) (.cons (.var 3) (.cons (.bool true) .nil)))))
  (.cons (.assign 3 (.call (.glob (.ref 237)) (.cons (.var 0) (.cons (.idx (.var 4) (.int 3)) .nil))))
  .nil)))
 (.cons (.ite (.e (.cmp .GtE (.var 3) (.call (.glob (.builtin "len")) (.cons (.var 0) .nil))))
  (.cons (.raise (.call (.glob (.ref 139)) (.cons (.str [109,105,115,115,105,110,103,32,99,108,111,115,101,45,98,114,97,99,107,101,116]) .nil)))
  .nil)
  .nil)
 (.cons (.ret (.tup (.cons (.slc (.var 0) (.var 2) (.var 3)) (.cons (.bin .Add (.var 3) (.int 1)) .nil))))
 .nil)))))}
noncomputable def gM:eA:={np:=2,nm:=[[116,101,120,116],[97,116],[115,105,122,101],[98,101,103,105,110],[112,108,97,99,101],[109,97,100,101],[100,101,112,116,104],[98,108,97,110,107],[98,101,104,105,110,100]],dflt:=[],body:=
 (.cons (.assign 2 (.call (.glob (.builtin "len")) (.cons (.var 0) .nil)))
 (.cons (.assign 3 (.bin .Add (.var 1) (.int 1)))
 (.cons (.assign 4 (.var 3))
 (.cons (.assign 5 (.str []))
 (.cons (.assign 6 (.int 1))
 (.cons (.whl (.e (.cmp .Lt (.var 4) (.var 2)))
  (.cons (.ite (.e (.cmp .Eq (.idx (.var 0) (.var 4)) (.str [123])))
   (.cons (.aug 6 .Add (.int 1))
   (.cons (.aug 4 .Add (.int 1))
   .nil))
   (.cons (.ite (.e (.cmp .Eq (.idx (.var 0) (.var 4)) (.str [125])))
    (.cons (.aug 6 .Sub (.int 1))
    (.cons (.aug 4 .Add (.int 1))
    (.cons (.ite (.e (.cmp .Eq (.var 6) (.int 0)))
     (.cons (.ret (.tup (.cons (.bin .Add (.var 5) (.slc (.var 0) (.var 3) (.bin .Sub (.var 4) (.int 1)))) (.cons (.var 4) .nil))))
     .nil)
     .nil)
    .nil)))
    (.cons (.ite (.e (.cmp .Eq (.slc (.var 0) (.var 4) (.bin .Add (.var 4) (.int 2))) (.str [92,10])))
     (.cons (.unpk [7,8] (.call (.glob (.ref 209)) (.cons (.var 0) (.cons (.var 4) .nil))))
     (.cons (.aug 5 .Add (.bin .Add (.slc (.var 0) (.var 3) (.var 4)) (.var 7)))
     (.cons (.assign 4 (.var 8))
     (.cons (.assign 3 (.var 8))
     .nil))))
     (.cons (.ite (.e (.cmp .Eq (.idx (.var 0) (.var 4)) (.str [92])))
      (.cons (.aug 4 .Add (.int 2))
      .nil)
      (.cons (.whl (.and (.cons (.e (.cmp .Lt (.var 4) (.var 2))) (.cons (.e (.cmp .NotIn (.idx (.var 0) (.var 4)) (.str [123,125,92]))) .nil)))
       (.cons (.aug 4 .Add (.int 1))
       .nil))
      .nil))
     .nil))
    .nil))
   .nil))
  .nil))
 (.cons (.raise (.call (.glob (.ref 139)) (.cons (.str [109,105,115,115,105,110,103,32,99,108,111,115,101,45,98,114,97,99,101]) .nil)))
 .nil)))))))}
noncomputable def VG:eA:={np:=3,nm:=[[116,101,120,116],[97,116],[115,116,111,112,115],[112,97,114,116,115],[114,117,110],[115,105,122,101],[112,97,114,116],[115,99,114,105,112,116],[98,101,103,105,110],[112,105,101,99,101]],dflt:=[],body:=
 (.cons (.assign 3 (.lst .nil))
 (.cons (.assign 4 (.str []))
 (.cons (.assign 5 (.call (.glob (.builtin "len")) (.cons (.var 0) .nil)))
 (.cons (.whl (.and (.cons (.e (.cmp .Lt (.var 1) (.var 5))) (.cons (.e (.cmp .NotIn (.idx (.var 0) (.var 1)) (.var 2))) .nil)))
  (.cons (.ite (.e (.cmp .Eq (.idx (.var 0) (.var 1)) (.str [36])))
   (.cons (.unpk [6,1] (.call (.glob (.ref 251)) (.cons (.var 0) (.cons (.var 1) .nil))))
   .nil)
   (.cons (.ite (.e (.cmp .Eq (.idx (.var 0) (.var 1)) (.str [91])))
    (.cons (.unpk [7,1] (.call (.glob (.ref 258)) (.cons (.var 0) (.cons (.var 1) .nil))))
    (.cons (.assign 6 (.tup (.cons (.str [99,109,100]) (.cons (.var 7) .nil))))
    .nil))
    (.cons (.ite (.e (.cmp .Eq (.idx (.var 0) (.var 1)) (.str [92])))
     (.cons (.ite (.and (.cons (.e (.cmp .In (.str [32]) (.var 2))) (.cons (.e (.cmp .Eq (.slc (.var 0) (.bin .Add (.var 1) (.int 1)) (.bin .Add (.var 1) (.int 2))) (.str [10]))) .nil)))
      (.cons .brk
      .nil)
      .nil)
     (.cons (.unpk [9,1] (.call (.glob (.ref 209)) (.cons (.var 0) (.cons (.var 1) .nil))))
     (.cons (.assign 6 (.tup (.cons (.str [116,101,120,116]) (.cons (.var 9) .nil))))
     .nil)))
     (.cons (.assign 8 (.var 1))
     (.cons (.whl (.and (.cons (.e (.cmp .Lt (.var 1) (.var 5))) (.cons (.e (.cmp .NotIn (.idx (.var 0) (.var 1)) (.str [36,91,92]))) (.cons (.e (.cmp .NotIn (.idx (.var 0) (.var 1)) (.var 2))) .nil))))
      (.cons (.aug 1 .Add (.int 1))
      .nil))
     (.cons (.assign 6 (.tup (.cons (.str [116,101,120,116]) (.cons (.slc (.var 0) (.var 8) (.var 1)) .nil))))
     .nil))))
    .nil))
   .nil))
  (.cons (.ite (.e (.cmp .Eq (.idx (.var 6) (.int 0)) (.str [116,101,120,116])))
   (.cons (.aug 4 .Add (.idx (.var 6) (.int 1)))
   .nil)
   (.cons (.ite (.e (.cmp .NotEq (.var 4) (.str [])))
    (.cons (.expr (.meth (.var 3) [97,112,112,101,110,100] (.cons (.tup (.cons (.str [116,101,120,116]) (.cons (.var 4) .nil))) .nil)))
    (.cons (.assign 4 (.str []))
    .nil))
    .nil)
   (.cons (.expr (.meth (.var 3) [97,112,112,101,110,100] (.cons (.var 6) .nil)))
   .nil)))
  .nil)))
 (.cons (.ite (.e (.cmp .NotEq (.var 4) (.str [])))
  (.cons (.expr (.meth (.var 3) [97,112,112,101,110,100] (.cons (.tup (.cons (.str [116,101,120,116]) (.cons (.var 4) .nil))) .nil)))
  .nil)
  .nil)
 (.cons (.ret (.tup (.cons (.call (.glob (.type "tuple")) (.cons (.var 3) .nil)) (.cons (.var 1) .nil))))
 .nil))))))}
noncomputable def HH:eA:={np:=1,nm:=[[105,115,95,110,101,115,116,101,100]],dflt:=[],body:=
 (.cons (.ite (.e (.var 0))
  (.cons (.ret (.tup (.cons (.str [32]) (.cons (.str [9]) (.cons (.str [11]) (.cons (.str [12]) (.cons (.str [13]) (.cons (.str [10]) (.cons (.str [59]) (.cons (.str [93]) .nil))))))))))
  .nil)
  .nil)
 (.cons (.ret (.tup (.cons (.str [32]) (.cons (.str [9]) (.cons (.str [11]) (.cons (.str [12]) (.cons (.str [13]) (.cons (.str [10]) (.cons (.str [59]) .nil)))))))))
 .nil))}
noncomputable def SG:eA:={np:=2,nm:=[[116,101,120,116],[97,116],[98,101,104,105,110,100]],dflt:=[],body:=
 (.cons (.ite (.e (.cmp .NotEq (.slc (.var 0) (.var 1) (.bin .Add (.var 1) (.int 3))) (.str [123,42,125])))
  (.cons (.ret (.bool false))
  .nil)
  .nil)
 (.cons (.assign 2 (.bin .Add (.var 1) (.int 3)))
 (.cons (.ite (.e (.cmp .In (.slc (.var 0) (.var 2) (.bin .Add (.var 2) (.int 1))) (.tup (.cons (.str []) (.cons (.str [10]) (.cons (.str [59]) .nil))))))
  (.cons (.ret (.bool false))
  .nil)
  .nil)
 (.cons (.ret (.cmp .Eq (.call (.glob (.ref 223)) (.cons (.var 0) (.cons (.var 2) .nil))) (.var 2)))
 .nil))))}
noncomputable def KK:eA:={np:=3,nm:=[[116,101,120,116],[97,116],[105,115,95,110,101,115,116,101,100],[105,115,95,101,120,112,97,110,100],[115,105,103,110],[112,97,114,116,115],[98,101,104,105,110,100],[105,110,110,101,114],[99,108,111,115,101]],dflt:=[],body:=
 (.cons (.assign 3 (.call (.glob (.ref 286)) (.cons (.var 0) (.cons (.var 1) .nil))))
 (.cons (.ite (.e (.var 3))
  (.cons (.aug 1 .Add (.int 3))
  .nil)
  .nil)
 (.cons (.assign 4 (.slc (.var 0) (.var 1) (.bin .Add (.var 1) (.int 1))))
 (.cons (.ite (.e (.cmp .Eq (.var 4) (.str [123])))
  (.cons (.unpk [7,6] (.call (.glob (.ref 265)) (.cons (.var 0) (.cons (.var 1) .nil))))
  (.cons (.ite (.e (.cmp .Eq (.var 7) (.str [])))
   (.cons (.ret (.tup (.cons (.tup (.cons (.var 3) (.cons (.tup .nil) .nil))) (.cons (.var 6) .nil))))
   .nil)
   .nil)
  (.cons (.ret (.tup (.cons (.tup (.cons (.var 3) (.cons (.tup (.cons (.tup (.cons (.str [116,101,120,116]) (.cons (.var 7) .nil))) .nil)) .nil))) (.cons (.var 6) .nil))))
  .nil)))
  .nil)
 (.cons (.ite (.e (.cmp .Eq (.var 4) (.str [34])))
  (.cons (.unpk [5,8] (.call (.glob (.ref 272)) (.cons (.var 0) (.cons (.bin .Add (.var 1) (.int 1)) (.cons (.tup (.cons (.str [34]) .nil)) .nil)))))
  (.cons (.ite (.e (.cmp .GtE (.var 8) (.call (.glob (.builtin "len")) (.cons (.var 0) .nil))))
   (.cons (.raise (.call (.glob (.ref 139)) (.cons (.str [109,105,115,115,105,110,103,32,34]) .nil)))
   .nil)
   .nil)
  (.cons (.ret (.tup (.cons (.tup (.cons (.var 3) (.cons (.var 5) .nil))) (.cons (.bin .Add (.var 8) (.int 1)) .nil))))
  .nil)))
  .nil)
 (.cons (.unpk [5,6] (.call (.glob (.ref 272)) (.cons (.var 0) (.cons (.var 1) (.cons (.call (.glob (.ref 279)) (.cons (.var 2) .nil)) .nil)))))
 (.cons (.ret (.tup (.cons (.tup (.cons (.var 3) (.cons (.var 5) .nil))) (.cons (.var 6) .nil))))
 .nil)))))))}
noncomputable def pC:eA:={np:=3,nm:=[[116,101,120,116],[97,116],[105,115,95,110,101,115,116,101,100],[98,101,103,105,110],[115,105,122,101],[119,111,114,100,115],[112,108,97,99,101],[102,111,117,110,100],[101,110,100]],dflt:=[.bool false],body:=
 (.cons (.assign 3 (.call (.glob (.ref 237)) (.cons (.var 0) (.cons (.var 1) .nil))))
 (.cons (.assign 4 (.call (.glob (.builtin "len")) (.cons (.var 0) .nil)))
 (.cons (.ite (.or (.cons (.e (.cmp .GtE (.var 3) (.var 4))) (.cons (.and (.cons (.e (.var 2)) (.cons (.e (.cmp .Eq (.idx (.var 0) (.var 3)) (.str [93]))) .nil))) .nil)))
  (.cons (.ret .none)
  .nil)
  .nil)
 (.cons (.assign 5 (.lst .nil))
 (.cons (.assign 6 (.var 3))
 (.cons (.whl (.e (.bool true))
  (.cons (.unpk [7,8] (.call (.glob (.ref 293)) (.cons (.var 0) (.cons (.var 6) (.cons (.var 2) .nil)))))
  (.cons (.expr (.meth (.var 5) [97,112,112,101,110,100] (.cons (.var 7) .nil)))
  (.cons (.assign 6 (.call (.glob (.ref 223)) (.cons (.var 0) (.cons (.var 8) .nil))))
  (.cons (.ite (.e (.cmp .GtE (.var 6) (.var 4)))
   (.cons (.ret (.tup (.cons (.call (.glob (.type "tuple")) (.cons (.var 5) .nil)) (.cons (.var 3) (.cons (.var 8) (.cons (.var 4) .nil))))))
   .nil)
   .nil)
  (.cons (.ite (.e (.cmp .In (.idx (.var 0) (.var 6)) (.tup (.cons (.str [10]) (.cons (.str [59]) .nil)))))
   (.cons (.ret (.tup (.cons (.call (.glob (.type "tuple")) (.cons (.var 5) .nil)) (.cons (.var 3) (.cons (.var 8) (.cons (.bin .Add (.var 6) (.int 1)) .nil))))))
   .nil)
   .nil)
  (.cons (.ite (.and (.cons (.e (.var 2)) (.cons (.e (.cmp .Eq (.idx (.var 0) (.var 6)) (.str [93]))) .nil)))
   (.cons (.ret (.tup (.cons (.call (.glob (.type "tuple")) (.cons (.var 5) .nil)) (.cons (.var 3) (.cons (.var 8) (.cons (.var 6) .nil))))))
   .nil)
   .nil)
  (.cons (.ite (.e (.cmp .Eq (.var 6) (.var 8)))
   (.cons (.ite (.e (.cmp .Eq (.idx (.var 0) (.bin .Sub (.var 8) (.int 1))) (.str [34])))
    (.cons (.raise (.call (.glob (.ref 139)) (.cons (.str [101,120,116,114,97,32,99,104,97,114,97,99,116,101,114,115,32,97,102,116,101,114,32,99,108,111,115,101,45,113,117,111,116,101]) .nil)))
    .nil)
    .nil)
   (.cons (.raise (.call (.glob (.ref 139)) (.cons (.str [101,120,116,114,97,32,99,104,97,114,97,99,116,101,114,115,32,97,102,116,101,114,32,99,108,111,115,101,45,98,114,97,99,101]) .nil)))
   .nil))
   .nil)
  .nil))))))))
 .nil))))))}
noncomputable def LJ:eA:={np:=1,nm:=[[115,101,108,102]],dflt:=[],body:=
 (.cons (.setAttr (.var 0) [107,105,110,100] (.str [110,111,110,101]))
 (.cons (.setAttr (.var 0) [118,97,108,117,101] (.str []))
 (.cons (.setAttr (.var 0) [116,114,97,99,101,115] (.lst .nil))
 (.cons (.setAttr (.var 0) [105,115,95,98,117,115,121] (.bool false))
 (.cons (.setAttr (.var 0) [105,115,95,101,108,101,109,101,110,116] (.bool false))
 (.cons (.setAttr (.var 0) [119,114,105,116,101,115] (.int 0))
 .nil))))))}
noncomputable def yK:eA:={np:=2,nm:=[[104,111,115,116],[112,97,114,116,115],[109,97,100,101],[112,97,114,116],[105,110,100,101,120]],dflt:=[],body:=
 (.cons (.assign 2 (.lst .nil))
 (.cons (.for1 3 (.var 1)
  (.cons (.ite (.e (.cmp .Eq (.idx (.var 3) (.int 0)) (.str [116,101,120,116])))
   (.cons (.expr (.meth (.var 2) [97,112,112,101,110,100] (.cons (.idx (.var 3) (.int 1)) .nil)))
   .nil)
   (.cons (.ite (.e (.cmp .Eq (.idx (.var 3) (.int 0)) (.str [99,109,100])))
    (.cons (.expr (.meth (.var 2) [97,112,112,101,110,100] (.cons (.meth (.var 0) [114,117,110] (.cons (.idx (.var 3) (.int 1)) .nil)) .nil)))
    .nil)
    (.cons (.ite (.e (.cmp .Is (.idx (.var 3) (.int 2)) .none))
     (.cons (.expr (.meth (.var 2) [97,112,112,101,110,100] (.cons (.meth (.var 0) [114,101,97,100] (.cons (.idx (.var 3) (.int 1)) .nil)) .nil)))
     .nil)
     (.cons (.assign 4 (.call (.glob (.ref 371)) (.cons (.var 0) (.cons (.idx (.var 3) (.int 2)) .nil))))
     (.cons (.expr (.meth (.var 2) [97,112,112,101,110,100] (.cons (.meth (.var 0) [114,101,97,100] (.cons (.bin .Add (.bin .Add (.bin .Add (.idx (.var 3) (.int 1)) (.str [40])) (.var 4)) (.str [41])) .nil)) .nil)))
     .nil)))
    .nil))
   .nil))
  .nil))
 (.cons (.ret (.meth (.str []) [106,111,105,110] (.cons (.var 2) .nil)))
 .nil)))}
noncomputable def VJ:eA:={np:=2,nm:=[[104,111,115,116],[119,111,114,100,115],[109,97,100,101],[119,111,114,100],[116,101,120,116]],dflt:=[],body:=
 (.cons (.assign 2 (.lst .nil))
 (.cons (.for1 3 (.var 1)
  (.cons (.assign 4 (.call (.glob (.ref 371)) (.cons (.var 0) (.cons (.idx (.var 3) (.int 1)) .nil))))
  (.cons (.ite (.e (.idx (.var 3) (.int 0)))
   (.cons (.expr (.meth (.var 2) [101,120,116,101,110,100] (.cons (.call (.glob (.ref 343)) (.cons (.var 4) .nil)) .nil)))
   .nil)
   (.cons (.expr (.meth (.var 2) [97,112,112,101,110,100] (.cons (.var 4) .nil)))
   .nil))
  .nil)))
 (.cons (.ret (.var 2))
 .nil)))}
noncomputable def pO:eA:={np:=4,nm:=[[114,97,105,115,101,100],[116,101,120,116],[98,101,103,105,110],[101,110,100]],dflt:=[],body:=
 (.cons (.ite (.e (.cmp .NotEq (.attr (.var 0) [99,111,100,101]) (.int 1)))
  (.cons .ret0
  .nil)
  .nil)
 (.cons (.assign 2 (.call (.glob (.ref 237)) (.cons (.var 1) (.cons (.var 2) .nil))))
 (.cons (.ite (.e (.cmp .Eq (.attr (.var 0) [108,105,110,101]) (.int 0)))
  (.cons (.setAttr (.var 0) [108,105,110,101] (.call (.glob (.builtin "len")) (.cons (.meth (.slc (.var 1) .none (.var 2)) [115,112,108,105,116] (.cons (.str [10]) .nil)) .nil)))
  .nil)
  .nil)
 (.cons (.expr (.call (.glob (.ref 153)) (.cons (.var 0) (.cons (.slc (.var 1) (.var 2) (.var 3)) .nil))))
 .nil))))}
noncomputable def oA:eA:={np:=2,nm:=[[104,111,115,116],[116,101,120,116],[114,101,115,117,108,116],[98,101,103,105,110],[101,110,100],[114,97,105,115,101,100],[99,111,109,109,97,110,100],[119,111,114,100,115],[98,101,104,105,110,100]],dflt:=[],body:=
 (.cons (.assign 2 (.str []))
 (.cons (.assign 3 (.int 0))
 (.cons (.assign 4 (.call (.glob (.builtin "len")) (.cons (.var 1) .nil)))
 (.cons (.tryE (.cons (.assign 6 (.call (.glob (.ref 301)) (.cons (.var 1) (.cons (.int 0) .nil))))
  (.cons (.whl (.e (.cmp .IsNot (.var 6) .none))
   (.cons (.unpk [7,3,4,8] (.var 6))
   (.cons (.assign 2 (.meth (.var 0) [99,97,108,108] (.cons (.call (.glob (.ref 378)) (.cons (.var 0) (.cons (.var 7) .nil))) .nil)))
   (.cons (.assign 3 (.var 8))
   (.cons (.assign 4 (.call (.glob (.builtin "len")) (.cons (.var 1) .nil)))
   (.cons (.assign 6 (.call (.glob (.ref 301)) (.cons (.var 1) (.cons (.var 8) .nil))))
   .nil))))))
  .nil))
  84 5
  (.cons (.expr (.call (.glob (.ref 385)) (.cons (.var 5) (.cons (.var 1) (.cons (.var 3) (.cons (.var 4) .nil))))))
  (.cons (.raise (.var 5))
  .nil)))
 (.cons (.ret (.var 2))
 .nil)))))}
noncomputable def WG:eA:={np:=1,nm:=[[104,111,115,116]],dflt:=[],body:=
 (.cons (.setIdx (.attr (.var 0) [116,111,111,108,115]) (.str [114,117,110]) (.glob (.ref 392)))
 .nil)}
noncomputable def HI:eA:={np:=3,nm:=[[115,101,108,102],[108,105,109,105,116],[102,117,101,108]],dflt:=[.int 40, .none],body:=
 (.cons (.setAttr (.var 0) [116,111,111,108,115] (.dct [] .nil))
 (.cons (.setAttr (.var 0) [105,110,108,105,110,101] (.dct [] .nil))
 (.cons (.setAttr (.var 0) [108,105,109,105,116] (.var 1))
 (.cons (.setAttr (.var 0) [102,117,101,108] (.var 2))
 (.cons (.setAttr (.var 0) [100,101,112,116,104] (.int 0))
 (.cons (.setAttr (.var 0) [115,112,101,110,116] (.int 0))
 (.cons (.setAttr (.var 0) [101,112,111,99,104] (.int 0))
 (.cons (.setAttr (.var 0) [102,114,97,109,101] .none)
 (.cons (.setAttr (.var 0) [99,111,114,111,117,116,105,110,101] .none)
 .nil)))))))))}
noncomputable def II:eA:={np:=2,nm:=[[115,101,108,102],[110,97,109,101]],dflt:=[],body:=
 (.cons (.ite (.e (.cmp .NotIn (.var 1) (.attr (.var 0) [116,111,111,108,115])))
  (.cons (.raise (.call (.glob (.ref 51)) (.cons (.bin .Add (.str [116,104,101,32,104,111,115,116,32,108,97,99,107,115,32,116,104,101,32,116,111,111,108,32]) (.var 1)) .nil)))
  .nil)
  .nil)
 (.cons (.ret (.idx (.attr (.var 0) [116,111,111,108,115]) (.var 1)))
 .nil))}
noncomputable def GH:eA:={np:=1,nm:=[[115,101,108,102]],dflt:=[],body:=
 (.cons (.augAttr (.var 0) [115,112,101,110,116] .Add (.int 1))
 (.cons (.ite (.and (.cons (.e (.cmp .IsNot (.attr (.var 0) [102,117,101,108]) .none)) (.cons (.e (.cmp .Gt (.attr (.var 0) [115,112,101,110,116]) (.attr (.var 0) [102,117,101,108]))) .nil)))
  (.cons (.raise (.call (.glob (.ref 63)) (.cons (.str [116,104,101,32,115,99,114,105,112,116,32,115,112,101,110,116,32,97,108,108,32,105,116,115,32,102,117,101,108]) .nil)))
  .nil)
  .nil)
 .nil))}
noncomputable def KJ:eA:={np:=2,nm:=[[115,101,108,102],[115,99,114,105,112,116],[114,117,110,110,101,114]],dflt:=[],body:=
 (.cons (.ite (.e (.cmp .GtE (.attr (.var 0) [100,101,112,116,104]) (.attr (.var 0) [108,105,109,105,116])))
  (.cons (.raise (.call (.glob (.ref 139)) (.cons (.str [116,111,111,32,109,97,110,121,32,110,101,115,116,101,100,32,101,118,97,108,117,97,116,105,111,110,115,32,40,105,110,102,105,110,105,116,101,32,108,111,111,112,63,41]) (.cons (.tup (.cons (.str [84,67,76]) (.cons (.str [76,73,77,73,84]) (.cons (.str [83,84,65,67,75]) .nil)))) .nil))))
  .nil)
  .nil)
 (.cons (.assign 2 (.meth (.var 0) [116,111,111,108] (.cons (.str [114,117,110]) .nil)))
 (.cons (.augAttr (.var 0) [100,101,112,116,104] .Add (.int 1))
 (.cons (.tryF (.cons (.ret (.call (.var 2) (.cons (.var 0) (.cons (.var 1) .nil))))
  .nil)
  (.cons (.augAttr (.var 0) [100,101,112,116,104] .Sub (.int 1))
  .nil))
 .nil))))}
noncomputable def GI:eA:={np:=2,nm:=[[115,101,108,102],[119,111,114,100,115],[103,111,116]],dflt:=[],body:=
 (.cons (.ite (.not (.e (.var 1)))
  (.cons (.ret (.str []))
  .nil)
  .nil)
 (.cons (.assign 2 (.meth (.var 0) [98,101,103,105,110] (.cons (.var 1) .nil)))
 (.cons (.ite (.e (.call (.glob (.builtin "isinstance")) (.cons (.var 2) (.cons (.glob (.ref 105)) .nil))))
  (.cons (.ret (.meth (.var 0) [102,105,110,105,115,104] (.cons (.var 2) .nil)))
  .nil)
  .nil)
 (.cons (.ite (.e (.call (.glob (.builtin "isinstance")) (.cons (.var 2) (.cons (.glob (.ref 126)) .nil))))
  (.cons (.raise (.call (.glob (.ref 139)) (.cons (.str [99,97,110,110,111,116,32,121,105,101,108,100,58,32,67,32,115,116,97,99,107,32,98,117,115,121]) (.cons (.tup (.cons (.str [84,67,76]) (.cons (.str [67,79,82,79,85,84,73,78,69]) (.cons (.str [67,65,78,84,95,89,73,69,76,68]) .nil)))) .nil))))
  .nil)
  .nil)
 (.cons (.ret (.var 2))
 .nil)))))}
noncomputable def UG:eA:={np:=2,nm:=[[118,101,114,98],[110,97,109,101],[119,104,121]],dflt:=[],body:=
 (.cons (.assign 2 (.bin .Add (.bin .Add (.bin .Add (.bin .Add (.str [99,97,110,39,116,32]) (.var 0)) (.str [32,34])) (.var 1)) (.str [34,58,32,110,111,32,115,117,99,104,32,118,97,114,105,97,98,108,101])))
 (.cons (.ret (.call (.glob (.ref 139)) (.cons (.var 2) (.cons (.tup (.cons (.str [84,67,76]) (.cons (.str [76,79,79,75,85,80]) (.cons (.str [86,65,82,78,65,77,69]) (.cons (.var 1) .nil))))) .nil))))
 .nil))}
noncomputable def iM:eA:={np:=2,nm:=[[98,111,111,107],[110,97,109,101]],dflt:=[],body:=
 (.cons (.ite (.e (.cmp .NotIn (.var 1) (.var 0)))
  (.cons (.setIdx (.var 0) (.var 1) (.call (.glob (.ref 360)) .nil))
  .nil)
  .nil)
 (.cons (.ret (.idx (.var 0) (.var 1)))
 .nil))}
noncomputable def OI:eA:={np:=3,nm:=[[118,97,114],[107,105,110,100],[118,97,108,117,101]],dflt:=[],body:=
 (.cons (.setAttr (.var 0) [107,105,110,100] (.var 1))
 (.cons (.setAttr (.var 0) [118,97,108,117,101] (.var 2))
 (.cons (.augAttr (.var 0) [119,114,105,116,101,115] .Add (.int 1))
 (.cons (.ret (.var 2))
 .nil))))}
noncomputable def xK:eA:={np:=1,nm:=[[101,110,116,114,121]],dflt:=[],body:=
 (.cons (.ite (.e (.call (.glob (.builtin "isinstance")) (.cons (.var 0) (.cons (.glob (.type "tuple")) .nil))))
  (.cons (.ret (.var 0))
  .nil)
  .nil)
 (.cons (.ret (.tup (.cons (.var 0) (.cons .none .nil))))
 .nil))}
noncomputable def LV:eA:={np:=4,nm:=[[104,111,115,116],[119,111,114,100,115],[97,99,116,105,111,110],[100,97,116,97]],dflt:=[],body:=
 (.cons (.ite (.e (.cmp .Is (.var 3) .none))
  (.cons (.ret (.call (.var 2) (.cons (.var 0) (.cons (.var 1) .nil))))
  .nil)
  .nil)
 (.cons (.ret (.call (.var 2) (.cons (.var 0) (.cons (.var 1) (.cons (.var 3) .nil)))))
 .nil))}
noncomputable def oE:eA:={np:=3,nm:=[[115,101,108,102],[108,105,109,105,116],[102,117,101,108]],dflt:=[.int 40, .none],body:=
 (.cons (.expr (.meth (.glob (.ref 480)) [95,95,105,110,105,116,95,95] (.cons (.var 0) (.cons (.var 1) (.cons (.var 2) .nil)))))
 (.cons (.setAttr (.var 0) [118,97,114,115] (.dct [] .nil))
 (.cons (.setAttr (.var 0) [99,111,109,109,97,110,100,115] (.dct [] .nil))
 (.cons (.setAttr (.var 0) [102,105,114,115,116,115] (.dct [] .nil))
 .nil))))}
noncomputable def YE:eA:={np:=2,nm:=[[115,101,108,102],[110,97,109,101]],dflt:=[],body:=
 (.cons (.ret (.call (.glob (.ref 498)) (.cons (.attr (.var 0) [118,97,114,115]) (.cons (.var 1) .nil))))
 .nil)}
noncomputable def VD:eA:={np:=3,nm:=[[115,101,108,102],[118,97,114],[110,97,109,101]],dflt:=[],body:=
 (.cons (.ite (.e (.cmp .Eq (.attr (.var 1) [107,105,110,100]) (.str [110,111,110,101])))
  (.cons (.raise (.call (.glob (.ref 491)) (.cons (.str [114,101,97,100]) (.cons (.var 2) .nil))))
  .nil)
  .nil)
 (.cons (.ret (.attr (.var 1) [118,97,108,117,101]))
 .nil))}
noncomputable def JD:eA:={np:=4,nm:=[[115,101,108,102],[118,97,114],[110,97,109,101],[118,97,108,117,101]],dflt:=[],body:=
 (.cons (.ret (.call (.glob (.ref 505)) (.cons (.var 1) (.cons (.str [115,99,97,108,97,114]) (.cons (.var 3) .nil)))))
 .nil)}
noncomputable def pE:eA:={np:=2,nm:=[[115,101,108,102],[110,97,109,101]],dflt:=[],body:=
 (.cons (.ret (.meth (.var 0) [114,101,97,100,95,118,97,114] (.cons (.meth (.var 0) [112,108,97,99,101] (.cons (.var 1) .nil)) (.cons (.var 1) .nil))))
 .nil)}
noncomputable def ZE:eA:={np:=3,nm:=[[115,101,108,102],[110,97,109,101],[118,97,108,117,101]],dflt:=[],body:=
 (.cons (.ret (.meth (.var 0) [119,114,105,116,101,95,118,97,114] (.cons (.meth (.var 0) [112,108,97,99,101] (.cons (.var 1) .nil)) (.cons (.var 1) (.cons (.var 2) .nil)))))
 .nil)}
noncomputable def QF:eA:={np:=4,nm:=[[115,101,108,102],[110,97,109,101],[97,99,116,105,111,110],[100,97,116,97]],dflt:=[.none],body:=
 (.cons (.expr (.meth (.var 0) [114,101,109,111,118,101] (.cons (.var 1) .nil)))
 (.cons (.setIdx (.attr (.var 0) [99,111,109,109,97,110,100,115]) (.var 1) (.tup (.cons (.var 2) (.cons (.var 3) .nil))))
 .nil))}
noncomputable def xD:eA:={np:=2,nm:=[[115,101,108,102],[110,97,109,101]],dflt:=[],body:=
 (.cons (.expr (.meth (.attr (.var 0) [99,111,109,109,97,110,100,115]) [112,111,112] (.cons (.var 1) (.cons .none .nil))))
 (.cons (.expr (.meth (.attr (.var 0) [102,105,114,115,116,115]) [112,111,112] (.cons (.var 1) (.cons .none .nil))))
 (.cons (.ite (.e (.cmp .In (.var 1) (.attr (.var 0) [105,110,108,105,110,101])))
  (.cons (.augAttr (.var 0) [101,112,111,99,104] .Add (.int 1))
  .nil)
  .nil)
 .nil)))}
noncomputable def PF:eA:={np:=2,nm:=[[115,101,108,102],[103,114,111,117,112],[110,97,109,101],[97,99,116,105,111,110],[100,97,116,97]],dflt:=[],body:=
 (.cons (.for1 2 (.var 1)
  (.cons (.unpk [3,4] (.call (.glob (.ref 519)) (.cons (.idx (.var 1) (.var 2)) .nil)))
  (.cons (.expr (.meth (.var 0) [112,117,116] (.cons (.var 2) (.cons (.var 3) (.cons (.var 4) .nil)))))
  (.cons (.setIdx (.attr (.var 0) [102,105,114,115,116,115]) (.var 2) (.bool true))
  .nil))))
 .nil)}
noncomputable def XE:eA:={np:=2,nm:=[[115,101,108,102],[119,111,114,100,115],[97,99,116,105,111,110],[100,97,116,97]],dflt:=[],body:=
 (.cons (.ite (.e (.cmp .NotIn (.idx (.var 1) (.int 0)) (.attr (.var 0) [99,111,109,109,97,110,100,115])))
  (.cons (.raise (.call (.glob (.ref 139)) (.cons (.bin .Add (.bin .Add (.str [105,110,118,97,108,105,100,32,99,111,109,109,97,110,100,32,110,97,109,101,32,34]) (.idx (.var 1) (.int 0))) (.str [34])) (.cons (.tup (.cons (.str [84,67,76]) (.cons (.str [76,79,79,75,85,80]) (.cons (.str [67,79,77,77,65,78,68]) (.cons (.idx (.var 1) (.int 0)) .nil))))) .nil))))
  .nil)
  .nil)
 (.cons (.expr (.meth (.var 0) [115,112,101,110,100] .nil))
 (.cons (.unpk [2,3] (.idx (.attr (.var 0) [99,111,109,109,97,110,100,115]) (.idx (.var 1) (.int 0))))
 (.cons (.ret (.call (.glob (.ref 526)) (.cons (.var 0) (.cons (.var 1) (.cons (.var 2) (.cons (.var 3) .nil))))))
 .nil))))}
noncomputable def LH:eA:={np:=2,nm:=[[116,101,120,116],[97,116],[112,108,97,99,101],[118,97,108,117,101],[115,116,101,112]],dflt:=[],body:=
 (.cons (.assign 2 (.var 1))
 (.cons (.assign 3 (.int 0))
 (.cons (.whl (.and (.cons (.e (.cmp .Lt (.var 2) (.bin .Add (.var 1) (.int 3)))) (.cons (.e (.cmp .Lt (.var 2) (.call (.glob (.builtin "len")) (.cons (.var 0) .nil)))) (.cons (.e (.cmp .Lt (.var 3) (.int 32))) .nil))))
  (.cons (.assign 4 (.call (.glob (.ref 188)) (.cons (.idx (.var 0) (.var 2)) .nil)))
  (.cons (.ite (.or (.cons (.e (.cmp .Lt (.var 4) (.int 0))) (.cons (.e (.cmp .Gt (.var 4) (.int 7))) .nil)))
   (.cons .brk
   .nil)
   .nil)
  (.cons (.assign 3 (.bin .Add (.bin .Mult (.var 3) (.int 8)) (.var 4)))
  (.cons (.aug 2 .Add (.int 1))
  .nil)))))
 (.cons (.ret (.tup (.cons (.call (.glob (.builtin "chr")) (.cons (.var 3) .nil)) (.cons (.var 2) .nil))))
 .nil))))}
noncomputable def yF:eA:={np:=3,nm:=[[116,101,120,116],[97,116],[119,104,97,116],[101,110,100]],dflt:=[],body:=
 (.cons (.ite (.or (.cons (.e (.cmp .GtE (.var 1) (.call (.glob (.builtin "len")) (.cons (.var 0) .nil)))) (.cons (.e (.call (.glob (.ref 181)) (.cons (.idx (.var 0) (.var 1)) .nil))) .nil)))
  (.cons .ret0
  .nil)
  .nil)
 (.cons (.assign 3 (.var 1))
 (.cons (.whl (.and (.cons (.e (.cmp .Lt (.var 3) (.call (.glob (.builtin "len")) (.cons (.var 0) .nil)))) (.cons (.e (.cmp .Lt (.var 3) (.bin .Add (.var 1) (.int 20)))) (.cons (.not (.e (.call (.glob (.ref 181)) (.cons (.idx (.var 0) (.var 3)) .nil)))) .nil))))
  (.cons (.aug 3 .Add (.int 1))
  .nil))
 (.cons (.raise (.call (.glob (.ref 139)) (.cons (.bin .Add (.bin .Add (.bin .Add (.bin .Add (.str [108,105,115,116,32,101,108,101,109,101,110,116,32,105,110,32]) (.var 2)) (.str [32,102,111,108,108,111,119,101,100,32,98,121,32,34])) (.slc (.var 0) (.var 1) (.var 3))) (.str [34,32,105,110,115,116,101,97,100,32,111,102,32,115,112,97,99,101])) (.cons (.tup (.cons (.str [84,67,76]) (.cons (.str [86,65,76,85,69]) (.cons (.str [76,73,83,84]) (.cons (.str [74,85,78,75]) .nil))))) .nil))))
 .nil))))}
noncomputable def qE:eA:={np:=2,nm:=[[116,101,120,116],[102,105,114,115,116],[100,101,112,116,104],[97,116],[99]],dflt:=[],body:=
 (.cons (.swap [2,3] (.cons (.int 1) (.cons (.var 1) .nil)))
 (.cons (.whl (.e (.cmp .Lt (.var 3) (.call (.glob (.builtin "len")) (.cons (.var 0) .nil))))
  (.cons (.assign 4 (.idx (.var 0) (.var 3)))
  (.cons (.ite (.e (.cmp .Eq (.var 4) (.str [92])))
   (.cons (.aug 3 .Add (.int 1))
   .nil)
   (.cons (.ite (.e (.cmp .Eq (.var 4) (.str [123])))
    (.cons (.aug 2 .Add (.int 1))
    .nil)
    (.cons (.ite (.e (.cmp .Eq (.var 4) (.str [125])))
     (.cons (.aug 2 .Sub (.int 1))
     (.cons (.ite (.e (.cmp .Eq (.var 2) (.int 0)))
      (.cons (.expr (.call (.glob (.ref 308)) (.cons (.var 0) (.cons (.bin .Add (.var 3) (.int 1)) (.cons (.str [98,114,97,99,101,115]) .nil)))))
      (.cons (.ret (.tup (.cons (.slc (.var 0) (.var 1) (.var 3)) (.cons (.bin .Add (.var 3) (.int 1)) .nil))))
      .nil))
      .nil)
     .nil))
     .nil)
    .nil))
   .nil))
  (.cons (.aug 3 .Add (.int 1))
  .nil))))
 (.cons (.raise (.call (.glob (.ref 139)) (.cons (.str [117,110,109,97,116,99,104,101,100,32,111,112,101,110,32,98,114,97,99,101,32,105,110,32,108,105,115,116]) (.cons (.tup (.cons (.str [84,67,76]) (.cons (.str [86,65,76,85,69]) (.cons (.str [76,73,83,84]) (.cons (.str [66,82,65,67,69]) .nil))))) .nil))))
 .nil)))}
noncomputable def sE:eA:={np:=2,nm:=[[116,101,120,116],[97,116],[111,117,116],[99]],dflt:=[],body:=
 (.cons (.assign 2 (.lst .nil))
 (.cons (.whl (.e (.cmp .Lt (.var 1) (.call (.glob (.builtin "len")) (.cons (.var 0) .nil))))
  (.cons (.assign 3 (.idx (.var 0) (.var 1)))
  (.cons (.ite (.e (.cmp .Eq (.var 3) (.str [92])))
   (.cons (.unpk [3,1] (.call (.glob (.ref 209)) (.cons (.var 0) (.cons (.var 1) .nil))))
   .nil)
   (.cons (.ite (.e (.cmp .Eq (.var 3) (.str [34])))
    (.cons (.expr (.call (.glob (.ref 308)) (.cons (.var 0) (.cons (.bin .Add (.var 1) (.int 1)) (.cons (.str [113,117,111,116,101,115]) .nil)))))
    (.cons (.ret (.tup (.cons (.meth (.str []) [106,111,105,110] (.cons (.var 2) .nil)) (.cons (.bin .Add (.var 1) (.int 1)) .nil))))
    .nil))
    (.cons (.aug 1 .Add (.int 1))
    .nil))
   .nil))
  (.cons (.expr (.meth (.var 2) [97,112,112,101,110,100] (.cons (.var 3) .nil)))
  .nil))))
 (.cons (.raise (.call (.glob (.ref 139)) (.cons (.str [117,110,109,97,116,99,104,101,100,32,111,112,101,110,32,113,117,111,116,101,32,105,110,32,108,105,115,116]) (.cons (.tup (.cons (.str [84,67,76]) (.cons (.str [86,65,76,85,69]) (.cons (.str [76,73,83,84]) (.cons (.str [81,85,79,84,69]) .nil))))) .nil))))
 .nil)))}
noncomputable def xF:eA:={np:=2,nm:=[[116,101,120,116],[97,116],[111,117,116],[99]],dflt:=[],body:=
 (.cons (.assign 2 (.lst .nil))
 (.cons (.whl (.and (.cons (.e (.cmp .Lt (.var 1) (.call (.glob (.builtin "len")) (.cons (.var 0) .nil)))) (.cons (.not (.e (.call (.glob (.ref 181)) (.cons (.idx (.var 0) (.var 1)) .nil)))) .nil)))
  (.cons (.assign 3 (.idx (.var 0) (.var 1)))
  (.cons (.ite (.e (.cmp .Eq (.var 3) (.str [92])))
   (.cons (.unpk [3,1] (.call (.glob (.ref 209)) (.cons (.var 0) (.cons (.var 1) .nil))))
   .nil)
   (.cons (.aug 1 .Add (.int 1))
   .nil))
  (.cons (.expr (.meth (.var 2) [97,112,112,101,110,100] (.cons (.var 3) .nil)))
  .nil))))
 (.cons (.ret (.tup (.cons (.meth (.str []) [106,111,105,110] (.cons (.var 2) .nil)) (.cons (.var 1) .nil))))
 .nil)))}
noncomputable def zF:eA:={np:=2,nm:=[[116,101,120,116],[97,116]],dflt:=[],body:=
 (.cons (.whl (.and (.cons (.e (.cmp .Lt (.var 1) (.call (.glob (.builtin "len")) (.cons (.var 0) .nil)))) (.cons (.e (.call (.glob (.ref 181)) (.cons (.idx (.var 0) (.var 1)) .nil))) .nil)))
  (.cons (.aug 1 .Add (.int 1))
  .nil))
 (.cons (.ite (.e (.cmp .GtE (.var 1) (.call (.glob (.builtin "len")) (.cons (.var 0) .nil))))
  (.cons (.ret .none)
  .nil)
  .nil)
 (.cons (.ite (.e (.cmp .Eq (.idx (.var 0) (.var 1)) (.str [123])))
  (.cons (.ret (.call (.glob (.ref 315)) (.cons (.var 0) (.cons (.bin .Add (.var 1) (.int 1)) .nil))))
  .nil)
  .nil)
 (.cons (.ite (.e (.cmp .Eq (.idx (.var 0) (.var 1)) (.str [34])))
  (.cons (.ret (.call (.glob (.ref 322)) (.cons (.var 0) (.cons (.bin .Add (.var 1) (.int 1)) .nil))))
  .nil)
  .nil)
 (.cons (.ret (.call (.glob (.ref 329)) (.cons (.var 0) (.cons (.var 1) .nil))))
 .nil)))))}
noncomputable def MH:eA:={np:=1,nm:=[[116,101,120,116],[105,116,101,109,115],[102,111,117,110,100]],dflt:=[],body:=
 (.cons (.assign 1 (.lst .nil))
 (.cons (.assign 2 (.call (.glob (.ref 336)) (.cons (.var 0) (.cons (.int 0) .nil))))
 (.cons (.whl (.e (.cmp .IsNot (.var 2) .none))
  (.cons (.expr (.meth (.var 1) [97,112,112,101,110,100] (.cons (.idx (.var 2) (.int 0)) .nil)))
  (.cons (.assign 2 (.call (.glob (.ref 336)) (.cons (.var 0) (.cons (.idx (.var 2) (.int 1)) .nil))))
  .nil)))
 (.cons (.ret (.var 1))
 .nil))))}
noncomputable def JH:eA:={np:=2,nm:=[[115,99,114,105,112,116],[112,108,97,99,101],[98,97,115,101]],dflt:=[],body:=
 (.cons (.assign 2 (.lst (.cons (.int 16815) (.cons (.int 41409) (.cons (.int 19719) (.cons (.int 23247) (.cons (.int 44493) (.cons (.int 8595) (.cons (.int 16443) (.cons (.int 467) (.cons (.int 72619) (.cons (.int 14600) (.cons (.int 147694) (.cons (.int 66) (.cons (.int 157) (.cons (.int 6383640) (.cons (.int 59875575) .nil)))))))))))))))))
 (.cons (.ret (.ite (.e (.cmp .Lt (.var 1) (.call (.glob (.builtin "len")) (.cons (.var 0) .nil)))) (.idx (.var 0) (.var 1)) (.idx (.var 2) (.var 1))))
 .nil))}
noncomputable def wK:eA:={np:=1,nm:=[[110,117,109,98,101,114],[112,111,111,108],[116,117,114,110],[111,117,116],[114,101,115,116]],dflt:=[],body:=
 (.cons (.assign 1 (.lst (.cons (.str [36,97]) (.cons (.str [91,103,105,118,101,32,57,32,120,93]) (.cons (.str [123]) (.cons (.str [125]) (.cons (.str [34]) (.cons (.str [59]) (.cons (.str [92]) (.cons (.str [32]) (.cons (.str [10]) (.cons (.str [35]) (.cons (.str [120]) (.cons (.str [36]) (.cons (.str [91]) (.cons (.str [93]) (.cons (.str [36,123,122,122,125]) (.cons (.str [123,42,125]) (.cons (.str [40]) (.cons (.str [41]) (.cons (.str [92,120,52,49]) (.cons (.str [36,109,40,36,98,41]) .nil))))))))))))))))))))))
 (.cons (.swap [3,4] (.cons (.str []) (.cons (.bin .FloorDiv (.var 0) (.int 6)) .nil)))
 (.cons (.forR0 2 (.bin .Mod (.var 0) (.int 6))
  (.cons (.assign 3 (.bin .Add (.var 3) (.idx (.var 1) (.bin .Mod (.var 4) (.int 20)))))
  (.cons (.assign 4 (.bin .FloorDiv (.var 4) (.int 20)))
  .nil)))
 (.cons (.ret (.var 3))
 .nil))))}
noncomputable def RJ:eA:={np:=1,nm:=[[110,117,109,98,101,114],[112,111,111,108],[116,117,114,110],[100,114,97,119,110],[114,101,115,116],[112,97,105,114]],dflt:=[],body:=
 (.cons (.assign 1 (.lst (.cons (.tup (.cons (.str [120]) (.cons (.str [120]) .nil))) (.cons (.tup (.cons (.str [123,36,97,125]) (.cons (.str [36,97]) .nil))) (.cons (.tup (.cons (.str [123,91,103,105,118,101,32,57,32,120,93,125]) (.cons (.str [91,103,105,118,101,32,57,32,120,93]) .nil))) (.cons (.tup (.cons (.str [92,36,97]) (.cons (.str [36,97]) .nil))) (.cons (.tup (.cons (.str [123,125]) (.cons (.str []) .nil))) (.cons (.tup (.cons (.str [123,59,32,35,125]) (.cons (.str [59,32,35]) .nil))) .nil))))))))
 (.cons (.assign 1 (.bin .Add (.var 1) (.lst (.cons (.tup (.cons (.str [34,97,32,123,34]) (.cons (.str [97,32,123]) .nil))) (.cons (.tup (.cons (.str [92,123]) (.cons (.str [123]) .nil))) (.cons (.tup (.cons (.str [36,99]) (.cons (.str [36,99]) .nil))) (.cons (.tup (.cons (.str [123,123,42,125,36,108,125]) (.cons (.str [123,42,125,36,108]) .nil))) (.cons (.tup (.cons (.str [123,34,125]) (.cons (.str [34]) .nil))) (.cons (.tup (.cons (.str [92,93,92,92]) (.cons (.str [93,92]) .nil))) .nil)))))))))
 (.cons (.swap [3,4] (.cons (.lst .nil) (.cons (.bin .FloorDiv (.var 0) (.int 18)) .nil)))
 (.cons (.forR0 2 (.bin .Mod (.var 0) (.int 6))
  (.cons (.expr (.meth (.var 3) [97,112,112,101,110,100] (.cons (.idx (.var 1) (.bin .Mod (.var 4) (.int 12))) .nil)))
  (.cons (.assign 4 (.bin .FloorDiv (.var 4) (.int 12)))
  .nil)))
 (.cons (.ret (.tup (.cons (.meth (.idx (.lst (.cons (.str [32]) (.cons (.str [10]) (.cons (.str [32,9]) .nil)))) (.bin .Mod (.bin .FloorDiv (.var 0) (.int 6)) (.int 3))) [106,111,105,110] (.cons (.comp (.idx (.var 5) (.int 0)) [] [5] (.var 3)) .nil)) (.cons (.comp (.idx (.var 5) (.int 1)) [] [5] (.var 3)) .nil))))
 .nil)))))}
noncomputable def MI:eA:={np:=1,nm:=[[119,104,105,99,104]],dflt:=[],body:=
 (.cons (.ite (.e (.cmp .Eq (.var 0) (.int 0)))
  (.cons (.ret (.tup (.cons (.str [123,120]) (.cons (.str [117,110,109,97,116,99,104,101,100,32,111,112,101,110,32,98,114,97,99,101,32,105,110,32,108,105,115,116]) (.cons (.str [66,82,65,67,69]) .nil)))))
  .nil)
  .nil)
 (.cons (.ite (.e (.cmp .Eq (.var 0) (.int 1)))
  (.cons (.ret (.tup (.cons (.str [36,97,32,34,121]) (.cons (.str [117,110,109,97,116,99,104,101,100,32,111,112,101,110,32,113,117,111,116,101,32,105,110,32,108,105,115,116]) (.cons (.str [81,85,79,84,69]) .nil)))))
  .nil)
  .nil)
 (.cons (.ite (.e (.cmp .Eq (.var 0) (.int 2)))
  (.cons (.ret (.tup (.cons (.str [123,36,97,125,36,98,32,122]) (.cons (.str [108,105,115,116,32,101,108,101,109,101,110,116,32,105,110,32,98,114,97,99,101,115,32,102,111,108,108,111,119,101,100,32,98,121,32,34,36,98,34,32,105,110,115,116,101,97,100,32,111,102,32,115,112,97,99,101]) (.cons (.str [74,85,78,75]) .nil)))))
  .nil)
  .nil)
 (.cons (.ret (.tup (.cons (.str [34,91,103,105,118,101,32,57,32,120,34,93]) (.cons (.str [108,105,115,116,32,101,108,101,109,101,110,116,32,105,110,32,113,117,111,116,101,115,32,102,111,108,108,111,119,101,100,32,98,121,32,34,93,34,32,105,110,115,116,101,97,100,32,111,102,32,115,112,97,99,101]) (.cons (.str [74,85,78,75]) .nil)))))
 .nil))))}
noncomputable def PJ:eA:={np:=1,nm:=[[115,99,114,105,112,116],[98,111,111,107],[97],[98],[99],[112,108,97,99,101]],dflt:=[],body:=
 (.cons (.unpk [2,3,4] (.compR (.call (.glob (.ref 659)) (.cons (.call (.glob (.ref 652)) (.cons (.var 0) (.cons (.var 5) .nil))) .nil)) [0] 5 (.int 3)))
 (.cons (.assign 1 (.dct [[97],[98],[99],[109,40,107,41],[110],[116],[112]] (.cons (.var 2) (.cons (.var 3) (.cons (.var 4) (.cons (.call (.glob (.ref 659)) (.cons (.call (.glob (.ref 652)) (.cons (.var 0) (.cons (.int 3) .nil))) .nil)) (.cons (.str [110,111,116,101]) (.cons (.str [116,101]) (.cons (.str [110,111,116,101,32,123,36,97,125,32,120]) .nil)))))))))
 (.cons (.setIdx (.var 1) (.bin .Add (.bin .Add (.str [109,40]) (.var 3)) (.str [41])) (.call (.glob (.ref 659)) (.cons (.call (.glob (.ref 652)) (.cons (.var 0) (.cons (.int 4) .nil))) .nil)))
 (.cons (.setIdx (.var 1) (.bin .Add (.bin .Add (.bin .Add (.bin .Add (.str [109,40,107]) (.var 4)) (.str [45])) (.var 2)) (.str [41])) (.call (.glob (.ref 659)) (.cons (.call (.glob (.ref 652)) (.cons (.var 0) (.cons (.int 5) .nil))) .nil)))
 (.cons (.setIdx (.var 1) (.str [108]) (.idx (.call (.glob (.ref 664)) (.cons (.call (.glob (.ref 652)) (.cons (.var 0) (.cons (.int 6) .nil))) .nil)) (.int 0)))
 (.cons (.setIdx (.var 1) (.str [119]) (.idx (.call (.glob (.ref 671)) (.cons (.bin .Mod (.bin .FloorDiv (.call (.glob (.ref 652)) (.cons (.var 0) (.cons (.int 7) .nil))) (.int 8)) (.int 4)) .nil)) (.int 0)))
 (.cons (.ret (.var 1))
 .nil)))))))}
noncomputable def LI:eA:={np:=2,nm:=[[119,104,105,99,104],[98,111,111,107],[119,114,105,116,116,101,110],[97],[98],[99],[114,111,119,115]],dflt:=[],body:=
 (.cons (.swap [3,4,5] (.cons (.idx (.var 1) (.str [97])) (.cons (.idx (.var 1) (.str [98])) (.cons (.idx (.var 1) (.str [99])) .nil))))
 (.cons (.ite (.e (.cmp .Lt (.var 0) (.int 9)))
  (.cons (.assign 6 (.lst (.cons (.tup (.cons (.str [45]) (.cons (.str [45]) (.cons (.tup .nil) .nil)))) (.cons (.tup (.cons (.str [36,97]) (.cons (.var 3) (.cons (.tup .nil) .nil)))) (.cons (.tup (.cons (.str [36,123,99,125]) (.cons (.var 5) (.cons (.tup .nil) .nil)))) (.cons (.tup (.cons (.str [36,109,40,36,98,41]) (.cons (.idx (.var 1) (.bin .Add (.bin .Add (.str [109,40]) (.var 4)) (.str [41]))) (.cons (.tup .nil) .nil)))) (.cons (.tup (.cons (.str [36,123,109,40,107,41,125]) (.cons (.idx (.var 1) (.str [109,40,107,41])) (.cons (.tup .nil) .nil)))) .nil)))))))
  (.cons (.expr (.meth (.var 6) [97,112,112,101,110,100] (.cons (.tup (.cons (.str [36,109,40,107,36,99,45,91,103,105,118,101,32,49,32,36,97,93,41]) (.cons (.idx (.var 1) (.bin .Add (.bin .Add (.bin .Add (.bin .Add (.str [109,40,107]) (.var 5)) (.str [45])) (.var 3)) (.str [41]))) (.cons (.tup (.cons (.str [49]) (.cons (.var 3) .nil))) .nil)))) .nil)))
  (.cons (.expr (.meth (.var 6) [97,112,112,101,110,100] (.cons (.tup (.cons (.str [91,103,105,118,101,32,50,32,36,98,93]) (.cons (.var 4) (.cons (.tup (.cons (.str [50]) (.cons (.var 4) .nil))) .nil)))) .nil)))
  (.cons (.expr (.meth (.var 6) [97,112,112,101,110,100] (.cons (.tup (.cons (.str [91,103,105,118,101,32,51,32,123,36,97,32,91,103,105,118,101,32,57,32,120,93,125,93]) (.cons (.str [36,97,32,91,103,105,118,101,32,57,32,120,93]) (.cons (.tup (.cons (.str [51]) (.cons (.str [36,97,32,91,103,105,118,101,32,57,32,120,93]) .nil))) .nil)))) .nil)))
  (.cons (.expr (.meth (.var 6) [97,112,112,101,110,100] (.cons (.tup (.cons (.str [91,103,105,118,101,32,52,32,34,36,99,59,92,93,36,97,34,93]) (.cons (.bin .Add (.bin .Add (.var 5) (.str [59,93])) (.var 3)) (.cons (.tup (.cons (.str [52]) (.cons (.bin .Add (.bin .Add (.var 5) (.str [59,93])) (.var 3)) .nil))) .nil)))) .nil)))
  (.cons (.ret (.idx (.var 6) (.var 0)))
  .nil))))))
  .nil)
 (.cons (.assign 2 (.idx (.lst (.cons (.str [92,36]) (.cons (.str [92,91]) (.cons (.str [92,120,50,52]) (.cons (.str [92,92]) (.cons (.str [92,110]) (.cons (.str [92,32]) (.cons (.str [46,125,120,123]) (.cons (.str [61,93,35]) (.cons (.str [45,123,42,125]) .nil)))))))))) (.bin .Sub (.var 0) (.int 9))))
 (.cons (.ret (.tup (.cons (.var 2) (.cons (.idx (.lst (.cons (.str [36]) (.cons (.str [91]) (.cons (.str [36]) (.cons (.str [92]) (.cons (.str [10]) (.cons (.str [32]) (.cons (.str [46,125,120,123]) (.cons (.str [61,93,35]) (.cons (.str [45,123,42,125]) .nil)))))))))) (.bin .Sub (.var 0) (.int 9))) (.cons (.tup .nil) .nil)))))
 .nil))))}
noncomputable def IH:eA:={np:=4,nm:=[[110,117,109,98,101,114],[109,97,110,121],[98,101,116,119,101,101,110],[98,111,111,107],[116,117,114,110],[119,114,105,116,116,101,110],[118,97,108,117,101,115],[99,97,108,108,115],[112,105,101,99,101]],dflt:=[],body:=
 (.cons (.swap [5,6,7] (.cons (.lst .nil) (.cons (.lst .nil) (.cons (.lst .nil) .nil))))
 (.cons (.forR0 4 (.var 1)
  (.cons (.assign 8 (.call (.glob (.ref 683)) (.cons (.bin .Mod (.var 0) (.int 18)) (.cons (.var 3) .nil))))
  (.cons (.assign 0 (.bin .FloorDiv (.var 0) (.int 18)))
  (.cons (.expr (.meth (.var 5) [97,112,112,101,110,100] (.cons (.idx (.var 8) (.int 0)) .nil)))
  (.cons (.expr (.meth (.var 6) [97,112,112,101,110,100] (.cons (.idx (.var 8) (.int 1)) .nil)))
  (.cons (.ite (.e (.cmp .NotEq (.idx (.var 8) (.int 2)) (.tup .nil)))
   (.cons (.expr (.meth (.var 7) [97,112,112,101,110,100] (.cons (.idx (.var 8) (.int 2)) .nil)))
   .nil)
   .nil)
  .nil))))))
 (.cons (.ret (.tup (.cons (.meth (.var 2) [106,111,105,110] (.cons (.var 5) .nil)) (.cons (.meth (.var 2) [106,111,105,110] (.cons (.var 6) .nil)) (.cons (.var 7) .nil)))))
 .nil)))}
noncomputable def KI:eA:={np:=1,nm:=[[119,104,105,99,104],[119,114,105,116,116,101,110],[119,111,114,100,115]],dflt:=[],body:=
 (.cons (.assign 1 (.idx (.lst (.cons (.str [110,111,116,101]) (.cons (.str [36,110]) (.cons (.str [34,110,111,36,123,116,125,34]) (.cons (.str [123,42,125,36,112]) (.cons (.str [91,103,105,118,101,32,54,32,110,111,116,101,93]) (.cons (.str [123,110,111,116,101,125]) (.cons (.str [110,111,92,120,55,52,101]) (.cons (.str [123,42,125,123,110,111,116,101,32,36,98,125]) .nil))))))))) (.var 0)))
 (.cons (.assign 2 (.ite (.e (.cmp .Eq (.var 0) (.int 3))) (.lst (.cons (.str [110,111,116,101]) (.cons (.str [36,97]) (.cons (.str [120]) .nil)))) (.ite (.e (.cmp .Eq (.var 0) (.int 7))) (.lst (.cons (.str [110,111,116,101]) (.cons (.str [36,98]) .nil))) (.lst (.cons (.str [110,111,116,101]) .nil)))))
 (.cons (.ret (.tup (.cons (.var 1) (.cons (.var 2) (.cons (.ite (.e (.cmp .Eq (.var 0) (.int 4))) (.lst (.cons (.tup (.cons (.str [54]) (.cons (.str [110,111,116,101]) .nil))) .nil)) (.lst .nil)) (.cons (.bool false) .nil))))))
 .nil)))}
noncomputable def KH:eA:={np:=3,nm:=[[119,104,105,99,104],[98,111,111,107],[105,116,101,109,115]],dflt:=[],body:=
 (.cons (.ite (.e (.cmp .Eq (.var 0) (.int 3)))
  (.cons (.ret (.tup (.cons (.str [123,42,125,91,103,105,118,101,32,53,32,36,108,93]) (.cons (.var 2) (.cons (.lst (.cons (.tup (.cons (.str [53]) (.cons (.idx (.var 1) (.str [108])) .nil))) .nil)) (.cons (.bool false) .nil))))))
  .nil)
  .nil)
 (.cons (.ite (.e (.cmp .Eq (.var 0) (.int 4)))
  (.cons (.ret (.tup (.cons (.str [123,42,125,123,120,32,123,36,97,32,91,103,105,118,101,32,57,32,120,93,125,32,34,36,99,34,125]) (.cons (.lst (.cons (.str [120]) (.cons (.str [36,97,32,91,103,105,118,101,32,57,32,120,93]) (.cons (.str [36,99]) .nil)))) (.cons (.lst .nil) (.cons (.bool false) .nil))))))
  .nil)
  .nil)
 (.cons (.ite (.e (.cmp .Eq (.var 0) (.int 5)))
  (.cons (.ret (.tup (.cons (.str [123,42,125,36,108,92,32,120]) (.cons (.bin .Add (.var 2) (.lst (.cons (.str [120]) .nil))) (.cons (.lst .nil) (.cons (.bool false) .nil))))))
  .nil)
  .nil)
 (.cons (.ret (.tup (.cons (.idx (.lst (.cons (.str [123,42,125,36,108]) (.cons (.str [123,42,125,36,123,108,125]) (.cons (.str [123,42,125,34,36,108,32,36,108,34]) .nil)))) (.var 0)) (.cons (.ite (.e (.cmp .Eq (.var 0) (.int 2))) (.bin .Add (.var 2) (.var 2)) (.var 2)) (.cons (.lst .nil) (.cons (.bool false) .nil))))))
 .nil))))}
noncomputable def TJ:eA:={np:=3,nm:=[[110,117,109,98,101,114],[98,111,111,107],[105,116,101,109,115],[115,116,121,108,101],[114,101,115,116],[98,101,116,119,101,101,110],[118,97,108,117,101],[119,114,105,116,116,101,110],[99,97,108,108,115]],dflt:=[],body:=
 (.cons (.swap [3,4] (.cons (.bin .Mod (.var 0) (.int 10)) (.cons (.bin .FloorDiv (.var 0) (.int 40)) .nil)))
 (.cons (.ite (.e (.cmp .Lt (.var 3) (.int 4)))
  (.cons (.unpk [7,6,8] (.call (.glob (.ref 690)) (.cons (.bin .FloorDiv (.var 4) (.int 4)) (.cons (.bin .Add (.int 1) (.bin .Mod (.var 4) (.int 4))) (.cons (.str []) (.cons (.var 1) .nil))))))
  (.cons (.ret (.tup (.cons (.var 7) (.cons (.lst (.cons (.var 6) .nil)) (.cons (.var 8) (.cons (.bool false) .nil))))))
  .nil))
  .nil)
 (.cons (.ite (.e (.cmp .Lt (.var 3) (.int 6)))
  (.cons (.assign 5 (.idx (.lst (.cons (.str [32]) (.cons (.str [59]) (.cons (.str [10]) (.cons (.str [36,32]) (.cons (.str []) .nil)))))) (.bin .Mod (.bin .FloorDiv (.var 4) (.int 5)) (.int 5))))
  (.cons (.unpk [7,6,8] (.call (.glob (.ref 690)) (.cons (.bin .FloorDiv (.var 4) (.int 25)) (.cons (.bin .Mod (.var 4) (.int 5)) (.cons (.var 5) (.cons (.var 1) .nil))))))
  (.cons (.ret (.tup (.cons (.bin .Add (.bin .Add (.str [34]) (.var 7)) (.str [34])) (.cons (.lst (.cons (.var 6) .nil)) (.cons (.var 8) (.cons (.bool false) .nil))))))
  .nil)))
  .nil)
 (.cons (.ite (.e (.cmp .Eq (.var 3) (.int 6)))
  (.cons (.assign 6 (.idx (.lst (.cons (.str [36,97,32,91,103,105,118,101,32,57,32,120,93]) (.cons (.str [92,36,99,59,123,10,125]) (.cons (.str []) (.cons (.str [123,42,125,36,108,32,92,123]) .nil))))) (.bin .Mod (.var 4) (.int 4))))
  (.cons (.ret (.tup (.cons (.bin .Add (.bin .Add (.str [123]) (.var 6)) (.str [125])) (.cons (.lst (.cons (.var 6) .nil)) (.cons (.lst .nil) (.cons (.bool false) .nil))))))
  .nil))
  .nil)
 (.cons (.ite (.e (.cmp .Eq (.var 3) (.int 9)))
  (.cons (.ret (.tup (.cons (.idx (.lst (.cons (.str [123,42,125,36,119]) (.cons (.str [123,42,125,34,36,108,32,36,119,34]) .nil))) (.bin .Mod (.var 4) (.int 2))) (.cons (.lst .nil) (.cons (.lst .nil) (.cons (.bool true) .nil))))))
  .nil)
  .nil)
 (.cons (.ret (.call (.glob (.ref 704)) (.cons (.bin .Mod (.var 4) (.int 6)) (.cons (.var 1) (.cons (.var 2) .nil)))))
 .nil))))))}
noncomputable def SJ:eA:={np:=3,nm:=[[104,111,115,116],[119,111,114,100,115],[100,97,116,97]],dflt:=[],body:=
 (.cons (.expr (.meth (.idx (.var 2) (.int 0)) [97,112,112,101,110,100] (.cons (.call (.glob (.type "list")) (.cons (.var 1) .nil)) .nil)))
 (.cons (.ret (.idx (.var 2) (.int 1)))
 .nil))}
noncomputable def QJ:eA:={np:=3,nm:=[[104,111,115,116],[119,111,114,100,115],[108,111,103]],dflt:=[],body:=
 (.cons (.expr (.meth (.var 2) [97,112,112,101,110,100] (.cons (.call (.glob (.type "tuple")) (.cons (.slc (.var 1) (.int 1) .none) .nil)) .nil)))
 (.cons (.ret (.idx (.var 1) (.neg (.int 1))))
 .nil))}
noncomputable def TG:eA:={np:=1,nm:=[[115,99,114,105,112,116],[112,108,97,99,101],[104,101,97,100],[116,97,105,108],[114,101,115,117,108,116],[100,117,101],[110,97,109,101],[102,97,117,108,116],[110,117,109,98,101,114],[98,111,111,107],[105,116,101,109,115],[115,111,117,114,99,101],[119,111,114,100,115],[99,97,108,108,115],[105,115,95,119,114,111,110,103],[100,114,97,119,110],[102,111,114,109],[115,104,111,119,110],[105,110,102,111],[115,101,101,110],[108,111,103],[104,111,115,116],[103,111,116],[119,104,121],[115,111,114,116]],dflt:=[],body:=
 (.cons (.unpk [8,9,10] (.tup (.cons (.call (.glob (.ref 652)) (.cons (.var 0) (.cons (.int 7) .nil))) (.cons (.call (.glob (.ref 676)) (.cons (.var 0) .nil)) (.cons (.idx (.call (.glob (.ref 664)) (.cons (.call (.glob (.ref 652)) (.cons (.var 0) (.cons (.int 6) .nil))) .nil)) (.int 1)) .nil)))))
 (.cons (.unpk [11,12,13,14] (.call (.glob (.ref 697)) (.cons (.bin .Mod (.var 8) (.int 8)) .nil)))
 (.cons (.forR 1 (.int 9) (.bin .Add (.int 11) (.bin .Mod (.call (.glob (.ref 652)) (.cons (.var 0) (.cons (.int 8) .nil))) (.int 5)))
  (.cons (.assign 15 (.call (.glob (.ref 652)) (.cons (.var 0) (.cons (.var 1) .nil))))
  (.cons (.assign 16 (.call (.glob (.ref 711)) (.cons (.var 15) (.cons (.var 9) (.cons (.var 10) .nil)))))
  (.cons (.assign 11 (.bin .Add (.bin .Add (.var 11) (.idx (.lst (.cons (.str [32]) (.cons (.str [9]) (.cons (.str [32,92,10,9]) (.cons (.str [11,32]) .nil))))) (.bin .Mod (.bin .FloorDiv (.var 15) (.int 10)) (.int 4)))) (.idx (.var 16) (.int 0))))
  (.cons (.ite (.not (.e (.var 14)))
   (.cons (.swap [12,13,14] (.cons (.bin .Add (.var 12) (.idx (.var 16) (.int 1))) (.cons (.bin .Add (.var 13) (.idx (.var 16) (.int 2))) (.cons (.idx (.var 16) (.int 3)) .nil))))
   .nil)
   .nil)
  .nil)))))
 (.cons (.assign 2 (.idx (.lst (.cons (.str []) (.cons (.str [10]) (.cons (.str [35,32,36,122,122,32,91,103,105,118,101,32,57,32,120,10]) (.cons (.str [32,59,9]) .nil))))) (.bin .Mod (.bin .FloorDiv (.var 8) (.int 32)) (.int 4))))
 (.cons (.assign 3 (.idx (.lst (.cons (.str []) (.cons (.str [59]) (.cons (.str [10]) (.cons (.str [32,59,35,32,91,103,105,118,101,32,57,32,120,93]) (.cons (.str [92,10]) .nil)))))) (.bin .Mod (.bin .FloorDiv (.var 8) (.int 128)) (.int 5))))
 (.cons (.assign 4 (.call (.glob (.ref 659)) (.cons (.bin .FloorDiv (.call (.glob (.ref 652)) (.cons (.var 0) (.cons (.int 8) .nil))) (.int 5)) .nil)))
 (.cons (.assign 5 (.tup (.cons (.int 0) (.cons (.var 4) (.cons (.tup .nil) (.cons (.int 0) (.cons (.str []) .nil)))))))
 (.cons (.ite (.e (.var 14))
  (.cons (.unpk [23,24] (.slc (.call (.glob (.ref 671)) (.cons (.bin .Mod (.bin .FloorDiv (.var 8) (.int 8)) (.int 4)) .nil)) (.int 1) .none))
  (.cons (.assign 17 (.ite (.e (.cmp .Lt (.call (.glob (.builtin "len")) (.cons (.var 11) .nil)) (.int 151))) (.var 11) (.bin .Add (.slc (.var 11) .none (.int 150)) (.str [46,46,46]))))
  (.cons (.assign 18 (.bin .Add (.bin .Add (.bin .Add (.var 23) (.str [10,32,32,32,32,119,104,105,108,101,32,101,120,101,99,117,116,105,110,103,10,34])) (.var 17)) (.str [34])))
  (.cons (.assign 5 (.tup (.cons (.int 1) (.cons (.var 23) (.cons (.tup (.cons (.str [84,67,76]) (.cons (.str [86,65,76,85,69]) (.cons (.str [76,73,83,84]) (.cons (.var 24) .nil))))) (.cons (.bin .Add (.int 1) (.meth (.var 2) [99,111,117,110,116] (.cons (.str [10]) .nil))) (.cons (.var 18) .nil)))))))
  .nil))))
  .nil)
 (.cons (.unpk [19,20,21] (.tup (.cons (.lst .nil) (.cons (.lst .nil) (.cons (.call (.glob (.ref 643)) .nil) .nil)))))
 (.cons (.expr (.call (.glob (.ref 399)) (.cons (.var 21) .nil)))
 (.cons (.expr (.meth (.var 21) [97,100,100] (.cons (.dct [[110,111,116,101],[103,105,118,101]] (.cons (.tup (.cons (.glob (.ref 718)) (.cons (.tup (.cons (.var 19) (.cons (.var 4) .nil))) .nil))) (.cons (.tup (.cons (.glob (.ref 725)) (.cons (.var 20) .nil))) .nil))) .nil)))
 (.cons (.for1 6 (.var 9)
  (.cons (.expr (.meth (.var 21) [119,114,105,116,101] (.cons (.var 6) (.cons (.idx (.var 9) (.var 6)) .nil))))
  .nil))
 (.cons (.tryE (.cons (.assign 22 (.tup (.cons (.int 0) (.cons (.call (.glob (.ref 392)) (.cons (.var 21) (.cons (.bin .Add (.bin .Add (.var 2) (.var 11)) (.var 3)) .nil))) (.cons (.tup .nil) (.cons (.int 0) (.cons (.str []) .nil)))))))
  .nil)
  84 7
  (.cons (.assign 22 (.tup (.cons (.attr (.var 7) [99,111,100,101]) (.cons (.attr (.var 7) [118,97,108,117,101]) (.cons (.attr (.var 7) [101,114,114,111,114,99,111,100,101]) (.cons (.attr (.var 7) [108,105,110,101]) (.cons (.attr (.var 7) [105,110,102,111]) .nil)))))))
  .nil))
 (.cons (.ite (.or (.cons (.e (.cmp .NotEq (.var 22) (.var 5))) (.cons (.e (.cmp .NotEq (.var 20) (.var 13))) (.cons (.e (.cmp .NotEq (.var 19) (.ite (.e (.var 14)) (.lst .nil) (.lst (.cons (.var 12) .nil))))) .nil))))
  (.cons (.ret (.bool false))
  .nil)
  .nil)
 (.cons (.ite (.or (.cons (.e (.cmp .NotEq (.call (.glob (.builtin "sorted")) (.cons (.attr (.var 21) [118,97,114,115]) .nil)) (.call (.glob (.builtin "sorted")) (.cons (.var 9) .nil)))) (.cons (.e (.cmp .NotEq (.attr (.var 21) [115,112,101,110,116]) (.bin .Add (.call (.glob (.builtin "len")) (.cons (.var 20) .nil)) (.call (.glob (.builtin "len")) (.cons (.var 19) .nil))))) (.cons (.e (.cmp .NotEq (.attr (.var 21) [100,101,112,116,104]) (.int 0))) .nil))))
  (.cons (.ret (.bool false))
  .nil)
  .nil)
 (.cons (.ret (.cmp .Eq (.comp (.meth (.var 21) [114,101,97,100] (.cons (.var 6) .nil)) [21] [6] (.var 9)) (.comp (.idx (.var 9) (.var 6)) [9] [6] (.var 9))))
 .nil))))))))))))))))}
noncomputable def Fn(g:G)(a:Addr)(F:eA):Prop:=∀(d:Nat) (hd:Option Nat) (vs:List V) (J:List O) (K:iE->List O->Prop),
 Nat.ble (F.np - F.dflt.length) vs.length=true->Nat.ble vs.length F.np=true->¬dF g d hd F vs J K->CallOk g (d+1) hd (.ref a) vs J (NK K)
structure Prog(g:G):Prop where
 c84:∀(d:Nat) (hd:Option Nat) (vs:List V) (J:List O) (R:iE->List O->Prop),Nat.ble 2 vs.length=true->Nat.ble vs.length 5=true->
  ¬dF g d hd RG (.loc J.length::vs) (J++[.exc0 84]) (fun r NA=>¬match r with | .ok v=>v= .none/\R (.ok (.loc J.length)) NA | .exn l=>R (.exn l) NA)->CallOk g (d+2) hd (.ref 84) vs J R
 c643:∀(d:Nat) (hd:Option Nat) (vs:List V) (J:List O) (R:iE->List O->Prop),CallOk g d hd (.ref 541) (.loc (J.length+1)::vs) (J++[.ad [], .inst 643 J.length]) (fun r NA=>match r with | .ok v=>v= .none/\R (.ok (.loc (J.length+1))) NA | .exn l=>R (.exn l) NA)->CallOk g (d+1) hd (.ref 643) vs J R
 c360:∀(d:Nat) (hd:Option Nat) (vs:List V) (J:List O) (R:iE->List O->Prop),CallOk g d hd (.ref 357) (.loc (J.length+1)::vs) (J++[.ad [], .inst 360 J.length]) (fun r NA=>match r with | .ok v=>v= .none/\R (.ok (.loc (J.length+1))) NA | .exn l=>R (.exn l) NA)->CallOk g (d+1) hd (.ref 360) vs J R
 f357:Fn g 357 LJ
 f414:Fn g 414 HI
 f421:Fn g 421 II
 f428:Fn g 428 GH
 f442:Fn g 442 KJ
 f456:Fn g 456 GI
 f541:Fn g 541 oE
 f555:Fn g 555 YE
 f562:Fn g 562 VD
 f569:Fn g 569 JD
 f576:Fn g 576 pE
 f583:Fn g 583 ZE
 f612:Fn g 612 QF
 f619:Fn g 619 xD
 f626:Fn g 626 PF
 f640:Fn g 640 XE
 f139:Fn g 139 rO
 f146:Fn g 146 MV
 f153:Fn g 153 nR
 f181:Fn g 181 OJ
 f188:Fn g 188 qO
 f195:Fn g 195 NJ
 f209:Fn g 209 JI
 f216:Fn g 216 hM
 f223:Fn g 223 QI
 f230:Fn g 230 rE
 f237:Fn g 237 aE
 f244:Fn g 244 PI
 f251:Fn g 251 UJ
 f258:Fn g 258 MJ
 f265:Fn g 265 gM
 f272:Fn g 272 VG
 f279:Fn g 279 HH
 f286:Fn g 286 SG
 f293:Fn g 293 KK
 f301:Fn g 301 pC
 f371:Fn g 371 yK
 f378:Fn g 378 VJ
 f385:Fn g 385 pO
 f392:Fn g 392 oA
 f399:Fn g 399 WG
 f491:Fn g 491 UG
 f498:Fn g 498 iM
 f505:Fn g 505 OI
 f519:Fn g 519 xK
 f526:Fn g 526 LV
structure DB(T:List Nat)(n:Nat)(s:List Nat):Prop where
 le:n<=T.length
 eq:T.drop n=s
 big:T.length<=100000
section
variable{g:G}{d:Nat}{hd:Option Nat}{J:List O}{Z:List (Option V)}{QV:V->List O->Prop}{QB:Bool->List O->Prop}{QB1:Bool->Prop}{QV1:V->Prop}{E:Nat->List O->Prop}{T s:List Nat}{n c:Nat}
theorem DB.len(h:DB T n s):T.length=n+s.length:=by have:=congrArg List.length h.eq;rw[List.length_drop]at this;rw[<-this];exact(Nat.add_sub_of_le h.le).symm
theorem DB.next(h:DB T n (c::s)):DB T (n+1) s:=⟨by have:=h.len;simp only[List.length_cons]at this;exact(qC (eR this)),by rw[<-List.drop_drop,h.eq];rfl,h.big⟩
theorem DB.skip(h:DB T n s){k:Nat}(hk:k<=s.length):DB T (n+k) (s.drop k):=⟨by have:=h.len;exact(rC (eR this) hk),by rw[<-List.drop_drop,h.eq],h.big⟩
theorem DB.app{a:List Nat}(h:DB T n (a++s)):DB T (n+a.length) s:=by
 have:=h.skip (k:=a.length) (by simp)
 rwa [List.drop_left]at this
theorem DB.uniq{m:Nat}(h:DB T n s)(k:DB T m s):n=m:=Nat.add_right_cancel (h.len.symm.trans k.len)
theorem DB.start(h:T.length<=100000):DB T 0 T:=⟨Nat.zero_le _,rfl,h⟩
theorem DB.get(h:DB T n s)(i:Nat):T[n+i]?=s[i]?:=by rw[<-h.eq,List.getElem?_drop]
theorem BX(i:Nat):cK T (i:Int)=T[i]?:=by unfold cK;rw[if_pos (Int.natCast_nonneg _)];rfl
theorem kK(n i:Nat):XD n (i:Int)=min i n:=by unfold XD;rw[if_neg (by lia)];simp
theorem sU(T:List Nat)(a b:Nat):gF T (min a T.length) (min b T.length)=(T.drop a).take (b - a):=by
 unfold gF
 rw[show T.take (min b T.length)=T.take b from by rw[<-List.take_take,List.take_length]]
 rw[List.drop_take]
 by_cases h:a<=T.length
 ·rw[Nat.min_eq_left h]
 ·rw[List.drop_eq_nil_of_le (show T.length<=min a T.length by lia),List.drop_eq_nil_of_le (show T.length<=a by lia)];simp
theorem KN{a b:Nat}(k:QV (.str ((T.drop a).take (b - a))) J):eD J (.str T) (.int (a:Int)) (.int (b:Int)) QV:=by
 refine⟨_,_,rfl,rfl,?_⟩
 rw[kK,kK,sU];exact k
theorem MB{j:Nat}(h:DB T n s)(k:QV (.str (s.take j)) J):eD J (.str T) (.int (n:Int)) (.int ((n+j:Nat):Int)) QV:=by
 refine KN ?_
 rw[h.eq,Nat.add_sub_cancel_left];exact k
theorem Sb{i j:Nat}(h:DB T n s)(k:QV (.str ((s.drop i).take (j - i))) J):eD J (.str T) (.int ((n+i:Nat):Int)) (.int ((n+j:Nat):Int)) QV:=by
 refine KN ?_
 rw[<-List.drop_drop,h.eq,Nat.add_sub_add_left];exact k
theorem wF{a b:Nat}(h:DB T n (a::b::s))(k:QV (.str [b]) J):eD J (.str T) (.int ((n+1:Nat):Int)) (.int ((n+2:Nat):Int)) QV:=Sb h k
theorem SD{a:Nat}(h:DB T n (a::s))(k:QV (.str [a]) J):eD J (.str T) (.int (n:Int)) (.int ((n+1:Nat):Int)) QV:=MB h k
theorem uD{m:Nat}{a:List Nat}(h:DB T n (a++s))(h':DB T m s)(k:QV (.str a) J):eD J (.str T) (.int (n:Int)) (.int (m:Int)) QV:=by
 refine KN ?_
 have:=h.len;have:=h'.len
 rw[h.eq,show m - n=a.length by simp only[List.length_append]at*;lia,List.take_left];exact k
theorem FQ{s:List Nat}{c:Nat}(h:∀x∈s,x≠c):vD s c 0= -1:=by
 unfold vD
 rw[List.drop_zero,List.findIdx?_eq_none_iff.mpr (fun x hx=>by simpa using h x hx)]
theorem yN{c:Nat}(h:QV (.int (vD s c 0)) J):sA J s [102,105,110,100] [.str [c]] QV:=by
 unfold sA;rw[if_pos rfl];exact h
theorem cS{c i:Nat}(hi:i<=s.length)(h:QV (.int (vD s c i)) J):sA J s [102,105,110,100] [.str [c], .int (i:Int)] QV:=by
 unfold sA;rw[if_pos rfl];exact⟨by lia,by lia,h⟩
theorem PE(s:List Nat):∀ss:List (List Nat),(dA s ss).length<=(ss.map List.length).sum+ss.length*s.length
 | []=>by simp[dA.r1,dA.r2,dA.r3]
 | [x]=>by simp[dA.r1,dA.r2,dA.r3]
 | x::y::r=>by
   have:=PE s (y::r)
   simp only[dA.r1,dA.r2,dA.r3,List.length_append,List.map_cons,List.sum_cons,List.length_cons,Nat.add_mul,Nat.one_mul]at*
   exact(qC this)
theorem kW{l:Nat}{xs:List V}{ss:List (List Nat)}(hl:J[l]?=some (.list xs))(hx:iC xs=some ss)(hn:(ss.map List.length).sum+ss.length*s.length<=10000000)(h:QV (.str (dA s ss)) J):sA J s [106,111,105,110] [.loc l] QV:=by
 unfold sA;rw[if_neg (by decide),if_pos rfl]
 have:=PE s ss
 exact⟨xs,ss,TA hl,hx,by exact kC hn,show _<=2^24 by lia,h⟩
theorem bS{c:Nat}(h:QV (.int (s.count c)) J):sA J s [99,111,117,110,116] [.str [c]] QV:=by
 unfold sA;rw[if_neg (by decide),if_neg (by decide),if_pos rfl];exact h
theorem dY{c:Nat}(hn:s.length<=1000000)(h:QV (.loc J.length) (J++[.list ((fA c s).map .str)])):sA J s [115,112,108,105,116] [.str [c]] QV:=by
 unfold sA;rw[if_neg (by decide),if_neg (by decide),if_neg (by decide),if_pos rfl];exact⟨hn,h⟩
end
structure sB(g:G):Prop extends Prog g where
 f202:Fn g 202 LH
 f308:Fn g 308 yF
 f315:Fn g 315 qE
 f322:Fn g 322 sE
 f329:Fn g 329 xF
 f336:Fn g 336 zF
 f343:Fn g 343 MH
 f652:Fn g 652 JH
 f659:Fn g 659 wK
 f664:Fn g 664 RJ
 f671:Fn g 671 MI
 f676:Fn g 676 PJ
 f683:Fn g 683 LI
 f690:Fn g 690 IH
 f697:Fn g 697 KI
 f704:Fn g 704 KH
 f711:Fn g 711 TJ
 f718:Fn g 718 SJ
 f725:Fn g 725 QJ
 f730:Fn g 730 TG
noncomputable def EV(dt:Data):Option FuncData:=match dt with
 | .func fd=>some fd
 | _=>none
noncomputable def defOf(K:Frag)(f:Addr):Option FuncData:=(K.lookup f).bind fun o=>EV o.data
theorem HT{dt:Data}{fd:FuncData}(h:EV dt=some fd):dt= .func fd:=by
 induction dt using PySem.Data.casesOn with
 | func b=>cases h;rfl
 | _=>cases h
noncomputable def rN(fd:FuncData):List Str:=fd.params.args.map (·.arg)
noncomputable def xV(nm:List (List Nat))(names:List (Str×NameKind))(i:Nat)(x:Str):Bool:=(nm[i]?==some x.cps.toList)&&Ja (names.lookup x)
noncomputable def CF(nm:List (List Nat))(names:List (Str×NameKind)):Nat->List Str->Bool
 | _,[]=>true
 | i,x::r=>xV nm names i x&&CF nm names (i+1) r
theorem CF.r1{nm:List (List Nat)}{names:List (Str×NameKind)}:CF nm names w1 []=(true):=rfl
theorem CF.r2{nm:List (List Nat)}{names:List (Str×NameKind)}:CF nm names i (x::r)=(xV nm names i x&&CF nm names (i+1) r):=rfl
theorem uM{nm:List (List Nat)}{names:List (Str×NameKind)}:∀{i:Nat} {l:List Str},CF nm names i l=true->∀j x,l[j]?=some x->Kf nm names (i+j) x
 | i,y::r,h,j,x,e=>by
   simp only[CF.r1,CF.r2,Bool.and_eq_true]at h
   induction j using Nat.casesOn with
   | zero=>
     simp at e;subst e
     have h1:=h.1
     simp only[xV,Bool.and_eq_true,beq_iff_eq]at h1
     refine⟨h1.1,?_⟩
     exact vO h1.2
   | succ j=>
     have:=uM h.2 j x (by simpa using e)
     rw[Nat.add_right_comm]at this
     exact this
 | _,[],_,j,x,e=>by simp at e
noncomputable def QY(K:Frag)(F:eA)(fd:FuncData):Option ME:=match fd.body with
 | .stmts body=>ze 20 ⟨F.nm,fd.scope,K⟩ body
 | _=>none
noncomputable def XX(K:Frag)(F:eA)(fd:FuncData):Bool:=!fd.scope.isCoroutine&&!fd.scope.isGenerator&&(fd.scope.kind== .function)&&fd.closure.isEmpty&&(fd.globals==mainGlobals)&&(fd.builtins==builtinsNs)&&
 codeIn K fd.code fd.qualname&&decide F.nm.Nodup&&decide (fd.scope.names.map (·.1)).Nodup&&CF F.nm fd.scope.names 0 (rN fd)&&((rN fd).length==F.np)&&decide (F.np<=F.nm.length)
theorem WX{g:G}{f:Addr}{F:eA}{fd:FuncData}(hd:defOf g.K f=some fd)(h1:QY g.K F fd=some F.body)(h:XX g.K F fd=true):ub g f F fd (rN fd):=by
 simp only[XX,Bool.and_eq_true,Bool.not_eq_true',beq_iff_eq,decide_eq_true_eq,List.isEmpty_iff]at h
 obtain⟨⟨⟨⟨⟨⟨⟨⟨⟨⟨⟨h2,h3⟩,h4⟩,h5⟩,h6⟩,h7⟩,h8⟩,h9⟩,h10⟩,h11⟩,h12⟩,h13⟩:=h
 refine⟨?_,?_,h2,h3,h4,h5,h6,h7,h8,h9,h10,?_,h12,h13⟩
 ·obtain⟨o,e,h⟩:=Option.bind_eq_some_iff.mp hd
  obtain⟨oc,od,dt,osl⟩:=o
  cases HT h
  exact⟨oc,od,osl,e⟩
 ·unfold QY at h1
  induction e:fd.body using PySem.FuncBody.casesOn with
  | stmts body=>rw[e]at h1;exact⟨body,rfl,h1⟩
  | _=>rw[e]at h1;cases h1
 ·intro j x e
  have:=uM h11 j x e
  rwa [Nat.zero_add]at this
noncomputable def za(v:V)(x:Value):Bool:=match v with
 | .str s=>(match x with
   | .str y _=>(y.cps.toList==s)&&decide (s.length<=1000)&&s.all fun c=>decide (c < 0x110000)
   | _=>false)
 | _=>false
noncomputable def DN:List V->List Value->Bool
 | [],q=>q.isEmpty
 | v::vs,q=>match q with
   | []=>false
   | x::xs=>za v x&&DN vs xs
noncomputable def na(K:Frag)(v:V)(x:Value):Bool:=match v with
 | .none=>(match x with
   | .none=>true
   | _=>false)
 | .int i=>(match x with
   | .int j _=>i==j
   | _=>false)
 | .bool b=>(match x with
   | .bool c=>b==c
   | _=>false)
 | .tup vs=>(match x with
   | .ref a=>(match K.lookup a with
     | some o=>(match o.data with
       | .seq items n=>(o.cls== .type "tuple")&&decide (vs.length<=1000)&&DN vs items.toList
       | _=>false)
     | none=>false)
   | _=>false)
 | _=>false
noncomputable def RP(K:Frag):List V->List Value->Bool
 | [],q=>q.isEmpty
 | v::vs,q=>match q with
   | []=>false
   | x::xs=>na K v x&&RP K vs xs
theorem MY{g:G}{h:Heap}{U:List Addr}{v:V}{x:Value}(e:za v x=true):SA g h U v x:=by
 induction v using V.casesOn with
 | str s=>induction x using Value.casesOn with
   | str y t=>
     obtain⟨e1,e3⟩:=Bool.and_eq_true_iff.mp (show((y.cps.toList==s)&&decide (s.length<=1000)&&s.all fun c=>decide (c < 0x110000))=true from e)
     obtain⟨e1,e2⟩:=Bool.and_eq_true_iff.mp e1
     have e1:=eq_of_beq e1
     have e2:=of_decide_eq_true e2
     subst e1
     exact⟨t,rfl,by rw[LA];exact kC e2,fun c m=>of_decide_eq_true (List.all_eq_true.mp e3 c m)⟩
   | _=>exact Bool.noConfusion (show false=true from e)
 | _=>exact Bool.noConfusion (show false=true from e)
theorem gP{g:G}{h:Heap}{U:List Addr}:∀{vs:List V} {xs:List Value},DN vs xs=true->MA g h U vs xs
 | [],[],_=>trivial
 | v::vs,x::xs,e=>have e:=Bool.and_eq_true_iff.mp (show(za v x&&DN vs xs)=true from e);⟨MY e.1,gP e.2⟩
 | [],_::_,e=>Bool.noConfusion (show false=true from e)
 | _::_,[],e=>Bool.noConfusion (show false=true from e)
theorem EY{g:G}{K:Frag}{h:Heap}{U:List Addr}(X:K.In h){v:V}{x:Value}(e:na K v x=true):SA g h U v x:=by
 induction v using V.casesOn with
 | none=>induction x using Value.casesOn with
   | none=>exact rfl
   | _=>exact Bool.noConfusion (show false=true from e)
 | int i=>induction x using Value.casesOn with
   | int j t=>exact⟨t,by rw[eq_of_beq (show(i==j)=true from e)]⟩
   | _=>exact Bool.noConfusion (show false=true from e)
 | bool b=>induction x using Value.casesOn with
   | bool c=>exact congrArg Value.bool (eq_of_beq (show(b==c)=true from e)).symm
   | _=>exact Bool.noConfusion (show false=true from e)
 | tup vs=>induction x using Value.casesOn with
   | ref a=>
     have e:(match K.lookup a with
      | some o=>(match o.data with
        | .seq items n=>(o.cls== .type "tuple")&&decide (vs.length<=1000)&&DN vs items.toList
        | _=>false)
      | none=>false)=true:=e
     induction hl:K.lookup a using Option.casesOn with
     | none=>rw[hl]at e;exact Bool.noConfusion (show false=true from e)
     | some o=>
       rw[hl]at e
       obtain⟨cls,dict,data,slots⟩:=o
       induction data using PySem.Data.casesOn with
       | seq items n=>
         obtain⟨e1,e3⟩:=Bool.and_eq_true_iff.mp (show((cls== .type "tuple")&&decide (vs.length<=1000)&&DN vs items.toList)=true from e)
         obtain⟨e1,e2⟩:=Bool.and_eq_true_iff.mp e1
         have e1:=eq_of_beq e1
         have e2:=of_decide_eq_true e2
         subst e1
         exact⟨a,items,rfl,⟨_,X _ _ hl,rfl,n,rfl⟩,by exact kC e2,gP e3⟩
       | _=>exact Bool.noConfusion (show false=true from e)
   | _=>exact Bool.noConfusion (show false=true from e)
 | _=>exact Bool.noConfusion (show false=true from e)
theorem SP{g:G}{K:Frag}{h:Heap}{U:List Addr}(X:K.In h):∀(vs:List V) (xs:List Value),RP K vs xs=true->MA g h U vs xs
 | [],[],_=>trivial
 | v::vs,x::xs,e=>have e:=Bool.and_eq_true_iff.mp (show(na K v x&&RP K vs xs)=true from e);⟨EY X e.1,SP X vs xs e.2⟩
 | [],_::_,e=>Bool.noConfusion (show false=true from e)
 | _::_,[],e=>Bool.noConfusion (show false=true from e)
noncomputable def GK(K:Frag)(fd:FuncData):List Value:=match fd.defaults with
 | .ref T=>(match K.lookup T with
   | some ⟨_,_, .seq items _,_⟩=>items.toList
   | _=>[])
 | _=>[]
noncomputable def OZ:Nat->(List Value->Prop)->Prop
 | 0,P=>P []
 | n+1,P=>∀x,OZ n fun xs=>P (x::xs)
theorem Pc:∀(n:Nat) (P:List Value->Prop),OZ n P->∀xs:List Value,xs.length=n->P xs
 | 0,P,h,xs,e=>by have:=List.length_eq_zero_iff.mp e;subst this;exact h
 | n+1,P,h,xs,e=>by
   induction xs using List.casesOn with
   | nil=>cases e
   | cons x xs=>exact Pc n _ (h x) xs (by simpa using e)
noncomputable def LU(K:Frag)(F:eA)(fd:FuncData)(n:Nat):Prop:=OZ n fun xs=>∀S,peek K S (bindArgs fd ⟨xs,[]⟩)=some ((rN fd).zip (xs++(GK K fd).drop (F.dflt.length - (F.np - n))))
noncomputable def AK(K:Frag)(F:eA)(fd:FuncData):Nat->Prop
 | 0=>LU K F fd F.np
 | k+1=>LU K F fd (F.np - (k+1))/\AK K F fd k
theorem ER{K:Frag}{F:eA}{fd:FuncData}:∀{k:Nat},AK K F fd k->∀n,F.np - k<=n->n<=F.np->LU K F fd n
 | 0,h,n,h1,h2=>by have:n=F.np:=by lia
                   subst this;exact h
 | k+1,h,n,h1,h2=>by
   by_cases e:n=F.np - (k+1)
   ·subst e;exact h.1
   ·exact ER h.2 n (Nat.le_of_pred_lt (Nat.lt_of_le_of_ne h1 (Ne.symm e))) h2
theorem Id{g:G}(Y:VC g){f:Addr}{F:eA}(fd:FuncData)(hd:defOf g.K f=some fd)(h0:QY g.K F fd=some F.body)(h:XX g.K F fd=true)(hr:RP g.K F.dflt (GK g.K fd)=true)(hb:AK g.K F fd F.dflt.length)(hn:F.dflt.length<=F.np):Fn g f F:=by
 intro d hd' vs J R h1 h2 hw
 have h1:=Nat.le_of_ble_eq_true h1
 have h2:=Nat.le_of_ble_eq_true h2
 refine YX Y (WX hd h0 h) (ds:=(GK g.K fd).drop (F.dflt.length - (F.np - vs.length))) (fun hp U hk=>?_) ?_ (fun s xs hk e=>?_) hw
 ·exact(SP (Y.K.keeps hk) _ _ hr).drop _
 ·rw[List.length_append,List.length_drop,Nat.sub_sub_self (Nat.sub_le_iff_le_add.mpr (Nat.sub_le_iff_le_add'.mp h1)),Nat.add_sub_cancel' h2]
 ·have:=Pc _ _ (ER hb vs.length h1 h2) xs e
  exact kp_binds (Y.K.keeps hk) this
noncomputable def CT(K:Frag)(f:Addr):FuncData:=match defOf K f with
 | some fd=>fd
 | none=>default
noncomputable def sY(K:Frag)(f:Addr)(F:eA):Bool:=(defOf K f).isSome&&XX K F (CT K f)&&RP K F.dflt (GK K (CT K f))&&decide (F.dflt.length<=F.np)
structure fC(K:Frag)(f:Addr)(F:eA):Prop where
 chk:sY K f F=true
 body:QY K F (CT K f)=some F.body
 bind:AK K F (CT K f) F.dflt.length
theorem PA{g:G}(Y:VC g){f:Addr}{F:eA}(s:fC g.K f F):Fn g f F:=by
 have h:=s.chk
 simp only[sY,Bool.and_eq_true,decide_eq_true_eq]at h
 obtain⟨⟨⟨h1,h2⟩,h3⟩,h4⟩:=h
 refine Id Y (CT g.K f) ?_ s.body h2 h3 s.bind h4
 unfold CT
 induction e:defOf g.K f using Option.casesOn with
 | none=>rw[e]at h1;cases h1
 | some fd=>rfl
structure Bc(K:Frag):Prop where
 t84:(lW.all fun n=>JQ K 84 n&&fJ K 84 n)=true
 t643:(kO.all fun n=>WR K 643 n&&fJ K 643 n)=true
 t360:(ZS.all fun n=>WR K 360 n&&fJ K 360 n)=true
 m643:(yR.all fun p=>SQ K 643 p.1==some p.2)=true
 c480:qY K 480 [95,95,105,110,105,116,95,95]=some 414
 kp:((rR++AZ).all fun a=>keepIn K (.ref a))=true
 nst:(isNotIn K "str" 105&&isNotIn K "str" 126)=true
 exc:((subIn K (.ref 84) (.type "BaseException")==some true)&&(subIn K (.ref 84) (.type "Exception")==some true)&&hasDictIn K 84&&(typeIn K (.ref 84)==some (.type "type"))&&(exmOne K (.ref 84) (.ref 84)==some true))=true
noncomputable def kd(prog:Program)(w:World)(K:Frag)(WA:Heap)(big:∃b o,100<=b/\WA.get? b=some o)(os:OsState)(sa:Addr)(ns:List Int):G:=
 {prog:=prog,w:=w,K:=K,WA:=WA,big:=big,os:=os,sa:=sa,ns:=ns}
theorem bJ{α:Type}{n:List Nat}{a:α}:∀{l:List (List Nat×α)},l.lookup n=some a->(n,a)∈l
 | (k,b)::r,h=>by
   rw[List.lookup_cons]at h
   induction e:n==k using Bool.casesOn with
   | true=>rw[e]at h;cases h;rw[eq_of_beq e];exact List.mem_cons_self
   | false=>rw[e]at h;exact List.mem_cons_of_mem _ (bJ h)
theorem Qg{prog:Program}{w:World}{K:Frag}{WA:Heap}{big:∃b o,100<=b/\WA.get? b=some o}{os:OsState}{sa:Addr}{ns:List Int}(S:Bc K)(X:K.In WA)(hg:∃mg,WA.Ns mainGlobals mg)(hb:∃mb,WA.Ns builtinsNs mb/\∀x:Str,x≠"__name__"->mb x=bootBuiltins x)(hl:WA.NoLimit)
 (hs:∃vs,WA.IsList sa vs/\IntsAre vs.toList ns/\ns.length<=63):VC (kd prog w K WA big os sa ns) where
 K:=X
 glob:=hg
 blt:=hb
 nolimit:=hl
 tab C n h:=by
  have h2:qD C n=true:=h
  clear h
  simp only[qD,Bool.or_eq_true,Bool.and_eq_true,beq_iff_eq,List.contains_iff_mem]at h2
  rcases h2 with(⟨rfl,h⟩ | ⟨rfl,h⟩) | ⟨rfl,h⟩
  ·have:=List.all_eq_true.mp S.t84 n h
   simp only[Bool.and_eq_true]at this
   exact⟨by rw[if_pos (by rfl)];exact this.1,this.2⟩
  ·have:=List.all_eq_true.mp S.t643 n h
   simp only[Bool.and_eq_true]at this
   exact⟨by rw[if_neg (by show ¬((643:Nat)==84)=true;decide)];exact this.1,this.2⟩
  ·have:=List.all_eq_true.mp S.t360 n h
   simp only[Bool.and_eq_true]at this
   exact⟨by rw[if_neg (by show ¬((360:Nat)==84)=true;decide)];exact this.1,this.2⟩
 mth C n f h:=by
  have h:LL C n=some f:=h
  unfold LL at h
  split at h
  ·rename_i e;subst e
   have:=List.all_eq_true.mp S.m643 _ (bJ h)
   exact eq_of_beq this
  ·cases h
 cm C n f h:=by
  have h:fZ C n=some f:=h
  unfold fZ at h
  split at h
  ·rename_i e;obtain⟨rfl,rfl⟩:=e;cases h;exact S.c480
  ·cases h
 kp a h:=List.all_eq_true.mp S.kp a (List.contains_iff_mem.mp h)
 nst C h:=by
  have h:(C==105||C==126)=true:=h
  have:=S.nst
  simp only[Bool.or_eq_true,Bool.and_eq_true,beq_iff_eq]at h this
  rcases h with rfl | rfl
  ·exact this.1
  ·exact this.2
 exc C h:=by
  have h:C=84:=eq_of_beq h
  subst h
  have:=S.exc
  simp only[Bool.and_eq_true,beq_iff_eq]at this
  obtain⟨⟨⟨⟨a,b⟩,c⟩,d⟩,e⟩:=this
  exact⟨a,⟨b,c⟩,d,e⟩
 script:=hs
noncomputable def WW(stp:SharedT->Thread->Option (SharedT×Thread))(ok:Thread->Bool)(n:Nat):SharedT->Thread->Option SharedT:=
 @Nat.rec (fun u0=>SharedT->Thread->Option SharedT) (fun u0 u0=>none) (fun u0 ih s t=>match through t with
  | true=>some s
  | false=>match ok t with
    | false=>none
    | true=>match stp s t with
      | some (s',t')=>ih s' t'
      | none=>none) n
theorem zT{tb:String->Option Builtin}{p:Program}{w:World}{sV:Nat}{ann:Option Value}:∀(n:Nat) (s s':SharedT) (t:Thread),WW (stepT (denote tb) p w) (stepOk sV ann) n s t=some s'->topRun tb p w sV ann n s.abs t=some s'.abs:=by
 intro n
 induction n with
 | zero=>intro s s' t h;cases h
 | succ n ih=>
   intro s s' t h
   have h:(match through t with
    | true=>some s
    | false=>match stepOk sV ann t with
      | false=>none
      | true=>match stepT (denote tb) p w s t with
        | some (s',t')=>WW (stepT (denote tb) p w) (stepOk sV ann) n s' t'
        | none=>none)=some s':=h
   unfold topRun
   induction ht:through t using Bool.casesOn with
   | true=>rw[ht]at h;cases h;rfl
   | false=>
     rw[ht]at h
     induction hk:stepOk sV ann t using Bool.casesOn with
     | false=>rw[hk]at h;cases h
     | true=>
       rw[hk]at h
       induction hs:stepT (denote tb) p w s t using Option.casesOn with
       | none=>rw[hs]at h;cases h
       | some r=>
         obtain⟨UA,MM⟩:=r
         rw[hs]at h
         dsimp only
         rw[stepT_spec hs]
         exact ih UA s' MM h
noncomputable def bt(l:List Obj):BT:=(l.foldl (fun p o=>(p.1.ins p.2 o,p.2+1)) (BT.nil,0)).1
noncomputable def s0(w:World)(os:OsState):SharedT:=⟨bt (boot_heap w.params).objs.toList,11,(boot_heap w.params).life, #[],boot_drawn,boot_toks,os⟩
theorem ta(w:World)(os:OsState):(s0 w os).abs=⟨boot_heap w.params, #[],boot_drawn,boot_toks,os⟩:=by kernel_rfl
theorem Ge(w:World):((boot_heap w.params).isNs mainGlobals&&(#[]:Array GenState).size==0,(boot_heap w.params).objs.size,(boot_heap w.params).nsMap mainGlobals "__annotations__")=(true,11,some (.ref 6)):=by kernel_rfl
noncomputable def de(p:Program)(w:World):SharedT->Thread->Option (SharedT×Thread):=Fast.tw10156331382660048174 (Fast.tw11892475500146522536 Fast.tw14364793385576792824) p w
noncomputable def Ye:Thread->Bool:=Fast.tw6613529449190102663 11 (some (.ref 6))
theorem Pb(p:Program)(w:World):de p w=stepT (denote treeTable) p w:=by unfold de;rw[Fast.te10156331382660048174,Fast.te11892475500146522536,Fast.te14364793385576792824]
theorem Ib:Ye=stepOk 11 (some (.ref 6)):=by unfold Ye;rw[Fast.te6613529449190102663]
noncomputable def bV(p q:Program)(loose:List Str)(Xt:Shared->Bool)(w:World)(s:SharedT):Prop:=
 (staticsOk (importedModules p.main.body) (boot_heap w.params) s.abs.heap&&namesBound p s.abs.heap&&gensDone s.abs&&laidKept (boot_heap w.params) s.abs.heap)=true/\
 openSeen q loose (importedModules p.main.body) Xt true s.abs=openGood q loose
noncomputable def VR(as:List Addr)(s:SharedT):Frag:=as.filterMap fun a=>match Nat.blt a s.n with
 | true=>match s.tree.get a with
   | some o=>match alive o with
     | some o=>some (a,o)
     | none=>none
   | none=>none
 | false=>none
theorem CV(as:List Addr)(s:SharedT):(VR as s).In s.abs.heap:=by
 intro a o h
 have:(a,o)∈VR as s:=by
  generalize VR as s=l at h
  induction l with
  | nil=>cases h
  | cons p r ih=>
    obtain⟨b,x⟩:=p
    rw[List.lookup_cons]at h
    induction e:a==b using Bool.casesOn with
    | true=>rw[e]at h;cases h;rw[eq_of_beq e];exact List.mem_cons_self
    | false=>rw[e]at h;exact List.mem_cons_of_mem _ (ih h)
 obtain⟨b,_,hb⟩:=List.mem_filterMap.mp this
 set_option tactic.hygienic true in split at hb
 ·rename_i hn
  set_option tactic.hygienic true in split at hb
  ·rename_i x hx
   set_option tactic.hygienic true in split at hb
   ·rename_i y hy
    cases hb
    show(absHeap s.tree s.n s.life).get? a=some o
    rw[abs_get (by simpa[Nat.blt_eq]using hn) hx,hy]
   ·cases hb
  ·cases hb
 ·cases hb
theorem WT{p q:Program}{loose:List Str}{Xt:Shared->Bool}{α:Type}{Yf:Shared->α}{Ya:World->α}{N M:Nat}
 (e:opening p=plainProg p.main.scope.names) (hN:Nat.ble 600 N=true) (f:∀s,fenceModules? p s=some s) (le:Nat.ble M N=true)
 (run:∀(w:World) (os:OsState),∃s,WW (de p w) Ye M (s0 w os) (topStub p)=some s/\bV p q loose Xt w s/\Yf s.abs=Ya w):LeftO p q loose Xt Yf Ya N true:=fun w=>by
 obtain⟨⟨h,gs,d,k,os⟩,e1,e2⟩:=Option.map_eq_some_iff.mp (boot_open e hN f w)
 obtain⟨rfl,rfl,rfl,rfl⟩:h=boot_heap w.params/\gs= #[]/\d=boot_drawn/\k=boot_toks:=by simpa using e2
 obtain⟨z1,z2,z3⟩:_/\_/\_:=by simpa only[Prod.mk.injEq]using Ge w
 obtain⟨s,r1,⟨l1,l2⟩,l3⟩:=run w os
 rw[Pb,Ib]at r1
 have r:=zT _ _ _ _ r1
 rw[ta]at r
 have r:=topRun_mono (N - M) _ _ _ _ r
 rw[show M+(N - M)=N from Nat.add_sub_of_le (Nat.le_of_ble_eq_true le)]at r
 have t:topFrom treeTable p w N ⟨boot_heap w.params, #[],boot_drawn,boot_toks,os⟩=some s.abs:=by
  unfold topFrom
  rw[z1,z2,z3,r]
  show(match staticsOk (importedModules p.main.body) (boot_heap w.params) s.abs.heap&&namesBound p s.abs.heap&&gensDone s.abs&&laidKept (boot_heap w.params) s.abs.heap with | true=>_ | false=>_)=_
  rw[l1]
 unfold openEnds
 rw[e1]
 show(topFrom treeTable p w N _).map _=_
 rw[t]
 exact congrArg some (Prod.ext l2 l3)
structure Fc(K:Frag):Prop where
 see:Bc K
 cls84:K.lookup 84=some (excClassObj "Raised" "Raised" 84 83 [.type "Exception"] [.type "Exception", .type "BaseException", .type "object"] true [] [] false none none (some (.ref 66)) none (some (.str "Raised" 257)) (some (.str "Raised" 265)) (some (.bool true)) "Exception.__new__")
 init84:findIn K (.ref 84) "__init__"=some (some (.ref 81))
 fun81:typeIn K (.ref 81)=some (.type "function")
 mk643:makesIn K 643=true
 init643:findIn K (.ref 643) "__init__"=some (some (.ref 541))
 fun541:typeIn K (.ref 541)=some (.type "function")
 mk360:makesIn K 360=true
 init360:findIn K (.ref 360) "__init__"=some (some (.ref 357))
 fun357:typeIn K (.ref 357)=some (.type "function")
 law:nsIn K mainGlobals (Str.ofString "law")=some (some (.ref 730))
 f81:fC K 81 RG
 f357:fC K 357 LJ
 f414:fC K 414 HI
 f421:fC K 421 II
 f428:fC K 428 GH
 f442:fC K 442 KJ
 f456:fC K 456 GI
 f541:fC K 541 oE
 f555:fC K 555 YE
 f562:fC K 562 VD
 f569:fC K 569 JD
 f576:fC K 576 pE
 f583:fC K 583 ZE
 f612:fC K 612 QF
 f619:fC K 619 xD
 f626:fC K 626 PF
 f640:fC K 640 XE
 f139:fC K 139 rO
 f146:fC K 146 MV
 f153:fC K 153 nR
 f181:fC K 181 OJ
 f188:fC K 188 qO
 f195:fC K 195 NJ
 f209:fC K 209 JI
 f216:fC K 216 hM
 f223:fC K 223 QI
 f230:fC K 230 rE
 f237:fC K 237 aE
 f244:fC K 244 PI
 f251:fC K 251 UJ
 f258:fC K 258 MJ
 f265:fC K 265 gM
 f272:fC K 272 VG
 f279:fC K 279 HH
 f286:fC K 286 SG
 f293:fC K 293 KK
 f301:fC K 301 pC
 f371:fC K 371 yK
 f378:fC K 378 VJ
 f385:fC K 385 pO
 f392:fC K 392 oA
 f399:fC K 399 WG
 f491:fC K 491 UG
 f498:fC K 498 iM
 f505:fC K 505 OI
 f519:fC K 519 xK
 f526:fC K 526 LV
 f202:fC K 202 LH
 f308:fC K 308 yF
 f315:fC K 315 qE
 f322:fC K 322 sE
 f329:fC K 329 xF
 f336:fC K 336 zF
 f343:fC K 343 MH
 f652:fC K 652 JH
 f659:fC K 659 wK
 f664:fC K 664 RJ
 f671:fC K 671 MI
 f676:fC K 676 PJ
 f683:fC K 683 LI
 f690:fC K 690 IH
 f697:fC K 697 KI
 f704:fC K 704 KH
 f711:fC K 711 TJ
 f718:fC K 718 SJ
 f725:fC K 725 QJ
 f730:fC K 730 TG
theorem WV{prog:Program}{w:World}{K:Frag}{WA:Heap}{big:∃b o,100<=b/\WA.get? b=some o}{os:OsState}{sa:Addr}{ns:List Int}(F:Fc K)(Y:VC (kd prog w K WA big os sa ns)):sB (kd prog w K WA big os sa ns) where
 c84 d hd vs J R h1 h2 h:=xU Y PySem.F.excBase_Exception rfl F.cls84 F.init84 F.fun81 (by have:=Nat.le_of_ble_eq_true h2;omega) (CallOk.mono (PA Y F.f81 d hd _ _ _ (by have:=Nat.le_of_ble_eq_true h1;exact Nat.ble_eq_true_of_le (by show 6 - 3<=_;simp only[List.length_cons];omega)) (by have:=Nat.le_of_ble_eq_true h2;exact Nat.ble_eq_true_of_le (by show _<=6;simp only[List.length_cons];omega)) h) fun u0 u0=>nn)
 c643 d hd vs J R h:=OO Y rfl F.mk643 F.init643 F.fun541 h
 c360 d hd vs J R h:=OO Y rfl F.mk360 F.init360 F.fun357 h
 f357:=PA Y F.f357
 f414:=PA Y F.f414
 f421:=PA Y F.f421
 f428:=PA Y F.f428
 f442:=PA Y F.f442
 f456:=PA Y F.f456
 f541:=PA Y F.f541
 f555:=PA Y F.f555
 f562:=PA Y F.f562
 f569:=PA Y F.f569
 f576:=PA Y F.f576
 f583:=PA Y F.f583
 f612:=PA Y F.f612
 f619:=PA Y F.f619
 f626:=PA Y F.f626
 f640:=PA Y F.f640
 f139:=PA Y F.f139
 f146:=PA Y F.f146
 f153:=PA Y F.f153
 f181:=PA Y F.f181
 f188:=PA Y F.f188
 f195:=PA Y F.f195
 f209:=PA Y F.f209
 f216:=PA Y F.f216
 f223:=PA Y F.f223
 f230:=PA Y F.f230
 f237:=PA Y F.f237
 f244:=PA Y F.f244
 f251:=PA Y F.f251
 f258:=PA Y F.f258
 f265:=PA Y F.f265
 f272:=PA Y F.f272
 f279:=PA Y F.f279
 f286:=PA Y F.f286
 f293:=PA Y F.f293
 f301:=PA Y F.f301
 f371:=PA Y F.f371
 f378:=PA Y F.f378
 f385:=PA Y F.f385
 f392:=PA Y F.f392
 f399:=PA Y F.f399
 f491:=PA Y F.f491
 f498:=PA Y F.f498
 f505:=PA Y F.f505
 f519:=PA Y F.f519
 f526:=PA Y F.f526
 f202:=PA Y F.f202
 f308:=PA Y F.f308
 f315:=PA Y F.f315
 f322:=PA Y F.f322
 f329:=PA Y F.f329
 f336:=PA Y F.f336
 f343:=PA Y F.f343
 f652:=PA Y F.f652
 f659:=PA Y F.f659
 f664:=PA Y F.f664
 f671:=PA Y F.f671
 f676:=PA Y F.f676
 f683:=PA Y F.f683
 f690:=PA Y F.f690
 f697:=PA Y F.f697
 f704:=PA Y F.f704
 f711:=PA Y F.f711
 f718:=PA Y F.f718
 f725:=PA Y F.f725
 f730:=PA Y F.f730
section
open PySem.Challenge
noncomputable def Mf:List Addr:=[2,3,15,17,18,20,21,22,29,31,32,34,35,36,37,38,39,42,49,50,51,54,61,62,63,66,73,74,75,77,78,80,81,82,83,84,85,95,96,98,99,101,102,103,104,105,106,107,117,119,120,122,123,124,125,126,127,128,131,132,133,135,136,138,139,140,142,143,145,146,147,149,150,152,153,154,156,157,159,160,161,163,164,166,167,168,170,171,173,174,175,177,178,180,181,182,184,185,187,188,189,191,192,194,195,196,198,199,201,202,203,205,206,208,209,210,212,213,215,216,217,219,220,222,223,224,226,227,229,230,231,233,234,236,237,238,240,241,243,244,245,247,248,250,251,252,254,255,257,258,259,261,262,264,265,266,268,269,271,272,273,275,276,278,279,280,282,283,285,286,287,289,290,292,293,294,295,297,298,300,301,302,304,305,307,308,309,311,312,314,315,316,318,319,321,322,323,325,326,328,329,330,332,333,335,336,337,339,340,342,343,344,346,347,349,351,353,354,356,357,358,359,360,361,362,365,367,368,370,371,372,374,375,377,378,379,381,382,384,385,386,388,389,391,392,393,395,396,398,399,407,408,410,411,413,414,415,417,418,420,421,422,424,425,427,428,429,431,432,434,435,436,438,439,441,442,443,445,446,448,449,450,452,453,455,456,457,459,460,462,463,464,466,467,469,470,471,473,474,476,477,478,479,480,481,482,485,487,488,490,491,492,494,495,497,498,499,501,502,504,505,506,508,509,511,512,513,515,516,518,519,520,522,523,525,526,527,534,535,537,538,540,541,542,544,545,547,548,549,551,552,554,555,556,558,559,561,562,563,565,566,568,569,570,572,573,575,576,577,579,580,582,583,584,586,587,589,590,591,593,594,596,597,598,600,601,603,604,605,606,608,609,611,612,613,615,616,618,619,620,622,623,625,626,627,629,630,632,633,634,636,637,639,640,641,642,643,646,648,649,651,652,653,655,656,658,659,660,663,664,665,667,668,670,671,672,675,676,677,679,680,682,683,684,686,687,689,690,691,693,694,696,697,698,700,701,703,704,705,707,708,710,711,712,714,715,717,718,719,721,722,724,725,726,729,730]
noncomputable def qL:Program:=view pw_np0149_01 [70]
noncomputable def lN:List Str:=(pw_np0149_01.main.scope.names.map (·.1)).filter fun x=>x !="law"
noncomputable def qf(s:Shared):Bool:=xlAt qL [] s&&recOk (RowW.records rw_np0149_01.row.toRowW) s
noncomputable def PX(w:World)(os:OsState):SharedT:=(WW (de pw_np0149_01 w) Ye 5000 (s0 w os) (topStub pw_np0149_01)).getD (s0 w os)
noncomputable def kL(w:World)(os:OsState):Frag:=VR Mf (PX w os)
theorem pa(w:World)(os:OsState):WW (de pw_np0149_01 w) Ye 5000 (s0 w os) (topStub pw_np0149_01)=some (PX w os)/\bV pw_np0149_01 qL lN qf w (PX w os)/\Fc (kL w os):=
 ⟨by kernel_rfl,⟨by kernel_rfl,by kernel_rfl⟩,⟨by kernel_rfl,by kernel_rfl,by kernel_rfl,by kernel_rfl,by kernel_rfl,by kernel_rfl,by kernel_rfl,by kernel_rfl⟩,by kernel_rfl,by kernel_rfl,by kernel_rfl,by kernel_rfl,by kernel_rfl,by kernel_rfl,by kernel_rfl,by kernel_rfl,by kernel_rfl,by kernel_rfl,
  ⟨by kernel_rfl,by kernel_rfl,⟨fun u0 u0 u0 u0=>by kernel_rfl,fun u0 u0 u0 u0 u0=>by kernel_rfl,fun u0 u0 u0 u0 u0 u0=>by kernel_rfl,fun u0 u0 u0 u0 u0 u0 u0=>by kernel_rfl⟩⟩,
  ⟨by kernel_rfl,by kernel_rfl,fun u0 u0=>by kernel_rfl⟩,
  ⟨by kernel_rfl,by kernel_rfl,⟨fun u0 u0=>by kernel_rfl,fun u0 u0 u0=>by kernel_rfl,fun u0 u0 u0 u0=>by kernel_rfl⟩⟩,
  ⟨by kernel_rfl,by kernel_rfl,fun u0 u0 u0=>by kernel_rfl⟩,
  ⟨by kernel_rfl,by kernel_rfl,fun u0 u0=>by kernel_rfl⟩,
  ⟨by kernel_rfl,by kernel_rfl,fun u0 u0 u0=>by kernel_rfl⟩,
  ⟨by kernel_rfl,by kernel_rfl,fun u0 u0 u0=>by kernel_rfl⟩,
  ⟨by kernel_rfl,by kernel_rfl,⟨fun u0 u0=>by kernel_rfl,fun u0 u0 u0=>by kernel_rfl,fun u0 u0 u0 u0=>by kernel_rfl⟩⟩,
  ⟨by kernel_rfl,by kernel_rfl,fun u0 u0 u0=>by kernel_rfl⟩,
  ⟨by kernel_rfl,by kernel_rfl,fun u0 u0 u0 u0=>by kernel_rfl⟩,
  ⟨by kernel_rfl,by kernel_rfl,fun u0 u0 u0 u0 u0=>by kernel_rfl⟩,
  ⟨by kernel_rfl,by kernel_rfl,fun u0 u0 u0=>by kernel_rfl⟩,
  ⟨by kernel_rfl,by kernel_rfl,fun u0 u0 u0 u0=>by kernel_rfl⟩,
  ⟨by kernel_rfl,by kernel_rfl,⟨fun u0 u0 u0 u0=>by kernel_rfl,fun u0 u0 u0 u0 u0=>by kernel_rfl⟩⟩,
  ⟨by kernel_rfl,by kernel_rfl,fun u0 u0 u0=>by kernel_rfl⟩,
  ⟨by kernel_rfl,by kernel_rfl,fun u0 u0 u0=>by kernel_rfl⟩,
  ⟨by kernel_rfl,by kernel_rfl,fun u0 u0 u0=>by kernel_rfl⟩,
  ⟨by kernel_rfl,by kernel_rfl,⟨fun u0 u0=>by kernel_rfl,fun u0 u0 u0=>by kernel_rfl⟩⟩,
  ⟨by kernel_rfl,by kernel_rfl,fun u0 u0 u0=>by kernel_rfl⟩,
  ⟨by kernel_rfl,by kernel_rfl,fun u0 u0 u0=>by kernel_rfl⟩,
  ⟨by kernel_rfl,by kernel_rfl,fun u0 u0=>by kernel_rfl⟩,
  ⟨by kernel_rfl,by kernel_rfl,fun u0 u0=>by kernel_rfl⟩,
  ⟨by kernel_rfl,by kernel_rfl,fun u0 u0 u0=>by kernel_rfl⟩,
  ⟨by kernel_rfl,by kernel_rfl,fun u0 u0 u0=>by kernel_rfl⟩,
  ⟨by kernel_rfl,by kernel_rfl,fun u0 u0=>by kernel_rfl⟩,
  ⟨by kernel_rfl,by kernel_rfl,fun u0 u0 u0=>by kernel_rfl⟩,
  ⟨by kernel_rfl,by kernel_rfl,fun u0 u0 u0=>by kernel_rfl⟩,
  ⟨by kernel_rfl,by kernel_rfl,fun u0 u0 u0=>by kernel_rfl⟩,
  ⟨by kernel_rfl,by kernel_rfl,fun u0 u0 u0=>by kernel_rfl⟩,
  ⟨by kernel_rfl,by kernel_rfl,fun u0 u0 u0=>by kernel_rfl⟩,
  ⟨by kernel_rfl,by kernel_rfl,fun u0 u0 u0=>by kernel_rfl⟩,
  ⟨by kernel_rfl,by kernel_rfl,fun u0 u0 u0=>by kernel_rfl⟩,
  ⟨by kernel_rfl,by kernel_rfl,fun u0 u0 u0 u0=>by kernel_rfl⟩,
  ⟨by kernel_rfl,by kernel_rfl,fun u0 u0=>by kernel_rfl⟩,
  ⟨by kernel_rfl,by kernel_rfl,fun u0 u0 u0=>by kernel_rfl⟩,
  ⟨by kernel_rfl,by kernel_rfl,fun u0 u0 u0 u0=>by kernel_rfl⟩,
  ⟨by kernel_rfl,by kernel_rfl,⟨fun u0 u0 u0=>by kernel_rfl,fun u0 u0 u0 u0=>by kernel_rfl⟩⟩,
  ⟨by kernel_rfl,by kernel_rfl,fun u0 u0 u0=>by kernel_rfl⟩,
  ⟨by kernel_rfl,by kernel_rfl,fun u0 u0 u0=>by kernel_rfl⟩,
  ⟨by kernel_rfl,by kernel_rfl,fun u0 u0 u0 u0 u0=>by kernel_rfl⟩,
  ⟨by kernel_rfl,by kernel_rfl,fun u0 u0 u0=>by kernel_rfl⟩,
  ⟨by kernel_rfl,by kernel_rfl,fun u0 u0=>by kernel_rfl⟩,
  ⟨by kernel_rfl,by kernel_rfl,fun u0 u0 u0=>by kernel_rfl⟩,
  ⟨by kernel_rfl,by kernel_rfl,fun u0 u0 u0=>by kernel_rfl⟩,
  ⟨by kernel_rfl,by kernel_rfl,fun u0 u0 u0 u0=>by kernel_rfl⟩,
  ⟨by kernel_rfl,by kernel_rfl,fun u0 u0=>by kernel_rfl⟩,
  ⟨by kernel_rfl,by kernel_rfl,fun u0 u0 u0 u0 u0=>by kernel_rfl⟩,
  ⟨by kernel_rfl,by kernel_rfl,fun u0 u0 u0=>by kernel_rfl⟩,
  ⟨by kernel_rfl,by kernel_rfl,fun u0 u0 u0 u0=>by kernel_rfl⟩,
  ⟨by kernel_rfl,by kernel_rfl,fun u0 u0 u0=>by kernel_rfl⟩,
  ⟨by kernel_rfl,by kernel_rfl,fun u0 u0 u0=>by kernel_rfl⟩,
  ⟨by kernel_rfl,by kernel_rfl,fun u0 u0 u0=>by kernel_rfl⟩,
  ⟨by kernel_rfl,by kernel_rfl,fun u0 u0 u0=>by kernel_rfl⟩,
  ⟨by kernel_rfl,by kernel_rfl,fun u0 u0=>by kernel_rfl⟩,
  ⟨by kernel_rfl,by kernel_rfl,fun u0 u0 u0=>by kernel_rfl⟩,
  ⟨by kernel_rfl,by kernel_rfl,fun u0 u0=>by kernel_rfl⟩,
  ⟨by kernel_rfl,by kernel_rfl,fun u0 u0=>by kernel_rfl⟩,
  ⟨by kernel_rfl,by kernel_rfl,fun u0 u0=>by kernel_rfl⟩,
  ⟨by kernel_rfl,by kernel_rfl,fun u0 u0=>by kernel_rfl⟩,
  ⟨by kernel_rfl,by kernel_rfl,fun u0 u0 u0=>by kernel_rfl⟩,
  ⟨by kernel_rfl,by kernel_rfl,fun u0 u0 u0 u0 u0=>by kernel_rfl⟩,
  ⟨by kernel_rfl,by kernel_rfl,fun u0 u0=>by kernel_rfl⟩,
  ⟨by kernel_rfl,by kernel_rfl,fun u0 u0 u0 u0=>by kernel_rfl⟩,
  ⟨by kernel_rfl,by kernel_rfl,fun u0 u0 u0 u0=>by kernel_rfl⟩,
  ⟨by kernel_rfl,by kernel_rfl,fun u0 u0 u0 u0=>by kernel_rfl⟩,
  ⟨by kernel_rfl,by kernel_rfl,fun u0 u0 u0 u0=>by kernel_rfl⟩,
  ⟨by kernel_rfl,by kernel_rfl,fun u0 u0=>by kernel_rfl⟩⟩
end
section
mutual
noncomputable def below(n:Nat):V->Bool
 | .loc l=>Nat.blt l n
 | .tup vs=>UB n vs
 | _=>true
noncomputable def UB(n:Nat):List V->Bool
 | []=>true
 | v::vs=>below n v&&UB n vs
end
noncomputable def Ed(code:Int)(value:List Nat)(ec:V)(level ret:Int)(info:List Nat)(noted:Bool)(line:Int)(xl:Nat):List (List Nat×V):=
 [([99,111,100,101], .int code),([118,97,108,117,101], .str value),([101,114,114,111,114,99,111,100,101],ec),([108,101,118,101,108], .int level),([114,101,116], .int ret),
  ([105,110,102,111], .str info),([105,115,95,110,111,116,101,100], .bool noted),([108,105,110,101], .int line),([101,120,116,114,97], .loc xl)]
structure Rz where
 code:Int
 value:List Nat
 ec:V
 info:List Nat
 noted:Bool
 line:Int
noncomputable def Rz.ad(z:Rz)(xl:Nat):List (List Nat×V):=Ed z.code z.value z.ec 0 0 z.info z.noted z.line xl
noncomputable def bL(n:Nat)(z:Rz):List O:=[.exc 84 (n+1), .ad (z.ad (n+2)), .list []]
noncomputable def ZH:V:= .tup [.str [78,79,78,69]]
noncomputable def VF(why:List Nat)(ec:V):Rz:=⟨1,why,ec,[],false,0⟩
noncomputable def xB(n:Nat)(why:List Nat)(ec:V):List O:=bL n (VF why ec)
inductive Fin(J:List O):iE->List O->iE->List O->Prop
 | same {r:iE} {NA:List O}:Fin J r NA r NA
 | ok {v:V} {j:List O} (h:below J.length v=true):Fin J (.ok v) (J++j) (.ok v) J
 | exn {j:List O} {l dl xl:Nat} {z:Rz} (h1:J.length<=l) (h2:J.length<=dl) (h3:J.length<=xl) (h4:(J++j)[l]?=some (.exc 84 dl)) (h5:(J++j)[dl]?=some (.ad (z.ad xl))) (h6:(J++j)[xl]?=some (.list [])) (h:below J.length z.ec=true):
  Fin J (.exn l) (J++j) (.exn J.length) (J++bL J.length z)
section
variable{g:G}{h:Heap}{U iA:List Addr}
mutual
theorem SA.below:∀{v:V} {x:Value},SA g h U v x->Mine.below U.length v=true
 | .none,_,_=>rfl
 | .bool _,_,_=>rfl
 | .int _,_,_=>rfl
 | .str _,_,_=>rfl
 | .tup vs,_,⟨_,_,_,_,_,r⟩=>MA.below r
 | .loc l,_,⟨_,e,_⟩=>by
   show Nat.blt l U.length=true
   rw[Nat.blt_eq];exact(List.getElem?_eq_some_iff.mp e).1
 | .val _,_,_=>rfl
 | .script,_,_=>rfl
theorem MA.below:∀{vs:List V} {xs:List Value},MA g h U vs xs->UB U.length vs=true
 | [],[],_=>rfl
 | v::vs,x::xs,⟨a,b⟩=>by show(Mine.below _ v&&UB _ vs)=true;rw[SA.below a,MA.below b];rfl
 | [],_::_,r=>r.elim
 | _::_,[],r=>r.elim
end
theorem kZ{l n:Nat}{a:Addr}(hl:l < n)(hn:U.take n=iA.take n)(e:U[l]?=some a):iA[l]?=some a:=by
 have h1:(U.take n)[l]?=some a:=by rw[List.getElem?_take,if_pos hl];exact e
 rw[hn,List.getElem?_take,if_pos hl]at h1
 exact h1
mutual
theorem SA.cut{n:Nat}(hn:U.take n=iA.take n):∀{v:V} {x:Value},Mine.below n v=true->SA g h U v x->SA g h iA v x
 | .none,_,_,r=>r
 | .bool _,_,_,r=>r
 | .int _,_,_,r=>r
 | .str _,_,_,r=>r
 | .tup vs,_,b,⟨a,os,e,t,z,r⟩=>⟨a,os,e,t,z,MA.cut hn b r⟩
 | .loc l,_,b,⟨a,e,q⟩=>⟨a,kZ (by have:Nat.blt l n=true:=b;rwa [Nat.blt_eq]at this) hn e,q⟩
 | .val _,_,_,r=>r
 | .script,_,_,r=>r
theorem MA.cut{n:Nat}(hn:U.take n=iA.take n):∀{vs:List V} {xs:List Value},UB n vs=true->MA g h U vs xs->MA g h iA vs xs
 | [],[],_,_=>trivial
 | v::vs,x::xs,b,⟨p,q⟩=>⟨SA.cut hn (Bool.and_eq_true_iff.mp b).1 p,MA.cut hn (Bool.and_eq_true_iff.mp b).2 q⟩
 | [],_::_,_,r=>r.elim
 | _::_,[],_,r=>r.elim
end
theorem cB.back{WA:Heap}{n:Nat}(hn:iA.take n=U.take n)(hl:U.length=n):∀{kvs:List (List Nat×V)} {ps DZ:List (Str×Value)},cB g WA U kvs DZ->cB g h iA kvs ps->cB g h U kvs ps
 | [],[],_,_,_=>trivial
 | kv::kvs,p::ps,q::qs,⟨⟨_,_,_,b⟩,br⟩,⟨⟨a1,a2,a3,a4⟩,r⟩=>⟨⟨a1,a2,a3,SA.cut hn (hl ▸ SA.below b) a4⟩,cB.back hn hl br r⟩
 | [],_::_,_,_,r=>r.elim
 | _::_,[],_,_,r=>r.elim
 | _::_,_::_,[],b,_=>b.elim
theorem bF.back{WA:Heap}{n:Nat}(hn:iA.take n=U.take n)(hl:U.length=n){a Nf:Addr}{x:O}(DW:bF g WA U Nf x)(r:bF g h iA a x):bF g h U a x:=by
 induction x using O.casesOn with
 | list vs=>obtain⟨os,k,e,z,q⟩:=r;obtain⟨_,_,_,_,q0⟩:=DW;exact⟨os,k,e,z,MA.cut hn (hl ▸ MA.below q0) q⟩
 | dict kvs ep=>obtain⟨ps,e,z,q⟩:=r;obtain⟨_,_,_,q0⟩:=DW;exact⟨ps,e,z,cB.back hn hl q0 q⟩
 | ad kvs=>
   obtain⟨o,m,e,c,N,z,q⟩:=r
   obtain⟨_,m0,_,_,_,_,q0⟩:=DW
   refine⟨o,m,e,c,N,z,fun k=>?_⟩
   have h1:=q k;have h0:=q0 k
   revert h1 h0
   cases QA k kvs <;>cases m ⟨k.toArray⟩ <;>cases m0 ⟨k.toArray⟩ <;>intro h1 h0 <;>first | exact h1 | exact h0.elim | exact SA.cut hn (hl ▸ SA.below (show SA g WA U _ _ from h0)) h1
 | inst C dl=>obtain⟨x0,dx,e,q⟩:=r;obtain⟨_,dx0,e0,_⟩:=DW;exact⟨x0,dx,kZ (hl ▸ (List.getElem?_eq_some_iff.mp e0).1) hn e,q⟩
 | exc C dl=>obtain⟨x0,dx,vs,e,q,t⟩:=r;obtain⟨_,dx0,_,e0,_⟩:=DW;exact⟨x0,dx,vs,kZ (hl ▸ (List.getElem?_eq_some_iff.mp e0).1) hn e,q,t⟩
 | exc0 C=>exact r
end
section
variable{g:G}{s s':Shared}{U new:List Addr}{J j:List O}
theorem St.back(S:St g s U J)(S':St g s' (U++new) (J++j)):St g s' U J where
 base:=S'.base
 nodup:=(List.nodup_append.mp S'.nodup).1
 fresh:=fun a m=>S'.fresh a (List.mem_append.mpr (.inl m))
 len:=S.len
 objs:=fun l a x e q=>by
  have hl:l < U.length:=(List.getElem?_eq_some_iff.mp e).1
  have r:=S'.objs l a x (by rw[List.getElem?_append_left hl];exact e) (by rw[List.getElem?_append_left (S.len ▸ hl)];exact q)
  exact bF.back (by simp) rfl (S.objs l a x e q) r
 gens:=S'.gens
 os:=S'.os
theorem KA.back{h h':Heap}{X:List Addr}(T:KA h h' U (U++new) X):KA h h' U U X:=⟨⟨[],by simp,fun u0 m=>nomatch m⟩,T.keep,T.shape,T.alive,T.tbs⟩
end
end
section
variable{g:G}{s s':Shared}{U new as:List Addr}{J j js:List O}
theorem St.app(S:St g s U J)(hl:as.length=js.length)(hn:(U++as).Nodup)(hf:∀a∈as,g.WA.get? a=none/\100<=a)(ho:∀(i:Nat) (a:Addr) (x:O),as[i]?=some a->js[i]?=some x->bF g s.heap (U++as) a x):St g s (U++as) (J++js) where
 base:=S.base
 nodup:=hn
 fresh:=fun a m=>(List.mem_append.mp m).elim (S.fresh a) (hf a)
 len:=by simp[S.len,hl]
 objs:=fun l a x e q=>by
  by_cases h:l < U.length
  ·rw[List.getElem?_append_left h]at e
   rw[List.getElem?_append_left (S.len ▸ h)]at q
   exact(S.objs l a x e q).congr rfl (fun u0 u0 t=>t) (fun l b e=>by rw[List.getElem?_append_left (List.getElem?_eq_some_iff.mp e).1];exact e) fun b z e z'=>⟨z,e,z'⟩
  ·rw[List.getElem?_append_right (Nat.le_of_not_lt h)]at e
   rw[List.getElem?_append_right (S.len ▸ Nat.le_of_not_lt h), <-S.len]at q
   exact ho _ a x e q
 gens:=S.gens
 os:=S.os
class inductive UK(h:Heap)(g:G)(U iA:List Addr):List (List Nat×V)->List (List Nat×V)->Prop
 | nil:UK h g U iA [] []
 | same {k:List Nat} {v:V} {a b:List (List Nat×V)}:(∀x,SA g h U v x->SA g h iA v x)->UK h g U iA a b->UK h g U iA ((k,v)::a) ((k,v)::b)
 | turn {k:List Nat} {v w:V} {a b:List (List Nat×V)}:(∀x,SA g h U v x->SA g h iA w x)->UK h g U iA a b->UK h g U iA ((k,v)::a) ((k,w)::b)
theorem gd{h:Heap}{U iA:List Addr}{k:List Nat}{kvs kvs':List (List Nat×V)}(al:UK h g U iA kvs kvs'):∀{o:Option Value},rJ g h U (QA k kvs) o->rJ g h iA (QA k kvs') o:=by
 have step:∀{k1:List Nat} {v w:V} {a b:List (List Nat×V)},(∀x,SA g h U v x->SA g h iA w x)->(∀{o:Option Value},rJ g h U (QA k a) o->rJ g h iA (QA k b) o)->∀{o:Option Value},rJ g h U (QA k ((k1,v)::a)) o->rJ g h iA (QA k ((k1,w)::b)) o:=fun {k1 v w a b} f ih o r=>by
  have r:rJ g h U (if k1=k then some v else QA k a) o:=r
  show rJ g h iA (if k1=k then some w else QA k b) o
  by_cases q:k1=k
  ·rw[if_pos q]at r ⊢
   induction o using Option.casesOn with
   | none=>exact r
   | some x=>exact f x r
  ·rw[if_neg q]at r ⊢
   exact ih r
 induction al with
 | nil=>exact fun {o} r=>by induction o using Option.casesOn <;>exact r
 | same f _ ih=>exact step f ih
 | turn f _ ih=>exact step f ih
theorem ia{l:Nat}(S':St g s (U++new) (J++j)){x:O}(h:(J++j)[l]?=some x)(hl:U.length<=l):∃a,(U++new)[l]?=some a/\a∈new/\bF g s.heap (U++new) a x:=by
 obtain⟨a,ha,r⟩:=S'.obj h
 refine⟨a,ha,?_,r⟩
 rw[List.getElem?_append_right hl]at ha
 exact List.mem_of_getElem? ha
theorem St.exn(S:St g s U J)(S':St g s' (U++new) (J++j)){l dl xl:Nat}{z:Rz}(h1:J.length<=l)(h2:J.length<=dl)(h3:J.length<=xl)(h4:(J++j)[l]?=some (.exc 84 dl))(h5:(J++j)[dl]?=some (.ad (z.ad xl)))(h6:(J++j)[xl]?=some (.list []))(hz:below J.length z.ec=true){a:Addr}(ha:(U++new)[l]?=some a):
 ∃a2 a3,(∀b∈[a,a2,a3],b∈new)/\St g s' (U++[a,a2,a3]) (J++bL J.length z):=by
 rw[<-S.len]at h1 h2 h3
 obtain⟨a1,e1,m1,r1⟩:=ia S' h4 h1
 rw[ha]at e1;cases e1
 obtain⟨a2,e2,m2,r2⟩:=ia S' h5 h2
 obtain⟨a3,e3,m3,r3⟩:=ia S' h6 h3
 have nd:=List.nodup_append.mp S'.nodup
 have inj:∀{p q:Nat} {b:Addr},(U++new)[p]?=some b->(U++new)[q]?=some b->p=q:=fun {p q b} x y=>by
  obtain⟨u1,x⟩:=List.getElem?_eq_some_iff.mp x
  obtain⟨u2,y⟩:=List.getElem?_eq_some_iff.mp y
  exact(List.getElem_inj S'.nodup).mp (x.trans y.symm)
 have ne12:a≠a2:=fun q=>by subst q;have:=inj ha e2;subst this;rw[h4]at h5;cases h5
 have ne13:a≠a3:=fun q=>by subst q;have:=inj ha e3;subst this;rw[h4]at h6;cases h6
 have ne23:a2≠a3:=fun q=>by subst q;have:=inj e2 e3;subst this;rw[h5]at h6;cases h6
 have hm:∀b∈[a,a2,a3],b∈new:=by
  intro b m
  simp only[List.mem_cons,List.not_mem_nil,or_false]at m
  rcases m with rfl | rfl | rfl <;>assumption
 have n0:J.length=U.length:=S.len.symm
 have at1:(U++[a,a2,a3])[J.length+1]?=some a2:=by rw[n0,List.getElem?_append_right (by exact Nat.le_add_right _ _),Nat.add_sub_cancel_left];rfl
 have at2:(U++[a,a2,a3])[J.length+2]?=some a3:=by rw[n0,List.getElem?_append_right (by exact Nat.le_add_right _ _),Nat.add_sub_cancel_left];rfl
 refine⟨a2,a3,hm,(S.back S').app rfl ?_ (fun b m=>S'.fresh b (List.mem_append.mpr (.inr (hm b m)))) ?_⟩
 ·refine List.nodup_append.mpr ⟨nd.1,?_,fun b mb c mc=>nd.2.2 b mb c (hm c mc)⟩
  simp[ne12,ne13,ne23]
 ·intro i b x eb ex
  rcases i with _ | _ | _ | i
  ·cases eb;cases ex
   obtain⟨x0,dx,vs,q1,q2,q3⟩:=r1
   rw[e2]at q1;cases q1
   exact⟨x0,a2,vs,at1,q2,q3⟩
  ·cases eb;cases ex
   obtain⟨o,m,q1,q2,q3,q4,q5⟩:=r2
   refine⟨o,m,q1,q2,q3,q4,fun k=>?_⟩
   have al:UK s'.heap g (U++new) (U++[a,a2,a3]) (z.ad xl) (z.ad (J.length+2)):= .same (fun u0 r=>r) (.same (fun u0 r=>r) (.same (fun u0 r=>SA.cut (n:=J.length) (by rw[n0];simp) hz r) (.same (fun u0 r=>r) (.same (fun u0 r=>r) (.same (fun u0 r=>r) (.same (fun u0 r=>r) (.same (fun u0 r=>r) (.turn (v:= .loc xl) (w:= .loc (J.length+2)) (fun x r=>by obtain⟨b,r,e⟩:=(r:lY _ _ _);exact⟨b,at2.trans (e3.symm.trans r),e⟩) .nil))))))))
   exact gd al (q5 k)
  ·cases eb;cases ex
   obtain⟨os,k,q1,q2,q3⟩:=r3
   exact⟨os,k,q1,q2,by induction hq:os.toList using List.casesOn with
    | nil=>trivial
    | cons _ _=>rw[hq]at q3;exact q3.elim⟩
  ·cases eb
theorem CallOk.fin{d:Nat}{hd:Option Nat}{f:Value}{vs:List V}{R:iE->List O->Prop}(h:CallOk g d hd f vs J fun r NA=>∃r0 kG,Fin J r NA r0 kG/\R r0 kG):CallOk g d hd f vs J R:=by
 intro A s U xs C S rr
 refine codeAny_mono (h A s U xs C S rr) fun r s' p=>?_
 rcases r with e | (_ | _ | _ | v)
 ·obtain⟨⟨l,NA,iA,a,⟨r0,kG,F,q⟩,ha,he,hx,S',T⟩,t⟩:=p
  cases F with
  | same=>exact⟨⟨l,NA,iA,a,q,ha,he,hx,S',T⟩,t⟩
  | exn h1 h2 h3 h4 h5 h6 hz=>
    obtain⟨new,rfl,hn⟩:=T.pre
    obtain⟨a2,a3,hm,S''⟩:=S.exn S' h1 h2 h3 h4 h5 h6 hz ha
    have e1:(U++[a,a2,a3])[J.length]?=some a:=by rw[<-S.len];simp
    exact⟨⟨_,_,_,a,q,e1,he,⟨84,J.length+1,by simp[bL]⟩,S'',⟨⟨_,rfl,fun b m=>hn b (hm b m)⟩,T.keep,T.shape,T.alive,T.tbs⟩⟩,t⟩
 ·exact p.elim
 ·exact p.elim
 ·exact p.elim
 ·obtain⟨mv,NA,iA,⟨r0,kG,F,q⟩,rv,S',T⟩:=p
  cases F with
  | same=>exact⟨mv,NA,iA,q,rv,S',T⟩
  | ok hv=>
    obtain⟨new,rfl,hn⟩:=T.pre
    exact⟨mv,J,U,q,SA.cut (n:=J.length) (by rw[<-S.len];simp) hv rv,S.back S',T.back⟩
end
section
variable{g:G}{d:Nat}{hd:Option Nat}
theorem Fn.run{a:Addr}{F:eA}(P:Fn g a F){vs:List V}{J:List O}{S:Sp}(h1:Nat.ble (F.np - F.dflt.length) vs.length=true)(h2:Nat.ble vs.length F.np=true)
 (h:∀K:iE->List O->Prop,(∀{r NA r0 kG},K r NA->Fin J r NA r0 kG->S.R r0 kG->False)->dF g d hd F vs J K->False):JA g (d+1) hd a vs J S:=by
 exact CallOk.fin ((P d hd vs J (fun r NA=>¬∃r0 kG,Fin J r NA r0 kG/\S.R r0 kG) h1 h2 fun f=>h _ (fun a b c=>a ⟨_,_,b,c⟩) f).mono fun u0 u0=>nn)
end
section
variable{g:G}{d:Nat}{hd:Option Nat}{J:List O}{T s:List Nat}{n:Nat}
theorem OA{c:Nat}(h:DB T n (c::s)):QT g J (.str T) (.int (n:Int))=some (.str [c]):=by
 show(cK T (n:Int)).map _=_
 rw[BX,show T[n]?=some c from h.get 0];rfl
theorem FC(h:DB T n s):decide ((n:Int) < (T.length:Int))=!s.isEmpty:=by
 have:=h.len
 induction s using List.casesOn with
 | nil=>exact decide_eq_false (by simp only[List.length_nil]at this;lia)
 | cons c s=>exact decide_eq_true (by simp only[List.length_cons]at this;lia)
theorem IJ(h:DB T n s):decide ((T.length:Int)<=(n:Int))=s.isEmpty:=by
 have:=h.len
 induction s using List.casesOn with
 | nil=>exact decide_eq_true (by simp only[List.length_nil]at this;lia)
 | cons c s=>exact decide_eq_false (by simp only[List.length_cons]at this;lia)
theorem DB.sub{t:List Nat}(h:DB T n s)(k:t <:+ s):∃m,DB T m t:=by
 obtain⟨a,rfl⟩:=k;exact⟨_,h.app⟩
theorem DB.of{t:List Nat}(h:DB T n s)(e:t=s):DB T n t:=e ▸ h
theorem DB.fin{a b:Nat}(h:DB T a s)(k:DB T b s):iE.ok (.int (a:Int))=iE.ok (.int (b:Int))/\J=J:=by rw[h.uniq k];exact⟨rfl,rfl⟩
theorem jC{a b:List Nat}(hl:a.length+b.length<=10000000):uJ .Add (.str a) (.str b)=some (.str (a++b)):=by
 show(if a.length+b.length<=sizeLine then _ else _)=_;rw[if_pos (by show _<=2^24;exact kC hl)]
noncomputable def XG(c:Nat):Bool:=[[32],[9],[11],[12],[13]].contains [c]
theorem CL(P:Prog g){c:Nat}:JA g (d+1) hd 216 [.str [c]] J (.at (.ok (.bool (XG c))) J):=
 P.f216.run rfl rfl fun K e f=>e (f _ rfl) .same ⟨rfl,rfl⟩
noncomputable def JC(c:Nat):Int:=if 48<=c/\c<=57 then c - 48 else if 97<=c/\c<=122 then c - 87 else if 65<=c/\c<=90 then c - 55 else -1
theorem HK(P:Prog g){c:Nat}:JA g (d+1) hd 188 [.str [c]] J (.at (.ok (.int (JC c))) J):=
 P.f188.run rfl rfl fun K e f=>by
   unfold JC at e
   have i:∀a b:Nat,(decide ((a:Int)<=(c:Int))&&decide ((c:Int)<=(b:Int)))=decide (a<=c/\c<=b):=fun a b=>by simp only[Int.ofNat_le,Bool.decide_and]
   by_cases h1:48<=c/\c<=57
   ·exact e (f false rfl _ _ id true ((i 48 57).trans (decide_eq_true h1))) .same ⟨by rw[if_pos h1],rfl⟩
   by_cases h2:97<=c/\c<=122
   ·exact e (f false rfl _ _ id false ((i 48 57).trans (decide_eq_false h1)) true ((i 97 122).trans (decide_eq_true h2))) .same ⟨by rw[if_neg h1,if_pos h2],rfl⟩
   by_cases h3:65<=c/\c<=90
   ·exact e (f false rfl _ _ id false ((i 48 57).trans (decide_eq_false h1)) false ((i 97 122).trans (decide_eq_false h2)) true ((i 65 90).trans (decide_eq_true h3))) .same ⟨by rw[if_neg h1,if_neg h2,if_pos h3],rfl⟩
   ·exact e (f false rfl _ _ id false ((i 48 57).trans (decide_eq_false h1)) false ((i 97 122).trans (decide_eq_false h2)) false ((i 65 90).trans (decide_eq_false h3))) .same ⟨by rw[if_neg h1,if_neg h2,if_neg h3],rfl⟩
noncomputable def IA:List Nat->List Nat
 | []=>[]
 | [c]=>if XG c then[]else[c]
 | c::c2::r=>if XG c then IA (c2::r)else if c=92/\c2=10 then IA r else c::c2::r
theorem IA.r1:IA []=([]):=rfl
theorem IA.r2:IA [c]=(if XG c then[]else[c]):=rfl
theorem IA.r3:IA (c::c2::r)=(if XG c then IA (c2::r)else if c=92/\c2=10 then IA r else c::c2::r):=rfl
theorem ZB{c:Nat}(h:XG c=true)(r:List Nat):IA (c::r)=IA r:=by
 induction r using List.casesOn with
 | nil=>simp[IA.r1,IA.r2,IA.r3,h]
 | cons c2 r=>(first | rw[IA.r1,if_pos h] | rw[IA.r2,if_pos h] | rw[IA.r3,if_pos h])
theorem gJ(r:List Nat):IA (92::10::r)=IA r:=by(first | rw[IA.r1,if_neg (by decide),if_pos ⟨rfl,rfl⟩] | rw[IA.r2,if_neg (by decide),if_pos ⟨rfl,rfl⟩] | rw[IA.r3,if_neg (by decide),if_pos ⟨rfl,rfl⟩])
theorem kD{c:Nat}(h:XG c=false){r:List Nat}(hr:c=92->∀r',r≠10::r'):IA (c::r)=c::r:=by
 induction r using List.casesOn with
 | nil=>simp[IA.r1,IA.r2,IA.r3,h]
 | cons c2 r=>(first | rw[IA.r1,if_neg (by rw[h];decide),if_neg] | rw[IA.r2,if_neg (by rw[h];decide),if_neg] | rw[IA.r3,if_neg (by rw[h];decide),if_neg]);rintro ⟨q1,q2⟩;exact hr q1 r (by rw[q2])
theorem CB:∀s:List Nat,IA s <:+ s
 | []=>List.suffix_refl _
 | [c]=>by(first | rw[IA.r1] | rw[IA.r2] | rw[IA.r3]);split;exact List.nil_suffix;exact List.suffix_refl _
 | c::c2::r=>by
   (first | rw[IA.r1] | rw[IA.r2] | rw[IA.r3]);split
   ·exact(CB (c2::r)).trans (List.suffix_cons _ _)
   split
   ·exact(CB r).trans ((List.suffix_cons _ _).trans (List.suffix_cons _ _))
   ·exact List.suffix_refl _
theorem oB(P:Prog g)(hs:DB T n s):∃m,DB T m (IA s)/\∀{J},JA g (d+2) hd 223 [.str T, .int n] J (.at (.ok (.int (m:Nat))) J):=by
 obtain⟨m,hm⟩:=hs.sub (CB s)
 refine⟨m,hm,fun {J}=>P.f223.run rfl rfl fun K e f=>f fun Pw hP h0=>?_⟩
 have go:∀(k:Nat) (s':List Nat) (n:Nat),s'.length < k->DB T n s'->IA s'=IA s->Pw 0 [some (.str T),some (.int (n:Nat))] J->False:=by
  intro k
  induction k with
  | zero=>intro s' n hk;cases hk
  | succ k ih=>
    intro s' n hk h he p
    induction s' using List.casesOn with
    | nil=>exact e (hP _ _ _ p false (FC h)) .same (h.fin (hm.of he))
    | cons c r=>
      induction hc:XG c using Bool.casesOn with
      | true=>exact ih r (n+1) (Nat.lt_of_succ_lt_succ hk) h.next (by rw[<-he,ZB hc]) (hP _ _ _ p true (FC h) _ (OA h) _ (CL P) true hc)
      | false=>
        by_cases h2:c=92/\∃r',r=10::r'
        ·obtain⟨rfl,r,rfl⟩:=h2
         exact ih r (n+2) (by simp only[List.length_cons]at hk;exact qC hk) h.next.next (by rw[<-he,gJ]) (hP _ _ _ p true (FC h) _ (OA h) _ (CL P) false hc _ (MB (j:=2) h) true rfl)
        ·rw[kD hc fun q r' w=>h2 ⟨q,r',w⟩]at he
         refine e (hP _ _ _ p true (FC h) _ (OA h) _ (CL P) false hc _ (MB (j:=2) h) false (decide_eq_false fun q=>h2 ?_)) .same (h.fin (hm.of he))
         induction r using List.casesOn with
         | nil=>cases q
         | cons c2 r=>cases q;exact⟨rfl,r,rfl⟩
 exact go _ s n (Nat.lt_succ_self _) hs rfl h0
noncomputable def cA:List Nat->List Nat
 | []=>[]
 | [c]=>[]
 | c::c2::r=>if c=92 then cA r else if c=10 then c2::r else cA (c2::r)
theorem cA.r1:cA []=([]):=rfl
theorem cA.r2:cA [c]=([]):=rfl
theorem cA.r3:cA (c::c2::r)=(if c=92 then cA r else if c=10 then c2::r else cA (c2::r)):=rfl
theorem GE:∀s:List Nat,cA s <:+ s
 | []=>List.suffix_refl _
 | [c]=>List.nil_suffix
 | c::c2::r=>by
   (first | rw[cA.r1] | rw[cA.r2] | rw[cA.r3]);split
   ·exact(GE r).trans ((List.suffix_cons _ _).trans (List.suffix_cons _ _))
   split
   ·exact List.suffix_cons _ _
   ·exact(GE (c2::r)).trans (List.suffix_cons _ _)
theorem oS(P:Prog g)(hs:DB T n s):∃m,DB T m (cA s)/\∀{J},JA g (d+2) hd 230 [.str T, .int n] J (.at (.ok (.int (m:Nat))) J):=by
 obtain⟨m,hm⟩:=hs.sub (GE s)
 refine⟨m,hm,fun {J}=>P.f230.run rfl rfl fun K e f=>f fun Pw hP h0=>?_⟩
 have sz:DB T T.length []:=⟨Nat.le_refl _,by simp,hs.big⟩
 have go:∀(k:Nat) (s':List Nat) (n:Nat),s'.length < k->(DB T n s'\/s'=[]/\T.length < n)->cA s'=cA s->Pw 0 [some (.str T),some (.int (n:Nat)),some (.int (T.length:Nat))] J->False:=by
  intro k
  induction k with
  | zero=>intro s' n hk;cases hk
  | succ k ih=>
    intro s' n hk h he p
    rcases h with h | ⟨rfl,h⟩
    ·rcases s' with _ | ⟨c,_ | ⟨c2,r⟩⟩
     ·exact e (hP _ _ _ p false (FC h)) .same (sz.fin (hm.of he))
     ·by_cases h1:c=92
      ·subst h1
       exact ih [] (n+2) (by simp only[List.length_cons]at hk ⊢;exact qC hk) (.inr ⟨rfl,by have:=h.len;simp only[List.length_cons,List.length_nil]at this;exact(qC (eL this))⟩) he (hP _ _ _ p true (FC h) _ (OA h) true rfl)
      by_cases h2:c=10
      ·subst h2
       exact e (hP _ _ _ p true (FC h) _ (OA h) false rfl _ (OA h) true rfl) .same (h.next.fin (hm.of he))
      ·exact ih [] (n+1) (by simp only[List.length_cons]at hk ⊢;exact qC hk) (.inl h.next) he (hP _ _ _ p true (FC h) _ (OA h) false (decide_eq_false (by simpa using h1)) _ (OA h) false (decide_eq_false (by simpa using h2)))
     ·by_cases h1:c=92
      ·subst h1
       exact ih r (n+2) (by simp only[List.length_cons]at hk ⊢;exact qC hk) (.inl h.next.next) he (hP _ _ _ p true (FC h) _ (OA h) true rfl)
      by_cases h2:c=10
      ·subst h2
       exact e (hP _ _ _ p true (FC h) _ (OA h) false rfl _ (OA h) true rfl) .same (h.next.fin (hm.of he))
      ·exact ih (c2::r) (n+1) (by simp only[List.length_cons]at hk ⊢;exact qC hk) (.inl h.next) (by(first | rw[<-he,cA.r1,if_neg h1,if_neg h2] | rw[<-he,cA.r2,if_neg h1,if_neg h2] | rw[<-he,cA.r3,if_neg h1,if_neg h2])) (hP _ _ _ p true (FC h) _ (OA h) false (decide_eq_false (by simpa using h1)) _ (OA h) false (decide_eq_false (by simpa using h2)))
    ·exact e (hP _ _ _ p false (decide_eq_false (by lia))) .same (sz.fin (hm.of he))
 exact go _ s n (Nat.lt_succ_self _) (.inl hs) rfl h0
class inductive GC:List Nat->List Nat->Prop
 | stop {s t:List Nat}:IA s=t->(∀c r,t=c::r->c≠10/\c≠59/\c≠35)->GC s t
 | sep {s t r:List Nat} {c:Nat}:IA s=c::r->c=10\/c=59->GC r t->GC s t
 | com {s t r:List Nat}:IA s=35::r->GC (cA (35::r)) t->GC s t
theorem GC.suf{t:List Nat}(h:GC s t):t <:+ s:=by
 induction h with
 | stop h=>exact h ▸ CB _
 | sep h _ _ ih=>exact(ih.trans (List.suffix_cons _ _)).trans (h ▸ CB _)
 | com h _ ih=>exact(ih.trans (GE _)).trans (h ▸ CB _)
theorem pB(P:Prog g){t:List Nat}(hs:DB T n s)(hc:GC s t):∃m,DB T m t/\∀{J},JA g (d+3) hd 237 [.str T, .int n] J (.at (.ok (.int (m:Nat))) J):=by
 obtain⟨m,hm⟩:=hs.sub hc.suf
 refine⟨m,hm,fun {J}=>P.f237.run rfl rfl fun K e f=>?_⟩
 obtain⟨n1,h1,c1⟩:=oB (d:=d) (hd:=hd) P hs
 refine f _ c1 fun Pw hP h0=>?_
 clear hs c1
 set_option tactic.hygienic true in induction hc generalizing n1 with
 | stop h hr=>
   subst h
   refine e (hP _ _ _ h0 _ (MB (j:=1) h1) _ rfl false ?_) .same (h1.fin hm)
   rename_i s0
   induction q:IA s0 using List.casesOn with
   | nil=>rfl
   | cons c r=>obtain⟨h1,h2,h3⟩:=hr c r q;simp[h1,h2,h3]
 | sep h hc _ ih=>
   rw[h]at h1
   obtain⟨n2,h2,c2⟩:=oB (d:=d) (hd:=hd) P h1.next
   exact ih hm n2 h2 (hP _ _ _ h0 _ (MB (j:=1) h1) _ rfl true (by rcases hc with rfl | rfl <;>rfl) _ (OA h1) false (by rcases hc with rfl | rfl <;>rfl) _ c2)
 | com h _ ih=>
   rw[h]at h1
   obtain⟨n2,h2,c2⟩:=oS (d:=d) (hd:=hd) P h1
   obtain⟨n3,h3,c3⟩:=oB (d:=d) (hd:=hd) P h2
   exact ih hm n3 h3 (hP _ _ _ h0 _ (MB (j:=1) h1) _ rfl true rfl _ (OA h1) true rfl _ c2 _ c3)
end
section
variable{g:G}{d:Nat}{hd:Option Nat}{J:List O}{T s:List Nat}{n:Nat}
noncomputable def LD(c:Nat):Bool:=decide (c=95)||decide (0<=JC c)
noncomputable def CK(r:List Nat):Prop:=∀c r',r=c::r'->LD c=false/\c≠58
theorem IC{a b:Nat}(h:a≠b):decide ([a]=[b])=false:=decide_eq_false fun q=>h (List.cons.inj q).1
theorem QH{c x:Nat}{L:List Nat}(h:L.contains c=false)(hx:L.contains x=true):c≠x:=fun q=>by subst q;rw[h]at hx;cases hx
theorem VU{l L:List Nat}(h:l.all L.contains=true):∀x∈l,L.contains x=true:=List.all_eq_true.mp h
theorem nV{c:Nat}{l L:List Nat}(h:L.contains c=false)(k:l.all L.contains=true):(l.map fun x=>[x]).contains [c]=false:=by
 rw[<-Bool.not_eq_true,List.contains_iff_mem,List.mem_map]
 rintro ⟨x,m,q⟩
 exact QH h (VU k x m) (List.cons.inj q).1.symm
theorem cG(P:Prog g){nm r:List Nat}(hs:DB T n (nm++r))(hn:∀c∈nm,LD c=true)(hr:CK r):JA g (d+2) hd 244 [.str T, .int n] J (.at (.ok (.int ((n+nm.length:Nat):Int))) J):=
 P.f244.run rfl rfl fun K e f=>f fun Pw hP h0=>by
   have hm:=hs.app
   clear f
   revert h0
   generalize hz:n+nm.length=z at*
   clear hz
   induction nm generalizing n with
   | nil=>
     intro p
     induction r using List.casesOn with
     | nil=>exact e (hP _ _ _ p false (FC hs)) .same (hs.fin hm)
     | cons c r=>
       obtain⟨hc,hc2⟩:=hr c r rfl
       unfold LD at hc
       simp only[Bool.or_eq_false_iff,decide_eq_false_iff_not]at hc
       exact e (hP _ _ _ p true (FC hs) _ (OA hs) false (IC hc.1) _ (OA hs) _ (HK P) false (decide_eq_false hc.2) _ (MB (j:=2) hs) false (by induction r using List.casesOn <;>simp[hc2])) .same (hs.fin hm)
   | cons c nm ih=>
     intro p
     have hc:=hn c (.head _)
     unfold LD at hc
     refine ih hs.next (fun x hx=>hn x (.tail _ hx)) ?_
     by_cases h1:c=95
     ·subst h1
      exact hP _ _ _ p true (FC hs) _ (OA hs) true rfl
     ·rw[decide_eq_false h1,Bool.false_or]at hc
      exact hP _ _ _ p true (FC hs) _ (OA hs) false (IC h1) _ (OA hs) _ (HK P) true hc
theorem kc(P:Prog g){a:List Nat}{k:Nat}(ha:a.length<=1000000):JA g (d+1) hd 146 [.str a, .int k] J (.at (.ok (.str (if a.length<=k then a else a.take k++[46,46,46]))) J):=
 P.f146.run rfl rfl fun K e f=>by
   by_cases h:a.length<=k
   ·exact e (f false (decide_eq_false (by lia))) .same ⟨by rw[if_pos h],rfl⟩
   ·exact e (f true (decide_eq_true (by lia)) _ xN _ (jC (by simp;lia))) .same ⟨by rw[if_neg h],rfl⟩
theorem VP{kvs:List (List Nat×V)}{t:List O}{k:List Nat}{v:V}{Q:List O->Prop}(h1:qD 84 k=true)(h2:Nat.ble kvs.length 1000=true)(h3:Nat.ble k.length 1000=true)(h4:Q (J++ .exc 84 (J.length+1):: .ad (BB k v kvs)::t)):yG g (J++ .exc 84 (J.length+1):: .ad kvs::t) (.loc J.length) k v Q:=by
 refine JN (AA ..) (KC J (.exc 84 (J.length+1):: .ad kvs::t) 1) h1 (Nat.le_of_ble_eq_true h2) (Nat.le_of_ble_eq_true h3) ?_
 rw[uN];exact h4
theorem LP(P:Prog g){code:Int}{value:List Nat}{ec:V}:JA g (d+2) hd 84 [.int code, .str value,ec] J (.at (.ok (.loc J.length)) (J++bL J.length ⟨code,value,ec,[],false,0⟩)):=
 P.c84 _ _ _ _ _ rfl rfl (fun f=>f
   (.inr ⟨84,AA ..⟩) _ (qQ rfl (by decide)) _ (VP rfl rfl rfl) _ (VP rfl rfl rfl) _ (VP rfl rfl rfl) _ (VP rfl rfl rfl) _ (VP rfl rfl rfl) _ (VP rfl rfl rfl) _ (VP rfl rfl rfl)
   _ (fun {Q} h=>by
     rw[List.append_assoc,List.length_append]
     exact VP (t:=[.list []]) rfl rfl rfl h) ⟨rfl,rfl,rfl⟩)
theorem lE(P:Prog g){why:List Nat}{ec:V}:JA g (d+3) hd 139 [.str why,ec] J (.at (.ok (.loc J.length)) (J++xB J.length why ec)):=
 P.f139.run rfl rfl fun K e f=>e (f _ (LP P)) .same ⟨rfl,rfl⟩
theorem nC(P:Prog g){why:List Nat}:JA g (d+3) hd 139 [.str why] J (.at (.ok (.loc J.length)) (J++xB J.length why ZH)):=
 P.f139.run rfl rfl fun K e f=>e (f _ (LP P)) .same ⟨rfl,rfl⟩
inductive Bs:List Nat->List Nat->List Nat->Prop
 | plain {c:Nat} {r:List Nat}:[97,98,102,110,114,116,118,10,120,117,85,48,49,50,51,52,53,54,55].contains c=false->Bs (c::r) [c] r
 | nl {b r:List Nat}:(∀c∈b,c=32\/c=9)->(∀c r',r=c::r'->c≠32/\c≠9)->Bs (10::(b++r)) [32] r
 | newline {r:List Nat}:Bs (110::r) [10] r
 | hex {a b:Nat} {r:List Nat}:0<=JC a->JC a<=7->0<=JC b->JC b<=15->Bs (120::a::b::r) [(JC a*16+JC b).toNat] r
theorem Md(P:Prog g){a b:Nat}{r:List Nat}(hs:DB T n (120::a::b::r))(h1:0<=JC a)(h2:JC a<=7)(h3:0<=JC b)(h4:JC b<=15):
 JA g (d+2) hd 195 [.str T, .int n] J (.at (.ok (.tup [.str [(JC a*16+JC b).toNat], .int ((n+3:Nat):Int)])) J):=
 P.f195.run rfl rfl fun K e f=>f _ (OA hs) false rfl _ (OA hs) false rfl fun Pw hP h0=>
   e (hP _ _ _ (hP _ _ _ (hP _ _ _ h0 true (decide_eq_true (by lia)) true (FC hs.next) true rfl _ (OA hs.next) _ (HK P) false (decide_eq_false (by lia)) false (decide_eq_false (by lia)) _ rfl)
     true (decide_eq_true (by lia)) true (FC hs.next.next) true (decide_eq_true (by lia)) _ (OA hs.next.next) _ (HK P) false (decide_eq_false (by lia)) false (decide_eq_false (by lia)) _ (if_pos ⟨by lia,by lia⟩))
     false (decide_eq_false (by lia)) false (decide_eq_false (by lia)) _ _ (fun h=>⟨by lia,by lia,h⟩)) .same ⟨by rw[show(0*16+JC a)*16+JC b=JC a*16+JC b by lia];rfl,rfl⟩
theorem yC(P:Prog g){s v r:List Nat}(hs:DB T n (92::s))(hb:Bs s v r):∃m,DB T m r/\∀{J},JA g (d+3) hd 209 [.str T, .int n] J (.at (.ok (.tup [.str v, .int (m:Nat)])) J):=by
 cases hb with
 | @plain c r hc=>
   refine⟨_,hs.next.next,fun {J}=>P.f209.run rfl rfl fun K e f=>?_⟩
   exact e (f _ (wF hs) false rfl (.int (-1)) _ (fun h=>yN (by rw[FQ fun x m=>(QH hc (VU rfl x m)).symm];exact h)) false rfl false (IC (QH hc rfl)) _ rfl false (nV (l:=[120,117,85]) hc rfl) _ rfl false (nV (l:=[48,49,50,51,52,53,54,55]) hc rfl)) .same ⟨rfl,rfl⟩
 | @nl b r h1 h2=>
   have hs2:=hs.next.next
   refine⟨_,hs2.app,fun {J}=>P.f209.run rfl rfl fun K e f=>f _ (wF hs) false rfl _ _ yN false rfl true rfl fun Pw hP h0=>?_⟩
   have go:∀(b:List Nat) (m:Nat),DB T m (b++r)->(∀c∈b,c=32\/c=9)->Pw 0 [some (.str T),some (.int (n:Nat)),some (.str [10]),some (.int (-1)),some (.int (m:Nat))] J->False:=by
    intro b
    induction b with
    | nil=>
      intro m h _ p
      refine e (hP _ _ _ p _ (MB (j:=1) h) _ rfl false ?_) .same ⟨by rw[h.uniq hs2.app],rfl⟩
      induction r using List.casesOn with
      | nil=>rfl
      | cons c r=>have:=h2 c r rfl;simp[this.1,this.2]
    | cons c b ih=>
      intro m h hb p
      exact ih (m+1) h.next (fun x hx=>hb x (.tail _ hx)) (hP _ _ _ p _ (MB (j:=1) h) _ rfl true (by rcases hb c (.head _)with rfl | rfl <;>rfl))
   exact go b (n+2) hs2 h1 h0
 | newline=>exact⟨_,hs.next.next,fun {J}=>P.f209.run rfl rfl fun K e f=>e (f _ (wF hs) false rfl _ _ yN true rfl _ rfl) .same ⟨rfl,rfl⟩⟩
 | hex h1 h2 h3 h4=>exact⟨_,hs.next.next.next.next,fun {J}=>P.f209.run rfl rfl fun K e f=>e (f _ (wF hs) false rfl _ _ yN false rfl false rfl _ rfl true rfl _ (Md P hs.next h1 h2 h3 h4)) .same ⟨rfl,rfl⟩⟩
end
section
variable{g:G}{d:Nat}{hd:Option Nat}{J:List O}{T s:List Nat}{n:Nat}
mutual
theorem eK{n m:Nat}(h:n<=m):∀{v:V},below n v=true->below m v=true
 | .none,_=>rfl
 | .bool _,_=>rfl
 | .int _,_=>rfl
 | .str _,_=>rfl
 | .tup vs,b=>TM h (vs:=vs) b
 | .loc l,b=>by
   have b:Nat.blt l n=true:=b
   show Nat.blt l m=true
   rw[Nat.blt_eq]at b ⊢;exact Nat.lt_of_lt_of_le b h
 | .val _,_=>rfl
 | .script,_=>rfl
theorem TM{n m:Nat}(h:n<=m):∀{vs:List V},UB n vs=true->UB m vs=true
 | [],_=>rfl
 | v::vs,b=>by
   have b:=Bool.and_eq_true_iff.mp (show(below n v&&UB n vs)=true from b)
   exact Bool.and_eq_true_iff.mpr ⟨eK h b.1,TM h b.2⟩
end
theorem kA{n:Nat}{ws:List V}(h:UB n ws=true):∀{vs:List V},UB n vs=true->UB n (vs++ws)=true
 | [],_=>h
 | v::vs,b=>by
   have b:=Bool.and_eq_true_iff.mp (show(below n v&&UB n vs)=true from b)
   exact Bool.and_eq_true_iff.mpr ⟨b.1,kA h b.2⟩
theorem Fin.drop{v:V}{j:List O}(h:below 0 v=true):Fin J (.ok v) (J++j) (.ok v) J:= .ok (eK (Nat.zero_le _) h)
theorem Fin.err{j:List O}{why:List Nat}{ec:V}(h:below 0 ec=true):Fin J (.exn (J++j).length) (J++j++xB (J++j).length why ec) (.exn J.length) (J++xB J.length why ec):=by
 have h1:J.length<=(J++j).length:=by rw[List.length_append];exact Nat.le_add_right _ _
 rw[List.append_assoc]
 exact .exn (z:=VF why ec) (dl:=(J++j).length+1) (xl:=(J++j).length+2) h1 (by exact qC h1) (by exact qC h1) (by rw[<-List.append_assoc];exact AA ..) (by rw[<-List.append_assoc];exact KC (J++j) _ 1) (by rw[<-List.append_assoc];exact KC (J++j) _ 2) (eK (Nat.zero_le _) h)
set_option genCtorIdx true in
inductive aF where
 | ok (v:V) (rest:List Nat)
 | err (why:List Nat)
noncomputable def aF.at(T:List Nat)(m:Nat):aF->Prop
 | .ok v r=>DB T m r/\below 0 v=true
 | .err _=>True
noncomputable def aF.sp(J:List O)(m:Nat):aF->Sp
 | .ok v _=> .at (.ok (.tup [v, .int (m:Int)])) J
 | .err w=> .at (.exn J.length) (J++xB J.length w ZH)
noncomputable def vN(st:List Nat):V:= .tup (st.map fun c=> .str [c])
inductive sW(g:G)(T:List Nat)(d:Nat)(a:Addr)(vs:List V)(o:aF):Prop
 | mk (m:Nat) (h:o.at T m) (c:∀{J:List O},JA g d none a vs J (o.sp J m))
noncomputable def DO(g:G)(T:List Nat)(d:Nat)(s:List Nat)(o:aF):Prop:=∀n:Nat,DB T n (36::s)->sW g T d 251 [.str T, .int (n:Int)] o
noncomputable def sP(g:G)(T:List Nat)(d:Nat)(s:List Nat)(o:aF):Prop:=∀n:Nat,DB T n (91::s)->sW g T d 258 [.str T, .int (n:Int)] o
noncomputable def YK(g:G)(T:List Nat)(d:Nat)(st:List Nat)(s:List Nat)(o:aF):Prop:=∀n:Nat,DB T n s->sW g T d 272 [.str T, .int (n:Int),vN st] o
noncomputable def AH(g:G)(T:List Nat)(d:Nat)(b:Bool)(s:List Nat)(o:aF):Prop:=∀n:Nat,DB T n s->sW g T d 293 [.str T, .int (n:Int), .bool b] o
set_option genCtorIdx true in
inductive DG where
 | none
 | ok (ws:List V) (b e z:List Nat)
 | err (why:List Nat)
noncomputable def DG.at(T:List Nat)(x y w:Nat):DG->Prop
 | .ok ws b e z=>DB T x b/\DB T y e/\DB T w z/\UB 0 ws=true
 | _=>True
noncomputable def DG.sp(J:List O)(x y w:Nat):DG->Sp
 | .none=> .at (.ok .none) J
 | .ok ws _ _ _=> .at (.ok (.tup [.tup ws, .int (x:Int), .int (y:Int), .int (w:Int)])) J
 | .err w=> .at (.exn J.length) (J++xB J.length w ZH)
inductive pb(g:G)(T:List Nat)(d:Nat)(vs:List V)(o:DG):Prop
 | mk (x y w:Nat) (h:o.at T x y w) (c:∀{J:List O},JA g d none 301 vs J (o.sp J x y w))
noncomputable def UH(g:G)(T:List Nat)(d:Nat)(b:Bool)(s:List Nat)(o:DG):Prop:=∀(n:Nat) (vs:List V),(vs=[.str T, .int (n:Int), .bool b]\/(b=false/\vs=[.str T, .int (n:Int)]))->DB T n s->pb g T d vs o
noncomputable abbrev tx(s:List Nat):V:= .tup [.str [116,101,120,116], .str s]
noncomputable abbrev vr(nm:List Nat)(ix:V):V:= .tup [.str [118,97,114], .str nm,ix]
noncomputable abbrev cm(s:List Nat):V:= .tup [.str [99,109,100], .str s]
theorem eW{nm:List Nat}{ix:V}(h:below 0 ix=true):below 0 (vr nm ix)=true:=by show(true&&(true&&(below 0 ix&&true)))=true;rw[h];rfl
theorem ET{a:List Nat}{c:Nat}(h:DB T n a)(ha:∀x∈a,x≠c):vD T c n= -1:=by
 unfold vD
 rw[h.eq,List.findIdx?_eq_none_iff.mpr (fun x hx=>by simpa using ha x hx)]
theorem rD{c:Nat}(h:∀r',s≠c::r'):decide (s.take 1=[c])=false:=decide_eq_false fun q=>by
 induction s using List.casesOn with
 | nil=>cases q
 | cons x r=>cases q;exact h r rfl
theorem pW(P:Prog g){r:List Nat}(hn:∀c∈r,c≠125):DO g T (d+4) (123::r) (.err [109,105,115,115,105,110,103,32,99,108,111,115,101,45,98,114,97,99,101,32,102,111,114,32,118,97,114,105,97,98,108,101,32,110,97,109,101]):=
 fun n hs=>⟨0,trivial,fun {J}=>P.f251.run rfl rfl fun K e f=>e (f _ (SD hs.next) true rfl (.int (-1)) _ (fun h=>cS hs.next.le (by rw[ET hs.next (by simpa using hn)];exact h))
  true rfl _ (nC P) _ _ (AA ..) (.inl rfl)) .same ⟨rfl,rfl⟩⟩
theorem LK{nm r:List Nat}{c:Nat}(h0:nm≠[])(hn:∀c∈nm,LD c=true)(h:LD c=false):decide ((nm++r).take 1=[c])=false:=rD fun r' q=>by
 induction nm using List.casesOn with
 | nil=>exact h0 rfl
 | cons x nm=>cases q;rw[hn _ (.head _)]at h;cases h
theorem dW(P:Prog g){nm r:List Nat}(h0:nm≠[])(hn:∀c∈nm,LD c=true)(hr:CK r)(hp:∀r',r≠40::r'):DO g T (d+4) (nm++r) (.ok (vr nm .none) r):=
 fun n hs=>⟨_,⟨hs.next.app,rfl⟩,fun {J}=>P.f251.run rfl rfl fun K e f=>e (f _ (MB (j:=1) hs.next) false (LK h0 hn rfl) _ (cG P hs.next hn hr) _ (MB (j:=1) hs.next.app) false (rD hp)
  false (decide_eq_false fun q=>by have h:=List.length_pos_iff.mpr h0;have q:((n+1+nm.length:Nat):Int)=(n:Int)+1:=q;lia) _ (uD hs.next hs.next.app)) .same ⟨rfl,rfl⟩⟩
theorem VY(P:Prog g){nm r:List Nat}{o:aF}(hn:∀c∈nm,LD c=true)(h1:nm≠[])(hx:YK g T (d+3) [41] r o):
 DO g T (d+4) (nm++40::r) (match o with | .err w=> .err w | .ok v []=> .err [109,105,115,115,105,110,103,32,41] | .ok v (_::r')=> .ok (vr nm v) r'):=by
 intro n hs
 have hs2:=hs.next.app
 obtain⟨m,hm,c⟩:=hx _ hs2.next
 have hrn:∀{J},JA g (d+3) none 244 [.str T, .int ((n+1:Nat):Int)] J (.at (.ok (.int ((n+1+nm.length:Nat):Int))) J):=fun {J}=>cG P hs.next hn fun c r' q=>by cases q;exact⟨rfl,by decide⟩
 induction o using aF.casesOn with
 | err w=>exact⟨0,trivial,fun {J}=>P.f251.run rfl rfl fun K e f=>e (f _ (MB (j:=1) hs.next) false (LK h1 hn rfl) _ hrn _ (SD hs2) true rfl _ c) .same ⟨rfl,rfl⟩⟩
 | ok v rest=>induction rest using List.casesOn with
   | nil=>exact⟨0,trivial,fun {J}=>P.f251.run rfl rfl fun K e f=>e (f _ (MB (j:=1) hs.next) false (LK h1 hn rfl) _ hrn _ (SD hs2) true rfl _ c true (IJ hm.1) _ (nC P) _ _ (AA ..) (.inl rfl)) .same ⟨rfl,rfl⟩⟩
   | cons x r'=>exact⟨m+1,⟨hm.1.next,eW hm.2⟩,fun {J}=>P.f251.run rfl rfl fun K e f=>e (f _ (MB (j:=1) hs.next) false (LK h1 hn rfl) _ hrn _ (SD hs2) true rfl _ c false (IJ hm.1) _ (uD hs.next hs2)) .same ⟨rfl,rfl⟩⟩
end
section
variable{g:G}{d:Nat}{hd:Option Nat}{J:List O}{T s:List Nat}{n:Nat}
noncomputable def EM(c:Nat):Bool:=[123,125,92].contains c
class inductive jA:Nat->List Nat->List Nat->Option (List Nat×List Nat)->Prop
 | eof {k:Nat} {acc:List Nat}:jA k [] acc none
 | bs1 {k:Nat} {acc:List Nat}:jA k [92] acc none
 | opn {k:Nat} {r acc:List Nat} {o:Option (List Nat×List Nat)}:jA (k+1) r (acc++[123]) o->jA k (123::r) acc o
 | cls {k:Nat} {r acc:List Nat} {o:Option (List Nat×List Nat)}:0 < k->jA k r (acc++[125]) o->jA (k+1) (125::r) acc o
 | done {r acc:List Nat}:jA 1 (125::r) acc (some (acc,r))
 | nl {k:Nat} {r r' acc:List Nat} {o:Option (List Nat×List Nat)}:Bs (10::r) [32] r'->r'.length<=r.length->jA k r' (acc++[32]) o->jA k (92::10::r) acc o
 | bs {k c:Nat} {r acc:List Nat} {o:Option (List Nat×List Nat)}:c≠10->jA k r (acc++[92,c]) o->jA k (92::c::r) acc o
 | chars {k:Nat} {cs r acc:List Nat} {o:Option (List Nat×List Nat)}:cs≠[]->(∀c∈cs,EM c=false)->(∀c r',r=c::r'->EM c=true)->jA k r (acc++cs) o->jA k (cs++r) acc o
theorem jA.head{k:Nat}{s acc:List Nat}{o:Option (List Nat×List Nat)}(h:jA k s acc o):(∀c r,s=c::r->EM c=true)\/∃cs r,cs≠[]/\s=cs++r/\(∀c∈cs,EM c=false)/\(∀c r',r=c::r'->EM c=true)/\jA k r (acc++cs) o:=by
 have k:∀{c:Nat} {r:List Nat},EM c=true->∀c' r',c::r=c'::r'->EM c'=true:=fun h u0 u0 e=>(List.cons.inj e).1 ▸ h
 induction h with
 | eof=>exact .inl fun u0 u0 q=>nomatch q
 | chars h0 h1 h2 h3 _=>exact .inr ⟨_,_,h0,rfl,h1,h2,h3⟩
 | _=>exact .inl (k rfl)
theorem jA.run{k:Nat}{w r acc:List Nat}{o:Option (List Nat×List Nat)}(hw:∀c∈w,EM c=false)(h:jA k r (acc++w) o):jA k (w++r) acc o:=by
 by_cases h0:w=[]
 ·subst h0;rwa [List.append_nil]at h
 ·rcases h.head with q | ⟨cs,r2,_,e,h1,h2,h3⟩
  ·exact .chars h0 hw q h
  ·subst e
   rw[<-List.append_assoc]
   exact .chars (fun q=>h0 (List.append_eq_nil_iff.mp q).1) (fun c m=>(List.mem_append.mp m).elim (hw c) (h1 c)) h2 (by rw[<-List.append_assoc];exact h3)
theorem Bs.suf{s v r:List Nat}(h:Bs s v r):r <:+ s:=by
 induction h with
 | plain=>exact List.suffix_cons _ _
 | nl=>exact⟨10::_,rfl⟩
 | newline=>exact List.suffix_cons _ _
 | hex=>exact⟨[_,_,_],rfl⟩
theorem jA.suf{k:Nat}{s acc:List Nat}{o:Option (List Nat×List Nat)}(h:jA k s acc o):∀i r,o=some (i,r)->r <:+ s:=by
 induction h with
 | eof=>intro i r q;cases q
 | bs1=>intro i r q;cases q
 | opn _ ih=>exact fun i r q=>(ih i r q).trans (List.suffix_cons _ _)
 | cls _ _ ih=>exact fun i r q=>(ih i r q).trans (List.suffix_cons _ _)
 | done=>intro i r q;cases q;exact List.suffix_cons _ _
 | nl hb _ _ ih=>exact fun i r q=>((ih i r q).trans hb.suf).trans (List.suffix_cons _ _)
 | bs _ _ ih=>exact fun i r q=>(ih i r q).trans ⟨[_,_],rfl⟩
 | chars _ _ _ _ ih=>exact fun i r q=>(ih i r q).trans (List.suffix_append _ _)
noncomputable def Xa:Option (List Nat×List Nat)->aF
 | some p=> .ok (.str p.1) p.2
 | none=> .err [109,105,115,115,105,110,103,32,99,108,111,115,101,45,98,114,97,99,101]
theorem Bb{a:Nat}:((a+1:Nat):Int) - 1=(a:Int):=by lia
theorem iU(P:Prog g){o:Option (List Nat×List Nat)}(hs:DB T n (123::s))(hb:jA 1 s [] o):∃m,(Xa o).at T m/\∀{J},JA g (d+4) none 265 [.str T, .int (n:Int)] J ((Xa o).sp J m):=by
 obtain⟨m,hm⟩:∃m,(Xa o).at T m:=by
  induction o using Option.casesOn with
  | none=>exact⟨0,trivial⟩
  | some p=>obtain⟨m,h⟩:=hs.next.sub (hb.suf _ _ rfl);exact⟨m,h,rfl⟩
 refine⟨m,hm,fun {J}=>P.f265.run rfl rfl fun K e f=>f fun Pw hP h0=>?_⟩
 have big:=hs.big
 have goal:∀(k:Nat) (s acc:List Nat) (o':Option (List Nat×List Nat)),jA k s acc o'->o'=o->0 < k->∀(place begin:Nat) (made w:List Nat) (x7 x8:Option V),DB T begin (w++s)->DB T place s->made++w=acc->acc.length+s.length<=T.length->
  Pw 0 [some (.str T),some (.int (n:Int)),some (.int (T.length:Int)),some (.int (begin:Int)),some (.int (place:Int)),some (.str made),some (.int (k:Int)),x7,x8] J->False:=by
  intro k s acc o' hb
  induction hb with
  | eof=>
    rintro rfl hk place begin made w x7 x8 h1 h2 h3 h4 p
    exact e (hP _ _ _ p false (FC h2) _ (nC P) _ _ (AA ..) (.inl rfl)) .same ⟨rfl,rfl⟩
  | bs1=>
    rintro rfl hk place begin made w x7 x8 h1 h2 h3 h4 p
    have:=h2.len
    simp only[List.length_cons,List.length_nil]at this
    exact e (hP _ _ _ (hP _ _ _ p true (FC h2) _ (OA h2) false rfl _ (OA h2) false rfl _ (MB (j:=2) h2) false rfl _ (OA h2) true rfl) false (decide_eq_false (by lia)) _ (nC P) _ _ (AA ..) (.inl rfl)) .same ⟨rfl,rfl⟩
  | opn hb ih=>
    intro hq hk place begin made w x7 x8 h1 h2 h3 h4 p
    exact ih hq (by exact Nat.succ_pos _) (place+1) begin made (w++[123]) x7 x8 (by simpa using h1) h2.next (by rw[<-h3];simp) (by simp only[List.length_append,List.length_cons,List.length_nil]at*;exact qC h4) (hP _ _ _ p true (FC h2) _ (OA h2) true rfl)
  | @cls k _ _ _ hk hb ih=>
    intro hq hk' place begin made w x7 x8 h1 h2 h3 h4 p
    refine ih hq hk (place+1) begin made (w++[125]) x7 x8 (by simpa using h1) h2.next (by rw[<-h3];simp) (by simp only[List.length_append,List.length_cons,List.length_nil]at*;exact qC h4) ?_
    have p:=hP _ _ _ p true (FC h2) _ (OA h2) false rfl _ (OA h2) true rfl false (decide_eq_false (by lia))
    rw[<-Bb (a:=k)];exact p
  | @done r acc=>
    rintro rfl hk' place begin made w x7 x8 h1 h2 h3 h4 p
    exact e (hP _ _ _ p true (FC h2) _ (OA h2) false rfl _ (OA h2) true rfl true rfl _ (fun {Q} h=>by rw[show((place:Int)+1 - 1)=place from by lia];exact uD h1 h2 h) _ (jC (by rw[<-h3]at h4;simp only[List.length_append]at h4;exact rC h4 big))) .same ⟨by rw[h3];exact congrArg (fun m:Nat=>iE.ok (.tup [.str acc, .int (m:Int)])) (h2.next.uniq hm.1),rfl⟩
  | nl hbs hl hb ih=>
    intro hq hk place begin made w x7 x8 h1 h2 h3 h4 p
    obtain⟨m,hm,c⟩:=yC (d:=d) (hd:=none) P h2 hbs
    have h4':=h4
    rw[<-h3]at h4'
    simp only[List.length_append,List.length_cons,List.length_nil]at h4'
    exact ih hq hk m m (made++(w++[32])) [] _ _ hm hm (by rw[<-h3];simp) (by simp only[List.length_append,List.length_cons,List.length_nil]at*;exact rC h4 hl)
     (hP _ _ _ p true (FC h2) _ (OA h2) false rfl _ (OA h2) false rfl _ (MB (j:=2) h2) true rfl _ c _ (uD h1 h2) _ (jC (by simp only[List.length_cons,List.length_nil];exact rC h4' big)) _ (jC (by simp only[List.length_append,List.length_cons,List.length_nil];exact rC h4' big)))
  | @bs k c r acc o' hc hb ih=>
    intro hq hk place begin made w x7 x8 h1 h2 h3 h4 p
    exact ih hq hk (place+2) begin made (w++[92,c]) x7 x8 (by simpa using h1) h2.next.next (by rw[<-h3];simp) (by simp only[List.length_append,List.length_cons,List.length_nil]at*;exact qC h4)
     (hP _ _ _ p true (FC h2) _ (OA h2) false rfl _ (OA h2) false rfl _ (MB (j:=2) h2) false (decide_eq_false fun q=>by cases q;exact hc rfl) _ (OA h2) true rfl)
  | @chars k cs r acc o' h0 hcs hr hb ih=>
    intro hq hk place begin made w x7 x8 h1 h2 h3 h4 p
    induction cs using List.casesOn with
    | nil=>exact absurd rfl h0
    | cons c cs=>
      have nc:=hcs c (.head _)
      refine hP _ _ _ p true (FC h2) _ (OA h2) false (IC (QH nc rfl)) _ (OA h2) false (IC (QH nc rfl)) _ (MB (j:=2) h2) false (decide_eq_false fun q=>QH nc (x:=92) rfl (List.cons.inj q).1) _ (OA h2) false (IC (QH nc rfl)) fun Pw2 hP2 p2=>?_
      have go:∀(b a:List Nat) (m:Nat),a++b=c::cs->DB T m (b++r)->Pw2 0 [some (.str T),some (.int (n:Int)),some (.int (T.length:Int)),some (.int (begin:Int)),some (.int (m:Int)),some (.str made),some (.int (k:Int)),x7,x8] J->False:=by
       intro b
       induction b with
       | nil=>
         intro a m ea hm p
         refine ih hq hk m begin made (w++c::cs) x7 x8 (by simpa using h1) hm (by rw[<-h3];simp) (by simp only[List.length_append,List.length_cons]at*;exact qC h4) ?_
         induction r using List.casesOn with
         | nil=>exact hP2 _ _ _ p false (FC hm)
         | cons c3 r=>exact hP2 _ _ _ p true (FC hm) _ (OA hm) false (by have:=hr c3 r rfl;unfold EM at this;rw[this];rfl)
       | cons c2 b ihb=>
         intro a m ea hm p
         exact ihb (a++[c2]) (m+1) (by simpa using ea) hm.next (hP2 _ _ _ p true (FC hm) _ (OA hm) true (by have:=hcs c2 (by rw[<-ea];simp);unfold EM at this;rw[this];rfl))
      exact go (c::cs) [] place rfl h2 p2
 exact goal 1 s [] o hb rfl (by decide) (n+1) (n+1) [] [] none none hs.next hs.next rfl (by have:=hs.len;simp only[List.length_cons,List.length_nil]at*;exact(qC (eR this))) h0
end
section
variable{g:G}{d:Nat}{hd:Option Nat}{J:List O}{T s:List Nat}{n:Nat}
theorem YA:∀st:List Nat,iC (st.map fun c=>V.str [c])=some (st.map fun c=>[c])
 | []=>rfl
 | c::st=>by show(iC (st.map fun c=>V.str [c])).map _=_;rw[YA st];rfl
theorem cC(c:Nat):∀st:List Nat,(st.map fun c=>[c]).contains [c]=st.contains c
 | []=>rfl
 | x::st=>by simp only[List.map_cons,List.contains_cons,cC c st];congr 1;by_cases h:c=x <;>simp[h]
noncomputable def VB(run:List Nat):List V:=if run=[]then[]else[tx run]
noncomputable def RC(st:List Nat)(c:Nat):Bool:=!([36,91,92].contains c||st.contains c)
theorem Bs.len{s v r:List Nat}(h:Bs s v r):v.length+r.length<=s.length:=by
 cases h <;>simp only[List.length_cons,List.length_append,List.length_nil] <;>simp+arith only
class inductive pA(g:G)(T:List Nat)(d:Nat)(st:List Nat):List Nat->List Nat->List V->aF->Prop
 | nil {run:List Nat} {acc:List V}:pA g T d st [] run acc (.ok (.tup (acc++VB run)) [])
 | stop {c:Nat} {r run:List Nat} {acc:List V}:st.contains c=true->pA g T d st (c::r) run acc (.ok (.tup (acc++VB run)) (c::r))
 | brk {r run:List Nat} {acc:List V}:st.contains 92=false->st.contains 32=true->pA g T d st (92::10::r) run acc (.ok (.tup (acc++VB run)) (92::10::r))
 | dtext {r r' t run:List Nat} {acc:List V} {o:aF}:st.contains 36=false->DO g T d r (.ok (tx t) r')->t.length+r'.length<=r.length+1->pA g T d st r' (run++t) acc o->pA g T d st (36::r) run acc o
 | dvar {r r' nm run:List Nat} {ix:V} {acc:List V} {o:aF}:st.contains 36=false->DO g T d r (.ok (vr nm ix) r')->r'.length<=r.length->pA g T d st r' [] (acc++VB run++[vr nm ix]) o->pA g T d st (36::r) run acc o
 | derr {r run w:List Nat} {acc:List V}:st.contains 36=false->DO g T d r (.err w)->pA g T d st (36::r) run acc (.err w)
 | bok {r r' scr run:List Nat} {acc:List V} {o:aF}:st.contains 91=false->sP g T d r (.ok (.str scr) r')->r'.length<=r.length->pA g T d st r' [] (acc++VB run++[cm scr]) o->pA g T d st (91::r) run acc o
 | berr {r run w:List Nat} {acc:List V}:st.contains 91=false->sP g T d r (.err w)->pA g T d st (91::r) run acc (.err w)
 | bs {r r' v run:List Nat} {acc:List V} {o:aF}:st.contains 92=false->(st.contains 32=true->∀r2,r≠10::r2)->Bs r v r'->pA g T d st r' (run++v) acc o->pA g T d st (92::r) run acc o
 | chars {cs r run:List Nat} {acc:List V} {o:aF}:cs≠[]->(∀c∈cs,RC st c=true)->(∀c r',r=c::r'->RC st c=false)->pA g T d st r (run++cs) acc o->pA g T d st (cs++r) run acc o
theorem pA.head{st s run:List Nat}{acc:List V}{o:aF}(h:pA g T d st s run acc o):(∀c r,s=c::r->RC st c=false)\/∃cs r,cs≠[]/\s=cs++r/\(∀c∈cs,RC st c=true)/\(∀c r',r=c::r'->RC st c=false)/\pA g T d st r (run++cs) acc o:=by
 have k:∀{c:Nat} {r:List Nat},RC st c=false->∀c' r',c::r=c'::r'->RC st c'=false:=fun h u0 u0 e=>(List.cons.inj e).1 ▸ h
 induction h with
 | nil=>exact .inl fun u0 u0 q=>nomatch q
 | stop q=>exact .inl (k (by unfold RC;rw[q,Bool.or_true];rfl))
 | chars h0 h1 h2 h3 _=>exact .inr ⟨_,_,h0,rfl,h1,h2,h3⟩
 | _=>exact .inl (k rfl)
theorem pA.run{st w r run:List Nat}{acc:List V}{o:aF}(hw:∀c∈w,RC st c=true)(h:pA g T d st r (run++w) acc o):pA g T d st (w++r) run acc o:=by
 by_cases h0:w=[]
 ·subst h0;rwa [List.append_nil]at h
 ·rcases h.head with q | ⟨cs,r2,_,e,h1,h2,h3⟩
  ·exact .chars h0 hw q h
  ·subst e
   rw[<-List.append_assoc]
   exact .chars (fun q=>h0 (List.append_eq_nil_iff.mp q).1) (fun c m=>(List.mem_append.mp m).elim (hw c) (h1 c)) h2 (by rw[<-List.append_assoc];exact h3)
theorem MF(run:List Nat):(VB run).length<=run.length:=by
 unfold VB;split
 ·simp
 ·induction run using List.casesOn <;>simp_all
theorem JB{J t:List O}{xs:List V}:rA (J++ .list xs::t) J.length=some xs:=TA (AA ..)
theorem HB{J t:List O}{xs:List V}{v:V}{Q:V->List O->Prop}(hn:xs.length<=100000)(h:Q .none (J++ .list (xs++[v])::t)):XB (J++ .list xs::t) J.length xs [97,112,112,101,110,100] [v] Q:=by
 unfold XB;rw[if_pos rfl];exact⟨hn,by rw[fL];exact h⟩
theorem nst{c:Nat}{st:List Nat}{b:Bool}(h:st.contains c=b):(!(st.map fun c=>[c]).contains [c])=!b:=by rw[cC,h]
theorem Cd{run:List Nat}(h:run≠[]):(!decide (run=[]))=true:=by rw[decide_eq_false h];rfl
theorem mG{run:List Nat}(h:run≠[]):VB run=[tx run]:=if_neg h
theorem HC:∀{run:List Nat},UB 0 (VB run)=true:=fun {run}=>by unfold VB;split <;>rfl
theorem pA.suf{st s run:List Nat}{acc:List V}{o:aF}(h:pA g T d st s run acc o)(hs:DB T n s)(ha:UB 0 acc=true):∃m,o.at T m:=by
 induction h generalizing n with
 | nil=>exact⟨n,hs,kA HC ha⟩
 | stop _=>exact⟨n,hs,kA HC ha⟩
 | brk _ _=>exact⟨n,hs,kA HC ha⟩
 | dtext _ hv _ _ ih=>obtain⟨m,hm,_⟩:=hv n hs;exact ih hm.1 ha
 | dvar _ hv _ _ ih=>obtain⟨m,hm,_⟩:=hv n hs;exact ih hm.1 (kA (by show(_&&true)=true;rw[hm.2];rfl) (kA HC ha))
 | derr _ _=>exact⟨0,trivial⟩
 | bok _ hv _ _ ih=>obtain⟨m,hm,_⟩:=hv n hs;exact ih hm.1 (kA rfl (kA HC ha))
 | berr _ _=>exact⟨0,trivial⟩
 | bs _ _ hb _ ih=>obtain⟨m,hm⟩:=hs.next.sub hb.suf;exact ih hm ha
 | chars _ _ _ _ ih=>exact ih hs.app ha
theorem MK(P:Prog g){st:List Nat}{o:aF}(hp:pA g T (d+4) st s [] [] o):YK g T (d+5) st s o:=by
 intro n hs
 obtain⟨m,hm⟩:=hp.suf hs rfl
 refine⟨m,hm,fun {J}=>P.f272.run rfl rfl fun K e f=>f fun Pw hP h0=>?_⟩
 have big:=hs.big
 have fin:∀{acc w m' r},aF.ok (.tup (acc++w)) r=o->DB T m' r->UB 0 w=true->UB 0 acc=true->∀{j},K (.ok (.tup [.tup (acc++w), .int ((m':Nat):Int)])) (J++j)->False:=by
  intro acc w m' r eo h hw ha j k
  subst eo
  exact e k (.drop (by show(UB 0 (acc++w)&&true)=true;rw[kA hw ha];rfl)) ⟨congrArg (fun m:Nat=>iE.ok (.tup [.tup (acc++w), .int (m:Int)])) (h.uniq hm.1),rfl⟩
 have er:∀{w m' j},aF.err w=o->K (.exn (J++j).length) (J++j++xB (J++j).length w ZH)->m'=m->False:=by
  intro w m' j eo k _
  subst eo
  exact e k (.err rfl) ⟨rfl,rfl⟩
 have goal:∀(s run:List Nat) (acc:List V) (o':aF),pA g T (d+4) st s run acc o'->o'=o->∀(m:Nat) (x6 x7 x8 x9:Option V),DB T m s->acc.length+run.length+s.length<=T.length->UB 0 acc=true->
  Pw 0 [some (.str T),some (.int (m:Int)),some (vN st),some (.loc J.length),some (.str run),some (.int (T.length:Int)),x6,x7,x8,x9] (J++[.list acc])->False:=by
  intro s run acc o' hp
  induction hp with
  | @nil run acc=>
    intro eo m' x6 x7 x8 x9 h hl ha p
    simp only[List.length_nil]at hl
    by_cases hr:run=[]
    ·subst hr
     exact fin eo h rfl ha (by show K (.ok (.tup [.tup (acc++[]),_])) _;rw[List.append_nil];exact hP _ _ _ p false (FC h) false rfl _ _ (lD (AA ..) (by exact rC hl big)))
    ·have hf:=mG hr
     exact fin (by rw[<-hf];exact eo) h rfl ha (hP _ _ _ p false (FC h) true (Cd hr) _ (AA ..) _ JB _ _ (HB (by exact rC hl big)) _ _ (lD (AA ..) (by rw[<-hf,List.length_append];have:=MF run;exact(qP this hl big))))
  | @stop c r run acc hc=>
    intro eo m' x6 x7 x8 x9 h hl ha p
    simp only[List.length_cons]at hl
    by_cases hr:run=[]
    ·subst hr
     exact fin eo h rfl ha (by show K (.ok (.tup [.tup (acc++[]),_])) _;rw[List.append_nil];exact hP _ _ _ p true (FC h) _ (OA h) _ (YA st) false (nst hc) false rfl _ _ (lD (AA ..) (by exact rC hl big)))
    ·have hf:=mG hr
     exact fin (by rw[<-hf];exact eo) h rfl ha (hP _ _ _ p true (FC h) _ (OA h) _ (YA st) false (nst hc) true (Cd hr) _ (AA ..) _ JB _ _ (HB (by exact rC hl big)) _ _ (lD (AA ..) (by rw[<-hf,List.length_append];have:=MF run;exact(qP this hl big))))
  | @brk r run acc h1 h2=>
    intro eo m' x6 x7 x8 x9 h hl ha p
    simp only[List.length_cons]at hl
    have h32:(st.map fun c=>[c]).contains [32]=true:=by rw[cC,h2]
    by_cases hr:run=[]
    ·subst hr
     exact fin eo h rfl ha (by show K (.ok (.tup [.tup (acc++[]),_])) _;rw[List.append_nil];exact hP _ _ _ p true (FC h) _ (OA h) _ (YA st) true (nst h1) _ (OA h) false rfl _ (OA h) false rfl _ (OA h) true rfl _ (YA st) true h32 _ (wF h) true rfl false rfl _ _ (lD (AA ..) (by exact rC hl big)))
    ·have hf:=mG hr
     exact fin (by rw[<-hf];exact eo) h rfl ha (hP _ _ _ p true (FC h) _ (OA h) _ (YA st) true (nst h1) _ (OA h) false rfl _ (OA h) false rfl _ (OA h) true rfl _ (YA st) true h32 _ (wF h) true rfl true (Cd hr) _ (AA ..) _ JB _ _ (HB (by exact rC hl big)) _ _ (lD (AA ..) (by rw[<-hf,List.length_append];have:=MF run;exact(qP this hl big))))
  | @dtext r r' t run acc o' h1 hv hl' hp ih=>
    intro eo m' x6 x7 x8 x9 h hl ha p
    simp only[List.length_cons]at hl
    obtain⟨m1,hm1,c⟩:=hv _ h
    exact ih eo _ _ _ _ _ hm1.1 (by simp only[List.length_append];exact rC hl hl') ha (hP _ _ _ p true (FC h) _ (OA h) _ (YA st) true (nst h1) _ (OA h) true rfl _ c _ rfl true rfl _ rfl _ (jC (by exact qP hl hl' big)))
  | @dvar r r' nm run ix acc o' h1 hv hl' hp ih=>
    intro eo m' x6 x7 x8 x9 h hl ha p
    simp only[List.length_cons]at hl
    obtain⟨m1,hm1,c⟩:=hv _ h
    have hb:UB 0 [vr nm ix]=true:=by show(_&&true)=true;rw[hm1.2];rfl
    have hfl:=MF run
    refine ih eo _ (some (vr nm ix)) x7 x8 x9 hm1.1 (by simp only[List.length_append,List.length_cons,List.length_nil];exact qP hfl hl hl') (kA hb (kA HC ha)) ?_
    by_cases hr:run=[]
    ·subst hr
     rw[show VB []=[]from rfl,List.append_nil]
     exact hP _ _ _ p true (FC h) _ (OA h) _ (YA st) true (nst h1) _ (OA h) true rfl _ c _ rfl false rfl false rfl _ (AA ..) _ JB _ _ (HB (by exact rC hl big))
    ·rw[mG hr]at hfl ⊢
     exact hP _ _ _ p true (FC h) _ (OA h) _ (YA st) true (nst h1) _ (OA h) true rfl _ c _ rfl false rfl true (Cd hr) _ (AA ..) _ JB _ _ (HB (by exact rC hl big)) _ (AA ..) _ JB _ _ (HB (by simp only[List.length_append,List.length_cons,List.length_nil]at*;exact rC hl big))
  | @derr r run w acc h1 hv=>
    intro eo m' x6 x7 x8 x9 h hl ha p
    obtain⟨m1,hm1,c⟩:=hv _ h
    exact er eo (hP _ _ _ p true (FC h) _ (OA h) _ (YA st) true (nst h1) _ (OA h) true rfl _ c) rfl
  | @bok r r' scr run acc o' h1 hv hl' hp ih=>
    intro eo m' x6 x7 x8 x9 h hl ha p
    simp only[List.length_cons]at hl
    obtain⟨m1,hm1,c⟩:=hv _ h
    have hfl:=MF run
    refine ih eo _ (some (cm scr)) (some (.str scr)) x8 x9 hm1.1 (by simp only[List.length_append,List.length_cons,List.length_nil];exact qP hfl hl hl') (kA rfl (kA HC ha)) ?_
    by_cases hr:run=[]
    ·subst hr
     rw[show VB []=[]from rfl,List.append_nil]
     exact hP _ _ _ p true (FC h) _ (OA h) _ (YA st) true (nst h1) _ (OA h) false rfl _ (OA h) true rfl _ c _ rfl false rfl false rfl _ (AA ..) _ JB _ _ (HB (by exact rC hl big))
    ·rw[mG hr]at hfl ⊢
     exact hP _ _ _ p true (FC h) _ (OA h) _ (YA st) true (nst h1) _ (OA h) false rfl _ (OA h) true rfl _ c _ rfl false rfl true (Cd hr) _ (AA ..) _ JB _ _ (HB (by exact rC hl big)) _ (AA ..) _ JB _ _ (HB (by simp only[List.length_append,List.length_cons,List.length_nil]at*;exact rC hl big))
  | @berr r run w acc h1 hv=>
    intro eo m' x6 x7 x8 x9 h hl ha p
    obtain⟨m1,hm1,c⟩:=hv _ h
    exact er eo (hP _ _ _ p true (FC h) _ (OA h) _ (YA st) true (nst h1) _ (OA h) false rfl _ (OA h) true rfl _ c) rfl
  | @bs r r' v run acc o' h1 h2 hb hp ih=>
    intro eo m' x6 x7 x8 x9 h hl ha p
    simp only[List.length_cons]at hl
    have hlb:=hb.len
    obtain⟨m1,hm1,c⟩:=yC (d:=d+1) (hd:=none) P h hb
    refine ih eo _ (some (tx v)) x7 x8 (some (.str v)) hm1 (by simp only[List.length_append];exact rC hlb hl) ha ?_
    induction h32:st.contains 32 using Bool.casesOn with
    | true=>
      obtain⟨c2,r2,rfl⟩:∃c2 r2,r=c2::r2:=by cases hb <;>exact⟨_,_,rfl⟩
      exact hP _ _ _ p true (FC h) _ (OA h) _ (YA st) true (nst h1) _ (OA h) false rfl _ (OA h) false rfl _ (OA h) true rfl _ (YA st) true ((cC 32 st).trans h32) _ (wF h) false (IC fun q=>h2 h32 r2 (by rw[q])) _ c _ rfl true rfl _ rfl _ (jC (by exact qP hlb hl big))
    | false=>exact hP _ _ _ p true (FC h) _ (OA h) _ (YA st) true (nst h1) _ (OA h) false rfl _ (OA h) false rfl _ (OA h) true rfl _ (YA st) false ((cC 32 st).trans h32) _ c _ rfl true rfl _ rfl _ (jC (by exact qP hlb hl big))
  | @chars cs r run acc o' h0 hcs hr hp ih=>
    intro eo m' x6 x7 x8 x9 h hl ha p
    induction cs using List.casesOn with
    | nil=>exact absurd rfl h0
    | cons c cs=>
      have pl:∀{c},RC st c=true->[36,91,92].contains c=false/\st.contains c=false:=fun h=>by unfold RC at h;simp only[Bool.not_eq_true',Bool.or_eq_false_iff]at h;exact h
      obtain⟨hc,hst⟩:=pl (hcs c (.head _))
      simp only[List.length_append]at hl
      refine hP _ _ _ p true (FC h) _ (OA h) _ (YA st) true (nst hst) _ (OA h) false (IC (QH hc rfl)) _ (OA h) false (IC (QH hc rfl)) _ (OA h) false (IC (QH hc rfl)) fun Pw2 hP2 p2=>?_
      have go:∀(b a:List Nat) (m2:Nat),a++b=c::cs->DB T m2 (b++r)->Pw2 0 [some (.str T),some (.int (m2:Int)),some (vN st),some (.loc J.length),some (.str run),some (.int (T.length:Int)),x6,x7,some (.int (m':Int)),x9] (J++[.list acc])->False:=by
       intro b
       induction b with
       | nil=>
         intro a m2 ea h2 p
         refine ih eo _ (some (tx (c::cs))) x7 (some (.int (m':Int))) x9 h2 (by simp only[List.length_append];exact qC hl) ha ?_
         have cl:run.length+(c::cs).length<=10000000:=by exact rC hl big
         induction r using List.casesOn with
         | nil=>exact hP2 _ _ _ p false (FC h2) _ (uD h h2) _ rfl true rfl _ rfl _ (jC cl)
         | cons c3 r=>
           have hc3:=hr c3 r rfl
           simp only[RC,Bool.not_eq_false',Bool.or_eq_true]at hc3
           induction hsp:[36,91,92].contains c3 using Bool.casesOn with
           | true=>exact hP2 _ _ _ p true (FC h2) _ (OA h2) false (by rw[hsp];rfl) _ (uD h h2) _ rfl true rfl _ rfl _ (jC cl)
           | false=>exact hP2 _ _ _ p true (FC h2) _ (OA h2) true (by rw[hsp];rfl) _ (OA h2) _ (YA st) false (nst (hc3.resolve_left (by rw[hsp];decide))) _ (uD h h2) _ rfl true rfl _ rfl _ (jC cl)
       | cons c2 b ihb=>
         intro a m2 ea h2 p
         obtain⟨u1,u2⟩:=pl (hcs c2 (by rw[<-ea];simp))
         exact ihb (a++[c2]) (m2+1) (by simpa using ea) h2.next (hP2 _ _ _ p true (FC h2) _ (OA h2) true (by rw[u1];rfl) _ (OA h2) _ (YA st) true (nst u2))
      exact go (c::cs) [] m' rfl h p2
 exact goal s [] [] o hp rfl n none none none none hs (by have:=hs.len;simp only[List.length_nil];exact(qC (eR this))) rfl h0
end
section
variable{g:G}{d:Nat}{hd:Option Nat}{J:List O}{T s:List Nat}{n:Nat}
noncomputable def qB(b:Bool):List Nat:=if b then[32,9,11,12,13,10,59,93]else[32,9,11,12,13,10,59]
theorem uH(P:Prog g){b:Bool}:JA g (d+1) hd 279 [.bool b] J (.at (.ok (vN (qB b))) J):=
 P.f279.run rfl rfl fun K e f=>by
   cases b
   ·exact e (f false rfl) .same ⟨rfl,rfl⟩
   ·exact e (f true rfl) .same ⟨rfl,rfl⟩
noncomputable def yD(s:List Nat):Bool:=decide (s.take 3=[123,42,125])&&!([[],[10],[59]].contains ((s.drop 3).take 1))&&decide (IA (s.drop 3)=s.drop 3)
theorem eC:∀s:List Nat,(IA s).length<=s.length
 | []=>Nat.le_refl _
 | [c]=>by simp only[IA.r1,IA.r2,IA.r3];split <;>simp
 | c::c2::r=>by
   simp only[IA.r1,IA.r2,IA.r3]
   split
   ·have:=eC (c2::r);simp only[List.length_cons]at*;exact(qC this)
   ·split
    ·have:=eC r;simp only[List.length_cons]at*;exact(qC this)
    ·exact Nat.le_refl _
theorem Db{a b:List Nat}(h:a <:+ b)(e:b.length<=a.length):a=b:=by
 obtain⟨w,rfl⟩:=h
 rw[List.length_append]at e
 have:w=[]:=List.length_eq_zero_iff.mp (by lia)
 subst this;rfl
theorem DB.same{t:List Nat}{m:Nat}(h:DB T n s)(k:DB T m t)(hs:t <:+ s):decide ((m:Int)=(n:Int))=decide (t=s):=by
 congr 1
 refine propext ⟨fun q=>Db hs ?_,fun q=>?_⟩
 ·have:=h.len;have:=k.len;lia
 ·subst q;rw[k.uniq h]
theorem NH(P:Prog g)(hs:DB T n s):JA g (d+3) hd 286 [.str T, .int (n:Int)] J (.at (.ok (.bool (yD s))) J):=
 P.f286.run rfl rfl fun K e f=>by
   unfold yD at e
   by_cases h1:s.take 3=[123,42,125]
   ·have hl:3<=s.length:=by have:=congrArg List.length h1;rw[List.length_take]at this;simp only[List.length_cons,List.length_nil]at this;lia
    have hs3:=hs.skip hl
    rw[decide_eq_true h1,Bool.true_and]at e
    induction h2:[[],[10],[59]].contains ((s.drop 3).take 1)using Bool.casesOn with
    | true=>exact e (f _ (MB (j:=3) hs) false (by rw[decide_eq_true h1];rfl) _ (MB (j:=1) hs3) _ rfl true h2) .same ⟨by rw[h2];rfl,rfl⟩
    | false=>
      obtain⟨m,hm,c⟩:=oB (d:=d) (hd:=hd) P hs3
      exact e (f _ (MB (j:=3) hs) false (by rw[decide_eq_true h1];rfl) _ (MB (j:=1) hs3) _ rfl false h2 _ c) .same ⟨by rw[h2, <-hs3.same hm (CB _)];rfl,rfl⟩
   ·exact e (f _ (MB (j:=3) hs) true (by rw[decide_eq_false h1];rfl)) .same ⟨by rw[decide_eq_false h1];rfl,rfl⟩
theorem fF:∀s:List Nat,(cA s).length<=s.length
 | []=>Nat.le_refl _
 | [c]=>by simp[cA.r1,cA.r2,cA.r3]
 | c::c2::r=>by
   have e1:=fF (c2::r)
   have e2:=fF r
   simp only[cA.r1,cA.r2,cA.r3]
   split
   ·simp only[List.length_cons]at*;exact(qC e2)
   ·split
    ·simp
    ·simp only[List.length_cons]at*;exact(qC e1)
theorem GC.len{s t:List Nat}(h:GC s t):t.length<=s.length:=by
 induction h with
 | @stop s t e _=>rw[<-e];exact eC s
 | @sep s t r c e _ _ ih=>have:=eC s;rw[e]at this;simp only[List.length_cons]at this;exact(rC this ih)
 | @com s t r e _ ih=>have:=eC s;rw[e]at this;have:=fF (35::r);lia
class inductive MN(g:G)(T:List Nat)(d:Nat):List Nat->aF->Prop
 | done {r:List Nat}:MN g T d (93::r) (.ok .none r)
 | eof:MN g T d [] (.err [109,105,115,115,105,110,103,32,99,108,111,115,101,45,98,114,97,99,107,101,116])
 | step {c:Nat} {r b e z t:List Nat} {ws:List V} {o:aF}:c≠93->UH g T d true (c::r) (.ok ws b e z)->z.length<=(c::r).length->GC z t->MN g T d t o->MN g T d (c::r) o
 | err {c:Nat} {r w:List Nat}:c≠93->UH g T d true (c::r) (.err w)->MN g T d (c::r) (.err w)
theorem MN.suf{t:List Nat}{o:aF}(h:MN g T d t o){n:Nat}(hs:DB T n t):∀v r,o= .ok v r->∃m,DB T m r:=by
 induction h generalizing n with
 | done=>intro v r q;cases q;exact⟨_,hs.next⟩
 | eof=>intro v r q;cases q
 | step _ hc _ hk _ ih=>
   obtain⟨x,y,w,⟨_,_,hw,_⟩,_⟩:=hc n _ (.inl rfl) hs
   obtain⟨m,hm⟩:=hw.sub hk.suf
   exact ih hm
 | err=>intro v r q;cases q
noncomputable def bc(s:List Nat):aF->aF
 | .err w=> .err w
 | .ok _ r=> .ok (.str (s.take (s.length - (r.length+1)))) r
theorem yP(P:Prog g){s t:List Nat}{o:aF}(hk:GC s t)(hb:MN g T (d+4) t o):sP g T (d+5) s (bc s o):=by
 intro n hs
 obtain⟨m1,h1,c1⟩:=pB (d:=d+1) (hd:=none) P hs.next hk
 obtain⟨m,hm⟩:∃m,(bc s o).at T m:=by
  induction o using aF.casesOn with
  | err w=>exact⟨0,trivial⟩
  | ok v r=>obtain⟨m,h⟩:=hb.suf h1 v r rfl;exact⟨m,h,rfl⟩
 refine⟨m,hm,fun {J}=>P.f258.run rfl rfl fun K e f=>f _ c1 fun Pw hP h0=>?_⟩
 have goal:∀(t:List Nat) (o':aF),MN g T (d+4) t o'->o'=o->∀(m:Nat) (x4:Option V),DB T m t->n+1<=m->
  Pw 0 [some (.str T),some (.int (n:Int)),some (.int ((n+1:Nat):Int)),some (.int (m:Int)),x4] J->False:=by
  intro t o' hb
  induction hb with
  | @done r=>
    rintro rfl m' x4 h hl p
    refine e (hP _ _ _ p true (FC h) _ (OA h) false rfl false (IJ h) _ KN) .same ⟨?_,rfl⟩
    have e1:=h.len;have e2:=hs.next.len
    rw[hs.next.eq,show m' - (n+1)=s.length - (r.length+1) by exact Ke e2 e1]
    exact congrArg (fun m:Nat=>iE.ok (.tup [.str _, .int (m:Int)])) (h.next.uniq hm.1)
  | eof=>
    rintro rfl m' x4 h hl p
    exact e (hP _ _ _ p false (FC h) true (IJ h) _ (nC P) _ _ (AA ..) (.inl rfl)) .same ⟨rfl,rfl⟩
  | @step c r b e z t ws o' hc hcmd hz hk hb ih=>
    rintro hq m' x4 h hl p
    obtain⟨x,y,w,⟨_,_,hw,_⟩,c1⟩:=hcmd _ _ (.inl rfl) h
    obtain⟨m2,h2,c2⟩:=pB (d:=d+1) (hd:=none) P hw hk
    exact ih hq m2 _ h2 (by have e1:=h.len;have e2:=h2.len;have e3:=hk.len;lia) (hP _ _ _ p true (FC h) _ (OA h) true (by rw[IC hc];rfl) _ c1 _ rfl _ c2)
  | @err c r w hc hcmd=>
    rintro rfl m' x4 h hl p
    obtain⟨x,y,w,_,c1⟩:=hcmd _ _ (.inl rfl) h
    exact e (hP _ _ _ p true (FC h) _ (OA h) true (by rw[IC hc];rfl) _ c1) .same ⟨rfl,rfl⟩
 exact goal t o hb rfl m1 none h1 (by have e1:=h1.len;have e2:=hs.next.len;have e3:=hk.len;exact(qP e3 (eR e2) (eL e1))) h0
noncomputable def XF(s:List Nat):List Nat:=if yD s then s.drop 3 else s
theorem jM(h:yD s=true):3<=s.length:=by
 unfold yD at h
 simp only[Bool.and_eq_true,decide_eq_true_eq]at h
 have:=congrArg List.length h.1.1
 rw[List.length_take]at this;simp only[List.length_cons,List.length_nil]at this;lia
theorem xE(P:Prog g){b:Bool}{K:iE->List O->Prop}(hs:DB T n s)(f:dF g (d+5) none KK [.str T, .int (n:Int), .bool b] J K){m:Nat}(hm:DB T m (XF s)):
 dB g (d+5) none KK.body.tl.tl [some (.str T),some (.int (m:Int)),some (.bool b),some (.bool (yD s)),none,none,none,none,none] J (LF K) (jF K):=by
 unfold XF at hm
 induction h:yD s using Bool.casesOn with
 | true=>
   rw[h]at hm
   rw[hm.uniq (hs.skip (jM h))]
   have:=f _ (NH P hs) true h
   rw[h]at this
   exact this
 | false=>
   rw[h]at hm
   rw[hm.uniq hs]
   have:=f _ (NH P hs) false h
   rw[h]at this
   exact this
theorem pL(hs:DB T n s):∃m,DB T m (XF s):=by
 unfold XF;split
 ·rename_i h;exact⟨_,hs.skip (jM h)⟩
 ·exact⟨_,hs⟩
noncomputable def ac(ex:Bool):Option (List Nat×List Nat)->aF
 | none=> .err [109,105,115,115,105,110,103,32,99,108,111,115,101,45,98,114,97,99,101]
 | some (i,r')=> .ok (.tup [.bool ex, .tup (VB i)]) r'
theorem mQ(P:Prog g){b:Bool}{r:List Nat}{o:Option (List Nat×List Nat)}(he:XF s=123::r)(hb:jA 1 r [] o):
 AH g T (d+6) b s (ac (yD s) o):=by
 intro n hs
 obtain⟨m1,h1⟩:=pL hs
 have h1':=h1
 rw[he]at h1'
 obtain⟨m,hm,c⟩:=iU (d:=d+1) P h1' hb
 induction o using Option.casesOn with
 | none=>exact⟨m,trivial,fun {J}=>P.f293.run rfl rfl fun K e f=>e (xE P hs f h1 _ (SD h1') true rfl _ c) .same ⟨rfl,rfl⟩⟩
 | some x=>
   refine⟨m,⟨hm.1,by show(true&&((UB 0 (VB x.1))&&true))=true;rw[HC];rfl⟩,fun {J}=>P.f293.run rfl rfl fun K e f=>?_⟩
   by_cases q:x.1=[]
   ·exact e (xE P hs f h1 _ (SD h1') true rfl _ c true (decide_eq_true q)) .same ⟨by rw[VB,if_pos q],rfl⟩
   ·exact e (xE P hs f h1 _ (SD h1') true rfl _ c false (decide_eq_false q)) .same ⟨by rw[mG q],rfl⟩
theorem tL{v:V}{b:Bool}(h:below 0 v=true):below 0 (.tup [.bool b,v])=true:=by show(true&&(below 0 v&&true))=true;rw[h];rfl
theorem nQ(P:Prog g){b:Bool}{r:List Nat}{o:aF}(he:XF s=34::r)(hp:YK g T (d+5) [34] r o):
 AH g T (d+6) b s (match o with | .err w=> .err w | .ok v []=> .err [109,105,115,115,105,110,103,32,34] | .ok v (_::r')=> .ok (.tup [.bool (yD s),v]) r'):=by
 intro n hs
 obtain⟨m1,h1⟩:=pL hs
 have h1':=h1
 rw[he]at h1'
 obtain⟨m,hm,c⟩:=hp _ h1'.next
 induction o using aF.casesOn with
 | err w=>exact⟨m,trivial,fun {J}=>P.f293.run rfl rfl fun K e f=>e (xE P hs f h1 _ (SD h1') false rfl true rfl _ c) .same ⟨rfl,rfl⟩⟩
 | ok v rest=>induction rest using List.casesOn with
   | nil=>exact⟨m,trivial,fun {J}=>P.f293.run rfl rfl fun K e f=>e (xE P hs f h1 _ (SD h1') false rfl true rfl _ c true (IJ hm.1) _ (nC P) _ _ (AA ..) (.inl rfl)) .same ⟨rfl,rfl⟩⟩
   | cons x r'=>exact⟨m+1,⟨hm.1.next,tL hm.2⟩,fun {J}=>P.f293.run rfl rfl fun K e f=>e (xE P hs f h1 _ (SD h1') false rfl true rfl _ c false (IJ hm.1)) .same ⟨rfl,rfl⟩⟩
theorem FU(P:Prog g){b:Bool}{o:aF}(he:∀r,XF s≠123::r)(he2:∀r,XF s≠34::r)(hp:YK g T (d+5) (qB b) (XF s) o):
 AH g T (d+6) b s (match o with | .err w=> .err w | .ok v r'=> .ok (.tup [.bool (yD s),v]) r'):=by
 intro n hs
 obtain⟨m1,h1⟩:=pL hs
 obtain⟨m,hm,c⟩:=hp _ h1
 induction o using aF.casesOn with
 | err w=>exact⟨m,trivial,fun {J}=>P.f293.run rfl rfl fun K e f=>e (xE P hs f h1 _ (MB (j:=1) h1) false (rD he) false (rD he2) _ (uH P) _ c) .same ⟨rfl,rfl⟩⟩
 | ok v r'=>exact⟨m,⟨hm.1,tL hm.2⟩,fun {J}=>P.f293.run rfl rfl fun K e f=>e (xE P hs f h1 _ (MB (j:=1) h1) false (rD he) false (rD he2) _ (uH P) _ c) .same ⟨rfl,rfl⟩⟩
class inductive pJ(g:G)(T:List Nat)(d:Nat)(b:Bool):List Nat->List Nat->List V->DG->Prop
 | eof {b0 p e:List Nat} {acc:List V} {w:V}:AH g T d b p (.ok w e)->e.length < p.length->IA e=[]->pJ g T d b b0 p acc (.ok (acc++[w]) b0 e [])
 | sep {b0 p e r:List Nat} {c:Nat} {acc:List V} {w:V}:AH g T d b p (.ok w e)->e.length < p.length->IA e=c::r->c=10\/c=59->pJ g T d b b0 p acc (.ok (acc++[w]) b0 e r)
 | close {b0 p e r:List Nat} {acc:List V} {w:V}:b=true->AH g T d b p (.ok w e)->e.length < p.length->IA e=93::r->pJ g T d b b0 p acc (.ok (acc++[w]) b0 e (93::r))
 | more {b0 p e r:List Nat} {c:Nat} {acc:List V} {w:V} {o:DG}:AH g T d b p (.ok w e)->e.length < p.length->IA e=c::r->c≠10->c≠59->(b=true->c≠93)->c::r≠e->pJ g T d b b0 (c::r) (acc++[w]) o->pJ g T d b b0 p acc o
 | err {b0 p w:List Nat} {acc:List V}:AH g T d b p (.err w)->pJ g T d b b0 p acc (.err w)
 | extra {b0 p p' r:List Nat} {c x:Nat} {acc:List V} {w:V}:AH g T d b p (.ok w (c::r))->p=p'++x::c::r->IA (c::r)=c::r->c≠10->c≠59->(b=true->c≠93)->
  pJ g T d b b0 p acc (.err (if x=34 then[101,120,116,114,97,32,99,104,97,114,97,99,116,101,114,115,32,97,102,116,101,114,32,99,108,111,115,101,45,113,117,111,116,101]else[101,120,116,114,97,32,99,104,97,114,97,99,116,101,114,115,32,97,102,116,101,114,32,99,108,111,115,101,45,98,114,97,99,101]))
theorem PO(P:Prog g){b:Bool}{t:List Nat}(hk:GC s t)(ht:t=[]\/(b=true/\∃r,t=93::r)):UH g T (d+7) b s .none:=by
 intro n vs hv hs
 obtain⟨m,hm,c⟩:=pB (d:=d+3) (hd:=none) P hs hk
 refine⟨0,0,0,trivial,fun {J}=>?_⟩
 have go:∀K:iE->List O->Prop,dF g (d+6) none pC [.str T, .int (n:Int), .bool b] J K->K (.ok .none) J:=by
  intro K f
  rcases ht with rfl | ⟨rfl,r,rfl⟩
  ·exact f _ c true (IJ hm)
  ·exact f _ c false (IJ hm) true rfl _ (OA hm) true rfl
 rcases hv with rfl | ⟨rfl,rfl⟩
 ·exact P.f301.run rfl rfl fun K e f=>e (go K f) .same ⟨rfl,rfl⟩
 ·exact P.f301.run rfl rfl fun K e f=>e (go K f) .same ⟨rfl,rfl⟩
theorem pJ.at{b:Bool}{b0 p:List Nat}{acc:List V}{o:DG}(h:pJ g T d b b0 p acc o){m q:Nat}(hm:DB T m b0)(hq:DB T q p)(ha:Mine.UB 0 acc=true):∃x y w,o.at T x y w:=by
 have one:∀{w:V},Mine.below 0 w=true->Mine.UB 0 [w]=true:=fun h=>by show(_&&true)=true;rw[h];rfl
 induction h generalizing q with
 | eof hw _ hg=>obtain⟨y,hy,_⟩:=hw _ hq;exact⟨m,y,T.length,hm,hy.1,⟨Nat.le_refl _,by simp,hy.1.big⟩,kA (one hy.2) ha⟩
 | sep hw _ hg _=>obtain⟨y,hy,_⟩:=hw _ hq;obtain⟨z,hz⟩:=hy.1.sub (CB _);rw[hg]at hz;exact⟨m,y,z+1,hm,hy.1,hz.next,kA (one hy.2) ha⟩
 | close _ hw _ hg=>obtain⟨y,hy,_⟩:=hw _ hq;obtain⟨z,hz⟩:=hy.1.sub (CB _);rw[hg]at hz;exact⟨m,y,z,hm,hy.1,hz,kA (one hy.2) ha⟩
 | more hw _ hg _ _ _ _ _ ih=>obtain⟨y,hy,_⟩:=hw _ hq;obtain⟨z,hz⟩:=hy.1.sub (CB _);rw[hg]at hz;exact ih hz (kA (one hy.2) ha)
 | err=>exact⟨0,0,0,trivial⟩
 | extra=>exact⟨0,0,0,trivial⟩
theorem gZ(P:Prog g){b:Bool}{c:Nat}{t:List Nat}{o:DG}(hk:GC s (c::t))(hb:b=true->c≠93)(hc:pJ g T (d+6) b (c::t) (c::t) [] o):UH g T (d+7) b s o:=by
 intro n vs hv hs
 obtain⟨m,hm,c1⟩:=pB (d:=d+3) (hd:=none) P hs hk
 obtain⟨x,y,w,ho⟩:=hc.at hm hm rfl
 refine⟨x,y,w,ho,fun {J}=>?_⟩
 have go:∀K:iE->List O->Prop,(∀{r:iE} {NA:List O} {r0:iE} {kG:List O},K r NA->Fin J r NA r0 kG->(o.sp J x y w).R r0 kG->False)->dF g (d+6) none pC [.str T, .int (n:Int), .bool b] J K->False:=by
  intro K e f
  have big:=hs.big
  have top:dB g (d+6) none pC.body.tl.tl.tl.tl.tl [some (.str T),some (.int (n:Int)),some (.bool b),some (.int (m:Int)),some (.int (T.length:Int)),some (.loc J.length),some (.int (m:Int)),none,none] (J++[.list []]) (LF K) (jF K):=by
   by_cases q:b=true
   ·exact f _ c1 false (IJ hm) true q _ (OA hm) false (IC (hb q))
   ·exact f _ c1 false (IJ hm) false (Bool.eq_false_iff.mpr q)
  refine top fun Pw hP h0=>?_
  have goal:∀(b0 p:List Nat) (acc:List V) (o':DG),pJ g T (d+6) b b0 p acc o'->o'=o->b0=c::t->∀(q:Nat) (x7 x8:Option V),DB T q p->acc.length+p.length<=T.length->UB 0 acc=true->
   Pw 0 [some (.str T),some (.int (n:Int)),some (.bool b),some (.int (m:Int)),some (.int (T.length:Int)),some (.loc J.length),some (.int (q:Int)),x7,x8] (J++[.list acc])->False:=by
   intro b0 p acc o' hc
   have fin:∀{ws:List V} {e z:List Nat} {y' w':Nat},DG.ok ws (c::t) e z=o->DB T y' e->DB T w' z->∀{j},K (.ok (.tup [.tup ws, .int (m:Int), .int (y':Int), .int (w':Int)])) (J++j)->False:=by
    intro ws e' z y' w' eo hy hw j k
    subst eo
    obtain⟨o1,o2,o3,o4⟩:=ho
    refine e k (.drop (by show(UB 0 ws&&true)=true;rw[o4];rfl)) ⟨?_,rfl⟩
    rw[hm.uniq o1,hy.uniq o2,hw.uniq o3]
   have one:∀{w:V},below 0 w=true->UB 0 [w]=true:=fun h=>by show(_&&true)=true;rw[h];rfl
   induction hc with
   | @eof p e' acc w' hw hl hg=>
     rintro eo rfl q x7 x8 h h4 ha p
     obtain⟨y,hy,cw⟩:=hw _ h
     obtain⟨z,hz,cg⟩:=oB (d:=d+4) (hd:=none) P hy.1
     rw[hg]at hz
     exact fin eo hy.1 ⟨Nat.le_refl _,by simp,big⟩ (hP _ _ _ p true rfl _ cw _ (AA ..) _ JB _ _ (HB (by exact rC h4 big)) _ cg true (IJ hz) _ _ (lD (AA ..) (by simp only[List.length_append,List.length_cons,List.length_nil];exact qP h4 hl big)))
   | @sep p e' r c2 acc w' hw hl hg hc2=>
     rintro eo rfl q x7 x8 h h4 ha p
     obtain⟨y,hy,cw⟩:=hw _ h
     obtain⟨z,hz,cg⟩:=oB (d:=d+4) (hd:=none) P hy.1
     rw[hg]at hz
     exact fin eo hy.1 hz.next (hP _ _ _ p true rfl _ cw _ (AA ..) _ JB _ _ (HB (by exact rC h4 big)) _ cg false (IJ hz) _ (OA hz) _ rfl true (by rcases hc2 with rfl | rfl <;>rfl) _ _ (lD (AA ..) (by simp only[List.length_append,List.length_cons,List.length_nil];exact qP h4 hl big)))
   | @close p e' r acc w' hbt hw hl hg=>
     rintro eo rfl q x7 x8 h h4 ha p
     obtain⟨y,hy,cw⟩:=hw _ h
     obtain⟨z,hz,cg⟩:=oB (d:=d+4) (hd:=none) P hy.1
     rw[hg]at hz
     exact fin eo hy.1 hz (hP _ _ _ p true rfl _ cw _ (AA ..) _ JB _ _ (HB (by exact rC h4 big)) _ cg false (IJ hz) _ (OA hz) _ rfl false rfl true hbt _ (OA hz) true rfl _ _ (lD (AA ..) (by simp only[List.length_append,List.length_cons,List.length_nil];exact qP h4 hl big)))
   | @more p e' r c2 acc w' o' hw hl hg h10 h59 h93 hne hc ih=>
     rintro eo rfl q x7 x8 h h4 ha p
     obtain⟨y,hy,cw⟩:=hw _ h
     obtain⟨z,hz,cg⟩:=oB (d:=d+4) (hd:=none) P hy.1
     rw[hg]at hz
     have hgl:=eC e'
     rw[hg]at hgl
     have hni:[[10],[59]].contains [c2]=false:=by simp[h10,h59]
     have hz2:decide ((z:Int)=(y:Int))=false:=(hy.1.same hz (hg ▸ CB _)).trans (decide_eq_false hne)
     refine ih eo rfl _ (some w') (some (.int (y:Int))) hz (by simp only[List.length_append,List.length_cons,List.length_nil]at*;exact qP hgl h4 hl) (kA (one hy.2) ha) ?_
     by_cases hbt:b=true
     ·exact hP _ _ _ p true rfl _ cw _ (AA ..) _ JB _ _ (HB (by exact rC h4 big)) _ cg false (IJ hz) _ (OA hz) _ rfl false hni true hbt _ (OA hz) false (IC (h93 hbt)) false hz2
     ·exact hP _ _ _ p true rfl _ cw _ (AA ..) _ JB _ _ (HB (by exact rC h4 big)) _ cg false (IJ hz) _ (OA hz) _ rfl false hni false (Bool.eq_false_iff.mpr hbt) false hz2
   | @err p w' acc hw=>
     rintro rfl rfl q x7 x8 h h4 ha p
     obtain⟨y,hy,cw⟩:=hw _ h
     exact e (hP _ _ _ p true rfl _ cw) (.err rfl) ⟨rfl,rfl⟩
   | @extra p p' r c2 x' acc w' hw hp hg h10 h59 h93=>
     rintro eo rfl q x7 x8 h h4 ha pp
     obtain⟨y,hy,cw⟩:=hw _ h
     obtain⟨z,hz,cg⟩:=oB (d:=d+4) (hd:=none) P hy.1
     rw[hg]at hz
     have hni:[[10],[59]].contains [c2]=false:=by simp[h10,h59]
     have hz2:decide ((z:Int)=(y:Int))=true:=decide_eq_true (by rw[hz.uniq hy.1])
     rw[hp]at h
     have hx:=h.app
     have hix:∀{J},QT g J (.str T) (.int ((y:Int) - 1))=some (.str [x']):=by rw[<-hx.next.uniq hy.1,Bb];exact OA hx
     have h4:acc.length<=100000:=by exact rC h4 big
     have lst:K (.exn (J++[O.list (acc++[w'])]).length) (J++[O.list (acc++[w'])]++xB (J++[O.list (acc++[w'])]).length (if x'=34 then[101,120,116,114,97,32,99,104,97,114,97,99,116,101,114,115,32,97,102,116,101,114,32,99,108,111,115,101,45,113,117,111,116,101]else[101,120,116,114,97,32,99,104,97,114,97,99,116,101,114,115,32,97,102,116,101,114,32,99,108,111,115,101,45,98,114,97,99,101]) ZH):=by
      by_cases hx34:x'=34
      ·rw[if_pos hx34]
       subst hx34
       by_cases hbt:b=true
       ·exact hP _ _ _ pp true rfl _ cw _ (AA ..) _ JB _ _ (HB h4) _ cg false (IJ hz) _ (OA hz) _ rfl false hni true hbt _ (OA hz) false (IC (h93 hbt)) true hz2 _ hix true rfl _ (nC P) _ _ (AA ..) (.inl rfl)
       ·exact hP _ _ _ pp true rfl _ cw _ (AA ..) _ JB _ _ (HB h4) _ cg false (IJ hz) _ (OA hz) _ rfl false hni false (Bool.eq_false_iff.mpr hbt) true hz2 _ hix true rfl _ (nC P) _ _ (AA ..) (.inl rfl)
      ·rw[if_neg hx34]
       by_cases hbt:b=true
       ·exact hP _ _ _ pp true rfl _ cw _ (AA ..) _ JB _ _ (HB h4) _ cg false (IJ hz) _ (OA hz) _ rfl false hni true hbt _ (OA hz) false (IC (h93 hbt)) true hz2 _ hix false (IC hx34) _ (nC P) _ _ (AA ..) (.inl rfl)
       ·exact hP _ _ _ pp true rfl _ cw _ (AA ..) _ JB _ _ (HB h4) _ cg false (IJ hz) _ (OA hz) _ rfl false hni false (Bool.eq_false_iff.mpr hbt) true hz2 _ hix false (IC hx34) _ (nC P) _ _ (AA ..) (.inl rfl)
     subst eo
     exact e lst (.err rfl) ⟨rfl,rfl⟩
  exact goal _ _ [] o hc rfl rfl m none none hm (by have:=hm.len;simp only[List.length_nil];exact(qC (eR this))) rfl h0
 rcases hv with rfl | ⟨rfl,rfl⟩
 ·exact P.f301.run rfl rfl fun K e f=>go K e f
 ·exact P.f301.run rfl rfl fun K e f=>go K e f
end
section
variable{g:G}{d:Nat}{hd:Option Nat}{J NA YF:List O}{T s:List Nat}{n:Nat}
structure Wd where
 St:Type
 W:St->List O->Prop
 own:St->Nat->Prop
 lt:∀{st J l},W st J->own st l->l < J.length
 cong:∀{st J NA},W st J->(∀l,own st l->NA[l]?=J[l]?)->W st NA
variable{w:Wd}{st st' st'':w.St}
structure gA(w:Wd)(st:w.St)(J:List O)(st':w.St)(NA:List O):Prop where
 ok:w.W st' NA
 len:J.length<=NA.length
 keep:∀l,l < J.length->¬w.own st l->NA[l]?=J[l]?
 own:∀l,w.own st' l->w.own st l\/J.length<=l
theorem gA.refl(h:w.W st J):gA w st J st J:=⟨h,Nat.le_refl _,fun u0 u0 u0=>rfl,fun u0 h=> .inl h⟩
theorem gA.trans(a:gA w st J st' NA)(b:gA w st' NA st'' YF):gA w st J st'' YF:=
 ⟨b.ok,Nat.le_trans a.len b.len,fun l h1 h2=>by
   rw[b.keep l (Nat.lt_of_lt_of_le h1 a.len) (fun q=>by rcases a.own l q with q | q;exact h2 q;lia),a.keep l h1 h2],
  fun l h=>by
   rcases b.own l h with q | q
   ·exact a.own l q
   ·exact .inr (Nat.le_trans a.len q)⟩
theorem gA.app(h:w.W st J)(j:List O):gA w st J st (J++j):=
 ⟨w.cong h fun l q=>List.getElem?_append_left (w.lt h q),by simp,fun l q u0=>List.getElem?_append_left q,fun u0 q=> .inl q⟩
theorem gA.push(a:gA w st J st' NA)(j:List O):gA w st J st' (NA++j):=a.trans (.app a.ok j)
theorem gA.set(a:gA w st J st' NA){l:Nat}(x:O)(h1:J.length<=l)(h2:¬w.own st' l):gA w st J st' (NA.set l x):=
 ⟨w.cong a.ok fun k q=>List.getElem?_set_ne (fun e=>h2 (by rw[e];exact q)),by simpa using a.len,fun k q1 q2=>by rw[List.getElem?_set_ne (by exact Nat.ne_of_gt (rC q1 h1))];exact a.keep k q1 q2,a.own⟩
theorem gA.nown(a:gA w st J st' NA){l:Nat}(h1:l < J.length)(h:¬w.own st l):¬w.own st' l:=fun q=>by
 rcases a.own l q with q | q
 ·exact h q
 ·lia
theorem Wd.new(h:w.W st J):¬w.own st J.length:=fun q=>Nat.lt_irrefl _ (w.lt h q)
structure kB(w:Wd)(st:w.St)(J:List O)(l:Nat)(x:O):Prop where
 at':J[l]?=some x
 own:¬w.own st l
theorem kB.lt{l:Nat}{x:O}(m:kB w st J l x):l < J.length:=(List.getElem?_eq_some_iff.mp m.at').1
theorem kB.after{l:Nat}{x:O}(m:kB w st J l x)(a:gA w st J st' NA):kB w st' NA l x:=
 ⟨(a.keep l m.lt m.own).trans m.at',a.nown m.lt m.own⟩
theorem kB.new(h:w.W st J)(x:O)(j:List O):kB w st (J++x::j) J.length x:=⟨AA ..,w.new h⟩
theorem kB.set{l:Nat}{x:O}(m:kB w st J l x)(y:O):kB w st (J.set l y) l y:=⟨by rw[List.getElem?_set_self m.lt],m.own⟩
theorem kB.set_ne{l k:Nat}{x:O}(m:kB w st J l x)(y:O)(h:k≠l):kB w st (J.set k y) l x:=⟨by rw[List.getElem?_set_ne h];exact m.at',m.own⟩
inductive CD(w:Wd)(st:w.St)(n:Nat)(J:List O)(l:Nat)(z:Rz):Prop
 | mk (dl xl:Nat) (h1:n<=l) (h2:n<=dl) (h3:l≠dl) (e1:kB w st J l (.exc 84 dl)) (e2:kB w st J dl (.ad (z.ad xl)))
theorem CD.after{n l:Nat}{z:Rz}(h:CD w st n J l z)(a:gA w st J st' NA):CD w st' n NA l z:=by
 obtain⟨dl,xl,h1,h2,h3,h4,h5⟩:=h;exact⟨dl,xl,h1,h2,h3,h4.after a,h5.after a⟩
theorem CD.le{n m l:Nat}{z:Rz}(h:CD w st n J l z)(q:m<=n):CD w st m J l z:=by
 obtain⟨dl,xl,h1,h2,h3,h4,h5⟩:=h;exact⟨dl,xl,by exact Nat.le_trans q h1,by exact Nat.le_trans q h2,h3,h4,h5⟩
theorem CD.err(h:w.W st J)(why:List Nat)(ec:V):CD w st J.length (J++xB J.length why ec) J.length (VF why ec):=
 ⟨J.length+1,J.length+2,Nat.le_refl _,by exact Nat.le_add_right _ _,by exact Nat.ne_of_lt (Nat.lt_succ_self _),⟨AA ..,w.new h⟩,⟨KC J _ 1,fun q=>by have:=w.lt h q;lia⟩⟩
inductive dC(w:Wd) where
 | ok (v:V) (st:w.St)
 | err (z:Rz) (st:w.St)
noncomputable def dC.sp(w:Wd)(st:w.St)(J:List O):dC w->Sp
 | .ok v st'=> .to v fun NA=>gA w st J st' NA
 | .err z st'=> .exn fun l NA=>gA w st J st' NA/\CD w st' J.length NA l z
theorem CD.raise{why:List Nat}{ec:V}(a:gA w st J st' NA):gA w st J st' (NA++xB NA.length why ec)/\CD w st' J.length (NA++xB NA.length why ec) NA.length (VF why ec):=
 ⟨a.push _,(CD.err a.ok why ec).le a.len⟩
end
section
variable{g:G}{d:Nat}{hd:Option Nat}{J NA YF:List O}{T s:List Nat}{n:Nat}{w:Wd}{st st' st'':w.St}{h:Nat}
theorem mB{l:Nat}{xs:List V}{v:V}{Q:V->List O->Prop}(hn:xs.length<=100000)(h:Q .none (J.set l (.list (xs++[v])))):XB J l xs [97,112,112,101,110,100] [v] Q:=by
 unfold XB;rw[if_pos rfl];exact⟨hn,h⟩
structure NU(h:Nat)(J:List O)(dl:Nat)(kvs:List (List Nat×V)):Prop where
 obj:J[h]?=some (.inst 643 dl)
 ad:qH J dl=some kvs
 no:∀n,(LL 643 n).isSome=true->QA n kvs=none
noncomputable def XK(w:Wd)(h:Nat):Prop:=∀ ⦃st:w.St⦄ ⦃J:List O⦄,w.W st J->∃dl kvs,NU h J dl kvs
noncomputable def NM(g:G)(w:Wd)(h d:Nat)(nm:List Nat)(st:w.St)(o:dC w):Prop:=∀ ⦃J:List O⦄,w.W st J->JA g d none 576 [.loc h, .str nm] J (o.sp w st J)
noncomputable def QU(g:G)(w:Wd)(h d:Nat)(s:List Nat)(st:w.St)(o:dC w):Prop:=∀ ⦃J:List O⦄,w.W st J->JA g d none 442 [.loc h, .str s] J (o.sp w st J)
noncomputable def jE(g:G)(w:Wd)(h d:Nat)(ps:List V)(st:w.St)(o:dC w):Prop:=∀ ⦃J:List O⦄,w.W st J->JA g d none 371 [.loc h, .tup ps] J (o.sp w st J)
class inductive ED(g:G)(w:Wd)(h d:Nat):List V->w.St->List (List Nat)->dC w->Prop
 | nil {st:w.St} {acc:List (List Nat)}:acc.flatten.length<=1000000->ED g w h d [] st acc (.ok (.str acc.flatten) st)
 | text {r:List V} {s:List Nat} {st:w.St} {acc:List (List Nat)} {o:dC w}:ED g w h d r st (acc++[s]) o->ED g w h d (tx s::r) st acc o
 | var {r:List V} {nm v:List Nat} {st st':w.St} {acc:List (List Nat)} {o:dC w}:NM g w h d nm st (.ok (.str v) st')->ED g w h d r st' (acc++[v]) o->ED g w h d (vr nm .none::r) st acc o
 | varE {r:List V} {nm:List Nat} {z:Rz} {st st':w.St} {acc:List (List Nat)}:NM g w h d nm st (.err z st')->ED g w h d (vr nm .none::r) st acc (.err z st')
 | cmd {r:List V} {s v:List Nat} {st st':w.St} {acc:List (List Nat)} {o:dC w}:QU g w h d s st (.ok (.str v) st')->ED g w h d r st' (acc++[v]) o->ED g w h d (cm s::r) st acc o
 | cmdE {r:List V} {s:List Nat} {z:Rz} {st st':w.St} {acc:List (List Nat)}:QU g w h d s st (.err z st')->ED g w h d (cm s::r) st acc (.err z st')
 | arr {r ix:List V} {nm i v:List Nat} {st st1 st':w.St} {acc:List (List Nat)} {o:dC w}:jE g w h d ix st (.ok (.str i) st1)->nm.length+i.length<=1000000->NM g w h d (nm++40::(i++[41])) st1 (.ok (.str v) st')->ED g w h d r st' (acc++[v]) o->ED g w h d (vr nm (.tup ix)::r) st acc o
theorem zC:∀ss:List (List Nat),dA [] ss=ss.flatten
 | []=>rfl
 | [x]=>by simp[dA.r1,dA.r2,dA.r3]
 | x::y::r=>by(first | rw[dA.r1,zC (y::r)] | rw[dA.r2,zC (y::r)] | rw[dA.r3,zC (y::r)]);simp
theorem wC:∀ss:List (List Nat),iC (ss.map V.str)=some ss
 | []=>rfl
 | s::ss=>by show(iC (ss.map V.str)).map _=_;rw[wC ss];rfl
theorem UF(acc:List (List Nat))(s:List Nat):acc.map V.str++[.str s]=(acc++[s]).map V.str:=by simp
theorem qR{l:Nat}{xs:List V}{ss:List (List Nat)}{Q:V->List O->Prop}(hl:J[l]?=some (.list xs))(hx:iC xs=some ss)(hn:ss.flatten.length<=1000000)(h:Q (.str ss.flatten) J):sA J [] [106,111,105,110] [.loc l] Q:=
 kW hl hx (by rw[<-List.length_flatten];simp only[List.length_nil,Nat.mul_zero];exact qC hn) (by rw[zC];exact h)
theorem TS(P:Prog g)(H:XK w h){ps:List V}{o:dC w}(hn:ps.length<=50000)(ht:ED g w h d ps st [] o):jE g w h (d+1) ps st o:=by
 intro J hw
 refine P.f371.run rfl rfl fun K e f=>f fun Pw hP h0=>?_
 have key:∀(r:List V) (st1:w.St) (acc:List (List Nat)) (o':dC w),ED g w h d r st1 acc o'->o'=o->∀(k:Nat) (pre:List V) (MC:List O) (x3 x4:Option V),ps=pre++r->k=pre.length->acc.length=k->gA w st J st1 MC->kB w st1 MC J.length (.list (acc.map .str))->
  Pw k [some (.loc h),some (.tup ps),some (.loc J.length),x3,x4] MC->False:=by
  intro r st1 acc o' ht
  have le:∀{r pre:List V},ps=pre++r->pre.length<=50000:=fun e=>by rw[e,List.length_append]at hn;exact(db hn)
  have at0:∀{r pre:List V} {v:V},ps=pre++v::r->ps[pre.length]?=some v:=fun e=>by rw[e];exact AA ..
  induction ht with
  | @nil st1 acc hl=>
    rintro rfl k pre MC x3 x4 e1 rfl e2 ha hm p
    exact e (hP _ _ _ p none (List.getElem?_eq_none (by rw[e1];simp)) _ _ (qR hm.at' (wC acc) hl)) .same ⟨rfl,ha⟩
  | @text r s st1 acc o' ht ih=>
    rintro hq k pre MC x3 x4 e1 rfl e2 ha hm p
    refine ih hq (pre.length+1) (pre++[tx s]) _ _ _ (by rw[List.append_assoc];exact e1) (by simp) (by simp[e2]) (ha.set _ (Nat.le_refl _) hm.own) (hm.set _) (by rw[<-UF];exact hP _ _ _ p _ (at0 e1) _ rfl true rfl _ hm.at' _ rfl _ (TA hm.at') _ _ (mB (by have:=le e1;rw[List.length_map];exact(rC this (eL e2)))))
  | @var r nm v st1 tG acc o' hv ht ih=>
    rintro hq k pre MC x3 x4 e1 rfl e2 ha hm p
    obtain⟨dl,kvs,Hh⟩:=H ha.ok
    exact hP _ _ _ p _ (at0 e1) _ rfl false rfl _ rfl false rfl _ rfl true rfl _ hm.at' _ Hh.obj _ Hh.ad (Hh.no _ rfl) _ rfl _ (hv ha.ok) fun PB ha2 p=>
     have hm2:=hm.after ha2
     ih hq (pre.length+1) (pre++[vr nm .none]) _ _ _ (by rw[List.append_assoc];exact e1) (by simp) (by simp[e2]) ((ha.trans ha2).set _ (Nat.le_refl _) hm2.own) (hm2.set _) (by rw[<-UF];exact p _ (TA hm2.at') _ _ (mB (by have:=le e1;rw[List.length_map];exact(rC this (eL e2)))))
  | @varE r nm z st1 tG acc hv=>
    rintro rfl k pre MC x3 x4 e1 rfl e2 ha hm p
    obtain⟨dl,kvs,Hh⟩:=H ha.ok
    exact hP _ _ _ p _ (at0 e1) _ rfl false rfl _ rfl false rfl _ rfl true rfl _ hm.at' _ Hh.obj _ Hh.ad (Hh.no _ rfl) _ rfl _ (hv ha.ok) fun l PB q p=>e p .same ⟨l,rfl,ha.trans q.1,q.2.le ha.len⟩
  | @cmd r s v st1 tG acc o' hv ht ih=>
    rintro hq k pre MC x3 x4 e1 rfl e2 ha hm p
    obtain⟨dl,kvs,Hh⟩:=H ha.ok
    exact hP _ _ _ p _ (at0 e1) _ rfl false rfl _ rfl true rfl _ hm.at' _ Hh.obj _ Hh.ad (Hh.no _ rfl) _ rfl _ (hv ha.ok) fun PB ha2 p=>
     have hm2:=hm.after ha2
     ih hq (pre.length+1) (pre++[cm s]) _ _ _ (by rw[List.append_assoc];exact e1) (by simp) (by simp[e2]) ((ha.trans ha2).set _ (Nat.le_refl _) hm2.own) (hm2.set _) (by rw[<-UF];exact p _ (TA hm2.at') _ _ (mB (by have:=le e1;rw[List.length_map];exact(rC this (eL e2)))))
  | @cmdE r s z st1 tG acc hv=>
    rintro rfl k pre MC x3 x4 e1 rfl e2 ha hm p
    obtain⟨dl,kvs,Hh⟩:=H ha.ok
    exact hP _ _ _ p _ (at0 e1) _ rfl false rfl _ rfl true rfl _ hm.at' _ Hh.obj _ Hh.ad (Hh.no _ rfl) _ rfl _ (hv ha.ok) fun l PB q p=>e p .same ⟨l,rfl,ha.trans q.1,q.2.le ha.len⟩
  | @arr r ix nm i v st1 tG st3 acc o' hx hl hv ht ih=>
    rintro hq k pre MC x3 x4 e1 rfl e2 ha hm p
    exact hP _ _ _ p _ (at0 e1) _ rfl false rfl _ rfl false rfl _ rfl false rfl _ rfl _ (hx ha.ok) fun PB ha2 p=>by
     have hm2:=hm.after ha2
     obtain⟨dl,kvs,Hh⟩:=H ha2.ok
     have el:((nm++[40])++i)++[41]=nm++40::(i++[41]):=by simp
     have cv:JA g d none 576 [.loc h, .str (((nm++[40])++i)++[41])] PB (dC.sp w tG PB (.ok (.str v) st3)):=by rw[el];exact hv ha2.ok
     refine p _ hm2.at' _ Hh.obj _ Hh.ad (Hh.no _ rfl) _ rfl _ (jC (by simp only[List.length_cons,List.length_nil];exact qC hl)) _ (jC (by simp only[List.length_append,List.length_cons,List.length_nil];exact qC hl)) _ (jC (by simp only[List.length_append,List.length_cons,List.length_nil];exact qC hl)) _ cv fun xL ha3 p=>?_
     have hm3:=hm2.after ha3
     exact ih hq (pre.length+1) (pre++[vr nm (.tup ix)]) _ _ _ (by rw[List.append_assoc];exact e1) (by simp) (by simp[e2]) (((ha.trans ha2).trans ha3).set _ (Nat.le_refl _) hm3.own) (hm3.set _) (by rw[<-UF];exact p _ (TA hm3.at') _ _ (mB (by have:=le e1;rw[List.length_map];exact(rC this (eL e2)))))
 exact key ps st [] o ht rfl 0 [] _ _ _ rfl rfl rfl (.app hw _) (.new hw _ _) h0
inductive pH(w:Wd) where
 | ok (items:List (List Nat)) (st:w.St)
 | err (z:Rz) (st:w.St)
noncomputable def pH.sp(w:Wd)(st:w.St)(J:List O):pH w->Sp
 | .ok items st'=> .to (.loc J.length) fun NA=>gA w st J st' NA/\kB w st' NA J.length (.list (items.map .str))
 | .err z st'=>dC.sp w st J (.err z st')
noncomputable def WH(g:G)(w:Wd)(h d:Nat)(ws:List V)(st:w.St)(o:pH w):Prop:=∀ ⦃J:List O⦄,w.W st J->JA g d none 378 [.loc h, .tup ws] J (o.sp w st J)
noncomputable abbrev wL(b:Bool)(ps:List V):V:= .tup [.bool b, .tup ps]
class inductive oI(g:G)(w:Wd)(h d:Nat):List V->w.St->List (List Nat)->pH w->Prop
 | nil {st:w.St} {acc:List (List Nat)}:oI g w h d [] st acc (.ok acc st)
 | word {r ps:List V} {t:List Nat} {st st':w.St} {acc:List (List Nat)} {o:pH w}:jE g w h d ps st (.ok (.str t) st')->acc.length<=50000->oI g w h d r st' (acc++[t]) o->oI g w h d (wL false ps::r) st acc o
 | wordE {b:Bool} {r ps:List V} {z:Rz} {st st':w.St} {acc:List (List Nat)}:jE g w h d ps st (.err z st')->oI g w h d (wL b ps::r) st acc (.err z st')
theorem pe(P:Prog g){ws:List V}{o:pH w}(ht:oI g w h d ws st [] o):WH g w h (d+1) ws st o:=by
 intro J hw
 refine P.f378.run rfl rfl fun K e f=>f fun Pw hP h0=>?_
 have key:∀(r:List V) (st1:w.St) (acc:List (List Nat)) (o':pH w),oI g w h d r st1 acc o'->o'=o->∀(k:Nat) (pre:List V) (MC:List O) (x3 x4:Option V),ws=pre++r->k=pre.length->gA w st J st1 MC->kB w st1 MC J.length (.list (acc.map .str))->
  Pw k [some (.loc h),some (.tup ws),some (.loc J.length),x3,x4] MC->False:=by
  intro r st1 acc o' ht
  have at0:∀{r pre:List V} {v:V},ws=pre++v::r->ws[pre.length]?=some v:=fun e=>by rw[e];exact AA ..
  induction ht with
  | @nil st1 acc=>
    rintro rfl k pre MC x3 x4 e1 rfl ha hm p
    exact e (hP _ _ _ p none (List.getElem?_eq_none (by rw[e1];simp))) .same ⟨rfl,ha,hm⟩
  | @word r ps t st1 tG acc o' hv hl ht ih=>
    rintro hq k pre MC x3 x4 e1 rfl ha hm p
    exact hP _ _ _ p _ (at0 e1) _ rfl _ (hv ha.ok) fun PB ha2 p=>
     have hm2:=hm.after ha2
     ih hq (pre.length+1) (pre++[wL false ps]) _ _ _ (by rw[List.append_assoc];exact e1) (by simp) ((ha.trans ha2).set _ (Nat.le_refl _) hm2.own) (hm2.set _) (by rw[<-UF];exact p _ rfl false rfl _ hm2.at' _ (TA hm2.at') _ _ (mB (by rw[List.length_map];exact kC hl)))
  | @wordE b r ps z st1 tG acc hv=>
    rintro rfl k pre MC x3 x4 e1 rfl ha hm p
    exact hP _ _ _ p _ (at0 e1) _ rfl _ (hv ha.ok) fun l PB q p=>e p .same ⟨l,rfl,ha.trans q.1,q.2.le ha.len⟩
 exact key ws st [] o ht rfl 0 [] _ _ _ rfl rfl (.app hw _) (.new hw _ _) h0
end
section
variable{g:G}{d:Nat}{hd:Option Nat}{J NA YF:List O}{T s:List Nat}{n:Nat}{w:Wd}{st st' st'':w.St}{h:Nat}
noncomputable def sD(s:List Nat):List Nat:=if s.length<=150 then s else s.take 150++[46,46,46]
noncomputable def QD:List Nat:=[10,32,32,32,32,119,104,105,108,101,32,101,120,101,99,117,116,105,110,103,10,34]
noncomputable def mR:List Nat:=[10,32,32,32,32,105,110,118,111,107,101,100,32,102,114,111,109,32,119,105,116,104,105,110,10,34]
noncomputable def EP(z:Rz)(src:List Nat):Rz:=if z.code≠1 then z else
 {z with info:=(if z.info=[]then z.value++QD++sD src++[34]else if z.noted then z.info++mR++sD src++[34]else z.info),noted:=true}
noncomputable def IL(z:Rz)(line:Int):Rz:=if z.code≠1 then z else if z.line=0 then {z with line:=line}else z
noncomputable def pI(z:Rz):Prop:=z.value.length<=1000000/\z.info.length<=1000000
theorem AQ(s:List Nat):(sD s).length<=153:=by
 unfold sD;split
 ·lia
 ·simp;lia
theorem mC{l dl xl:Nat}{z:Rz}{nm:List Nat}{v:V}(h1:J[l]?=some (.exc 84 dl))(h2:J[dl]?=some (.ad (z.ad xl)))(ht:qD 84 nm=true)(hv:QA nm (z.ad xl)=some v)(ho:aG v=true):CH g J (.loc l) nm=some v:=
 let ⟨_,a,b⟩:=pQ (QV1:=fun x=>x=v) h1 h2 ht hv ho rfl
 b ▸ a
theorem lT{l dl xl:Nat}{z:Rz}{nm:List Nat}{v:V}{Q:List O->Prop}(h1:J[l]?=some (.exc 84 dl))(h2:J[dl]?=some (.ad (z.ad xl)))(ht:qD 84 nm=true)(hn:Nat.ble nm.length 1000=true)(k:Q (J.set dl (.ad (BB nm v (z.ad xl))))):yG g J (.loc l) nm v Q:=JN h1 h2 ht (Nat.le_of_ble_eq_true rfl) (Nat.le_of_ble_eq_true hn) k
theorem QO(P:Prog g){a:List Nat}(ha:a.length<=1000000):JA g (d+1) hd 146 [.str a, .int 150] J (.at (.ok (.str (sD a))) J):=kc (k:=150) P ha
theorem hJ(c:Nat):∀s:List Nat,(fA c s).length=s.count c+1
 | []=>rfl
 | x::r=>by
   have ih:=hJ c r
   simp only[fA.r1,fA.r2]
   split
   ·rename_i e;subst e;simp[ih]
   ·rename_i e
    rw[List.count_cons_of_ne e]
    induction q:fA c r using List.casesOn with
    | nil=>rw[q]at ih;simp at ih
    | cons y ys=>rw[q]at ih;simpa using ih
noncomputable def bE(T t:List Nat):Int:=(((T.take (T.length - t.length)).count 10+1:Nat):Int)
noncomputable def WD(T:List Nat)(z:Rz)(t src:List Nat):Rz:=EP (IL z (bE T t)) src
theorem zM{l:Nat}{x:O}(h:J[l]?=some x):J.set l x=J:=List.ext_getElem? fun i=>by
 by_cases e:l=i
 ·subst e;rw[List.getElem?_set_self (List.getElem?_eq_some_iff.mp h).1,h]
 ·rw[List.getElem?_set_ne e]
theorem oV(P:Prog g){l dl xl:Nat}{z:Rz}{src:List Nat}(h1:J[l]?=some (.exc 84 dl))(h2:J[dl]?=some (.ad (z.ad xl)))(hne:l≠dl)(hs:src.length<=1000000)(hz:pI z):
 JA g (d+2) hd 153 [.loc l, .str src] J (.at (.ok .none) (J.set dl (.ad ((EP z src).ad xl)))):=
 P.f153.run rfl rfl fun K e f=>by
   obtain⟨hz1,hz2⟩:=hz
   have hdl:dl < J.length:=(List.getElem?_eq_some_iff.mp h2).1
   have g1:∀x:O,(J.set dl x)[l]?=some (.exc 84 dl):=fun x=>by rw[List.getElem?_set_ne (by lia)];exact h1
   have g2:∀x:O,(J.set dl x)[dl]?=some x:=fun x=>List.getElem?_set_self hdl
   have hc:=AQ src
   unfold EP at e
   by_cases q:z.code=1
   ·rw[if_neg (fun h=>h q)]at e
    have q0:(!decide (z.code=1))=false:=by rw[decide_eq_true q];rfl
    by_cases q2:z.info=[]
    ·rw[if_pos q2]at e
     exact e (f _ (mC h1 h2 rfl rfl rfl) false q0 _ (mC h1 h2 rfl rfl rfl) true (decide_eq_true q2) _ (mC h1 h2 rfl rfl rfl) _ (jC (by simp;exact kC hz1)) _ (QO P hs) _ (jC (by simp only[List.length_append,List.length_cons,List.length_nil];exact rC hc hz1)) _ (jC (by simp only[List.length_append,List.length_cons,List.length_nil];exact rC hc hz1))
      _ (lT h1 h2 rfl rfl) _ (lT (z:={z with info:=z.value++QD++sD src++[34]}) (g1 _) (g2 _) rfl rfl)) .same ⟨rfl,by rw[List.set_set];rfl⟩
    ·rw[if_neg q2]at e
     induction q3:z.noted using Bool.casesOn with
     | true=>
       rw[if_pos q3]at e
       exact e (f _ (mC h1 h2 rfl rfl rfl) false q0 _ (mC h1 h2 rfl rfl rfl) false (decide_eq_false q2) _ (mC h1 h2 rfl rfl rfl) true q3 _ (mC h1 h2 rfl rfl rfl) _ (jC (by simp;exact kC hz2)) _ (QO P hs) _ (jC (by simp only[List.length_append,List.length_cons,List.length_nil];exact rC hc hz2)) _ (jC (by simp only[List.length_append,List.length_cons,List.length_nil];exact rC hc hz2))
        _ (lT h1 h2 rfl rfl) _ (lT (z:={z with info:=z.info++mR++sD src++[34]}) (g1 _) (g2 _) rfl rfl)) .same ⟨rfl,by rw[List.set_set];rfl⟩
     | false=>
       rw[if_neg (by rw[q3];decide)]at e
       exact e (f _ (mC h1 h2 rfl rfl rfl) false q0 _ (mC h1 h2 rfl rfl rfl) false (decide_eq_false q2) _ (mC h1 h2 rfl rfl rfl) false q3 _ (lT h1 h2 rfl rfl)) .same ⟨rfl,rfl⟩
   ·rw[if_pos q,zM h2]at e
    exact e (f _ (mC h1 h2 rfl rfl rfl) true (by rw[decide_eq_false q];rfl)) .same ⟨rfl,rfl⟩
theorem wa{c:Nat}{Q:V->List O->Prop}(hn:s.length<=1000000)(h:Q (.loc J.length) (J++[.list ((fA c s).map .str)])):sA J s [115,112,108,105,116] [.str [c]] Q:=dY hn h
theorem HR(P:Prog g){l dl xl k:Nat}{z:Rz}{b t e:List Nat}(h1:J[l]?=some (.exc 84 dl))(h2:J[dl]?=some (.ad (z.ad xl)))(hne:l≠dl)(hz:pI z)(hs:DB T n b)(hk:GC b t)(he:DB T k e):
 JA g (d+4) hd 385 [.loc l, .str T, .int (n:Int), .int (k:Int)] J (.to .none fun NA=>∃j,NA=(J++j).set dl (.ad ((WD T z t (t.take (t.length - e.length))).ad xl))):=
 P.f385.run rfl rfl fun K en f=>by
   have hdl:dl < J.length:=(List.getElem?_eq_some_iff.mp h2).1
   have hl:l < J.length:=(List.getElem?_eq_some_iff.mp h1).1
   by_cases q:z.code=1
   ·have q0:(!decide (z.code=1))=false:=by rw[decide_eq_true q];rfl
    obtain⟨m,hm,c⟩:=pB (d:=d) (hd:=hd) P hs hk
    have hml:=hm.len
    have hel:=he.len
    have big:=hs.big
    have hsrc:List.take (k - m) (List.drop m T)=t.take (t.length - e.length):=by rw[hm.eq,Ke hml hel]
    have hsl:(t.take (t.length - e.length)).length<=1000000:=by rw[List.length_take];exact Nat.le_trans (Nat.min_le_right _ _) (rC (eR hml) big)
    by_cases q2:z.line=0
    ·have hline:((List.map V.str (fA 10 (T.take m))).length:Int)=bE T t:=by
      rw[List.length_map];unfold bE;rw[hJ,show T.length - t.length=m by rw[hml,Nat.add_sub_cancel]]
     have e1:IL z (bE T t)={z with line:=bE T t}:=by unfold IL;rw[if_neg (fun h=>h q),if_pos q2]
     have g1:∀x:O,(J++[x])[l]?=some (.exc 84 dl):=fun x=>by rw[List.getElem?_append_left hl];exact h1
     have g2:∀x:O,(J++[x])[dl]?=some (.ad (z.ad xl)):=fun x=>by rw[List.getElem?_append_left hdl];exact h2
     refine en (f _ (mC h1 h2 rfl rfl rfl) false q0 _ c _ (mC h1 h2 rfl rfl rfl) true (decide_eq_true q2) _ xN _ _ (wa (by rw[List.length_take];exact Nat.le_trans (Nat.min_le_right _ _) (kC big))) (.int (bE T t)) _ (fun h=>mH (AA ..) (by rw[hline];exact h)) _ (lT (g1 _) (g2 _) rfl rfl) _ (fun {Q} h=>KN (by rw[hsrc];exact h)) _
      (oV (z:={z with line:=bE T t}) (dl:=dl) (xl:=xl) P (by rw[List.getElem?_set_ne (by lia)];exact g1 _) (by rw[List.getElem?_set_self (by simp;exact qC hdl)];rfl) hne hsl hz)) .same ⟨rfl,_,by rw[List.set_set];unfold WD;rw[e1]⟩
    ·have e1:IL z (bE T t)=z:=by unfold IL;rw[if_neg (fun h=>h q),if_neg q2]
     exact en (f _ (mC h1 h2 rfl rfl rfl) false q0 _ c _ (mC h1 h2 rfl rfl rfl) false (decide_eq_false q2) _ (fun {Q} h=>KN (by rw[hsrc];exact h)) _ (oV P h1 h2 hne hsl hz)) .same ⟨rfl,[],by unfold WD;rw[e1,List.append_nil]⟩
   ·have e1:IL z (bE T t)=z:=by unfold IL;rw[if_pos q]
    have e2:∀src,EP z src=z:=fun src=>by unfold EP;rw[if_pos q]
    exact en (f _ (mC h1 h2 rfl rfl rfl) true (by rw[decide_eq_false q];rfl)) .same ⟨rfl,[],by unfold WD;rw[e1,e2,List.append_nil,zM h2]⟩
noncomputable def tQ(g:G)(w:Wd)(h d:Nat)(items:List (List Nat))(st:w.St)(o:dC w):Prop:=∀ ⦃J:List O⦄ ⦃l:Nat⦄,w.W st J->kB w st J l (.list (items.map .str))->JA g d none 456 [.loc h, .loc l] J (o.sp w st J)
class inductive BM(g:G)(w:Wd)(h d:Nat)(T:List Nat):List Nat->List Nat->DG->w.St->dC w->Prop
 | none {res s:List Nat} {st:w.St}:BM g w h d T res s .none st (.ok (.str res) st)
 | parseE {res s t why:List Nat} {st:w.St}:GC s t->why.length<=1000000->BM g w h d T res s (.err why) st (.err (WD T (VF why ZH) t t) st)
 | wordE {res s b e z t:List Nat} {ws:List V} {zz:Rz} {st st1:w.St}:WH g w h d ws st (.err zz st1)->GC b t->pI zz->BM g w h d T res s (.ok ws b e z) st (.err (WD T zz t (t.take (t.length - e.length))) st1)
 | callE {res s b e z t:List Nat} {ws:List V} {items:List (List Nat)} {zz:Rz} {st st1 tG:w.St}:WH g w h d ws st (.ok items st1)->tQ g w h d items st1 (.err zz tG)->GC b t->pI zz->BM g w h d T res s (.ok ws b e z) st (.err (WD T zz t (t.take (t.length - e.length))) tG)
 | cmd {res v s b e z:List Nat} {ws:List V} {items:List (List Nat)} {c:DG} {st st1 tG:w.St} {o:dC w}:WH g w h d ws st (.ok items st1)->tQ g w h d items st1 (.ok (.str v) tG)->UH g T d false z c->BM g w h d T v z c tG o->BM g w h d T res s (.ok ws b e z) st o
noncomputable def ON(g:G)(w:Wd)(h d:Nat)(T:List Nat)(st:w.St)(o:dC w):Prop:=∀ ⦃J:List O⦄,w.W st J->JA g d none 392 [.loc h, .str T] J (o.sp w st J)
theorem BM.inv{res s:List Nat}{c:DG}{o:dC w}(h:BM g w h d T res s c st o):match c with
 | .none=>o= .ok (.str res) st
 | .err why=>∃t,GC s t/\why.length<=1000000/\o= .err (WD T (VF why ZH) t t) st
 | _=>True:=by
 induction h with
 | none=>rfl
 | parseE h1 h2=>exact⟨_,h1,h2,rfl⟩
 | _=>trivial
theorem ib(P:Prog g)(H:XK w h){c:DG}{o:dC w}(hT:T.length<=100000)(hc:UH g T (d+4) false T c)(ht:BM g w h (d+4) T [] T c st o):ON g w h (d+5) T st o:=by
 intro J hw
 refine P.f392.run rfl rfl fun K en f=>?_
 have enOk:∀{v st1 MC},o= .ok v st1->K (.ok v) MC->gA w st J st1 MC->False:=fun q k a=>by subst q;exact en k .same ⟨rfl,a⟩
 have enEr:∀{l z st1 MC},o= .err z st1->K (.exn l) MC->gA w st J st1 MC->CD w st1 J.length MC l z->False:=fun q k a x=>by subst q;exact en k .same ⟨_,rfl,a,x⟩
 clear en
 have hs0:=DB.start hT
 have hse:DB T T.length []:=⟨Nat.le_refl _,by simp,hT⟩
 have hand:∀{K':Fl->List (Option V)->List O->Prop} (l:Nat) (PB:List O) (zz:Rz) (tG:w.St) (res b e t:List Nat) (n k:Nat) (x5 x6 x7 x8:Option V),o= .err (WD T zz t (t.take (t.length - e.length))) tG->DB T n b->GC b t->DB T k e->gA w st J tG PB->CD w tG J.length PB l zz->pI zz->
  RO 84 5 (fun l=>dB g (d+4) (some l) oA.body.tl.tl.tl.fst.hb) K' (jF K) l [some (.loc h),some (.str T),some (.str res),some (.int (n:Int)),some (.int (k:Int)),x5,x6,x7,x8] PB->False:=by
  intro K' l PB zz tG res b e t n k x5 x6 x7 x8 ho hb hk he ha hx hz p
  obtain⟨dl,xl,q1,q2,q3,q4,q5⟩:=hx
  refine p _ q4.at' _ (HR P q4.at' q5.at' q3 hz hb hk he) fun xL q9a p=>?_;obtain⟨j,e3⟩:=q9a
  subst e3
  have f4:=(q4.after (.app ha.ok j)).set_ne (.ad ((WD T zz t (t.take (t.length - e.length))).ad xl)) (k:=dl) (by lia)
  have g5:=q5.after (.app ha.ok j)
  exact enEr ho (p _ _ f4.at' (.inr rfl)) ((ha.push j).set _ q2 g5.own) ⟨dl,xl,q1,q2,q3,f4,g5.set _⟩
 obtain⟨x,y,q,hcat,c1⟩:=hc 0 _ (.inr ⟨rfl,rfl⟩) hs0
 have key:∀(Pw:Nat->List (Option V)->List O->Prop) (u0:∀(k:Nat) (Z:List (Option V)) (J:List O),Pw k Z J->dT g (d+4) none (.e (.cmp .IsNot (.var 6) .none)) Z J
  (fun J=>dB g (d+4) none oA.body.tl.tl.tl.fst.tb.tl.fst.wb Z J (FH (Pw 0) (TN (fun Z J=>dB g (d+4) none oA.body.tl.tl.tl.tl Z J (LF K) (jF K)) (LF K))) (RO 84 5 (fun l=>dB g (d+4) (some l) oA.body.tl.tl.tl.fst.hb) (TN (fun Z J=>dB g (d+4) none oA.body.tl.tl.tl.tl Z J (LF K) (jF K)) (LF K)) (jF K)))
  (fun J=>TN (fun Z J=>dB g (d+4) none oA.body.tl.tl.tl.tl Z J (LF K) (jF K)) (LF K) .next Z J) (fun l J=>RO 84 5 (fun l=>dB g (d+4) (some l) oA.body.tl.tl.tl.fst.hb) (TN (fun Z J=>dB g (d+4) none oA.body.tl.tl.tl.tl Z J (LF K) (jF K)) (LF K)) (jF K) l Z J))
  (res s:List Nat) (c:DG) (st1:w.St) (o':dC w),BM g w h (d+4) T res s c st1 o'->o'=o->∀(MC:List O) (n x y q:Nat) (x5 x6 x7 x8:Option V),DB T n s->gA w st J st1 MC->c.at T x y q->
  (c.sp MC x y q).K (fun v J=>Pw 0 [some (.loc h),some (.str T),some (.str res),some (.int (n:Int)),some (.int (T.length:Int)),x5,some v,x7,x8] J) (fun l J=>RO 84 5 (fun l=>dB g (d+4) (some l) oA.body.tl.tl.tl.fst.hb) (TN (fun Z J=>dB g (d+4) none oA.body.tl.tl.tl.tl Z J (LF K) (jF K)) (LF K)) (jF K) l [some (.loc h),some (.str T),some (.str res),some (.int (n:Int)),some (.int (T.length:Int)),x5,x6,x7,x8] J)->False:=by
  intro Pw hP res s c st1 o' ht
  induction ht with
  | @none res s st1=>
    intro eo MC n x y q x5 x6 x7 x8 hn ha hat p
    exact enOk eo.symm (hP _ _ _ p false rfl) ha
  | @parseE res s t why st1 hk hwl=>
    intro eo MC n x y q x5 x6 x7 x8 hn ha hat p
    exact hand _ _ _ _ _ _ _ t n _ _ _ _ _ (by rw[List.length_nil,Nat.sub_zero,List.take_length];exact eo.symm) hn hk hse (ha.push _) (CD.raise ha).2 ⟨hwl,Nat.zero_le _⟩ p
  | @wordE res s b e z t ws zz st1 tG hws hk hzz=>
    rintro eo MC n x y q x5 x6 x7 x8 hn ha ⟨hb,he,hz,_⟩ p
    obtain⟨dl,kvs,Hh⟩:=H ha.ok
    exact hP _ _ _ p true rfl _ Hh.obj _ Hh.ad (Hh.no _ rfl) _ (hws ha.ok) fun l PB ⟨ha2,hx⟩ p=>hand _ _ _ _ _ _ _ t x y _ _ _ _ eo.symm hb hk he (ha.trans ha2) (hx.le ha.len) hzz p
  | @callE res s b e z t ws items zz st1 tG st3 hws hcl hk hzz=>
    rintro eo MC n x y q x5 x6 x7 x8 hn ha ⟨hb,he,hz,_⟩ p
    obtain⟨dl,kvs,Hh⟩:=H ha.ok
    exact hP _ _ _ p true rfl _ Hh.obj _ Hh.ad (Hh.no _ rfl) _ (hws ha.ok) fun PB ⟨ha2,hm2⟩ p=>p _ (hcl ha2.ok hm2) fun l xL ⟨ha3,hx⟩ p=>
     hand _ _ _ _ _ _ _ t x y _ _ _ _ eo.symm hb hk he ((ha.trans ha2).trans ha3) (hx.le (Nat.le_trans ha.len ha2.len)) hzz p
  | @cmd res v s b e z ws items c' st1 tG st3 o' hws hcl hcm ht ih=>
    rintro hq MC n x y q x5 x6 x7 x8 hn ha ⟨hb,he,hz,_⟩ p
    obtain⟨dl,kvs,Hh⟩:=H ha.ok
    obtain⟨x',y',q',hat,c1⟩:=hcm q _ (.inr ⟨rfl,rfl⟩) hz
    exact hP _ _ _ p true rfl _ Hh.obj _ Hh.ad (Hh.no _ rfl) _ (hws ha.ok) fun PB ⟨ha2,hm2⟩ p=>p _ (hcl ha2.ok hm2) fun xL ha3 p=>
     ih hq xL q x' y' q' _ _ _ _ hz ((ha.trans ha2).trans ha3) hat (p _ c1)
 have p:=f _ c1
 clear f c1
 have iv:=ht.inv
 cases c with
 | none=>exact p fun Pw hP h0=>enOk iv (hP _ _ _ h0 false rfl) (.refl hw)
 | err why=>
   obtain⟨t,hk,hwl,eo⟩:=iv
   exact hand _ _ _ _ _ _ _ t 0 _ _ _ _ _ (by rw[List.length_nil,Nat.sub_zero,List.take_length];exact eo) hs0 hk hse (.app hw _) (CD.raise (.refl hw)).2 ⟨hwl,Nat.zero_le _⟩ p
 | ok ws b e z=>exact p fun Pw hP h0=>key Pw hP [] T _ st o ht rfl J 0 x y q _ none _ _ hs0 (.refl hw) hcat h0
end
section
variable{g:G}{d:Nat}{hd:Option Nat}{J NA YF:List O}{T s:List Nat}{n:Nat}
theorem QQ{l:Nat}{kvs:List (List Nat×V)}{ep:Nat}{a:List Nat}(hl:J[l]?=some (.dict kvs ep)):RQ J (.str a) (.loc l)=some (QA a kvs).isSome:=by
 show(dictAt J l).map _=_;rw[JF hl];rfl
theorem HG{l:Nat}{kvs:List (List Nat×V)}{ep:Nat}{a:List Nat}{v:V}(hl:J[l]?=some (.dict kvs ep))(hk:QA a kvs=some v):QT g J (.loc l) (.str a)=some v:=by
 show(dictAt J l).bind _=_;rw[JF hl];exact hk
theorem gC{l:Nat}{vs:List V}{i:Int}{v:V}(hl:J[l]?=some (.list vs))(hk:cK vs i=some v):QT g J (.loc l) (.int i)=some v:=by
 show(rA J l).bind _=_;rw[TA hl];exact hk
theorem gQ{l:Nat}{vs:List V}(hl:J[l]?=some (.list vs)):nL J (.loc l)=some (!vs.isEmpty):=by
 show(match J[l]? with | some (.list vs)=>some (!vs.isEmpty) | some (.dict kvs _)=>some (!kvs.isEmpty) | _=>none)=_;rw[hl]
theorem lR{s:List Nat}{C:Addr}{Q:V->List O->Prop}(hC:Wa C=true)(h:Q (.bool false) J):FG g hd (.builtin "isinstance") [.str s, .val (.ref C)] J Q:=⟨hC,h⟩
theorem Sd{vs:List V}{Q:V->List O->Prop}(h:Q (.bool true) J):FG g hd (.builtin "isinstance") [.tup vs, .val (.type "tuple")] J Q:=⟨rfl,h⟩
theorem UP{l:Nat}{kvs:List (List Nat×V)}{ep:Nat}{a:List Nat}{v:V}(hl:J[l]?=some (.dict kvs ep))(hn:kvs.length<=100000):rF J (.loc l) (.str a) v fun NA=>∃ep,NA=J.set l (.dict (BB a v kvs) ep):=
 ⟨kvs,JF hl,hn,fun ep=>⟨ep,rfl⟩⟩
theorem xd{l:Nat}{kvs:List (List Nat×V)}{ep:Nat}{k:List Nat}{Q:V->List O->Prop}(hl:J[l]?=some (.dict kvs ep))(hk:QA k kvs=none)(h:Q .none J):NE J l kvs [112,111,112] [.str k, .none] Q:=by
 unfold NE;rw[if_pos rfl];exact⟨rfl,hk,h⟩
theorem SM{l dl:Nat}{C:Addr}{kvs:List (List Nat×V)}{n:List Nat}{v:V}(hl:J[l]?=some (.inst C dl))(hd:J[dl]?=some (.ad kvs))(ht:qD C n=true)(hk:QA n kvs=some v)(ho:aG v=true):CH g J (.loc l) n=some v:=
 let ⟨_,a,b⟩:=nP (QV1:=fun x=>x=v) hl hd ht hk ho rfl
 b ▸ a
theorem HY{l dl:Nat}{C:Addr}{kvs:List (List Nat×V)}{n:List Nat}{v:V}{Q:List O->Prop}(hl:J[l]?=some (.inst C dl))(hd:J[dl]?=some (.ad kvs))(ht:qD C n=true)(hk:Nat.ble kvs.length 1000=true)(hn:Nat.ble n.length 1000=true)(h:Q (J.set dl (.ad (BB n v kvs)))):yG g J (.loc l) n v Q:=
 rQ hl hd ht (Nat.le_of_ble_eq_true hk) (Nat.le_of_ble_eq_true hn) h
theorem Sp.pass{S:Sp}{K:V->List O->Prop}{E:Nat->List O->Prop}(p:S.K K E)(k:∀{v J},K v J->S.R (.ok v) J->False)(e:∀{l J},E l J->S.R (.exn l) J->False):False:=by
 induction S using Sp.casesOn with
 | «at» r J=>induction r using iE.casesOn with
   | ok v=>exact k p ⟨rfl,rfl⟩
   | exn l=>exact e p ⟨rfl,rfl⟩
 | to v Φ=>exact p fun J h q=>k q ⟨rfl,h⟩
 | exn Φ=>exact p fun l J h q=>e q ⟨l,rfl,h⟩
 | val Φ=>exact p fun v J h q=>k q ⟨v,rfl,h⟩
theorem FB{l:Nat}{x:O}(h:J[l]?=some x):l < J.length:=(List.getElem?_eq_some_iff.mp h).1
structure HL where
 h:Nat
 dl:Nat
 tl:Nat
 il:Nat
 vl:Nat
 cl:Nat
 fl:Nat
 cmds:List (List Nat×V)
structure JG where
 nm:List Nat
 l:Nat
 al:Nat
 tr:Nat
 set:Bool
 val:List Nat
 wr:Int
structure pP where
 spent:Nat
 depth:Nat
 vars:List JG
 junk:Bool
noncomputable def bD(L:HL)(spent depth:Nat):List (List Nat×V):=[([116,111,111,108,115], .loc L.tl),([105,110,108,105,110,101], .loc L.il),([108,105,109,105,116], .int 40),([102,117,101,108], .none),([100,101,112,116,104], .int (depth:Int)),([115,112,101,110,116], .int (spent:Int)),([101,112,111,99,104], .int 0),([102,114,97,109,101], .none),([99,111,114,111,117,116,105,110,101], .none),([118,97,114,115], .loc L.vl),([99,111,109,109,97,110,100,115], .loc L.cl),([102,105,114,115,116,115], .loc L.fl)]
noncomputable def BG(v:JG):List (List Nat×V):=[([107,105,110,100], .str (if v.set then[115,99,97,108,97,114]else[110,111,110,101])),([118,97,108,117,101], .str v.val),([116,114,97,99,101,115], .loc v.tr),([105,115,95,98,117,115,121], .bool false),([105,115,95,101,108,101,109,101,110,116], .bool false),([119,114,105,116,101,115], .int v.wr)]
noncomputable def CE(v:JG):List Nat×V:=(v.nm, .loc v.l)
structure bB(L:HL)(st:pP)(J:List O):Prop where
 h:J[L.h]?=some (.inst 643 L.dl)
 dl:J[L.dl]?=some (.ad (bD L st.spent st.depth))
 tl:∃ep,J[L.tl]?=some (.dict [([114,117,110], .val (.ref 392))] ep)
 vl:∃ep,∃rest,J[L.vl]?=some (.dict (st.vars.map CE++rest) ep)/\(st.junk=false->rest=[])
 cl:∃ep,J[L.cl]?=some (.dict L.cmds ep)
 vars:∀v∈st.vars,J[v.l]?=some (.inst 360 v.al)/\J[v.al]?=some (.ad (BG v))
 small:st.vars.length<=1000
 ne:L.vl≠L.cl/\L.vl≠L.tl/\L.tl≠L.cl
noncomputable def kF(L:HL)(st:pP)(l:Nat):Prop:=l=L.h\/l=L.dl\/l=L.tl\/l=L.vl\/l=L.cl\/∃v∈st.vars,l=v.l\/l=v.al
structure tW extends Wd where
 lists:∀{st:St} {J:List O} {l:Nat},W st J->own st l->∃vs,J[l]?=some (.list vs)
theorem bB.at{L:HL}{st:pP}{l:Nat}(H:bB L st J)(h:kF L st l):∃x,J[l]?=some x/\∀vs,x≠ .list vs:=by
 rcases h with rfl | rfl | rfl | rfl | rfl | ⟨v,hv,rfl | rfl⟩
 ·exact⟨_,H.h,fun u0=>O.noConfusion⟩
 ·exact⟨_,H.dl,fun u0=>O.noConfusion⟩
 ·exact H.tl.elim fun u0 e=>⟨_,e,fun u0=>O.noConfusion⟩
 ·exact H.vl.elim fun u0 e=>e.elim fun u0 e=>⟨_,e.1,fun u0=>O.noConfusion⟩
 ·exact H.cl.elim fun u0 e=>⟨_,e,fun u0=>O.noConfusion⟩
 ·exact⟨_,(H.vars v hv).1,fun u0=>O.noConfusion⟩
 ·exact⟨_,(H.vars v hv).2,fun u0=>O.noConfusion⟩
theorem bB.lt{L:HL}{st:pP}{l:Nat}(H:bB L st J)(h:kF L st l):l < J.length:=(H.at h).elim fun u0 e=>FB e.1
theorem bB.noList{L:HL}{st:pP}{l:Nat}(H:bB L st J)(h:kF L st l){vs:List V}:J[l]?≠some (.list vs):=fun q=>(H.at h).elim fun u0 e=>e.2 vs (Option.some.inj (e.1.symm.trans q))
theorem bB.cong{L:HL}{st:pP}(H:bB L st J)(h:∀l,kF L st l->NA[l]?=J[l]?):bB L st NA where
 h:=(h _ (.inl rfl)).trans H.h
 dl:=(h _ (.inr (.inl rfl))).trans H.dl
 tl:=H.tl.elim fun e1 e2=>⟨e1,(h _ (.inr (.inr (.inl rfl)))).trans e2⟩
 vl:=H.vl.elim fun e1 e2=>e2.elim fun e2 e=>⟨e1,e2,(h _ (.inr (.inr (.inr (.inl rfl))))).trans e.1,e.2⟩
 cl:=H.cl.elim fun e1 e2=>⟨e1,(h _ (.inr (.inr (.inr (.inr (.inl rfl)))))).trans e2⟩
 vars:=fun v hv=>⟨(h _ (.inr (.inr (.inr (.inr (.inr ⟨v,hv, .inl rfl⟩)))))).trans (H.vars v hv).1,(h _ (.inr (.inr (.inr (.inr (.inr ⟨v,hv, .inr rfl⟩)))))).trans (H.vars v hv).2⟩
 small:=H.small
 ne:=H.ne
noncomputable def lA(L:HL)(x:tW):Wd where
 St:=pP×x.St
 W st J:=bB L st.1 J/\x.W st.2 J
 own st l:=kF L st.1 l\/x.own st.2 l
 lt H h:=h.elim H.1.lt (x.lt H.2)
 cong H h:=⟨H.1.cong fun l q=>h l (.inl q),x.cong H.2 fun l q=>h l (.inr q)⟩
theorem UI{n:List Nat}:∀{kvs:List (List Nat×V)},QA n kvs≠none->n∈kvs.map (·.1)
 | [],h=>(h rfl).elim
 | (k,v)::r,h=>by
   by_cases q:k=n
   ·subst q;exact List.mem_cons_self
   ·exact List.mem_cons_of_mem _ (UI fun e=>h ((if_neg q).trans e))
theorem Ga{L:HL}{sp dp:Nat}(n:List Nat)(h:(LL 643 n).isSome=true):QA n (bD L sp dp)=none:=
 Classical.byContradiction fun q=>by
  have a:((bD L sp dp).map (·.1)).all (fun m=>(LL 643 m).isNone)=true:=rfl
  have:=List.all_eq_true.mp a n (UI q)
  cases e:LL 643 n <;>rw[e]at this h <;>contradiction
theorem bB.at'{L:HL}{st:pP}(H:bB L st J):NU L.h J L.dl (bD L st.spent st.depth):=
 ⟨H.h,by unfold qH;rw[H.dl],Ga⟩
theorem uK{L:HL}{x:tW}:XK (lA L x) L.h:=fun u0 u0 H=>⟨_,_,H.1.at'⟩
variable{L:HL}{x:tW}{hs hs':pP}{xs xs':x.St}
theorem UC{nm:List Nat}{v:V}(H:bB L hs J)(ht:qD 643 nm=true)(hv:QA nm (bD L hs.spent hs.depth)=some v)(ho:aG v=true):CH g J (.loc L.h) nm=some v:=SM H.h H.dl ht hv ho
theorem fR{nm:List Nat}{v:V}{Q:List O->Prop}(H:bB L hs J)(ht:qD 643 nm=true)(hn:Nat.ble nm.length 1000=true)(k:Q (J.set L.dl (.ad (BB nm v (bD L hs.spent hs.depth))))):yG g J (.loc L.h) nm v Q:=HY H.h H.dl ht rfl hn k
theorem AC{l k:Nat}{x y z:O}(hx:J[k]?=some x)(hy:J[l]?=some y)(ne:y≠x):(J.set k z)[l]?=some y:=
 (List.getElem?_set_ne fun q=>ne (Option.some.inj (hy.symm.trans ((congrArg (J[·]?) q.symm).trans hx)))).trans hy
theorem RE(H:(lA L x).W (hs,xs) J)(sp dp:Nat):gA (lA L x) (hs,xs) J ({hs with spent:=sp,depth:=dp},xs) (J.set L.dl (.ad (bD L sp dp))) where
 ok:=⟨{
  h:=AC H.1.dl H.1.h O.noConfusion
  dl:=List.getElem?_set_self (FB H.1.dl)
  tl:=H.1.tl.elim fun u0 e=>⟨_,AC H.1.dl e O.noConfusion⟩
  vl:=H.1.vl.elim fun u0 e=>e.elim fun u0 e=>⟨_,_,AC H.1.dl e.1 O.noConfusion,e.2⟩
  cl:=H.1.cl.elim fun u0 e=>⟨_,AC H.1.dl e O.noConfusion⟩
  vars:=fun v hv=>⟨AC H.1.dl (H.1.vars v hv).1 O.noConfusion,AC H.1.dl (H.1.vars v hv).2 fun q=>by injection q with q;injection q with q;injection q with q;cases q⟩
  small:=H.1.small
  ne:=H.1.ne},x.cong H.2 fun l q=>(x.lists H.2 q).elim fun vs e=>(AC H.1.dl e O.noConfusion).trans e.symm⟩
 len:=by simp
 keep:=fun l h1 h2=>List.getElem?_set_ne fun e=>h2 (.inl (.inr (.inl e.symm)))
 own:=fun l q=> .inl q
end
section
variable{g:G}{d:Nat}{hd:Option Nat}{J NA YF:List O}{T s:List Nat}{n:Nat}{L:HL}{x:tW}{hs hs':pP}{xs xs':x.St}
theorem PY(P:Prog g)(H:bB L hs J):JA g (d+1) hd 421 [.loc L.h, .str [114,117,110]] J (.at (.ok (.val (.ref 392))) J):=
 P.f421.run rfl rfl fun K e f=>H.tl.elim fun ep ht=>e (f _ (UC H rfl rfl rfl) _ (QQ ht) false rfl _ (UC H rfl rfl rfl) _ (HG ht rfl)) .same ⟨rfl,rfl⟩
theorem dP(P:Prog g)(H:(lA L x).W (hs,xs) J):JA g (d+1) hd 428 [.loc L.h] J (.to .none fun NA=>gA (lA L x) (hs,xs) J ({hs with spent:=hs.spent+1},xs) NA):=
 P.f428.run rfl rfl fun K e f=>by
   have A:=RE H (hs.spent+1) hs.depth
   exact e (f _ (UC H.1 rfl rfl rfl) (J.set L.dl (.ad (bD L (hs.spent+1) hs.depth))) (fun {Q} h=>fR H.1 rfl rfl h) _ (UC A.ok.1 rfl rfl rfl) false rfl) .same ⟨rfl,A⟩
noncomputable def dC.map{w:Wd}(f:w.St->w.St):dC w->dC w
 | .ok v st=> .ok v (f st)
 | .err z st=> .err z (f st)
noncomputable def dC.st{w:Wd}:dC w->w.St
 | .ok _ st=>st
 | .err _ st=>st
theorem qa(P:Prog g){o:dC (lA L x)}(hdp:hs.depth < 40)(hr:ON g (lA L x) L.h (d+1) T ({hs with depth:=hs.depth+1},xs) o)(ho:o.st.1.depth=hs.depth+1):
 QU g (lA L x) L.h (d+2) T (hs,xs) (o.map fun st=>({st.1 with depth:=hs.depth},st.2)):=fun {J} H=>
 P.f442.run rfl rfl fun K e f=>by
   have A:=RE H hs.spent (hs.depth+1)
   have p:=f _ (UC H.1 rfl rfl rfl) _ (UC H.1 rfl rfl rfl) false (decide_eq_false (by dsimp only;lia)) _ H.1.at'.obj _ H.1.at'.ad (H.1.at'.no _ rfl) _ (PY P H.1) _ (UC H.1 rfl rfl rfl) (J.set L.dl (.ad (bD L hs.spent (hs.depth+1)))) (fun {Q} h=>fR H.1 rfl rfl h) _ (hr A.ok)
   cases o with
   | ok v st=>
     obtain⟨⟨sp,dp,vs,jk⟩,xs'⟩:=st
     have ho:dp=hs.depth+1:=ho
     subst ho
     exact p fun PB A2 p=>e (p _ (UC A2.ok.1 rfl rfl rfl) (PB.set L.dl (.ad (bD L sp hs.depth))) (fun {Q} h=>fR A2.ok.1 rfl rfl (by rw[show((hs.depth+1:Nat):Int) - 1=hs.depth by lia];exact h))) .same ⟨rfl,(A.trans A2).trans (RE A2.ok sp hs.depth)⟩
   | err z st=>
     obtain⟨⟨sp,dp,vs,jk⟩,xs'⟩:=st
     have ho:dp=hs.depth+1:=ho
     subst ho
     exact p fun l PB ⟨A2,hx⟩ p=>e (p _ (UC A2.ok.1 rfl rfl rfl) (PB.set L.dl (.ad (bD L sp hs.depth))) (fun {Q} h=>fR A2.ok.1 rfl rfl (by rw[show((hs.depth+1:Nat):Int) - 1=hs.depth by lia];exact h))) .same ⟨l,rfl,(A.trans A2).trans (RE A2.ok sp hs.depth),(hx.after (RE A2.ok sp hs.depth)).le A.len⟩
noncomputable def Af(g:G)(x:tW)(L:HL)(d:Nat)(f:Addr)(data:V)(items:List (List Nat))(st:(lA L x).St)(o:dC (lA L x)):Prop:=∀ ⦃J:List O⦄ ⦃l:Nat⦄,(lA L x).W st J->kB (lA L x) st J l (.list (items.map .str))->JA g d none f [.loc L.h, .loc l,data] J (o.sp (lA L x) st J)
theorem UU(P:Prog g){f:Addr}{data v1 v2:V}{S:Sp}(hk:jX f=true)(hdn:iD data=some false)(h:JA g d none f [v1,v2,data] J S):JA g (d+1) none 526 [v1,v2, .val (.ref f),data] J S:=
 P.f526.run rfl rfl fun K e p=>by
   have p:match iD data with | some b=>_ | none=>True:=p
   rw[hdn]at p
   have p:match jX f with | true=>_ | false=>True:=p false rfl
   rw[hk]at p
   exact Sp.pass (S:=S) (K:=fun v J=>K (.ok v) J) (E:=fun l J=>K (.exn l) J) (p S h) (fun k r=>e k .same r) fun k r=>e k .same r
theorem we(P:Prog g){f:Addr}{data:V}{nm:List Nat}{args:List (List Nat)}{o:dC (lA L x)}(hf:QA nm L.cmds=some (.tup [.val (.ref f),data]))(hk:jX f=true)(hdn:iD data=some false)
 (ho:match o with | .ok v _=>∃s,v= .str s | .err _ _=>True) (ha:Af g x L d f data (nm::args) ({hs with spent:=hs.spent+1},xs) o):tQ g (lA L x) L.h (d+3) (nm::args) (hs,xs) o:=fun {J l} H hm=>by
 have hb:JA g (d+2) none 640 [.loc L.h, .loc l] J (o.sp (lA L x) (hs,xs) J):=
  P.f640.run rfl rfl fun K e p=>by
    obtain⟨ep,hc⟩:=H.1.cl
    refine p _ (gC hm.at' (v:= .str nm) rfl) _ (UC H.1 rfl rfl rfl) _ (QQ hc) false (by rw[hf];rfl) _ H.1.at'.obj _ H.1.at'.ad (H.1.at'.no _ rfl) _ (dP P H) fun PB A2 p=>?_
    obtain⟨ep2,hc2⟩:=A2.ok.1.cl
    have hm2:=hm.after A2
    have p:=p _ (UC A2.ok.1 rfl rfl rfl) _ (gC hm2.at' (v:= .str nm) rfl) _ (HG hc2 hf) _ (UU P hk hdn (ha A2.ok hm2))
    cases o with
    | ok v st=>exact p fun xL A3 p=>e p .same ⟨rfl,A2.trans A3⟩
    | err z st=>exact p fun l xL q p=>e p .same ⟨l,rfl,A2.trans q.1,q.2.le A2.len⟩
 exact P.f456.run rfl rfl fun K e p=>by
  have p:=p _ (gQ hm.at') true rfl _ H.1.at'.obj _ H.1.at'.ad (H.1.at'.no _ rfl) _ hb
  cases o with
  | ok v st=>
    obtain⟨s,rfl⟩:=ho
    exact p fun xL A3 p=>e (p _ _ (lR rfl) false rfl _ _ (lR rfl) false rfl) .same ⟨rfl,A3⟩
  | err z st=>exact p fun l xL q p=>e p .same ⟨l,rfl,q⟩
theorem Vb(P:Prog g){nm:List Nat}{args:List (List Nat)}(hf:QA nm L.cmds=none)(hn:nm.length<=1000):tQ g (lA L x) L.h (d+5) (nm::args) (hs,xs) (.err (VF ([105,110,118,97,108,105,100,32,99,111,109,109,97,110,100,32,110,97,109,101,32,34]++nm++[34]) (.tup [.str [84,67,76], .str [76,79,79,75,85,80], .str [67,79,77,77,65,78,68], .str nm])) (hs,xs)):=fun {J l} H hm=>by
 have hb:JA g (d+4) none 640 [.loc L.h, .loc l] J (dC.sp (lA L x) (hs,xs) J (.err (VF ([105,110,118,97,108,105,100,32,99,111,109,109,97,110,100,32,110,97,109,101,32,34]++nm++[34]) (.tup [.str [84,67,76], .str [76,79,79,75,85,80], .str [67,79,77,77,65,78,68], .str nm])) (hs,xs))):=
  P.f640.run rfl rfl fun K e p=>by
    obtain⟨ep,hc⟩:=H.1.cl
    exact e (p _ (gC hm.at' (v:= .str nm) rfl) _ (UC H.1 rfl rfl rfl) _ (QQ hc) true (by rw[hf];rfl) _ (gC hm.at' (v:= .str nm) rfl) _ (jC (by simp;exact qC hn)) _ (jC (by simp;exact kC hn)) _ (gC hm.at' (v:= .str nm) rfl) _ (lE P) _ _ (AA ..) (.inl rfl)) .same ⟨_,rfl,CD.raise (w:=lA L x) (.refl H)⟩
 exact P.f456.run rfl rfl fun K e p=>p _ (gQ hm.at') true rfl _ H.1.at'.obj _ H.1.at'.ad (H.1.at'.no _ rfl) _ hb fun l xL q p=>e p .same ⟨l,rfl,q⟩
theorem aV{vars:List JG}{v:JG}{n':List Nat}(hv:vars.find? (fun v=>v.nm=n')=some v):QA n' (vars.map CE)=some (.loc v.l):=by
 induction vars with
 | nil=>cases hv
 | cons a r ih=>
   simp only[List.find?_cons]at hv
   simp only[List.map_cons,CE,QA.r1,QA.r2]
   by_cases h:a.nm=n'
   ·rw[decide_eq_true h]at hv;cases hv;rw[if_pos h]
   ·rw[decide_eq_false h]at hv;rw[if_neg h];exact ih hv
theorem nM{k:List Nat}{v:V}(r:List (List Nat×V)):∀{kvs:List (List Nat×V)},QA k kvs=some v->QA k (kvs++r)=some v
 | (k',v')::q,h=>by
   by_cases e:k'=k
   ·exact(if_pos e).trans ((if_pos e).symm.trans h)
   ·exact(if_neg e).trans (nM r ((if_neg e).symm.trans h))
theorem kN{n':List Nat}:∀{vars:List JG},(∀v∈vars,v.nm≠n')->QA n' (vars.map CE)=none
 | [],_=>rfl
 | a::r,h=>(if_neg (h a List.mem_cons_self)).trans (kN fun v q=>h v (List.mem_cons_of_mem _ q))
theorem WQ{n':List Nat}{l:Nat}:∀{vars:List JG},(∀v∈vars,v.nm≠n')->BB n' (.loc l) (vars.map CE)=vars.map CE++[(n', .loc l)]
 | [],_=>rfl
 | a::r,h=>(if_neg (h a List.mem_cons_self)).trans (congrArg (CE a:: ·) (WQ fun v q=>h v (List.mem_cons_of_mem _ q)))
theorem wV(P:Prog g){nm:List Nat}{v:JG}(H:bB L hs J)(hv:hs.vars.find? (fun v=>v.nm=nm)=some v):JA g (d+2) none 555 [.loc L.h, .str nm] J (.at (.ok (.loc v.l)) J):=by
 obtain⟨ep,rst,hvl,_⟩:=H.vl
 have hlk:=nM rst (aV hv)
 have hb:JA g (d+1) none 498 [.loc L.vl, .str nm] J (.at (.ok (.loc v.l)) J):=P.f498.run rfl rfl fun K e p=>e (p _ (QQ hvl) false (by rw[hlk];rfl) _ (HG hvl hlk)) .same ⟨rfl,rfl⟩
 exact P.f555.run rfl rfl fun K e p=>e (p _ (UC H rfl rfl rfl) _ hb) .same ⟨rfl,rfl⟩
theorem DY(P:Prog g){nm:List Nat}{v:JG}(hv:hs.vars.find? (fun v=>v.nm=nm)=some v)(hset:v.set=true):NM g (lA L x) L.h (d+3) nm (hs,xs) (.ok (.str v.val) (hs,xs)):=fun {J} H=>by
 obtain⟨h1,h2⟩:=H.1.vars v (List.mem_of_find?_eq_some hv)
 have hb:JA g (d+2) none 562 [.loc L.h, .loc v.l, .str nm] J (.at (.ok (.str v.val)) J):=P.f562.run rfl rfl fun K e p=>e (p _ (SM h1 h2 rfl rfl rfl) false (by rw[hset];rfl) _ (SM h1 h2 rfl rfl rfl)) .same ⟨rfl,rfl⟩
 exact P.f576.run rfl rfl fun K e p=>e (p _ H.1.at'.obj _ H.1.at'.ad (H.1.at'.no _ rfl) _ H.1.at'.obj _ H.1.at'.ad (H.1.at'.no _ rfl) _ (wV P H.1 hv) _ hb) .same ⟨rfl, .refl H⟩
end
section
variable{g:G}{d:Nat}{hd:Option Nat}{J NA YF:List O}{T s:List Nat}{n:Nat}{L:HL}{x:tW}{hs hs':pP}{xs xs':x.St}
noncomputable def bT(n:Nat):HL:={h:=n+1,dl:=n,tl:=n+2,il:=n+3,vl:=n+4,cl:=n+5,fl:=n+6,cmds:=[]}
noncomputable def uQ(L:HL)(fs:List (List Nat×V))(J:List O):Prop:=(∃ep,J[L.il]?=some (.dict [] ep))/\∃ep,J[L.fl]?=some (.dict fs ep)
theorem zI{C:Addr}{kvs:List (List Nat×V)}{nm:List Nat}{v:V}{Q:List O->Prop}{j:List O}(ht:qD C nm=true)(hn:Nat.ble nm.length 1000=true)(hk:Nat.ble kvs.length 1000=true)(h:Q (J++ .ad (BB nm v kvs):: .inst C J.length::j)):
 yG g (J++ .ad kvs:: .inst C J.length::j) (.loc (J.length+1)) nm v Q:=
 HY (KC J _ 1) (AA ..) ht hk hn (by rw[fL];exact h)
theorem yM{C:Addr}{kvs:List (List Nat×V)}{nm:List Nat}{y:O}{Q:List O->Prop}{j:List O}(ht:qD C nm=true)(hn:Nat.ble nm.length 1000=true)(hk:Nat.ble kvs.length 1000=true)(h:Q (J++ .ad (BB nm (.loc (J.length+(j.length+2))) kvs):: .inst C J.length::(j++[y]))):
 yG g ((J++ .ad kvs:: .inst C J.length::j)++[y]) (.loc (J.length+1)) nm (.loc (J++ .ad kvs:: .inst C J.length::j).length) Q:=by
 rw[List.append_assoc,List.length_append];exact zI ht hn hk h
noncomputable def oN(J:List O)(e1 e2 e3 e4 e5:Nat):List O:=J++ .ad (bD (bT J.length) 0 0):: .inst 643 J.length::[.dict [] e1, .dict [] e2, .dict [] e3, .dict [] e4, .dict [] e5]
theorem TQ(P:Prog g):JA g (d+4) hd 643 [] J (.to (.loc (J.length+1)) fun NA=>∃e1 e2 e3 e4 e5,NA=oN J e1 e2 e3 e4 e5):=by
 have hi:JA g (d+1) hd 414 [.loc (J.length+1), .int 40, .none] (J++[.ad [], .inst 643 J.length]) (.to .none fun NA=>∃e1 e2,NA=J++ .ad ((bD (bT J.length) 0 0).take 9):: .inst 643 J.length::[.dict [] e1, .dict [] e2]):=
  P.f414.run rfl rfl fun K e f=>f rfl (Nat.zero_le _) fun e1 f=>f _ (yM rfl rfl rfl) rfl (Nat.zero_le _) fun e2 f=>e (f _ (yM rfl rfl rfl) _ (zI rfl rfl rfl) _ (zI rfl rfl rfl) _ (zI rfl rfl rfl) _ (zI rfl rfl rfl) _ (zI rfl rfl rfl) _ (zI rfl rfl rfl) _ (zI rfl rfl rfl)) .same ⟨rfl,e1,e2,rfl⟩
 have hs:JA g (d+2) hd 541 [.loc (J.length+1)] (J++[.ad [], .inst 643 J.length]) (.to .none fun NA=>∃e1 e2 e3 e4 e5,NA=oN J e1 e2 e3 e4 e5):=
  P.f541.run rfl rfl fun K e f=>f _ hi fun MC ⟨e1,e2,q⟩ f=>by
    subst q
    exact f rfl (Nat.zero_le _) fun e3 f=>f _ (yM rfl rfl rfl) rfl (Nat.zero_le _) fun e4 f=>f _ (yM rfl rfl rfl) rfl (Nat.zero_le _) fun e5 f=>e (f _ (yM rfl rfl rfl)) .same ⟨rfl,e1,e2,e3,e4,e5,rfl⟩
 refine CallOk.up (P.c643 (d+2) hd [] J _ (CallOk.mono hs fun r NA q=>?_)) (by simp+arith only)
 obtain⟨rfl,q⟩:=q
 exact⟨rfl,rfl,q⟩
theorem Rb(P:Prog g){kG:List O}{e1 e2 e3 e4 e5:Nat}:JA g (d+1) hd 399 [.loc (kG.length+1)] (oN kG e1 e2 e3 e4 e5)
 (.to .none fun NA=>NA.length=kG.length+7/\(∀l,l < kG.length->NA[l]?=kG[l]?)/\bB (bT kG.length) ⟨0,0,[],false⟩ NA/\uQ (bT kG.length) [] NA):=
 P.f399.run rfl rfl fun K e f=>f _ (SM (KC kG _ 1) (AA ..) rfl (v:= .loc (kG.length+2)) rfl rfl) _ (UP (KC kG _ 2) (Nat.zero_le _)) fun NA ⟨ep,q⟩ p=>
   e p .same ⟨rfl,by
     unfold oN at q
     rw[uN]at q
     subst q
     exact⟨by simp,fun l hl=>List.getElem?_append_left hl,⟨KC kG _ 1,AA ..,⟨_,KC kG _ 2⟩,⟨_,[],KC kG _ 4,fun u0=>rfl⟩,⟨_,KC kG _ 5⟩,(fun v hv=>nomatch hv),Nat.zero_le _,by simp only[bT];lia⟩,⟨_,KC kG _ 3⟩,⟨_,KC kG _ 6⟩⟩⟩
noncomputable def BP(nm:List Nat)(l al tr:Nat):JG:=⟨nm,l,al,tr,false,[],0⟩
theorem WY(P:Prog g):JA g (d+2) hd 360 [] J (.at (.ok (.loc (J.length+1))) (J++ .ad (BG (BP T (J.length+1) J.length (J.length+2))):: .inst 360 J.length::[.list []])):=by
 have hs:JA g (d+1) hd 357 [.loc (J.length+1)] (J++[.ad [], .inst 360 J.length]) (.at (.ok .none) (J++ .ad (BG (BP T (J.length+1) J.length (J.length+2))):: .inst 360 J.length::[.list []])):=
  P.f357.run rfl rfl fun K e f=>e (f _ (zI rfl rfl rfl) _ (zI rfl rfl rfl) _ (yM rfl rfl rfl) _ (zI rfl rfl rfl) _ (zI rfl rfl rfl) _ (zI rfl rfl rfl)) .same ⟨rfl,rfl⟩
 refine P.c360 (d+1) hd [] J _ (CallOk.mono hs fun r NA q=>?_)
 obtain⟨rfl,q⟩:=q
 exact⟨rfl,rfl,q⟩
theorem mM{k:List Nat}{v:V}:∀{kvs:List (List Nat×V)},QA k kvs=none->QA k (kvs++[(k,v)])=some v
 | [],_=>if_pos rfl
 | (k',v')::r,h=>by
   by_cases e:k'=k
   ·cases (if_pos e).symm.trans h
   ·exact(if_neg e).trans (mM ((if_neg e).symm.trans h))
structure NN(L:HL)(x:tW)(hs:pP)(xs:x.St)(J:List O)(nm:List Nat)(NA:List O):Prop where
 ok:gA (lA L x) (hs,xs) J ({hs with vars:=hs.vars++[BP nm (J.length+1) J.length (J.length+2)]},xs) NA
 junk:gA (lA L x) (hs,xs) J ({hs with junk:=true},xs) NA
 obj:NA[J.length+1]?=some (.inst 360 J.length)
 ad:NA[J.length]?=some (.ad (BG (BP nm (J.length+1) J.length (J.length+2))))
theorem JJ{w:JG}{l:Nat}(h:kF L {hs with vars:=hs.vars++[w]} l)(h1:J.length<=w.l)(h2:J.length<=w.al):kF L hs l\/J.length<=l:=by
 rcases h with q | q | q | q | q | ⟨v,hv,q⟩
 ·exact .inl (.inl q)
 ·exact .inl (.inr (.inl q))
 ·exact .inl (.inr (.inr (.inl q)))
 ·exact .inl (.inr (.inr (.inr (.inl q))))
 ·exact .inl (.inr (.inr (.inr (.inr (.inl q)))))
 ·rcases List.mem_append.mp hv with q2 | q2
  ·exact .inl (.inr (.inr (.inr (.inr (.inr ⟨v,q2,q⟩)))))
  ·rw[List.mem_singleton.mp q2]at q
   exact .inr (q.elim (fun e=>e ▸ h1) fun e=>e ▸ h2)
theorem pX{nm:List Nat}{ep ep2:Nat}{kvs:List (List Nat×V)}(H:(lA L x).W (hs,xs) J)(hvl:J[L.vl]?=some (.dict (hs.vars.map CE) ep))(hsm:hs.vars.length<=900)(hk:kvs=hs.vars.map CE++[(nm, .loc (J.length+1))]):
 NN L x hs xs J nm ((J++O.ad (BG (BP nm (J.length+1) J.length (J.length+2)))::O.inst 360 J.length::[O.list []]).set L.vl (.dict kvs ep2)):=by
 subst hk
 obtain⟨H,X⟩:=H
 have H:bB L hs J:=H
 have hlt:=FB hvl
 generalize ej:[O.ad (BG (BP nm (J.length+1) J.length (J.length+2))),O.inst 360 J.length,O.list []]=j
 generalize hz:O.dict (hs.vars.map CE++[(nm, .loc (J.length+1))]) ep2=z
 have old:∀{l:Nat} {y:O},J[l]?=some y->L.vl≠l->((J++j).set L.vl z)[l]?=some y:=fun h1 h2=>by
  rw[List.getElem?_set_ne h2,List.getElem?_append_left (FB h1)];exact h1
 have oldn:∀{l:Nat} {y:O},J[l]?=some y->(∀{kvs ep},y≠ .dict kvs ep)->((J++j).set L.vl z)[l]?=some y:=fun h1 h2=>
  old h1 fun q=>h2 (Option.some.inj (h1.symm.trans (q ▸ hvl)))
 have new:∀(i:Nat),((J++j).set L.vl z)[J.length+i]?=j[i]?:=fun i=>by
  rw[List.getElem?_set_ne (by exact Nat.ne_of_lt (qC hlt)),KC]
 have self:((J++j).set L.vl z)[L.vl]?=some z:=List.getElem?_set_self (by rw[List.length_append];exact qC hlt)
 have hx:x.W xs ((J++j).set L.vl z):=x.cong X fun l q=>(x.lists X q).elim fun vs e=>(oldn e O.noConfusion).trans e.symm
 have hold:∀v∈hs.vars,((J++j).set L.vl z)[v.l]?=some (.inst 360 v.al)/\((J++j).set L.vl z)[v.al]?=some (.ad (BG v)):=fun v q=>
  ⟨oldn (H.vars v q).1 O.noConfusion,oldn (H.vars v q).2 O.noConfusion⟩
 have hkeep:∀(l:Nat),l < J.length->¬(lA L x).own (hs,xs) l->((J++j).set L.vl z)[l]?=J[l]?:=fun l q1 q2=>by
  rw[List.getElem?_set_ne (fun e=>q2 (.inl (.inr (.inr (.inr (.inl e.symm)))))),List.getElem?_append_left q1]
 have hlen:J.length<=((J++j).set L.vl z).length:=by rw[List.length_set,List.length_append];exact Nat.le_add_right _ _
 have n1:((J++j).set L.vl z)[J.length+1]?=some (.inst 360 J.length):=(new 1).trans (by rw[<-ej];rfl)
 have n0:((J++j).set L.vl z)[J.length]?=some (.ad (BG (BP nm (J.length+1) J.length (J.length+2)))):=(new 0).trans (by rw[<-ej];rfl)
 have ok:∀{hs':pP},hs'.spent=hs.spent->hs'.depth=hs.depth->(∃rest,z= .dict (hs'.vars.map CE++rest) ep2/\(hs'.junk=false->rest=[]))->(∀v∈hs'.vars,((J++j).set L.vl z)[v.l]?=some (.inst 360 v.al)/\((J++j).set L.vl z)[v.al]?=some (.ad (BG v)))->hs'.vars.length<=1000->bB L hs' ((J++j).set L.vl z):=fun e1 e2 ⟨rest,e3,e4⟩ e5 e6=>
  ⟨oldn H.h O.noConfusion,e1 ▸ e2 ▸ oldn H.dl O.noConfusion,H.tl.elim fun u0 e=>⟨_,old e H.ne.2.1⟩,⟨ep2,rest,self.trans (congrArg some e3),e4⟩,H.cl.elim fun u0 e=>⟨_,old e H.ne.1⟩,e5,e6,H.ne⟩
 refine⟨⟨⟨ok (hs':={hs with vars:=hs.vars++[BP nm (J.length+1) J.length (J.length+2)]}) rfl rfl ⟨[],by rw[<-hz,List.append_nil,List.map_append];rfl,fun u0=>rfl⟩ (fun v hv=>?_) (by simp;exact kC hsm),hx⟩,hlen,hkeep,fun l q=>q.elim (fun q=>(JJ q (Nat.le_succ _) (Nat.le_refl _)).elim (fun q=> .inl (.inl q)) .inr) fun q=> .inl (.inr q)⟩,
  ⟨⟨ok (hs':={hs with junk:=true}) rfl rfl ⟨[(nm, .loc (J.length+1))],hz.symm,fun q=>Bool.noConfusion q⟩ hold H.small,hx⟩,hlen,hkeep,fun l q=> .inl q⟩,n1,n0⟩
 rcases List.mem_append.mp hv with q | q
 ·exact hold v q
 ·rw[List.mem_singleton.mp q];exact⟨n1,n0⟩
theorem tM(P:Prog g){nm:List Nat}(H:(lA L x).W (hs,xs) J)(hv:∀v∈hs.vars,v.nm≠nm)(hj:hs.junk=false)(hsm:hs.vars.length<=900):
 JA g (d+4) none 555 [.loc L.h, .str nm] J (.to (.loc (J.length+1)) (NN L x hs xs J nm)):=by
 have hvl:∃ep,∃rest,J[L.vl]?=some (.dict (hs.vars.map CE++rest) ep)/\(hs.junk=false->rest=[]):=H.1.vl
 obtain⟨ep,rst,hvl,hrst⟩:=hvl
 rw[hrst hj,List.append_nil]at hvl
 have hlt:=FB hvl
 have hb:JA g (d+3) none 498 [.loc L.vl, .str nm] J (.to (.loc (J.length+1)) (NN L x hs xs J nm)):=
  P.f498.run rfl rfl fun K e p=>p _ (QQ hvl) true (by rw[kN hv];rfl) _ (WY (T:=nm) P) _ (UP (kvs:=hs.vars.map CE) (ep:=ep) (by rw[List.getElem?_append_left hlt];exact hvl) (by rw[List.length_map];exact kC hsm)) fun NA ⟨ep2,q⟩ p=>by
    subst q
    exact e (p _ (HG (List.getElem?_set_self (by rw[List.length_append];exact qC hlt)) (by rw[WQ hv];exact mM (kN hv)))) .same ⟨rfl,pX H hvl hsm (WQ hv)⟩
 exact P.f555.run rfl rfl fun K e p=>p _ (UC H.1 rfl rfl rfl) _ hb fun NA N p=>e p .same ⟨rfl,N⟩
theorem gb(P:Prog g){nm:List Nat}(hv:∀v∈hs.vars,v.nm≠nm)(hj:hs.junk=false)(hsm:hs.vars.length<=900)(hnl:nm.length<=1000):
 NM g (lA L x) L.h (d+6) nm (hs,xs) (.err (VF ([99,97,110,39,116,32,114,101,97,100,32,34]++nm++[34,58,32,110,111,32,115,117,99,104,32,118,97,114,105,97,98,108,101]) (.tup [.str [84,67,76], .str [76,79,79,75,85,80], .str [86,65,82,78,65,77,69], .str nm])) ({hs with junk:=true},xs)):=fun {J} H=>
 P.f576.run rfl rfl fun K e p=>p _ H.1.at'.obj _ H.1.at'.ad (H.1.at'.no _ rfl) _ H.1.at'.obj _ H.1.at'.ad (H.1.at'.no _ rfl) _ (tM (d:=d+1) P H hv hj hsm) fun PB N p=>by
   have hn:JA g (d+4) none 491 [.str [114,101,97,100], .str nm] PB (.at (.ok (.loc PB.length)) (PB++xB PB.length ([99,97,110,39,116,32,114,101,97,100,32,34]++nm++[34,58,32,110,111,32,115,117,99,104,32,118,97,114,105,97,98,108,101]) (.tup [.str [84,67,76], .str [76,79,79,75,85,80], .str [86,65,82,78,65,77,69], .str nm]))):=
    P.f491.run rfl rfl fun K e p=>e (p _ (jC (by simp)) _ (jC (by simp)) _ (jC (by simp;exact qC hnl)) _ (jC (by simp;exact kC hnl)) _ (lE P)) .same ⟨rfl,rfl⟩
   have hr:JA g (d+5) none 562 [.loc L.h, .loc (J.length+1), .str nm] PB (.exn fun l NA=>l=PB.length/\NA=PB++xB PB.length ([99,97,110,39,116,32,114,101,97,100,32,34]++nm++[34,58,32,110,111,32,115,117,99,104,32,118,97,114,105,97,98,108,101]) (.tup [.str [84,67,76], .str [76,79,79,75,85,80], .str [86,65,82,78,65,77,69], .str nm])):=
    P.f562.run rfl rfl fun K e p=>e (p _ (SM N.obj N.ad rfl rfl rfl) true rfl _ hn _ _ (AA ..) (.inl rfl)) .same ⟨_,rfl,rfl,rfl⟩
   exact p _ hr fun l xL ⟨q1,q2⟩ p=>e p .same ⟨l,rfl,by subst q1;subst q2;exact CD.raise N.junk⟩
theorem qe{nm val:List Nat}{PB:List O}(H:(lA L x).W (hs,xs) J)(N:NN L x hs xs J nm PB)(hj:hs.junk=false):
 gA (lA L x) (hs,xs) J ({hs with vars:=hs.vars++[⟨nm,J.length+1,J.length,J.length+2,true,val,1⟩]},xs) (PB.set J.length (.ad (BG ⟨nm,J.length+1,J.length,J.length+2,true,val,1⟩))):=by
 obtain⟨⟨⟨H1,X1⟩,hl,hk,ho⟩,_,h1,h2⟩:=N
 generalize hw:(⟨nm,J.length+1,J.length,J.length+2,true,val,1⟩:JG)=w
 have e1:CE w=(nm, .loc (J.length+1)):=by rw[<-hw];rfl
 have hlen:(hs.vars++[w]).length<=1000:=by have:=H1.small;simpa using this
 obtain⟨ep3,r3,v1,v2⟩:=H1.vl
 refine⟨⟨⟨AC h2 H1.h O.noConfusion,?_,H1.tl.elim fun u0 e=>⟨_,AC h2 e O.noConfusion⟩,⟨ep3,r3,(AC h2 v1 O.noConfusion).trans ?_,v2⟩,H1.cl.elim fun u0 e=>⟨_,AC h2 e O.noConfusion⟩,fun v hv=>?_,hlen,H1.ne⟩,x.cong X1 fun l q=>(x.lists X1 q).elim fun vs e=>(AC h2 e O.noConfusion).trans e.symm⟩,by rw[List.length_set];exact hl,fun l q1 q2=>?_,fun l q=>?_⟩
 ·rw[List.getElem?_set_ne (by have:=FB H.1.dl;exact Nat.ne_of_gt this)];exact H1.dl
 ·simp only[List.map_append,List.map_cons,List.map_nil,e1];rfl
 ·rcases List.mem_append.mp hv with q | q
  ·have h3:=H1.vars v (List.mem_append.mpr (.inl q))
   exact⟨AC h2 h3.1 O.noConfusion,by rw[List.getElem?_set_ne (by have:=FB (H.1.vars v q).2;exact Nat.ne_of_gt this)];exact h3.2⟩
  ·rw[List.mem_singleton.mp q, <-hw]
   exact⟨AC h2 h1 O.noConfusion,List.getElem?_set_self (FB h2)⟩
 ·rw[List.getElem?_set_ne (by exact Nat.ne_of_gt q1)];exact hk l q1 q2
 ·exact q.elim (fun q=>(JJ q (by rw[<-hw];exact Nat.le_succ _) (by rw[<-hw];exact Nat.le_refl _)).elim (fun q=> .inl (.inl q)) .inr) fun q=> .inl (.inr q)
theorem iW(P:Prog g){nm val:List Nat}(H:(lA L x).W (hs,xs) J)(hv:∀v∈hs.vars,v.nm≠nm)(hj:hs.junk=false)(hsm:hs.vars.length<=900):
 JA g (d+6) none 583 [.loc L.h, .str nm, .str val] J (.to (.str val) fun NA=>gA (lA L x) (hs,xs) J ({hs with vars:=hs.vars++[⟨nm,J.length+1,J.length,J.length+2,true,val,1⟩]},xs) NA):=
 P.f583.run rfl rfl fun K e p=>p _ H.1.at'.obj _ H.1.at'.ad (H.1.at'.no _ rfl) _ H.1.at'.obj _ H.1.at'.ad (H.1.at'.no _ rfl) _ (tM (d:=d+1) P H hv hj hsm) fun PB N p=>by
   have hlt:=FB N.ad
   have g1:∀{z:O},(PB.set J.length z)[J.length+1]?=some (.inst 360 J.length):=fun {z}=>by rw[List.getElem?_set_ne (by exact Nat.ne_of_lt (Nat.lt_succ_self _))];exact N.obj
   have g2:∀{z:O},(PB.set J.length z)[J.length]?=some z:=List.getElem?_set_self hlt
   have st:∀{kvs:List (List Nat×V)} {nm:List Nat} {v:V} {Q:List O->Prop},qD 360 nm=true->Nat.ble kvs.length 1000=true->Nat.ble nm.length 1000=true->Q (PB.set J.length (.ad (BB nm v kvs)))->yG g (PB.set J.length (.ad kvs)) (.loc (J.length+1)) nm v Q:=fun ht hk hn h=>HY g1 g2 ht hk hn (by rw[List.set_set];exact h)
   have hp:JA g (d+4) none 505 [.loc (J.length+1), .str [115,99,97,108,97,114], .str val] PB (.at (.ok (.str val)) (PB.set J.length (.ad (BG ⟨nm,J.length+1,J.length,J.length+2,true,val,1⟩)))):=
    P.f505.run rfl rfl fun K e p=>e (p _ (HY N.obj N.ad rfl rfl rfl) _ (st rfl rfl rfl) _ (SM g1 g2 rfl (v:= .int 0) rfl rfl) _ (st rfl rfl rfl)) .same ⟨rfl,rfl⟩
   have hw:JA g (d+5) none 569 [.loc L.h, .loc (J.length+1), .str nm, .str val] PB (.at (.ok (.str val)) (PB.set J.length (.ad (BG ⟨nm,J.length+1,J.length,J.length+2,true,val,1⟩)))):=
    P.f569.run rfl rfl fun K e p=>e (p _ hp) .same ⟨rfl,rfl⟩
   exact e (p _ hw) .same ⟨rfl,qe H N hj⟩
end
section
variable{g:G}{d:Nat}{hd:Option Nat}{J NA YF:List O}{T s:List Nat}{n:Nat}{L:HL}{hs hs':pP}
noncomputable def Lc(n:Nat)(c:List (List Nat×V)):HL:={bT n with cmds:=c}
noncomputable def nK(e:List Nat×Addr×V):List Nat×V:=(e.1, .tup [.val (.ref e.2.1),e.2.2])
theorem TF{f:List Nat×Addr×V->List Nat×V}(hf:∀e,(f e).1=e.1){k:List Nat}:∀{gs:List (List Nat×Addr×V)},(∀e∈gs,e.1≠k)->QA k (gs.map f)=none
 | [],_=>rfl
 | e::r,h=>(if_neg (hf e ▸ h e List.mem_cons_self)).trans (TF hf fun e h'=>h e (List.mem_cons_of_mem _ h'))
theorem WI{k:List Nat}{v:V}:∀{kvs:List (List Nat×V)},QA k kvs=none->BB k v kvs=kvs++[(k,v)]
 | [],_=>rfl
 | (k',v')::r,h=>by
   by_cases e:k'=k
   ·cases (if_pos e).symm.trans h
   ·exact(if_neg e).trans (congrArg ((k',v'):: ·) (WI ((if_neg e).symm.trans h)))
theorem JL{k:List Nat}{v:V}:∀{a b:List (List Nat×V)},QA k a=none->QA k (a++(k,v)::b)=some v
 | [],_,_=>if_pos rfl
 | (k',v')::r,b,h=>by
   by_cases e:k'=k
   ·cases (if_pos e).symm.trans h
   ·exact(if_neg e).trans (JL ((if_neg e).symm.trans h))
theorem PT{c c':List (List Nat×V)}{ep:Nat}(H:bB (Lc n c) hs J):bB (Lc n c') hs (J.set (n+5) (.dict c' ep)):=
 H.cl.elim fun ec hc=>
 have ne:∀{l:Nat} {y:O},J[l]?=some y->(∀{kvs ep},y≠ .dict kvs ep)->(J.set (n+5) (.dict c' ep))[l]?=some y:=fun q1 q2=>AC (k:=n+5) hc q1 q2
 {h:=ne H.h O.noConfusion,dl:=ne H.dl O.noConfusion
  tl:=H.tl.elim fun u0 e=>⟨_,(List.getElem?_set_ne (show n+5≠n+2 by exact Nat.ne_of_gt (by simp+arith only))).trans e⟩
  vl:=H.vl.elim fun u0 e=>e.elim fun u0 e=>⟨_,_,(List.getElem?_set_ne (show n+5≠n+4 by exact Nat.ne_of_gt (by simp+arith only))).trans e.1,e.2⟩
  cl:=⟨_,List.getElem?_set_self (FB hc)⟩
  vars:=fun v hv=>⟨ne (H.vars v hv).1 O.noConfusion,ne (H.vars v hv).2 O.noConfusion⟩
  small:=H.small,ne:=H.ne}
theorem lO{c f:List (List Nat×V)}{ef:Nat}{x:O}(H:bB (Lc n c) hs J)(hf:J[n+6]?=some (.dict f ef)):bB (Lc n c) hs (J.set (n+6) x):=
 have ne:∀{l:Nat} {y:O},J[l]?=some y->(∀{kvs ep},y≠ .dict kvs ep)->(J.set (n+6) x)[l]?=some y:=fun q1 q2=>AC hf q1 q2
 {h:=ne H.h O.noConfusion,dl:=ne H.dl O.noConfusion
  tl:=H.tl.elim fun u0 e=>⟨_,(List.getElem?_set_ne (show n+6≠n+2 by exact Nat.ne_of_gt (by simp+arith only))).trans e⟩
  vl:=H.vl.elim fun u0 e=>e.elim fun u0 e=>⟨_,_,(List.getElem?_set_ne (show n+6≠n+4 by exact Nat.ne_of_gt (by simp+arith only))).trans e.1,e.2⟩
  cl:=H.cl.elim fun u0 e=>⟨_,(List.getElem?_set_ne (show n+6≠n+5 by exact Nat.ne_of_gt (by simp+arith only))).trans e⟩
  vars:=fun v hv=>⟨ne (H.vars v hv).1 O.noConfusion,ne (H.vars v hv).2 O.noConfusion⟩
  small:=H.small,ne:=H.ne}
theorem iT(P:Prog g){nm:List Nat}{c f:List (List Nat×V)}{ei ec ef:Nat}(H:bB (Lc n c) hs J)(hc:J[n+5]?=some (.dict c ec))(hf:J[n+6]?=some (.dict f ef))(hi:J[n+3]?=some (.dict [] ei))(c0:QA nm c=none)(f0:QA nm f=none):
 JA g (d+1) none 619 [.loc (n+1), .str nm] J (.at (.ok .none) J):=
 P.f619.run rfl rfl fun K e p=>e (p _ (UC H rfl rfl rfl) _ hc _ (JF hc) _ _ (xd hc c0) _ (UC H rfl rfl rfl) _ hf _ (JF hf) _ _ (xd hf f0) _ (UC H rfl rfl rfl) _ (QQ hi) false rfl) .same ⟨rfl,rfl⟩
theorem ma(P:Prog g){nm:List Nat}{a v:V}{c f:List (List Nat×V)}{ei ef:Nat}(H:bB (Lc n c) hs J)(hf:J[n+6]?=some (.dict f ef))(hi:J[n+3]?=some (.dict [] ei))(c0:QA nm c=none)(f0:QA nm f=none)(hn:c.length<=100000):
 JA g (d+2) none 612 [.loc (n+1), .str nm,a,v] J (.to .none fun NA=>∃ep,NA=J.set (n+5) (.dict (c++[(nm, .tup [a,v])]) ep)):=
 P.f612.run rfl rfl fun K e p=>H.cl.elim fun ec hc=>
   p _ H.at'.obj _ H.at'.ad (H.at'.no _ rfl) _ (iT P H hc hf hi c0 f0) _ (UC H rfl rfl rfl) _ (UP hc hn) fun NA q p=>e p .same ⟨rfl,q.elim fun ep q=>⟨ep,q.trans (by rw[show BB nm (V.tup [a,v]) (Lc n c).cmds=c++[(nm, .tup [a,v])]from WI c0];rfl)⟩⟩
theorem xX(P:Prog g){a v:V}:JA g (d+1) none 519 [.tup [a,v]] J (.at (.ok (.tup [a,v])) J):=
 P.f519.run rfl rfl fun K e p=>e (p _ _ Sd true rfl) .same ⟨rfl,rfl⟩
noncomputable def YN(e:List Nat×Addr×V):List Nat×V:=(e.1, .bool true)
structure eY(n:Nat)(hs:pP)(kG:List O)(gs:List (List Nat×Addr×V))(J:List O):Prop where
 w:bB (Lc n (gs.map nK)) hs J
 f:uQ (Lc n []) (gs.map YN) J
 len:J.length=kG.length
 keep:∀l,l≠n+5->l≠n+6->J[l]?=kG[l]?
theorem XZ(P:Prog g){gl ep:Nat}{gs:List (List Nat×Addr×V)}(H:bB (Lc n []) hs J)(HF:uQ (Lc n []) [] J)(hg:J[gl]?=some (.dict (gs.map nK) ep))(hgn:gl≠n+5/\gl≠n+6)(hnd:(gs.map (·.1)).Nodup)(hlen:gs.length<=100):
 JA g (d+3) none 626 [.loc (n+1), .loc gl] J (.to .none (eY n hs J gs)):=
 P.f626.run rfl rfl fun K e f=>f _ hg fun Pw hP h0=>by
   have key:∀(r pre:List (List Nat×Addr×V)) (k:Nat) (MC:List O) (x2 x3 x4:Option V),gs=pre++r->k=pre.length->eY n hs J pre MC->Pw k [some (.loc (n+1)),some (.loc gl),x2,x3,x4] MC->False:=by
    intro r
    induction r with
    | nil=>
      intro pre k MC x2 x3 x4 e1 ek A p
      rw[List.append_nil]at e1
      subst e1
      subst ek
      exact e (hP _ _ _ p ((A.keep _ hgn.1 hgn.2).trans hg) none (List.getElem?_eq_none (by simp))) .same ⟨rfl,A⟩
    | cons a r ih=>
      obtain⟨nm,fa,dt⟩:=a
      intro pre k MC x2 x3 x4 e1 ek A p
      subst ek
      obtain⟨⟨ei,hi⟩,ef,hf⟩:=A.f
      have hg1:MC[gl]?=some (.dict (gs.map nK) ep):=(A.keep _ hgn.1 hgn.2).trans hg
      have hno:∀e∈pre,e.1≠nm:=fun e he q=>by
       rw[e1,List.map_append,List.map_cons]at hnd
       exact(List.nodup_append.mp hnd).2.2 _ (List.mem_map_of_mem he) nm (by simp) q
      have hq:(gs.map nK)[pre.length]?=some (nK (nm,fa,dt)):=by rw[e1,List.getElem?_map,AA];rfl
      have hlk:QA nm (gs.map nK)=some (.tup [.val (.ref fa),dt]):=by
       rw[e1,List.map_append,List.map_cons];exact JL (TF (fun u0=>rfl) hno)
      have hl2:pre.length<=100:=by rw[e1,List.length_append]at hlen;exact(db hlen)
      refine hP _ _ _ p hg1 _ hq _ (HG hg1 hlk) _ (xX P) _ A.w.at'.obj _ A.w.at'.ad (A.w.at'.no _ rfl) _ (ma P A.w hf hi (TF (fun u0=>rfl) hno) (TF (fun u0=>rfl) hno) (by rw[List.length_map];exact kC hl2)) fun PB ⟨ep2,q2⟩ p=>?_
      have hf2:PB[n+6]?=some (.dict (pre.map YN) ef):=by rw[q2,List.getElem?_set_ne (by exact Nat.ne_of_lt (Nat.lt_succ_self _))];exact hf
      have w2:bB (Lc n ((pre++[(nm,fa,dt)]).map nK)) hs PB:=by rw[q2,List.map_append];exact PT A.w
      refine p _ (UC w2 rfl rfl rfl) _ (UP hf2 (by rw[List.length_map];exact kC hl2)) fun xL ⟨ep3,q3⟩ p=>?_
      have q3:xL=PB.set (n+6) (.dict (BB nm (.bool true) (pre.map YN)) ep3):=q3
      refine ih (pre++[(nm,fa,dt)]) _ xL _ _ _ (by rw[List.append_assoc];exact e1) (by simp) ⟨?_,⟨⟨ei,?_⟩,ep3,?_⟩,?_,fun l h1 h2=>?_⟩ p
      ·rw[q3];exact lO w2 hf2
      ·show xL[n+3]?=_
       rw[q3,q2,List.getElem?_set_ne (show n+6≠n+3 by exact Nat.ne_of_gt (by simp+arith only)),List.getElem?_set_ne (show n+5≠n+3 by exact Nat.ne_of_gt (by simp+arith only))];exact hi
      ·rw[q3];exact(List.getElem?_set_self (FB hf2)).trans (by rw[WI (TF (fun u0=>rfl) hno),List.map_append];rfl)
      ·rw[q3,q2,List.length_set,List.length_set];exact A.len
      ·rw[q3,q2,List.getElem?_set_ne (Ne.symm h2),List.getElem?_set_ne (Ne.symm h1)];exact A.keep l h1 h2
   exact key gs [] 0 J none none none rfl rfl ⟨H,HF,rfl,fun u0 u0 u0=>rfl⟩ h0
end
section
variable{g:G}{d:Nat}{hd:Option Nat}{J:List O}{T s:List Nat}{n:Nat}
noncomputable def uA(c:Nat):Bool:=[[32],[9],[10],[11],[12],[13]].contains [c]
theorem yA(P:sB g){c:Nat}:JA g (d+1) hd 181 [.str [c]] J (.at (.ok (.bool (uA c))) J):=
 P.f181.run rfl rfl fun K e f=>e (f _ rfl) .same ⟨rfl,rfl⟩
noncomputable def BC(s:List Nat):Prop:=∀c r,s=c::r->uA c=true
theorem KO(P:sB g){what:List Nat}(hs:DB T n s)(hb:BC s):JA g (d+2) hd 308 [.str T, .int (n:Int), .str what] J (.at (.ok .none) J):=
 P.f308.run rfl rfl fun K e f=>by
   induction s using List.casesOn with
   | nil=>exact e (f true (IJ hs)) .same ⟨rfl,rfl⟩
   | cons c r=>exact e (f false (IJ hs) _ (OA hs) _ (yA P) true (hb c r rfl)) .same ⟨rfl,rfl⟩
noncomputable def SV(what w:List Nat):List Nat:=[108,105,115,116,32,101,108,101,109,101,110,116,32,105,110,32]++what++[32,102,111,108,108,111,119,101,100,32,98,121,32,34]++w++[34,32,105,110,115,116,101,97,100,32,111,102,32,115,112,97,99,101]
noncomputable def BF(sort:List Nat):V:= .tup [.str [84,67,76], .str [86,65,76,85,69], .str [76,73,83,84], .str sort]
theorem UM(P:sB g){what w r:List Nat}(hs:DB T n (w++r))(hw:∀c∈w,uA c=false)(h0:w≠[])(h20:w.length<=20)(hr:w.length=20\/BC r)(hwh:what.length<=100):
 JA g (d+4) none 308 [.str T, .int (n:Int), .str what] J (.at (.exn J.length) (J++xB J.length (SV what w) (BF [74,85,78,75]))):=
 P.f308.run rfl rfl fun K e f=>by
   obtain⟨c0,w0,rfl⟩:=List.exists_cons_of_ne_nil h0
   refine f false (IJ hs) _ (OA hs) _ (yA P) false (hw c0 (.head _)) fun Pw hP p0=>?_
   clear f
   have big:=hs.big
   have hl:=hs.len
   have done:∀{m:Nat},m=n+(c0::w0).length->(∀(x:Nat),m=n+(c0::w0).length->DB T m r)->Pw 0 [some (.str T),some (.int (n:Int)),some (.str what),some (.int (m:Int))] J->False:=by
    intro m em hm p
    have hm:=hm 0 em
    have hz:(c0::w0).length<=20:=h20
    subst em
    induction r using List.casesOn with
    | nil=>exact e (hP _ _ _ p false (FC hm) _ (jC (by simp only[List.length_cons,List.length_nil];omega)) _ (jC (by simp only[List.length_append,List.length_cons,List.length_nil];omega)) _ (fun {Q} h=>uD hs hm h) _ (jC (by simp only[List.length_append,List.length_cons,List.length_nil]at hz ⊢;omega)) _ (jC (by simp only[List.length_append,List.length_cons,List.length_nil]at hz ⊢;omega)) _ (lE P.toProg) _ _ (AA ..) (.inl rfl)) .same ⟨rfl,rfl⟩
    | cons c r=>
      by_cases q:(c0::w0).length=20
      ·exact e (hP _ _ _ p true (FC hm) false (decide_eq_false (by rw[q];omega)) _ (jC (by simp only[List.length_cons,List.length_nil];omega)) _ (jC (by simp only[List.length_append,List.length_cons,List.length_nil];omega)) _ (fun {Q} h=>uD hs hm h) _ (jC (by simp only[List.length_append,List.length_cons,List.length_nil]at hz ⊢;omega)) _ (jC (by simp only[List.length_append,List.length_cons,List.length_nil]at hz ⊢;omega)) _ (lE P.toProg) _ _ (AA ..) (.inl rfl)) .same ⟨rfl,rfl⟩
      ·exact e (hP _ _ _ p true (FC hm) true (decide_eq_true (by omega)) _ (OA hm) _ (yA P) true ((hr.resolve_left q) c r rfl) _ (jC (by simp only[List.length_cons,List.length_nil];omega)) _ (jC (by simp only[List.length_append,List.length_cons,List.length_nil];omega)) _ (fun {Q} h=>uD hs hm h) _ (jC (by simp only[List.length_append,List.length_cons,List.length_nil]at hz ⊢;omega)) _ (jC (by simp only[List.length_append,List.length_cons,List.length_nil]at hz ⊢;omega)) _ (lE P.toProg) _ _ (AA ..) (.inl rfl)) .same ⟨rfl,rfl⟩
   have goal:∀(b a:List Nat),a++b=c0::w0->Pw 0 [some (.str T),some (.int (n:Int)),some (.str what),some (.int ((n+a.length:Nat):Int))] J->False:=by
    intro b
    induction b with
    | nil=>
      intro a ea p
      rw[List.append_nil]at ea
      subst ea
      exact done rfl (fun _ _=>hs.app) p
    | cons c b ih=>
      intro a ea p
      have hm:DB T (n+a.length) (c::(b++r)):=by
       have h:=hs
       rw[<-ea,List.append_assoc]at h
       exact h.app
      have hal:a.length < 20:=by
       have:=congrArg List.length ea
       simp only[List.length_append,List.length_cons]at this h20
       omega
      refine ih (a++[c]) (by rw[List.append_assoc];exact ea) ?_
      have q:=hP _ _ _ p true (FC hm) true (decide_eq_true (by omega)) _ (OA hm) _ (yA P) false (hw c (by rw[<-ea];simp))
      rw[List.length_append]
      exact q
   exact goal (c0::w0) [] rfl p0
end
section
variable{g:G}{d:Nat}{hd:Option Nat}{J:List O}{T s:List Nat}{n:Nat}
set_option genCtorIdx true in
inductive LO where
 | ok (v rest:List Nat)
 | bad (why sort:List Nat)
noncomputable def LO.at(T:List Nat)(m:Nat):LO->Prop
 | .ok _ r=>DB T m r
 | .bad _ _=>True
noncomputable def LO.sp(J:List O)(m:Nat):LO->Sp
 | .ok v _=> .at (.ok (.tup [.str v, .int (m:Int)])) J
 | .bad w t=> .at (.exn J.length) (J++xB J.length w (BF t))
noncomputable def XY:List Nat:=[98,114,97,99,101,115]
noncomputable def CS:LO:= .bad [117,110,109,97,116,99,104,101,100,32,111,112,101,110,32,98,114,97,99,101,32,105,110,32,108,105,115,116] [66,82,65,67,69]
class inductive EB:Nat->List Nat->List Nat->LO->Prop
 | eof {k:Nat} {acc:List Nat}:EB k [] acc CS
 | esc1 {k:Nat} {acc:List Nat}:EB k [92] acc CS
 | opn {k:Nat} {r acc:List Nat} {o:LO}:EB (k+1) r (acc++[123]) o->EB k (123::r) acc o
 | cls {k:Nat} {r acc:List Nat} {o:LO}:0 < k->EB k r (acc++[125]) o->EB (k+1) (125::r) acc o
 | done {r acc:List Nat}:BC r->EB 1 (125::r) acc (.ok acc r)
 | junk {w r acc:List Nat}:(∀c∈w,uA c=false)->w≠[]->w.length<=20->(w.length=20\/BC r)->EB 1 (125::(w++r)) acc (.bad (SV XY w) [74,85,78,75])
 | esc {k c:Nat} {r acc:List Nat} {o:LO}:EB k r (acc++[92,c]) o->EB k (92::c::r) acc o
 | chr {k c:Nat} {r acc:List Nat} {o:LO}:c≠92->c≠123->c≠125->EB k r (acc++[c]) o->EB k (c::r) acc o
theorem EB.suf{k:Nat}{acc:List Nat}{o:LO}(h:EB k s acc o):∀v r,o= .ok v r->r <:+ s:=by
 induction h with
 | eof=>intro v r e;cases e
 | esc1=>intro v r e;cases e
 | junk=>intro v r e;cases e
 | done h=>rintro v r e;cases e;exact⟨[125],rfl⟩
 | opn _ ih=>intro v r e;exact(ih v r e).trans ⟨[123],rfl⟩
 | cls _ _ ih=>intro v r e;exact(ih v r e).trans ⟨[125],rfl⟩
 | @esc _ c _ _ _ _ ih=>intro v r e;exact(ih v r e).trans ⟨[92,c],rfl⟩
 | @chr _ c _ _ _ _ _ _ _ ih=>intro v r e;exact(ih v r e).trans ⟨[c],rfl⟩
theorem hU(P:sB g){o:LO}(hs:DB T n s)(hb:EB 1 s [] o):∃m,o.at T m/\∀{J},JA g (d+5) none 315 [.str T, .int (n:Int)] J (o.sp J m):=by
 obtain⟨m,hm⟩:∃m,o.at T m:=by
  induction o using LO.casesOn with
  | bad _ _=>exact⟨0,trivial⟩
  | ok v r=>exact hs.sub (hb.suf _ _ rfl)
 refine⟨m,hm,fun {J}=>P.f315.run rfl rfl fun K e f=>f fun Pw hP h0=>?_⟩
 have goal:∀(k:Nat) (s acc:List Nat) (o':LO),EB k s acc o'->o'=o->0 < k->∀(place:Nat) (x4:Option V),DB T n (acc++s)->DB T place s->
  Pw 0 [some (.str T),some (.int (n:Int)),some (.int (k:Int)),some (.int (place:Int)),x4] J->False:=by
  intro k s acc o' h
  induction h with
  | eof=>
    rintro rfl hk place x4 h1 h2 p
    exact e (hP _ _ _ p false (FC h2) _ (lE P.toProg) _ _ (AA ..) (.inl rfl)) .same ⟨rfl,rfl⟩
  | esc1=>
    rintro rfl hk place x4 h1 h2 p
    have:=h2.len
    simp only[List.length_cons,List.length_nil]at this
    exact e (hP _ _ _ (hP _ _ _ p true (FC h2) _ (OA h2) true rfl) false (decide_eq_false (by lia)) _ (lE P.toProg) _ _ (AA ..) (.inl rfl)) .same ⟨rfl,rfl⟩
  | opn hb ih=>
    intro hq hk place x4 h1 h2 p
    exact ih hq (Nat.succ_pos _) (place+1) _ (by simpa using h1) h2.next (hP _ _ _ p true (FC h2) _ (OA h2) false rfl true rfl)
  | @cls k _ _ _ hk hb ih=>
    intro hq hk' place x4 h1 h2 p
    refine ih hq hk (place+1) (some (.str [125])) (by simpa using h1) h2.next ?_
    have p:=hP _ _ _ p true (FC h2) _ (OA h2) false rfl false rfl true rfl false (decide_eq_false (by lia))
    rw[<-Bb (a:=k)];exact p
  | @done r acc hbl=>
    rintro rfl hk' place x4 h1 h2 p
    exact e (hP _ _ _ p true (FC h2) _ (OA h2) false rfl false rfl true rfl true rfl _ (KO P h2.next hbl) _ (uD h1 h2)) .same ⟨congrArg (fun m:Nat=>iE.ok (.tup [.str acc, .int (m:Int)])) (h2.next.uniq hm),rfl⟩
  | @junk w r acc a1 a2 a3 a4=>
    rintro rfl hk' place x4 h1 h2 p
    exact e (hP _ _ _ p true (FC h2) _ (OA h2) false rfl false rfl true rfl true rfl _ (UM P h2.next a1 a2 a3 a4 (Nat.le_of_ble_eq_true rfl))) .same ⟨rfl,rfl⟩
  | @esc k c r acc o' hb ih=>
    intro hq hk place x4 h1 h2 p
    exact ih hq hk (place+2) _ (by simpa using h1) h2.next.next (hP _ _ _ p true (FC h2) _ (OA h2) true rfl)
  | @chr k c r acc o' c1 c2 c3 hb ih=>
    intro hq hk place x4 h1 h2 p
    exact ih hq hk (place+1) _ (by simpa using h1) h2.next (hP _ _ _ p true (FC h2) _ (OA h2) false (IC c1) false (IC c2) false (IC c3))
 exact goal 1 s [] o hb rfl Nat.one_pos n _ hs hs h0
end
section
variable{g:G}{d:Nat}{hd:Option Nat}{J:List O}{T s:List Nat}{n:Nat}
class inductive EW:List Nat->List Nat->LO->Prop
 | eof {acc:List Nat}:EW [] acc (.ok acc [])
 | blank {c:Nat} {r acc:List Nat}:uA c=true->EW (c::r) acc (.ok acc (c::r))
 | esc {s v r acc:List Nat} {o:LO}:Bs s v r->r.length<=s.length->v.length<=1->EW r (acc++v) o->EW (92::s) acc o
 | chr {c:Nat} {r acc:List Nat} {o:LO}:c≠92->uA c=false->EW r (acc++[c]) o->EW (c::r) acc o
theorem lG{x y:O}:(J++[x]).set J.length y=J++[y]:=by rw[List.set_append_right _ _ (Nat.le_refl _),Nat.sub_self];rfl
theorem aP(ss:List (List Nat))(v:List Nat):(ss++[v]).map V.str=ss.map .str++[.str v]:=by rw[List.map_append];rfl
theorem EW.pl(P:sB g){acc:List Nat}{o:LO}(h:EW s acc o):∀{n:Nat},DB T n s->∃m,o.at T m/\∀v r,o= .ok v r->DB T m r:=by
 induction h with
 | eof=>intro n h;exact⟨n,h,fun v r e=>by cases e;exact h⟩
 | blank _=>intro n h;exact⟨n,h,fun v r e=>by cases e;exact h⟩
 | esc hbs _ _ _ ih=>
   intro n h
   obtain⟨m2,hm2,_⟩:=yC (d:=0) (hd:=none) P.toProg h hbs
   exact ih hm2
 | chr _ _ _ ih=>intro n h;exact ih h.next
theorem cZ(P:sB g){o:LO}(hs:DB T n s)(hb:EW s [] o):∃m,o.at T m/\∀{J},JA g (d+5) none 329 [.str T, .int (n:Int)] J (o.sp J m):=by
 have big:=hs.big
 obtain⟨m,hm⟩:∃m,o.at T m/\∀v r,o= .ok v r->DB T m r:=EW.pl P hb hs
 refine⟨m,hm.1,fun {J}=>P.f329.run rfl rfl fun K e f=>f fun Pw hP h0=>?_⟩
 have goal:∀(s acc:List Nat) (o':LO),EW s acc o'->o'=o->∀(place:Nat) (ss:List (List Nat)) (x3:Option V),ss.flatten=acc->DB T place s->acc.length+s.length<=T.length->ss.length+s.length<=T.length->
  Pw 0 [some (.str T),some (.int (place:Int)),some (.loc J.length),x3] (J++[.list (ss.map .str)])->False:=by
  intro s acc o' h
  induction h with
  | eof=>
    rintro rfl place ss x3 ea h2 h3 h4 p
    subst ea
    exact e (hP _ _ _ p false (FC h2) _ _ (qR (AA ..) (wC ss) (by omega))) (.ok rfl) ⟨congrArg (fun m:Nat=>iE.ok (.tup [.str _, .int (m:Int)])) (h2.uniq (hm.2 _ _ rfl)),rfl⟩
  | blank hc=>
    rintro rfl place ss x3 ea h2 h3 h4 p
    subst ea
    exact e (hP _ _ _ p true (FC h2) _ (OA h2) _ (yA P) true hc _ _ (qR (AA ..) (wC ss) (by omega))) (.ok rfl) ⟨congrArg (fun m:Nat=>iE.ok (.tup [.str _, .int (m:Int)])) (h2.uniq (hm.2 _ _ rfl)),rfl⟩
  | @esc s v r acc o' hbs hl hv hb ih=>
    intro hq place ss x3 ea h2 h3 h4 p
    subst ea
    obtain⟨m2,hm2,c⟩:=yC (d:=d+1) (hd:=none) P.toProg h2 hbs
    simp only[List.length_cons]at h3 h4
    refine ih hq m2 (ss++[v]) (some (.str v)) (by simp) hm2 (by simp only[List.length_append];omega) (by simp only[List.length_append,List.length_cons,List.length_nil];omega) ?_
    have q:=hP _ _ _ p true (FC h2) _ (OA h2) _ (yA P) false rfl _ (OA h2) true rfl _ c _ (AA ..) _ (TA (AA ..)) _ _ (mB (v:= .str v) (by rw[List.length_map];omega))
    rw[aP, <-lG (x:= .list (ss.map .str))];exact q
  | @chr c r acc o' c1 c2 hb ih=>
    intro hq place ss x3 ea h2 h3 h4 p
    subst ea
    simp only[List.length_cons]at h3 h4
    refine ih hq (place+1) (ss++[[c]]) (some (.str [c])) (by simp) h2.next (by simp only[List.length_append,List.length_cons,List.length_nil];omega) (by simp only[List.length_append,List.length_cons,List.length_nil];omega) ?_
    have q:=hP _ _ _ p true (FC h2) _ (OA h2) _ (yA P) false c2 _ (OA h2) false (IC c1) _ (AA ..) _ (TA (AA ..)) _ _ (mB (v:= .str [c]) (by rw[List.length_map];omega))
    rw[aP, <-lG (x:= .list (ss.map .str))];exact q
 exact goal s [] o hb rfl n [] _ rfl hs (by have:=hs.len;simp only[List.length_nil];omega) (by have:=hs.len;simp only[List.length_nil];omega) h0
end
section
variable{g:G}{d:Nat}{hd:Option Nat}{J:List O}{T s:List Nat}{n:Nat}
noncomputable def YY:List Nat:=[113,117,111,116,101,115]
noncomputable def qX:LO:= .bad [117,110,109,97,116,99,104,101,100,32,111,112,101,110,32,113,117,111,116,101,32,105,110,32,108,105,115,116] [81,85,79,84,69]
class inductive EQ:List Nat->List Nat->LO->Prop
 | eof {acc:List Nat}:EQ [] acc qX
 | done {r acc:List Nat}:BC r->EQ (34::r) acc (.ok acc r)
 | junk {w r acc:List Nat}:(∀c∈w,uA c=false)->w≠[]->w.length<=20->(w.length=20\/BC r)->EQ (34::(w++r)) acc (.bad (SV YY w) [74,85,78,75])
 | esc {s v r acc:List Nat} {o:LO}:Bs s v r->r.length<=s.length->v.length<=1->EQ r (acc++v) o->EQ (92::s) acc o
 | chr {c:Nat} {r acc:List Nat} {o:LO}:c≠92->c≠34->EQ r (acc++[c]) o->EQ (c::r) acc o
theorem EQ.pl(P:sB g){acc:List Nat}{o:LO}(h:EQ s acc o):∀{n:Nat},DB T n s->∃m,o.at T m/\∀v r,o= .ok v r->DB T m r:=by
 induction h with
 | eof=>intro n h;exact⟨n,trivial,fun v r e=>by cases e⟩
 | junk=>intro n h;exact⟨n,trivial,fun v r e=>by cases e⟩
 | done _=>intro n h;exact⟨n+1,h.next,fun v r e=>by cases e;exact h.next⟩
 | esc hbs _ _ _ ih=>
   intro n h
   obtain⟨m2,hm2,_⟩:=yC (d:=0) (hd:=none) P.toProg h hbs
   exact ih hm2
 | chr _ _ _ ih=>intro n h;exact ih h.next
theorem yV(P:sB g){o:LO}(hs:DB T n s)(hb:EQ s [] o):∃m,o.at T m/\∀{J},JA g (d+5) none 322 [.str T, .int (n:Int)] J (o.sp J m):=by
 have big:=hs.big
 obtain⟨m,hm⟩:∃m,o.at T m/\∀v r,o= .ok v r->DB T m r:=EQ.pl P hb hs
 refine⟨m,hm.1,fun {J}=>P.f322.run rfl rfl fun K e f=>f fun Pw hP h0=>?_⟩
 have goal:∀(s acc:List Nat) (o':LO),EQ s acc o'->o'=o->∀(place:Nat) (ss:List (List Nat)) (x3:Option V),ss.flatten=acc->DB T place s->acc.length+s.length<=T.length->ss.length+s.length<=T.length->
  Pw 0 [some (.str T),some (.int (place:Int)),some (.loc J.length),x3] (J++[.list (ss.map .str)])->False:=by
  intro s acc o' h
  induction h with
  | eof=>
    rintro rfl place ss x3 ea h2 h3 h4 p
    exact e (hP _ _ _ p false (FC h2) _ (lE P.toProg) _ _ (AA ..) (.inl rfl)) (.err rfl) ⟨rfl,rfl⟩
  | done hc=>
    rintro rfl place ss x3 ea h2 h3 h4 p
    subst ea
    exact e (hP _ _ _ p true (FC h2) _ (OA h2) false rfl true rfl _ (KO P h2.next hc) _ _ (qR (AA ..) (wC ss) (by omega))) (.ok rfl) ⟨congrArg (fun m:Nat=>iE.ok (.tup [.str _, .int (m:Int)])) (h2.next.uniq (hm.2 _ _ rfl)),rfl⟩
  | junk a1 a2 a3 a4=>
    rintro rfl place ss x3 ea h2 h3 h4 p
    exact e (hP _ _ _ p true (FC h2) _ (OA h2) false rfl true rfl _ (UM P h2.next a1 a2 a3 a4 (Nat.le_of_ble_eq_true rfl))) (.err rfl) ⟨rfl,rfl⟩
  | @esc s v r acc o' hbs hl hv hb ih=>
    intro hq place ss x3 ea h2 h3 h4 p
    subst ea
    obtain⟨m2,hm2,c⟩:=yC (d:=d+1) (hd:=none) P.toProg h2 hbs
    simp only[List.length_cons]at h3 h4
    refine ih hq m2 (ss++[v]) (some (.str v)) (by simp) hm2 (by simp only[List.length_append];omega) (by simp only[List.length_append,List.length_cons,List.length_nil];omega) ?_
    have q:=hP _ _ _ p true (FC h2) _ (OA h2) true rfl _ c _ (AA ..) _ (TA (AA ..)) _ _ (mB (v:= .str v) (by rw[List.length_map];omega))
    rw[aP, <-lG (x:= .list (ss.map .str))];exact q
  | @chr c r acc o' c1 c2 hb ih=>
    intro hq place ss x3 ea h2 h3 h4 p
    subst ea
    simp only[List.length_cons]at h3 h4
    refine ih hq (place+1) (ss++[[c]]) (some (.str [c])) (by simp) h2.next (by simp only[List.length_append,List.length_cons,List.length_nil];omega) (by simp only[List.length_append,List.length_cons,List.length_nil];omega) ?_
    have q:=hP _ _ _ p true (FC h2) _ (OA h2) false (IC c1) false (IC c2) _ (AA ..) _ (TA (AA ..)) _ _ (mB (v:= .str [c]) (by rw[List.length_map];omega))
    rw[aP, <-lG (x:= .list (ss.map .str))];exact q
 exact goal s [] o hb rfl n [] _ rfl hs (by have:=hs.len;simp only[List.length_nil];omega) (by have:=hs.len;simp only[List.length_nil];omega) h0
end
section
variable{g:G}{d:Nat}{hd:Option Nat}{J:List O}{T s:List Nat}{n:Nat}
inductive FT:List Nat->Option LO->Prop
 | none:FT [] none
 | brace {r:List Nat} {o:LO}:EB 1 r [] o->FT (123::r) (some o)
 | quote {r:List Nat} {o:LO}:EQ r [] o->FT (34::r) (some o)
 | bare {c:Nat} {r:List Nat} {o:LO}:uA c=false->c≠123->c≠34->EW (c::r) [] o->FT (c::r) (some o)
noncomputable def HQ(J:List O)(m:Nat):Option LO->Sp
 | none=> .at (.ok .none) J
 | some o=>o.sp J m
noncomputable def Uf(T:List Nat)(m:Nat):Option LO->Prop
 | none=>True
 | some o=>o.at T m
theorem tI(P:sB g){b t:List Nat}{o:Option LO}(hs:DB T n (b++t))(hb:∀c∈b,uA c=true)(ht:FT t o):∃m,Uf T m o/\∀{J},JA g (d+6) none 336 [.str T, .int (n:Int)] J (HQ J m o):=by
 have hm:=hs.app
 have loop:∀{J:List O} {Pw:Nat->List (Option V)->List O->Prop} (Q:Prop),(∀(c:Nat) (n':Nat) (b:List Nat),uA c=true->DB T n' (c::(b++t))->Pw 0 [some (.str T),some (.int (n':Int))] J->Pw 0 [some (.str T),some (.int ((n'+1:Nat):Int))] J)->
  ∀(b:List Nat) (n':Nat),(∀c∈b,uA c=true)->DB T n' (b++t)->Pw 0 [some (.str T),some (.int (n':Int))] J->Pw 0 [some (.str T),some (.int ((n'+b.length:Nat):Int))] J:=by
  intro J Pw _ step b
  induction b with
  | nil=>intro n' _ _ p;exact p
  | cons c b ih=>
    intro n' h1 h2 p
    have:=ih (n'+1) (fun x m=>h1 x (.tail _ m)) h2.next (step c n' b (h1 c (.head _)) h2 p)
    rw[List.length_cons,Nat.add_comm b.length 1, <-Nat.add_assoc]
    exact this
 induction ht with
 | none=>
   refine⟨0,trivial,fun {J}=>P.f336.run rfl rfl fun K e f=>f fun Pw hP p=>?_⟩
   have p:=loop True (fun c n' b q h p=>hP _ _ _ p true (FC h) _ (OA h) _ (yA P) true q) b n hb hs p
   exact e (hP _ _ _ p false (FC hm) true (IJ hm)) .same ⟨rfl,rfl⟩
 | @brace r o h=>
   obtain⟨m,h1,h2⟩:=hU (d:=d) P hm.next h
   refine⟨m,h1,fun {J}=>P.f336.run rfl rfl fun K e f=>f fun Pw hP p=>?_⟩
   have p:=loop True (fun c n' b q h p=>hP _ _ _ p true (FC h) _ (OA h) _ (yA P) true q) b n hb hs p
   induction o using LO.casesOn <;>exact e (hP _ _ _ p true (FC hm) _ (OA hm) _ (yA P) false rfl false (IJ hm) _ (OA hm) true rfl _ h2) .same ⟨rfl,rfl⟩
 | @quote r o h=>
   obtain⟨m,h1,h2⟩:=yV (d:=d) P hm.next h
   refine⟨m,h1,fun {J}=>P.f336.run rfl rfl fun K e f=>f fun Pw hP p=>?_⟩
   have p:=loop True (fun c n' b q h p=>hP _ _ _ p true (FC h) _ (OA h) _ (yA P) true q) b n hb hs p
   induction o using LO.casesOn <;>exact e (hP _ _ _ p true (FC hm) _ (OA hm) _ (yA P) false rfl false (IJ hm) _ (OA hm) false rfl _ (OA hm) true rfl _ h2) .same ⟨rfl,rfl⟩
 | @bare c r o c1 c2 c3 h=>
   obtain⟨m,h1,h2⟩:=cZ (d:=d) P hm h
   refine⟨m,h1,fun {J}=>P.f336.run rfl rfl fun K e f=>f fun Pw hP p=>?_⟩
   have p:=loop True (fun c n' b q h p=>hP _ _ _ p true (FC h) _ (OA h) _ (yA P) true q) b n hb hs p
   induction o using LO.casesOn <;>exact e (hP _ _ _ p true (FC hm) _ (OA hm) _ (yA P) false c1 false (IJ hm) _ (OA hm) false (IC c2) _ (OA hm) false (IC c3) _ h2) .same ⟨rfl,rfl⟩
end
section
variable{g:G}{d:Nat}{hd:Option Nat}{J:List O}{T s:List Nat}{n:Nat}
set_option genCtorIdx true in
inductive SO where
 | ok (items:List (List Nat))
 | bad (why sort:List Nat)
noncomputable def SO.sp(J:List O):SO->Sp
 | .ok ss=> .at (.ok (.loc J.length)) (J++[.list (ss.map .str)])
 | .bad w t=> .at (.exn J.length) (J++xB J.length w (BF t))
class inductive SL:List Nat->List (List Nat)->SO->Prop
 | done {b:List Nat} {acc:List (List Nat)}:(∀c∈b,uA c=true)->SL b acc (.ok acc)
 | bad {b t why sort:List Nat} {acc:List (List Nat)}:(∀c∈b,uA c=true)->FT t (some (.bad why sort))->SL (b++t) acc (.bad why sort)
 | more {b t v r:List Nat} {acc:List (List Nat)} {o:SO}:(∀c∈b,uA c=true)->FT t (some (.ok v r))->r.length < (b++t).length->SL r (acc++[v]) o->SL (b++t) acc o
theorem PS(P:sB g){o:SO}(big:T.length<=100000)(hl:SL T [] o):JA g (d+7) none 343 [.str T] J (o.sp J):=
 P.f343.run rfl rfl fun K e f=>by
   have goal:∀{Pw:Nat->List (Option V)->List O->Prop},(∀{acc:List (List Nat)},Pw 0 [some (.str T),some (.loc J.length),some .none] (J++[.list (acc.map .str)])->K (.ok (.loc J.length)) (J++[.list (acc.map .str)]))->
    (∀{acc:List (List Nat)} {v:List Nat} {m m2:Nat} {S:Option LO},acc.length<=100000->Pw 0 [some (.str T),some (.loc J.length),some (.tup [.str v, .int (m:Int)])] (J++[.list (acc.map .str)])->
     JA g (d+6) none 336 [.str T, .int (m:Int)] (J++[.list ((acc++[v]).map .str)]) (HQ (J++[.list ((acc++[v]).map .str)]) m2 S)->
     Sp.K (fun v MC=>Pw 0 [some (.str T),some (.loc J.length),some v] MC) (fun l MC=>K (.exn l) MC) (HQ (J++[.list ((acc++[v]).map .str)]) m2 S))->
    ∀(s:List Nat) (acc:List (List Nat)) (o':SO),SL s acc o'->o'=o->∀(place:Nat),DB T place s->acc.length+s.length<=T.length->
     (∀{m2:Nat} {S:Option LO},JA g (d+6) none 336 [.str T, .int (place:Int)] (J++[.list (acc.map .str)]) (HQ (J++[.list (acc.map .str)]) m2 S)->Sp.K (fun v MC=>Pw 0 [some (.str T),some (.loc J.length),some v] MC) (fun l MC=>K (.exn l) MC) (HQ (J++[.list (acc.map .str)]) m2 S))->False:=by
    intro Pw hend hstep s acc o' h
    induction h with
    | done hb=>
      rintro rfl place hs hn k
      obtain⟨m,_,c⟩:=tI (d:=d) (t:=[]) P (by rw[List.append_nil];exact hs) hb .none
      exact e (hend (k c)) .same ⟨rfl,rfl⟩
    | bad hb ht=>
      rintro rfl place hs hn k
      obtain⟨m,_,c⟩:=tI (d:=d) P hs hb ht
      exact e (k c) (.err rfl) ⟨rfl,rfl⟩
    | @more b t v r acc o' hb ht hr hl ih=>
      intro hq place hs hn k
      obtain⟨m,hm,c⟩:=tI (d:=d) P hs hb ht
      exact ih hq m hm (by simp only[List.length_append,List.length_cons,List.length_nil]at*;omega) fun c2=>hstep (by omega) (k c) c2
   have hs0:DB T 0 T:= .start big
   cases hl with
   | done hb=>
     obtain⟨m,_,c⟩:=tI (d:=d) (t:=[]) P (by rw[List.append_nil];exact hs0) hb .none
     exact(f _ c) fun Pw hP p=>e (hP _ _ _ p false rfl) .same ⟨rfl,rfl⟩
   | bad hb ht=>
     obtain⟨m,_,c⟩:=tI (d:=d) P hs0 hb ht
     exact e (f _ c) (.err (j:=[.list []]) rfl) ⟨rfl,rfl⟩
   | @more b t v r _ _ hb ht hr hl=>
     obtain⟨m,hm,c⟩:=tI (d:=d) P hs0 hb ht
     exact(f _ c) fun Pw hP p=>by
      have hstep:∀{acc:List (List Nat)} {v:List Nat} {m m2:Nat} {S:Option LO},acc.length<=100000->Pw 0 [some (.str (b++t)),some (.loc J.length),some (.tup [.str v, .int (m:Int)])] (J++[.list (acc.map .str)])->
       JA g (d+6) none 336 [.str (b++t), .int (m:Int)] (J++[.list ((acc++[v]).map .str)]) (HQ (J++[.list ((acc++[v]).map .str)]) m2 S)->
       Sp.K (fun v MC=>Pw 0 [some (.str (b++t)),some (.loc J.length),some v] MC) (fun l MC=>K (.exn l) MC) (HQ (J++[.list ((acc++[v]).map .str)]) m2 S):=fun {acc v m m2 S} hn p c2=>by
       rw[aP, <-lG (x:= .list (acc.map .str))]at c2 ⊢
       exact hP _ _ _ p true rfl _ (AA ..) _ rfl _ (TA (AA ..)) _ _ (mB (v:= .str v) (by rw[List.length_map];exact hn)) _ rfl _ c2
      exact goal (fun p=>hP _ _ _ p false rfl) hstep r [v] o hl rfl m hm (by simp only[List.length_append,List.length_cons,List.length_nil]at*;omega) fun c2=>hstep (acc:=[]) (Nat.zero_le _) p c2
end
section
variable{g:G}{w:Wd}{st st' st'':w.St}{h d:Nat}{J NA YF:List O}
theorem TX{l y:Nat}{xs ys:List V}{Q:V->List O->Prop}(hy:J[y]?=some (.list ys))(hne:y≠l)(hn:xs.length+ys.length<=100000)(k:Q .none (J.set l (.list (xs++ys)))):XB J l xs [101,120,116,101,110,100] [.loc y] Q:=by
 unfold XB;rw[if_neg (by decide),if_pos rfl];exact⟨ys,TA hy,hne,hn,k⟩
class inductive uC(g:G)(w:Wd)(h d:Nat):List V->w.St->List (List Nat)->pH w->Prop
 | nil {st:w.St} {acc:List (List Nat)}:uC g w h d [] st acc (.ok acc st)
 | word {r ps:List V} {t:List Nat} {st st':w.St} {acc:List (List Nat)} {o:pH w}:jE g w h d ps st (.ok (.str t) st')->acc.length<=50000->uC g w h d r st' (acc++[t]) o->uC g w h d (wL false ps::r) st acc o
 | wordE {b:Bool} {r ps:List V} {z:Rz} {st st':w.St} {acc:List (List Nat)}:jE g w h d ps st (.err z st')->uC g w h d (wL b ps::r) st acc (.err z st')
 | more {r ps:List V} {t:List Nat} {items:List (List Nat)} {st st':w.St} {acc:List (List Nat)} {o:pH w}:jE g w h d ps st (.ok (.str t) st')->t.length<=100000->SL t [] (.ok items)->acc.length+items.length<=50000->uC g w h d r st' (acc++items) o->uC g w h d (wL true ps::r) st acc o
 | moreE {r ps:List V} {t why sort:List Nat} {st st':w.St} {acc:List (List Nat)}:jE g w h d ps st (.ok (.str t) st')->t.length<=100000->SL t [] (.bad why sort)->uC g w h d (wL true ps::r) st acc (.err (VF why (BF sort)) st')
theorem EJ(P:sB g){ws:List V}{o:pH w}(ht:uC g w h (d+7) ws st [] o):WH g w h (d+8) ws st o:=by
 intro J hw
 refine P.f378.run rfl rfl fun K e f=>f fun Pw hP h0=>?_
 have key:∀(r:List V) (st1:w.St) (acc:List (List Nat)) (o':pH w),uC g w h (d+7) r st1 acc o'->o'=o->∀(k:Nat) (pre:List V) (MC:List O) (x3 x4:Option V),ws=pre++r->k=pre.length->gA w st J st1 MC->kB w st1 MC J.length (.list (acc.map .str))->
  Pw k [some (.loc h),some (.tup ws),some (.loc J.length),x3,x4] MC->False:=by
  intro r st1 acc o' ht
  have at0:∀{r pre:List V} {v:V},ws=pre++v::r->ws[pre.length]?=some v:=fun e=>by rw[e];exact AA ..
  induction ht with
  | @nil st1 acc=>
    rintro rfl k pre MC x3 x4 e1 rfl ha hm p
    exact e (hP _ _ _ p none (List.getElem?_eq_none (by rw[e1];simp))) .same ⟨rfl,ha,hm⟩
  | @word r ps t st1 tG acc o' hv hl ht ih=>
    rintro hq k pre MC x3 x4 e1 rfl ha hm p
    exact hP _ _ _ p _ (at0 e1) _ rfl _ (hv ha.ok) fun PB ha2 p=>
     have hm2:=hm.after ha2
     ih hq (pre.length+1) (pre++[wL false ps]) _ _ _ (by rw[List.append_assoc];exact e1) (by simp) ((ha.trans ha2).set _ (Nat.le_refl _) hm2.own) (hm2.set _) (by rw[<-UF];exact p _ rfl false rfl _ hm2.at' _ (TA hm2.at') _ _ (mB (by rw[List.length_map];exact kC hl)))
  | @wordE b r ps z st1 tG acc hv=>
    rintro rfl k pre MC x3 x4 e1 rfl ha hm p
    exact hP _ _ _ p _ (at0 e1) _ rfl _ (hv ha.ok) fun l PB q p=>e p .same ⟨l,rfl,ha.trans q.1,q.2.le ha.len⟩
  | @more r ps t items st1 tG acc o' hv hl hsl hn ht ih=>
    rintro hq k pre MC x3 x4 e1 rfl ha hm p
    exact hP _ _ _ p _ (at0 e1) _ rfl _ (hv ha.ok) fun PB ha2 p=>by
     have hm2:=hm.after ha2
     have ha3:gA w tG PB tG (PB++[O.list (items.map V.str)]):= .app ha2.ok _
     have hm3:=hm2.after ha3
     refine ih hq (pre.length+1) (pre++[wL true ps]) ((PB++[O.list (items.map V.str)]).set J.length (.list ((acc++items).map .str))) (some (wL true ps)) (some (.str t)) (by rw[List.append_assoc];exact e1) (by simp) (((ha.trans ha2).trans ha3).set _ (Nat.le_refl _) hm3.own) (hm3.set _) ?_
     rw[List.map_append]
     exact p _ rfl true rfl _ hm2.at' _ (PS P hl hsl) _ (TA hm3.at') _ _ (TX (AA ..) (Nat.ne_of_gt (Nat.lt_of_lt_of_le hm2.lt (Nat.le_refl _))) (by rw[List.length_map,List.length_map];omega))
  | @moreE r ps t why sort st1 tG acc hv hl hsl=>
    rintro rfl k pre MC x3 x4 e1 rfl ha hm p
    exact hP _ _ _ p _ (at0 e1) _ rfl _ (hv ha.ok) fun PB ha2 p=>by
     have hm2:=hm.after ha2
     exact e (p _ rfl true rfl _ hm2.at' _ (PS P hl hsl)) .same ⟨_,rfl,(ha.trans ha2).push _,(CD.err ha2.ok why (BF sort)).le (ha.trans ha2).len⟩
 exact key ws st [] o ht rfl 0 [] _ _ _ rfl rfl (.app hw _) (.new hw _ _) h0
end
section
variable{g:G}{d:Nat}{hd:Option Nat}{J:List O}
noncomputable def dK:List Int:=[16815,41409,19719,23247,44493,8595,16443,467,72619,14600,147694,66,157,6383640,59875575]
noncomputable def QC(ns:List Int)(p:Nat):Int:=(ns[p]?).getD (dK[p]?.getD 0)
theorem sH{α:Type}(xs:List α)(p:Nat):cK xs (p:Int)=xs[p]?:=by unfold cK;rw[if_pos (Int.natCast_nonneg _)];rfl
theorem jI{QV:V->List O->Prop}(h:QV (.int (g.ns.length:Int)) J):FG g hd (.builtin "len") [.script] J QV:=⟨g.ns.length,rfl,h⟩
theorem aC(P:sB g){p:Nat}(hp:p < 15):JA g (d+1) hd 652 [.script, .int (p:Int)] J (.at (.ok (.int (QC g.ns p))) J):=
 P.f652.run rfl rfl fun K e f=>by
   by_cases q:p < g.ns.length
   ·have h:g.ns[p]?=some g.ns[p]:=List.getElem?_eq_getElem q
    have hn:QC g.ns p=g.ns[p]:=by unfold QC;rw[h];rfl
    rw[hn]at e
    exact e (f _ _ jI true (decide_eq_true (Int.ofNat_lt.mpr q)) _ (by show(cK g.ns (p:Int)).map V.int=_;rw[sH,h];rfl)) (.ok rfl) ⟨rfl,rfl⟩
   ·have h:g.ns[p]?=none:=List.getElem?_eq_none (Nat.le_of_not_lt q)
    have hb:dK[p]?=some (dK[p]'hp):=List.getElem?_eq_getElem hp
    have hn:QC g.ns p=dK[p]'hp:=by unfold QC;rw[h,hb];rfl
    rw[hn]at e
    exact e (f _ _ jI false (decide_eq_false (fun k=>q (Int.ofNat_lt.mp k))) _ (gC (vs:=dK.map .int) (AA ..) (by rw[sH,List.getElem?_map,hb];rfl))) (.ok rfl) ⟨rfl,rfl⟩
end
section
variable{g:G}{d:Nat}{hd:Option Nat}{J:List O}
noncomputable def zB:List (List Nat):=[[36,97],[91,103,105,118,101,32,57,32,120,93],[123],[125],[34],[59],[92],[32],[10],[35],[120],[36],[91],[93],[36,123,122,122,125],[123,42,125],[40],[41],[92,120,52,49],[36,109,40,36,98,41]]
theorem yB{x n:Int}(h:0 < n)(hl:n.natAbs.log2 < 9000):uJ .FloorDiv (.int x) (.int n)=some (.int (x.fdiv n)):=if_pos ⟨h,hl⟩
theorem WB{x n:Int}(h:0 < n)(hl:n.natAbs.log2 < 9000):uJ .Mod (.int x) (.int n)=some (.int (x.fmod n)):=if_pos ⟨h,hl⟩
noncomputable def XQ:Nat->Int->List Nat->List Nat
 | 0,_,out=>out
 | k+1,rest,out=>XQ k (rest.fdiv 20) (out++(zB[(rest.fmod 20).toNat]?).getD [])
noncomputable def ZI(x:Int):List Nat:=XQ (x.fmod 6).toNat (x.fdiv 6) []
theorem OP(P:sB g){x:Int}:JA g (d+1) none 659 [.int x] J (.at (.ok (.str (ZI x))) J):=
 P.f659.run rfl rfl fun K e f=>by
   have hm0:0<=x.fmod 6:=Int.fmod_nonneg_of_pos x (by decide)
   have hm1:x.fmod 6 < 6:=Int.fmod_lt_of_pos x (by decide)
   refine f _ (yB (by decide) (by decide)) _ (WB (by decide) (by decide)) (by omega) (by omega) fun Pw hP p0=>?_
   have goal:∀(m k:Nat) (rest:Int) (out:List Nat) (x2:Option V),k+m=(x.fmod 6).toNat->out.length<=20*k->XQ m rest out=ZI x->Pw k [some (.int x),some (.loc J.length),x2,some (.str out),some (.int rest)] (J++[.list (zB.map .str)])->False:=by
    intro m
    induction m with
    | zero=>
      intro k rest out x2 hk hl hr p
      have hr:out=ZI x:=hr
      subst hr
      exact e (hP _ _ _ p false (decide_eq_false (by omega))) (.ok rfl) ⟨rfl,rfl⟩
    | succ m ih=>
      intro k rest out x2 hk hl hr p
      have r0:0<=rest.fmod 20:=Int.fmod_nonneg_of_pos rest (by decide)
      have r1:rest.fmod 20 < 20:=Int.fmod_lt_of_pos rest (by decide)
      have hi:(rest.fmod 20).toNat < zB.length:=by show _ < 20;omega
      have hg:zB[(rest.fmod 20).toNat]?=some zB[(rest.fmod 20).toNat]:=List.getElem?_eq_getElem hi
      have hx:cK (zB.map V.str) (rest.fmod 20)=some (.str zB[(rest.fmod 20).toNat]):=by
       have e:=sH (zB.map V.str) (rest.fmod 20).toNat
       rw[Int.toNat_of_nonneg r0]at e
       rw[e,List.getElem?_map,hg];rfl
      have hlen:zB[(rest.fmod 20).toNat].length<=20:=by
       have:∀w∈zB,w.length<=20:=by decide
       exact this _ (List.getElem_mem hi)
      refine ih (k+1) (rest.fdiv 20) (out++zB[(rest.fmod 20).toNat]) _ (by omega) (by rw[List.length_append];omega) (by rw[<-hr];show _=XQ m _ (out++_);rw[hg];rfl)
       (hP _ _ _ p true (decide_eq_true (by omega)) _ (WB (by decide) (by decide)) _ (gC (vs:=zB.map .str) (v:= .str zB[(rest.fmod 20).toNat]) (AA ..) hx) _ (jC (by omega)) _ (yB (by decide) (by decide)))
   exact goal (x.fmod 6).toNat 0 (x.fdiv 6) [] _ (Nat.zero_add _) (Nat.zero_le _) rfl p0
end
section
variable{g:G}{d:Nat}{hd:Option Nat}{J:List O}
theorem bd{l:Nat}{vs:List V}{Q:V->List O->Prop}(hl:J[l]?=some (.list vs))(hn:vs.length<=100000)(h:Q (.loc J.length) (J++[.list vs])):FG g hd (.type "list") [.loc l] J Q:=⟨vs,TA hl,hn,h⟩
theorem rX(P:sB g){hv:V}{wl sl:Nat}{ws xs:List V}{res:V}(hw:J[wl]?=some (.list ws))(hs:J[sl]?=some (.list xs))(h1:ws.length<=100000)(h2:xs.length<=100000):
 JA g (d+1) hd 718 [hv, .loc wl, .tup [.loc sl,res]] J (.at (.ok res) ((J++[O.list ws]).set sl (O.list (xs++[.loc J.length])))):=
 P.f718.run rfl rfl fun K e f=>by
   have hs2:(J++[O.list ws])[sl]?=some (.list xs):=by rw[List.getElem?_append_left (List.getElem?_eq_some_iff.mp hs).1];exact hs
   exact e (f _ rfl _ hs _ _ (bd hw h1) _ (TA hs2) _ _ (mB h2) _ rfl) .same ⟨rfl,rfl⟩
theorem cX(P:sB g){hv:V}{wl sl:Nat}{w0:List Nat}{ws:List (List Nat)}{xs:List V}{last:List Nat}(hw:J[wl]?=some (.list (.str w0::ws.map .str)))(hs:J[sl]?=some (.list xs))(h1:ws.length<=1000)(h2:xs.length<=100000)(hne:wl≠sl)(hl:cK (V.str w0::ws.map V.str) (-1)=some (.str last)):
 JA g (d+1) hd 725 [hv, .loc wl, .loc sl] J (.at (.ok (.str last)) ((J++[O.list (ws.map V.str)]).set sl (O.list (xs++[.tup (ws.map V.str)])))):=
 P.f725.run rfl rfl fun K e f=>by
   have hs2:(J++[O.list (ws.map V.str)])[sl]?=some (.list xs):=by rw[List.getElem?_append_left (List.getElem?_eq_some_iff.mp hs).1];exact hs
   have hw2:((J++[O.list (ws.map V.str)]).set sl (O.list (xs++[.tup (ws.map V.str)])))[wl]?=some (.list (.str w0::ws.map .str)):=by
    rw[List.getElem?_set_ne (Ne.symm hne),List.getElem?_append_left (List.getElem?_eq_some_iff.mp hw).1];exact hw
   have hsl:∀{Q:V->List O->Prop},Q (.loc J.length) (J++[.list (ws.map V.str)])->eD J (.loc wl) (.int 1) .none Q:=fun {Q} h=>
    ⟨_,1,ws.length+1,TA hw,by simp;omega,by show some (XD _ 1)=some 1;simp[XD],by simp[xe],by simpa[gF,List.take_of_length_le]using h⟩
   exact e (f _ hs _ _ hsl _ _ (lD (AA ..) (by rw[List.length_map];omega)) _ (TA hs2) _ _ (mB h2) _ (gC hw2 hl)) .same ⟨rfl,rfl⟩
end
section
variable{g:G}{d:Nat}{hd:Option Nat}{J:List O}
noncomputable def iB:List (List Nat×List Nat×List Nat):=[([123,120],[117,110,109,97,116,99,104,101,100,32,111,112,101,110,32,98,114,97,99,101,32,105,110,32,108,105,115,116],[66,82,65,67,69]),([36,97,32,34,121],[117,110,109,97,116,99,104,101,100,32,111,112,101,110,32,113,117,111,116,101,32,105,110,32,108,105,115,116],[81,85,79,84,69]),([123,36,97,125,36,98,32,122],[108,105,115,116,32,101,108,101,109,101,110,116,32,105,110,32,98,114,97,99,101,115,32,102,111,108,108,111,119,101,100,32,98,121,32,34,36,98,34,32,105,110,115,116,101,97,100,32,111,102,32,115,112,97,99,101],[74,85,78,75]),([34,91,103,105,118,101,32,57,32,120,34,93],[108,105,115,116,32,101,108,101,109,101,110,116,32,105,110,32,113,117,111,116,101,115,32,102,111,108,108,111,119,101,100,32,98,121,32,34,93,34,32,105,110,115,116,101,97,100,32,111,102,32,115,112,97,99,101],[74,85,78,75])]
theorem cY(P:sB g){k:Nat}(hk:k < 4):JA g (d+1) hd 671 [.int (k:Int)] J (.at (.ok (.tup [.str (iB[k]'hk).1, .str (iB[k]'hk).2.1, .str (iB[k]'hk).2.2])) J):=
 P.f671.run rfl rfl fun K e f=>by
   match k,hk with
   | 0,_=>exact e (f true rfl) .same ⟨rfl,rfl⟩
   | 1,_=>exact e (f false rfl true rfl) .same ⟨rfl,rfl⟩
   | 2,_=>exact e (f false rfl false rfl true rfl) .same ⟨rfl,rfl⟩
   | 3,_=>exact e (f false rfl false rfl false rfl) .same ⟨rfl,rfl⟩
end
section
variable{s r acc b t:List Nat}
theorem SL.blank{acc:List (List Nat)}{o:SO}(hb:∀c∈b,uA c=true)(h:SL s acc o):SL (b++s) acc o:=by
 have k:∀{b':List Nat},(∀c∈b',uA c=true)->∀c∈b++b',uA c=true:=fun h c m=>(List.mem_append.mp m).elim (hb c) (h c)
 induction h with
 | done h1=>exact .done (k h1)
 | bad h1 h2=>rw[<-List.append_assoc];exact .bad (k h1) h2
 | more h1 h2 h3 h4 _=>rw[<-List.append_assoc];exact .more (k h1) h2 (by rw[List.append_assoc,List.length_append];exact qC h3) h4
theorem BC.nil:BC []:=fun u0 u0 q=>nomatch q
theorem BC.app(h0:b≠[])(hb:∀c∈b,uA c=true):BC (b++s):=fun c r q=>by
 induction b using List.casesOn with
 | nil=>exact absurd rfl h0
 | cons x b=>cases q;exact hb _ (.head _)
theorem EW.fin(h:BC r):EW r acc (.ok acc r):=by
 induction r using List.casesOn with
 | nil=>exact .eof
 | cons c r=>exact .blank (h c r rfl)
theorem EW.run{o:LO}:∀{w acc:List Nat},(∀c∈w,c≠92/\uA c=false)->EW r (acc++w) o->EW (w++r) acc o
 | [],acc,_,h=>by rw[List.append_nil]at h;exact h
 | c::w,acc,hw,h=> .chr (hw c (.head _)).1 (hw c (.head _)).2 (EW.run (fun x m=>hw x (.tail _ m)) (by rw[List.append_assoc];exact h))
theorem EB.run{k:Nat}{o:LO}:∀{w acc:List Nat},(∀c∈w,c≠92/\c≠123/\c≠125)->EB k r (acc++w) o->EB k (w++r) acc o
 | [],acc,_,h=>by rw[List.append_nil]at h;exact h
 | c::w,acc,hw,h=> .chr (hw c (.head _)).1 (hw c (.head _)).2.1 (hw c (.head _)).2.2 (EB.run (fun x m=>hw x (.tail _ m)) (by rw[List.append_assoc];exact h))
theorem EQ.run{o:LO}:∀{w acc:List Nat},(∀c∈w,c≠92/\c≠34)->EQ r (acc++w) o->EQ (w++r) acc o
 | [],acc,_,h=>by rw[List.append_nil]at h;exact h
 | c::w,acc,hw,h=> .chr (hw c (.head _)).1 (hw c (.head _)).2 (EQ.run (fun x m=>hw x (.tail _ m)) (by rw[List.append_assoc];exact h))
noncomputable def gY(w v:List Nat):Prop:=w≠[]/\∀r,BC r->FT (w++r) (some (.ok v r))
theorem gY.bare{c:Nat}{w:List Nat}(h:c≠123/\c≠34)(hw:∀x∈c::w,x≠92/\uA x=false):gY (c::w) (c::w):=
 ⟨List.cons_ne_nil _ _,fun r hr=> .bare (hw c (.head _)).2 h.1 h.2 (EW.run (w:=c::w) (acc:=[]) hw (.fin hr))⟩
theorem gY.brace{w:List Nat}(hw:∀c∈w,c≠92/\c≠123/\c≠125):gY (123::(w++[125])) w:=
 ⟨List.cons_ne_nil _ _,fun r hr=>by rw[List.cons_append,List.append_assoc];exact .brace (EB.run (acc:=[]) hw (.done hr))⟩
theorem gY.quote{w:List Nat}(hw:∀c∈w,c≠92/\c≠34):gY (34::(w++[34])) w:=
 ⟨List.cons_ne_nil _ _,fun r hr=>by rw[List.cons_append,List.append_assoc];exact .quote (EQ.run (acc:=[]) hw (.done hr))⟩
noncomputable def ZA:List (List Nat×List Nat):=[([120],[120]),([123,36,97,125],[36,97]),([123,91,103,105,118,101,32,57,32,120,93,125],[91,103,105,118,101,32,57,32,120,93]),([92,36,97],[36,97]),([123,125],[]),([123,59,32,35,125],[59,32,35]),([34,97,32,123,34],[97,32,123]),([92,123],[123]),([36,99],[36,99]),([123,123,42,125,36,108,125],[123,42,125,36,108]),([123,34,125],[34]),([92,93,92,92],[93,92])]
theorem YJ:∀p∈ZA,gY p.1 p.2:=by
 simp only[ZA,List.forall_mem_cons,List.not_mem_nil,false_implies,implies_true,and_true]
 exact⟨.bare (by decide) (by decide), .brace (w:=[36,97]) (by decide), .brace (w:=[91,103,105,118,101,32,57,32,120,93]) (by decide),
  ⟨by decide,fun r hr=> .bare rfl (by decide) (by decide) (.esc (.plain rfl) (Nat.le_succ _) (Nat.le_refl _) (EW.run (w:=[97]) (by decide) (.fin hr)))⟩,
  .brace (w:=[]) (by decide), .brace (w:=[59,32,35]) (by decide), .quote (w:=[97,32,123]) (by decide),
  ⟨by decide,fun r hr=> .bare rfl (by decide) (by decide) (.esc (.plain rfl) (Nat.le_succ _) (Nat.le_refl _) (.fin hr))⟩,
  .bare (by decide) (by decide),
  ⟨by decide,fun r hr=> .brace (.opn (EB.run (w:=[42]) (by decide) (.cls Nat.one_pos (EB.run (w:=[36,108]) (by decide) (.done hr)))))⟩,
  .brace (w:=[34]) (by decide),
  ⟨by decide,fun r hr=> .bare rfl (by decide) (by decide) (.esc (.plain rfl) (Nat.le_succ _) (Nat.le_refl _) (.esc (.plain rfl) (Nat.le_succ _) (Nat.le_refl _) (.fin hr)))⟩⟩
noncomputable def BK(l:List Nat)(is:List (List Nat)):Prop:=∀r acc o,BC r->SL r (acc++is) o->SL (l++r) acc o
theorem BK.nil:BK [] []:=fun r acc o _ h=>by rw[List.append_nil]at h;exact h
theorem BK.elt{w v:List Nat}(h:gY w v):BK w [v]:=fun r acc o hr k=>
 .more (b:=[]) (t:=w++r) (fun _ m=>nomatch m) (h.2 r hr) (by have:=List.length_pos_iff.mpr h.1;rw[List.nil_append,List.length_append];exact qC this) k
theorem BK.app{l1 l2:List Nat}{i1 i2:List (List Nat)}(h1:BK l1 i1)(h2:BK l2 i2)(b0:b≠[])(hb:∀c∈b,uA c=true):BK (l1++b++l2) (i1++i2):=fun r acc o hr k=>by
 rw[List.append_assoc,List.append_assoc]
 exact h1 _ acc o (.app b0 hb) (.blank hb (h2 r _ o hr (by rw[List.append_assoc];exact k)))
theorem BK.join(b0:b≠[])(hb:∀c∈b,uA c=true):∀ps:List (List Nat×List Nat),(∀p∈ps,p∈ZA)->BK (dA b (ps.map (·.1))) (ps.map (·.2))
 | [],_=> .nil
 | [p],h=> .elt (YJ p (h p (.head _)))
 | p::q::ps,h=>(BK.elt (YJ p (h p (.head _)))).app (BK.join b0 hb (q::ps) fun x m=>h x (.tail _ m)) b0 hb
theorem BK.all{l:List Nat}{is:List (List Nat)}(h:BK l is):SL l [] (.ok is):=by
 have:=h [] [] (.ok is) .nil (.done fun _ m=>nomatch m)
 rw[List.append_nil]at this
 exact this
theorem BK.bad{l w why sort:List Nat}{is:List (List Nat)}(h:BK l is)(b0:b≠[])(hb:∀c∈b,uA c=true)(k:∀acc,SL w acc (.bad why sort)):SL (l++b++w) [] (.bad why sort):=by
 rw[List.append_assoc]
 exact h _ _ _ (.app b0 hb) (.blank hb (k _))
theorem jW:∀p∈iB,∀acc,SL p.1 acc (.bad p.2.1 p.2.2):=by
 have k:∀{t why sort:List Nat} {acc:List (List Nat)},FT t (some (.bad why sort))->SL t acc (.bad why sort):=fun h=> .bad (b:=[]) (fun _ m=>nomatch m) h
 simp only[iB,List.forall_mem_cons,List.not_mem_nil,false_implies,implies_true,and_true]
 exact⟨fun acc=>k (.brace (EB.run (w:=[120]) (by decide) .eof)),
  fun acc=>(BK.elt (.bare (c:=36) (w:=[97]) (by decide) (by decide))) [32,34,121] acc _ (.app (b:=[32]) (by decide) (by decide)) (.blank (b:=[32]) (by decide) (k (.quote (EQ.run (w:=[121]) (by decide) .eof)))),
  fun acc=>k (.brace (EB.run (w:=[36,97]) (by decide) (.junk (w:=[36,98]) (r:=[32,122]) (by decide) (by decide) (by decide) (.inr (.app (b:=[32]) (by decide) (by decide)))))),
  fun acc=>k (.quote (EQ.run (w:=[91,103,105,118,101,32,57,32,120]) (by decide) (.junk (w:=[93]) (r:=[]) (by decide) (by decide) (by decide) (.inr .nil))))⟩
end
section
variable{g:G}{d:Nat}{hd:Option Nat}{J NA YF:List O}
noncomputable abbrev Tg(ws:List (List Nat)):V:= .tup (ws.map .str)
theorem EA{l:Nat}{x:O}(h:J[l]?=some x)(j:List O):(J++j)[l]?=some x:=(List.getElem?_append_left (List.getElem?_eq_some_iff.mp h).1).trans h
theorem dU{x y:Nat}{xs ys:List V}{Q:V->List O->Prop}(h1:J[x]?=some (.list xs))(h2:J[y]?=some (.list ys))(hn:xs.length+ys.length<=100000)(h:Q (.loc J.length) (J++[.list (xs++ys)])):GX J .Add (.loc x) (.loc y) Q:=
 ⟨rfl,xs,ys,TA h1,TA h2,hn,h⟩
theorem RV{l:Nat}{s:List Nat}{xs:List V}{ss:List (List Nat)}{Q:V->List O->Prop}(hl:J[l]?=some (.list xs))(hx:iC xs=some ss)(hn:(ss.map List.length).sum+ss.length*s.length<=10000000)(h:Q (.str (dA s ss)) J):sA J s [106,111,105,110] [.loc l] Q:=kW hl hx hn h
noncomputable def Gr(J NA:List O):Prop:=∃j,NA=J++j
theorem Gr.refl:Gr J J:=⟨[],(List.append_nil _).symm⟩
theorem Gr.app(h:Gr J NA)(j:List O):Gr J (NA++j):=h.elim fun i e=>⟨i++j,by rw[e,List.append_assoc]⟩
theorem Gr.trans(h:Gr J NA)(k:Gr NA YF):Gr J YF:=k.elim fun j e=>e ▸ h.app j
theorem Gr.get{l:Nat}{x:O}(h:Gr J NA)(k:J[l]?=some x):NA[l]?=some x:=h.elim fun j e=>e ▸ EA k j
theorem IF{α:Type}{inv I:List O->Prop}{step:V->List O->(V->List O->Prop)->Prop}{f k:α->V}{K:List V->List O->Prop}(hi:∀J,I J->inv J):
 ∀{as:List α},(∀a∈as,∀(J:List O) (Q:V->List O->Prop),I J->step (f a) J Q->(∀NA,I NA->Q (k a) NA->False)->False)->∀{acc:List V} {J:List O},I J->YM inv step (as.map f) J acc K->(∀NA,I NA->K (acc++as.map k) NA->False)->False
 | [],_,acc,J,h,p,c=>c J h (by rw[List.map_nil,List.append_nil];exact p (hi J h))
 | a::as,hs,acc,J,h,p,c=>hs a (.head _) J _ h (p (hi J h)) fun NA h' p'=>IF hi (fun a m=>hs a (.tail _ m)) h' p' fun PB h2 p2=>c PB h2 (by rw[List.map_cons,List.append_cons];exact p2)
noncomputable def AD{α:Type}(L:List α)(e:α)(n x:Int):α:=(L[(x.fmod n).toNat]?).getD e
theorem qG{α:Type}{L:List α}{e:α}{n:Int}(x:Int)(h0:0 < n)(hl:n<=(L.length:Int)):L[(x.fmod n).toNat]?=some (AD L e n x):=by
 have a:=Int.fmod_nonneg_of_pos x h0
 have b:=Int.fmod_lt_of_pos x h0
 have:(x.fmod n).toNat < L.length:=by omega
 unfold AD
 rw[List.getElem?_eq_getElem this];rfl
theorem bC{α:Type}{L:List α}{e:α}{n:Int}(x:Int)(h0:0 < n)(hl:n<=(L.length:Int)):AD L e n x∈L:=List.mem_of_getElem? (qG x h0 hl)
theorem JE{α:Type}{L:List α}{e:α}{n:Int}(f:α->V)(x:Int)(h0:0 < n)(hl:n<=(L.length:Int)):cK (L.map f) (x.fmod n)=some (f (AD L e n x)):=by
 have a:=Int.toNat_of_nonneg (Int.fmod_nonneg_of_pos x h0)
 rw[<-a,sH,List.getElem?_map,qG x h0 hl];rfl
noncomputable def ZM:Nat->Int->List (List Nat×List Nat)
 | 0,_=>[]
 | m+1,x=>AD ZA ([],[]) 12 x::ZM m (x.fdiv 12)
theorem rI:∀(m:Nat) (x:Int),∀p∈ZM m x,p∈ZA
 | 0,_,p,h=>nomatch h
 | m+1,x,p,h=>by
   rcases List.mem_cons.mp h with q | q
   ·rw[q];exact bC x (by decide) (by decide)
   ·exact rI m _ p q
theorem aM:∀(m:Nat) (x:Int),(ZM m x).length=m
 | 0,_=>rfl
 | m+1,x=>congrArg (· +1) (aM m _)
noncomputable def nD:List (List Nat):=[[32],[10],[32,9]]
noncomputable def jN(x:Int):List Nat:=AD nD [] 3 (x.fdiv 6)
noncomputable def PC(x:Int):List (List Nat×List Nat):=ZM (x.fmod 6).toNat (x.fdiv 18)
noncomputable def tR(x:Int):List Nat:=dA (jN x) ((PC x).map (·.1))
noncomputable def OH(x:Int):List (List Nat):=(PC x).map (·.2)
theorem ZJ:∀b∈nD,b≠[]/\(∀c∈b,uA c=true)/\b.length<=2:=by decide
theorem YV(x:Int):BK (tR x) (OH x):=
 have h:=ZJ _ (bC (L:=nD) (e:=[]) (n:=3) (x.fdiv 6) (by decide) (by decide))
 .join h.1 h.2.1 _ (rI _ _)
theorem cQ{k:Nat}:∀{ss:List (List Nat)},(∀s∈ss,s.length<=k)->(ss.map List.length).sum<=ss.length*k
 | [],_=>Nat.zero_le _
 | s::ss,h=>by
   have a:=h s (.head _)
   have b:=cQ fun x m=>h x (.tail _ m)
   simp only[List.map_cons,List.sum_cons,List.length_cons,Nat.add_mul,Nat.one_mul]
   exact rC a b
theorem DI{x n:Int}(h0:0 < n):(x.fmod n).toNat < n.toNat:=by
 have a:=Int.fmod_nonneg_of_pos x h0
 have b:=Int.fmod_lt_of_pos x h0
 omega
theorem dH(x:Int):(PC x).length<=5:=by
 have:(x.fmod 6).toNat < 6:=DI (by decide)
 unfold PC
 rw[aM];exact Nat.le_of_lt_succ this
theorem yO(x:Int):(((PC x).map (·.1)).map List.length).sum+((PC x).map (·.1)).length*(jN x).length<=100:=by
 have h1:=cQ (ss:=(PC x).map (·.1)) (k:=12) (fun s m=>by
  obtain⟨p,hp,rfl⟩:=List.mem_map.mp m
  have k:∀p∈ZA,p.1.length<=12:=by decide
  exact k p (rI _ _ p hp))
 have h2:=(ZJ _ (bC (L:=nD) (e:=[]) (n:=3) (x.fdiv 6) (by decide) (by decide))).2.2
 have h3:=dH x
 rw[List.length_map]at h1 ⊢
 have h4:(PC x).length*(jN x).length<=5*2:=Nat.mul_le_mul h3 h2
 omega
theorem XT(x:Int):(tR x).length<=100:=Nat.le_trans (PE _ _) (yO x)
noncomputable def aB(p:List Nat×List Nat):V:= .tup [.str p.1, .str p.2]
inductive yb(J:List O)(x:Int):V->List O->Prop
 | mk {l:Nat} {NA:List O} (h:Gr J NA) (k:NA[l]?=some (.list ((OH x).map .str))):yb J x (.tup [.str (tR x), .loc l]) NA
theorem XV(P:sB g){x:Int}:JA g (d+1) none 664 [.int x] J (.val (yb J x)):=
 P.f664.run rfl rfl fun K e f=>by
   have hm0:0<=x.fmod 6:=Int.fmod_nonneg_of_pos x (by decide)
   have hm1:x.fmod 6 < 6:=Int.fmod_lt_of_pos x (by decide)
   have f:=f _ _ (dU (xs:=(ZA.take 6).map aB) (ys:=(ZA.drop 6).map aB) (EA (AA ..) _) (AA ..) (by decide)) _ (yB (by decide) (by decide)) _ (WB (by decide) (by decide)) (by omega) (by omega)
   have hpl:(J++[O.list ((ZA.take 6).map aB)]++[O.list ((ZA.drop 6).map aB)]++[O.list (ZA.map aB)])[(J++[O.list ((ZA.take 6).map aB)]++[O.list ((ZA.drop 6).map aB)]).length]?=some (.list (ZA.map aB)):=AA ..
   have hg:Gr J (J++[O.list ((ZA.take 6).map aB)]++[O.list ((ZA.drop 6).map aB)]++[O.list (ZA.map aB)]):=((Gr.refl.app _).app _).app _
   change LG _ [some (.int x),some (.loc (J++[O.list ((ZA.take 6).map aB)]++[O.list ((ZA.drop 6).map aB)]).length),none,some (.loc (J++[O.list ((ZA.take 6).map aB)]++[O.list ((ZA.drop 6).map aB)]++[O.list (ZA.map aB)]).length),some (.int (x.fdiv 18)),none] ((J++[O.list ((ZA.take 6).map aB)]++[O.list ((ZA.drop 6).map aB)]++[O.list (ZA.map aB)])++[O.list []])at f
   revert f
   generalize (J++[O.list ((ZA.take 6).map aB)]++[O.list ((ZA.drop 6).map aB)]).length=pl at hpl ⊢
   generalize J++[O.list ((ZA.take 6).map aB)]++[O.list ((ZA.drop 6).map aB)]++[O.list (ZA.map aB)]=M at hpl hg ⊢
   refine fun f=>f fun Pw hP p0=>?_
   have goal:∀(m k:Nat) (rest:Int) (dr:List (List Nat×List Nat)) (x2 x5:Option V),k+m=(x.fmod 6).toNat->dr.length=k->dr++ZM m rest=PC x->Pw k [some (.int x),some (.loc pl),x2,some (.loc M.length),some (.int rest),x5] (M++[.list (dr.map aB)])->False:=by
    intro m
    induction m with
    | zero=>
      intro k rest dr x2 x5 hk hl hr p
      rw[show ZM 0 rest=[]from rfl,List.append_nil]at hr
      subst hr
      have p:=hP _ _ _ p false (decide_eq_false (by omega)) _ (yB (by decide) (by decide)) _ (WB (by decide) (by decide)) _ (gC (AA ..) (JE (L:=nD) (e:=[]) (n:=3) V.str (x.fdiv 6) (by decide) (by decide)))
      have KT:(M++[O.list ((PC x).map aB)]++[O.list (nD.map V.str)])[M.length]?=some (.list ((PC x).map aB)):=EA (AA ..) _
      have hn:((PC x).map aB).length<=10000:=by have:=dH x;rw[List.length_map];exact kC this
      refine IF (I:=fun PB=>PB=M++[O.list ((PC x).map aB)]++[O.list (nD.map V.str)]) (k:=fun p=> .str p.1) (fun PB e=>by rw[e];exact TA KT) (fun a _ PB Q e p k=>k PB e (p _ rfl)) rfl (p _ KT hn) fun PB e2 p=>?_
      subst e2
      have p:=p _ _ (RV (ss:=(PC x).map (·.1)) (AA ..) ((congrArg iC (List.map_map (l:=PC x) (f:=fun p=>p.1) (g:=V.str)).symm).trans (wC _)) (kC (yO x)))
      have hd3:=EA KT [O.list ([]++(PC x).map fun p=>V.str p.1)]
      refine IF (I:=fun PB=>PB=M++[O.list ((PC x).map aB)]++[O.list (nD.map V.str)]++[O.list ([]++(PC x).map fun p=>V.str p.1)]) (k:=fun p=> .str p.2) (fun PB e=>by rw[e];exact TA hd3) (fun a _ PB Q e p k=>k PB e (p _ rfl)) rfl (p _ hd3 hn) fun PB e2 p=>?_
      subst e2
      exact e p .same ⟨_,rfl, .mk ((((hg.app _).app _).app _).app _) (by rw[AA,List.nil_append,OH,List.map_map];rfl)⟩
    | succ m ih=>
      intro k rest dr x2 x5 hk hl hr p
      refine ih (k+1) (rest.fdiv 12) (dr++[AD ZA ([],[]) 12 rest]) (some (.int (k:Int))) x5 (by omega) (by rw[List.length_append,hl];rfl) (by rw[List.append_assoc];exact hr) ?_
      have q:=hP _ _ _ p true (decide_eq_true (by omega)) _ (AA ..) _ (WB (by decide) (by decide)) _ (gC (EA hpl _) (JE (L:=ZA) (e:=([],[])) (n:=12) aB rest (by decide) (by decide))) _ (TA (AA ..)) _ _ (mB (by rw[List.length_map];omega)) _ (yB (by decide) (by decide))
      rw[List.map_append, <-lG (x:= .list (dr.map aB))]
      exact q
   exact goal (x.fmod 6).toNat 0 (x.fdiv 18) [] none none (Nat.zero_add _) rfl rfl p0
end
section
variable{g:G}{d:Nat}{hd:Option Nat}{J NA YF:List O}
structure Bk where
 a:List Nat
 b:List Nat
 c:List Nat
 k:List Nat
 m:List Nat
 x:List Nat
 l:List Nat
 w:List Nat
noncomputable def Ta(B:Bk):List Nat:=[109,40]++B.b++[41]
noncomputable def Ua(B:Bk):List Nat:=[109,40,107]++B.c++[45]++B.a++[41]
noncomputable def gD(B:Bk):List (List Nat×List Nat):=[([97],B.a),([98],B.b),([99],B.c),([109,40,107,41],B.k),([110],[110,111,116,101]),([116],[116,101]),([112],[110,111,116,101,32,123,36,97,125,32,120]),(Ta B,B.m),(Ua B,B.x),([108],B.l),([119],B.w)]
noncomputable def gB(p:List Nat×List Nat):List Nat×V:=(p.1, .str p.2)
structure ve(s:List Nat):Prop where
 len:s.length<=100
 k:107∉s
 m:45∉s
structure yE(B:Bk):Prop where
 a:ve B.a
 b:ve B.b
 c:ve B.c
 k:B.k.length<=100
 m:B.m.length<=100
 x:B.x.length<=100
 l:B.l.length<=100
 w:B.w.length<=100
theorem HS:∀(m:Nat) (x:Int) (out:List Nat),107∉out->45∉out->107∉XQ m x out/\45∉XQ m x out/\(XQ m x out).length<=out.length+20*m
 | 0,_,out,h1,h2=>⟨h1,h2,Nat.le_refl _⟩
 | m+1,x,out,h1,h2=>by
   have q:∀w∈zB,107∉w/\45∉w/\w.length<=20:=by decide
   obtain⟨q1,q2,q3⟩:=q _ (bC (L:=zB) (e:=[]) (n:=20) x (by decide) (by decide))
   have:=HS m (x.fdiv 20) (out++AD zB [] 20 x) (fun h=>(List.mem_append.mp h).elim h1 q1) fun h=>(List.mem_append.mp h).elim h2 q2
   refine⟨this.1,this.2.1,Nat.le_trans this.2.2 ?_⟩
   rw[List.length_append];omega
theorem rG(x:Int):ve (ZI x):=by
 have:=HS (x.fmod 6).toNat (x.fdiv 6) [] (by decide) (by decide)
 have h:(x.fmod 6).toNat < 6:=DI (by decide)
 exact⟨Nat.le_trans this.2.2 (by simp only[List.length_nil];omega),this.1,this.2.1⟩
noncomputable def RD(ns:List Int):List Nat×List Nat×List Nat:=AD iB ([],[],[]) 4 ((QC ns 7).fdiv 8)
noncomputable def FD(ns:List Int):Bk:=⟨ZI (QC ns 0),ZI (QC ns 1),ZI (QC ns 2),ZI (QC ns 3),ZI (QC ns 4),ZI (QC ns 5),tR (QC ns 6),(RD ns).1⟩
theorem jG(ns:List Int):RD ns∈iB:=bC _ (by decide) (by decide)
theorem GR(ns:List Int):yE (FD ns):=
 ⟨rG _,rG _,rG _,(rG _).len,(rG _).len,(rG _).len,XT _,(by decide:∀p∈iB,p.1.length<=100) _ (jG ns)⟩
noncomputable def TT(k:List Nat):Nat:=if k.length=1 then k.sum else if 45∈k then 1 else if 107∈k then 2 else 3
theorem wH{B:Bk}(h:yE B):((gD B).map (·.1)).Nodup:=by
 have k1:TT (Ta B)=3:=by
  have q:∀c,c∉B.b->c∉[109,40]->c∉[41]->c∉Ta B:=fun c h1 h2 h3 m=>(List.mem_append.mp m).elim (fun m=>(List.mem_append.mp m).elim h2 h1) h3
  exact((if_neg (by simp[Ta])).trans (if_neg (q 45 h.b.m (by decide) (by decide)))).trans (if_neg (q 107 h.b.k (by decide) (by decide)))
 have k2:TT (Ua B)=1:=(if_neg (by simp[Ua])).trans (if_pos (by simp[Ua]))
 refine List.Pairwise.of_map (S:=(· ≠ ·)) TT (fun a b h e=>h (congrArg TT e)) ?_
 show List.Pairwise (· ≠ ·) [97,98,99,2,110,116,112,TT (Ta B),TT (Ua B),108,119]
 rw[k1,k2]
 decide
theorem je{l n:Nat}{vs:List V}(h:J[l]?=some (.list vs))(hn:vs.length=n):AG J n (.loc l)=some vs:=by show(rA J l).bind _=_;rw[TA h];exact if_pos hn
theorem ka{α:Type}{f:α->List Nat×V}{L:List α}{a:α}(h:(f a).1∉(L.map fun x=>(f x).1)):BB (f a).1 (f a).2 (L.map f)=(L++[a]).map f:=by
 rw[WI (Classical.byContradiction fun q=>h (by have:=UI q;rwa [List.map_map]at this)),List.map_append];rfl
theorem Gr.set(h:Gr J NA){l:Nat}(x:O)(hl:J.length<=l):Gr J (NA.set l x):=h.elim fun j e=>⟨j.set (l - J.length) x,by rw[e,List.set_append_right _ _ hl]⟩
theorem Gr.len(h:Gr J NA):J.length<=NA.length:=h.elim fun j e=>by rw[e,List.length_append];exact Nat.le_add_right _ _
theorem aS(P:sB g){y:Int}:JA g (d+1) hd 671 [.int (y.fmod 4)] J (.at (.ok (.tup [.str (AD iB ([],[],[]) 4 y).1, .str (AD iB ([],[],[]) 4 y).2.1, .str (AD iB ([],[],[]) 4 y).2.2])) J):=by
 have hk:(y.fmod 4).toNat < 4:=DI (by decide)
 have h:=cY (d:=d) (hd:=hd) (J:=J) P hk
 have q:iB[(y.fmod 4).toNat]'hk=AD iB ([],[],[]) 4 y:=Option.some.inj ((List.getElem?_eq_getElem (show(y.fmod 4).toNat < iB.length from hk)).symm.trans (qG y (by decide) (by decide)))
 rw[Int.toNat_of_nonneg (Int.fmod_nonneg_of_pos y (by decide)),q]at h
 exact h
inductive fY(B:Bk)(J:List O):V->List O->Prop
 | mk {l ep:Nat} {NA:List O} (h:Gr J NA) (k:NA[l]?=some (.dict ((gD B).map gB) ep)):fY B J (.loc l) NA
theorem eZ(P:sB g):JA g (d+2) none 676 [.script] J (.val (fY (FD g.ns) J)):=
 P.f676.run rfl rfl fun K e f=>by
   have ok:=GR g.ns
   have nd:=wH ok
   have f:=f (by decide) (by decide)
   refine IF (I:=fun PB=>PB=J) (as:=List.range 3) (k:=fun i:Nat=> .str (ZI (QC g.ns i))) (fun _ _=>trivial) (fun a m PB Q e p k=>k PB e (p _ (aC (p:=a) P (Nat.lt_trans (List.mem_range.mp m) (by decide))) _ (OP P))) rfl f fun PB e2 f2=>?_
   clear f
   subst e2
   have f:=f2 _ (je (n:=3) (vs:=[.str (FD g.ns).a, .str (FD g.ns).b, .str (FD g.ns).c]) (AA ..) rfl) _ (aC (p:=3) P (by decide)) _ (OP P) rfl (Nat.le_of_ble_eq_true rfl)
   clear f2
   have cut:∀{k:Nat} {a:List Nat×List Nat} {r:List (List Nat×List Nat)} {M NA:List O} {l ep:Nat},gD (FD g.ns)=(gD (FD g.ns)).take k++a::r->Gr PB M->PB.length<=l->l < M.length->NA=M.set l (.dict (BB a.1 (.str a.2) (((gD (FD g.ns)).take k).map gB)) ep)->Gr PB NA/\l < NA.length/\NA[l]?=some (.dict (((gD (FD g.ns)).take k++[a]).map gB) ep):=fun {k a r M NA l ep} q h1 h2 h3 h4=>by
    rw[q,List.map_append]at nd
    rw[h4,show BB a.1 (.str a.2) (((gD (FD g.ns)).take k).map gB)=_ from ka (f:=gB) (a:=a) fun m=>(List.nodup_append.mp nd).2.2 _ m a.1 (by simp) rfl]
    exact⟨h1.set _ h2,by rw[List.length_set];exact h3,List.getElem?_set_self h3⟩
   have len:∀k,(((gD (FD g.ns)).take k).map gB).length<=100000:=fun k=>by rw[List.length_map,List.length_take];exact Nat.le_trans (Nat.min_le_right _ _) (Nat.le_of_ble_eq_true rfl)
   have a1:=ok.a.len
   have a2:=ok.b.len
   have a3:=ok.c.len
   refine f fun ep1 f=>?_
   have g1:Gr PB (PB++[O.list ([]++List.map (fun i=>V.str (ZI (QC g.ns i))) (List.range 3))]++[O.dict (((gD (FD g.ns)).take 7).map gB) ep1]):=(Gr.refl.app _).app _
   have l1:PB.length<=(PB++[O.list ([]++List.map (fun i=>V.str (ZI (QC g.ns i))) (List.range 3))]).length:=(Gr.refl.app _).len
   refine f _ (aC (p:=4) P (by decide)) _ (OP P) _ (jC (a:=[109,40]) (b:=(FD g.ns).b) (by simp only[List.length_cons,List.length_nil];omega)) _ (jC (by simp only[List.length_append,List.length_cons,List.length_nil];omega)) _ (UP (kvs:=((gD (FD g.ns)).take 7).map gB) (AA ..) (len 7)) fun xL ⟨ep2,q⟩ f=>?_
   obtain⟨g2,l2,h2⟩:=cut (k:=7) (a:=(Ta (FD g.ns),(FD g.ns).m)) rfl g1 l1 (by simp) q
   refine f _ (aC (p:=5) P (by decide)) _ (OP P) _ (jC (a:=[109,40,107]) (b:=(FD g.ns).c) (by simp only[List.length_cons,List.length_nil];omega)) _ (jC (by simp only[List.length_append,List.length_cons,List.length_nil];omega)) _ (jC (b:=(FD g.ns).a) (by simp only[List.length_append,List.length_cons,List.length_nil];omega)) _ (jC (by simp only[List.length_append,List.length_cons,List.length_nil];omega)) _ (UP h2 (len 8)) fun re ⟨ep3,q⟩ f=>?_
   obtain⟨g3,l3,h3⟩:=cut (k:=8) (a:=(Ua (FD g.ns),(FD g.ns).x)) rfl g2 l1 l2 q
   refine f _ (aC (p:=6) P (by decide)) _ (XV P) fun v eg q f=>?_
   cases q with | mk g4 _=>?_
   refine f _ rfl _ (UP (g4.get h3) (len 9)) fun fg ⟨ep4,q⟩ f=>?_
   obtain⟨g5,l5,h5⟩:=cut (k:=9) (a:=([108],(FD g.ns).l)) rfl (g3.trans g4) l1 (Nat.lt_of_lt_of_le l3 g4.len) q
   refine f _ (aC (p:=7) P (by decide)) _ (yB (by decide) (by decide)) _ (WB (by decide) (by decide)) _ (aS P) _ rfl _ (UP h5 (len 10)) fun ig ⟨ep5,q⟩ f=>?_
   obtain⟨g6,l6,h6⟩:=cut (k:=10) (a:=([119],(FD g.ns).w)) rfl g5 l1 l5 q
   exact e f .same ⟨_,rfl, .mk g6 h6⟩
end
section
variable{g:G}{d:Nat}{hd:Option Nat}{J NA YF:List O}{B:Bk}
structure Ck where
 w:List Nat
 e:Option V
 v:List Nat
 c:Option (List Nat×List Nat)
noncomputable def fb:List Ck:=[⟨[92,36],none,[36],none⟩,
 ⟨[92,91],none,[91],none⟩,
 ⟨[92,120,50,52],none,[36],none⟩,
 ⟨[92,92],none,[92],none⟩,
 ⟨[92,110],none,[10],none⟩,
 ⟨[92,32],none,[32],none⟩,
 ⟨[46,125,120,123],none,[46,125,120,123],none⟩,
 ⟨[61,93,35],none,[61,93,35],none⟩,
 ⟨[45,123,42,125],none,[45,123,42,125],none⟩]
noncomputable def ye(B:Bk):List Ck:=[⟨[45],none,[45],none⟩,
 ⟨[36,97],some (vr [97] .none),B.a,none⟩,
 ⟨[36,123,99,125],some (vr [99] .none),B.c,none⟩,
 ⟨[36,109,40,36,98,41],some (vr [109] (.tup [vr [98] .none])),B.m,none⟩,
 ⟨[36,123,109,40,107,41,125],some (vr [109,40,107,41] .none),B.k,none⟩,
 ⟨[36,109,40,107,36,99,45,91,103,105,118,101,32,49,32,36,97,93,41],some (vr [109] (.tup [tx [107],vr [99] .none,tx [45],cm [103,105,118,101,32,49,32,36,97]])),B.x,some ([49],B.a)⟩,
 ⟨[91,103,105,118,101,32,50,32,36,98,93],some (cm [103,105,118,101,32,50,32,36,98]),B.b,some ([50],B.b)⟩,
 ⟨[91,103,105,118,101,32,51,32,123,36,97,32,91,103,105,118,101,32,57,32,120,93,125,93],some (cm [103,105,118,101,32,51,32,123,36,97,32,91,103,105,118,101,32,57,32,120,93,125]),[36,97,32,91,103,105,118,101,32,57,32,120,93],some ([51],[36,97,32,91,103,105,118,101,32,57,32,120,93])⟩,
 ⟨[91,103,105,118,101,32,52,32,34,36,99,59,92,93,36,97,34,93],some (cm [103,105,118,101,32,52,32,34,36,99,59,92,93,36,97,34]),B.c++[59,93]++B.a,some ([52],B.c++[59,93]++B.a)⟩]
noncomputable def oW(B:Bk):List Ck:=ye B++fb
noncomputable def pc(B:Bk)(y:Int):Ck:=AD (oW B) ⟨[],none,[],none⟩ 18 y
noncomputable abbrev DF(c:List Nat×List Nat):V:= .tup [.str c.1, .str c.2]
noncomputable def JR:Option (List Nat×List Nat)->V
 | none=> .tup []
 | some c=>DF c
noncomputable def ba(k:Ck):V:= .tup [.str k.w, .str k.v,JR k.c]
theorem gT(k:Ck):below 0 (ba k)=true:=by
 rcases k with⟨a,b,c,_ | d⟩ <;>rfl
theorem vH(h:yE B){p:List Nat×List Nat}(m:p∈gD B):QA p.1 ((gD B).map gB)=some (.str p.2):=by
 have nd:=wH h
 revert m nd
 generalize gD B=L
 intro m nd
 obtain⟨a,b,rfl⟩:=List.append_of_mem m
 rw[List.map_append,List.nodup_append]at nd
 rw[List.map_append]
 exact JL (Classical.byContradiction fun q=>nd.2.2 _ (by have:=UI q;rwa [List.map_map]at this) p.1 (by simp) rfl)
theorem XU{α:Type}{L:List α}{i:Int}{n:Nat}(h0:0<=i)(h1:i < (n:Int)):cK (L.take n) i=cK L i:=by
 obtain⟨k,rfl⟩:=Int.eq_ofNat_of_zero_le h0
 rw[sH,sH,List.getElem?_take,if_pos (Int.ofNat_lt.mp h1)]
theorem FO{α:Type}{L:List α}{i:Int}{n:Nat}(h1:(n:Int)<=i):cK (L.drop n) (i - n)=cK L i:=by
 obtain⟨k,rfl⟩:=Int.le.dest h1
 rw[<-Int.natCast_add,sH,Int.natCast_add,Int.add_comm,Int.add_sub_cancel,sH,List.getElem?_drop]
theorem vd:∀k∈fb,k.c=none:=by decide
theorem AX{α:Type}{L:List α}{i:Int}{a:α}(h:cK L i=some a):a∈L:=by
 unfold cK at h
 split at h
 ·exact List.mem_of_getElem? h
 ·split at h
  ·exact List.mem_of_getElem? h
  ·cases h
theorem BY(P:sB g)(ok:yE B){l ep:Nat}{y:Int}(hb:J[l]?=some (.dict ((gD B).map gB) ep)):JA g (d+1) none 683 [.int (y.fmod 18), .loc l] J (.at (.ok (ba (pc B y))) J):=
 P.f683.run rfl rfl fun K e f=>by
   have a1:=ok.a.len
   have a2:=ok.b.len
   have a3:=ok.c.len
   have hk:=JE (L:=oW B) (e:=⟨[],none,[],none⟩) (n:=18) ba y (by decide) (Int.le_refl 18)
   have hm0:=Int.fmod_nonneg_of_pos y (b:=18) (by decide)
   have hm1:=Int.fmod_lt_of_pos y (b:=18) (by decide)
   have en:∀{NA:List O} {v:V},K (.ok v) NA->Gr J NA->v=ba (pc B y)->False:=fun k h q=>by
    obtain⟨j,rfl⟩:=h
    subst q;exact e k (.drop (gT _)) ⟨rfl,rfl⟩
   by_cases q:y.fmod 18 < 9
   ·have hb2:∀j:List O,(J++j)[l]?=some (.dict ((gD B).map gB) ep):=EA hb
    have i1:∀(xs:List V),xs.length<=20->xs.length<=100000:=fun xs h=>kC h
    have f:=f _ (HG hb rfl) _ (HG hb rfl) _ (HG hb rfl) true (decide_eq_true q) _ (jC (a:=[109,40]) (b:=B.b) (by simp only[List.length_cons,List.length_nil];omega)) _ (jC (by simp only[List.length_append,List.length_cons,List.length_nil];omega)) _ (HG hb (vH (p:=(Ta B,B.m)) ok (by simp[gD]))) _ (HG hb (v:= .str B.k) rfl) _ (AA ..)
     _ (jC (a:=[109,40,107]) (b:=B.c) (by simp only[List.length_cons,List.length_nil];omega)) _ (jC (by simp only[List.length_append,List.length_cons,List.length_nil];omega)) _ (jC (b:=B.a) (by simp only[List.length_append,List.length_cons,List.length_nil];omega)) _ (jC (by simp only[List.length_append,List.length_cons,List.length_nil];omega)) _ (HG (hb2 _) (vH (p:=(Ua B,B.x)) ok (by simp[gD]))) _ JB _ _ (HB (Nat.le_of_ble_eq_true rfl))
     _ (AA ..) _ JB _ _ (HB (Nat.le_of_ble_eq_true rfl))
     _ (AA ..) _ JB _ _ (HB (Nat.le_of_ble_eq_true rfl))
     _ (AA ..) _ (jC (a:=B.c) (b:=[59,93]) (by simp only[List.length_cons,List.length_nil];omega)) _ (jC (b:=B.a) (by simp only[List.length_append,List.length_cons,List.length_nil];omega)) _ (jC (a:=B.c) (b:=[59,93]) (by simp only[List.length_cons,List.length_nil];omega)) _ (jC (b:=B.a) (by simp only[List.length_append,List.length_cons,List.length_nil];omega)) _ JB _ _ (HB (Nat.le_of_ble_eq_true rfl))
     _ (gC (v:=ba (pc B y)) (AA ..) ((XU (L:=(oW B).map ba) (n:=9) hm0 q).trans hk))
    exact en f (Gr.refl.app _) rfl
   ·have hk2:∀k:Ck->V,cK (fb.map k) (y.fmod 18 - 9)=some (k (pc B y)):=fun k=>(FO (L:=(oW B).map k) (n:=9) (Int.not_lt.mp q)).trans (JE k y (by decide) (Int.le_refl 18))
    have hm:pc B y∈fb:=by
     have h:=qG (L:=oW B) (e:=⟨[],none,[],none⟩) (n:=18) y (by decide) (Int.le_refl 18)
     rw[<-sH,Int.toNat_of_nonneg hm0]at h
     exact AX ((FO (L:=oW B) (n:=9) (Int.not_lt.mp q)).trans h)
    have f:=f _ (HG hb rfl) _ (HG hb rfl) _ (HG hb rfl) false (decide_eq_false q) _ (gC (v:= .str (pc B y).w) (AA ..) (hk2 fun k=> .str k.w)) _ (gC (v:= .str (pc B y).v) (AA ..) (hk2 fun k=> .str k.v))
    exact en f ((Gr.refl.app _).app _) (by have:=vd _ hm;unfold ba;rw[this];rfl)
end
section
variable{g:G}{d:Nat}{hd:Option Nat}{J NA YF:List O}{B:Bk}
theorem yX(ok:yE B):∀k∈ye B,k.w.length<=30/\k.v.length<=202:=by
 have a:=ok.a.len
 have c:=ok.c.len
 have i:∀{n:Nat},n<=100->n<=202:=fun h=>kC h
 simp only[ye,List.forall_mem_cons,List.not_mem_nil,false_implies,implies_true,and_true]
 exact⟨⟨Nat.le_of_ble_eq_true rfl,Nat.le_of_ble_eq_true rfl⟩,⟨Nat.le_of_ble_eq_true rfl,i a⟩,⟨Nat.le_of_ble_eq_true rfl,i c⟩,⟨Nat.le_of_ble_eq_true rfl,i ok.m⟩,⟨Nat.le_of_ble_eq_true rfl,i ok.k⟩,⟨Nat.le_of_ble_eq_true rfl,i ok.x⟩,⟨Nat.le_of_ble_eq_true rfl,i ok.b.len⟩,⟨Nat.le_of_ble_eq_true rfl,Nat.le_of_ble_eq_true rfl⟩,⟨Nat.le_of_ble_eq_true rfl,by simp only[List.length_append,List.length_cons,List.length_nil];exact rC a c⟩⟩
theorem OK(ok:yE B):∀k∈oW B,k.w.length<=30/\k.v.length<=202:=fun k h=>
 (List.mem_append.mp h).elim (yX ok k) ((by decide:∀k∈fb,k.w.length<=30/\k.v.length<=202) k)
theorem da(y:Int):pc B y∈oW B:=bC y (by decide) (Int.le_refl 18)
noncomputable def NB(B:Bk):Nat->Int->List Ck
 | 0,_=>[]
 | m+1,y=>pc B y::NB B m (y.fdiv 18)
theorem ZD:∀(m:Nat) (y:Int),∀k∈NB B m y,k∈oW B
 | 0,_,_,h=>nomatch h
 | m+1,y,k,h=>(List.mem_cons.mp h).elim (fun q=>q ▸ da y) (ZD m _ k)
theorem YD:∀(m:Nat) (y:Int),(NB B m y).length=m
 | 0,_=>rfl
 | m+1,y=>congrArg (· +1) (YD m _)
noncomputable def tB(ks:List Ck):List (List Nat×List Nat):=ks.filterMap (·.c)
theorem lJ{α:Type}{f:α->List Nat}{L:List α}:iC (L.map fun x=>V.str (f x))=some (L.map f):=(congrArg iC (List.map_map (l:=L) (f:=f) (g:=V.str)).symm).trans (wC _)
inductive wQ(ks:List Ck)(bt:List Nat)(J:List O):V->List O->Prop
 | mk {l:Nat} {NA:List O} (h:Gr J NA) (k:NA[l]?=some (.list ((tB ks).map DF))):wQ ks bt J (.tup [.str (dA bt (ks.map (·.w))), .str (dA bt (ks.map (·.v))), .loc l]) NA
theorem KR(c:Option (List Nat×List Nat)):xH J .NotEq (JR c) (.tup [])=some c.isSome:=by
 rw[qU]
 rcases c with _ | ⟨a,b⟩
 ·rw[sI (D:= .tuple []) (D':= .tuple []) rfl rfl,PyData.eqv];rfl
 ·rw[sI (D:= .tuple [.str ⟨a.toArray⟩, .str ⟨b.toArray⟩]) (D':= .tuple []) (by show lL J 80 (.tup [.str a, .str b])=_;rw[GN,PD,SH,PD,SH];rfl) rfl,PyData.eqv];rfl
theorem sS{c:Option (List Nat×List Nat)}{K:Bool->Prop}(p:rS J .NotEq (JR c) (.tup []) K):K c.isSome:=by
 rcases c with _ | c
 ·exact p _ (KR none)
 ·exact p _ (KR (some c))
theorem eI{ks:List Ck}{f:Ck->List Nat}{k:Nat}{bt:List Nat}(h:∀x∈ks,(f x).length<=k)(hn:ks.length<=5)(hb:bt.length<=2):((ks.map f).map List.length).sum+(ks.map f).length*bt.length<=5*k+10:=by
 have a:=cQ (ss:=ks.map f) (k:=k) fun s m=>by obtain⟨x,hx,rfl⟩:=List.mem_map.mp m;exact h x hx
 rw[List.length_map]at a ⊢
 exact Nat.le_trans (Nat.add_le_add a (Nat.le_refl _)) (Nat.add_le_add (Nat.mul_le_mul_right k hn) (Nat.mul_le_mul hn hb))
theorem HE{l k:Nat}{x y:O}(h:J[l]?=some x)(ne:k≠l):(J.set k y)[l]?=some x:=by rw[List.getElem?_set_ne ne];exact h
theorem OG{l:Nat}{x y:O}(h:J[l]?=some x):(J.set l y)[l]?=some y:=List.getElem?_set_self (FB h)
theorem uO(P:sB g)(ok:yE B){l ep m:Nat}{y:Int}{bt:List Nat}(hb:J[l]?=some (.dict ((gD B).map gB) ep))(hm:m<=5)(hbt:bt.length<=2):JA g (d+2) none 690 [.int y, .int (m:Int), .str bt, .loc l] J (.val (wQ (NB B m y) bt J)):=
 P.f690.run rfl rfl fun K e f=>by
   refine f (by omega) (by omega) fun Pw hP p0=>?_
   have hlen:=YD (B:=B) m y
   have hmem:=ZD (B:=B) m y
   have goal:∀(n k:Nat) (rest:Int) (ks:List Ck) (wl vl cl:Nat) (x4 x8:Option V) (M:List O),k+n=m->ks.length=k->ks++NB B n rest=NB B m y->Gr J M->J.length<=wl->wl < vl->vl < cl->M[wl]?=some (.list (ks.map fun k=>V.str k.w))->M[vl]?=some (.list (ks.map fun k=>V.str k.v))->M[cl]?=some (.list ((tB ks).map DF))->
    Pw k [some (.int rest),some (.int (m:Int)),some (.str bt),some (.loc l),x4,some (.loc wl),some (.loc vl),some (.loc cl),x8] M->False:=by
    intro n
    induction n with
    | zero=>
      intro k rest ks wl vl cl x4 x8 M hk hl hr hg h1 h2 h3 q1 q2 q3 p
      rw[show NB B 0 rest=[]from rfl,List.append_nil]at hr
      subst hr
      have b:∀x∈NB B m y,x.w.length<=30/\x.v.length<=202:=fun x h=>OK ok x (hmem x h)
      have hm5:(NB B m y).length<=5:=by rw[hlen];exact hm
      exact e (hP _ _ _ p false (decide_eq_false (by omega)) _ _ (RV (ss:=(NB B m y).map (·.w)) q1 lJ (kC (eI (fun x h=>(b x h).1) hm5 hbt)))
       _ _ (RV (ss:=(NB B m y).map (·.v)) q2 lJ (kC (eI (fun x h=>(b x h).2) hm5 hbt)))) .same ⟨_,rfl, .mk hg q3⟩
    | succ n ih=>
      intro k rest ks wl vl cl x4 x8 M hk hl hr hg h1 h2 h3 q1 q2 q3 p
      have i:∀{f:Ck->V},(ks.map f).length<=100000:=fun {f}=>by rw[List.length_map];omega
      have p:=hP _ _ _ p true (decide_eq_true (by omega)) _ (WB (by decide) (by decide)) _ (BY P ok (hg.get hb)) _ (yB (by decide) (by decide)) _ q1 _ rfl _ (TA q1) _ _ (mB i)
      have r1:=OG (y:= .list (ks.map (fun k=>V.str k.w)++[.str (pc B rest).w])) q1
      have r2:=HE (y:= .list (ks.map (fun k=>V.str k.w)++[.str (pc B rest).w])) q2 (Nat.ne_of_lt h2)
      have r3:=HE (y:= .list (ks.map (fun k=>V.str k.w)++[.str (pc B rest).w])) q3 (Nat.ne_of_lt (Nat.lt_trans h2 h3))
      have p:=sS (p _ r2 _ rfl _ (TA r2) _ _ (mB i) _ rfl)
      have s1:=HE (y:= .list (ks.map (fun k=>V.str k.v)++[.str (pc B rest).v])) r1 (Nat.ne_of_gt h2)
      have s2:=OG (y:= .list (ks.map (fun k=>V.str k.v)++[.str (pc B rest).v])) r2
      have s3:=HE (y:= .list (ks.map (fun k=>V.str k.v)++[.str (pc B rest).v])) r3 (Nat.ne_of_lt h3)
      have g2:=(hg.set (.list (ks.map (fun k=>V.str k.w)++[.str (pc B rest).w])) h1).set (.list (ks.map (fun k=>V.str k.v)++[.str (pc B rest).v])) (Nat.le_trans h1 (Nat.le_of_lt h2))
      have hr2:(ks++[pc B rest])++NB B n (rest.fdiv 18)=NB B m y:=by rw[List.append_assoc];exact hr
      have hl2:(ks++[pc B rest]).length=k+1:=by rw[List.length_append,hl];rfl
      have mp:∀f:Ck->V,ks.map f++[f (pc B rest)]=(ks++[pc B rest]).map f:=fun f=>by rw[List.map_append];rfl
      rw[mp fun k=>V.str k.w,mp fun k=>V.str k.v]at*
      have ca:tB (ks++[pc B rest])=tB ks++(pc B rest).c.toList:=by unfold tB;rw[List.filterMap_append];cases h:(pc B rest).c <;>simp[h]
      rcases hc:(pc B rest).c with _ | c
      ·exact ih (k+1) _ _ wl vl cl _ _ _ (by omega) hl2 hr2 g2 h1 h2 h3 s1 s2 (by rw[ca,hc,Option.toList,List.append_nil];exact s3) (p false (by rw[hc];rfl))
      ·have p:=p true (by rw[hc];rfl) _ s3 _ rfl _ (TA s3) _ _ (mB (by rw[List.length_map];exact Nat.le_trans (List.length_filterMap_le ..) (by omega)))
       exact ih (k+1) _ _ wl vl cl _ _ _ (by omega) hl2 hr2 (g2.set _ (Nat.le_trans h1 (Nat.le_of_lt (Nat.lt_trans h2 h3)))) h1 h2 h3 (HE s1 (Nat.ne_of_gt (Nat.lt_trans h2 h3))) (HE s2 (Nat.ne_of_gt h3)) (by rw[ca,hc,show(tB ks++(some c).toList).map DF=(tB ks).map DF++[JR (some c)]from List.map_append ..];exact OG s3) (by rw[<-hc];exact p)
   have z:∀{M:List O},Gr J M->J.length<=M.length:=fun h=>h.len
   exact goal m 0 y [] _ _ _ none none _ (Nat.zero_add _) rfl rfl (((Gr.refl.app _).app _).app _) (Nat.le_refl _) (by simp) (by simp) (EA (EA (AA ..) _) _) (EA (AA ..) _) (AA ..) p0
end
section
variable{g:G}{d:Nat}{hd:Option Nat}{J NA YF:List O}{B:Bk}{is:List (List Nat)}
inductive Wo where
 | cks (x q:Bool) (ks:List Ck)
 | brc (x:Bool) (s:List Nat)
noncomputable def OB(ks:List Ck):List Nat:=(ks.map (·.w)).flatten
noncomputable def DC(ks:List Ck):List Nat:=(ks.map (·.v)).flatten
noncomputable def xW(x:Bool):List Nat:=match x with | true=>[123,42,125] | false=>[]
noncomputable def qW(q:Bool)(s:List Nat):List Nat:=match q with | true=>34::(s++[34]) | false=>s
noncomputable def Wo.w:Wo->List Nat
 | .cks x q ks=>xW x++qW q (OB ks)
 | .brc x s=>xW x++123::(s++[125])
noncomputable def Wo.c:Wo->List (List Nat×List Nat)
 | .cks _ _ ks=>tB ks
 | .brc _ _=>[]
noncomputable abbrev wG(s:List Nat):Ck:=⟨s,none,s,none⟩
noncomputable abbrev GG(n v:List Nat):Ck:=⟨36::n,some (vr n .none),v,none⟩
noncomputable abbrev Wb(n v:List Nat):Ck:=⟨36::123::(n++[125]),some (vr n .none),v,none⟩
structure EE where
 o:Wo
 ws:List (List Nat)
 bad:Bool
noncomputable def GD:List EE:=[⟨.cks false false [wG [110,111,116,101]],[[110,111,116,101]],false⟩,
 ⟨.cks false false [GG [110] [110,111,116,101]],[[110,111,116,101]],false⟩,
 ⟨.cks false true [wG [110,111],Wb [116] [116,101]],[[110,111,116,101]],false⟩,
 ⟨.cks true false [GG [112] [110,111,116,101,32,123,36,97,125,32,120]],[[110,111,116,101],[36,97],[120]],false⟩,
 ⟨.cks false false [⟨[91,103,105,118,101,32,54,32,110,111,116,101,93],some (cm [103,105,118,101,32,54,32,110,111,116,101]),[110,111,116,101],some ([54],[110,111,116,101])⟩],[[110,111,116,101]],false⟩,
 ⟨.brc false [110,111,116,101],[[110,111,116,101]],false⟩,
 ⟨.cks false false [wG [110,111],⟨[92,120,55,52,101],none,[116,101],none⟩],[[110,111,116,101]],false⟩,
 ⟨.brc true [110,111,116,101,32,36,98],[[110,111,116,101],[36,98]],false⟩]
noncomputable def QK(B:Bk)(is:List (List Nat)):List EE:=[⟨.cks true false [GG [108] B.l],is,false⟩,
 ⟨.cks true false [Wb [108] B.l],is,false⟩,
 ⟨.cks true true [GG [108] B.l,wG [32],GG [108] B.l],is++is,false⟩,
 ⟨.cks true false [⟨[91,103,105,118,101,32,53,32,36,108,93],some (cm [103,105,118,101,32,53,32,36,108]),B.l,some ([53],B.l)⟩],is,false⟩,
 ⟨.brc true [120,32,123,36,97,32,91,103,105,118,101,32,57,32,120,93,125,32,34,36,99,34],[[120],[36,97,32,91,103,105,118,101,32,57,32,120,93],[36,99]],false⟩,
 ⟨.cks true false [GG [108] B.l,⟨[92,32,120],none,[32,120],none⟩],is++[[120]],false⟩]
noncomputable def oQ(B:Bk):List EE:=[⟨.cks true false [GG [119] B.w],[],true⟩,⟨.cks true true [GG [108] B.l,wG [32],GG [119] B.w],[],true⟩]
noncomputable def VE:List (List Nat):=[[36,97,32,91,103,105,118,101,32,57,32,120,93],[92,36,99,59,123,10,125],[],[123,42,125,36,108,32,92,123]]
noncomputable def EH:List (List Nat):=[[32],[59],[10],[36,32],[]]
noncomputable def nE(s:List Nat):List Ck->List Ck
 | []=>[]
 | k::r=>match r with
   | []=>[k]
   | _::_=>k::wG s::nE s r
theorem fN{s:List Nat}{k k2:Ck}{r:List Ck}:nE s (k::k2::r)=k::wG s::nE s (k2::r):=rfl
theorem iN{s:List Nat}:∀ks:List Ck,OB (nE s ks)=dA s (ks.map (·.w))
 | []=>rfl
 | [k]=>List.append_nil _
 | k::k2::r=>by
   have:=iN (s:=s) (k2::r)
   show k.w++(s++OB (nE s (k2::r)))=k.w++s++dA s ((k2::r).map (·.w))
   rw[this,List.append_assoc]
theorem gN{s:List Nat}:∀ks:List Ck,DC (nE s ks)=dA s (ks.map (·.v))
 | []=>rfl
 | [k]=>List.append_nil _
 | k::k2::r=>by
   have:=gN (s:=s) (k2::r)
   show k.v++(s++DC (nE s (k2::r)))=k.v++s++dA s ((k2::r).map (·.v))
   rw[this,List.append_assoc]
theorem XC{k:Ck}{ks:List Ck}:tB (k::ks)=k.c.toList++tB ks:=by
 unfold tB;rcases h:k.c with _ | c
 ·rw[List.filterMap_cons_none h];rfl
 ·rw[List.filterMap_cons_some h];rfl
theorem PG{s:List Nat}:∀ks:List Ck,tB (nE s ks)=tB ks
 | []=>rfl
 | [k]=>rfl
 | k::k2::r=>by rw[fN,XC,XC,PG (k2::r),XC (k:=k)];rfl
inductive mD(B:Bk)(is:List (List Nat)):EE->Prop
 | bare {m:Nat} {y:Int}:1<=m->m<=4->mD B is ⟨.cks false false (NB B m y),[DC (NB B m y)],false⟩
 | quo {m:Nat} {y:Int} {s:List Nat}:m<=4->s∈EH->mD B is ⟨.cks false true (nE s (NB B m y)),[DC (nE s (NB B m y))],false⟩
 | brc {s:List Nat}:s∈VE->mD B is ⟨.brc false s,[s],false⟩
 | spread {r:EE}:r∈QK B is->mD B is r
 | wrong {r:EE}:r∈oQ B->mD B is r
 | first {r:EE}:r∈GD->mD B is r
inductive WK(r:EE)(J:List O):V->List O->Prop
 | mk {l1 l2:Nat} {NA:List O} (h:Gr J NA) (k1:NA[l1]?=some (.list (r.ws.map .str))) (k2:NA[l2]?=some (.list (r.o.c.map DF))):WK r J (.tup [.str r.o.w, .loc l1, .loc l2, .bool r.bad]) NA
theorem QE{y n:Int}(h:0 < n):∃k:Nat,k < n.toNat/\y.fmod n=(k:Int):=⟨_,DI h,(Int.toNat_of_nonneg (Int.fmod_nonneg_of_pos y h)).symm⟩
theorem VX(P:sB g){y:Int}:JA g (d+1) none 697 [.int (y.fmod 8)] J (.val fun v NA=>∃r,r∈GD/\WK r J v NA):=
 P.f697.run rfl rfl fun K e f=>by
   obtain⟨k,hk,q⟩:=QE (y:=y) (n:=8) (by decide)
   rw[q]at f
   have en:∀(k:Nat) {r:EE} {v:V} {NA:List O},GD[k]?=some r->WK r J v NA->K (.ok v) NA->False:=fun _ r v NA m h k=>e k .same ⟨_,rfl,_,List.mem_of_getElem? m,h⟩
   clear e q
   have g1:∀{a b c:List O},Gr J (J++a++b++c):=((Gr.refl.app _).app _).app _
   rcases k with _ | _ | _ | _ | _ | _ | _ | _ | k
   ·exact en 0 rfl (.mk g1 (EA (AA ..) _) (AA ..)) (f _ (gC (AA ..) rfl) false rfl false rfl false rfl)
   ·exact en 1 rfl (.mk g1 (EA (AA ..) _) (AA ..)) (f _ (gC (AA ..) rfl) false rfl false rfl false rfl)
   ·exact en 2 rfl (.mk g1 (EA (AA ..) _) (AA ..)) (f _ (gC (AA ..) rfl) false rfl false rfl false rfl)
   ·exact en 3 rfl (.mk g1 (EA (AA ..) _) (AA ..)) (f _ (gC (AA ..) rfl) true rfl false rfl)
   ·exact en 4 rfl (.mk g1 (EA (AA ..) _) (AA ..)) (f _ (gC (AA ..) rfl) false rfl false rfl true rfl)
   ·exact en 5 rfl (.mk g1 (EA (AA ..) _) (AA ..)) (f _ (gC (AA ..) rfl) false rfl false rfl false rfl)
   ·exact en 6 rfl (.mk g1 (EA (AA ..) _) (AA ..)) (f _ (gC (AA ..) rfl) false rfl false rfl false rfl)
   ·exact en 7 rfl (.mk g1 (EA (AA ..) _) (AA ..)) (f _ (gC (AA ..) rfl) false rfl true rfl false rfl)
   ·exact absurd hk (Nat.not_lt.mpr (Nat.le_add_left _ _))
theorem NW(P:sB g)(ok:yE B){l ep il:Nat}{y:Int}(hb:J[l]?=some (.dict ((gD B).map gB) ep))(hi:J[il]?=some (.list (is.map .str)))(hn:is.length<=5):JA g (d+1) none 704 [.int (y.fmod 6), .loc l, .loc il] J (.val fun v NA=>∃r,mD B is r/\WK r J v NA):=
 P.f704.run rfl rfl fun K e f=>by
   obtain⟨k,hk,q⟩:=QE (y:=y) (n:=6) (by decide)
   rw[q]at f
   have en:∀(k:Nat) {r:EE} {v:V} {NA:List O},(QK B is)[k]?=some r->WK r J v NA->K (.ok v) NA->False:=fun _ r v NA m h k=>e k .same ⟨_,rfl,_, .spread (List.mem_of_getElem? m),h⟩
   clear e q
   have g1:∀{a:List O},Gr J (J++a):=Gr.refl.app _
   rcases k with _ | _ | _ | _ | _ | _ | k
   ·exact en 0 rfl (.mk (g1.app _) (EA (EA hi _) _) (AA ..)) (f false rfl false rfl false rfl _ (gC (AA ..) rfl) false rfl)
   ·exact en 1 rfl (.mk (g1.app _) (EA (EA hi _) _) (AA ..)) (f false rfl false rfl false rfl _ (gC (AA ..) rfl) false rfl)
   ·exact en 2 rfl (.mk ((g1.app _).app _) (by rw[List.map_append];exact EA (AA ..) _) (AA ..)) (f false rfl false rfl false rfl _ (gC (AA ..) rfl) true rfl _ _ (dU (EA hi _) (EA hi _) (by rw[List.length_map];omega)))
   ·exact en 3 rfl (.mk g1 (EA hi _) (AA ..)) (f true rfl _ (HG hb (vH ok (p:=([108],B.l)) (by simp[gD]))))
   ·exact en 4 rfl (.mk (g1.app _) (EA (AA ..) _) (AA ..)) (f false rfl true rfl)
   ·exact en 5 rfl (.mk ((g1.app _).app _) (by rw[List.map_append];exact EA (AA ..) _) (AA ..)) (f false rfl false rfl true rfl _ _ (dU (ys:=[.str [120]]) (EA hi _) (AA ..) (by rw[List.length_map];show is.length+1<=_;omega)))
   ·exact absurd hk (Nat.not_lt.mpr (Nat.le_add_left _ _))
theorem aY(P:sB g)(ok:yE B){l ep il:Nat}{y:Int}(hb:J[l]?=some (.dict ((gD B).map gB) ep))(hi:J[il]?=some (.list (is.map .str)))(hn:is.length<=5):JA g (d+3) none 711 [.int y, .loc l, .loc il] J (.val fun v NA=>∃r,mD B is r/\WK r J v NA):=
 P.f711.run rfl rfl fun K e f=>by
   have en:∀{r:EE} {v:V} {NA:List O},mD B is r->WK r J v NA->K (.ok v) NA->False:=fun m h k=>e k .same ⟨_,rfl,_,m,h⟩
   have f:=f _ (WB (by decide) (by decide)) _ (yB (by decide) (by decide))
   have h0:=Int.fmod_nonneg_of_pos y (b:=10) (by decide)
   have h1:=Int.fmod_lt_of_pos y (b:=10) (by decide)
   revert f
   generalize y.fmod 10=st at h0 h1 ⊢
   generalize y.fdiv 40=rest
   intro f
   by_cases q:st < 4
   ·obtain⟨k,hk,q2⟩:=QE (y:=rest) (n:=4) (by decide)
    have c:JA g (d+2) none 690 [.int (rest.fdiv 4), .int (1+rest.fmod 4), .str [], .loc l] J (.val (wQ (NB B (1+k) (rest.fdiv 4)) [] J)):=by
     rw[q2];exact uO (m:=1+k) P ok hb (by omega) (Nat.zero_le _)
    refine f true (decide_eq_true q) _ (yB (by decide) (by decide)) _ (WB (by decide) (by decide)) _ c fun v NA h f=>?_
    cases h with | mk hg hc=>?_
    rw[zC,zC]at f
    exact en (.bare (Nat.le_add_right _ _) (by omega)) (.mk (hg.app _) (AA ..) (EA hc _)) f
   have f:=f false (decide_eq_false q)
   by_cases q1:st < 6
   ·obtain⟨k,hk,q2⟩:=QE (y:=rest) (n:=5) (by decide)
    have hs:=bC (L:=EH) (e:=[]) (n:=5) (rest.fdiv 5) (by decide) (by decide)
    have hp:=JE (L:=EH) (e:=[]) (n:=5) V.str (rest.fdiv 5) (by decide) (by decide)
    revert hs hp
    generalize AD EH [] 5 (rest.fdiv 5)=s
    intro hs hp
    have sl:s.length<=2:=(by decide:∀s∈EH,s.length<=2) s hs
    have c:JA g (d+2) none 690 [.int (rest.fdiv 25), .int (rest.fmod 5), .str s, .loc l] (J++[O.list (EH.map .str)]) (.val (wQ (NB B k (rest.fdiv 25)) s (J++[O.list (EH.map .str)]))):=by
     rw[q2];exact uO (m:=k) P ok (EA hb _) (Nat.le_of_lt hk) sl
    refine f true (decide_eq_true q1) _ (yB (by decide) (by decide)) _ (WB (by decide) (by decide)) _ (gC (AA ..) hp) _ (yB (by decide) (by decide)) _ (WB (by decide) (by decide)) _ c fun v NA h f=>?_
    cases h with | mk hg hc=>?_
    have hl:=Nat.le_trans (PE s _) (eI (ks:=NB B k (rest.fdiv 25)) (f:=fun k=>k.w) (k:=30) (fun x h=>(OK ok x (ZD _ _ x h)).1) (by rw[YD];exact Nat.le_of_lt hk) sl)
    have f:=f _ (jC (a:=[34]) (by simp only[List.length_cons,List.length_nil];omega)) _ (jC (by simp only[List.length_append,List.length_cons,List.length_nil];omega))
    rw[<-iN, <-gN]at f
    exact en (.quo (Nat.le_of_lt_succ hk) hs) (.mk (((Gr.refl.app _).trans hg).app _) (AA ..) (by rw[show(Wo.cks false true (nE s (NB B k (rest.fdiv 25)))).c=tB (NB B k (rest.fdiv 25))from PG _];exact EA hc _)) f
   have f:=f false (decide_eq_false q1)
   by_cases q2:st=6
   ·have hs:=bC (L:=VE) (e:=[]) (n:=4) rest (by decide) (by decide)
    have hp:=JE (L:=VE) (e:=[]) (n:=4) V.str rest (by decide) (by decide)
    revert hs hp
    generalize AD VE [] 4 rest=s
    intro hs hp
    have sl:s.length<=20:=(by decide:∀s∈VE,s.length<=20) s hs
    exact en (.brc hs) (.mk (((Gr.refl.app _).app _).app _) (EA (AA ..) _) (AA ..)) (f true (decide_eq_true q2) _ (WB (by decide) (by decide)) _ (gC (AA ..) hp) _ (jC (a:=[123]) (by simp only[List.length_cons,List.length_nil];omega)) _ (jC (by simp only[List.length_append,List.length_cons,List.length_nil];omega)))
   have f:=f false (decide_eq_false q2)
   by_cases q3:st=9
   ·obtain⟨k,hk,q4⟩:=QE (y:=rest) (n:=2) (by decide)
    have f:=f true (decide_eq_true q3) _ (WB (by decide) (by decide))
    rw[q4]at f
    rcases k with _ | _ | k
    ·exact en (.wrong (.head _)) (.mk (((Gr.refl.app _).app _).app _) (EA (AA ..) _) (AA ..)) (f _ (gC (AA ..) rfl))
    ·exact en (.wrong (.tail _ (.head _))) (.mk (((Gr.refl.app _).app _).app _) (EA (AA ..) _) (AA ..)) (f _ (gC (AA ..) rfl))
    ·exact absurd hk (Nat.not_lt.mpr (Nat.le_add_left _ _))
   ·exact f false (decide_eq_false q3) _ (WB (by decide) (by decide)) _ (NW P ok hb hi hn) fun v NA ⟨r,h1,h2⟩ f=>en h1 h2 f
end
section
variable{g:G}{d:Nat}{hd:Option Nat}{J NA YF:List O}{T s:List Nat}{B:Bk}{L:HL}{sl ll n dp:Nat}{hs:pP}{log:List (List Nat×List Nat)}
noncomputable def UR(sl ll:Nat):tW where
 St:=List V×List (List Nat×List Nat)
 W st J:=J[sl]?=some (.list st.1)/\J[ll]?=some (.list (st.2.map DF))
 own _ l:=l=sl\/l=ll
 lt:=fun H h=>h.elim (fun e=>e ▸ FB H.1) fun e=>e ▸ FB H.2
 cong:=fun H k=>⟨(k sl (.inl rfl)).trans H.1,(k ll (.inr rfl)).trans H.2⟩
 lists:=fun H h=>h.elim (fun e=>⟨_,e ▸ H.1⟩) fun e=>⟨_,e ▸ H.2⟩
noncomputable abbrev W1(L:HL)(sl ll:Nat):Wd:=lA L (UR sl ll)
theorem PM{vs ws:List V}{log':List (List Nat×List Nat)}{k:Nat}{x:O}(H:(W1 L sl ll).W (hs,(vs,log)) J)(hk:k=sl\/k=ll)(h1:(J.set k x)[sl]?=some (.list ws))(h2:(J.set k x)[ll]?=some (.list (log'.map DF))):gA (W1 L sl ll) (hs,(vs,log)) J (hs,(ws,log')) (J.set k x) where
 ok:=⟨H.1.cong fun l q=>List.getElem?_set_ne fun e=>by
  subst e
  exact hk.elim (fun e=>H.1.noList q (e ▸ H.2.1)) fun e=>H.1.noList q (e ▸ H.2.2),h1,h2⟩
 len:=Nat.le_of_eq List.length_set.symm
 keep:=fun l _ h=>List.getElem?_set_ne fun(e:k=l)=>h (.inr (show l=sl\/l=ll from e ▸ hk))
 own:=fun l q=> .inl q
structure HJ(B:Bk)(n dp:Nat)(st:(W1 L sl ll).St):Prop where
 ok:yE B
 vars:st.1.vars.map (fun v=>(v.nm,v.val))=gD B
 set:∀v∈st.1.vars,v.set=true
 room:st.2.2.length+n<=1000
 depth:st.1.depth=dp
 ne:sl≠ll
noncomputable def bump(st:(W1 L sl ll).St)(cs:List (List Nat×List Nat)):(W1 L sl ll).St:=({st.1 with spent:=st.1.spent+cs.length},(st.2.1,st.2.2++cs))
theorem GF(st:(W1 L sl ll).St):bump st []=st:=by unfold bump;rw[List.append_nil];rfl
theorem gK(st:(W1 L sl ll).St)(a b:List (List Nat×List Nat)):bump (bump st a) b=bump st (a++b):=by
 unfold bump;rw[List.append_assoc,List.length_append,Nat.add_assoc]
theorem HJ.bump{st:(W1 L sl ll).St}{cs:List (List Nat×List Nat)}{k:Nat}(h:HJ B n dp st)(hk:k+cs.length<=n):HJ B k dp (bump st cs):=
 ⟨h.ok,h.vars,h.set,by have:=h.room;show(st.2.2++cs).length+k<=1000;rw[List.length_append];exact rC this hk,h.depth,h.ne⟩
theorem HJ.le{st:(W1 L sl ll).St}{k:Nat}(h:HJ B n dp st)(hk:k<=n):HJ B k dp st:=⟨h.ok,h.vars,h.set,by have:=h.room;exact rC this hk,h.depth,h.ne⟩
theorem YO{nm v:List Nat}:∀{vars:List JG},((vars.map fun v=>(v.nm,v.val)).map (·.1)).Nodup->(nm,v)∈vars.map (fun v=>(v.nm,v.val))->∃x∈vars,vars.find? (fun v=>v.nm=nm)=some x/\x.val=v
 | [],_,m=>nomatch m
 | a::r,nd,m=>by
   have nd:a.nm∉(r.map fun v=>(v.nm,v.val)).map (·.1)/\((r.map fun v=>(v.nm,v.val)).map (·.1)).Nodup:=List.nodup_cons.mp nd
   rcases List.mem_cons.mp m with q | q
   ·cases q
    exact⟨a, .head _,List.find?_cons_of_pos (decide_eq_true rfl),rfl⟩
   ·obtain⟨x,h1,h2,h3⟩:=YO nd.2 q
    have:¬(decide (a.nm=nm)=true):=fun e=>nd.1 (by rw[of_decide_eq_true e];exact List.mem_map_of_mem (f:=(·.1)) q)
    exact⟨x, .tail _ h1,(List.find?_cons_of_neg (p:=fun v:JG=>decide (v.nm=nm)) this).trans h2,h3⟩
theorem YQ(P:sB g){st:(W1 L sl ll).St}(h:HJ B n dp st){nm v:List Nat}(m:(nm,v)∈gD B):NM g (W1 L sl ll) L.h (d+3) nm st (.ok (.str v) st):=by
 have nd:=wH h.ok
 rw[<-h.vars]at nd m
 obtain⟨x,h1,h2,h3⟩:=YO nd m
 have:=DY (d:=d) (L:=L) (x:=UR sl ll) (xs:=st.2) P.toProg h2 (h.set x h1)
 rw[h3]at this
 exact this
noncomputable def sQ(g:G)(w:Wd)(h d:Nat)(items:List (List Nat))(st:w.St)(v:List Nat)(Φ:List O->List O->Prop):Prop:=∀ ⦃J:List O⦄ ⦃l:Nat⦄,w.W st J->kB w st J l (.list (items.map .str))->JA g d none 456 [.loc h, .loc l] J (.to (.str v) (Φ J))
theorem lU{x:tW}{xs:x.St}(P:sB g){f:Addr}{data:V}{nm v:List Nat}{args:List (List Nat)}{Φ:List O->List O->Prop}(hf:QA nm L.cmds=some (.tup [.val (.ref f),data]))(hk:jX f=true)(hdn:iD data=some false)
 (ha:∀ ⦃J:List O⦄ ⦃l:Nat⦄,(lA L x).W ({hs with spent:=hs.spent+1},xs) J->kB (lA L x) ({hs with spent:=hs.spent+1},xs) J l (.list ((nm::args).map .str))->JA g d none f [.loc L.h, .loc l,data] J (.to (.str v) (Φ J))):
 sQ g (lA L x) L.h (d+3) (nm::args) (hs,xs) v fun J NA=>∃PB,gA (lA L x) (hs,xs) J ({hs with spent:=hs.spent+1},xs) PB/\Φ PB NA:=fun {J l} H hm=>
 P.f456.run rfl rfl fun K e p=>p _ (gQ hm.at') true rfl _ H.1.at'.obj _ H.1.at'.ad (H.1.at'.no _ rfl) _ (show JA g (d+2) none 640 [.loc L.h, .loc l] J (.to (.str v) fun NA=>∃PB,gA (lA L x) (hs,xs) J ({hs with spent:=hs.spent+1},xs) PB/\Φ PB NA)from
   P.f640.run rfl rfl fun K e p=>by
     obtain⟨ep,hc⟩:=H.1.cl
     refine p _ (gC hm.at' (v:= .str nm) rfl) _ (UC H.1 rfl rfl rfl) _ (QQ hc) false (by rw[hf];rfl) _ H.1.at'.obj _ H.1.at'.ad (H.1.at'.no _ rfl) _ (dP P.toProg H) fun PB A2 p=>?_
     obtain⟨ep2,hc2⟩:=A2.ok.1.cl
     have hm2:=hm.after A2
     exact p _ (UC A2.ok.1 rfl rfl rfl) _ (gC hm2.at' (v:= .str nm) rfl) _ (HG hc2 hf) _ (UU P.toProg hk hdn (ha A2.ok hm2)) fun xL A3 p=>e p .same ⟨rfl,_,A2,A3⟩)
   fun xL A3 p=>e (p _ _ (lR rfl) false rfl _ _ (lR rfl) false rfl) .same ⟨rfl,A3⟩
noncomputable def OC(sl ll:Nat)(res:List Nat):List (List Nat×V):=[([110,111,116,101], .tup [.val (.ref 718), .tup [.loc sl, .str res]]),([103,105,118,101], .tup [.val (.ref 725), .loc ll])]
theorem Aa(P:sB g){st:(W1 L sl ll).St}{res t v:List Nat}(hc:L.cmds=OC sl ll res)(h:HJ B (n+1) dp st):sQ g (W1 L sl ll) L.h (d+4) [[103,105,118,101],t,v] st v fun J NA=>gA (W1 L sl ll) st J (bump st [(t,v)]) NA:=by
 obtain⟨hs,vs,log⟩:=st
 refine fun {J l} H hm=>CallOk.mono (lU (d:=d+1) (v:=v) (f:=725) (data:= .loc ll) P (by rw[hc];rfl) rfl rfl (fun {J l} H hm=>?_) H hm) fun r NA q=>⟨q.1,q.2.elim fun PB q=>q.1.trans q.2⟩
 have hll:J[ll]?=some (.list (log.map DF)):=H.2.2
 have a1:gA (W1 L sl ll) ({hs with spent:=hs.spent+1},(vs,log)) J _ _:=gA.app H [O.list ([t,v].map V.str)]
 have hne:l≠ll:=fun e=>hm.own (.inr (.inr e))
 have:=h.room
 refine CallOk.mono (cX (d:=d) (hd:=none) (w0:=[103,105,118,101]) (ws:=[t,v]) (last:=v) P hm.at' hll (Nat.le_of_ble_eq_true rfl) (by rw[List.length_map];exact kC (db this)) hne rfl) fun r NA q=>⟨q.1,?_⟩
 obtain⟨_,rfl⟩:=q
 exact a1.trans (PM a1.ok (.inr rfl) (HE a1.ok.2.1 (Ne.symm h.ne)) (by rw[OG a1.ok.2.2,List.map_append];rfl))
noncomputable def GY(st:(W1 L sl ll).St)(k:Nat):(W1 L sl ll).St:=({st.1 with spent:=st.1.spent+1},([.loc k],st.2.2))
theorem Va(P:sB g){st:(W1 L sl ll).St}{res:List Nat}{args:List (List Nat)}(hc:L.cmds=OC sl ll res)(h:HJ B n dp st)(h0:st.2.1=[])(ha:args.length<=1000):sQ g (W1 L sl ll) L.h (d+4) ([110,111,116,101]::args) st res fun J NA=>∃k,gA (W1 L sl ll) st J (GY st k) NA/\NA[k]?=some (.list (([110,111,116,101]::args).map .str)):=by
 obtain⟨hs,vs,log⟩:=st
 refine fun {J l} H hm=>CallOk.mono (lU (d:=d+1) (v:=res) (f:=718) (data:= .tup [.loc sl, .str res]) (Φ:=fun J NA=>∃k,gA (W1 L sl ll) ({hs with spent:=hs.spent+1},(vs,log)) J (GY (hs,(vs,log)) k) NA/\NA[k]?=some (.list (([110,111,116,101]::args).map .str))) P (by rw[hc];rfl) rfl rfl (fun {J l} H hm=>?_) H hm) fun r NA q=>⟨q.1,q.2.elim fun PB q=>q.2.elim fun k q2=>⟨k,q.1.trans q2.1,q2.2⟩⟩
 have hsl:J[sl]?=some (.list vs):=H.2.1
 have a1:gA (W1 L sl ll) ({hs with spent:=hs.spent+1},(vs,log)) J _ _:=gA.app H [O.list (([110,111,116,101]::args).map V.str)]
 have e0:vs=[]:=h0
 subst e0
 refine CallOk.mono (rX (d:=d) (hd:=none) (res:= .str res) P hm.at' hsl (by rw[List.length_map];exact Nat.le_trans (Nat.succ_le_succ ha) (Nat.le_of_ble_eq_true rfl)) (Nat.zero_le _)) fun r NA q=>⟨q.1,J.length,?_⟩
 obtain⟨_,rfl⟩:=q
 exact⟨a1.trans (PM a1.ok (.inl rfl) (OG a1.ok.2.1) (HE a1.ok.2.2 h.ne)),HE (AA ..) (Nat.ne_of_lt (FB hsl))⟩
end
section
variable{g:G}{d:Nat}{hd:Option Nat}{J NA YF:List O}{T:List Nat}{w:Wd}{st st' st'':w.St}{h:Nat}
theorem KS(P:sB g)(H:XK w h){ws:List V}{b e z v:List Nat}{items:List (List Nat)}{Φ:List O->List O->Prop}(hT:T.length<=100000)(hc:UH g T (d+4) false T (.ok ws b e z))(hz:UH g T (d+4) false z .none)(hws:WH g w h (d+4) ws st (.ok items st'))(hcl:sQ g w h (d+4) items st' v Φ)(hw:w.W st J):
 JA g (d+5) none 392 [.loc h, .str T] J (.to (.str v) fun NA=>∃MC,gA w st J st' MC/\Φ MC NA):=
 P.f392.run rfl rfl fun K en f=>by
   obtain⟨x,y,q,hcat,c1⟩:=hc 0 _ (.inr ⟨rfl,rfl⟩) (DB.start hT)
   obtain⟨x',y',q',_,c2⟩:=hz q _ (.inr ⟨rfl,rfl⟩) hcat.2.2.1
   obtain⟨dl,kvs,Hh⟩:=H hw
   exact f _ c1 fun Pw hP h0=>hP _ _ _ h0 true rfl _ Hh.obj _ Hh.ad (Hh.no _ rfl) _ (hws hw) fun PB q p=>p _ (hcl q.1.ok q.2) fun xL h3 p=>en (hP _ _ _ (p _ c2) false rfl) .same ⟨rfl,PB,q.1,h3⟩
theorem TP(P:sB g)(H:XK w h){ws:List V}{b e z t:List Nat}{zz:Rz}(hT:T.length<=100000)(hc:UH g T (d+4) false T (.ok ws b e z))(hws:WH g w h (d+4) ws st (.err zz st'))(hk:GC b t)(hzz:pI zz)(hw:w.W st J):
 JA g (d+5) none 392 [.loc h, .str T] J (dC.sp w st J (.err (WD T zz t (t.take (t.length - e.length))) st')):=
 P.f392.run rfl rfl fun K en f=>by
   obtain⟨x,y,q,hcat,c1⟩:=hc 0 _ (.inr ⟨rfl,rfl⟩) (DB.start hT)
   obtain⟨dl,kvs,Hh⟩:=H hw
   exact f _ c1 fun Pw hP h0=>hP _ _ _ h0 true rfl _ Hh.obj _ Hh.ad (Hh.no _ rfl) _ (hws hw) fun l PB q p=>by
    obtain⟨ha,dl,xl,q1,q2,q3,q4,q5⟩:=q
    refine p _ q4.at' _ (HR P.toProg q4.at' q5.at' q3 hzz hcat.1 hk hcat.2.1) fun xL q9 p=>?_
    obtain⟨j,rfl⟩:=q9
    have f4:=(q4.after (.app ha.ok j)).set_ne (.ad ((WD T zz t (t.take (t.length - e.length))).ad xl)) (k:=dl) (Ne.symm q3)
    have g5:=q5.after (.app ha.ok j)
    exact en (p _ _ f4.at' (.inr rfl)) .same ⟨l,rfl,(ha.push j).set _ q2 g5.own,dl,xl,q1,q2,q3,f4,g5.set _⟩
end
section
variable{g:G}{d:Nat}{T s r st run:List Nat}{n:Nat}{b:Bool}{acc:List V}
theorem DT{a r:List Nat}{c:Nat}(h:DB T n (a++c::r))(ha:∀x∈a,x≠c):vD T c n=((n+a.length:Nat):Int):=by
 unfold vD
 have:∀a:List Nat,(∀x∈a,x≠c)->(a++c::r).findIdx? (· ==c)=some a.length:=fun a=>by
  induction a with
  | nil=>exact fun _=>List.findIdx?_cons.trans (if_pos (beq_self_eq_true c))
  | cons x a ih=>exact fun h=>List.findIdx?_cons.trans ((if_neg (by simpa using h x (.head _))).trans (congrArg (Option.map (· +1)) (ih fun y m=>h y (.tail _ m))))
 rw[h.eq,this a ha]
theorem DU(P:Prog g){nm r:List Nat}(hn:∀c∈123::nm,c≠125):DO g T (d+4) (123::(nm++125::r)) (.ok (vr nm .none) r):=fun n hs=>by
 have hs3:DB T (n+1+(123::nm).length) (125::r):=(hs.next).app (a:=123::nm)
 exact⟨_,⟨hs3.next,rfl⟩,fun {J}=>P.f251.run rfl rfl fun K e f=>e (f _ (SD hs.next) true rfl (.int ((n+1+(123::nm).length:Nat):Int)) _ (fun h=>cS hs.next.le (by rw[DT (a:=123::nm) hs.next hn];exact h))
  false (decide_eq_false (Int.not_lt.mpr (Int.natCast_nonneg _))) _ (uD hs.next.next hs3)) .same ⟨rfl,rfl⟩⟩
theorem kQ(P:Prog g){r:List Nat}(hr:CK r)(hp:∀r',r≠40::r'/\r≠123::r'):DO g T (d+4) r (.ok (tx [36]) r):=
 fun n hs=>⟨_,⟨hs.next,rfl⟩,fun {J}=>P.f251.run rfl rfl fun K e f=>e (f _ (MB (j:=1) hs.next) false (rD fun r'=>(hp r').2) _ (cG P (nm:=[]) hs.next (fun _ m=>nomatch m) hr) _ (MB (j:=1) hs.next) false (rD fun r'=>(hp r').1)
  true (decide_eq_true rfl)) .same ⟨rfl,rfl⟩⟩
noncomputable def qJ(st rest:List Nat):Prop:=rest=[]\/∃c r,rest=c::r/\(st.contains c=true\/c=92/\st.contains 92=false/\st.contains 32=true/\∃r',r=10::r')
theorem qJ.c{c:Nat}(h:st.contains c=true):qJ st (c::r):= .inr ⟨c,r,rfl, .inl h⟩
theorem fT(he:qJ st r):pA g T d st r run acc (.ok (.tup (acc++VB run)) r):=by
 rcases he with rfl | ⟨c,r,rfl,h | ⟨rfl,h1,h2,r',rfl⟩⟩
 ·exact .nil
 ·exact .stop h
 ·exact .brk h1 h2
noncomputable def uS(c:Nat):Bool:=!LD c&&!(c==58)&&!(c==40)
noncomputable def nH(s:List Nat):Prop:=∀c r,s=c::r->uS c=true
theorem nH.of{c:Nat}{r:List Nat}(h:uS c=true):nH (c::r):=fun _ _ q=>by cases q;exact h
theorem nH.ne(h:nH s):CK s/\∀r',s≠40::r':=by
 have k:∀{c:Nat} {r:List Nat},s=c::r->(LD c=false/\c≠58)/\c≠40:=fun q=>by
  have:=h _ _ q
  simp only[uS,Bool.and_eq_true,Bool.not_eq_true',beq_eq_false_iff_ne]at this
  exact this
 exact⟨fun c r q=>(k q).1,fun r q=>(k q).2 rfl⟩
theorem qJ.fol(h:qJ st s)(hs:st.all uS=true):nH s:=by
 rcases h with rfl | ⟨c,r,rfl,h | ⟨rfl,_⟩⟩
 ·exact fun _ _ q=>nomatch q
 ·exact .of (List.all_eq_true.mp hs c (List.contains_iff_mem.mp h))
 ·exact .of rfl
structure CM(st:List Nat):Prop where
 d:st.contains 36=false
 o:st.contains 91=false
 b:st.contains 92=false
 e:st.all uS=true
theorem tH:CM (qB b):=by cases b <;>exact⟨rfl,rfl,rfl,rfl⟩
theorem TL:CM [34]:=⟨rfl,rfl,rfl,rfl⟩
theorem PL:CM [41]:=⟨rfl,rfl,rfl,rfl⟩
noncomputable def OR(k:Ck)(run:List Nat):List Nat:=match k.e with | none=>run++k.v | some _=>[]
noncomputable def MR(k:Ck)(run:List Nat)(acc:List V):List V:=match k.e with | none=>acc | some p=>acc++VB run++[p]
noncomputable def FJ(g:G)(T:List Nat)(d:Nat)(st:List Nat)(k:Ck):Prop:=∀ ⦃r run:List Nat⦄ ⦃acc:List V⦄ ⦃o:aF⦄,nH r->pA g T d st r (OR k run) (MR k run acc) o->pA g T d st (k.w++r) run acc o
theorem nX{a b r:List Nat}:r.length<=(a++(b++r)).length:=by rw[List.length_append,List.length_append, <-Nat.add_assoc];exact Nat.le_add_left _ _
theorem FJ.lit(h:s.all (RC st)=true):FJ g T d st (wG s):=fun r run acc o _ p=> .run (List.all_eq_true.mp h) p
theorem FJ.esc{s v s2:List Nat}(hst:CM st)(hb:∀r,Bs (s++r) v r)(h10:s.head?≠some 10)(h0:s≠[])(h2:s2.all (RC st)=true):FJ g T d st ⟨92::(s++s2),none,v++s2,none⟩:=fun r run acc o hf p=>by
 show pA g T d st (92::(s++s2++r)) run acc o
 rw[List.append_assoc]
 refine .bs hst.b (fun _ r2 q=>h10 ?_) (hb _) (.run (List.all_eq_true.mp h2) (by rw[List.append_assoc];exact p))
 induction s using List.casesOn with
 | nil=>exact absurd rfl h0
 | cons c s=>cases q;rfl
theorem FJ.var(P:sB g){nm v:List Nat}(hst:CM st)(h0:nm≠[])(hn:nm.all LD=true):FJ g T (d+4) st (GG nm v):=fun r run acc o hf p=>
 .dvar (r:=nm++r) hst.d (dW (d:=d) P.toProg h0 (List.all_eq_true.mp hn) hf.ne.1 hf.ne.2) (by rw[List.length_append];exact Nat.le_add_left _ _) p
theorem FJ.bvr(P:sB g){nm v:List Nat}(hst:CM st)(hn:∀c∈123::nm,c≠125):FJ g T (d+4) st (Wb nm v):=fun r run acc o hf p=>by
 show pA g T (d+4) st (36::123::(nm++[125]++r)) run acc o
 rw[List.append_assoc]
 exact .dvar hst.d (DU (d:=d) P.toProg hn) (nX (a:=123::nm) (b:=[125])) p
theorem FJ.dol(P:sB g):FJ g T (d+4) [34] (wG [36,32]):=fun r run acc o hf p=>
 .dtext (r:=32::r) (r':=32::r) (t:=[36]) rfl (kQ (d:=d) P.toProg (fun c r q=>by cases q;exact⟨rfl,by decide⟩) fun r'=>⟨fun q=>(by cases q),fun q=>(by cases q)⟩) (Nat.le_of_eq (Nat.add_comm _ _)) (.run (w:=[32]) (by decide) (by rw[List.append_assoc];exact p))
theorem FJ.cmd{s v:List Nat}{c:Option (List Nat×List Nat)}(hst:CM st)(hb:∀r,sP g T d (s++93::r) (.ok (.str s) r)):FJ g T d st ⟨91::(s++[93]),some (cm s),v,c⟩:=fun r run acc o hf p=>by
 show pA g T d st (91::(s++[93]++r)) run acc o
 rw[List.append_assoc]
 exact .bok hst.o (hb r) (nX (b:=[93])) p
theorem FJ.arr(P:sB g){nm ix v:List Nat}{vs:List V}{c:Option (List Nat×List Nat)}(hst:CM st)(h0:nm≠[])(hn:nm.all LD=true)(hx:∀r,YK g T (d+3) [41] (ix++41::r) (.ok (.tup vs) (41::r))):FJ g T (d+4) st ⟨36::(nm++40::(ix++[41])),some (vr nm (.tup vs)),v,c⟩:=fun r run acc o hf p=>by
 show pA g T (d+4) st (36::(nm++40::(ix++[41])++r)) run acc o
 rw[List.append_assoc,List.cons_append,List.append_assoc]
 exact .dvar hst.d (VY (d:=d) P.toProg (List.all_eq_true.mp hn) h0 (hx r)) (by rw[List.length_append];exact Nat.le_trans (nX (a:=40::ix) (b:=[41])) (Nat.le_add_left _ _)) p
noncomputable def KL:List Ck->List Nat->List V
 | [],run=>VB run
 | k::r,run=>match k.e with
   | none=>KL r (run++k.v)
   | some p=>VB run++p::KL r []
theorem KL.r2{k:Ck}{r:List Ck}{run:List Nat}:KL (k::r) run=match k.e with
 | none=>KL r (run++k.v)
 | some p=>VB run++p::KL r []:=rfl
noncomputable def vJ(k:Ck):Bool:=match k.w with | []=>true | c::_=>uS c
theorem aO:∀{ks:List Ck} {r:List Nat},(∀k∈ks,vJ k=true)->nH r->nH (OB ks++r)
 | [],_,_,h=>h
 | k::ks,r,hk,h=>by
   have ih:=aO (fun x m=>hk x (.tail _ m)) h
   have h1:=hk k (.head _)
   show nH (k.w++OB ks++r)
   rw[List.append_assoc]
   unfold vJ at h1
   induction e:k.w using List.casesOn with
   | nil=>exact ih
   | cons c w=>rw[e]at h1;exact .of h1
theorem MO(hst:CM st):∀{ks:List Ck} {run r:List Nat} {acc:List V},(∀k∈ks,FJ g T d st k)->(∀k∈ks.tail,vJ k=true)->qJ st r->pA g T d st (OB ks++r) run acc (.ok (.tup (acc++KL ks run)) r)
 | [],run,r,acc,_,_,he=>fT he
 | k::ks,run,r,acc,hk,hf,he=>by
   have ih:=MO hst (ks:=ks) (run:=OR k run) (r:=r) (acc:=MR k run acc) (fun x m=>hk x (.tail _ m)) (fun x m=>hf x (List.mem_of_mem_tail m)) he
   show pA g T d st (k.w++OB ks++r) run acc _
   rw[List.append_assoc]
   refine hk k (.head _) (aO hf (he.fol hst.e)) ?_
   have e1:MR k run acc++KL ks (OR k run)=acc++KL (k::ks) run:=by
    unfold MR OR;rw[KL.r2]
    rcases k.e with _ | p
    ·rfl
    ·show acc++VB run++[p]++_=_
     rw[List.append_assoc,List.append_assoc];rfl
   rw[<-e1];exact ih
end
section
variable{g:G}{d:Nat}{T s r st run rest:List Nat}{n:Nat}{b:Bool}{acc:List V}
noncomputable def qd(c:Nat):Bool:=![32,9,11,12,13,10,59,93,35].contains c
noncomputable def xJ(s:List Nat):Bool:=match s with
 | []=>false
 | c::r=>qd c&&(match r with
   | []=>decide (c≠92)
   | c2::_=>decide (c≠92)||decide (c2≠10))
theorem uG:∀{s:List Nat} (r:List Nat),xJ s=true->xJ (s++r)=true
 | [],_,h=>Bool.noConfusion h
 | [c],r,h=>by
   obtain⟨h1,h2⟩:=Bool.and_eq_true_iff.mp (show(qd c&&decide (c≠92))=true from h)
   show(qd c&&(match r with | []=>decide (c≠92) | c2::_=>decide (c≠92)||decide (c2≠10)))=true
   rw[h1,h2];cases r <;>rfl
 | _::_::_,_,h=>h
theorem wE(h:xJ s=true):∃c t,s=c::t/\(XG c=false/\c≠10/\c≠59/\c≠93/\c≠35)/\(c=92->∀t',t≠10::t'):=by
 rcases s with _ | ⟨c,t⟩
 ·exact Bool.noConfusion h
 ·obtain⟨h1,h2⟩:=Bool.and_eq_true_iff.mp (show(qd c&&_)=true from h)
  refine⟨c,t,rfl,?_,fun e t' q=>?_⟩
  ·unfold qd at h1
   simp only[Bool.not_eq_true',List.contains_cons,Bool.or_eq_false_iff,beq_eq_false_iff_ne]at h1
   obtain⟨a,b,c1,d1,e1,f,g,i,j,_⟩:=h1
   exact⟨by simp[XG,a,b,c1,d1,e1],f,g,i,j⟩
  ·subst q;rw[e]at h2;exact Bool.noConfusion h2
theorem dI(h:xJ s=true):IA s=s:=by
 obtain⟨c,t,rfl,h1,h2⟩:=wE h
 exact kD h1.1 h2
theorem RK(h:xJ s=true):GC s s:= .stop (dI h) fun c r q=>by
 obtain⟨c',t,rfl,h1,h2⟩:=wE h
 cases q
 exact⟨h1.2.1,h1.2.2.1,h1.2.2.2.2⟩
structure OM(g:G)(d:Nat)(b:Bool)(w:List Nat)(v:V):Prop where
 st:xJ w=true
 p:∀ ⦃T r:List Nat⦄,qJ (qB b) r->AH g T d b (w++r) (.ok v r)
theorem NV{c:Nat}{r:List Nat}(h:c≠123):yD (c::r)=false:=by
 show(decide (c::r.take 2=[123,42,125])&&_&&_)=false
 rw[decide_eq_false fun q=>h (List.cons.inj q).1];rfl
theorem RT{c:Nat}{r:List Nat}(h:c≠42):yD (123::c::r)=false:=by
 show(decide (123::c::r.take 1=[123,42,125])&&_&&_)=false
 rw[decide_eq_false fun q=>h (List.cons.inj (List.cons.inj q).2).1];rfl
theorem pR(h:xJ s=true):yD (123::42::125::s)=true:=by
 obtain⟨c,t,rfl,h1,h2⟩:=wE h
 show(true&&!([[],[10],[59]].contains [c])&&decide (IA (c::t)=c::t))=true
 rw[decide_eq_true (dI h)]
 simp[h1.2.1,h1.2.2.1]
theorem cW(h:yD s=false):XF s=s:=if_neg (by rw[h];exact Bool.noConfusion)
theorem TY(h:xJ s=true):XF (123::42::125::s)=s:=if_pos (pR h)
theorem yU{x:Bool}{w:List Nat}(h:xJ w=true)(h0:w.head?≠some 123\/∃c t,w=123::c::t/\c≠42)(r:List Nat):yD (xW x++w++r)=x/\XF (xW x++w++r)=w++r:=by
 have hs:=uG r h
 cases x
 ·have k:yD (w++r)=false:=by
   rcases h0 with h0 | ⟨c,t,rfl,h0⟩
   ·rcases w with _ | ⟨c,t⟩
    ·exact Bool.noConfusion h
    ·exact NV fun q=>h0 (congrArg some q)
   ·exact RT h0
  exact⟨k,cW k⟩
 ·exact⟨pR hs,TY hs⟩
theorem OW{x:Bool}{w:List Nat}(h:xJ w=true):xJ (xW x++w)=true:=by
 cases x
 ·exact h
 ·rfl
theorem DJ(P:sB g){x:Bool}{i:List Nat}(h0:i.head?≠some 42)(hp:∀r,jA 1 (i++125::r) [] (some (i,r))):OM g (d+6) b (xW x++123::(i++[125])) (wL x (VB i)):=by
 have e:∃c t,123::(i++[125])=123::c::t/\c≠42:=by
  rcases i with _ | ⟨c,t⟩
  ·exact⟨125,[],rfl,by decide⟩
  ·exact⟨c,t++[125],rfl,fun q=>h0 (congrArg some q)⟩
 have h1:xJ (123::(i++[125]))=true:=by obtain⟨c,t,q,_⟩:=e;rw[q];rfl
 refine⟨OW h1,fun T r _=>?_⟩
 obtain⟨k1,k2⟩:=yU (x:=x) h1 (.inr e) r
 have:=mQ (d:=d) (T:=T) (b:=b) P.toProg (s:=xW x++123::(i++[125])++r) (o:=some (i,r)) (r:=i++125::r) (by rw[k2,List.cons_append,List.append_assoc];rfl) (hp r)
 rw[k1]at this
 exact this
theorem IN(P:sB g){x:Bool}{ks:List Ck}(hk:∀T,∀k∈ks,FJ g T (d+4) [34] k)(hf:∀k∈ks.tail,vJ k=true):OM g (d+6) b (xW x++qW true (OB ks)) (wL x (KL ks [])):=by
 have h1:xJ (34::(OB ks++[34]))=true:=by cases OB ks <;>rfl
 refine⟨OW h1,fun T r _=>?_⟩
 obtain⟨k1,k2⟩:=yU (x:=x) h1 (.inl fun q=>by cases q) r
 have hp:=MK P.toProg (MO (T:=T) (acc:=[]) (run:=[]) TL (hk T) hf (.c (c:=34) (r:=r) rfl))
 have:=nQ (d:=d) (T:=T) (b:=b) P.toProg (s:=xW x++34::(OB ks++[34])++r) (r:=OB ks++34::r) (by rw[k2,List.cons_append,List.append_assoc];rfl) hp
 rw[k1]at this
 exact this
theorem sL(P:sB g){x:Bool}{ks:List Ck}(hk:∀T,∀k∈ks,FJ g T (d+4) (qB b) k)(hf:∀k∈ks.tail,vJ k=true)(h1:xJ (OB ks)=true)(h2:(OB ks).head?≠some 123)(h3:(OB ks).head?≠some 34):OM g (d+6) b (xW x++OB ks) (wL x (KL ks [])):=by
 refine⟨OW h1,fun T r hr=>?_⟩
 obtain⟨k1,k2⟩:=yU (x:=x) h1 (.inl h2) r
 have hp:=MK P.toProg (MO (T:=T) (acc:=[]) (run:=[]) tH (hk T) hf hr)
 have hd:∀c,(OB ks).head?≠some c->∀r',XF (xW x++OB ks++r)≠c::r':=fun c h r' q=>by
  rw[k2]at q
  revert q h h1
  cases OB ks with
  | nil=>exact fun h=>Bool.noConfusion h
  | cons c' t=>exact fun _ h q=>h (congrArg some (List.cons.inj q).1)
 have:=FU (d:=d) (T:=T) (b:=b) P.toProg (s:=xW x++OB ks++r) (o:= .ok (.tup (KL ks [])) r) (hd 123 h2) (hd 34 h3) (by rw[k2];exact hp)
 rw[k1]at this
 exact this
noncomputable def zG(gp:List Nat):Prop:=gp≠[]/\(∀s,IA s=s->IA (gp++s)=s)/\∀b s,qJ (qB b) (gp++s)
noncomputable def HD:List (List Nat):=[[32],[9],[32,92,10,9],[11,32]]
theorem dM:∀gp∈HD,zG gp:=by
 have k:∀{c:Nat} {t:List Nat},(qB true).contains c=true->(qB false).contains c=true->∀b s,qJ (qB b) (c::t++s):=fun h1 h2 b s=> .c (by cases b;exact h2;exact h1)
 simp only[HD,List.forall_mem_cons,List.not_mem_nil,false_implies,implies_true,and_true]
 exact⟨⟨by decide,fun s h=>(ZB rfl _).trans h,k rfl rfl⟩,⟨by decide,fun s h=>(ZB rfl _).trans h,k rfl rfl⟩,
  ⟨by decide,fun s h=>(ZB rfl _).trans ((gJ _).trans ((ZB rfl _).trans h)),k rfl rfl⟩,⟨by decide,fun s h=>(ZB rfl _).trans ((ZB rfl _).trans h),k rfl rfl⟩⟩
inductive iS(b:Bool):List Nat->List Nat->Prop
 | eof {rest:List Nat}:IA rest=[]->iS b rest []
 | sep {rest r:List Nat} {c:Nat}:IA rest=c::r->c=10\/c=59->iS b rest r
 | close {rest r:List Nat}:b=true->IA rest=93::r->iS b rest (93::r)
structure GW where
 g:List Nat
 w:List Nat
 v:V
noncomputable def jB(L:List GW):List Nat:=(L.map fun x=>x.g++x.w).flatten
theorem bY{b0 z:List Nat}(he:qJ (qB b) rest)(hs:iS b rest z):∀{L:List GW},(∀x∈L,zG x.g/\OM g d b x.w x.v)->∀{w:List Nat} {v:V} {acc:List V},OM g d b w v->pJ g T d b b0 (w++(jB L++rest)) acc (.ok (acc++v::L.map (·.v)) b0 rest z):=by
 have len:∀{w r:List Nat},xJ w=true->r.length < (w++r).length:=fun {w r} h=>by
  rcases w with _ | ⟨c,t⟩
  ·exact Bool.noConfusion h
  ·rw[List.length_append,List.length_cons];omega
 intro L
 induction L with
 | nil=>
   intro _ w v acc hw
   have h1:=hw.p (T:=T) he
   have h2:=len (r:=rest) hw.st
   cases hs with
   | eof h=>exact .eof h1 h2 h
   | sep h k=>exact .sep h1 h2 h k
   | close h k=>exact .close h h1 h2 k
 | cons x L ih=>
   intro hL w v acc hw
   obtain⟨⟨g0,g1,g2⟩,hx⟩:=hL x (.head _)
   have e1:jB (x::L)++rest=x.g++(x.w++(jB L++rest)):=by
    show x.g++x.w++jB L++rest=_
    rw[List.append_assoc,List.append_assoc]
   rw[e1]
   have h1:=hw.p (T:=T) (g2 b (x.w++(jB L++rest)))
   have hst:=uG (jB L++rest) hx.st
   have h2:=g1 _ (dI hst)
   have ih:=ih (fun y m=>hL y (.tail _ m)) (w:=x.w) (v:=x.v) (acc:=acc++[v]) hx
   have h3:=len (r:=x.g++(x.w++(jB L++rest))) hw.st
   obtain⟨c,t,q,k1,k2⟩:=wE hst
   rw[q]at h1 h2 h3 ih ⊢
   rw[List.append_assoc]at ih
   refine .more h1 h3 h2 k1.2.1 k1.2.2.1 (fun _=>k1.2.2.2.1) (fun e=>g0 ?_) ih
   have:=congrArg List.length e
   rw[List.length_append]at this
   exact List.length_eq_zero_iff.mp (by omega)
theorem pU(P:sB g){z:List Nat}(he:qJ (qB b) rest)(hs:iS b rest z){L:List GW}(hL:∀x∈L,zG x.g/\OM g (d+6) b x.w x.v){w:List Nat}{v:V}(hw:OM g (d+6) b w v)(hk:GC s (w++(jB L++rest))):UH g T (d+7) b s (.ok (v::L.map (·.v)) (w++(jB L++rest)) rest z):=by
 have h:=bY (T:=T) (b0:=w++(jB L++rest)) (acc:=[]) he hs hL hw
 obtain⟨c,t,q,k1,_⟩:=wE (uG (jB L++rest) hw.st)
 rw[q]at hk h ⊢
 exact gZ P.toProg hk (fun _=>k1.2.2.2.1) h
theorem cc(P:sB g){L:List GW}(hL:∀x∈L,zG x.g/\OM g (d+6) true x.w x.v){w:List Nat}{v:V}(hw:OM g (d+6) true w v):∀r,sP g T (d+8) (w++jB L++93::r) (.ok (.str (w++jB L)) r):=fun r=>by
 have hst:xJ (w++(jB L++93::r))=true:=uG _ hw.st
 have hk:=RK hst
 have sk:IA (93::r)=93::r:=kD rfl fun q=>absurd q (by decide)
 have hc:=pU (T:=T) (rest:=93::r) (z:=93::r) P (.c (c:=93) rfl) (.close rfl sk) hL hw hk
 have hl:(93::r).length<=(w++(jB L++93::r)).length:=nX
 obtain⟨c,t,q,k1,_⟩:=wE hst
 rw[q]at hk hc hl
 have:=yP (d:=d+3) P.toProg (T:=T) hk (.step k1.2.2.2.1 hc hl (.stop sk fun c r q=>by cases q;decide) .done)
 rw[<-q, <-List.append_assoc]at this
 have e:(w++jB L++93::r).take ((w++jB L++93::r).length - (r.length+1))=w++jB L:=by rw[List.length_append,List.length_cons,Nat.add_sub_cancel,List.take_left]
 have this:sP g T (d+8) (w++jB L++93::r) (.ok (.str ((w++jB L++93::r).take ((w++jB L++93::r).length - (r.length+1)))) r):=this
 rw[e]at this
 exact this
end
section
variable{g:G}{d:Nat}{B:Bk}{L:HL}{sl ll n dp:Nat}{T:List Nat}{st:(W1 L sl ll).St}
noncomputable def BO(g:G)(L:HL)(sl ll:Nat)(B:Bk)(d dp:Nat)(k:Ck):Prop:=match k.e with
 | none=>k.c=none
 | some p=>∀ ⦃st:(W1 L sl ll).St⦄ ⦃r:List V⦄ ⦃acc:List (List Nat)⦄ ⦃o:dC (W1 L sl ll)⦄,HJ B k.c.toList.length dp st->ED g (W1 L sl ll) L.h d r (bump st k.c.toList) (acc++[k.v]) o->ED g (W1 L sl ll) L.h d (p::r) st acc o
noncomputable def Xb(run:List Nat):List (List Nat):=if run=[]then[]else[run]
theorem CI(run:List Nat):(Xb run).flatten=run:=by
 unfold Xb;split
 ·rename_i h;rw[h];rfl
 ·exact List.append_nil run
theorem kH{run:List Nat}{r:List V}{acc:List (List Nat)}{o:dC (W1 L sl ll)}(h:ED g (W1 L sl ll) L.h d r st (acc++Xb run) o):ED g (W1 L sl ll) L.h d (VB run++r) st acc o:=by
 unfold Xb at h;unfold VB
 split at h
 ·rename_i q;rw[if_pos q];rw[List.append_nil]at h;exact h
 ·rename_i q;rw[if_neg q];exact .text h
theorem oU:∀{ks:List Ck} {run:List Nat} {st:(W1 L sl ll).St} {acc:List (List Nat)},(∀k∈ks,BO g L sl ll B d dp k)->HJ B (tB ks).length dp st->(acc.flatten++run++DC ks).length<=1000000->
 ED g (W1 L sl ll) L.h d (KL ks run) st acc (.ok (.str (acc.flatten++run++DC ks)) (bump st (tB ks)))
 | [],run,st,acc,_,_,hl=>by
   have e:acc.flatten++run++DC []=(acc++Xb run).flatten:=by rw[List.flatten_append,CI];exact List.append_nil _
   rw[e]at hl ⊢
   rw[show KL [] run=VB run++[]from(List.append_nil _).symm,show tB []=[]from rfl,GF]
   exact kH (.nil hl)
 | k::ks,run,st,acc,hk,h,hl=>by
   have hk0:=hk k (.head _)
   unfold BO at hk0
   rw[KL.r2]
   have ev:DC (k::ks)=k.v++DC ks:=rfl
   rcases he:k.e with _ | p
   ·rw[he]at hk0
    have hk0:k.c=none:=hk0
    have ec:tB (k::ks)=tB ks:=by rw[XC,hk0];rfl
    rw[ev, <-List.append_assoc,List.append_assoc _ run]at hl ⊢
    rw[ec]at h ⊢
    exact oU (fun x m=>hk x (.tail _ m)) h hl
   ·rw[he]at hk0
    have ec:=XC (k:=k) (ks:=ks)
    have e2:acc.flatten++run++DC (k::ks)=(acc++Xb run++[k.v]).flatten++[]++DC ks:=by
     rw[List.flatten_append,List.flatten_append,CI,ev,List.append_nil,List.flatten_singleton,List.append_assoc _ k.v]
    rw[ec]at h ⊢
    rw[e2]at hl ⊢
    rw[List.length_append]at h
    rw[<-gK]
    exact kH (hk0 (h.le (Nat.le_add_right _ _)) (oU (fun x m=>hk x (.tail _ m)) (h.bump (by rw[Nat.add_comm];exact Nat.le_refl _)) hl))
theorem GQ(run:List Nat):(VB run).length<=1:=by unfold VB;split <;>exact Nat.le_of_ble_eq_true rfl
theorem mN:∀{ks:List Ck} {run:List Nat},(KL ks run).length<=2*ks.length+1
 | [],run=>GQ run
 | k::ks,run=>by
   rw[KL.r2]
   have fl:=GQ run
   rcases k.e with _ | p
   ·have:=mN (ks:=ks) (run:=run++k.v)
    exact Nat.le_trans this (by rw[List.length_cons];omega)
   ·have:=mN (ks:=ks) (run:=[])
    show(VB run++p::KL ks []).length<=_
    rw[List.length_append,List.length_cons,List.length_cons];omega
theorem NO(P:sB g){ks:List Ck}(hk:∀k∈ks,BO g L sl ll B d dp k)(h:HJ B (tB ks).length dp st)(hn:ks.length<=100)(hl:(DC ks).length<=1000000):jE g (W1 L sl ll) L.h (d+1) (KL ks []) st (.ok (.str (DC ks)) (bump st (tB ks))):=
 TS P.toProg uK (Nat.le_trans mN (by omega)) (oU (acc:=[]) (run:=[]) hk h hl)
theorem aN(P:sB g){s:List Nat}(hl:s.length<=1000000):jE g (W1 L sl ll) L.h (d+1) (VB s) st (.ok (.str s) st):=by
 have:=TS (d:=d) (ps:=VB s++[]) P.toProg uK (by rw[List.append_nil];exact Nat.le_trans (GQ s) (by decide)) (kH (st:=st) (acc:=[]) (run:=s) (.nil (by rw[List.nil_append,CI];exact hl)))
 rw[List.append_nil,List.nil_append,CI]at this
 exact this
theorem BO.txt{w v:List Nat}:BO g L sl ll B d dp ⟨w,none,v,none⟩:=rfl
theorem BO.rd(P:sB g){w nm v:List Nat}(m:(nm,v)∈gD B):BO g L sl ll B (d+3) dp ⟨w,some (vr nm .none),v,none⟩:=fun st r acc o h p=>by
 have p:ED g (W1 L sl ll) L.h (d+3) r st (acc++[v]) o:=by rw[<-GF st];exact p
 exact .var (YQ P h m) p
theorem BO.cmd{w s v:List Nat}{c:List Nat×List Nat}(hr:∀st:(W1 L sl ll).St,HJ B 1 dp st->QU g (W1 L sl ll) L.h d s st (.ok (.str v) (bump st [c]))):BO g L sl ll B d dp ⟨w,some (cm s),v,some c⟩:=fun st r acc o h p=> .cmd (hr st h) p
theorem BO.arr(P:sB g){w nm v i:List Nat}{ix:List V}{c:Option (List Nat×List Nat)}(hx:∀st:(W1 L sl ll).St,HJ B c.toList.length dp st->jE g (W1 L sl ll) L.h (d+3) ix st (.ok (.str i) (bump st c.toList)))(hl:nm.length+i.length<=1000000)(m:(nm++40::(i++[41]),v)∈gD B):BO g L sl ll B (d+3) dp ⟨w,some (vr nm (.tup ix)),v,c⟩:=fun st r acc o h p=>
 .arr (hx st h) hl (YQ P (h.bump (k:=0) (by rw[Nat.zero_add];exact Nat.le_refl _)) m) p
structure AM(g:G)(L:HL)(sl ll:Nat)(B:Bk)(d dp:Nat)(w v:List Nat)(ps:List V):Prop where
 p:∀b,OM g (d+6) b w (wL false ps)
 e:∀st:(W1 L sl ll).St,HJ B 0 dp st->jE g (W1 L sl ll) L.h (d+7) ps st (.ok (.str v) st)
theorem mP(P:sB g){c:Nat}{w:List Nat}{b:Bool}(h:(c::w).all (RC (qB b))=true)(hc:xJ (c::w)=true)(h2:c≠123)(h3:c≠34):OM g (d+6) b (c::w) (wL false [tx (c::w)]):=by
 have:=sL (x:=false) (b:=b) (d:=d) (ks:=[wG (c::w)]) P (fun T k m=>by rw[List.mem_singleton.mp m];exact .lit h) (fun k m=>nomatch m) (by rw[show OB [wG (c::w)]=c::w from List.append_nil _];exact hc) (fun q=>h2 (Option.some.inj q)) (fun q=>h3 (Option.some.inj q))
 rw[show OB [wG (c::w)]=c::w from List.append_nil _]at this
 exact this
theorem uY:zG [32]:=dM _ (.head _)
theorem sZ:∀t∈[49,50,51,52,53,54],(∀b,[t].all (RC (qB b))=true)/\xJ [t]=true/\t≠123/\t≠34:=by decide
noncomputable def vY(t:Nat)(w:List Nat)(ps:List V):List GW:=[⟨[32],[t],wL false [tx [t]]⟩,⟨[32],w,wL false ps⟩]
theorem XR{t:Nat}{w:List Nat}{ps:List V}:[103,105,118,101]++jB (vY t w ps)=[103,105,118,101,32,t,32]++w:=by
 show[103,105,118,101]++(32::t::32::(w++[]))=_
 rw[List.append_nil];rfl
theorem dO(P:sB g){t:Nat}{w v:List Nat}{ps:List V}{b:Bool}(ht:t∈[49,50,51,52,53,54])(h:AM g L sl ll B d dp w v ps):∀x∈vY t w ps,zG x.g/\OM g (d+6) b x.w x.v:=fun x m=>by
 obtain⟨h1,h2,h3,h4⟩:=sZ t ht
 rcases List.mem_cons.mp m with rfl | m
 ·exact⟨uY,mP P (h1 b) h2 h3 h4⟩
 ·rw[List.mem_singleton.mp m];exact⟨uY,h.p b⟩
theorem YR(P:sB g){b:Bool}:OM g (d+6) b [103,105,118,101] (wL false [tx [103,105,118,101]]):=mP P (by cases b <;>rfl) rfl (by decide) (by decide)
theorem UH.up{T s:List Nat}{b:Bool}{d':Nat}{c:DG}(h:UH g T d b s c)(q:d<=d'):UH g T d' b s c:=fun n vs h1 h2=>by obtain⟨x,y,w,h,c⟩:=h n vs h1 h2;exact⟨x,y,w,h,fun {_}=>c.up q⟩
theorem eO(P:sB g){t:Nat}{w v:List Nat}{ps:List V}(ht:t∈[49,50,51,52,53,54])(h:AM g L sl ll B d dp w v ps):∀r,sP g T (d+8) ([103,105,118,101,32,t,32]++w++93::r) (.ok (.str ([103,105,118,101,32,t,32]++w)) r):=fun r=>by
 have:=cc (T:=T) P (dO P ht h) (YR P) r
 rw[XR]at this
 exact this
theorem fO(P:sB g){t:Nat}{w v:List Nat}{ps:List V}{res:List Nat}(hc:L.cmds=OC sl ll res)(ht:t∈[49,50,51,52,53,54])(hd:dp < 30)(hw:w.length<=100)(h:AM g L sl ll B d (dp+1) w v ps)(S:HJ B 1 dp st):QU g (W1 L sl ll) L.h (d+10) ([103,105,118,101,32,t,32]++w) st (.ok (.str v) (bump st [([t],v)])):=by
 obtain⟨hs,xs⟩:=st
 have S1:HJ (L:=L) (sl:=sl) (ll:=ll) B 1 (dp+1) ({hs with depth:=hs.depth+1},xs):=⟨S.ok,S.vars,S.set,S.room,congrArg (· +1) S.depth,S.ne⟩
 have hT:([103,105,118,101,32,t,32]++w).length<=100000:=by rw[List.length_append];simp only[List.length_cons,List.length_nil];omega
 have c1:=pU (T:=[103,105,118,101,32,t,32]++w) (s:=[103,105,118,101,32,t,32]++w) (b:=false) (rest:=[]) (z:=[]) P (.inl rfl) (.eof rfl) (dO P ht h) (YR P) (by rw[List.append_nil,XR];exact RK rfl)
 have c2:UH g ([103,105,118,101,32,t,32]++w) (d+8) false [] .none:=PO (d:=d+1) P.toProg (.stop rfl fun c r q=>nomatch q) (.inl rfl)
 have hx:∀{s:List Nat},s.length<=1000000->jE g (W1 L sl ll) L.h (d+7) (VB s) ({hs with depth:=hs.depth+1},xs) (.ok (.str s) ({hs with depth:=hs.depth+1},xs)):=fun h=>aN (d:=d+6) P h
 have hws:=EJ (d:=d) P (.word (acc:=[]) (hx (s:=[103,105,118,101]) (Nat.le_of_ble_eq_true rfl)) (Nat.zero_le _) (.word (hx (s:=[t]) (Nat.le_of_ble_eq_true rfl)) (Nat.le_of_ble_eq_true rfl) (.word (r:=[]) (h.e _ (S1.le (Nat.zero_le _))) (Nat.le_of_ble_eq_true rfl) .nil)))
 have hr:ON g (W1 L sl ll) L.h (d+9) ([103,105,118,101,32,t,32]++w) ({hs with depth:=hs.depth+1},xs) (.ok (.str v) (bump ({hs with depth:=hs.depth+1},xs) [([t],v)])):=fun J H=>
  CallOk.mono (KS (d:=d+4) P uK hT (c1.up (Nat.le_succ _)) c2 hws (Aa (d:=d+4) P hc S1) H) fun r NA q=>⟨q.1,q.2.elim fun MC q=>q.1.trans q.2⟩
 exact qa (d:=d+8) (x:=UR sl ll) P.toProg (by have:=S.depth;show hs.depth < 40;rw[show hs.depth=dp from this];exact Nat.lt_of_lt_of_le hd (by decide)) hr rfl
end
section
variable{g:G}{d:Nat}{B:Bk}{L:HL}{sl ll n dp:Nat}{st:List Nat}
theorem FS(P:sB g){ks:List Ck}(hk:∀b T,∀k∈ks,FJ g T (d+4) (qB b) k)(he:∀k∈ks,BO g L sl ll B (d+6) dp k)(hc:tB ks=[])(hf:∀k∈ks.tail,vJ k=true)(h1:xJ (OB ks)=true)(h2:(OB ks).head?≠some 123)(h3:(OB ks).head?≠some 34)(hn:ks.length<=100)(hl:(DC ks).length<=1000000):
 AM g L sl ll B d dp (OB ks) (DC ks) (KL ks []):=
 ⟨fun b=>sL (x:=false) P (hk b) hf h1 h2 h3,fun st h=>by
  have:=NO (st:=st) P he (by rw[hc];exact h) hn hl
  rw[hc,GF]at this
  exact this⟩
theorem UQ(P:sB g){c:Nat}{v:List Nat}(hc:LD c=true)(hl:v.length<=1000)(m:([c],v)∈gD B):AM g L sl ll B d dp [36,c] v [vr [c] .none]:=by
 have:=FS (L:=L) (sl:=sl) (ll:=ll) (B:=B) (dp:=dp) (d:=d) (ks:=[GG [c] v]) P (fun b T k q=>by rw[List.mem_singleton.mp q];exact .var P tH (List.cons_ne_nil _ _) (by rw[List.all_cons,hc];rfl)) (fun k q=>by rw[List.mem_singleton.mp q];exact .rd (d:=d+3) P m) rfl (fun k q=>nomatch q) rfl (fun q=>by cases q) (fun q=>by cases q) (Nat.le_of_ble_eq_true rfl) (by rw[show DC [GG [c] v]=v from List.append_nil v];exact kC hl)
 rw[show DC [GG [c] v]=v from List.append_nil v]at this
 exact this
theorem sX(P:sB g):AM g L sl ll B d dp [110,111,116,101] [110,111,116,101] [tx [110,111,116,101]]:=
 FS (ks:=[wG [110,111,116,101]]) P (fun b T k q=>by rw[List.mem_singleton.mp q];exact .lit (by cases b <;>rfl)) (fun k q=>by rw[List.mem_singleton.mp q];exact .txt) rfl (fun k q=>nomatch q) rfl (fun q=>by cases q) (fun q=>by cases q) (Nat.le_of_ble_eq_true rfl) (Nat.le_of_ble_eq_true rfl)
theorem qV(P:sB g):AM g L sl ll B d dp (123::([36,97,32,91,103,105,118,101,32,57,32,120,93]++[125])) [36,97,32,91,103,105,118,101,32,57,32,120,93] (VB [36,97,32,91,103,105,118,101,32,57,32,120,93]):=
 ⟨fun b=>DJ (x:=false) P (by decide) fun r=>jA.run (by decide) .done,fun st h=>aN (d:=d+6) P (Nat.le_of_ble_eq_true rfl)⟩
theorem rV(P:sB g)(ok:yE B):AM g L sl ll B d dp [34,36,99,59,92,93,36,97,34] (B.c++[59,93]++B.a) [vr [99] .none,tx [59,93],vr [97] .none]:=by
 have hks:∀k∈[GG [99] B.c,wG [59],⟨[92,93],none,[93],none⟩,GG [97] B.a],(∀T,FJ g T (d+4) [34] k)/\BO g L sl ll B (d+6) dp k/\vJ k=true:=by
  simp only[List.forall_mem_cons,List.not_mem_nil,false_implies,implies_true,and_true]
  exact⟨⟨fun T=> .var P TL (by decide) rfl, .rd (d:=d+3) P (.tail _ (.tail _ (.head _))),rfl⟩,⟨fun T=> .lit rfl, .txt,rfl⟩,⟨fun T=> .esc (s:=[93]) (v:=[93]) (s2:=[]) TL (fun r=> .plain rfl) (by decide) (by decide) rfl, .txt,rfl⟩,fun T=> .var P TL (by decide) rfl, .rd (d:=d+3) P (.head _),rfl⟩
 have ev:DC [GG [99] B.c,wG [59],⟨[92,93],none,[93],none⟩,GG [97] B.a]=B.c++[59,93]++B.a:=by
  show B.c++([59]++([93]++(B.a++[])))=_
  rw[List.append_nil,List.append_assoc];rfl
 refine⟨fun b=>IN (x:=false) (ks:=[GG [99] B.c,wG [59],⟨[92,93],none,[93],none⟩,GG [97] B.a]) P (fun T k m=>(hks k m).1 T) fun k m=>(hks k (.tail _ m)).2.2,fun st h=>?_⟩
 have a:=ok.a.len
 have c:=ok.c.len
 have:=NO (st:=st) P (fun k m=>(hks k m).2.1) h (Nat.le_of_ble_eq_true rfl) (by rw[ev,List.length_append,List.length_append];exact rC a c (by simp+arith only[List.length_cons,List.length_nil]))
 rw[ev,show tB _=[]from rfl,GF]at this
 exact this
structure zE(g:G)(L:HL)(sl ll:Nat)(B:Bk)(d:Nat)(k:Ck):Prop where
 p:∀T st,st=qB false\/st=[34]->FJ g T (d+10) st k
 e:BO g L sl ll B (d+11) 0 k
 f:vJ k=true
 s:xJ k.w=true
 h:k.w.head?≠some 123/\k.w.head?≠some 34
theorem tG(h:st=qB false\/st=[34]):CM st:=h.elim (fun e=>e ▸ tH) fun e=>e ▸ TL
theorem KT{c:Nat}{t:List Nat}(h:c≠123)(k:c≠34):(c::t).head?≠some 123/\(c::t).head?≠some 34:=⟨fun q=>h (Option.some.inj q),fun q=>k (Option.some.inj q)⟩
theorem zE.lit{s:List Nat}(h:(s.all (RC (qB false))&&s.all (RC [34])&&vJ (wG s)&&xJ s)=true)(h2:s.head?≠some 123/\s.head?≠some 34):zE g L sl ll B d (wG s):=by
 simp only[Bool.and_eq_true]at h
 exact⟨fun T st q=>q.elim (fun q=>q ▸ .lit h.1.1.1) fun q=>q ▸ .lit h.1.1.2, .txt,h.1.2,h.2,h2⟩
theorem zE.esc{s v:List Nat}(hb:∀r,Bs (s++r) v r)(h10:s.head?≠some 10)(h0:s≠[])(hs:xJ (92::s)=true):zE g L sl ll B d ⟨92::s,none,v,none⟩:=
 ⟨fun T st q=>by have:=FJ.esc (g:=g) (T:=T) (d:=d+10) (s2:=[]) (tG q) hb h10 h0 rfl;rw[List.append_nil,List.append_nil]at this;exact this, .txt,rfl,hs,KT (by decide) (by decide)⟩
theorem zE.bv(P:sB g){nm v:List Nat}(hn:∀c∈123::nm,c≠125)(m:(nm,v)∈gD B):zE g L sl ll B d (Wb nm v):=
 ⟨fun T st q=> .bvr P (tG q) hn, .rd (d:=d+8) P m,rfl,rfl,KT (by decide) (by decide)⟩
theorem zE.gv(P:sB g){t:Nat}{w v:List Nat}{ps:List V}{res:List Nat}(hc:L.cmds=OC sl ll res)(ht:t∈[49,50,51,52,53,54])(hw:w.length<=100)(h:∀d dp,AM g L sl ll B d dp w v ps):zE g L sl ll B d ⟨91::([103,105,118,101,32,t,32]++w++[93]),some (cm ([103,105,118,101,32,t,32]++w)),v,some ([t],v)⟩:=
 ⟨fun T st q=> .cmd (tG q) (eO P ht (h (d+2) 0)), .cmd fun st S=>fO (d:=d+1) P hc ht (by decide) hw (h _ _) S,rfl,rfl,KT (by decide) (by decide)⟩
end
section
variable{g:G}{d:Nat}{B:Bk}{L:HL}{sl ll n dp:Nat}{st:List Nat}{res:List Nat}
theorem zE.vr(P:sB g){nm v:List Nat}(h0:nm≠[])(hn:nm.all LD=true)(m:(nm,v)∈gD B):zE g L sl ll B d (GG nm v):=
 ⟨fun T st q=> .var P (tG q) h0 hn, .rd (d:=d+8) P m,rfl,by cases nm <;>rfl,KT (by decide) (by decide)⟩
theorem zX(P:sB g)(ok:yE B):zE g L sl ll B d ⟨[36,109,40,36,98,41],some (vr [109] (.tup [vr [98] .none])),B.m,none⟩:=by
 have hp:∀T,∀k∈[GG [98] B.b],FJ g T (d+8) [41] k:=fun T k m=>by rw[List.mem_singleton.mp m];exact .var P PL (List.cons_ne_nil _ _) rfl
 refine⟨fun T st q=> .arr (d:=d+6) (nm:=[109]) (ix:=[36,98]) P (tG q) (List.cons_ne_nil _ _) rfl fun r=>MK (d:=d+4) P.toProg (MO (ks:=[GG [98] B.b]) (acc:=[]) (run:=[]) PL (hp T) (fun k m=>nomatch m) (.c (c:=41) (r:=r) rfl)),?_,rfl,rfl,KT (by decide) (by decide)⟩
 have b:=ok.b.len
 refine .arr (d:=d+8) (i:=B.b) P (fun st S=>?_) (by show 1+B.b.length<=_;exact qC b) (.tail _ (.tail _ (.tail _ (.tail _ (.tail _ (.tail _ (.tail _ (.head _))))))))
 have:=NO (d:=d+10) (ks:=[GG [98] B.b]) (st:=st) P (fun k m=>by rw[List.mem_singleton.mp m];exact .rd (d:=d+7) P (.tail _ (.head _))) S (Nat.le_of_ble_eq_true rfl) (by rw[show DC [GG [98] B.b]=B.b from List.append_nil _];exact kC b)
 rw[show DC [GG [98] B.b]=B.b from List.append_nil _]at this
 exact this
theorem AY(P:sB g)(ok:yE B)(hc:L.cmds=OC sl ll res):zE g L sl ll B d ⟨[36,109,40,107,36,99,45,91,103,105,118,101,32,49,32,36,97,93,41],some (vr [109] (.tup [tx [107],vr [99] .none,tx [45],cm [103,105,118,101,32,49,32,36,97]])),B.x,some ([49],B.a)⟩:=by
 have a:=ok.a.len
 have c:=ok.c.len
 have nw:∀d dp,AM g L sl ll B d dp [36,97] B.a [vr [97] .none]:=fun d dp=>UQ P rfl (kC a) (.head _)
 have hk:∀k∈[GG [99] B.c,wG [45],⟨91::([103,105,118,101,32,49,32]++[36,97]++[93]),some (cm ([103,105,118,101,32,49,32]++[36,97])),B.a,some ([49],B.a)⟩],(∀T,FJ g T (d+8) [41] k)/\BO g L sl ll B (d+10) 0 k/\vJ k=true:=by
  simp only[List.forall_mem_cons,List.not_mem_nil,false_implies,implies_true,and_true]
  exact⟨⟨fun T=> .var P PL (by decide) rfl, .rd (d:=d+7) P (.tail _ (.tail _ (.head _))),rfl⟩,⟨fun T=> .lit rfl, .txt,rfl⟩,fun T=> .cmd PL (eO P (by decide) (nw d 0)), .cmd fun st S=>fO (d:=d) P hc (by decide) (by decide) (Nat.le_of_ble_eq_true rfl) (nw _ _) S,rfl⟩
 refine⟨fun T st q=> .arr (d:=d+6) (nm:=[109]) (ix:=[107,36,99,45,91,103,105,118,101,32,49,32,36,97,93]) P (tG q) (List.cons_ne_nil _ _) rfl fun r=>MK (d:=d+4) P.toProg (MO (ks:=wG [107]::[GG [99] B.c,wG [45],⟨91::([103,105,118,101,32,49,32]++[36,97]++[93]),some (cm ([103,105,118,101,32,49,32]++[36,97])),B.a,some ([49],B.a)⟩]) (acc:=[]) (run:=[]) PL (List.forall_mem_cons.mpr ⟨.lit rfl,fun k m=>(hk k m).1 T⟩) (fun k m=>(hk k m).2.2) (.c (c:=41) (r:=r) rfl)),?_,rfl,rfl,KT (by decide) (by decide)⟩
 have ev:DC [wG [107],GG [99] B.c,wG [45],⟨91::([103,105,118,101,32,49,32]++[36,97]++[93]),some (cm ([103,105,118,101,32,49,32]++[36,97])),B.a,some ([49],B.a)⟩]=[107]++B.c++[45]++B.a:=by
  show[107]++(B.c++([45]++(B.a++[])))=_
  rw[List.append_nil,List.append_assoc,List.append_assoc]
 have hl:([107]++B.c++[45]++B.a).length<=1000:=by
  rw[List.length_append,List.length_append,List.length_append];exact rC a c (by simp+arith only[List.length_cons,List.length_nil])
 refine .arr (d:=d+8) (i:=[107]++B.c++[45]++B.a) P (fun st S=>?_) (by show 1+_<=_;exact qC hl) (.tail _ (.tail _ (.tail _ (.tail _ (.tail _ (.tail _ (.tail _ (.tail _ (.head _)))))))))
 have:=NO (d:=d+10) (st:=st) P (List.forall_mem_cons.mpr ⟨.txt,fun k m=>(hk k m).2.1⟩) S (Nat.le_of_ble_eq_true rfl) (by rw[ev];exact kC hl)
 rw[ev]at this
 exact this
theorem vV(P:sB g)(ok:yE B)(hc:L.cmds=OC sl ll res):∀k∈oW B,zE g L sl ll B d k:=by
 have a:=ok.a.len
 have b:=ok.b.len
 refine List.forall_mem_append.mpr ⟨?_,?_⟩
 ·simp only[ye,List.forall_mem_cons,List.not_mem_nil,false_implies,implies_true,and_true]
  exact⟨.lit rfl (by decide), .vr P (by decide) rfl (.head _), .bv P (by decide) (.tail _ (.tail _ (.head _))),zX P ok, .bv P (by decide) (.tail _ (.tail _ (.tail _ (.head _)))),AY P ok hc,
   .gv (w:=[36,98]) P hc (by decide) (Nat.le_of_ble_eq_true rfl) fun d dp=>UQ P rfl (kC b) (.tail _ (.head _)), .gv P hc (by decide) (Nat.le_of_ble_eq_true rfl) fun d dp=>qV P, .gv P hc (by decide) (Nat.le_of_ble_eq_true rfl) fun d dp=>rV P ok⟩
 ·simp only[fb,List.forall_mem_cons,List.not_mem_nil,false_implies,implies_true,and_true]
  exact⟨.esc (fun r=> .plain rfl) (by decide) (by decide) rfl, .esc (fun r=> .plain rfl) (by decide) (by decide) rfl, .esc (fun r=> .hex (by decide) (by decide) (by decide) (by decide)) (by decide) (by decide) rfl, .esc (fun r=> .plain rfl) (by decide) (by decide) rfl, .esc (fun r=> .newline) (by decide) (by decide) rfl, .esc (fun r=> .plain rfl) (by decide) (by decide) rfl, .lit rfl (by decide), .lit rfl (by decide), .lit rfl (by decide)⟩
end
section
variable{g:G}{d:Nat}{B:Bk}{L:HL}{sl ll n dp:Nat}{res why sort:List Nat}{is:List (List Nat)}
noncomputable def mf(q:Bool):List Nat:=match q with | true=>[34] | false=>qB false
theorem nf(q:Bool):mf q=qB false\/mf q=[34]:=by cases q;exact .inl rfl;exact .inr rfl
structure oH(g:G)(L:HL)(sl ll:Nat)(B:Bk)(d:Nat)(q:Bool)(ks:List Ck):Prop where
 p:∀k∈ks,∀T,FJ g T (d+10) (mf q) k
 e:∀k∈ks,BO g L sl ll B (d+11) 0 k
 f:∀k∈ks.tail,vJ k=true
 s:q=false->xJ (OB ks)=true/\(OB ks).head?≠some 123/\(OB ks).head?≠some 34
 n:ks.length<=10
 w:(OB ks).length<=300
 v:(DC ks).length<=2000
 c:(tB ks).length<=4
theorem oH.wd(P:sB g){x q:Bool}{ks:List Ck}(h:oH g L sl ll B d q ks):OM g (d+12) false (Wo.cks x q ks).w (wL x (KL ks [])):=by
 cases q with
 | false=>exact sL (d:=d+6) P (fun T k m=>h.p k m T) h.f (h.s rfl).1 (h.s rfl).2.1 (h.s rfl).2.2
 | true=>exact IN (d:=d+6) P (fun T k m=>h.p k m T) h.f
noncomputable def RU(g:G)(L:HL)(sl ll:Nat)(B:Bk)(d:Nat)(ps:List V)(t:List Nat)(c:List (List Nat×List Nat)):Prop:=∀st:(W1 L sl ll).St,HJ B c.length 0 st->jE g (W1 L sl ll) L.h (d+12) ps st (.ok (.str t) (bump st c))
theorem oH.tv(P:sB g){q:Bool}{ks:List Ck}(h:oH g L sl ll B d q ks):RU g L sl ll B d (KL ks []) (DC ks) (tB ks):=fun st S=>NO (d:=d+11) P h.e S (kC h.n) (kC h.v)
theorem bO(P:sB g){s:List Nat}(h:s.length<=1000):RU g L sl ll B d (VB s) s []:=fun st S=>by rw[GF];exact aN (d:=d+11) P (kC h)
noncomputable def sf(g:G)(L:HL)(sl ll:Nat)(B:Bk)(why sort:List Nat)(d:Nat)(v:V)(c:List (List Nat×List Nat))(ws:List (List Nat)):Bool->Prop
 | false=>∀(st:(W1 L sl ll).St) (acc:List (List Nat)) (rest:List V) (o:pH (W1 L sl ll)),HJ B c.length 0 st->acc.length<=1000->uC g (W1 L sl ll) L.h (d+12) rest (bump st c) (acc++ws) o->uC g (W1 L sl ll) L.h (d+12) (v::rest) st acc o
 | true=>∀(st:(W1 L sl ll).St) (acc:List (List Nat)) (rest:List V),HJ B 0 0 st->uC g (W1 L sl ll) L.h (d+12) (v::rest) st acc (.err (VF why (BF sort)) st)
structure EG(g:G)(L:HL)(sl ll:Nat)(B:Bk)(why sort:List Nat)(d:Nat)(r:EE):Prop where
 ex:∃v,OM g (d+12) false r.o.w v/\sf g L sl ll B why sort d v r.o.c r.ws r.bad
 w:r.o.w.length<=310
 s:r.ws.length<=10
 c:r.o.c.length<=4
 bad:r.bad=true->r.ws=[]/\r.o.c=[]
theorem Wo.w_len{x q:Bool}{ks:List Ck}(h:(OB ks).length<=300):(Wo.cks x q ks).w.length<=310:=by
 show(xW x++qW q (OB ks)).length<=310
 cases x <;>cases q <;>simp only[xW,qW,List.length_append,List.length_cons,List.length_nil] <;>omega
theorem EG.one{o:Wo}{ps:List V}{t:List Nat}(h:OM g (d+12) false o.w (wL false ps))(k:RU g L sl ll B d ps t o.c)(h1:o.w.length<=310)(h2:o.c.length<=4):EG g L sl ll B why sort d ⟨o,[t],false⟩:=
 ⟨⟨_,h,fun st acc rest o S ha hr=> .word (k st S) (kC ha) hr⟩,h1,Nat.le_of_ble_eq_true rfl,h2,fun q=>Bool.noConfusion q⟩
theorem EG.many{o:Wo}{ps:List V}{t:List Nat}{ws:List (List Nat)}(h:OM g (d+12) false o.w (wL true ps))(k:RU g L sl ll B d ps t o.c)(hs:SL t [] (.ok ws))(ht:t.length<=2000)(hw:ws.length<=10)(h1:o.w.length<=310)(h2:o.c.length<=4):EG g L sl ll B why sort d ⟨o,ws,false⟩:=
 ⟨⟨_,h,fun st acc rest o S ha hr=> .more (k st S) (kC ht) hs (Nat.le_trans (Nat.add_le_add ha hw) (by decide)) hr⟩,h1,hw,h2,fun q=>Bool.noConfusion q⟩
theorem EG.wrong{o:Wo}{ps:List V}{t:List Nat}(h:OM g (d+12) false o.w (wL true ps))(k:RU g L sl ll B d ps t [])(hs:SL t [] (.bad why sort))(ht:t.length<=2000)(h1:o.w.length<=310)(hc:o.c=[]):EG g L sl ll B why sort d ⟨o,[],true⟩:=
 ⟨⟨_,h,fun st acc rest S=>by have:=k st S;rw[GF]at this;exact .moreE this (kC ht) hs⟩,h1,Nat.zero_le _,by rw[show(⟨o,[],true⟩:EE).o.c=[]from hc];exact Nat.zero_le _,fun _=>⟨rfl,hc⟩⟩
structure uP(B:Bk)(is:List (List Nat))(why sort:List Nat):Prop where
 ok:yE B
 l:BK B.l is
 n:is.length<=5
 w:∀acc,SL B.w acc (.bad why sort)
end
section
variable{g:G}{d:Nat}{B:Bk}{L:HL}{sl ll n dp:Nat}{res why sort:List Nat}{is:List (List Nat)}
theorem AV(k:Ck):OB [k]=k.w:=List.append_nil _
theorem ZN(k:Ck):DC [k]=k.v:=List.append_nil _
theorem UV{k:Ck}(hp:∀T,FJ g T (d+10) (qB false) k)(he:BO g L sl ll B (d+11) 0 k)(hs:xJ k.w=true)(hh:k.w.head?≠some 123/\k.w.head?≠some 34)(hw:k.w.length<=300)(hv:k.v.length<=2000):oH g L sl ll B d false [k] where
 p:=fun k' m T=>by rw[List.mem_singleton.mp m];exact hp T
 e:=fun k' m=>by rw[List.mem_singleton.mp m];exact he
 f:=fun k m=>nomatch m
 s:=fun _=>by rw[AV];exact⟨hs,hh⟩
 n:=Nat.le_of_ble_eq_true rfl
 w:=by rw[AV];exact hw
 v:=by rw[ZN];exact hv
 c:=Nat.le_trans (List.length_filterMap_le ..) (Nat.le_of_ble_eq_true rfl)
theorem FL{k:Ck}(h:zE g L sl ll B d k)(hw:k.w.length<=300)(hv:k.v.length<=2000):oH g L sl ll B d false [k]:=UV (fun T=>h.p T _ (.inl rfl)) h.e h.s h.h hw hv
theorem lQ(P:sB g){k:Ck}(h:oH g L sl ll B d false [k]):EG g L sl ll B why sort d ⟨.cks false false [k],[k.v],false⟩:=
 .one (h.wd P) (by have:=h.tv P;rw[ZN]at this;exact this) (Wo.w_len h.w) h.c
theorem TK(P:sB g){k:Ck}{ws:List (List Nat)}(h:oH g L sl ll B d false [k])(hs:SL k.v [] (.ok ws))(hw:ws.length<=10):EG g L sl ll B why sort d ⟨.cks true false [k],ws,false⟩:=
 .many (h.wd P) (h.tv P) (by rw[ZN];exact hs) h.v hw (Wo.w_len h.w) h.c
theorem rL(P:sB g){s:List Nat}(h0:s.head?≠some 42\/s.length<=0)(hp:∀r,jA 1 (s++125::r) [] (some (s,r)))(hl:s.length<=100):EG g L sl ll B why sort d ⟨.brc false s,[s],false⟩:=
 .one (ps:=VB s) (DJ (d:=d+6) (x:=false) P (h0.elim id fun q=>by rw[List.length_eq_zero_iff.mp (Nat.le_zero.mp q)];decide) hp) (bO P (kC hl)) (by show(123::(s++[125])).length<=310;simp only[List.length_append,List.length_cons,List.length_nil];omega) (Nat.zero_le _)
theorem gW(P:sB g){s:List Nat}{ws:List (List Nat)}(h0:s.head?≠some 42)(hp:∀r,jA 1 (s++125::r) [] (some (s,r)))(hl:s.length<=100)(hs:SL s [] (.ok ws))(hw:ws.length<=10):EG g L sl ll B why sort d ⟨.brc true s,ws,false⟩:=
 .many (ps:=VB s) (DJ (d:=d+6) (x:=true) P h0 hp) (bO P (kC hl)) hs (kC hl) hw (by show(xW true++123::(s++[125])).length<=310;simp only[xW,List.length_append,List.length_cons,List.length_nil];omega) (Nat.zero_le _)
theorem RR(ok:yE B){m:Nat}{y:Int}{s:List Nat}(hm:m<=5)(hs:s.length<=2):(dA s ((NB B m y).map (·.w))).length<=300:=
 Nat.le_trans (PE s _) (Nat.le_trans (eI (f:=fun k=>k.w) (k:=30) (fun x h=>(OK ok x (ZD _ _ x h)).1) (by rw[YD];exact hm) hs) (by decide))
theorem QR(ok:yE B){m:Nat}{y:Int}{s:List Nat}(hm:m<=5)(hs:s.length<=2):(dA s ((NB B m y).map (·.v))).length<=2000:=
 Nat.le_trans (PE s _) (Nat.le_trans (eI (f:=fun k=>k.v) (k:=202) (fun x h=>(OK ok x (ZD _ _ x h)).2) (by rw[YD];exact hm) hs) (by decide))
theorem HO{ks:List Ck}{k:Nat}(h:ks.length<=k):(tB ks).length<=k:=Nat.le_trans (List.length_filterMap_le ..) h
theorem kX(P:sB g)(ok:yE B)(hc:L.cmds=OC sl ll res){m:Nat}{y:Int}(h1:1<=m)(h4:m<=4):oH g L sl ll B d false (NB B m y):=by
 have pk:∀k∈NB B m y,zE g L sl ll B d k:=fun k h=>vV P ok hc k (ZD m y k h)
 have hn:(NB B m y).length<=4:=by rw[YD];exact h4
 refine⟨fun k h T=>(pk k h).p T _ (.inl rfl),fun k h=>(pk k h).e,fun k h=>(pk k (List.mem_of_mem_tail h)).f,fun _=>?_,kC hn,by rw[show OB (NB B m y)=dA [] ((NB B m y).map (·.w))from(zC _).symm];exact RR ok (kC h4) (by decide),by rw[show DC (NB B m y)=dA [] ((NB B m y).map (·.v))from(zC _).symm];exact QR ok (kC h4) (by decide),HO hn⟩
 revert pk
 rcases m with _ | m
 ·exact absurd h1 (by decide)
 ·intro pk
  have h:=pk (pc B y) (.head _)
  have e:OB (NB B (m+1) y)=(pc B y).w++OB (NB B m (y.fdiv 18)):=rfl
  rw[e]
  refine⟨uG _ h.s,?_⟩
  have h2:=h.h
  have h3:=h.s
  revert h2 h3
  cases (pc B y).w with
  | nil=>exact fun _ h=>Bool.noConfusion h
  | cons c w=>exact fun h _=>h
theorem nG{s:List Nat}:∀{ks:List Ck},∀k∈nE s ks,k=wG s\/k∈ks
 | [],k,m=>nomatch m
 | [k'],k,m=> .inr m
 | k'::k2::r,k,m=>by
   rw[fN]at m
   rcases List.mem_cons.mp m with q | m
   ·exact .inr (q ▸ .head _)
   rcases List.mem_cons.mp m with q | m
   ·exact .inl q
   ·exact(nG (ks:=k2::r) k m).imp id fun q=> .tail _ q
theorem fM{s:List Nat}:∀{ks:List Ck},(nE s ks).length<=2*ks.length
 | []=>Nat.le_refl _
 | [k']=>Nat.le_of_ble_eq_true rfl
 | k'::k2::r=>by
   have:=fM (s:=s) (ks:=k2::r)
   rw[fN,List.length_cons,List.length_cons,List.length_cons]
   omega
theorem dc(P:sB g):∀s∈EH,(∀T,FJ g T (d+10) [34] (wG s))/\vJ (wG s)=true/\s.length<=2:=by
 simp only[EH,List.forall_mem_cons,List.not_mem_nil,false_implies,implies_true,and_true]
 exact⟨⟨fun T=> .lit rfl,rfl,by decide⟩,⟨fun T=> .lit rfl,rfl,by decide⟩,⟨fun T=> .lit rfl,rfl,by decide⟩,⟨fun T=> .dol (d:=d+6) P,rfl,by decide⟩,fun T=> .lit rfl,rfl,by decide⟩
theorem Ka(P:sB g)(ok:yE B)(hc:L.cmds=OC sl ll res){m:Nat}{y:Int}{s:List Nat}(h4:m<=4)(hs:s∈EH):oH g L sl ll B d true (nE s (NB B m y)):=by
 obtain⟨b1,b2,b3⟩:=dc (d:=d) P s hs
 have pk:∀k∈NB B m y,zE g L sl ll B d k:=fun k h=>vV P ok hc k (ZD m y k h)
 have hn:(NB B m y).length<=4:=by rw[YD];exact h4
 exact⟨fun k h T=>(nG k h).elim (fun q=>q ▸ b1 T) fun h=>(pk k h).p T _ (.inr rfl),fun k h=>(nG k h).elim (fun q=>q ▸ .txt) fun h=>(pk k h).e,fun k h=>(nG k (List.mem_of_mem_tail h)).elim (fun q=>q ▸ b2) fun h=>(pk k h).f,fun q=>Bool.noConfusion q,
  Nat.le_trans fM (Nat.le_trans (Nat.mul_le_mul_left 2 hn) (by decide)),by rw[iN];exact RR ok (kC h4) b3,by rw[gN];exact QR ok (kC h4) b3,by rw[PG];exact HO hn⟩
end
section
variable{g:G}{d:Nat}{B:Bk}{L:HL}{sl ll n dp:Nat}{res why sort:List Nat}{is:List (List Nat)}
theorem tZ:BK [120] [[120]]:= .elt (.bare (c:=120) (w:=[]) (by decide) (by decide))
theorem SR:BK [110,111,116,101] [[110,111,116,101]]:= .elt (.bare (c:=110) (w:=[111,116,101]) (by decide) (by decide))
theorem aK{a b:List Nat}{i j:List (List Nat)}(h:BK a i)(k:BK b j):BK (a++[32]++b) (i++j):=h.app k (List.cons_ne_nil _ _) (by decide)
theorem gU(P:sB g):∀s∈VE,EG g L sl ll B why sort d ⟨.brc false s,[s],false⟩:=by
 simp only[VE,List.forall_mem_cons,List.not_mem_nil,false_implies,implies_true,and_true]
 exact⟨rL P (.inl (by decide)) (fun r=>jA.run (by decide) .done) (by decide),
  rL P (.inl (by decide)) (fun r=> .bs (by decide) (jA.run (w:=[99,59]) (by decide) (.opn (jA.run (w:=[10]) (by decide) (.cls Nat.one_pos .done))))) (by decide),
  rL P (.inl (by decide)) (fun r=> .done) (by decide),
  rL P (.inl (by decide)) (fun r=> .opn (jA.run (w:=[42]) (by decide) (.cls Nat.one_pos (jA.run (w:=[36,108,32]) (by decide) (.bs (by decide) .done))))) (by decide)⟩
theorem BZ(P:sB g)(ok:yE B){k:Ck}(hk:zE g L sl ll B d k)(hw:k.w.length<=10)(hv:k.v.length<=100)(hc:k.c=none):oH g L sl ll B d true [GG [108] B.l,wG [32],k]/\DC [GG [108] B.l,wG [32],k]=B.l++[32]++k.v/\tB [GG [108] B.l,wG [32],k]=[]:=by
 have hl:zE g L sl ll B d (GG [108] B.l):= .vr P (List.cons_ne_nil _ _) rfl (.tail _ (.tail _ (.tail _ (.tail _ (.tail _ (.tail _ (.tail _ (.tail _ (.tail _ (.head _))))))))))
 have ev:DC [GG [108] B.l,wG [32],k]=B.l++[32]++k.v:=by
  show B.l++([32]++(k.v++[]))=_
  rw[List.append_nil,List.append_assoc]
 have ec:tB [GG [108] B.l,wG [32],k]=[]:=by rw[XC,XC,XC,hc];rfl
 refine⟨⟨List.forall_mem_cons.mpr ⟨fun T=>hl.p T _ (.inr rfl),List.forall_mem_cons.mpr ⟨fun T=> .lit rfl,List.forall_mem_cons.mpr ⟨fun T=>hk.p T _ (.inr rfl),fun k m=>nomatch m⟩⟩⟩,List.forall_mem_cons.mpr ⟨hl.e,List.forall_mem_cons.mpr ⟨.txt,List.forall_mem_cons.mpr ⟨hk.e,fun k m=>nomatch m⟩⟩⟩,
  List.forall_mem_cons.mpr ⟨rfl,List.forall_mem_cons.mpr ⟨hk.f,fun k m=>nomatch m⟩⟩,fun q=>Bool.noConfusion q,Nat.le_of_ble_eq_true rfl,?_,?_,by rw[ec];exact Nat.zero_le _⟩,ev,ec⟩
 ·show(36::108::32::(k.w++[])).length<=300
  rw[List.append_nil];simp only[List.length_cons];omega
 ·have:=ok.l
  rw[ev,List.length_append,List.length_append]
  show B.l.length+1+k.v.length<=2000
  omega
theorem pT(P:sB g)(hc:L.cmds=OC sl ll res)(E:uP B is why sort):∀r∈QK B is,EG g L sl ll B why sort d r:=by
 have ok:=E.ok
 have bl:=ok.l
 have ml:([108],B.l)∈gD B:= .tail _ (.tail _ (.tail _ (.tail _ (.tail _ (.tail _ (.tail _ (.tail _ (.tail _ (.head _)))))))))
 have hl:zE g L sl ll B d (GG [108] B.l):= .vr P (List.cons_ne_nil _ _) rfl ml
 have h10:is.length<=10:=kC E.n
 have h2000:B.l.length<=2000:=kC bl
 simp only[QK,List.forall_mem_cons,List.not_mem_nil,false_implies,implies_true,and_true]
 refine⟨TK P (FL hl (Nat.le_of_ble_eq_true rfl) h2000) E.l.all h10,TK P (FL (.bv P (by decide) ml) (Nat.le_of_ble_eq_true rfl) h2000) E.l.all h10,?_,
  TK P (FL (.gv (w:=[36,108]) P hc (by decide) (Nat.le_of_ble_eq_true rfl) fun d dp=>UQ P rfl (kC bl) ml) (Nat.le_of_ble_eq_true rfl) h2000) E.l.all h10,?_,?_⟩
 ·obtain⟨k1,k2,k3⟩:=BZ P ok hl (Nat.le_of_ble_eq_true rfl) bl rfl
  exact .many (k1.wd P) (k1.tv P) (by rw[k2];exact(aK E.l E.l).all) k1.v (by rw[List.length_append];exact Nat.add_le_add E.n E.n) (Wo.w_len k1.w) k1.c
 ·exact gW P (by decide) (fun r=>jA.run (w:=[120,32]) (by decide) (.opn (jA.run (w:=[36,97,32,91,103,105,118,101,32,57,32,120,93]) (by decide) (.cls Nat.one_pos (jA.run (w:=[32,34,36,99,34]) (by decide) .done))))) (by decide)
   (aK tZ (aK (.elt (.brace (w:=[36,97,32,91,103,105,118,101,32,57,32,120,93]) (by decide))) (.elt (.quote (w:=[36,99]) (by decide))))).all (Nat.le_of_ble_eq_true rfl)
 ·have ks:oH g L sl ll B d false [GG [108] B.l,⟨[92,32,120],none,[32,120],none⟩]:=
   ⟨List.forall_mem_cons.mpr ⟨fun T=>hl.p T _ (.inl rfl),List.forall_mem_cons.mpr ⟨fun T=> .esc (s:=[32]) (v:=[32]) (s2:=[120]) tH (fun r=> .plain rfl) (by decide) (by decide) rfl,fun k m=>nomatch m⟩⟩,List.forall_mem_cons.mpr ⟨hl.e,List.forall_mem_cons.mpr ⟨.txt,fun k m=>nomatch m⟩⟩,List.forall_mem_cons.mpr ⟨rfl,fun k m=>nomatch m⟩,fun _=>⟨rfl,KT (by decide) (by decide)⟩,Nat.le_of_ble_eq_true rfl,Nat.le_of_ble_eq_true rfl,
    by show(B.l++[32,120]).length<=2000;rw[List.length_append];show B.l.length+2<=2000;omega,Nat.le_of_ble_eq_true rfl⟩
  exact .many (ks.wd P) (ks.tv P) (by have:=(aK E.l tZ).all;rw[List.append_assoc]at this;exact this) ks.v (by rw[List.length_append];show is.length+1<=10;exact qC E.n) (Wo.w_len ks.w) ks.c
theorem GU(P:sB g)(E:uP B is why sort):∀r∈oQ B,EG g L sl ll B why sort d r:=by
 have ok:=E.ok
 have hw:zE g L sl ll B d (GG [119] B.w):= .vr P (List.cons_ne_nil _ _) rfl (.tail _ (.tail _ (.tail _ (.tail _ (.tail _ (.tail _ (.tail _ (.tail _ (.tail _ (.tail _ (.head _)))))))))))
 simp only[oQ,List.forall_mem_cons,List.not_mem_nil,false_implies,implies_true,and_true]
 obtain⟨k1,k2,k3⟩:=BZ P ok hw (Nat.le_of_ble_eq_true rfl) ok.w rfl
 have ks:=FL hw (Nat.le_of_ble_eq_true rfl) (kC ok.w)
 exact⟨.wrong (ks.wd P) (ks.tv P) (by rw[ZN];exact E.w []) ks.v (Wo.w_len ks.w) rfl, .wrong (k1.wd P) (by rw[<-k3];exact k1.tv P) (by rw[k2];exact E.l.bad (List.cons_ne_nil _ _) (by decide) E.w) k1.v (Wo.w_len k1.w) k3⟩
theorem cM(P:sB g)(hc:L.cmds=OC sl ll res):∀r∈GD,EG g L sl ll B why sort d r:=by
 simp only[GD,List.forall_mem_cons,List.not_mem_nil,false_implies,implies_true,and_true]
 have nm:([110],[110,111,116,101])∈gD B:= .tail _ (.tail _ (.tail _ (.tail _ (.head _))))
 have tm:([116],[116,101])∈gD B:= .tail _ (.tail _ (.tail _ (.tail _ (.tail _ (.head _)))))
 have pm:([112],[110,111,116,101,32,123,36,97,125,32,120])∈gD B:= .tail _ (.tail _ (.tail _ (.tail _ (.tail _ (.tail _ (.head _))))))
 refine⟨lQ P (UV (fun T=> .lit rfl) .txt rfl (KT (by decide) (by decide)) (Nat.le_of_ble_eq_true rfl) (Nat.le_of_ble_eq_true rfl)),lQ P (FL (.vr P (List.cons_ne_nil _ _) rfl nm) (Nat.le_of_ble_eq_true rfl) (Nat.le_of_ble_eq_true rfl)),?_,
  TK P (FL (.vr P (List.cons_ne_nil _ _) rfl pm) (Nat.le_of_ble_eq_true rfl) (Nat.le_of_ble_eq_true rfl)) (aK SR (aK (.elt (.brace (w:=[36,97]) (by decide))) tZ)).all (Nat.le_of_ble_eq_true rfl),
  lQ P (FL (.gv (w:=[110,111,116,101]) P hc (by decide) (Nat.le_of_ble_eq_true rfl) fun d dp=>sX P) (Nat.le_of_ble_eq_true rfl) (Nat.le_of_ble_eq_true rfl)),rL P (.inl (by decide)) (fun r=>jA.run (w:=[110,111,116,101]) (by decide) .done) (by decide),?_,
  gW P (by decide) (fun r=>jA.run (w:=[110,111,116,101,32,36,98]) (by decide) .done) (by decide) (aK SR (.elt (.bare (c:=36) (w:=[98]) (by decide) (by decide)))).all (Nat.le_of_ble_eq_true rfl)⟩
 ·have hb:zE g L sl ll B d (Wb [116] [116,101]):= .bv P (by decide) tm
  have ks:oH g L sl ll B d true [wG [110,111],Wb [116] [116,101]]:=
   ⟨List.forall_mem_cons.mpr ⟨fun T=> .lit rfl,List.forall_mem_cons.mpr ⟨fun T=>hb.p T _ (.inr rfl),fun k m=>nomatch m⟩⟩,List.forall_mem_cons.mpr ⟨.txt,List.forall_mem_cons.mpr ⟨hb.e,fun k m=>nomatch m⟩⟩,List.forall_mem_cons.mpr ⟨rfl,fun k m=>nomatch m⟩,fun q=>Bool.noConfusion q,Nat.le_of_ble_eq_true rfl,Nat.le_of_ble_eq_true rfl,Nat.le_of_ble_eq_true rfl,Nat.le_of_ble_eq_true rfl⟩
  exact .one (ks.wd P) (ks.tv P) (Wo.w_len ks.w) ks.c
 ·have ks:oH g L sl ll B d false [wG [110,111],⟨[92,120,55,52,101],none,[116,101],none⟩]:=
   ⟨List.forall_mem_cons.mpr ⟨fun T=> .lit rfl,List.forall_mem_cons.mpr ⟨fun T=> .esc (s:=[120,55,52]) (v:=[116]) (s2:=[101]) tH (fun r=> .hex (by decide) (by decide) (by decide) (by decide)) (by decide) (by decide) rfl,fun k m=>nomatch m⟩⟩,List.forall_mem_cons.mpr ⟨.txt,List.forall_mem_cons.mpr ⟨.txt,fun k m=>nomatch m⟩⟩,List.forall_mem_cons.mpr ⟨rfl,fun k m=>nomatch m⟩,fun _=>⟨rfl,KT (by decide) (by decide)⟩,Nat.le_of_ble_eq_true rfl,Nat.le_of_ble_eq_true rfl,Nat.le_of_ble_eq_true rfl,Nat.le_of_ble_eq_true rfl⟩
  exact .one (ks.wd P) (ks.tv P) (Wo.w_len ks.w) ks.c
theorem aR(P:sB g)(hc:L.cmds=OC sl ll res)(E:uP B is why sort){r:EE}(h:mD B is r):EG g L sl ll B why sort d r:=by
 induction h with
 | @bare m y h1 h4=>
   have ks:=kX (d:=d) (y:=y) P E.ok hc h1 h4
   exact .one (ks.wd P) (ks.tv P) (Wo.w_len ks.w) ks.c
 | @quo m y s h4 hs=>
   have ks:=Ka (d:=d) (y:=y) P E.ok hc h4 hs
   exact .one (ks.wd P) (ks.tv P) (Wo.w_len ks.w) ks.c
 | brc h=>exact gU P _ h
 | spread h=>exact pT P hc E _ h
 | wrong h=>exact GU P E _ h
 | first h=>exact cM P hc _ h
end
section
variable{g:G}{d:Nat}{B:Bk}{L:HL}{sl ll n dp:Nat}{res why sort:List Nat}{is:List (List Nat)}
noncomputable abbrev rP:Type:=List (List Nat)×List (List Nat×List Nat)×Bool
noncomputable def dG(a:rP)(r:EE):rP:=match a.2.2 with | true=>a | false=>(a.1++r.ws,a.2.1++r.o.c,r.bad)
theorem sK{ws:List (List Nat)}{cs:List (List Nat×List Nat)}:∀rs:List EE,rs.foldl dG (ws,cs,true)=(ws,cs,true)
 | []=>rfl
 | _::rs=>sK rs
noncomputable def Za(L:HL)(sl ll:Nat)(why sort:List Nat)(st:(W1 L sl ll).St)(a:rP):pH (W1 L sl ll):=match a.2.2 with | true=> .err (VF why (BF sort)) (bump st a.2.1) | false=> .ok a.1 (bump st a.2.1)
class inductive nW(g:G)(L:HL)(sl ll:Nat)(B:Bk)(why sort:List Nat)(d:Nat):List (List Nat×EE)->List GW->Prop
 | nil:nW g L sl ll B why sort d [] []
 | cons {gp:List Nat} {r:EE} {v:V} {rs:List (List Nat×EE)} {G:List GW}:zG gp->EG g L sl ll B why sort d r->OM g (d+12) false r.o.w v->sf g L sl ll B why sort d v r.o.c r.ws r.bad->nW g L sl ll B why sort d rs G->nW g L sl ll B why sort d ((gp,r)::rs) (⟨gp,r.o.w,v⟩::G)
theorem CW:∀{rs:List (List Nat×EE)},(∀x∈rs,zG x.1/\EG g L sl ll B why sort d x.2)->∃G,nW g L sl ll B why sort d rs G
 | [],_=>⟨[], .nil⟩
 | (gp,r)::rs,h=>by
   obtain⟨G,hG⟩:=CW fun x m=>h x (.tail _ m)
   obtain⟨h1,h2⟩:=h _ (.head _)
   obtain⟨v,h3,h4⟩:=h2.ex
   exact⟨_, .cons h1 h2 h3 h4 hG⟩
noncomputable def qT(rs:List (List Nat×EE)):List Nat:=(rs.map fun x=>x.1++x.2.o.w).flatten
theorem nW.w{rs:List (List Nat×EE)}{G:List GW}(h:nW g L sl ll B why sort d rs G):jB G=qT rs:=by
 induction h with
 | nil=>rfl
 | @cons gp r v rs G _ _ _ _ _ ih=>show gp++r.o.w++jB G=gp++r.o.w++qT rs;rw[ih]
theorem nW.p{rs:List (List Nat×EE)}{G:List GW}(h:nW g L sl ll B why sort d rs G):∀x∈G,zG x.g/\OM g (d+12) false x.w x.v:=by
 induction h with
 | nil=>exact fun x m=>nomatch m
 | cons h1 _ h3 _ _ ih=>exact List.forall_mem_cons.mpr ⟨⟨h1,h3⟩,ih⟩
theorem nW.e{st:(W1 L sl ll).St}{rs:List (List Nat×EE)}{G:List GW}(h:nW g L sl ll B why sort d rs G):∀{acc:List (List Nat)} {cs:List (List Nat×List Nat)},HJ B (4*rs.length) 0 (bump st cs)->acc.length+10*rs.length<=1000->
 uC g (W1 L sl ll) L.h (d+12) (G.map (·.v)) (bump st cs) acc (Za L sl ll why sort st ((rs.map (·.2)).foldl dG (acc,cs,false))):=by
 induction h with
 | nil=>exact fun {acc cs} _ _=> .nil
 | @cons gp r v rs G _ h2 _ h4 _ ih=>
   intro acc cs S ha
   rw[List.length_cons,Nat.mul_add]at S ha
   have hc:=h2.c
   have hs:=h2.s
   show uC _ _ _ _ (v::G.map (·.v)) _ _ (Za L sl ll why sort st ((rs.map (·.2)).foldl dG (acc++r.ws,cs++r.o.c,r.bad)))
   rcases hb:r.bad with _ | _
   ·rw[hb]at h4
    refine h4 _ _ _ _ (S.le (by omega)) (by omega) ?_
    rw[gK]
    exact ih (by rw[<-gK];exact S.bump (by omega)) (by rw[List.length_append];omega)
   ·rw[hb]at h4
    obtain⟨e1,e2⟩:=h2.bad hb
    rw[e1,e2,List.append_nil,List.append_nil,sK]
    exact h4 _ _ _ (S.le (Nat.zero_le _))
noncomputable def OF:List (List Nat):=[[],[10],[35,32,36,122,122,32,91,103,105,118,101,32,57,32,120,10],[32,59,9]]
noncomputable def fG:List (List Nat):=[[],[59],[10],[32,59,35,32,91,103,105,118,101,32,57,32,120,93],[92,10]]
theorem LT{s:List Nat}(h:xJ s=true):∀hd∈OF,GC (hd++s) s:=by
 have sk:=dI h
 have st:=RK h
 have k:∀{c:Nat} (r:List Nat),XG c=false->c≠92->IA (c::r)=c::r:=fun r h1 h2=>kD h1 fun q=>absurd q h2
 simp only[OF,List.forall_mem_cons,List.not_mem_nil,false_implies,implies_true,and_true]
 refine⟨st, .sep (k s rfl (by decide)) (.inl rfl) st, .com (k _ rfl (by decide)) ?_, .sep ((ZB rfl _).trans (k _ rfl (by decide))) (.inr rfl) (.stop ((ZB rfl _).trans sk) ?_)⟩
 ·obtain⟨c,t,rfl,_⟩:=wE h
  exact st
 ·intro c r q
  obtain⟨c',t,rfl,h1,h2⟩:=wE h
  cases q
  exact⟨h1.2.1,h1.2.2.1,h1.2.2.2.2⟩
theorem VW:∀tl∈fG,qJ (qB false) tl/\∃z,iS false tl z/\GC z []:=by
 have e0:GC [] []:= .stop rfl fun c r q=>nomatch q
 simp only[fG,List.forall_mem_cons,List.not_mem_nil,false_implies,implies_true,and_true]
 exact⟨⟨.inl rfl,[], .eof rfl,e0⟩,⟨.c rfl,[], .sep rfl (.inr rfl),e0⟩,⟨.c rfl,[], .sep rfl (.inl rfl),e0⟩,⟨.c rfl,_, .sep rfl (.inr rfl), .com rfl e0⟩, .inr ⟨92,[10],rfl, .inr ⟨rfl,rfl,rfl,[],rfl⟩⟩,[], .eof rfl,e0⟩
end
section
variable{g:G}{d:Nat}{J:List O}{B:Bk}{L:HL}{sl ll n dp:Nat}{res why sort:List Nat}{is:List (List Nat)}
theorem cO:∀{rs:List EE} {ws:List (List Nat)} {cs:List (List Nat×List Nat)} {b:Bool},(∀r∈rs,r.ws.length<=10/\r.o.c.length<=4)->∃t,(rs.foldl dG (ws,cs,b)).1=ws++t/\t.length<=10*rs.length/\(rs.foldl dG (ws,cs,b)).2.1.length<=cs.length+4*rs.length
 | [],ws,cs,b,_=>⟨[],(List.append_nil _).symm,Nat.le_refl _,Nat.le_refl _⟩
 | r::rs,ws,cs,true,_=>by rw[sK];exact⟨[],(List.append_nil _).symm,Nat.zero_le _,Nat.le_add_right _ _⟩
 | r::rs,ws,cs,false,h=>by
   obtain⟨t,h1,h2,h3⟩:=cO (ws:=ws++r.ws) (cs:=cs++r.o.c) (b:=r.bad) fun x m=>h x (.tail _ m)
   obtain⟨h4,h5⟩:=h r (.head _)
   rw[List.length_append]at h3
   refine⟨r.ws++t,h1.trans (List.append_assoc ..),?_,Nat.le_trans h3 ?_⟩
   ·rw[List.length_append,List.length_cons];omega
   ·rw[List.length_cons];omega
theorem NQ{A t:List Nat}:bE (A++t) t=1+(A.count 10:Int):=by
 unfold bE
 rw[List.length_append,Nat.add_sub_cancel,List.take_left,Nat.add_comm];rfl
theorem GT:∀r∈GD,∃args,r.ws=[110,111,116,101]::args:=by
 simp only[GD,List.forall_mem_cons,List.not_mem_nil,false_implies,implies_true,and_true]
 exact⟨⟨_,rfl⟩,⟨_,rfl⟩,⟨_,rfl⟩,⟨_,rfl⟩,⟨_,rfl⟩,⟨_,rfl⟩,⟨_,rfl⟩,_,rfl⟩
theorem qK:∀r∈GD,r.bad=false:=by
 simp only[GD,List.forall_mem_cons,List.not_mem_nil,false_implies,implies_true,and_true]
theorem eP:∀{rs:List (List Nat×EE)},(∀x∈rs,x.1.length<=4/\x.2.o.w.length<=310)->(qT rs).length<=314*rs.length
 | [],_=>Nat.le_refl _
 | x::rs,h=>by
   have:=eP fun y m=>h y (.tail _ m)
   have:=h x (.head _)
   show(x.1++x.2.o.w++qT rs).length<=_
   rw[List.length_append,List.length_append,List.length_cons];omega
noncomputable def xA(r0:EE)(rs:List (List Nat×EE)):rP:=(rs.map (·.2)).foldl dG (r0.ws,r0.o.c,false)
noncomputable def BD(r0:EE)(rs:List (List Nat×EE)):List Nat:=r0.o.w++qT rs
noncomputable def DQ(hd src why sort:List Nat):Rz:=⟨1,why,BF sort,why++QD++sD src++[34],true,1+(hd.count 10:Int)⟩
noncomputable def Hc(L:HL)(sl ll:Nat)(res hd src why sort:List Nat)(st:(W1 L sl ll).St)(J:List O)(F:rP):Sp:=match F.2.2 with
 | true=>dC.sp (W1 L sl ll) st J (.err (DQ hd src why sort) (bump st F.2.1))
 | false=> .to (.str res) fun NA=>∃k,gA (W1 L sl ll) st J (GY (bump st F.2.1) k) NA/\NA[k]?=some (.list (F.1.map .str))
theorem FY(P:sB g)(hc:L.cmds=OC sl ll res)(E:uP B is why sort)(hy:why.length<=100){r0:EE}(h0:r0∈GD){rs:List (List Nat×EE)}(hrs:∀x∈rs,x.1∈HD/\mD B is x.2)(hn:rs.length<=6){hd tl:List Nat}(hh:hd∈OF)(ht:tl∈fG){st:(W1 L sl ll).St}(S:HJ B 100 0 st)(hs0:st.2.1=[])(hw:(W1 L sl ll).W st J):
 JA g (d+14) none 392 [.loc L.h, .str (hd++BD r0 rs++tl)] J (Hc L sl ll res hd (BD r0 rs) why sort st J (xA r0 rs)):=by
 have w0:=cM (B:=B) (why:=why) (sort:=sort) (d:=d) P hc _ h0
 have wr:∀x∈rs,zG x.1/\EG g L sl ll B why sort d x.2:=fun x m=>⟨dM _ (hrs x m).1,aR P hc E (hrs x m).2⟩
 obtain⟨v0,p0,e0⟩:=w0.ex
 obtain⟨G,hG⟩:=CW wr
 have b0:=qK _ h0
 obtain⟨args,a0⟩:=GT _ h0
 obtain⟨tt,f1,f2,f3⟩:=cO (rs:=rs.map (·.2)) (ws:=r0.ws) (cs:=r0.o.c) (b:=false) fun r m=>by
  obtain⟨x,hx,rfl⟩:=List.mem_map.mp m;exact⟨(wr x hx).2.s,(wr x hx).2.c⟩
 have s0:=w0.s
 have c0:=w0.c
 rw[List.length_map]at f2 f3
 have eT:hd++BD r0 rs++tl=hd++(r0.o.w++(jB G++tl)):=by unfold BD;rw[hG.w,List.append_assoc,List.append_assoc]
 obtain⟨t1,z,t2,t3⟩:=VW tl ht
 have hst:=uG (jB G++tl) p0.st
 have c1:=pU (d:=d+6) (T:=hd++BD r0 rs++tl) (s:=hd++BD r0 rs++tl) P t1 t2 hG.p p0 (by rw[eT];exact LT hst hd hh)
 have c2:UH g (hd++BD r0 rs++tl) (d+13) false z .none:=PO (d:=d+6) P.toProg t3 (.inl rfl)
 have hT:(hd++BD r0 rs++tl).length<=100000:=by
  have l1:hd.length<=20:=(by decide:∀h∈OF,h.length<=20) hd hh
  have l2:tl.length<=20:=(by decide:∀h∈fG,h.length<=20) tl ht
  have l3:=w0.w
  have l4:=eP (rs:=rs) fun x m=>⟨(by decide:∀h∈HD,h.length<=4) _ (hrs x m).1,(wr x m).2.w⟩
  unfold BD
  rw[List.length_append,List.length_append,List.length_append];omega
 have hx:uC g (W1 L sl ll) L.h (d+12) (v0::G.map (·.v)) st [] (Za L sl ll why sort st (xA r0 rs)):=by
  rw[b0]at e0
  refine e0 _ _ _ _ (S.le (by omega)) (Nat.zero_le _) ?_
  exact hG.e (S.bump (by omega)) (by rw[List.nil_append];omega)
 have hF:(xA r0 rs).1=[110,111,116,101]::(args++tt):=by unfold xA;rw[f1,a0];rfl
 have hFc:(xA r0 rs).2.1.length<=100:=by unfold xA;omega
 revert hx hF hFc
 generalize xA r0 rs=F
 intro hx hF hFc
 obtain⟨ws,cs,b⟩:=F
 cases b with
 | false=>
   have hws:=EJ (d:=d+5) P hx
   have hF:ws=[110,111,116,101]::(args++tt):=hF
   subst hF
   refine CallOk.mono (KS (d:=d+9) P uK hT c1 c2 hws (Va (d:=d+9) (n:=0) (dp:=0) P hc (S.bump (by rw[Nat.zero_add];exact hFc)) hs0 ?_) hw) fun r NA q=>⟨q.1,q.2.elim fun MC q=>q.2.elim fun k q2=>⟨k,q.1.trans q2.1,q2.2⟩⟩
   rw[a0]at s0
   rw[List.length_append]
   rw[List.length_cons]at s0
   omega
 | true=>
   have hws:=EJ (d:=d+5) P hx
   have:=TP (d:=d+9) P uK hT c1 hws (RK hst) ⟨kC hy,Nat.zero_le _⟩ hw
   have e1:(r0.o.w++(jB G++tl)).take ((r0.o.w++(jB G++tl)).length - tl.length)=BD r0 rs:=by
    unfold BD;rw[hG.w, <-List.append_assoc,List.length_append,Nat.add_sub_cancel,List.take_left]
   have e2:WD (hd++BD r0 rs++tl) (VF why (BF sort)) (r0.o.w++(jB G++tl)) (BD r0 rs)=DQ hd (BD r0 rs) why sort:=by
    unfold DQ;rw[<-NQ (t:=r0.o.w++(jB G++tl)), <-eT];rfl
   rw[e1,e2]at this
   exact this
end
section
variable{g:G}{d:Nat}{J:List O}
noncomputable abbrev Yd(a b:Str):Prop:=a.cps.toList<=b.cps.toList
theorem Ma{a b:Str}(h:PySem.Spec.ltCps b.cps.toList a.cps.toList=false):Yd a b:=fun q=>by
 rw[ltCps_eq]at h
 exact of_decide_eq_false h q
theorem xM:∀{l:List Str} {p:Str},risingS p l=true->(p::l).Pairwise Yd
 | [],p,_=>List.pairwise_singleton _ _
 | x::r,p,h=>by
   obtain⟨h1,h2⟩:=Bool.and_eq_true_iff.mp (show(!PySem.Spec.ltCps x.cps.toList p.cps.toList&&risingS x r)=true from h)
   have ih:=xM h2
   have h3:Yd p x:=Ma (by rw[Bool.not_eq_true']at h1;exact h1)
   refine .cons (fun y m=>?_) ih
   rcases List.mem_cons.mp m with rfl | m
   ·exact h3
   ·exact List.le_trans h3 ((List.pairwise_cons.mp ih).1 y m)
theorem CN{l:List Str}(h:sortedS l=true):l.Pairwise Yd:=by
 cases l with
 | nil=>exact .nil
 | cons x r=>exact xM h
theorem aQ{a b:List Str}(ha:sortedS a=true)(hb:sortedS b=true)(p:a.Perm b):a=b:=
 List.Perm.eq_of_pairwise (le:=Yd) (fun x y _ _ h1 h2=>by
  have:=List.le_antisymm h1 h2
  obtain⟨⟨x⟩⟩:=x
  obtain⟨⟨y⟩⟩:=y
  cases this;rfl) (CN ha) (CN hb) p
noncomputable def BN(ks:List Str):List (List Nat):=Classical.epsilon fun ss=>(ss.map fun x=>(⟨x.toArray⟩:Str)).Perm ks/\sortedS (ss.map fun x=>⟨x.toArray⟩)=true
theorem MW{l ep:Nat}{kvs:List (List Nat×V)}{Q:V->List O->Prop}{ks:List Str}(hl:J[l]?=some (.dict kvs ep))(h:kvs.length < 64)(hk:kvs.map (fun kv=>(⟨kv.1.toArray⟩:Str))=ks)(q:Q (.loc J.length) (J++[.list ((BN ks).map .str)])):FG g none (.builtin "sorted") [.loc l] J Q:=
 ⟨rfl,kvs,ep,hl,h,fun ss h1 h2=>by
  rw[hk]at h1
  obtain⟨h3,h4⟩:=Classical.epsilon_spec (p:=fun ss:List (List Nat)=>(ss.map fun x=>(⟨x.toArray⟩:Str)).Perm ks/\sortedS (ss.map fun x=>⟨x.toArray⟩)=true) ⟨ss,h1,h2⟩
  have:=aQ h2 h4 (h1.trans h3.symm)
  have e:ss=BN ks:=List.map_inj_right (fun x y e=>by injection e with e;injection e) |>.mp this
  rw[e];exact q⟩
end
section
variable{g:G}{d:Nat}{J:List O}
theorem BJ(n:Nat):∀ss:List (List Nat),LM J n (ss.map V.str)=some (ss.map fun s=>PyData.str ⟨s.toArray⟩)
 | []=>rfl
 | s::ss=>by rw[List.map_cons,PD,SH,BJ n ss];rfl
theorem NG:∀{xs:List PyData},(∀x∈xs,PyData.eqv x x=true)->PyData.eqvAll xs xs=true
 | [],_=>rfl
 | x::xs,h=>by rw[PyData.eqvAll,h x (.head _),NG fun y q=>h y (.tail _ q)];rfl
theorem zH(s:Str):PyData.eqv (.str s) (.str s)=true:=by rw[PyData.eqv];exact beq_self_eq_true s
theorem TR(s:Int):PyData.eqv (.int s) (.int s)=true:=by rw[PyData.eqv];exact beq_self_eq_true s
theorem WN{xs:List PyData}(h:∀x∈xs,PyData.eqv x x=true):PyData.eqv (.tuple xs) (.tuple xs)=true:=by rw[PyData.eqv];exact NG h
theorem yH{xs:List PyData}(h:∀x∈xs,PyData.eqv x x=true):PyData.eqv (.list xs) (.list xs)=true:=by rw[PyData.eqv];exact NG h
theorem AI(ss:List (List Nat)):∀x∈ss.map fun s=>PyData.str ⟨s.toArray⟩,PyData.eqv x x=true:=fun x q=>by
 obtain⟨s,_,rfl⟩:=List.mem_map.mp q
 exact zH _
theorem zR{a b:V}{D:PyData}(h1:lL J 80 a=some D)(h2:lL J 8 b=some D)(h:PyData.eqv D D=true):xH J .NotEq a b=some false:=by
 rw[qU,sI h1 h2,h];rfl
theorem VS(n:Nat)(c l:Int)(v i:List Nat)(ss:List (List Nat)):lL J (n+2) (.tup [.int c, .str v, .tup (ss.map .str), .int l, .str i])=some (.tuple [.int c, .str ⟨v.toArray⟩, .tuple (ss.map fun s=>PyData.str ⟨s.toArray⟩), .int l, .str ⟨i.toArray⟩]):=by
 rw[GN,PD,kP,PD,SH,PD,GN,BJ,PD,kP,PD,SH];rfl
theorem hV{c l:Int}{v i:List Nat}{ss:List (List Nat)}:xH J .NotEq (.tup [.int c, .str v, .tup (ss.map .str), .int l, .str i]) (.tup [.int c, .str v, .tup (ss.map .str), .int l, .str i])=some false:=
 zR (VS 78 ..) (VS 6 ..) (WN (by
  simp only[List.forall_mem_cons,List.not_mem_nil,false_implies,implies_true,and_true]
  exact⟨TR _,zH _,WN (AI ss),TR _,zH _⟩))
noncomputable def kf(c:List Nat×List Nat):PyData:= .tuple [.str ⟨c.1.toArray⟩, .str ⟨c.2.toArray⟩]
theorem AJ(n:Nat):∀cs:List (List Nat×List Nat),LM J (n+1) (cs.map DF)=some (cs.map kf)
 | []=>rfl
 | c::r=>by rw[List.map_cons,PD,AJ n r,GN,PD,SH,PD,SH];rfl
theorem iV{a b:Nat}{cs:List (List Nat×List Nat)}(h1:J[a]?=some (.list (cs.map DF)))(h2:J[b]?=some (.list (cs.map DF))):xH J .NotEq (.loc a) (.loc b)=some false:=
 zR ((US (n:=79) h1).trans (congrArg (Option.map _) (AJ 78 cs))) ((US (n:=7) h2).trans (congrArg (Option.map _) (AJ 6 cs))) (yH fun x q=>by
  obtain⟨s,_,rfl⟩:=List.mem_map.mp q
  exact WN (List.forall_mem_cons.mpr ⟨zH _,List.forall_mem_cons.mpr ⟨zH _,fun x m=>nomatch m⟩⟩))
theorem gI{a n:Nat}{ss:List (List Nat)}(h:J[a]?=some (.list (ss.map .str))):lL J (n+1) (.loc a)=some (.list (ss.map fun s=>PyData.str ⟨s.toArray⟩)):=(US h).trans (congrArg (Option.map _) (BJ n ss))
theorem BS{a b:Nat}{ss:List (List Nat)}(h1:J[a]?=some (.list (ss.map .str)))(h2:J[b]?=some (.list (ss.map .str))):xH J .NotEq (.loc a) (.loc b)=some false:=
 zR (gI h1) (gI h2) (yH (AI ss))
theorem SX{a b:Nat}{ss:List (List Nat)}(h1:J[a]?=some (.list (ss.map .str)))(h2:J[b]?=some (.list (ss.map .str))):xH J .Eq (.loc a) (.loc b)=some true:=by
 rw[iZ,sI (gI h1) (gI h2),yH (AI ss)]
theorem WS{a k n:Nat}{ss:List (List Nat)}(h:J[a]?=some (.list [.loc k]))(hk:J[k]?=some (.list (ss.map .str))):lL J (n+2) (.loc a)=some (.list [.list (ss.map fun s=>PyData.str ⟨s.toArray⟩)]):=by
 rw[US h,PD,gI hk];rfl
theorem Sa{a b k j:Nat}{ss:List (List Nat)}(h1:J[a]?=some (.list [.loc k]))(k1:J[k]?=some (.list (ss.map .str)))(h2:J[b]?=some (.list [.loc j]))(k2:J[j]?=some (.list (ss.map .str))):xH J .NotEq (.loc a) (.loc b)=some false:=
 zR (WS h1 k1) (WS h2 k2) (yH (List.forall_mem_cons.mpr ⟨yH (AI ss),fun x m=>nomatch m⟩))
end
section
variable{g:G}{d:Nat}{J NA:List O}{B:Bk}{L:HL}{sl ll n dp:Nat}{res why sort:List Nat}{is:List (List Nat)}
noncomputable def Qe:ME:=TG.body.tl.tl.tl.tl.tl.tl.tl.tl.tl.tl.tl.tl.tl.tl
noncomputable def GZ:ME:=TG.body.tl.tl.tl.tl.tl.tl.tl.tl.tl.tl.tl.tl
theorem EU{st:(W1 L sl ll).St}(S:HJ B n dp st):(st.1.vars.map CE).map (fun kv=>(⟨kv.1.toArray⟩:Str))=((gD B).map gB).map fun kv=>⟨kv.1.toArray⟩:=by
 rw[<-S.vars,List.map_map,List.map_map,List.map_map];rfl
theorem sR(P:sB g){K:iE->List O->Prop}{st:(W1 L sl ll).St}{bl ep:Nat}{x6 x22 x23 x24:Option V}(S:HJ B 0 0 st)(hj:st.1.junk=false)(hsp:st.1.spent=st.2.2.length+st.2.1.length)(hw:(W1 L sl ll).W st J)(hb:kB (W1 L sl ll) st J bl (.dict ((gD B).map gB) ep))
 {y0 y1 y2 y3 y4 y5 y7 y8 y10 y11 y12 y13 y14 y15 y16 y17 y18:Option V}
 (f:dB g 99 none Qe [y0,y1,y2,y3,y4,y5,x6,y7,y8,some (.loc bl),y10,y11,y12,y13,y14,y15,y16,y17,y18,some (.loc sl),some (.loc ll),some (.loc L.h),x22,x23,x24] J (LF K) (jF K)) (e:∀NA,K (.ok (.bool true)) NA->False):False:=by
 have hdl:=hw.1.vl
 obtain⟨ep2,rst,hvl,hrst⟩:=hdl
 rw[hrst hj,List.append_nil]at hvl
 have vlen:(st.1.vars.map CE).length < 64:=by
  have:=congrArg List.length S.vars
  rw[List.length_map]at this ⊢
  rw[this];exact Nat.le_of_ble_eq_true rfl
 have f:=f _ (UC hw.1 rfl rfl rfl) _ _ (MW hvl vlen (EU S)) _ _ (MW (EA hb.at' _) (Nat.le_of_ble_eq_true rfl) rfl) _ (BS (EA (AA ..) _) (AA ..)) false rfl
 have A:=(gA.app hw [O.list ((BN (((gD B).map gB).map fun kv=>⟨kv.1.toArray⟩)).map V.str)]).push [O.list ((BN (((gD B).map gB).map fun kv=>⟨kv.1.toArray⟩)).map V.str)]
 have hb2:=hb.after A
 revert f
 generalize J++[O.list ((BN (((gD B).map gB).map fun kv=>⟨kv.1.toArray⟩)).map V.str)]++[O.list ((BN (((gD B).map gB).map fun kv=>⟨kv.1.toArray⟩)).map V.str)]=PB at A hb2
 intro f
 have f:=f _ (UC A.ok.1 (v:= .int (st.1.spent:Int)) rfl rfl rfl) _ _ (mH A.ok.2.2) _ _ (mH A.ok.2.1) false (by
  rw[List.length_map,hsp];exact congrArg (!·) (decide_eq_true rfl)) _ (UC A.ok.1 (v:= .int (st.1.depth:Int)) rfl rfl rfl) false (by rw[S.depth];rfl)
 have len:((gD B).map gB).length<=10000:=Nat.le_of_ble_eq_true rfl
 refine IF (I:=fun NA=>gA (W1 L sl ll) st PB st NA) (as:=(gD B).map gB) (k:=fun kv=>kv.2) (fun NA A=>(hb2.after A).at') (fun a m NA Q A p k=>?_) (.refl A.ok) (f _ hb2.at' len) fun xL A3 f2=>?_
 ·obtain⟨q,hq,rfl⟩:=List.mem_map.mp m
  exact p _ A.ok.1.at'.obj _ A.ok.1.at'.ad (A.ok.1.at'.no _ rfl) _ (YQ (d:=96) P S hq A.ok) fun YF A' p=>k YF (A.trans A') p
 clear f
 have hb3:=EA (hb2.after A3).at' [O.list ((gD B).map fun p=>V.str p.2)]
 refine IF (I:=fun NA=>NA=xL++[O.list ((gD B).map fun p=>V.str p.2)]) (as:=(gD B).map gB) (k:=fun kv=>kv.2) (fun NA e=>by rw[e];exact hb3) (fun a m NA Q e p k=>?_) rfl (f2 _ hb3 len) fun re e4 f=>?_
 ·obtain⟨q,hq,rfl⟩:=List.mem_map.mp m
  exact k NA e (p _ (HG (by rw[e];exact hb3) (vH S.ok hq)))
 subst e4
 exact e _ (f _ (SX (ss:=(gD B).map (·.2)) (EA (AA ..) _) (AA ..)))
end
section
variable{g:G}{d:Nat}{J NA:List O}{B:Bk}{L:HL}{sl ll n dp:Nat}{res why sort:List Nat}{is:List (List Nat)}
noncomputable def Ad(hd sh res why sort:List Nat)(b:Bool):V:=match b with
 | true=> .tup [.int 1, .str why,BF sort, .int (1+(hd.count 10:Int)), .str (why++QD++sh++[34])]
 | false=> .tup [.int 0, .str res, .tup [], .int 0, .str []]
theorem mX(P:sB g){K:iE->List O->Prop}{st:(W1 L sl ll).St}{bl wl cl ep:Nat}{y1 y8 y10 y15 y16 y17 y18 x6 x7 x22 x23 x24:Option V}{r0:EE}{rs:List (List Nat×EE)}{hd tl:List Nat}(hc:L.cmds=OC sl ll res)(E:uP B is why sort)(hy:why.length<=100)(h0:r0∈GD)(hrs:∀x∈rs,x.1∈HD/\mD B is x.2)(hn:rs.length<=6)(hl:(BD r0 rs).length<=3000)(room:(xA r0 rs).2.1.length<=100)(hh:hd∈OF)(ht:tl∈fG)
 (S:HJ B 100 0 st) (hs0:st.2.1=[]) (hl0:st.2.2=[]) (hj:st.1.junk=false) (hsp:st.1.spent=0) (hw:(W1 L sl ll).W st J) (hb:kB (W1 L sl ll) st J bl (.dict ((gD B).map gB) ep)) (hwl:kB (W1 L sl ll) st J wl (.list ((xA r0 rs).1.map .str))) (hcl:kB (W1 L sl ll) st J cl (.list ((xA r0 rs).2.1.map DF)))
 (f:dB g 99 none GZ [some .script,y1,some (.str hd),some (.str tl),some (.str res),some (Ad hd (sD (BD r0 rs)) res why sort (xA r0 rs).2.2),x6,x7,y8,some (.loc bl),y10,some (.str (BD r0 rs)),some (.loc wl),some (.loc cl),some (.bool (xA r0 rs).2.2),y15,y16,y17,y18,some (.loc sl),some (.loc ll),some (.loc L.h),x22,x23,x24] J (LF K) (jF K)) (e:∀NA,K (.ok (.bool true)) NA->False):False:=by
 have lh:hd.length<=20:=(by decide:∀h∈OF,h.length<=20) hd hh
 have lt:tl.length<=20:=(by decide:∀h∈fG,h.length<=20) tl ht
 have c:=FY (d:=85) P hc E hy h0 hrs hn hh ht S hs0 hw
 have k1:uJ .Add (.str hd) (.str (BD r0 rs))=some (.str (hd++BD r0 rs)):=jC (by omega)
 have k2:uJ .Add (.str (hd++BD r0 rs)) (.str tl)=some (.str (hd++BD r0 rs++tl)):=jC (by rw[List.length_append];omega)
 have f:=f _ k1 _ k2 _ c
 clear c k1 k2
 have S2:=S.bump (cs:=(xA r0 rs).2.1) (k:=0) (by rw[Nat.zero_add];exact room)
 revert f hwl hcl S2
 generalize xA r0 rs=F
 obtain⟨ws,cs,b⟩:=F
 intro hwl hcl f S2
 cases b with
 | false=>
   refine f fun MC ⟨k,A,hk⟩ f=>?_
   have hb1:=hb.after A
   have hw1:=hwl.after A
   have hc1:=hcl.after A
   have hlog:MC[ll]?=some (.list ((st.2.2++cs).map DF)):=A.ok.2.2
   rw[hl0,List.nil_append]at hlog
   have f:=f _ (hV (ss:=[])) false rfl _ (iV hlog hc1.at') false rfl false rfl _ (Sa (EA A.ok.2.1 _) (EA hk _) (AA ..) (EA hw1.at' _)) false rfl
   have S3:HJ (L:=L) (sl:=sl) (ll:=ll) B 0 0 (GY (bump st cs) k):=⟨S2.ok,S2.vars,S2.set,S2.room,S2.depth,S2.ne⟩
   exact sR P S3 hj (by show st.1.spent+cs.length+1=(st.2.2++cs).length+1;rw[hsp,hl0,Nat.zero_add];rfl) (A.push [O.list [.loc wl]]).ok (hb1.after (.app A.ok _)) f e
 | true=>
   refine f fun l MC ⟨A,dl,xl,_,_,_,m1,m2⟩ f=>?_
   have hb1:=hb.after A
   have hc1:=hcl.after A
   have hlog:MC[ll]?=some (.list ((st.2.2++cs).map DF)):=A.ok.2.2
   rw[hl0,List.nil_append]at hlog
   have hsl:MC[sl]?=some (.list (([]:List (List Nat)).map .str)):=A.ok.2.1.trans (by rw[show(bump st cs).2.1=[]from hs0];rfl)
   have f:=f _ m1.at' _ (mC m1.at' m2.at' rfl rfl rfl) _ (mC m1.at' m2.at' rfl rfl rfl) _ (mC m1.at' m2.at' rfl rfl rfl) _ (mC m1.at' m2.at' rfl rfl rfl) _ (mC m1.at' m2.at' rfl rfl rfl) _ (hV (ss:=[[84,67,76],[86,65,76,85,69],[76,73,83,84],sort])) false rfl _ (iV hlog hc1.at') false rfl true rfl _ (BS (EA hsl _) (AA ..)) false rfl
   exact sR P S2 hj (by show st.1.spent+cs.length=(st.2.2++cs).length+st.2.1.length;rw[hsp,hl0,hs0,Nat.zero_add];rfl) (A.push [O.list []]).ok (hb1.after (.app A.ok _)) f e
end
section
variable{g:G}{d:Nat}{J NA:List O}{B:Bk}{L:HL}{sl ll n dp:Nat}{res why sort:List Nat}{is:List (List Nat)}
noncomputable def Pe:ME:=TG.body.tl.tl.tl.tl.tl.tl.tl.tl
noncomputable def Gb:ME:=TG.body.tl.tl.tl.tl.tl.tl.tl.tl.tl.tl.tl
theorem wX{l:Nat}{c:List (List Nat×V)}(h:l < n)(h1:l < sl)(h2:l < ll):¬(W1 (Lc n c) sl ll).own (⟨0,0,[],false⟩,([],[])) l:=by
 have k:∀{i:Nat},l≠n+i:=fun e=>Nat.lt_irrefl _ (Nat.lt_of_lt_of_le h (by rw[e];exact Nat.le_add_right _ _))
 rintro ((e | e | e | e | e | ⟨v,hv,_⟩) | e | e)
 ·exact k (i:=1) e
 ·exact k (i:=0) e
 ·exact k (i:=2) e
 ·exact k (i:=4) e
 ·exact k (i:=5) e
 ·exact nomatch hv
 ·exact Nat.ne_of_lt h1 e
 ·exact Nat.ne_of_lt h2 e
theorem VT(P:sB g){K:iE->List O->Prop}{bl ep:Nat}{y0 y1 y2 y3 y4 y5 y7 y8 y10 y11 y12 y13 y14 y15 y16 y17 y18 y22 y23 y24:Option V}(ok:yE B)(hw:(W1 L sl ll).W (⟨0,0,[],false⟩,([],[])) J)(hb:kB (W1 L sl ll) (⟨0,0,[],false⟩,([],[])) J bl (.dict ((gD B).map gB) ep))
 (f:dB g 99 none Gb [y0,y1,y2,y3,y4,y5,none,y7,y8,some (.loc bl),y10,y11,y12,y13,y14,y15,y16,y17,y18,some (.loc sl),some (.loc ll),some (.loc L.h),y22,y23,y24] J (LF K) (jF K))
 (e:∀{vs:List JG} {x6:Option V} {NA:List O},vs.map (fun v=>(v.nm,v.val))=gD B->(∀v∈vs,v.set=true)->gA (W1 L sl ll) (⟨0,0,[],false⟩,([],[])) J (⟨0,0,vs,false⟩,([],[])) NA->
  dB g 99 none GZ [y0,y1,y2,y3,y4,y5,x6,y7,y8,some (.loc bl),y10,y11,y12,y13,y14,y15,y16,y17,y18,some (.loc sl),some (.loc ll),some (.loc L.h),y22,y23,y24] NA (LF K) (jF K)->False):False:=by
 have nd:=wH ok
 have lk:∀p∈gD B,QA p.1 ((gD B).map gB)=some (.str p.2):=fun p m=>vH ok m
 have l11:(gD B).length=11:=rfl
 refine f _ hb.at' fun Pw hP h0=>?_
 revert hb e hP nd lk l11
 generalize gD B=bs
 intro hb e nd lk l11 hP
 have go:∀(r pre:List (List Nat×List Nat)) (vs:List JG) (x6:Option V) (NA:List O),pre++r=bs->vs.map (fun v=>(v.nm,v.val))=pre->(∀v∈vs,v.set=true)->gA (W1 L sl ll) (⟨0,0,[],false⟩,([],[])) J (⟨0,0,vs,false⟩,([],[])) NA->
  Pw pre.length [y0,y1,y2,y3,y4,y5,x6,y7,y8,some (.loc bl),y10,y11,y12,y13,y14,y15,y16,y17,y18,some (.loc sl),some (.loc ll),some (.loc L.h),y22,y23,y24] NA->False:=by
  intro r
  induction r with
  | nil=>
    intro pre vs x6 NA q1 q2 q3 A p
    rw[List.append_nil]at q1
    subst q1
    exact e q2 q3 A (hP _ _ _ p (hb.after A).at' none (List.getElem?_eq_none (by rw[List.length_map];exact Nat.le_refl _)))
  | cons a r ih=>
    intro pre vs x6 NA q1 q2 q3 A p
    have hb1:=(hb.after A).at'
    have ha:(bs.map gB)[pre.length]?=some (gB a):=by rw[<-q1,List.getElem?_map,AA];rfl
    have hno:∀v∈vs,v.nm≠a.1:=fun v m q=>by
     rw[<-q1, <-q2,List.map_append,List.map_map]at nd
     exact(List.nodup_append.mp nd).2.2 _ (List.mem_map_of_mem (f:=(fun x:List Nat×List Nat=>x.1)∘fun v:JG=>(v.nm,v.val)) m) a.1 (.head _) q
    have hlen:vs.length<=900:=by
     have h1:=congrArg List.length q1
     have h2:=congrArg List.length q2
     rw[List.length_append,l11]at h1
     rw[List.length_map]at h2
     omega
    refine hP _ _ _ p hb1 _ ha _ A.ok.1.at'.obj _ A.ok.1.at'.ad (A.ok.1.at'.no _ rfl) _ (HG hb1 (lk a (by rw[<-q1];simp))) _ (iW (d:=93) (L:=L) (x:=UR sl ll) (hs:=⟨0,0,vs,false⟩) (xs:=([],[])) P.toProg A.ok hno rfl hlen) fun PB A2 p=>?_
    exact ih (pre++[a]) (vs++[⟨a.1,NA.length+1,NA.length,NA.length+2,true,a.2,1⟩]) _ PB (by rw[List.append_assoc];exact q1) (by rw[List.map_append,q2];rfl) (fun v m=>(List.mem_append.mp m).elim (q3 v) fun m=>by rw[List.mem_singleton.mp m]) (A.trans A2) (by rw[List.length_append];exact p)
 exact go bs [] [] none J rfl rfl (fun v m=>nomatch m) (.refl hw) h0
end
section
variable{g:G}{d:Nat}{J NA:List O}{B:Bk}{n dp:Nat}{res why sort:List Nat}{is:List (List Nat)}
theorem vR{x:O}:J.length < (J++[x]).length:=by rw[List.length_append];exact Nat.lt_succ_self _
theorem GL(P:sB g){K:iE->List O->Prop}{bl wl cl ep:Nat}{y1 y8 y10 y15 y16 y17 y18 x7 y19 y20 y21 x22 x23 x24:Option V}{r0:EE}{rs:List (List Nat×EE)}{hd tl src sh:List Nat}{b:Bool}(hF:(xA r0 rs).2.2=b)(hS:BD r0 rs=src)(hC:sD src=sh)(E:uP B is why sort)(hy:why.length<=100)(h0:r0∈GD)(hrs:∀x∈rs,x.1∈HD/\mD B is x.2)(hn:rs.length<=6)(hl:(BD r0 rs).length<=3000)(room:(xA r0 rs).2.1.length<=100)(hh:hd∈OF)(ht:tl∈fG)
 (hb:J[bl]?=some (.dict ((gD B).map gB) ep)) (hwl:J[wl]?=some (.list ((xA r0 rs).1.map .str))) (hcl:J[cl]?=some (.list ((xA r0 rs).2.1.map DF)))
 (f:dB g 99 none Pe [some .script,y1,some (.str hd),some (.str tl),some (.str res),some (Ad hd sh res why sort b),none,x7,y8,some (.loc bl),y10,some (.str src),some (.loc wl),some (.loc cl),some (.bool b),y15,y16,y17,y18,y19,y20,y21,x22,x23,x24] J (LF K) (jF K)) (e:∀NA,K (.ok (.bool true)) NA->False):False:=by
 subst hF
 subst hS
 subst hC
 refine f _ ((TQ (d:=0) P.toProg).up (by decide)) fun kG ⟨e1,e2,e3,e4,e5,q⟩ f=>?_
 subst q
 refine f _ ((Rb (d:=0) P.toProg (kG:=J++[O.list []]++[O.list []])).up (by decide)) fun MC ⟨q1,q2,q3,q4⟩ f=>?_
 refine f _ q3.at'.obj _ q3.at'.ad (q3.at'.no _ rfl) rfl (Nat.le_of_ble_eq_true rfl) fun ep1 f=>?_
 have hsl:(J++[O.list []]++[O.list []])[J.length]?=some (O.list []):=EA (AA ..) _
 have hll:(J++[O.list []]++[O.list []])[(J++[O.list []]).length]?=some (O.list []):=AA ..
 have hg:Gr J (J++[O.list []]++[O.list []]):=(Gr.refl.app _).app _
 have hne:J.length < (J++[O.list []]).length:=vR
 have hlt:(J++[O.list []]).length < (J++[O.list []]++[O.list []]).length:=vR
 revert f q1 q2 q3 q4 hsl hll hg hne hlt
 generalize (J++[O.list []]).length=ll
 generalize J++[O.list []]++[O.list []]=PB
 intro q1 q2 q3 q4 f hsl hll hg hne hlt
 have ne5:∀{l i:Nat},l < PB.length->l≠PB.length+i:=fun h=>Nat.ne_of_lt (Nat.lt_of_lt_of_le h (Nat.le_add_right _ _))
 have h1:PB.length<=MC.length:=by rw[q1];exact Nat.le_add_right _ _
 have q3':bB (Lc PB.length []) ⟨0,0,[],false⟩ (MC++[O.dict (OC J.length ll res) ep1]):=bB.cong (L:=Lc PB.length []) q3 fun l h=>List.getElem?_append_left (bB.lt (L:=Lc PB.length []) q3 h)
 have q4':uQ (Lc PB.length []) [] (MC++[O.dict (OC J.length ll res) ep1]):=⟨q4.1.imp fun _ h=>EA h _,q4.2.imp fun _ h=>EA h _⟩
 have hgl:MC.length≠PB.length+5/\MC.length≠PB.length+6:=by rw[q1];exact⟨by omega,by omega⟩
 refine f _ ((XZ (d:=0) P.toProg (gs:=[([110,111,116,101],718, .tup [.loc J.length, .str res]),([103,105,118,101],725, .loc ll)]) q3' q4' (AA ..) hgl (of_decide_eq_true rfl) (Nat.le_of_ble_eq_true rfl)).up (by decide)) fun re A4 f=>?_
 have old:∀{l:Nat} {x:O},l < PB.length->PB[l]?=some x->re[l]?=some x:=fun h k=>(A4.keep _ (ne5 h) (ne5 h)).trans ((List.getElem?_append_left (Nat.lt_of_lt_of_le h h1)).trans ((q2 _ h).trans k))
 have W4:(W1 (Lc PB.length (OC J.length ll res)) J.length ll).W (⟨0,0,[],false⟩,([],[])) re:=⟨A4.w,old (Nat.lt_trans hne hlt) hsl,old hlt hll⟩
 have mi:∀{l:Nat} {x:O},J[l]?=some x->kB (W1 (Lc PB.length (OC J.length ll res)) J.length ll) (⟨0,0,[],false⟩,([],[])) re l x:=fun h=>
  have k:=FB h
  ⟨old (Nat.lt_trans k (Nat.lt_trans hne hlt)) (hg.get h),wX (Nat.lt_trans k (Nat.lt_trans hne hlt)) k (Nat.lt_trans k hne)⟩
 have mb:=mi hb
 have mw:=mi hwl
 have mc:=mi hcl
 exact VT P E.ok W4 mb f fun v1 v2 A f=>mX P rfl E hy h0 hrs hn hl room hh ht ⟨E.ok,v1,v2,Nat.le_of_ble_eq_true rfl,rfl,Nat.ne_of_lt hne⟩ rfl rfl rfl rfl A.ok (mb.after A) (mw.after A) (mc.after A) f e
end
section
variable{g:G}{d:Nat}{J NA:List O}{B:Bk}{n dp:Nat}{res:List Nat}{is:List (List Nat)}
noncomputable def Oe:ME:=TG.body.tl.tl.tl
theorem VN(ns:List Int):uP (FD ns) (OH (QC ns 6)) (RD ns).2.1 (RD ns).2.2:=
 ⟨GR ns,YV _,by unfold OH;rw[List.length_map];exact dH _,fun acc=>jW _ (jG ns) acc⟩
theorem ZY(ns:List Int):(RD ns).2.1.length<=100:=(by decide:∀p∈iB,p.2.1.length<=100) _ (jG ns)
theorem Tb{a:V}{vs:List V}{Q:V->List O->Prop}(hn:vs.length<=999)(h:Q (.tup vs) J):eD J (.tup (a::vs)) (.int 1) .none Q:=⟨1,rfl,rfl,Nat.le_refl _,Nat.succ_le_succ (Nat.zero_le _),Nat.succ_le_succ hn,h⟩
theorem mZ{s:List Nat}(h:(s.length:Int) < 151):sD s=s:=if_pos (by omega)
theorem lZ{s:List Nat}(h:¬(s.length:Int) < 151):sD s=s.take 150++[46,46,46]:=if_neg (by omega)
theorem lX(P:sB g){K:iE->List O->Prop}{bl wl cl ep:Nat}{y1 x7 y10 y15 y16:Option V}{r0:EE}{rs:List (List Nat×EE)}{src:List Nat}{b:Bool}(hF:(xA r0 rs).2.2=b)(hS:BD r0 rs=src)(h0:r0∈GD)(hrs:∀x∈rs,x.1∈HD/\mD (FD g.ns) (OH (QC g.ns 6)) x.2)(hn:rs.length<=6)(hl:(BD r0 rs).length<=3000)(room:(xA r0 rs).2.1.length<=100)
 (hb:J[bl]?=some (.dict ((gD (FD g.ns)).map gB) ep)) (hwl:J[wl]?=some (.list ((xA r0 rs).1.map .str))) (hcl:J[cl]?=some (.list ((xA r0 rs).2.1.map DF)))
 (f:dB g 99 none Oe [some .script,y1,none,none,none,none,none,x7,some (.int (QC g.ns 7)),some (.loc bl),y10,some (.str src),some (.loc wl),some (.loc cl),some (.bool b),y15,y16,none,none,none,none,none,none,none,none] J (LF K) (jF K)) (e:∀NA,K (.ok (.bool true)) NA->False):False:=by
 have f:=f _ (yB (by decide) (by decide)) _ (WB (by decide) (by decide)) _ (gC (AA ..) (JE (L:=OF) (e:=[]) (n:=4) V.str ((QC g.ns 7).fdiv 32) (by decide) (by decide))) _ (yB (by decide) (by decide)) _ (WB (by decide) (by decide)) _ (gC (AA ..) (JE (L:=fG) (e:=[]) (n:=5) V.str ((QC g.ns 7).fdiv 128) (by decide) (by decide)))
  _ (aC (p:=8) P (by decide)) _ (yB (by decide) (by decide)) _ (OP P)
 have hh:=bC (L:=OF) (e:=[]) (n:=4) ((QC g.ns 7).fdiv 32) (by decide) (by decide)
 have ht:=bC (L:=fG) (e:=[]) (n:=5) ((QC g.ns 7).fdiv 128) (by decide) (by decide)
 have hg:Gr J (J++[O.list (OF.map .str)]++[O.list (fG.map .str)]):=(Gr.refl.app _).app _
 have lh:(AD OF [] 4 ((QC g.ns 7).fdiv 32)).length<=20:=(by decide:∀h∈OF,h.length<=20) _ hh
 revert f hh ht lh
 generalize AD OF [] 4 ((QC g.ns 7).fdiv 32)=hd
 generalize AD fG [] 5 ((QC g.ns 7).fdiv 128)=tl
 generalize ZI ((QC g.ns 8).fdiv 5)=res
 intro f hh ht lh
 have yl:=ZY g.ns
 have sl:src.length<=3000:=hS ▸ hl
 cases b with
 | false=>exact GL P hF hS rfl (VN g.ns) yl h0 hrs hn hl room hh ht (hg.get hb) (hg.get hwl) (hg.get hcl) (f false rfl) e
 | true=>
   have f:=f true rfl _ (yB (by decide) (by decide)) _ (WB (by decide) (by decide)) _ (aS P) _ _ (Tb (Nat.le_of_ble_eq_true rfl))
   have c1:∀{s:List Nat},s.length<=153->uJ .Add (.str (RD g.ns).2.1) (.str QD)=some (.str ((RD g.ns).2.1++QD))/\uJ .Add (.str ((RD g.ns).2.1++QD)) (.str s)=some (.str ((RD g.ns).2.1++QD++s))/\uJ .Add (.str ((RD g.ns).2.1++QD++s)) (.str [34])=some (.str ((RD g.ns).2.1++QD++s++[34])):=fun {s} h=>by
    have wl:QD.length=22:=rfl
    exact⟨jC (by omega),jC (by rw[List.length_append];omega),jC (by rw[List.length_append,List.length_append];show _+1<=_;omega)⟩
   by_cases q:(src.length:Int) < 151
   ·obtain⟨c1,c2,c3⟩:=c1 (s:=src) (by omega)
    exact GL P hF hS (mZ q) (VN g.ns) yl h0 hrs hn hl room hh ht (hg.get hb) (hg.get hwl) (hg.get hcl) (f true (decide_eq_true q) _ c1 _ c2 _ c3 _ _ bS) e
   ·obtain⟨c1,c2,c3⟩:=c1 (s:=src.take 150++[46,46,46]) (by rw[List.length_append,List.length_take];show _+3<=_;omega)
    exact GL P hF hS (lZ q) (VN g.ns) yl h0 hrs hn hl room hh ht (hg.get hb) (hg.get hwl) (hg.get hcl) (f false (decide_eq_false q) _ (xN (k:=150)) _ (jC (by rw[List.length_take];show _+3<=_;omega)) _ c1 _ c2 _ c3 _ _ bS) e
end
section
variable{g:G}{d:Nat}{J NA:List O}{B:Bk}{n dp:Nat}{res:List Nat}{is:List (List Nat)}
noncomputable def Re:ME:=TG.body.tl.tl
theorem rT{r0:EE}{rs:List (List Nat×EE)}{gp:List Nat}{r:EE}:BD r0 rs++gp++r.o.w=BD r0 (rs++[(gp,r)]):=by
 unfold BD qT
 rw[List.map_append,List.flatten_append,List.append_assoc,List.append_assoc]
 show _++(_++(gp++r.o.w))=_++(_++(gp++r.o.w++[]))
 rw[List.append_nil]
theorem rK{r0:EE}{rs:List (List Nat×EE)}{x:List Nat×EE}:xA r0 (rs++[x])=dG (xA r0 rs) x.2:=by
 unfold xA
 rw[List.map_append,List.foldl_append];rfl
theorem KY{a:rP}{r:EE}(h:a.2.2=true):dG a r=a:=by unfold dG;rw[h]
theorem JY{a:rP}{r:EE}(h:a.2.2=false):dG a r=(a.1++r.ws,a.2.1++r.o.c,r.bad):=by unfold dG;rw[h]
theorem UT(P:sB g){K:iE->List O->Prop}{bl il wl cl ep:Nat}{x7:Option V}{r0:EE}(h0:r0∈GD)
 (hb:J[bl]?=some (.dict ((gD (FD g.ns)).map gB) ep)) (hi:J[il]?=some (.list ((OH (QC g.ns 6)).map .str))) (hwl:J[wl]?=some (.list (r0.ws.map .str))) (hcl:J[cl]?=some (.list (r0.o.c.map DF)))
 (f:dB g 99 none Re [some .script,none,none,none,none,none,none,x7,some (.int (QC g.ns 7)),some (.loc bl),some (.loc il),some (.str r0.o.w),some (.loc wl),some (.loc cl),some (.bool r0.bad),none,none,none,none,none,none,none,none,none,none] J (LF K) (jF K)) (e:∀NA,K (.ok (.bool true)) NA->False):False:=by
 have E:=VN g.ns
 have good:∀{r:EE},mD (FD g.ns) (OH (QC g.ns 6)) r->r.o.w.length<=310/\r.ws.length<=10/\r.o.c.length<=4:=fun {r} h=>by
  have:=aR (L:=Lc 0 (OC 0 0 [])) (sl:=0) (ll:=0) (res:=[]) (d:=0) P rfl E h
  exact⟨this.w,this.s,this.c⟩
 have g0:=good (.first h0)
 obtain⟨m,hm,hq⟩:=QE (y:=QC g.ns 8) (n:=5) (by decide)
 have hm:m < 5:=hm
 refine f _ (aC (p:=8) P (by decide)) _ (WB (by decide) (by decide)) (by decide) (by decide) (by omega) (by omega) fun Pw hP p0=>?_
 rw[hq]at hP
 have go:∀(k2:Nat) (k:Nat) (rs:List (List Nat×EE)) (wl cl:Nat) (x1 x15 x16:Option V) (b:Bool) (src:List Nat) (NA:List O),k+k2=m+2->rs.length=k->(∀x∈rs,x.1∈HD/\mD (FD g.ns) (OH (QC g.ns 6)) x.2)->Gr J NA->(xA r0 rs).2.2=b->BD r0 rs=src->src.length<=310+314*k->(xA r0 rs).1.length<=10+10*k->(xA r0 rs).2.1.length<=4+4*k->NA[wl]?=some (.list ((xA r0 rs).1.map .str))->NA[cl]?=some (.list ((xA r0 rs).2.1.map DF))->
  Pw k [some .script,x1,none,none,none,none,none,x7,some (.int (QC g.ns 7)),some (.loc bl),some (.loc il),some (.str src),some (.loc wl),some (.loc cl),some (.bool b),x15,x16,none,none,none,none,none,none,none,none] NA->False:=by
  intro k2
  induction k2 with
  | zero=>
    intro k rs wl cl x1 x15 x16 b src NA ek el hrs hg hF hS hl hw hc q1 q2 p
    exact lX P hF hS h0 hrs (by omega) (by rw[hS];omega) (by omega) (hg.get hb) q1 q2 (hP _ _ _ p false (decide_eq_false (by omega))) e
  | succ k2 ih=>
    intro k rs wl cl x1 x15 x16 b src NA ek el hrs hg hF hS hl hw hc q1 q2 p
    refine hP _ _ _ p true (decide_eq_true (by omega)) _ (aC (p:=9+k) P (by omega)) _ (aY P E.ok (hg.get hb) (hg.get hi) E.n) fun v MC ⟨r,hr,h⟩ p=>?_
    cases h with | mk g1 k1 k2_1=>?_
    have hgm:=bC (L:=HD) (e:=[]) (n:=4) ((QC g.ns (9+k)).fdiv 10) (by decide) (by decide)
    have hgp:=JE (L:=HD) (e:=[]) (n:=4) V.str ((QC g.ns (9+k)).fdiv 10) (by decide) (by decide)
    revert hgm hgp
    generalize AD HD [] 4 ((QC g.ns (9+k)).fdiv 10)=gp
    intro hgm hgp
    have lg:gp.length<=4:=(by decide:∀h∈HD,h.length<=4) _ hgm
    have lr:=good hr
    have p:=p _ (yB (by decide) (by decide)) _ (WB (by decide) (by decide)) _ (gC (AA ..) hgp) _ (jC (by omega)) _ rfl _ (jC (by rw[List.length_append];omega))
    have g2:Gr J (MC++[O.list (HD.map .str)]):=(hg.trans g1).app _
    have hrs2:∀x∈rs++[(gp,r)],x.1∈HD/\mD (FD g.ns) (OH (QC g.ns 6)) x.2:=fun x m=>(List.mem_append.mp m).elim (hrs x) fun m=>by rw[List.mem_singleton.mp m];exact⟨hgm,hr⟩
    have hs2:BD r0 (rs++[(gp,r)])=src++gp++r.o.w:=by rw[<-rT,hS]
    have hl2:(src++gp++r.o.w).length<=310+314*(k+1):=by rw[List.length_append,List.length_append];omega
    have el2:(rs++[(gp,r)]).length=k+1:=by rw[List.length_append,el];rfl
    cases b with
    | true=>
      have e1:xA r0 (rs++[(gp,r)])=xA r0 rs:=rK.trans (KY hF)
      exact ih (k+1) (rs++[(gp,r)]) wl cl _ _ _ true _ _ (by omega) el2 hrs2 g2 (by rw[e1];exact hF) hs2 hl2 (by rw[e1];omega) (by rw[e1];omega) (by rw[e1];exact EA (g1.get q1) _) (by rw[e1];exact EA (g1.get q2) _) (p true rfl)
    | false=>
      have e1:xA r0 (rs++[(gp,r)])=((xA r0 rs).1++r.ws,(xA r0 rs).2.1++r.o.c,r.bad):=rK.trans (JY hF)
      have i1:((xA r0 rs).1.map V.str).length+(r.ws.map V.str).length<=100000:=by rw[List.length_map,List.length_map];omega
      have i2:((xA r0 rs).2.1.map DF).length+(r.o.c.map DF).length<=100000:=by rw[List.length_map,List.length_map];omega
      have p:=p false rfl _ rfl _ _ (dU (EA (g1.get q1) _) (EA k1 _) i1) _ rfl _ _ (dU (EA (EA (g1.get q2) _) _) (EA (EA k2_1 _) _) i2) _ rfl
      refine ih (k+1) (rs++[(gp,r)]) _ _ _ _ _ r.bad _ _ (by omega) el2 hrs2 ((g2.app _).app _) (by rw[e1]) hs2 hl2 (by rw[e1];show((xA r0 rs).1++r.ws).length<=_;rw[List.length_append];omega) (by rw[e1];show((xA r0 rs).2.1++r.o.c).length<=_;rw[List.length_append];omega) ?_ ?_ p
      ·rw[e1,List.map_append];exact EA (AA ..) _
      ·rw[e1,List.map_append];exact AA ..
 exact go (m+2) 0 [] wl cl none none none r0.bad r0.o.w J (Nat.zero_add _) rfl (fun x m=>nomatch m) .refl (qK _ h0).symm (List.append_nil _) (by omega) (by show r0.ws.length<=_;omega) (by show r0.o.c.length<=_;omega) hwl hcl p0
theorem law_ok1(P:sB g):JA g 100 none 730 [.script] [] (.to (.bool true) fun _=>True):=
 P.f730.run rfl rfl fun K e f=>by
   have en:∀NA,K (.ok (.bool true)) NA->False:=fun NA k=>e k .same ⟨rfl,trivial⟩
   refine f _ (aC (p:=7) P (by decide)) _ (eZ P) fun v MC h f=>?_
   cases h with | mk g1 hb=>?_
   refine f _ (aC (p:=6) P (by decide)) _ (XV P) fun v PB h f=>?_
   cases h with | mk g2 hi=>?_
   refine f _ rfl _ (WB (by decide) (by decide)) _ (VX P) fun v xL ⟨r0,h0,h⟩ f=>?_
   cases h with | mk g3 k1 k2=>?_
   exact UT P h0 (g3.get (g2.get hb)) (g3.get hi) k1 k2 f en
end
section
open PySem.Challenge
noncomputable def tf(u0:World)(h:Heap):Prop:=∃K,Fc K/\K.In h
theorem Zd:LeftO rw_np0149_01.row.toRowW.1 qL lN qf (fun s=>∃K,Fc K/\K.In s.heap) (fun u0=>True) 10000:=
 WT rfl (by decide) (fun u0=>rfl) (M:=5000) (by decide) fun w os=>⟨PX w os,(pa w os).1,(pa w os).2.1,eq_true ⟨kL w os,(pa w os).2.2,CV _ _⟩⟩
theorem Ce:namesResolve rw_np0149_01.row.prog=true:=by kernel_rfl
theorem De:noRoadLSs {strict:=!(importedModules rw_np0149_01.row.prog.main.body).all cThrough.contains,foot:=none,bare:=(["vars","dir","locals"]:List Str).filter (readsOut rw_np0149_01.row.prog rw_np0149_01.row.prog.main.body)} rw_np0149_01.row.prog.main.body=true:=by kernel_rfl
theorem Ee:namesMeet rw_np0149_01.row.prog rw_np0149_01.row.prog.main.body (fun _ n=>attrL n)=true:=by kernel_rfl
theorem Fe:looksOpen rw_np0149_01.row.prog=true:=by unfold looksOpen;rw[Ce,De,Ee];kernel_rfl
theorem ua:OpenLaw.wellSaid rw_np0149_01=true:=by unfold OpenLaw.wellSaid OpenRow.wellSaid OpenRow.partSaid;rw[Fe];kernel_rfl
set_option tactic.hygienic true in
theorem me(law_ok:∀g,sB g->g.ns.length<=63->CallOk g 100 none (.ref 730) [.script] [] (fun r u0=>r= .ok (.bool true))){d:DefRec}{kwd:List (Str×PySem.Expr)}(hdef:PySem.W.defOf qL rw_np0149_01.row.name=some (d,kwd)):WalkO qL lN (XL qL []) tf rw_np0149_01.row.toRowW d kwd fun f vs=>PySem.call f vs:=by
 intro w LB CA mg mb G Y fa o pm cd doc dV kV ho hdd hcd hD hmg hg args vals as hpre hlay hrd hwl hlo
 obtain⟨K,Fk,KX⟩:=Y
 have X:=(Ground.X G).1
 have V:=(Ground.X G).2
 refine Ground.open G ?_
 intro T B D TE TW
 clear hcd hD
 have hfa:fa=730:=by
  have h1:=mg_of KX T.g (Fk.law)
  have h2:mg (Str.ofString "law")=some (.ref fa):=by have:=hmg;rw[PySem.W.defOf_name hdef]at this;exact this
  rw[h1]at h2
  cases h2;rfl
 subst hfa
 clear hdd hmg
 wrow_args hpre hlay hrd hwl hlo
 refine enter_call ?_
 rename_i ns _ _ _ _ _ _ _ sa vs _ hL _ _ _ hI _ hcond _
 have big:∃b o,100<=b/\CA.heap.get? b=some o:=⟨730,o,by decide,ho⟩
 have hns:ns.length<=63:=by omega
 have Yg:=Qg (prog:=PySem.Challenge.rw_np0149_01.row.prog) (w:=w) (big:=big) (os:=CA.os) (sa:=sa) (ns:=ns) Fk.see KX ⟨mg,T.g⟩ ⟨mb,T.b,T.builtins⟩ T.nolimit ⟨_,hL,by simpa using hI,hns⟩
 have P:=WV Fk Yg
 have S:St (kd PySem.Challenge.rw_np0149_01.row.prog w (K) CA.heap big CA.os sa ns) CA [] []:=
  ⟨fun b o e=>e,List.nodup_nil,(by intro a m;cases m),rfl,(by intro l a x e;simp at e),hg,rfl⟩
 have C:Cx (kd PySem.Challenge.rw_np0149_01.row.prog w (K) CA.heap big CA.os sa ns) callerA CA [] 100 none:=
  ⟨by decide,by decide,rfl,[],rfl,(by intro e m;cases m)⟩
 refine codeAny_mono (law_ok _ P hns callerA CA [] [.ref sa] C S ⟨rfl,trivial⟩) fun r s' p=>?_
 rcases r with e | (_ | _ | _ | v)
 ·obtain⟨⟨l,NA,iA,a,q,_⟩,_⟩:=p
  cases q
 ·exact p.elim
 ·exact p.elim
 ·exact p.elim
 ·obtain⟨mv,NA,iA,q,rv,S',_⟩:=p
  cases q
  cases rv
  refine GoodW.toG ⟨.inl ⟨_, .bool true,[],rfl,?_,?_,?_,?_⟩,S'.base,S'.os,S'.gens⟩
  ·intro cls;rfl
  ·exact .bool _
  ·first | kernel_rfl | with_unfolding_all rfl
  ·intro _;exact⟨List.nodup_nil,by intro a m;cases m⟩
set_option tactic.hygienic true in
theorem fin01(law_ok:∀g,sB g->g.ns.length<=63->CallOk g 100 none (.ref 730) [.script] [] (fun r u0=>r= .ok (.bool true))):rw_np0149_01.Holds:=
 holds_law ua fun ua=>by
 refine holds_open (q:=qL) (loose:=lN) (Xt:=qf) (XP:=XL qL []) (Yf:=fun s=>∃K,Fc K/\K.In s.heap) (Ya:=fun u0=>True) (YP:=tf) (N:=10000) Zd (fun w s e=>of_eq_true e) (fun w h h' x k=>?_) (fun s e=>xl_of s (Bool.and_eq_true_iff.mp e).1) XL.keeps (by rfl) (by rfl) (by rfl) (fun s e=>recFacts_of (Bool.and_eq_true_iff.mp e).2) (by rfl) ua (by decide+kernel) ⟨rfl,rfl,rfl,rfl,rfl,by decide+kernel⟩ ?hw ?hc
 ·obtain⟨K,a,b⟩:=x;exact⟨K,a,b.keeps k⟩
 case hw=>w_witness2
 case hc=>exact me law_ok rfl
end
end Mine
theorem PySem.Challenge.cw_np0149_01_holds : PySem.Challenge.rw_np0149_01.Holds := by
  exact Mine.fin01 fun _ P _ => Mine.CallOk.mono (Mine.law_ok1 P) fun _ _ q => q.1
