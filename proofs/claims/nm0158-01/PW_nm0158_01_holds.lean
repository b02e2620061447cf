import PyProof.Rows.All
import Wide.All
import OpenK.AllK
import Wide.FinOn
import Lean
import PySem.Challenge.RW_nm0158_01
open PySem PySem.W PyProof.Rows
set_option Elab.async false
set_option linter.unusedVariables false
set_option maxRecDepth 100000
set_option genSizeOf false
set_option genInjectivity false
set_option bootstrap.genMatcherCode false
set_option compiler.extract_closed false
set_option tactic.hygienic false
theorem aD{n m:Nat}(h:Nat.ble n m=true):n≤m:=Nat.le_of_ble_eq_true h
theorem aM{n m k:Nat}(a:n≤m)(b:m≤k):n≤k:=Nat.le_trans a b
theorem bE{α:Type _}{a b:α}(h:some a=some b):a=b:=Option.some.inj h
theorem cL{α:Type _}{as bs:List α}:(as++bs).length=as.length+bs.length:=List.length_append
theorem eR{α:Type _}{a b:α}(h:a∈[b]):a=b:=List.mem_singleton.mp h
theorem cJ{α:Type _}[BEq α][LawfulBEq α]{a b:α}(h:(a==b)=true):a=b:=beq_iff_eq.mp h
theorem eS{α:Type _}{a:α}{l:List α}:a∈a::l:=List.mem_cons_self
theorem fW{α:Type _}(y:α){a:α}{l:List α}(h:a∈l):a∈y::l:=List.mem_cons_of_mem y h
theorem eL(n k:Nat):n≤n+k:=Nat.le_add_right n k
theorem fV{n m:Nat}(h:n≤m)(k:Nat):k+n≤k+m:=Nat.add_le_add_left h k
theorem eP{n m:Nat}(h:n≤m)(k:Nat):n+k≤m+k:=Nat.add_le_add_right h k
theorem cT{a b c d:Nat}(h:a≤b)(k:c≤d):a+c≤b+d:=Nat.add_le_add h k
theorem bO(n:Nat):n≤n:=Nat.le_refl n
theorem dH{n m:Nat}(h:n=m):n≤m:=Nat.le_of_eq h
theorem eT{α:Type _}{p:α→Bool}{l:List α}(h:l.all p=true):∀x,x∈l→p x=true:=List.all_eq_true.mp h
theorem eM{α:Type _}{a b:α}{l:List α}(h:a∈b::l):a=b∨a∈l:=List.mem_cons.mp h
theorem gK{α:Type _}{a:α}{s t:List α}(h:a∈s++t):a∈s∨a∈t:=List.mem_append.mp h
theorem gB{α:Type _}{l:List α}{i:Nat}{a:α}(h:l[i]?=some a):∃h:i<l.length,l[i]=a:=List.getElem?_eq_some_iff.mp h
theorem iJ{α β:Type _}{f:α→β}{b:β}{x:Option α}(h:x.map f=some b):∃a,x=some a∧f a=b:=Option.map_eq_some_iff.mp h
theorem eJ{α:Type _}(a b c:List α):a++b++c=a++(b++c):=List.append_assoc a b c
theorem bS{α β:Type _}{as:List α}(f:α→β):(as.map f).length=as.length:=List.length_map f
theorem eD{α β:Type _}{f:α→β}{l m:List α}:(l++m).map f=l.map f++m.map f:=List.map_append
theorem eX{α:Type _}{a:α}{as:List α}:(a::as).length=as.length+1:=List.length_cons
theorem fM{n m:Nat}(h:n≤m):n+1≤m+1:=Nat.succ_le_succ h
theorem fA(n m:Nat):n≤m+n:=Nat.le_add_left n m
theorem iA{α:Type _}{l:List α}{i:Nat}{a:α}(h:l[i]?=some a):a∈l:=List.mem_of_getElem? h
theorem hZ{m n:Nat}(k:Nat)(h:m≤n):k*m≤k*n:=Nat.mul_le_mul_left k h
theorem cM(n:Nat):0≤n:=Nat.zero_le n
section
namespace Mine
theorem T0:true=true:=.refl true
theorem zD{p:Prop}[Decidable p](h:decide p=true):p:=of_decide_eq_true h
@[elab_as_elim] theorem rwL.{u}{α:Sort u}{a b:α}{p:α→Prop}(h:a=b)(t:p b):p a:=h▸t
@[elab_as_elim] theorem rwR.{u}{α:Sort u}{a b:α}{p:α→Prop}(h:a=b)(t:p a):p b:=h▸t
@[elab_as_elim] theorem iteD.{u}{α:Sort u}{p:Prop}[Decidable p]{a b:α}{P:α→Prop}(x:p→P a)(y:¬p→P b):P (ite p a b):=if h:p then rwL (if_pos h) (x h) else rwL (if_neg h) (y h)
theorem kZ{α:Type}{p:Prop}[Decidable p]{a b c:α}{P:Prop}(h:(if p then a else b)=c)(x:p→a=c→P)(y:¬p→b=c→P):P:=
 if q:p then x q ((if_pos q).symm.trans h) else y q ((if_neg q).symm.trans h)
theorem exE{ε α:Type}{e:ε}{a:α}{P:Prop}(h:(Except.error e:Except ε α)=.ok a):P:=nomatch h
theorem soE{ε α:Type}{e:ε}{a:α}{P:Prop}(h:some (Except.error e:Except ε α)=some (.ok a)):P:=exE (bE h)
theorem cZ{α:Type}{a:α}{P:Prop}(h:none=some a):P:=nomatch h
theorem iX{P:Prop}(h:false=true):P:=nomatch h
theorem dQ{α β:Type}{o:Option α}{f:α→Option β}{b:β}{P:Prop}(h:o.bind f=some b)(k:∀a,o=some a→f a=some b→P):P:=by
 induction o with
 |none=>exact cZ h
 |some a=>exact k a rfl h
theorem oE{α β:Type}{o:Option α}{f:α→β}{b:β}{P:Prop}(h:o.map f=some b)(k:∀a,o=some a→f a=b→P):P:=by
 induction o with
 |none=>exact cZ h
 |some a=>exact k a rfl (bE h)
theorem orE{α:Type}{a b:Option α}{c:α}{P:Prop}(h:a.or b=some c)(x:a=some c→P)(y:b=some c→P):P:=by
 induction a with
 |none=>exact y h
 |some _=>exact x h
theorem gU{a b:Bool}{P:Prop}(h:(a&&b)=true)(k:a=true→b=true→P):P:=by
 induction a with
 |false=>exact iX h
 |true=>exact k rfl h
theorem aJL{α β:Type}{p:α→β→Prop}{P:Prop}(h:∃a b,p a b)(k:∀a b,p a b→P):P:=let⟨a,b,q⟩:=h;k a b q
theorem aBB{α:Type}{p:α→Prop}{P:Prop}(h:∃a,p a)(k:∀a,p a→P):P:=let⟨a,q⟩:=h;k a q
theorem ifS{α:Type}{p:Prop}[Decidable p]{a:Option α}{b:α}{P:Prop}(h:(if p then a else none)=some b)(k:p→a=some b→P):P:=kZ h k fun Z=>cZ
inductive V where
 |none
 |bool (b:Bool)
 |int (i:Int)
 |str (s:Str)
 |tup (l:List V)
 |lst (l:List V)
 |sdc (ks:List Str) (vs:List V)
 |idc (ks:List Int) (vs:List V)
 |obj (C:Addr) (ns:List Str) (vs:List V)
 |rng (n:Int)
 |xc (C:Addr) (ks:List Str) (vs:List V)
 |ref (a:Addr)
 |ty (n:String)
 |bi (n:String)
inductive dJ where
 |lst (l:List V)
 |ins (C dx:Addr)
 |ns (ks:List Str) (vs:List V)
 |cell (v:V)
 |exc (C:Addr) (dx:Option Addr)
 |mark
theorem nm{m:dJ}(h:Nat.beq m.ctorIdx 5=false):m≠.mark:=fun e=>iX ((congrArg (fun m:dJ=>Nat.beq m.ctorIdx 5) e).symm.trans h).symm
abbrev aA:=Addr→Option dJ
noncomputable def upd(a:Addr)(m:dJ)(σ:aA):aA:=fun b=>if b=a then some m else σ b
noncomputable def eZ(a:Addr)(σ:aA):aA:=fun b=>if b=a then none else σ b
theorem aI(σ:aA)(a:Addr)(m:dJ):upd a m σ a=some m:=by simp[upd]
theorem aR(σ:aA){a b:Addr}(m:dJ)(h:b≠a):upd a m σ b=σ b:=by simp[upd,h]
theorem oK(σ:aA)(a:Addr):eZ a σ a=none:=by simp[eZ]
theorem dP(σ:aA){a b:Addr}(h:b≠a):eZ a σ b=σ b:=by simp[eZ,h]
abbrev mK(vs:Array Value)(n:Nat):Obj:={cls:=.type "tuple",data:=.seq vs n}
abbrev fL(vs:Array Value)(n:Nat):Obj:={cls:=.type "list",data:=.seq vs n}
abbrev fX(es:Array DictEntry)(n:Nat):Obj:={cls:=.type "dict",data:=.dict es n}
noncomputable def qA{β:Type}{p:β→Prop}(o:Option {b // p b}):Option β:=o.map (·.val)
theorem eE{β:Type}{p:β→Prop}{o:Option {b // p b}}{b:β}(h:qA o=some b):p b:=by
 obtain⟨⟨c,hc⟩,_,rfl⟩:=iJ h
 exact hc
theorem rdB{β γ:Type}{p:β→Prop}{o:Option {b // p b}}{f:β→Option γ}{v:γ}{P:Prop}(h:(qA o).bind f=some v)(k:∀b,p b→f b=some v→P):P:=dQ h fun b e h'=>k b (eE e) h'
noncomputable def aDG(v:Value)(b:Bool):Prop:=v=.bool b
noncomputable def aGk(v:Value):Option (Bool):=qA (p:=aDG v) (if h:v.ctorIdx=3 then Value.bool.elim v h fun b=>some ⟨b,rfl⟩ else none)
theorem aFs{v:Value}{b:Bool}(h:aGk v=some b):v=.bool b:=eE (p:=aDG v) h
noncomputable def aH6(v:Value)(i:Int):Prop:=∃t,v=.int i t
noncomputable def aDT(v:Value):Option (Int):=qA (p:=aH6 v) (if h:v.ctorIdx=4 then Value.int.elim v h fun i t=>some ⟨i,t,rfl⟩ else none)
theorem aCa{v:Value}{i:Int}(h:aDT v=some i):∃t,v=.int i t:=eE (p:=aH6 v) h
noncomputable def aGZ(v:Value)(s:Str):Prop:=∃t,v=.str s t
noncomputable def aKw(v:Value):Option (Str):=qA (p:=aGZ v) (if h:v.ctorIdx=6 then Value.str.elim v h fun s t=>some ⟨s,t,rfl⟩ else none)
theorem aFG{v:Value}{s:Str}(h:aKw v=some s):∃t,v=.str s t:=eE (p:=aGZ v) h
noncomputable def aFO(v:Value)(a:Addr):Prop:=v=.ref a
noncomputable def xI(v:Value):Option (Addr):=qA (p:=aFO v) (if h:v.ctorIdx=10 then Value.ref.elim v h fun a=>some ⟨a,rfl⟩ else none)
theorem rF{v:Value}{a:Addr}(h:xI v=some a):v=.ref a:=eE (p:=aFO v) h
noncomputable def aFA(v:Value)(n:String):Prop:=v=.type n
noncomputable def wL(v:Value):Option (String):=qA (p:=aFA v) (if h:v.ctorIdx=8 then Value.type.elim v h fun n=>some ⟨n,rfl⟩ else none)
theorem lN{v:Value}{n:String}(h:wL v=some n):v=.type n:=eE (p:=aFA v) h
noncomputable def aHw(v:Value)(n:String):Prop:=v=.builtin n
noncomputable def aHz(v:Value):Option (String):=qA (p:=aHw v) (if h:v.ctorIdx=9 then Value.builtin.elim v h fun n=>some ⟨n,rfl⟩ else none)
theorem aBx{v:Value}{n:String}(h:aHz v=some n):v=.builtin n:=eE (p:=aHw v) h
noncomputable def uN(v:Expr)(x:Str):Prop:=∃p,v=.Name x p
noncomputable def qK(v:Expr):Option (Str):=qA (p:=uN v) (if h:v.ctorIdx=23 then Expr.Name.elim v h fun x p=>some ⟨x,p,rfl⟩ else none)
theorem yG{v:Expr}{x:Str}(h:qK v=some x):∃p,v=.Name x p:=eE (p:=uN v) h
noncomputable def aHR(v:V)(l:List V):Prop:=v=.tup l
noncomputable def aKv(v:V):Option (List V):=qA (p:=aHR v) (if h:v.ctorIdx=4 then V.tup.elim v h fun l=>some ⟨l,rfl⟩ else none)
theorem aHS{v:V}{l:List V}(h:aKv v=some l):v=.tup l:=eE (p:=aHR v) h
noncomputable def aFC(v:V)(i:Int):Prop:=v=.int i
noncomputable def vG(v:V):Option (Int):=qA (p:=aFC v) (if h:v.ctorIdx=2 then V.int.elim v h fun i=>some ⟨i,rfl⟩ else none)
theorem pC{v:V}{i:Int}(h:vG v=some i):v=.int i:=eE (p:=aFC v) h
noncomputable def aGo(v:V)(s:Str):Prop:=v=.str s
noncomputable def mU(v:V):Option (Str):=qA (p:=aGo v) (if h:v.ctorIdx=3 then V.str.elim v h fun s=>some ⟨s,rfl⟩ else none)
theorem lL{v:V}{s:Str}(h:mU v=some s):v=.str s:=eE (p:=aGo v) h
noncomputable def aJX(v:Data)(c:ClassData):Prop:=v=.cls c
noncomputable def aNG(v:Data):Option (ClassData):=qA (p:=aJX v) (if h:v.ctorIdx=8 then Data.cls.elim v h fun c=>some ⟨c,rfl⟩ else none)
theorem aJP{v:Data}{c:ClassData}(h:aNG v=some c):v=.cls c:=eE (p:=aJX v) h
noncomputable def aKx(v:Data)(p:Array Value×Nat):Prop:=v=.seq p.1 p.2
noncomputable def aLD(v:Data):Option (Array Value×Nat):=qA (p:=aKx v) (if h:v.ctorIdx=2 then Data.seq.elim v h fun vs n=>some ⟨(vs,n),rfl⟩ else none)
theorem aJg{v:Data}{p:Array Value×Nat}(h:aLD v=some p):v=.seq p.1 p.2:=eE (p:=aKx v) h
noncomputable def aKd(v:Data)(p:Array DictEntry×Nat):Prop:=v=.dict p.1 p.2
noncomputable def aKE(v:Data):Option (Array DictEntry×Nat):=qA (p:=aKd v) (if h:v.ctorIdx=3 then Data.dict.elim v h fun es n=>some ⟨(es,n),rfl⟩ else none)
theorem aJF{v:Data}{p:Array DictEntry×Nat}(h:aKE v=some p):v=.dict p.1 p.2:=eE (p:=aKd v) h
noncomputable def aD6(v:Value)(_:Unit):Prop:=v=.none
noncomputable def aFM(v:Value):Option Unit:=qA (p:=aD6 v) (if h:v.ctorIdx=0 then Value.none.elim v h (some ⟨(),rfl⟩) else none)
theorem aEO{v:Value}(h:aFM v=some ()):v=.none:=eE (p:=aD6 v) h
theorem aEv{α:Type}{l:List α}{n:Nat}(h:l.length=n+1):∃a r,l=a::r∧r.length=n:=by
 induction l with
 |nil=>cases h
 |cons a r=>exact⟨a,r,rfl,Nat.succ.inj h⟩
theorem aN4{α:Type}{l:List α}(h:l.length=0):l=[]:=List.length_eq_zero_iff.mp h
theorem aNl{α:Type}{l:List α}(h:l.length=1):∃a,l=[a]:=let⟨a,_,e,k⟩:=aEv h;⟨a,by rw[e,aN4 k]⟩
theorem aLU{α:Type}{l:List α}(h:l.length=2):∃a b,l=[a,b]:=let⟨a,_,e,k⟩:=aEv h;let⟨b,e'⟩:=aNl k;⟨a,b,by rw[e,e']⟩
theorem aK9{α:Type}{l:List α}(h:l.length=3):∃a b c,l=[a,b,c]:=let⟨a,_,e,k⟩:=aEv h;let⟨b,c,e'⟩:=aLU k;⟨a,b,c,by rw[e,e']⟩
theorem aNv{α:Type}{l:List α}(h:l.length=4):∃a b c d,l=[a,b,c,d]:=let⟨a,_,e,k⟩:=aEv h;let⟨b,c,d,e'⟩:=aK9 k;⟨a,b,c,d,by rw[e,e']⟩
theorem aPr{α:Type}{l:List α}(h:l.length=5):∃a b c d x,l=[a,b,c,d,x]:=let⟨a,_,e,k⟩:=aEv h;let⟨b,c,d,x,e'⟩:=aNv k;⟨a,b,c,d,x,by rw[e,e']⟩
theorem aKQ{α:Type}{l:List α}(h:l.length=6):∃a b c d x y,l=[a,b,c,d,x,y]:=let⟨a,_,e,k⟩:=aEv h;let⟨b,c,d,x,y,e'⟩:=aPr k;⟨a,b,c,d,x,y,by rw[e,e']⟩
noncomputable def xW(s:Str):Prop:=PyData.strOk s=true∧s.length≤2^20
inductive KsR(P:Params)(k:Str)(q:List DictEntry→Prop)(l:List DictEntry):Prop|mk (e:DictEntry) (es:List DictEntry) (t:Tok) (h:l=e::es) (h1:e.key=.str k t) (h2:e.hash=PyData.keyHash P k) (f:xW k) (r:q es)
inductive KiR(k:Int)(q:List DictEntry→Prop)(l:List DictEntry):Prop|mk (e:DictEntry) (es:List DictEntry) (t:Tok) (h:l=e::es) (h1:e.key=.int k t) (h2:e.hash=hashInt k) (r:q es)
noncomputable def KS(P:Params):List Str→List DictEntry→Prop
 |[],l=>l=[]
 |k::ks,l=>KsR P k (KS P ks) l
noncomputable def KI:List Int→List DictEntry→Prop
 |[],l=>l=[]
 |k::ks,l=>KiR k (KI ks) l
inductive aN2(σ:aA)(h:Heap)(mk:Array Value→Nat→Obj)(q:List Value→Prop)(v:Value):Prop|mk (a:Addr) (vs:Array Value) (n:Nat) (e:v=.ref a) (m:σ a=none) (g:h.get? a=some (mk vs n)) (r:q vs.toList)
inductive aMt(σ:aA)(h:Heap)(k:List DictEntry→Prop)(q:List Value→Prop)(v:Value):Prop|mk (a:Addr) (es:Array DictEntry) (n:Nat) (e:v=.ref a) (m:σ a=none∧(a==sysModules)=false) (g:h.get? a=some (fX es n)) (r:k es.toList) (s:q (es.toList.map (·.val)))
inductive aPA(σ:aA)(h:Heap)(C:Addr)(k q:List Value→Prop)(v:Value):Prop|mk (a dx:Addr) (es:Array DictEntry) (n:Nat) (e:v=.ref a) (m:σ a=none) (m2:σ dx=none) (g:h.get? a=some (instObj C dx)) (g2:h.get? dx=some (fX es n)) (r:k (es.toList.map (·.key))) (s:q (es.toList.map (·.val)))
inductive XcR(σ:aA)(h:Heap)(C:Addr)(k q:List Value→Prop)(v:Value):Prop|mk (a dx:Addr) (o:Obj) (es:Array DictEntry) (n:Nat) (e:v=.ref a) (m:σ a=none) (m2:σ dx=none) (g:h.get? a=some o) (g1:o.cls=.ref C) (g3:o.dict=some dx) (g4:notCls o=true) (g2:h.get? dx=some (fX es n)) (r:k (es.toList.map (·.key))) (s:q (es.toList.map (·.val)))
inductive aOW(σ:aA)(h:Heap)(n:Int)(v:Value):Prop|mk (a:Addr) (t u w:Tok) (e:v=.ref a) (m:σ a=none) (g:h.get? a=some {cls:=.type "range",data:=.fields #[.int 0 t,.int n u,.int 1 w]})
inductive aM2(p:Value→Prop)(q:List Value→Prop)(l:List Value):Prop|mk (v:Value) (vs:List Value) (e:l=v::vs) (r:p v) (s:q vs)
inductive aOt(x:Str)(q:List Value→Prop)(l:List Value):Prop|mk (t:Tok) (vs:List Value) (e:l=.str x t::vs) (s:q vs)
noncomputable def lD:List Str→List Value→Prop
 |[],l=>l=[]
 |x::xs,l=>aOt x (lD xs) l
mutual
noncomputable def bW(P:Params)(σ:aA)(h:Heap):V→Value→Prop
 |.none,v=>v=.none
 |.bool b,v=>v=.bool b
 |.int i,v=>∃t,v=.int i t
 |.str s,v=>xW s∧∃t,v=.str s t
 |.tup l,v=>aN2 σ h mK (bC P σ h l) v
 |.lst l,v=>aN2 σ h fL (bC P σ h l) v
 |.sdc ks vs,v=>aMt σ h (KS P ks) (bC P σ h vs) v
 |.idc ks vs,v=>aMt σ h (KI ks) (bC P σ h vs) v
 |.obj C ns vs,v=>aPA σ h C (lD ns) (bC P σ h vs) v
 |.rng n,v=>aOW σ h n v
 |.xc C ks vs,v=>XcR σ h C (lD ks) (bC P σ h vs) v
 |.ref a,v=>v=.ref a
 |.ty n,v=>v=.type n
 |.bi n,v=>v=.builtin n
noncomputable def bC(P:Params)(σ:aA)(h:Heap):List V→List Value→Prop
 |[],l=>l=[]
 |x::xs,l=>aM2 (bW P σ h x) (bC P σ h xs) l
end
noncomputable def kT(o o':Obj):Prop:=∃sl,o'={o with slots:=sl}
theorem kT.refl(o:Obj):kT o o:=⟨o.slots,rfl⟩
theorem kT.trans{a b c:Obj}(x:kT a b)(y:kT b c):kT a c:=by
 obtain⟨sl,rfl⟩:=x
 obtain⟨sl',rfl⟩:=y
 exact⟨sl',rfl⟩
theorem kT.data{a b:Obj}(x:kT a b):b.data=a.data:=by
 obtain⟨_,rfl⟩:=x;rfl
inductive SlR(o:Obj)(b:Addr)(h':Heap):Prop|mk (o':Obj) (g:h'.get? b=some o') (s:kT o o')
noncomputable def nX(σ:aA)(h h':Heap):Prop:=∀b o,h.get? b=some o→(σ b=none→h'.get? b=some o)∧(σ b=some .mark→SlR o b h')
noncomputable def sJ(L:Addr)(σ:aA)(h h':Heap):Prop:=∀b o,h.get? b=some o→(σ b=none→h'.get? b=some o)∧(σ b=some .mark→b≠L→SlR o b h')
noncomputable def yJ(σ σ':aA)(h:Heap):Prop:=∀b o,h.get? b=some o→(σ b=none→σ' b=none)∧(σ b=some .mark→σ' b=some .mark)∧∀v,σ b=some (.cell v)→∃v',σ' b=some (.cell v')
noncomputable def oV(h h':Heap):Prop:=∀b o,h.get? b=some o→∃o',h'.get? b=some o'
theorem oV.refl(h:Heap):oV h h:=fun Z o e=>⟨o,e⟩
theorem oV.trans{h₁ h₂ h₃:Heap}(x:oV h₁ h₂)(y:oV h₂ h₃):oV h₁ h₃:=fun b o e=>let⟨o',e'⟩:=x b o e;y b o' e'
theorem nX.refl(σ:aA)(h:Heap):nX σ h h:=fun Z o e=>⟨fun Z=>e,fun Z=>⟨o,e,.refl o⟩⟩
theorem yJ.refl(σ:aA)(h:Heap):yJ σ σ h:=fun Z Z Z=>⟨id,id,fun v e=>⟨v,e⟩⟩
theorem nX.trans{σ σ':aA}{h₁ h₂ h₃:Heap}(x:nX σ h₁ h₂)(d:yJ σ σ' h₁)(y:nX σ' h₂ h₃):nX σ h₁ h₃:=fun b o e=>by
 refine⟨fun s=>(y b o ((x b o e).1 s)).1 ((d b o e).1 s),fun s=>?_⟩
 obtain⟨o',e',q⟩:=(x b o e).2 s
 obtain⟨o'',e'',q'⟩:=(y b o' e').2 ((d b o e).2.1 s)
 exact⟨o'',e'',q.trans q'⟩
theorem yJ.trans{σ₁ σ₂ σ₃:aA}{h₁ h₂:Heap}(x:yJ σ₁ σ₂ h₁)(k:oV h₁ h₂)(y:yJ σ₂ σ₃ h₂):yJ σ₁ σ₃ h₁:=fun b o e=>by
 obtain⟨o',e'⟩:=k b o e
 refine⟨fun s=>(y b o' e').1 ((x b o e).1 s),fun s=>(y b o' e').2.1 ((x b o e).2.1 s),fun v s=>?_⟩
 obtain⟨v',s'⟩:=(x b o e).2.2 v s
 exact(y b o' e').2.2 v' s'
theorem nX.l{σ:aA}{h h':Heap}(x:nX σ h h')(L:Addr):sJ L σ h h':=fun b o e=>⟨(x b o e).1,fun s Z=>(x b o e).2 s⟩
theorem sJ.trans{L:Addr}{σ σ':aA}{h₁ h₂ h₃:Heap}(x:sJ L σ h₁ h₂)(d:yJ σ σ' h₁)(y:sJ L σ' h₂ h₃):sJ L σ h₁ h₃:=fun b o e=>by
 refine⟨fun s=>(y b o ((x b o e).1 s)).1 ((d b o e).1 s),fun s n=>?_⟩
 obtain⟨o',e',q⟩:=(x b o e).2 s n
 obtain⟨o'',e'',q'⟩:=(y b o' e').2 ((d b o e).2.1 s) n
 exact⟨o'',e'',q.trans q'⟩
noncomputable def Dat(o:Obj):Prop:=o.cls=.type "tuple"∨o.cls=.type "list"∨o.cls=.type "dict"∨(∃C,o.cls=.ref C)∨o.cls=.type "range"
mutual
theorem bW.monoD{P:Params}{σ σ':aA}{h h':Heap}(k:∀b o,h.get? b=some o→σ b=none→Dat o→h'.get? b=some o∧σ' b=none):
  ∀{x:V} {v:Value},bW P σ h x v→bW P σ' h' x v
 |.none,_,e=>e
 |.bool _,_,e=>e
 |.int _,_,e=>e
 |.str _,_,e=>e
 |.ref _,_,e=>e
 |.ty _,_,e=>e
 |.bi _,_,e=>e
 |.xc C ks vs,_,e=>by
  obtain⟨a,dx,o,es,n,rfl,hs,hsx,ho,hc,hdi,hn,hd,hk,hq⟩:=e
  obtain⟨k1,k2⟩:=k a _ ho hs (.inr (.inr (.inr (.inl ⟨C,hc⟩))))
  obtain⟨k3,k4⟩:=k dx _ hd hsx (.inr (.inr (.inl rfl)))
  exact⟨a,dx,o,es,n,rfl,k2,k4,k1,hc,hdi,hn,k3,hk,bC.monoD k hq⟩
 |.rng n,_,e=>by
  obtain⟨a,t,u,w,rfl,hs,ho⟩:=e
  obtain⟨k1,k2⟩:=k a _ ho hs (.inr (.inr (.inr (.inr rfl))))
  exact⟨a,t,u,w,rfl,k2,k1⟩
 |.tup l,_,e=>by
  obtain⟨a,vs,n,rfl,hs,ho,hr⟩:=e
  obtain⟨k1,k2⟩:=k a _ ho hs (.inl rfl)
  exact⟨a,vs,n,rfl,k2,k1,bC.monoD k hr⟩
 |.lst l,_,e=>by
  obtain⟨a,vs,n,rfl,hs,ho,hr⟩:=e
  obtain⟨k1,k2⟩:=k a _ ho hs (.inr (.inl rfl))
  exact⟨a,vs,n,rfl,k2,k1,bC.monoD k hr⟩
 |.sdc ks vs,_,e=>by
  obtain⟨a,es,n,rfl,⟨hs,hy⟩,ho,hr,hq⟩:=e
  obtain⟨k1,k2⟩:=k a _ ho hs (.inr (.inr (.inl rfl)))
  exact⟨a,es,n,rfl,⟨k2,hy⟩,k1,hr,bC.monoD k hq⟩
 |.idc ks vs,_,e=>by
  obtain⟨a,es,n,rfl,⟨hs,hy⟩,ho,hr,hq⟩:=e
  obtain⟨k1,k2⟩:=k a _ ho hs (.inr (.inr (.inl rfl)))
  exact⟨a,es,n,rfl,⟨k2,hy⟩,k1,hr,bC.monoD k hq⟩
 |.obj C ns vs,_,e=>by
  obtain⟨a,dx,es,n,rfl,hs,hsx,ho,hd,hk,hq⟩:=e
  obtain⟨k1,k2⟩:=k a _ ho hs (.inr (.inr (.inr (.inl ⟨C,rfl⟩))))
  obtain⟨k3,k4⟩:=k dx _ hd hsx (.inr (.inr (.inl rfl)))
  exact⟨a,dx,es,n,rfl,k2,k4,k1,k3,hk,bC.monoD k hq⟩
theorem bC.monoD{P:Params}{σ σ':aA}{h h':Heap}(k:∀b o,h.get? b=some o→σ b=none→Dat o→h'.get? b=some o∧σ' b=none):
  ∀{l:List V} {vs:List Value},bC P σ h l vs→bC P σ' h' l vs
 |[],_,e=>e
 |_::_,_,e=>by
  obtain⟨v,vs,rfl,h1,h2⟩:=e
  exact⟨v,vs,rfl,bW.monoD k h1,bC.monoD k h2⟩
end
theorem bW.mono{P:Params}{σ σ':aA}{h h':Heap}(k:∀b o,h.get? b=some o→σ b=none→h'.get? b=some o∧σ' b=none){x:V}{v:Value}(r:bW P σ h x v):bW P σ' h' x v:=r.monoD fun b o e z Z=>k b o e z
theorem bC.mono{P:Params}{σ σ':aA}{h h':Heap}(k:∀b o,h.get? b=some o→σ b=none→h'.get? b=some o∧σ' b=none){x:List V}{v:List Value}(r:bC P σ h x v):bC P σ' h' x v:=r.monoD fun b o e z Z=>k b o e z
theorem bW.step{P:Params}{σ σ':aA}{h h':Heap}{x:V}{v:Value}(r:bW P σ h x v)(k:nX σ h h')(d:yJ σ σ' h):bW P σ' h' x v:=
 r.mono fun b o e s=>⟨(k b o e).1 s,(d b o e).1 s⟩
theorem bC.step{P:Params}{σ σ':aA}{h h':Heap}{x:List V}{v:List Value}(r:bC P σ h x v)(k:nX σ h h')(d:yJ σ σ' h):bC P σ' h' x v:=
 r.mono fun b o e s=>⟨(k b o e).1 s,(d b o e).1 s⟩
inductive ObR{α:Type}(mk:Array α→Nat→Obj)(q:List α→Prop)(o:Obj):Prop|mk (vs:Array α) (n:Nat) (e:o=mk vs n) (r:q vs.toList)
inductive aOY(C:Addr)(dx:Option Addr)(o:Obj):Prop|mk (h1:o.cls=.ref C) (h2:o.dict=dx) (h3:o.slots=#[]) (vs:Array Value) (h4:o.data=.fields vs) (h5:vs.size=6) (h6:vs[1]? =some .none)
noncomputable def rU(P:Params)(σ:aA)(h:Heap):dJ→Obj→Prop
 |.lst l,o=>ObR fL (bC P σ h l) o
 |.ins C dx,o=>o=instObj C dx
 |.ns ks vs,o=>ObR fX (fun es=>lD ks (es.map (·.key))∧bC P σ h vs (es.map (·.val))) o
 |.cell v,o=>(v=.bi ""∧o.data=.cell none)∨∃w,o.data=.cell (some w)∧bW P σ h v w
 |.exc C dx,o=>aOY C dx o
 |.mark,_=>True
inductive aKI(P:Params)(σ:aA)(h:Heap)(a:Addr)(m:dJ):Prop|mk (o:Obj) (g:h.get? a=some o) (c:rU P σ h m o)
noncomputable def iH(P:Params)(σ:aA)(h:Heap):Prop:=∀a m,σ a=some m→aKI P σ h a m
theorem rU.monoD{P:Params}{σ σ':aA}{h h':Heap}(k:∀b o,h.get? b=some o→σ b=none→Dat o→h'.get? b=some o∧σ' b=none){m:dJ}{o:Obj}(c:rU P σ h m o):rU P σ' h' m o:=by
 induction m with
 |lst l=>obtain⟨vs,n,e,r⟩:=c;exact⟨vs,n,e,r.monoD k⟩
 |ins C dx=>exact c
 |ns ks vs=>obtain⟨es,n,e,r,q⟩:=c;exact⟨es,n,e,r,q.monoD k⟩
 |cell v=>rcases c with c|⟨w,e,r⟩
          ·exact .inl c
          ·exact .inr ⟨w,e,r.monoD k⟩
 |exc C dx=>exact c
 |mark=>trivial
theorem rU.mono{P:Params}{σ σ':aA}{h h':Heap}(k:∀b o,h.get? b=some o→σ b=none→h'.get? b=some o∧σ' b=none){m:dJ}{o:Obj}(c:rU P σ h m o):rU P σ' h' m o:=c.monoD fun b o e z Z=>k b o e z
theorem bC.length{P:Params}{σ:aA}{h:Heap}:∀{l:List V} {vs:List Value},bC P σ h l vs→vs.length=l.length
 |[],_,e=>by subst e;rfl
 |_::_,_,e=>by obtain⟨v,vs,rfl,_,h2⟩:=e;simp[bC.length h2]
theorem bC.get{P:Params}{σ:aA}{h:Heap}:∀{l:List V} {vs:List Value} (i:Nat) {x:V},bC P σ h l vs→l[i]? =some x→∃v,vs[i]? =some v∧bW P σ h x v
 |[],_,_,_,_,q=>by simp at q
 |y::l,_,0,_,e,q=>by
  obtain⟨v,vs,rfl,h1,_⟩:=e
  simp at q;subst q
  exact⟨v,by simp,h1⟩
 |y::l,_,i+1,_,e,q=>by
  obtain⟨v,vs,rfl,_,h2⟩:=e
  simp at q
  obtain⟨w,hw,r⟩:=bC.get i h2 q
  exact⟨w,by simpa using hw,r⟩
theorem bC.append{P:Params}{σ:aA}{h:Heap}:∀{l l':List V} {vs vs':List Value},bC P σ h l vs→bC P σ h l' vs'→bC P σ h (l++l') (vs++vs')
 |[],_,_,_,e,q=>by subst e;exact q
 |_::_,_,_,_,e,q=>by
  obtain⟨v,vs,rfl,h1,h2⟩:=e
  exact⟨v,_,rfl,h1,bC.append h2 q⟩
theorem bC.nil{P:Params}{σ:aA}{h:Heap}:bC P σ h [] []:=rfl
theorem bC.cons{P:Params}{σ:aA}{h:Heap}{x:V}{v:Value}{l:List V}{vs:List Value}(r:bW P σ h x v)(q:bC P σ h l vs):bC P σ h (x::l) (v::vs):=⟨v,vs,rfl,r,q⟩
inductive aGE(s s':Shared):Prop|mk (h':Heap) (tk:Nat) (e:s'={s with heap:=h',toks:=tk})
structure cA(s:Shared)(σ':aA)(s':Shared)(σ:aA):Prop where
 same:aGE s s'
 keep:nX σ s.heap s'.heap
 dom:yJ σ σ' s.heap
 live:oV s.heap s'.heap
theorem cA.refl(σ:aA)(s:Shared):cA s σ s σ:=⟨⟨s.heap,s.toks,rfl⟩,nX.refl σ s.heap,yJ.refl σ s.heap,oV.refl _⟩
theorem cA.trans{σ₁ σ₂ σ₃:aA}{s₁ s₂ s₃:Shared}(x:cA s₁ σ₂ s₂ σ₁)(y:cA s₂ σ₃ s₃ σ₂):cA s₁ σ₃ s₃ σ₁:=by
 obtain⟨⟨h,t,rfl⟩,k,d,l⟩:=x
 obtain⟨⟨h',t',rfl⟩,k',d',l'⟩:=y
 exact⟨⟨h',t',rfl⟩,k.trans d k',d.trans l d',l.trans l'⟩
theorem cA.tok(σ:aA)(s:Shared)(t:Nat):cA s σ {s with toks:=t} σ:=⟨⟨s.heap,t,rfl⟩,nX.refl σ s.heap,yJ.refl σ s.heap,oV.refl _⟩
structure eK(L:Addr)(σ σ':aA)(s s':Shared):Prop where
 same:aGE s s'
 keep:sJ L σ s.heap s'.heap
 dom:yJ σ σ' s.heap
 live:oV s.heap s'.heap
theorem cA.l{σ σ':aA}{s s':Shared}(x:cA s σ' s' σ)(L:Addr):eK L σ σ' s s':=⟨x.same,x.keep.l L,x.dom,x.live⟩
theorem eK.refl(L:Addr)(σ:aA)(s:Shared):eK L σ σ s s:=(cA.refl σ s).l L
theorem eK.trans{L:Addr}{σ₁ σ₂ σ₃:aA}{s₁ s₂ s₃:Shared}(x:eK L σ₁ σ₂ s₁ s₂)(y:eK L σ₂ σ₃ s₂ s₃):eK L σ₁ σ₃ s₁ s₃:=by
 obtain⟨⟨h,t,rfl⟩,k,d,l⟩:=x
 obtain⟨⟨h',t',rfl⟩,k',d',l'⟩:=y
 exact⟨⟨h',t',rfl⟩,k.trans d k',d.trans l d',l.trans l'⟩
structure Gd where
 prog:Program
 w:World
 base:Heap
 p:Program
 loose:List Str
 mg:Str→Option Value
 mb:Str→Option Value
 cls:List (Addr×List Str)
abbrev Gd.M(G:Gd):Model:=model G.prog G.w
abbrev Gd.P(G:Gd):Params:=G.w.params
noncomputable def aDK(K:Frag)(C:Addr)(own:List Str):Bool:=
 hasDictIn K C&&plainGet K C ""&&plainOver K C&&(findIn K (.ref C) "__setattr__"==some (some (.builtin "object.__setattr__")))
  &&own.all fun n=>(match findIn K (.ref C) n with|some attr=>noGet K attr|none=>false)&&takerIn K C n==some none
noncomputable def aNA(G:Gd)(C:Addr)(own:List Str):Prop:=∃K:Frag,K.In G.base∧aDK K C own=true
structure Gd.Ok(G:Gd):Prop where
 top:TopRead G.p G.loose G.mg G.mb G.base
 cls:∀C own,G.cls.lookup C=some own→aNA G C own
structure EB(G:Gd)(σ:aA)(r:V)(σ':aA)(s:Shared)(v:Value)(s':Shared):Prop where
 rel:bW G.P σ' s'.heap r v
 af:cA s σ' s' σ
 sim:iH G.P σ' s'.heap
inductive EQ(G:Gd)(σ:aA)(Q:V→aA→Prop)(s:Shared)(v:Value)(s':Shared):Prop
 |mk (r:V) (σ':aA) (q:Q r σ') (b:EB G σ r σ' s v s')
noncomputable def eY:List Stmt→Nat→Stmt
 |x::_,0=>x
 |_::r,n+1=>eY r n
 |[],_=>default
noncomputable def dB(s:Stmt):List Stmt:=if h:s.ctorIdx=2 then Stmt.ClassDef.elim s h fun Z Z Z b Z Z Z Z Z Z Z=>b else[]
noncomputable def aFY(s:Stmt):Arguments:=if h:s.ctorIdx=0 then Stmt.FunctionDef.elim s h fun Z a Z Z Z Z Z Z Z Z=>a else⟨[],[],none,[],[],none,[]⟩
noncomputable def zP(s:Stmt):List Stmt:=if h:s.ctorIdx=0 then Stmt.FunctionDef.elim s h fun Z Z b Z Z Z Z Z Z Z=>b else[]
noncomputable def vY(s:Stmt):Scope:=if h:s.ctorIdx=0 then Stmt.FunctionDef.elim s h fun Z Z Z Z Z Z c Z Z Z=>c else default
noncomputable abbrev pB:List Stmt:=PySem.Challenge.pw_nm0158_01.main.body
noncomputable def kd(P:Params)(k:Str)(t:Tok)(v:Value):DictEntry:=⟨PyData.keyHash P k,.str k t,v⟩
noncomputable def fO(n q:Str)(st:Stmt)(md:Str)(t:Tok)(c:Addr):Obj:=⟨.type "function",none,.func ⟨n,q,aFY st,.stmts (zP st),vY st,3,[],.none,.none,.none,.str md t,none,.ref c,.none,0⟩,#[]⟩
noncomputable def cO(n q:Str)(t:Nat)(line argc:Int)(a:Addr)(z:Bool)(i:Nat):Obj:=⟨.type "code",none,.fields #[.str n t,.str q (t+1),.str "/claim/cut.py" (t+2),.int line 0,.int argc 0,.int 0 0,.int 0 0,.int 3 0,.ref a,.bool true,.int 181 0,.ref (a+1),.none,if z=true then .ref (a+2) else .none,if z=true then .ref (a+3) else .none,.ref (if z=true then a+4 else a+2),.int (i:Int) 0,.int line 0,.str "/claim/cut.py" (i+1)],#[]⟩
noncomputable def KK(P:Params):Frag:=[
 (2,⟨.none,none,(.dict #[kd P "type.__subclasses__.Exception.0" 574 (.int 137 0),kd P "type.__subclasses__.Exception.n" 575 (.int 1 0)] 2),#[]⟩),
 (3,⟨(.type "dict"),none,(.dict #[kd P "__name__" 165 (.str "law_nm0158_01" 1505),kd P "__doc__" 166 .none,kd P "__package__" 167 .none,kd P "__loader__" 168 (.builtin "__main__.__loader__#opaque"),kd P "__spec__" 169 .none,kd P "__annotations__" 170 (.ref 6),kd P "__builtins__" 171 (.ref 4),kd P "__file__" 173 (.str "/claim/cut.py" 172),kd P "__cached__" 174 .none,kd P "I32" 191 (.int (-1) 190),kd P "I64" 194 (.int (-2) 193),kd P "FUNCREF" 197 (.int (-16) 196),kd P "EXTERNREF" 200 (.int (-17) 199),kd P "EMPTY" 203 (.int (-64) 202),kd P "KIND_NAMES" 212 (.ref 15),kd P "LEFT_NAMES" 225 (.ref 16),kd P "HEAP_NAMES" 230 (.ref 17),kd P "kind_of" 238 (.ref 24),kd P "is_left_name" 245 (.ref 31),kd P "heap_of" 253 (.ref 38),kd P "UNREACHABLE" 257 (.int 0 256),kd P "NOP" 259 (.int 1 258),kd P "BLOCK" 261 (.int 2 260),kd P "LOOP" 263 (.int 3 262),kd P "IF" 265 (.int 4 264),kd P "ELSE" 267 (.int 5 266),kd P "END" 269 (.int 11 268),kd P "BR" 271 (.int 12 270),kd P "BR_IF" 273 (.int 13 272),kd P "BR_TABLE" 275 (.int 14 274),kd P "RETURN" 277 (.int 15 276),kd P "CALL" 279 (.int 16 278),kd P "CALL_INDIRECT" 281 (.int 17 280),kd P "RETURN_CALL" 283 (.int 18 282),kd P "RETURN_CALL_INDIRECT" 285 (.int 19 284),kd P "DROP" 287 (.int 26 286),kd P "SELECT" 289 (.int 27 288),kd P "SELECT_KINDS" 291 (.int 28 290),kd P "LOCAL_GET" 293 (.int 32 292),kd P "LOCAL_SET" 295 (.int 33 294),kd P "LOCAL_TEE" 297 (.int 34 296),kd P "GLOBAL_GET" 299 (.int 35 298),kd P "GLOBAL_SET" 301 (.int 36 300),kd P "TABLE_GET" 303 (.int 37 302),kd P "TABLE_SET" 305 (.int 38 304),kd P "MEMORY_SIZE" 307 (.int 63 306),kd P "MEMORY_GROW" 309 (.int 64 308),kd P "I32_CONST" 311 (.int 65 310),kd P "I64_CONST" 313 (.int 66 312),kd P "REF_NULL" 315 (.int 208 314),kd P "REF_IS_NULL" 317 (.int 209 316),kd P "REF_FUNC" 319 (.int 210 318),kd P "MEMORY_INIT" 321 (.int 64520 320),kd P "DATA_DROP" 323 (.int 64521 322),kd P "MEMORY_COPY" 325 (.int 64522 324),kd P "MEMORY_FILL" 327 (.int 64523 326),kd P "TABLE_INIT" 329 (.int 64524 328),kd P "ELEM_DROP" 331 (.int 64525 330),kd P "TABLE_COPY" 333 (.int 64526 332),kd P "TABLE_GROW" 335 (.int 64527 334),kd P "TABLE_SIZE" 337 (.int 64528 336),kd P "TABLE_FILL" 339 (.int 64529 338),kd P "LOADS" 388 (.ref 39),kd P "STORES" 410 (.ref 52),kd P "FORMS" 495 (.ref 60),kd P "NUMBERS" 520 (.ref 99),kd P "number_kind" 531 (.ref 106),kd P "form_of" 538 (.ref 113),kd P "natural" 546 (.ref 120),kd P "WasmFault" 577 (.ref 137),kd P "BadText" 605 (.ref 157),kd P "LeftOut" 631 (.ref 176),kd P "DIGITS" 635 (.str "0123456789" 634),kd P "HEX_DIGITS" 637 (.str "0123456789abcdefABCDEF" 636),kd P "Token" 674 (.ref 195),kd P "Branch" 715 (.ref 223),kd P "is_token" 724 (.ref 235),kd P "whole_of" 736 (.ref 242),kd P "int_of" 746 (.ref 249),kd P "u32_of" 753 (.ref 256),kd P "TESTS" 767 (.ref 257),kd P "SUMS" 786 (.ref 258),kd P "ROWS" 795 (.ref 263),kd P "NAMES" 1003 (.ref 264),kd P "code_of" 1014 (.ref 275),kd P "is_left_word" 1021 (.ref 282),kd P "MOST_COUNT" 1025 (.int 4294967295 1024),kd P "BLOCK_WORDS" 1029 (.ref 283),kd P "OTHER_WORDS" 1056 (.ref 284),kd P "SPACE_OF_FORM" 1072 (.ref 285),kd P "refuse" 1080 (.ref 292),kd P "head_of" 1087 (.ref 299),kd P "is_other_word" 1094 (.ref 306),kd P "value_kind" 1102 (.ref 313),kd P "kinds_in" 1108 (.ref 318),kd P "has_index" 1116 (.ref 325),kd P "index_at" 1125 (.ref 332),kd P "word_at" 1133 (.ref 339),kd P "count_of" 1142 (.ref 346),kd P "exponent_of" 1151 (.ref 353),kd P "Label" 1185 (.ref 370),kd P "ItemRun" 1219 (.ref 391),kd P "run_task" 1228 (.ref 402),kd P "BodyReader" 1495 (.ref 564),kd P "read_body" 1504 (.ref 575),kd P "_law_next" 1514 (.ref 582),kd P "_law_token" 1522 (.ref 589),kd P "_law_items" 1533 (.ref 596),kd P "_law_goal" 1543 (.ref 603),kd P "_law_single" 1549 (.ref 608),kd P "_law_tree" 1572 (.ref 615),kd P "_law_trees" 1584 (.ref 622),kd P "_law_all" 1594 (.ref 629),kd P "_law_texts" 1612 (.ref 636),kd P "_law_flat" 1627 (.ref 643),kd P "_law_wrong" 1636 (.ref 650),kd P "law" 1655 (.ref 657)] 117),#[]⟩),
 (15,⟨(.type "dict"),none,(.dict #[⟨(-2),(.int (-1) 190),(.str "i32" 204)⟩,⟨(-2),(.int (-2) 193),(.str "i64" 205)⟩,⟨(-16),(.int (-16) 196),(.str "funcref" 206)⟩,⟨(-17),(.int (-17) 199),(.str "externref" 207)⟩] 4),#[]⟩),
 (16,⟨(.type "dict"),none,(.dict #[⟨(-3),(.int (-3) 214),(.str "f32" 215)⟩,⟨(-4),(.int (-4) 217),(.str "f64" 218)⟩,⟨(-5),(.int (-5) 220),(.str "v128" 221)⟩] 3),#[]⟩),
 (17,⟨(.type "dict"),none,(.dict #[⟨(-16),(.int (-16) 196),(.str "func" 226)⟩,⟨(-17),(.int (-17) 199),(.str "extern" 227)⟩] 2),#[]⟩),
 (23,cO "kind_of" "kind_of" 231 10 1 18 true 236),
 (24,fO "kind_of" "kind_of" (eY pB 9) "wasmcore.kinds" 187 23),
 (30,cO "is_left_name" "is_left_name" 239 15 1 25 true 243),
 (31,fO "is_left_name" "is_left_name" (eY pB 10) "wasmcore.kinds" 187 30),
 (37,cO "heap_of" "heap_of" 246 17 1 32 true 251),
 (38,fO "heap_of" "heap_of" (eY pB 11) "wasmcore.kinds" 187 37),
 (39,⟨(.type "dict"),none,(.dict #[⟨40,(.int 40 340),(.ref 40)⟩,⟨41,(.int 41 343),(.ref 41)⟩,⟨44,(.int 44 346),(.ref 42)⟩,⟨45,(.int 45 349),(.ref 43)⟩,⟨46,(.int 46 352),(.ref 44)⟩,⟨47,(.int 47 355),(.ref 45)⟩,⟨48,(.int 48 358),(.ref 46)⟩,⟨49,(.int 49 361),(.ref 47)⟩,⟨50,(.int 50 364),(.ref 48)⟩,⟨51,(.int 51 367),(.ref 49)⟩,⟨52,(.int 52 370),(.ref 50)⟩,⟨53,(.int 53 373),(.ref 51)⟩] 12),#[]⟩),
 (40,⟨(.type "tuple"),none,(.seq #[(.int (-1) 190),(.int 4 341),(.int 0 342)] 0),#[]⟩),
 (41,⟨(.type "tuple"),none,(.seq #[(.int (-2) 193),(.int 8 344),(.int 0 345)] 0),#[]⟩),
 (42,⟨(.type "tuple"),none,(.seq #[(.int (-1) 190),(.int 1 347),(.int 1 348)] 0),#[]⟩),
 (43,⟨(.type "tuple"),none,(.seq #[(.int (-1) 190),(.int 1 350),(.int 0 351)] 0),#[]⟩),
 (44,⟨(.type "tuple"),none,(.seq #[(.int (-1) 190),(.int 2 353),(.int 1 354)] 0),#[]⟩),
 (45,⟨(.type "tuple"),none,(.seq #[(.int (-1) 190),(.int 2 356),(.int 0 357)] 0),#[]⟩),
 (46,⟨(.type "tuple"),none,(.seq #[(.int (-2) 193),(.int 1 359),(.int 1 360)] 0),#[]⟩),
 (47,⟨(.type "tuple"),none,(.seq #[(.int (-2) 193),(.int 1 362),(.int 0 363)] 0),#[]⟩),
 (48,⟨(.type "tuple"),none,(.seq #[(.int (-2) 193),(.int 2 365),(.int 1 366)] 0),#[]⟩),
 (49,⟨(.type "tuple"),none,(.seq #[(.int (-2) 193),(.int 2 368),(.int 0 369)] 0),#[]⟩),
 (50,⟨(.type "tuple"),none,(.seq #[(.int (-2) 193),(.int 4 371),(.int 1 372)] 0),#[]⟩),
 (51,⟨(.type "tuple"),none,(.seq #[(.int (-2) 193),(.int 4 374),(.int 0 375)] 0),#[]⟩),
 (52,⟨(.type "dict"),none,(.dict #[⟨54,(.int 54 389),(.ref 53)⟩,⟨55,(.int 55 391),(.ref 54)⟩,⟨58,(.int 58 393),(.ref 55)⟩,⟨59,(.int 59 395),(.ref 56)⟩,⟨60,(.int 60 397),(.ref 57)⟩,⟨61,(.int 61 399),(.ref 58)⟩,⟨62,(.int 62 401),(.ref 59)⟩] 7),#[]⟩),
 (53,⟨(.type "tuple"),none,(.seq #[(.int (-1) 190),(.int 4 390)] 0),#[]⟩),
 (54,⟨(.type "tuple"),none,(.seq #[(.int (-2) 193),(.int 8 392)] 0),#[]⟩),
 (55,⟨(.type "tuple"),none,(.seq #[(.int (-1) 190),(.int 1 394)] 0),#[]⟩),
 (56,⟨(.type "tuple"),none,(.seq #[(.int (-1) 190),(.int 2 396)] 0),#[]⟩),
 (57,⟨(.type "tuple"),none,(.seq #[(.int (-2) 193),(.int 1 398)] 0),#[]⟩),
 (58,⟨(.type "tuple"),none,(.seq #[(.int (-2) 193),(.int 2 400)] 0),#[]⟩),
 (59,⟨(.type "tuple"),none,(.seq #[(.int (-2) 193),(.int 4 402)] 0),#[]⟩),
 (60,⟨(.type "dict"),none,(.dict #[⟨0,(.int 0 256),(.str "none" 411)⟩,⟨1,(.int 1 258),(.str "none" 413)⟩,⟨2,(.int 2 260),(.str "block" 415)⟩,⟨3,(.int 3 262),(.str "block" 417)⟩,⟨4,(.int 4 264),(.str "block" 419)⟩,⟨5,(.int 5 266),(.str "none" 421)⟩,⟨11,(.int 11 268),(.str "none" 423)⟩,⟨12,(.int 12 270),(.str "label" 425)⟩,⟨13,(.int 13 272),(.str "label" 427)⟩,⟨14,(.int 14 274),(.str "labels" 429)⟩,⟨15,(.int 15 276),(.str "none" 431)⟩,⟨16,(.int 16 278),(.str "func" 433)⟩,⟨17,(.int 17 280),(.str "indirect" 435)⟩,⟨18,(.int 18 282),(.str "func" 437)⟩,⟨19,(.int 19 284),(.str "indirect" 439)⟩,⟨26,(.int 26 286),(.str "none" 441)⟩,⟨27,(.int 27 288),(.str "none" 443)⟩,⟨28,(.int 28 290),(.str "kinds" 445)⟩,⟨32,(.int 32 292),(.str "local" 447)⟩,⟨33,(.int 33 294),(.str "local" 449)⟩,⟨34,(.int 34 296),(.str "local" 451)⟩,⟨35,(.int 35 298),(.str "global" 453)⟩,⟨36,(.int 36 300),(.str "global" 455)⟩,⟨37,(.int 37 302),(.str "table" 457)⟩,⟨38,(.int 38 304),(.str "table" 459)⟩,⟨63,(.int 63 306),(.str "memory" 461)⟩,⟨64,(.int 64 308),(.str "memory" 463)⟩,⟨65,(.int 65 310),(.str "i32" 465)⟩,⟨66,(.int 66 312),(.str "i64" 467)⟩,⟨208,(.int 208 314),(.str "refkind" 469)⟩,⟨209,(.int 209 316),(.str "none" 471)⟩,⟨210,(.int 210 318),(.str "func" 473)⟩,⟨64520,(.int 64520 320),(.str "memory_init" 475)⟩,⟨64521,(.int 64521 322),(.str "data" 477)⟩,⟨64522,(.int 64522 324),(.str "two_memories" 479)⟩,⟨64523,(.int 64523 326),(.str "memory" 480)⟩,⟨64524,(.int 64524 328),(.str "table_init" 481)⟩,⟨64525,(.int 64525 330),(.str "elem" 482)⟩,⟨64526,(.int 64526 332),(.str "table_copy" 483)⟩,⟨64527,(.int 64527 334),(.str "table" 484)⟩,⟨64528,(.int 64528 336),(.str "table" 485)⟩,⟨64529,(.int 64529 338),(.str "table" 486)⟩] 42),#[]⟩),
 (63,⟨(.type "tuple"),none,(.seq #[(.int (-1) 190)] 0),#[]⟩),
 (64,⟨(.type "tuple"),none,(.seq #[(.int (-1) 190)] 0),#[]⟩),
 (65,⟨(.type "tuple"),none,(.seq #[(.int 69 496),(.int 69 497),(.ref 63),(.ref 64)] 0),#[]⟩),
 (66,⟨(.type "tuple"),none,(.seq #[(.int (-1) 190),(.int (-1) 190)] 0),#[]⟩),
 (67,⟨(.type "tuple"),none,(.seq #[(.int (-1) 190)] 0),#[]⟩),
 (68,⟨(.type "tuple"),none,(.seq #[(.int 70 498),(.int 79 499),(.ref 66),(.ref 67)] 0),#[]⟩),
 (69,⟨(.type "tuple"),none,(.seq #[(.int (-2) 193)] 0),#[]⟩),
 (70,⟨(.type "tuple"),none,(.seq #[(.int (-1) 190)] 0),#[]⟩),
 (71,⟨(.type "tuple"),none,(.seq #[(.int 80 500),(.int 80 501),(.ref 69),(.ref 70)] 0),#[]⟩),
 (72,⟨(.type "tuple"),none,(.seq #[(.int (-2) 193),(.int (-2) 193)] 0),#[]⟩),
 (73,⟨(.type "tuple"),none,(.seq #[(.int (-1) 190)] 0),#[]⟩),
 (74,⟨(.type "tuple"),none,(.seq #[(.int 81 502),(.int 90 503),(.ref 72),(.ref 73)] 0),#[]⟩),
 (75,⟨(.type "tuple"),none,(.seq #[(.int (-1) 190)] 0),#[]⟩),
 (76,⟨(.type "tuple"),none,(.seq #[(.int (-1) 190)] 0),#[]⟩),
 (77,⟨(.type "tuple"),none,(.seq #[(.int 103 504),(.int 105 505),(.ref 75),(.ref 76)] 0),#[]⟩),
 (78,⟨(.type "tuple"),none,(.seq #[(.int (-1) 190),(.int (-1) 190)] 0),#[]⟩),
 (79,⟨(.type "tuple"),none,(.seq #[(.int (-1) 190)] 0),#[]⟩),
 (80,⟨(.type "tuple"),none,(.seq #[(.int 106 506),(.int 120 507),(.ref 78),(.ref 79)] 0),#[]⟩),
 (81,⟨(.type "tuple"),none,(.seq #[(.int (-2) 193)] 0),#[]⟩),
 (82,⟨(.type "tuple"),none,(.seq #[(.int (-2) 193)] 0),#[]⟩),
 (83,⟨(.type "tuple"),none,(.seq #[(.int 121 508),(.int 123 509),(.ref 81),(.ref 82)] 0),#[]⟩),
 (84,⟨(.type "tuple"),none,(.seq #[(.int (-2) 193),(.int (-2) 193)] 0),#[]⟩),
 (85,⟨(.type "tuple"),none,(.seq #[(.int (-2) 193)] 0),#[]⟩),
 (86,⟨(.type "tuple"),none,(.seq #[(.int 124 510),(.int 138 511),(.ref 84),(.ref 85)] 0),#[]⟩),
 (87,⟨(.type "tuple"),none,(.seq #[(.int (-2) 193)] 0),#[]⟩),
 (88,⟨(.type "tuple"),none,(.seq #[(.int (-1) 190)] 0),#[]⟩),
 (89,⟨(.type "tuple"),none,(.seq #[(.int 167 512),(.int 167 513),(.ref 87),(.ref 88)] 0),#[]⟩),
 (90,⟨(.type "tuple"),none,(.seq #[(.int (-1) 190)] 0),#[]⟩),
 (91,⟨(.type "tuple"),none,(.seq #[(.int (-2) 193)] 0),#[]⟩),
 (92,⟨(.type "tuple"),none,(.seq #[(.int 172 514),(.int 173 515),(.ref 90),(.ref 91)] 0),#[]⟩),
 (93,⟨(.type "tuple"),none,(.seq #[(.int (-1) 190)] 0),#[]⟩),
 (94,⟨(.type "tuple"),none,(.seq #[(.int (-1) 190)] 0),#[]⟩),
 (95,⟨(.type "tuple"),none,(.seq #[(.int 192 516),(.int 193 517),(.ref 93),(.ref 94)] 0),#[]⟩),
 (96,⟨(.type "tuple"),none,(.seq #[(.int (-2) 193)] 0),#[]⟩),
 (97,⟨(.type "tuple"),none,(.seq #[(.int (-2) 193)] 0),#[]⟩),
 (98,⟨(.type "tuple"),none,(.seq #[(.int 194 518),(.int 196 519),(.ref 96),(.ref 97)] 0),#[]⟩),
 (99,⟨(.type "tuple"),none,(.seq #[(.ref 65),(.ref 68),(.ref 71),(.ref 74),(.ref 77),(.ref 80),(.ref 83),(.ref 86),(.ref 89),(.ref 92),(.ref 95),(.ref 98)] 0),#[]⟩),
 (105,cO "number_kind" "number_kind" 521 69 1 100 true 529),
 (106,fO "number_kind" "number_kind" (eY pB 59) "wasmcore.codes" 254 105),
 (112,cO "form_of" "form_of" 532 74 1 107 true 536),
 (113,fO "form_of" "form_of" (eY pB 60) "wasmcore.codes" 254 112),
 (119,cO "natural" "natural" 539 80 1 114 true 544),
 (120,fO "natural" "natural" (eY pB 61) "wasmcore.codes" 254 119),
 (121,⟨(.type "tuple"),none,(.seq #[(.type "Exception")] 0),#[]⟩),
 (133,cO "__init__" "WasmFault.__init__" 561 86 2 128 true 566),
 (134,fO "__init__" "WasmFault.__init__" (eY (dB (eY pB 63)) 0) "wasmcore.faults" 547 133),
 (135,⟨(.type "tuple"),none,(.seq #[(.str "why" 569)] 0),#[]⟩),
 (136,⟨(.type "dict"),none,(.dict #[kd P "__module__" 556 (.str "wasmcore.faults" 547),kd P "__firstlineno__" 560 (.int 84 559),kd P "__init__" 568 (.ref 134),kd P "__static_attributes__" 570 (.ref 135),kd P "__weakref__" 572 (.ref 138),kd P "__doc__" 573 .none] 3),#[]⟩),
 (137,⟨(.type "type"),none,(.cls ⟨"WasmFault",[(.type "Exception")],[(.ref 137),(.type "Exception"),(.type "BaseException"),(.type "object")],136,"WasmFault",true,[],[(.ref 157),(.ref 176)],false,none,false⟩),#[(.some (.ref 121)),none,(.some (.str "WasmFault" 549)),(.some (.str "WasmFault" 557)),(.some (.builtin "Exception.__new__")),(.some (.bool true))]⟩),
 (138,⟨(.type "getset_descriptor"),none,(.fields #[(.str "__weakref__" 571),(.ref 137),(.builtin "ExceptionGroup.__weakref__"),.none]),#[]⟩),
 (141,⟨(.type "tuple"),none,(.seq #[(.ref 137)] 0),#[]⟩),
 (153,cO "__init__" "BadText.__init__" 590 91 4 148 true 597),
 (154,fO "__init__" "BadText.__init__" (eY (dB (eY pB 64)) 0) "wasmcore.faults" 547 153),
 (155,⟨(.type "tuple"),none,(.seq #[(.str "column" 600),(.str "row" 601)] 0),#[]⟩),
 (156,⟨(.type "dict"),none,(.dict #[kd P "__module__" 585 (.str "wasmcore.faults" 547),kd P "__firstlineno__" 589 (.int 89 588),kd P "__init__" 599 (.ref 154),kd P "__static_attributes__" 602 (.ref 155),kd P "__doc__" 603 .none] 2),#[]⟩),
 (157,⟨(.type "type"),none,(.cls ⟨"BadText",[(.ref 137)],[(.ref 157),(.ref 137),(.type "Exception"),(.type "BaseException"),(.type "object")],156,"BadText",true,[],[],false,none,false⟩),#[(.some (.ref 141)),none,(.some (.str "BadText" 578)),(.some (.str "BadText" 586)),(.some (.builtin "Exception.__new__")),(.some (.bool true))]⟩),
 (160,⟨(.type "tuple"),none,(.seq #[(.ref 137)] 0),#[]⟩),
 (172,cO "__init__" "LeftOut.__init__" 618 97 3 167 true 624),
 (173,fO "__init__" "LeftOut.__init__" (eY (dB (eY pB 65)) 0) "wasmcore.faults" 547 172),
 (174,⟨(.type "tuple"),none,(.seq #[(.str "at" 627)] 0),#[]⟩),
 (175,⟨(.type "dict"),none,(.dict #[kd P "__module__" 613 (.str "wasmcore.faults" 547),kd P "__firstlineno__" 617 (.int 95 616),kd P "__init__" 626 (.ref 173),kd P "__static_attributes__" 628 (.ref 174),kd P "__doc__" 629 .none] 2),#[]⟩),
 (176,⟨(.type "type"),none,(.cls ⟨"LeftOut",[(.ref 137)],[(.ref 176),(.ref 137),(.type "Exception"),(.type "BaseException"),(.type "object")],175,"LeftOut",true,[],[],false,none,false⟩),#[(.some (.ref 160)),none,(.some (.str "LeftOut" 606)),(.some (.str "LeftOut" 614)),(.some (.builtin "Exception.__new__")),(.some (.bool true))]⟩),
 (191,cO "__init__" "Token.__init__" 650 105 6 186 true 659),
 (192,fO "__init__" "Token.__init__" (eY (dB (eY pB 69)) 0) "wasmcore.lexer" 632 191),
 (193,⟨(.type "tuple"),none,(.seq #[(.str "column" 662),(.str "row" 663),(.str "sort" 664),(.str "text" 665),(.str "value" 666)] 0),#[]⟩),
 (194,⟨(.type "dict"),none,(.dict #[kd P "__module__" 645 (.str "wasmcore.lexer" 632),kd P "__firstlineno__" 649 (.int 103 648),kd P "__init__" 661 (.ref 192),kd P "__static_attributes__" 667 (.ref 193),kd P "__dict__" 669 (.ref 196),kd P "__weakref__" 671 (.ref 197),kd P "__doc__" 672 .none] 4),#[]⟩),
 (195,⟨(.type "type"),none,(.cls ⟨"Token",[(.type "object")],[(.ref 195),(.type "object")],194,"Token",true,[],[],false,none,false⟩),#[none,none,(.some (.str "Token" 638)),(.some (.str "Token" 646)),(.some (.builtin "object.__new__")),(.some (.bool true))]⟩),
 (196,⟨(.type "getset_descriptor"),none,(.fields #[(.str "__dict__" 668),(.ref 195),(.builtin "function.__dict__"),(.builtin "function.__dict__#set")]),#[]⟩),
 (197,⟨(.type "getset_descriptor"),none,(.fields #[(.str "__weakref__" 670),(.ref 195),(.builtin "ExceptionGroup.__weakref__"),.none]),#[]⟩),
 (212,cO "__init__" "Branch.__init__" 687 113 4 207 true 694),
 (213,fO "__init__" "Branch.__init__" (eY (dB (eY pB 70)) 0) "wasmcore.lexer" 632 212),
 (219,cO "head" "Branch.head" 697 118 1 214 true 702),
 (220,fO "head" "Branch.head" (eY (dB (eY pB 70)) 1) "wasmcore.lexer" 632 219),
 (221,⟨(.type "tuple"),none,(.seq #[(.str "column" 705),(.str "items" 706),(.str "row" 707)] 0),#[]⟩),
 (222,⟨(.type "dict"),none,(.dict #[kd P "__module__" 682 (.str "wasmcore.lexer" 632),kd P "__firstlineno__" 686 (.int 111 685),kd P "__init__" 696 (.ref 213),kd P "head" 704 (.ref 220),kd P "__static_attributes__" 708 (.ref 221),kd P "__dict__" 710 (.ref 224),kd P "__weakref__" 712 (.ref 225),kd P "__doc__" 713 .none] 4),#[]⟩),
 (223,⟨(.type "type"),none,(.cls ⟨"Branch",[(.type "object")],[(.ref 223),(.type "object")],222,"Branch",true,[],[],false,none,false⟩),#[none,none,(.some (.str "Branch" 675)),(.some (.str "Branch" 683)),(.some (.builtin "object.__new__")),(.some (.bool true))]⟩),
 (224,⟨(.type "getset_descriptor"),none,(.fields #[(.str "__dict__" 709),(.ref 223),(.builtin "function.__dict__"),(.builtin "function.__dict__#set")]),#[]⟩),
 (225,⟨(.type "getset_descriptor"),none,(.fields #[(.str "__weakref__" 711),(.ref 223),(.builtin "ExceptionGroup.__weakref__"),.none]),#[]⟩),
 (228,⟨(.type "tuple"),none,(.seq #[.none] 0),#[]⟩),
 (234,cO "is_token" "is_token" 716 121 3 229 true 722),
 (235,⟨(.type "function"),none,(.func ⟨"is_token","is_token",(aFY (eY pB 71)),.stmts (zP (eY pB 71)),vY (eY pB 71),3,[],(.ref 228),.none,.none,(.str "wasmcore.lexer" 632),none,(.ref 234),.none,0⟩),#[]⟩),
 (241,cO "whole_of" "whole_of" 725 123 2 236 true 734),
 (242,fO "whole_of" "whole_of" (eY pB 72) "wasmcore.lexer" 632 241),
 (248,cO "int_of" "int_of" 737 136 2 243 true 744),
 (249,fO "int_of" "int_of" (eY pB 73) "wasmcore.lexer" 632 248),
 (255,cO "u32_of" "u32_of" 747 144 1 250 true 751),
 (256,fO "u32_of" "u32_of" (eY pB 74) "wasmcore.lexer" 632 255),
 (257,⟨(.type "tuple"),none,(.seq #[(.str "eqz" 756),(.str "eq" 757),(.str "ne" 758),(.str "lt_s" 759),(.str "lt_u" 760),(.str "gt_s" 761),(.str "gt_u" 762),(.str "le_s" 763),(.str "le_u" 764),(.str "ge_s" 765),(.str "ge_u" 766)] 0),#[]⟩),
 (258,⟨(.type "tuple"),none,(.seq #[(.str "clz" 768),(.str "ctz" 769),(.str "popcnt" 770),(.str "add" 771),(.str "sub" 772),(.str "mul" 773),(.str "div_s" 774),(.str "div_u" 775),(.str "rem_s" 776),(.str "rem_u" 777),(.str "and" 778),(.str "or" 779),(.str "xor" 780),(.str "shl" 781),(.str "shr_s" 782),(.str "shr_u" 783),(.str "rotl" 784),(.str "rotr" 785)] 0),#[]⟩),
 (259,⟨(.type "tuple"),none,(.seq #[(.int 69 787),(.str "i32." 788),(.ref 257)] 0),#[]⟩),
 (260,⟨(.type "tuple"),none,(.seq #[(.int 80 789),(.str "i64." 790),(.ref 257)] 0),#[]⟩),
 (261,⟨(.type "tuple"),none,(.seq #[(.int 103 791),(.str "i32." 792),(.ref 258)] 0),#[]⟩),
 (262,⟨(.type "tuple"),none,(.seq #[(.int 121 793),(.str "i64." 794),(.ref 258)] 0),#[]⟩),
 (263,⟨(.type "tuple"),none,(.seq #[(.ref 259),(.ref 260),(.ref 261),(.ref 262)] 0),#[]⟩),
 (264,⟨(.type "dict"),none,(.dict #[⟨32,(.int 32 796),(.str "local.get" 797)⟩,⟨65,(.int 65 799),(.str "i32.const" 800)⟩,⟨33,(.int 33 802),(.str "local.set" 803)⟩,⟨34,(.int 34 805),(.str "local.tee" 806)⟩,⟨66,(.int 66 808),(.str "i64.const" 809)⟩,⟨2,(.int 2 811),(.str "block" 812)⟩,⟨3,(.int 3 814),(.str "loop" 815)⟩,⟨4,(.int 4 817),(.str "if" 818)⟩,⟨5,(.int 5 820),(.str "else" 821)⟩,⟨11,(.int 11 823),(.str "end" 824)⟩,⟨12,(.int 12 826),(.str "br" 827)⟩,⟨13,(.int 13 829),(.str "br_if" 830)⟩,⟨14,(.int 14 832),(.str "br_table" 833)⟩,⟨15,(.int 15 835),(.str "return" 836)⟩,⟨16,(.int 16 838),(.str "call" 839)⟩,⟨17,(.int 17 841),(.str "call_indirect" 842)⟩,⟨26,(.int 26 844),(.str "drop" 845)⟩,⟨27,(.int 27 847),(.str "select" 848)⟩,⟨28,(.int 28 850),(.str "select" 851)⟩,⟨0,(.int 0 853),(.str "unreachable" 854)⟩,⟨1,(.int 1 856),(.str "nop" 857)⟩,⟨18,(.int 18 859),(.str "return_call" 860)⟩,⟨19,(.int 19 862),(.str "return_call_indirect" 863)⟩,⟨35,(.int 35 865),(.str "global.get" 866)⟩,⟨36,(.int 36 868),(.str "global.set" 869)⟩,⟨37,(.int 37 871),(.str "table.get" 872)⟩,⟨38,(.int 38 874),(.str "table.set" 875)⟩,⟨40,(.int 40 877),(.str "i32.load" 878)⟩,⟨41,(.int 41 880),(.str "i64.load" 881)⟩,⟨44,(.int 44 883),(.str "i32.load8_s" 884)⟩,⟨45,(.int 45 886),(.str "i32.load8_u" 887)⟩,⟨46,(.int 46 889),(.str "i32.load16_s" 890)⟩,⟨47,(.int 47 892),(.str "i32.load16_u" 893)⟩,⟨48,(.int 48 895),(.str "i64.load8_s" 896)⟩,⟨49,(.int 49 898),(.str "i64.load8_u" 899)⟩,⟨50,(.int 50 901),(.str "i64.load16_s" 902)⟩,⟨51,(.int 51 904),(.str "i64.load16_u" 905)⟩,⟨52,(.int 52 907),(.str "i64.load32_s" 908)⟩,⟨53,(.int 53 910),(.str "i64.load32_u" 911)⟩,⟨54,(.int 54 913),(.str "i32.store" 914)⟩,⟨55,(.int 55 916),(.str "i64.store" 917)⟩,⟨58,(.int 58 919),(.str "i32.store8" 920)⟩,⟨59,(.int 59 922),(.str "i32.store16" 923)⟩,⟨60,(.int 60 925),(.str "i64.store8" 926)⟩,⟨61,(.int 61 928),(.str "i64.store16" 929)⟩,⟨62,(.int 62 931),(.str "i64.store32" 932)⟩,⟨63,(.int 63 934),(.str "memory.size" 935)⟩,⟨64,(.int 64 937),(.str "memory.grow" 938)⟩,⟨167,(.int 167 940),(.str "i32.wrap_i64" 941)⟩,⟨172,(.int 172 943),(.str "i64.extend_i32_s" 944)⟩,⟨173,(.int 173 946),(.str "i64.extend_i32_u" 947)⟩,⟨192,(.int 192 949),(.str "i32.extend8_s" 950)⟩,⟨193,(.int 193 952),(.str "i32.extend16_s" 953)⟩,⟨194,(.int 194 955),(.str "i64.extend8_s" 956)⟩,⟨195,(.int 195 958),(.str "i64.extend16_s" 959)⟩,⟨196,(.int 196 961),(.str "i64.extend32_s" 962)⟩,⟨208,(.int 208 964),(.str "ref.null" 965)⟩,⟨209,(.int 209 967),(.str "ref.is_null" 968)⟩,⟨210,(.int 210 970),(.str "ref.func" 971)⟩,⟨64520,(.int 64520 973),(.str "memory.init" 974)⟩,⟨64521,(.int 64521 976),(.str "data.drop" 977)⟩,⟨64522,(.int 64522 979),(.str "memory.copy" 980)⟩,⟨64523,(.int 64523 982),(.str "memory.fill" 983)⟩,⟨64524,(.int 64524 985),(.str "table.init" 986)⟩,⟨64525,(.int 64525 988),(.str "elem.drop" 989)⟩,⟨64526,(.int 64526 991),(.str "table.copy" 992)⟩,⟨64527,(.int 64527 994),(.str "table.grow" 995)⟩,⟨64528,(.int 64528 997),(.str "table.size" 998)⟩,⟨64529,(.int 64529 1000),(.str "table.fill" 1001)⟩] 69),#[]⟩),
 (274,cO "code_of" "code_of" 1004 155 1 269 true 1012),
 (275,fO "code_of" "code_of" (eY pB 80) "wasmcore.opnames" 754 274),
 (281,cO "is_left_word" "is_left_word" 1015 163 1 276 true 1019),
 (282,fO "is_left_word" "is_left_word" (eY pB 81) "wasmcore.opnames" 754 281),
 (283,⟨(.type "tuple"),none,(.seq #[(.str "block" 1026),(.str "loop" 1027),(.str "if" 1028)] 0),#[]⟩),
 (284,⟨(.type "tuple"),none,(.seq #[(.str "type" 1030),(.str "param" 1031),(.str "result" 1032),(.str "local" 1033),(.str "then" 1034),(.str "else" 1035),(.str "end" 1036),(.str "item" 1037),(.str "offset" 1038),(.str "mut" 1039),(.str "func" 1040),(.str "extern" 1041),(.str "table" 1042),(.str "memory" 1043),(.str "global" 1044),(.str "elem" 1045),(.str "data" 1046),(.str "\x69mport" 1047),(.str "export" 1048),(.str "start" 1049),(.str "module" 1050),(.str "declare" 1051),(.str "i32" 1052),(.str "i64" 1053),(.str "funcref" 1054),(.str "externref" 1055)] 0),#[]⟩),
 (285,⟨(.type "dict"),none,(.dict #[kd P "func" 1057 (.str "func" 1058),kd P "global" 1059 (.str "global" 1060),kd P "data" 1061 (.str "data" 1062),kd P "elem" 1063 (.str "elem" 1064),kd P "memory_init" 1065 (.str "data" 1066)] 5),#[]⟩),
 (291,cO "refuse" "refuse" 1073 172 2 286 true 1078),
 (292,fO "refuse" "refuse" (eY pB 87) "wasmcore.textbody" 1022 291),
 (298,cO "head_of" "head_of" 1081 176 1 293 true 1085),
 (299,fO "head_of" "head_of" (eY pB 88) "wasmcore.textbody" 1022 298),
 (305,cO "is_other_word" "is_other_word" 1088 178 1 300 true 1092),
 (306,fO "is_other_word" "is_other_word" (eY pB 89) "wasmcore.textbody" 1022 305),
 (312,cO "value_kind" "value_kind" 1095 180 1 307 true 1100),
 (313,fO "value_kind" "value_kind" (eY pB 90) "wasmcore.textbody" 1022 312),
 (317,cO "kinds_in" "kinds_in" 1103 189 1 314 false 1106),
 (318,fO "kinds_in" "kinds_in" (eY pB 91) "wasmcore.textbody" 1022 317),
 (324,cO "has_index" "has_index" 1109 191 2 319 true 1114),
 (325,fO "has_index" "has_index" (eY pB 92) "wasmcore.textbody" 1022 324),
 (331,cO "index_at" "index_at" 1117 193 3 326 true 1123),
 (332,fO "index_at" "index_at" (eY pB 93) "wasmcore.textbody" 1022 331),
 (338,cO "word_at" "word_at" 1126 197 2 333 true 1131),
 (339,fO "word_at" "word_at" (eY pB 94) "wasmcore.textbody" 1022 338),
 (345,cO "count_of" "count_of" 1134 201 2 340 true 1140),
 (346,fO "count_of" "count_of" (eY pB 95) "wasmcore.textbody" 1022 345),
 (352,cO "exponent_of" "exponent_of" 1143 208 2 347 true 1149),
 (353,fO "exponent_of" "exponent_of" (eY pB 96) "wasmcore.textbody" 1022 352),
 (366,cO "__init__" "Label.__init__" 1164 217 4 361 true 1171),
 (367,fO "__init__" "Label.__init__" (eY (dB (eY pB 97)) 0) "wasmcore.textbody" 1022 366),
 (368,⟨(.type "tuple"),none,(.seq #[(.str "has_else" 1174),(.str "name" 1175),(.str "token" 1176),(.str "word" 1177)] 0),#[]⟩),
 (369,⟨(.type "dict"),none,(.dict #[kd P "__module__" 1159 (.str "wasmcore.textbody" 1022),kd P "__firstlineno__" 1163 (.int 215 1162),kd P "__init__" 1173 (.ref 367),kd P "__static_attributes__" 1178 (.ref 368),kd P "__dict__" 1180 (.ref 371),kd P "__weakref__" 1182 (.ref 372),kd P "__doc__" 1183 .none] 4),#[]⟩),
 (370,⟨(.type "type"),none,(.cls ⟨"Label",[(.type "object")],[(.ref 370),(.type "object")],369,"Label",true,[],[],false,none,false⟩),#[none,none,(.some (.str "Label" 1152)),(.some (.str "Label" 1160)),(.some (.builtin "object.__new__")),(.some (.bool true))]⟩),
 (371,⟨(.type "getset_descriptor"),none,(.fields #[(.str "__dict__" 1179),(.ref 370),(.builtin "function.__dict__"),(.builtin "function.__dict__#set")]),#[]⟩),
 (372,⟨(.type "getset_descriptor"),none,(.fields #[(.str "__weakref__" 1181),(.ref 370),(.builtin "ExceptionGroup.__weakref__"),.none]),#[]⟩),
 (387,cO "__init__" "ItemRun.__init__" 1198 224 4 382 true 1205),
 (388,fO "__init__" "ItemRun.__init__" (eY (dB (eY pB 98)) 0) "wasmcore.textbody" 1022 387),
 (389,⟨(.type "tuple"),none,(.seq #[(.str "at" 1208),(.str "base" 1209),(.str "is_folded" 1210),(.str "items" 1211)] 0),#[]⟩),
 (390,⟨(.type "dict"),none,(.dict #[kd P "__module__" 1193 (.str "wasmcore.textbody" 1022),kd P "__firstlineno__" 1197 (.int 222 1196),kd P "__init__" 1207 (.ref 388),kd P "__static_attributes__" 1212 (.ref 389),kd P "__dict__" 1214 (.ref 392),kd P "__weakref__" 1216 (.ref 393),kd P "__doc__" 1217 .none] 4),#[]⟩),
 (391,⟨(.type "type"),none,(.cls ⟨"ItemRun",[(.type "object")],[(.ref 391),(.type "object")],390,"ItemRun",true,[],[],false,none,false⟩),#[none,none,(.some (.str "ItemRun" 1186)),(.some (.str "ItemRun" 1194)),(.some (.builtin "object.__new__")),(.some (.bool true))]⟩),
 (392,⟨(.type "getset_descriptor"),none,(.fields #[(.str "__dict__" 1213),(.ref 391),(.builtin "function.__dict__"),(.builtin "function.__dict__#set")]),#[]⟩),
 (393,⟨(.type "getset_descriptor"),none,(.fields #[(.str "__weakref__" 1215),(.ref 391),(.builtin "ExceptionGroup.__weakref__"),.none]),#[]⟩),
 (401,cO "run_task" "run_task" 1220 229 3 396 true 1226),
 (402,fO "run_task" "run_task" (eY pB 99) "wasmcore.textbody" 1022 401),
 (415,cO "__init__" "BodyReader.__init__" 1241 233 3 410 true 1247),
 (416,fO "__init__" "BodyReader.__init__" (eY (dB (eY pB 100)) 0) "wasmcore.textbody" 1022 415),
 (422,cO "read" "BodyReader.read" 1250 240 2 417 true 1255),
 (423,fO "read" "BodyReader.read" (eY (dB (eY pB 100)) 1) "wasmcore.textbody" 1022 422),
 (429,cO "step" "BodyReader.step" 1258 247 2 424 true 1265),
 (430,fO "step" "BodyReader.step" (eY (dB (eY pB 100)) 2) "wasmcore.textbody" 1022 429),
 (436,cO "run" "BodyReader.run" 1268 258 2 431 true 1274),
 (437,fO "run" "BodyReader.run" (eY (dB (eY pB 100)) 3) "wasmcore.textbody" 1022 436),
 (443,cO "open_block" "BodyReader.open_block" 1277 275 3 438 true 1283),
 (444,fO "open_block" "BodyReader.open_block" (eY (dB (eY pB 100)) 4) "wasmcore.textbody" 1022 443),
 (450,cO "close_block" "BodyReader.close_block" 1286 279 1 445 true 1290),
 (451,fO "close_block" "BodyReader.close_block" (eY (dB (eY pB 100)) 5) "wasmcore.textbody" 1022 450),
 (457,cO "plain" "BodyReader.plain" 1293 283 3 452 true 1304),
 (458,fO "plain" "BodyReader.plain" (eY (dB (eY pB 100)) 6) "wasmcore.textbody" 1022 457),
 (464,cO "plain_end" "BodyReader.plain_end" 1307 296 4 459 true 1315),
 (465,fO "plain_end" "BodyReader.plain_end" (eY (dB (eY pB 100)) 7) "wasmcore.textbody" 1022 464),
 (471,cO "folded" "BodyReader.folded" 1318 313 2 466 true 1330),
 (472,fO "folded" "BodyReader.folded" (eY (dB (eY pB 100)) 8) "wasmcore.textbody" 1022 471),
 (478,cO "folded_if" "BodyReader.folded_if" 1333 331 3 473 true 1345),
 (479,fO "folded_if" "BodyReader.folded_if" (eY (dB (eY pB 100)) 9) "wasmcore.textbody" 1022 478),
 (485,cO "label_told" "BodyReader.label_told" 1348 352 4 480 true 1355),
 (486,fO "label_told" "BodyReader.label_told" (eY (dB (eY pB 100)) 10) "wasmcore.textbody" 1022 485),
 (492,cO "block_kind" "BodyReader.block_kind" 1358 357 3 487 true 1369),
 (493,fO "block_kind" "BodyReader.block_kind" (eY (dB (eY pB 100)) 11) "wasmcore.textbody" 1022 492),
 (506,cO "instruction" "BodyReader.instruction" 1384 379 4 501 true 1394),
 (507,fO "instruction" "BodyReader.instruction" (eY (dB (eY pB 100)) 13) "wasmcore.textbody" 1022 506),
 (520,cO "inner" "BodyReader.inner" 1408 406 6 515 true 1421),
 (521,fO "inner" "BodyReader.inner" (eY (dB (eY pB 100)) 15) "wasmcore.textbody" 1022 520),
 (527,cO "local" "BodyReader.local" 1424 423 2 522 true 1429),
 (528,fO "local" "BodyReader.local" (eY (dB (eY pB 100)) 16) "wasmcore.textbody" 1022 527),
 (534,cO "label" "BodyReader.label" 1432 430 2 529 true 1438),
 (535,fO "label" "BodyReader.label" (eY (dB (eY pB 100)) 17) "wasmcore.textbody" 1022 534),
 (546,cO "memarg" "BodyReader.memarg" 1447 455 4 541 true 1456),
 (547,fO "memarg" "BodyReader.memarg" (eY (dB (eY pB 100)) 19) "wasmcore.textbody" 1022 546),
 (553,cO "constant" "BodyReader.constant" 1459 465 6 548 true 1469),
 (554,fO "constant" "BodyReader.constant" (eY (dB (eY pB 100)) 20) "wasmcore.textbody" 1022 553),
 (560,cO "select" "BodyReader.select" 1472 477 3 555 true 1480),
 (561,fO "select" "BodyReader.select" (eY (dB (eY pB 100)) 21) "wasmcore.textbody" 1022 560),
 (562,⟨(.type "tuple"),none,(.seq #[(.str "body" 1483),(.str "labels" 1484),(.str "local_ids" 1485),(.str "spaces" 1486),(.str "tasks" 1487)] 0),#[]⟩),
 (563,⟨(.type "dict"),none,(.dict #[kd P "__module__" 1236 (.str "wasmcore.textbody" 1022),kd P "__firstlineno__" 1240 (.int 231 1239),kd P "__init__" 1249 (.ref 416),kd P "read" 1257 (.ref 423),kd P "step" 1267 (.ref 430),kd P "run" 1276 (.ref 437),kd P "open_block" 1285 (.ref 444),kd P "close_block" 1292 (.ref 451),kd P "plain" 1306 (.ref 458),kd P "plain_end" 1317 (.ref 465),kd P "folded" 1332 (.ref 472),kd P "folded_if" 1347 (.ref 479),kd P "label_told" 1357 (.ref 486),kd P "block_kind" 1371 (.ref 493),kd P "type_told" 1383 (.ref 500),kd P "instruction" 1396 (.ref 507),kd P "index" 1407 (.ref 514),kd P "inner" 1423 (.ref 521),kd P "local" 1431 (.ref 528),kd P "label" 1440 (.ref 535),kd P "of_tables" 1446 (.ref 540),kd P "memarg" 1458 (.ref 547),kd P "constant" 1471 (.ref 554),kd P "select" 1482 (.ref 561),kd P "__static_attributes__" 1488 (.ref 562),kd P "__dict__" 1490 (.ref 565),kd P "__weakref__" 1492 (.ref 566),kd P "__doc__" 1493 .none] 4),#[]⟩),
 (564,⟨(.type "type"),none,(.cls ⟨"BodyReader",[(.type "object")],[(.ref 564),(.type "object")],563,"BodyReader",true,[],[],false,none,false⟩),#[none,none,(.some (.str "BodyReader" 1229)),(.some (.str "BodyReader" 1237)),(.some (.builtin "object.__new__")),(.some (.bool true))]⟩),
 (565,⟨(.type "getset_descriptor"),none,(.fields #[(.str "__dict__" 1489),(.ref 564),(.builtin "function.__dict__"),(.builtin "function.__dict__#set")]),#[]⟩),
 (566,⟨(.type "getset_descriptor"),none,(.fields #[(.str "__weakref__" 1491),(.ref 564),(.builtin "ExceptionGroup.__weakref__"),.none]),#[]⟩),
 (574,cO "read_body" "read_body" 1496 486 3 569 true 1502),
 (575,fO "read_body" "read_body" (eY pB 101) "wasmcore.textbody" 1022 574),
 (581,cO "_law_next" "_law_next" 1507 489 1 576 true 1512),
 (582,fO "_law_next" "_law_next" (eY pB 103) "law_nm0158_01" 1505 581),
 (588,cO "_law_token" "_law_token" 1515 495 2 583 true 1520),
 (589,fO "_law_token" "_law_token" (eY pB 104) "law_nm0158_01" 1505 588),
 (595,cO "_law_items" "_law_items" 1523 500 2 590 true 1531),
 (596,fO "_law_items" "_law_items" (eY pB 105) "law_nm0158_01" 1505 595),
 (602,cO "_law_goal" "_law_goal" 1534 510 2 597 true 1541),
 (603,fO "_law_goal" "_law_goal" (eY pB 106) "law_nm0158_01" 1505 602),
 (607,cO "_law_single" "_law_single" 1544 517 2 604 false 1547),
 (608,fO "_law_single" "_law_single" (eY pB 107) "law_nm0158_01" 1505 607),
 (614,cO "_law_tree" "_law_tree" 1550 560 3 609 true 1570),
 (615,fO "_law_tree" "_law_tree" (eY pB 108) "law_nm0158_01" 1505 614),
 (621,cO "_law_trees" "_law_trees" 1573 583 4 616 true 1582),
 (622,fO "_law_trees" "_law_trees" (eY pB 109) "law_nm0158_01" 1505 621),
 (628,cO "_law_all" "_law_all" 1585 589 2 623 true 1592),
 (629,fO "_law_all" "_law_all" (eY pB 110) "law_nm0158_01" 1505 628),
 (635,cO "_law_texts" "_law_texts" 1595 594 2 630 true 1610),
 (636,fO "_law_texts" "_law_texts" (eY pB 111) "law_nm0158_01" 1505 635),
 (642,cO "_law_flat" "_law_flat" 1613 614 1 637 true 1625),
 (643,fO "_law_flat" "_law_flat" (eY pB 112) "law_nm0158_01" 1505 642),
 (649,cO "_law_wrong" "_law_wrong" 1628 626 0 644 true 1634),
 (650,fO "_law_wrong" "_law_wrong" (eY pB 113) "law_nm0158_01" 1505 649),
 (656,cO "law" "law" 1637 643 1 651 true 1653),
 (657,fO "law" "law" (eY pB 114) "law_nm0158_01" 1505 656)]
noncomputable def aID:List (Addr×List Str):=[(195,["sort","text","value","row","column"]),(223,["items","row","column"]),(391,["items","at","is_folded","base"]),(370,["name","word","token","has_else"]),(564,["spaces","local_ids","body","labels","tasks"])]
structure Cx(G:Gd):Prop where
 ok:G.Ok
 k:(KK G.P).In G.base
 cls:G.cls=aID
noncomputable def aGH(G:Gd)(n:Nat)(f:Value)(args:List V)(σ:aA)(Q:V→aA→Prop):Prop:=
 ∀(A:Around) (s:Shared) (vals:List Value) (R:Result→Shared→Prop),G.Ok→A.frames=some []→A.handled=none→A.depth+n≤900→A.units+20*n+200≤cLine→G.base.StaysIn s.heap→(∀b o,G.base.get? b=some o→σ b=none)→iH G.P σ s.heap→
  bC G.P σ s.heap args vals→(∀w s',EQ G σ Q s w s'→R (.ok (.ret w)) s')→codeAny G.M A (.call f ⟨vals,[]⟩) R s
noncomputable def sH:aA:=fun Z=>none
noncomputable def zQ(G:Gd):Prop:=Cx G→∀(xs:List Int) (Q:V→aA→Prop),xs.length≤1000→(∀σ',Q (.bool true) σ')→aGH G 18 (.ref 657) [.lst (xs.map V.int)] sH Q
theorem aDZ:∃g:Gd,zQ g→∀x,zQ x:=by
 by_cases h:∃x,¬zQ x
 ·exact let⟨x,hx⟩:=h;⟨x,fun y=>absurd y hx⟩
 ·exact⟨⟨default,⟨fun Z Z=>0,{strHash:=fun Z=>0,shareClass:=fun Z=>0,mergeTok:=fun Z=>0,idOf:=fun Z=>0,idOfShared:=fun Z Z=>0,followText:=fun Z=>true,idOfImm:=fun Z=>0}⟩,default,default,[],fun Z=>none,fun Z=>none,[]⟩,fun Z x=>Classical.byContradiction fun n=>h ⟨x,n⟩⟩
@[irreducible] noncomputable def G:Gd:=Classical.choose aDZ
theorem aFi:zQ G→∀x,zQ x:=by delta G;exact Classical.choose_spec aDZ
structure bF where
 C:Addr
 ks:List Str
 vs:List V
noncomputable def aD5(P:Params)(l:List V)(vs:List Value):Prop:=bC P sH {} l vs
inductive TbR(h0 h:Heap)(ea:Addr)(vs:Array Value)(q:Option Value→Prop):Prop
 |mk (T:Addr) (oT:Obj) (ts:Array Value) (f:Value) (h1:vs[1]? =some (.ref T)) (h2:h0.get? T=none) (h3:T≠ea) (h4:h.get? T=some oT) (h5:oT.data=.fields ts) (h6:ts[3]? =some f) (h7:q (some f))
noncomputable def aPh(h0 h:Heap)(ea:Addr)(vs:Array Value)(q:Option Value→Prop):Prop:=
 (vs[1]? =some .none∧q none)∨TbR h0 h ea vs q
structure UpR(P:Params)(h0:Heap)(x:bF)(dx:Addr)(es:Array DictEntry)(n:Nat)(h:Heap):Prop where
 n0:h0.get? dx=none
 hd:h.get? dx=some (fX es n)
 ks:lD x.ks (es.toList.map (·.key))
 vs:aD5 P x.vs (es.toList.map (·.val))
inductive Up(P:Params)(h0:Heap)(x:bF)(q:Option Value→Prop)(e:Value)(h:Heap):Prop
 |mk (ea dx:Addr) (oe:Obj) (vs:Array Value) (es:Array DictEntry) (n:Nat) (h1:e=.ref ea) (h2:h0.get? ea=none) (h3:h.get? ea=some oe) (h4:oe.cls=.ref x.C) (h5:oe.dict=some dx) (h6:oe.data=.fields vs) (h7:1<vs.size) (h8:aPh h0 h ea vs q) (r:UpR P h0 x dx es n h)
abbrev dY(base h:Heap)(l:List Env):Prop:=h.FunFrames base l
abbrev qE(l:List Env):List Addr:=l.filterMap (·.frame)
noncomputable def hV(S:List Addr)(h0 h h':Heap):Prop:=
 (∀b o,h.get? b=some o→(h0.get? b).isSome=true→(b∉S→h'.get? b=some o)∧SlR o b h')∧oV h h'
theorem hV.refl(S:List Addr)(h0 h:Heap):hV S h0 h h:=⟨fun Z o e Z=>⟨fun Z=>e,o,e,.refl o⟩,.refl h⟩
theorem hV.trans{S:List Addr}{h0 h₁ h₂ h₃:Heap}(x:hV S h0 h₁ h₂)(y:hV S h0 h₂ h₃):hV S h0 h₁ h₃:=by
 refine⟨fun b o e s=>⟨fun n=>?_,?_⟩,x.2.trans y.2⟩
 ·exact(y.1 b o ((x.1 b o e s).1 n) s).1 n
 ·obtain⟨o',e',q⟩:=(x.1 b o e s).2
  obtain⟨o'',e'',q'⟩:=(y.1 b o' e' s).2
  exact⟨o'',e'',q.trans q'⟩
theorem xX(o:Obj)(f:Array Value→Array Value):(Obj.mapFields f o).cls=o.cls:=by
 obtain⟨c,d,dt,s⟩:=o;cases dt <;> rfl
theorem vZ(o:Obj)(f:Array Value→Array Value):(Obj.mapFields f o).dict=o.dict:=by
 obtain⟨c,d,dt,s⟩:=o;cases dt <;> rfl
section
variable{M:Model}{A:Around}{E:Value→Shared→Prop}{s:Shared}{P:Params}{base h0:Heap}{x:bF}{q:Option Value→Prop}{e:Value}
theorem aAz{env fenv:Env}(h:env.frame=fenv.frame):PySem.frameOf env=PySem.frameOf fenv:=by unfold PySem.frameOf;rw[h]
theorem dY.of'{h h':Heap}{l:List Env}(F:dY base h l)(k:∀b o,b∈qE l→h.get? b=some o→(∀vs,o.data≠.fields vs)→SlR o b h'):dY base h' l:=by
 have aux:∀{l':List Env},(∀a∈qE l',a∈qE l)→h.FunFrames base l'→h'.FunFrames base l':=by
  intro l'
  induction l' with
  |nil=>intro _ _;trivial
  |cons env rest ih=>
   rintro hin ⟨hk,⟨L,o,hf,hn,ho,hd⟩,hr⟩
   have hL:L∈qE l:=hin L (by unfold qE;rw[List.filterMap_cons,hf];exact eS ..)
   obtain⟨o',e',q⟩:=k L o hL ho hd
   exact⟨hk,⟨L,o',hf,hn,e',fun vs=>q.data▸hd vs⟩,ih (fun a ha=>hin a (by unfold qE;rw[List.filterMap_cons,hf];exact fW _ ha)) hr⟩
 exact aux (fun Z ha=>ha) F
theorem aAV{S:List Addr}{h h':Heap}(x:Heap.SlotsOnly S h h'){b:Addr}{o:Obj}(e:h.get? b=some o):(b∉S→h'.get? b=some o)∧SlR o b h':=by
 refine⟨fun hb=>(x.2.1 b hb).trans e,?_⟩
 obtain⟨sl,e2⟩:=x.2.2 b o e
 exact⟨_,e2,sl,rfl⟩
theorem vW{env fenv:Env}{outer:List Env}{L ea dx:Addr}{oe:Obj}{vs:Array Value}{head:Value}{hadNext:Bool}{es:Array DictEntry}{n:Nat}{Q:Unit→Shared→Prop}
  (hfr:A.frames=some (fenv::outer)) (hf:fenv.frame=some L) (hen:env.frame=some L) (F:dY base s.heap (fenv::outer))
  (he:s.heap.get? ea=some oe) (hcl:oe.cls=.ref x.C) (hdi:oe.dict=some dx) (hd:oe.data=.fields vs) (hsz:1<vs.size) (h0e:h0.get? ea=none) (h0d:h0.get? dx=none)
  (hle:∀b o,h0.get? b=some o→∃o',s.heap.get? b=some o') (hdf:dx∉qE (fenv::outer)) (hdx:s.heap.get? dx=some (fX es n)) (hk:lD x.ks (es.toList.map (·.key))) (hv:aD5 P x.vs (es.toList.map (·.val)))
  (hQ:∀h',Up P h0 x (·=some (rawInt L)) (.ref ea) h'→hV (qE (fenv::outer)) h0 s.heap h'→dY base h' (fenv::outer)→Q () {s with heap:=h'}):
  wpAny M A (do let a ←PySem.frameOf env;let pl ←entryPlaceOf L hadNext;let b ←EntryCells.newEntry head a .none (rawInt L) .none pl;setField (.ref ea) 1 b) Q E s:=by
 refine rwL (aAz (hen.trans hf.symm)) ?_
 refine wpAny_bind (wpAny_frameOf_fun hfr F hf fun h₁ hs₁=>?_)
 refine wpAny_bind (wpAny_entryPlaceOf fun pl hpl=>?_)
 unfold EntryCells.newEntry newFields
 refine wpAny_bind (wpAny_newObj_type ?_ (hpl.sizeOk5 _ _ _ _ _))
 have sl:∀b o,s.heap.get? b=some o→(b∉qE (fenv::outer)→h₁.get? b=some o)∧SlR o b h₁:=fun b o e=>aAV hs₁ e
 have hene:ea∉qE (fenv::outer):=fun hm=>by
  obtain⟨_,o,ho,hnf⟩:=Heap.FunFrames.mem F hm
  replace ho:=he▸ho
  obtain rfl:=bE ho
  exact hnf vs hd
 have he₁:h₁.get? ea=some oe:=(sl ea oe he).1 hene
 have hx₁:h₁.get? dx=some (fX es n):=(sl dx _ hdx).1 hdf
 have hdxe:dx≠ea:=by
  rintro rfl
  replace he₁:=hx₁▸he₁
  obtain rfl:=bE he₁
  cases hd
 have he₂:=Heap.get?_push_of_some (h:=h₁) {cls:=.type "traceback",dict:=none,data:=.fields ([head,.ref L,.none,rawInt L,.none]++(if pl.isEmpty then List.replicate 6 Value.none else pl)).toArray} he₁
 refine wpAny_setField he₂ hd hsz (hQ _ ?_ ?_ ?_)
 ·have hTe:h₁.objs.size≠ea:=Nat.ne_of_gt (Heap.lt_size he₁)
  have hd₃:=Obj.data_mapFields hd (·.setIfInBounds 1 (Value.ref h₁.objs.size))
  have he₃:=Heap.get?_update_self (Obj.mapFields (·.setIfInBounds 1 (Value.ref h₁.objs.size))) he₂ (Obj.isFreed_of_fields hd₃)
  have hT₃:=(Heap.get?_update_other (h₁.push {cls:=.type "traceback",dict:=none,data:=.fields ([head,.ref L,.none,rawInt L,.none]++(if pl.isEmpty then List.replicate 6 Value.none else pl)).toArray})
   (Obj.mapFields (·.setIfInBounds 1 (Value.ref h₁.objs.size))) (Ne.symm hTe)).trans (Heap.get?_push_size h₁ rfl)
  have h0T:h0.get? h₁.objs.size=none:=by
   induction hq:h0.get? h₁.objs.size with
   |none=>rfl
   |some o=>
    obtain⟨o',e'⟩:=hle _ _ hq
    obtain⟨o'',e'',_⟩:=(sl _ _ e').2
    exact absurd (Heap.lt_size e'') (Nat.lt_irrefl _)
  refine⟨ea,dx,_,_,es,n,rfl,h0e,he₃,(xX ..).trans hcl,(vZ ..).trans hdi,hd₃,by simp[hsz],.inr ⟨h₁.objs.size,_,_,rawInt L,by simp[hsz],h0T,hTe,hT₃,rfl,?_,rfl⟩,h0d,?_,hk,hv⟩
  ·first|(simp;done)|(rcases hpl with rfl|⟨_,_,_,_,_,_,_,rfl⟩ <;> simp)
  ·refine rwL (Heap.get?_update_other _ _ (Ne.symm hdxe)) ?_
   exact Heap.get?_push_of_some _ hx₁
 ·refine⟨fun b o e hs=>?_,fun b o e=>?_⟩
  ·have nb:ea≠b:=by rintro rfl;rw[h0e] at hs;exact iX hs
   refine⟨fun hn=>?_,?_⟩
   ·refine rwL (Heap.get?_update_other _ _ nb) ?_
    exact Heap.get?_push_of_some _ ((sl b o e).1 hn)
   ·obtain⟨o',e',q⟩:=(sl b o e).2
    refine⟨o',?_,q⟩
    refine rwL (Heap.get?_update_other _ _ nb) ?_
    exact Heap.get?_push_of_some _ e'
  ·obtain⟨o',e',q⟩:=(sl b o e).2
   by_cases hb:b=ea
   ·subst hb
    have hd₃:=Obj.data_mapFields hd (·.setIfInBounds 1 (Value.ref h₁.objs.size))
    exact⟨_,Heap.get?_update_self (Obj.mapFields (·.setIfInBounds 1 (Value.ref h₁.objs.size))) he₂ (Obj.isFreed_of_fields hd₃)⟩
   ·exact⟨o',by rw[Heap.get?_update_other _ _ (Ne.symm hb)];exact Heap.get?_push_of_some _ e'⟩
 ·refine dY.of' F fun b o hb e nf=>?_
  obtain⟨o',e',q⟩:=(sl b o e).2
  refine⟨o',?_,q⟩
  refine rwL (Heap.get?_update_other _ _ (by rintro rfl;exact hene hb)) ?_
  exact Heap.get?_push_of_some _ e'
theorem uY{fl:Value}{ea dx:Addr}{oe:Obj}{vs:Array Value}{T:Addr}{oT:Obj}{ts:Array Value}{f:Value}{es:Array DictEntry}{n:Nat}{l:List Env}{S:List Addr}{Q:Unit→Shared→Prop}
  (F:dY base s.heap l) (he:s.heap.get? ea=some oe) (hcl:oe.cls=.ref x.C) (hdi:oe.dict=some dx) (hd:oe.data=.fields vs) (hsz:1<vs.size) (h0e:h0.get? ea=none) (h0d:h0.get? dx=none)
  (hdx:s.heap.get? dx=some (fX es n)) (hk:lD x.ks (es.toList.map (·.key))) (hv:aD5 P x.vs (es.toList.map (·.val)))
  (h1:vs[1]? =some (.ref T)) (h0T:h0.get? T=none) (hTe:T≠ea) (hT:s.heap.get? T=some oT) (hTd:oT.data=.fields ts) (h3:ts[3]? =some f)
  (hQ:∀h',Up P h0 x (·=some fl) (.ref ea) h'→hV S h0 s.heap h'→dY base h' l→(∀oT',h'.get? T=some oT'→∃ts',oT'.data=.fields ts'∧ts'[3]? =some fl)→h'.get? ea=some oe→h'.get? dx=some (fX es n)→Q () {s with heap:=h'}):
  wpAny M A (setField (.ref T) 3 fl) Q E s:=by
 have hs3:3<ts.size:=(Array.getElem?_eq_some_iff.mp h3).1
 have hd₃:=Obj.data_mapFields hTd (·.setIfInBounds 3 fl)
 have hT₃:=Heap.get?_update_self (Obj.mapFields (·.setIfInBounds 3 fl)) hT (Obj.isFreed_of_fields hd₃)
 have hdT:dx≠T:=by rintro rfl;rw[hdx] at hT;obtain rfl:=bE hT;cases hTd
 have g3:(ts.setIfInBounds 3 fl)[3]? =some fl:=by simp[hs3]
 have ge:(s.heap.update T (Obj.mapFields (·.setIfInBounds 3 fl))).get? ea=some oe:=(Heap.get?_update_other _ _ hTe).trans he
 have gd:(s.heap.update T (Obj.mapFields (·.setIfInBounds 3 fl))).get? dx=some (fX es n):=(Heap.get?_update_other _ _ (Ne.symm hdT)).trans hdx
 refine wpAny_setField hT hTd hs3 (hQ _ ⟨ea,dx,oe,vs,es,n,rfl,h0e,ge,hcl,hdi,hd,hsz,.inr ⟨T,_,_,fl,h1,h0T,hTe,hT₃,hd₃,g3,rfl⟩,h0d,gd,hk,hv⟩ ?_ ?_ ?_ ge gd)
 ·refine⟨fun b o e hs=>?_,fun b o e=>?_⟩
  ·have z:=(Heap.get?_update_other s.heap (Obj.mapFields (·.setIfInBounds 3 fl)) (show T≠b by rintro rfl;rw[h0T] at hs;exact iX hs)).trans e
   exact⟨fun Z=>z,o,z,.refl o⟩
  ·by_cases hb:b=T
   ·subst hb;exact⟨_,hT₃⟩
   ·exact⟨o,rwL (Heap.get?_update_other _ _ (Ne.symm hb)) e⟩
 ·refine dY.of' F fun b o Z e nf=>?_
  by_cases hb:b=T
  ·subst hb
   replace e:=hT▸e
   obtain rfl:=bE e
   exact absurd hTd (nf ts)
  ·exact⟨o,rwL (Heap.get?_update_other _ _ (Ne.symm hb)) e,.refl o⟩
 ·intro oT' e
  replace e:=hT₃▸e
  obtain rfl:=bE e
  exact⟨_,hd₃,g3⟩
theorem aDD{env fenv:Env}{outer:List Env}{L:Addr}{Q:Unit→Shared→Prop}
  (hfr:A.frames=some (fenv::outer)) (hf:fenv.frame=some L) (hen:env.frame=some L) (F:dY base s.heap (fenv::outer))
  (hle:oV h0 s.heap) (hfs:∀a∈qE (fenv::outer),∃o,h0.get? a=some o) (U:Up P h0 x q e s.heap)
  (hQ:∀h',Up P h0 x (·=some (rawInt L)) e h'→hV (qE (fenv::outer)) h0 s.heap h'→dY base h' (fenv::outer)→Q () {s with heap:=h'}):
  wpAny M A (noteFrame e env) Q E s:=by
 obtain⟨ea,dx,oe,vs,es,n,rfl,h0e,he,hcl,hdi,hd,hsz,htb,h0d,hdx,hk,hv⟩:=U
 have hdf:dx∉qE (fenv::outer):=fun hm=>by
  obtain⟨o,ho⟩:=hfs dx hm
  replace ho:=h0d▸ho
  exact cZ ho
 unfold noteFrame
 simp only[hen]
 rcases htb with⟨h1,hqn⟩|⟨T,oT,ts,f,h1,h0T,hTe,hT,hTd,h3,hq⟩
 ·refine wpAny_bind (wpAny_field he hd h1 ?_)
  refine rwL (if_neg (by exact zD T0)) ?_
  exact vW hfr hf hen F he hcl hdi hd hsz h0e h0d hle hdf hdx hk hv hQ
 ·refine wpAny_bind (wpAny_field he hd h1 ?_)
  refine rwL (if_pos (show(Value.ref T !=Value.none)=true from by simp)) ?_
  refine wpAny_bind (wpAny_field hT hTd h3 ?_)
  by_cases hfl:f=rawInt L
  ·subst hfl
   refine rwL (if_pos (by simp)) ?_
   exact wpAny_pure (hQ s.heap ⟨ea,dx,oe,vs,es,n,rfl,h0e,he,hcl,hdi,hd,hsz,.inr ⟨T,oT,ts,_,h1,h0T,hTe,hT,hTd,h3,rfl⟩,h0d,hdx,hk,hv⟩ (.refl ..) F)
  ·refine rwL (if_neg (by simpa using hfl)) ?_
   refine wpAny_bind (uY (fl:=.none) (S:=qE (fenv::outer)) F he hcl hdi hd hsz h0e h0d hdx hk hv h1 h0T hTe hT hTd h3 fun h' Z st F' Z he' hdx'=>?_)
   refine vW (s:={s with heap:=h'}) hfr hf hen F' he' hcl hdi hd hsz h0e h0d (fun b o e=>?_) hdf hdx' hk hv fun h'' U'' st'' F''=>hQ h'' U'' (st.trans st'') F''
   obtain⟨o',e'⟩:=hle b o e
   exact st.2 b o' e'
theorem zN{fl:Option Addr}{l:List Env}{S:List Addr}{Q:Unit→Shared→Prop}(F:dY base s.heap l)(U:Up P h0 x q e s.heap)(hU:¬q none)
  (hQ:∀h',Up P h0 x (·=some (fl.elim .none fun f=>rawInt f)) e h'→hV S h0 s.heap h'→dY base h' l→Q () {s with heap:=h'}):wpAny M A (setFlight e fl) Q E s:=by
 obtain⟨ea,dx,oe,vs,es,n,rfl,h0e,he,hcl,hdi,hd,hsz,htb,h0d,hdx,hk,hv⟩:=U
 rcases htb with⟨h1,hqn⟩|⟨T,oT,ts,f,h1,h0T,hTe,hT,hTd,h3,hq⟩
 ·exact absurd hqn hU
 ·unfold setFlight
  refine wpAny_bind (wpAny_field he hd h1 ?_)
  refine rwL (if_pos (show(Value.ref T !=Value.none)=true from by simp)) ?_
  exact uY F he hcl hdi hd hsz h0e h0d hdx hk hv h1 h0T hTe hT hTd h3 fun h' U' st F' Z Z Z=>hQ h' U' st F'
end
structure Md where
 n:Nat
 hd:Option Value
 sc:List (Str×NameKind)
inductive LV where
 |val (v:V)
 |cell (c:Addr)
abbrev aX:=List (Str×LV)
inductive FrS(A:Around)(env:Env)(σ:aA)(h:Heap):Prop
 |mk (fenv:Env) (outer:List Env) (L:Addr) (h1:A.frames=some (fenv::outer)) (h2:fenv.frame=some L) (h3:env.frame=some L) (h4:dY G.base h (fenv::outer)) (h5:∀a∈qE (fenv::outer),σ a=some .mark)
structure Frm(md:Md)(A:Around)(env:Env)(σ:aA)(h:Heap):Prop where
 ok:G.Ok
 kind:env.scope.kind=.function
 names:env.scope.names=md.sc
 glob:env.globals=mainGlobals
 blt:env.builtins=builtinsNs
 hand:A.handled=md.hd
 depth:A.depth+md.n≤900
 units:A.units+20*md.n+200≤cLine
 fr:FrS A env σ h
 stays:G.base.StaysIn h
 bdom:∀b o,G.base.get? b=some o→σ b=none
 off:σ env.locals=some .mark
 newL:G.base.get? env.locals=none
noncomputable def aMZ(P:Params)(σ:aA)(h:Heap)(env:Env)(m:Str→Option Value)(x:Str):LV→Prop
 |.val v=>env.kindOf x=some .local∧∃w,m x=some w∧bW P σ h v w
 |.cell c=>(env.kindOf x=some .cell∨env.kindOf x=some .free)∧env.cells.lookup x=some c∧∃v,σ c=some (.cell v)
noncomputable def kL(P:Params)(σ:aA)(h:Heap)(env:Env)(m:Str→Option Value)(loc:aX):Prop:=∀x lv,loc.lookup x=some lv→aMZ P σ h env m x lv
structure St(s:Shared)(σ:aA)(m:Str→Option Value)(env:Env)(A:Around)(md:Md)(loc:aX):Prop where
 frm:Frm md A env σ s.heap
 ns:s.heap.Ns env.locals m
 sim:iH G.P σ s.heap
 loc:kL G.P σ s.heap env m loc
theorem kG{h h':Heap}{L:Addr}{m:Str→Option Value}(x:h.Ns L m)(k:∀o,h.get? L=some o→SlR o L h'):h'.Ns L m:=by
 obtain⟨o,es,ep,ho,hd,r⟩:=x
 obtain⟨o',e',q⟩:=k o ho
 exact⟨o',es,ep,e',q.data.trans hd,r⟩
section
variable{md:Md}{A:Around}{env:Env}{m:Str→Option Value}{loc:aX}{σ σ':aA}{s s':Shared}
theorem dY.all{base h:Heap}{l:List Env}(F:dY base h l):∀a∈qE l,∃o,h.get? a=some o:=fun a ha=>let⟨_,o,ho,_⟩:=Heap.FunFrames.mem F ha;⟨o,ho⟩
theorem Frm.after(F:Frm md A env σ s.heap)(hL:∃o,s.heap.get? env.locals=some o)(a:cA s σ' s' σ):Frm md A env σ' s'.heap:=by
 obtain⟨h1,h2,hn,h3,h4,h5,h6,h7,⟨fenv,outer,L,f1,f2,f3,f4,f5⟩,h9,h10,h11,h12⟩:=F
 refine⟨h1,h2,hn,h3,h4,h5,h6,h7,⟨fenv,outer,L,f1,f2,f3,?_,fun b hb=>?_⟩,?_,?_,?_,h12⟩
 ·exact dY.of' f4 fun b o hb e Z=>(a.keep b o e).2 (f5 b hb)
 ·obtain⟨o,e⟩:=f4.all b hb
  exact(a.dom b o e).2.1 (f5 b hb)
 ·exact fun b o e=>(a.keep b o (h9 b o e)).1 (h10 b o e)
 ·exact fun b o e=>(a.dom b o (h9 b o e)).1 (h10 b o e)
 ·obtain⟨o,e⟩:=hL
  exact(a.dom _ o e).2.1 h11
theorem kL.after(h:kL G.P σ s.heap env m loc)(sim:iH G.P σ s.heap)(a:cA s σ' s' σ):kL G.P σ' s'.heap env m loc:=fun x lv e=>by
 have z:=h x lv e
 induction lv with
 |val v=>obtain⟨k,w,hw,r⟩:=z;exact⟨k,w,hw,r.step a.keep a.dom⟩
 |cell c=>
  obtain⟨k,hc,v,hv⟩:=z
  obtain⟨o,ho,_⟩:=sim c _ hv
  exact⟨k,hc,(a.dom c o ho).2.2 v hv⟩
theorem St.after(S:St s σ m env A md loc)(a:cA s σ' s' σ)(sim:iH G.P σ' s'.heap):St s' σ' m env A md loc:=
 ⟨S.frm.after (let⟨o,_,_,e,_⟩:=S.ns;⟨o,e⟩) a,kG S.ns fun o e=>(a.keep _ o e).2 S.frm.off,sim,S.loc.after S.sim a⟩
theorem St.tok(S:St s σ m env A md loc)(t:Nat):St {s with toks:=t} σ m env A md loc:=⟨S.frm,S.ns,S.sim,S.loc⟩
noncomputable def aMB:Option Value→Prop:=fun Z=>True
structure XB(σ:aA)(x:bF)(s:Shared)(e:Value)(s':Shared):Prop where
 up:Up G.P s.heap x aMB e s'.heap
 sh:aGE s s'
 kp:nX σ s.heap s'.heap
 lv:oV s.heap s'.heap
inductive EX(σ:aA)(X:bF→Prop)(s:Shared)(e:Value)(s':Shared):Prop
 |mk (x:bF) (h:X x) (b:XB σ x s e s')
theorem EQ.then{σ₁:aA}{s₁:Shared}{Q:V→aA→Prop}{v:Value}(a:cA s σ₁ s₁ σ)(q:EQ G σ₁ Q s₁ v s'):EQ G σ Q s v s':=by
 obtain⟨r,σ',h1,h2,h3,h4⟩:=q
 exact⟨r,σ',h1,h2,a.trans h3,h4⟩
theorem Up.le{P:Params}{h0 h1 h:Heap}{x:bF}{q:Option Value→Prop}{e:Value}(u:Up P h1 x q e h)(l:oV h0 h1):Up P h0 x q e h:=by
 have n:∀b,h1.get? b=none→h0.get? b=none:=fun b hb=>by
  induction hq:h0.get? b with
  |none=>rfl
  |some o=>obtain⟨o',e'⟩:=l b o hq;rw[hb] at e';exact cZ e'
 obtain⟨ea,dx,oe,vs,es,k,rfl,h0e,he,hcl,hdi,hd,hsz,htb,h0d,hdx,hk,hv⟩:=u
 refine⟨ea,dx,oe,vs,es,k,rfl,n _ h0e,he,hcl,hdi,hd,hsz,?_,n _ h0d,hdx,hk,hv⟩
 rcases htb with z|⟨T,oT,ts,f,h1,h0T,z1,z2,z3,z4,z5⟩
 ·exact .inl z
 ·exact .inr ⟨T,oT,ts,f,h1,n _ h0T,z1,z2,z3,z4,z5⟩
theorem EX.then{σ₁:aA}{s₁:Shared}{X:bF→Prop}{v:Value}(a:cA s σ₁ s₁ σ)(q:EX σ₁ X s₁ v s'):EX σ X s v s':=by
 obtain⟨x,h1,h2,⟨h',t',rfl⟩,h4,h5⟩:=q
 obtain⟨⟨h,t,rfl⟩,k,d,l⟩:=a
 exact⟨x,h1,h2.le l,⟨h',t',rfl⟩,k.trans d h4,l.trans h5⟩
theorem EX.mono{X X':bF→Prop}{v:Value}(q:EX σ X s v s')(h:∀x,X x→X' x):EX σ X' s v s':=by
 obtain⟨x,h1,r⟩:=q
 exact⟨x,h x h1,r⟩
noncomputable def cP(X:bF→Prop)(σ:aA)(loc:aX)(md:Md)(Q:V→aA→Prop)(e:Expr):Prop:=
 ∀A env m s,St s σ m env A md loc→wpAny G.M A (eval e env) (EQ G σ Q s) (EX σ X s) s
inductive TQ(σ:aA)(Q:Bool→aA→Prop)(s:Shared)(b:Bool)(s':Shared):Prop
 |mk (σ':aA) (q:Q b σ') (af:cA s σ' s' σ) (sim:iH G.P σ' s'.heap)
noncomputable def qI(md:Md)(e:Expr)(loc:aX)(σ:aA)(Q:Bool→aA→Prop)(X:bF→Prop):Prop:=
 ∀A env m s,St s σ m env A md loc→wpAny G.M A (isTrue e env (eval e env)) (TQ σ Q s) (EX σ X s) s
theorem cP.mono{e:Expr}{Q Q':V→aA→Prop}{X X':bF→Prop}(h:cP X σ loc md Q e)(hQ:∀v σ',Q v σ'→Q' v σ')(hX:∀x,X x→X' x):cP X' σ loc md Q' e:=
 fun A env m s S=>wpAny_mono (h A env m s S) (fun _ _ ⟨r,σ',a,b⟩=>⟨r,σ',hQ _ _ a,b⟩) fun Z Z q=>q.mono hX
theorem EQ.now{Q:V→aA→Prop}{r:V}{v:Value}(sim:iH G.P σ s.heap)(q:Q r σ)(h:bW G.P σ s.heap r v)(t:Nat):EQ G σ Q s v {s with toks:=t}:=
 ⟨r,σ,q,h,.tok ..,sim⟩
theorem aF{i:Int}{k:Nat}{pos:Pos}{Q:V→aA→Prop}{X:bF→Prop}(h:Q (.int i) σ):cP X σ loc md Q (.Constant (.int i) k pos):=
 fun Z Z Z s S=>wpAny_Constant_int (.now S.sim h ⟨_,rfl⟩ _)
theorem iQ{x:Str}{k:Nat}{pos:Pos}{Q:V→aA→Prop}{X:bF→Prop}(h:Q (.str x) σ)(hf:xW x):cP X σ loc md Q (.Constant (.str x) k pos):=
 fun Z Z Z s S=>wpAny_Constant_str (.now S.sim h ⟨hf,_,rfl⟩ _)
theorem dZ{b:Bool}{k:Nat}{pos:Pos}{Q:V→aA→Prop}{X:bF→Prop}(h:Q (.bool b) σ):cP X σ loc md Q (.Constant (.bool b) k pos):=
 fun Z Z Z s S=>wpAny_Constant_bool (.now S.sim h rfl s.toks)
theorem bQ{k:Nat}{pos:Pos}{Q:V→aA→Prop}{X:bF→Prop}(h:Q .none σ):cP X σ loc md Q (.Constant .none k pos):=
 fun Z Z Z s S=>wpAny_Constant_none (.now S.sim h rfl s.toks)
theorem aB{x:Str}{pos:Pos}{v:V}{Q:V→aA→Prop}{X:bF→Prop}(hx:loc.lookup x=some (.val v))(h:Q v σ)(hd:(x==("__debug__":Str))=false:=by decide):
  cP X σ loc md Q (.Name x pos):=fun A env m s S=>by
 obtain⟨k,w,hw,r⟩:=S.loc x _ hx
 exact wpAny_Name (wpAny_loadName_local S.frm.kind k S.ns hw (.now S.sim h r s.toks)) hd
theorem cV{x:Str}{pos:Pos}{c:Addr}{v:V}{Q:V→aA→Prop}{X:bF→Prop}(hx:loc.lookup x=some (.cell c))(hc:σ c=some (.cell v))(h:Q v σ)(hv:v≠.bi "":=by nofun)(hd:(x==("__debug__":Str))=false:=by decide)(hn:(x==("__classdict__":Str))=false:=by decide):
  cP X σ loc md Q (.Name x pos):=fun A env m s S=>by
 obtain⟨k,hl,_⟩:=S.loc x _ hx
 obtain⟨o,ho,cc⟩:=S.sim c _ hc
 rcases cc with⟨e,_⟩|⟨w,hw,r⟩
 ·exact absurd e hv
 rcases k with k|k
 ·exact wpAny_Name (wpAny_loadName_cell S.frm.kind k hl ⟨_,ho,hw⟩ (.now S.sim h r s.toks)) hd
 ·exact wpAny_Name (wpAny_loadName_free S.frm.kind k hl ⟨_,ho,hw⟩ (.now S.sim h r s.toks) hn) hd
noncomputable def dD(x:Str)(v:V):Prop:=∃w,G.mg x=some w∧∀σ h,G.base.StaysIn h→(∀b o,G.base.get? b=some o→σ b=none)→bW G.P σ h v w
theorem bA{x:Str}{pos:Pos}{v:V}{Q:V→aA→Prop}{X:bF→Prop}(g:dD x v)(hk:md.sc.lookup x=some .globalImplicit)(h:Q v σ)(hd:(x==("__debug__":Str))=false:=by decide):
  cP X σ loc md Q (.Name x pos):=fun A env m s S=>by
 obtain⟨w,hw,r⟩:=g
 refine PySem.Calls.Name_function_global S.frm.kind (by show env.scope.names.lookup x=_;rw[S.frm.names];exact hk) (PySem.Calls.loadGlobal_global (mg:=G.mg) ?_ hw (.now S.sim h (r _ _ S.frm.stays S.frm.bdom) s.toks)) hd
 refine rwL S.frm.glob ?_
 exact S.frm.ok.top.g.keeps S.frm.stays
noncomputable def uH(x:Str)(v:V):Prop:=G.mg x=none∧x≠"__name__"∧∃w,bootBuiltins x=some w∧((∃n,v=.bi n∧w=.builtin n)∨∃n,v=.ty n∧w=.type n)
theorem qN{x:Str}{pos:Pos}{v:V}{Q:V→aA→Prop}{X:bF→Prop}(g:uH x v)(hk:md.sc.lookup x=some .globalImplicit)(h:Q v σ)(hd:(x==("__debug__":Str))=false:=by decide):
  cP X σ loc md Q (.Name x pos):=fun A env m s S=>by
 obtain⟨h0,hn,w,hw,r⟩:=g
 refine PySem.Calls.Name_function_global S.frm.kind (by show env.scope.names.lookup x=_;rw[S.frm.names];exact hk) (PySem.Calls.loadGlobal_builtin (mg:=G.mg) (mb:=G.mb) (v:=w) ?_ h0 ?_ ((S.frm.ok.top.builtins x hn).trans hw) (.now S.sim h ?_ s.toks)) hd
 ·refine rwL S.frm.glob ?_
  exact S.frm.ok.top.g.keeps S.frm.stays
 ·refine rwL S.frm.blt ?_
  exact S.frm.ok.top.b.keeps S.frm.stays
 ·rcases r with⟨n,rfl,rfl⟩|⟨n,rfl,rfl⟩ <;> rfl
end
inductive gA where
 |next
 |brk
 |cont
 |ret (v:V)
noncomputable def aMO(P:Params)(σ:aA)(h:Heap):gA→Flow→Prop
 |.next,f=>f=.next
 |.brk,f=>f=.brk
 |.cont,f=>f=.cont
 |.ret v,f=>∃w,f=.ret w∧bW P σ h v w
structure SB(env:Env)(loc':aX)(σ':aA)(m':Str→Option Value)(s':Shared):Prop where
 ns:s'.heap.Ns env.locals m'
 sim:iH G.P σ' s'.heap
 loc:kL G.P σ' s'.heap env m' loc'
inductive SQ(env:Env)(σ:aA)(Q:gA→aX→aA→Prop)(s:Shared)(f:Flow)(s':Shared):Prop
 |mk (fl:gA) (loc':aX) (σ':aA) (m':Str→Option Value) (q:Q fl loc' σ') (rf:aMO G.P σ' s'.heap fl f) (af:eK env.locals σ σ' s s') (b:SB env loc' σ' m' s')
structure SXB(env:Env)(σ:aA)(x:bF)(s:Shared)(e:Value)(s':Shared):Prop where
 up:Up G.P s.heap x aMB e s'.heap
 sh:aGE s s'
 kp:sJ env.locals σ s.heap s'.heap
 lv:oV s.heap s'.heap
 ns:∃m',s'.heap.Ns env.locals m'
inductive SX(env:Env)(σ:aA)(X:bF→Prop)(s:Shared)(e:Value)(s':Shared):Prop
 |mk (x:bF) (h:X x) (b:SXB env σ x s e s')
noncomputable def sY(md:Md)(st:Stmt)(loc:aX)(σ:aA)(Q:gA→aX→aA→Prop)(X:bF→Prop):Prop:=
 ∀A env m s,St s σ m env A md loc→wpAny G.M A (exec st env) (SQ env σ Q s) (SX env σ X s) s
noncomputable def jC(X:bF→Prop)(σ:aA)(loc:aX)(md:Md)(Q:gA→aX→aA→Prop)(ss:List Stmt):Prop:=
 ∀A env m s,St s σ m env A md loc→wpAny G.M A (execs ss env) (SQ env σ Q s) (SX env σ X s) s
section
variable{md:Md}{A:Around}{env:Env}{m:Str→Option Value}{loc:aX}{σ σ':aA}{s s':Shared}{Q:gA→aX→aA→Prop}{X:bF→Prop}
theorem SQ.then{σ₁:aA}{s₁:Shared}{f:Flow}(a:eK env.locals σ σ₁ s s₁)(q:SQ env σ₁ Q s₁ f s'):SQ env σ Q s f s':=by
 obtain⟨fl,loc',σ',m',h1,h2,h3,h4⟩:=q
 exact⟨fl,loc',σ',m',h1,h2,a.trans h3,h4⟩
theorem SX.then{σ₁:aA}{s₁:Shared}{e:Value}(a:eK env.locals σ σ₁ s s₁)(q:SX env σ₁ X s₁ e s'):SX env σ X s e s':=by
 obtain⟨x,h1,h2,⟨h',t',rfl⟩,h4,h5,h6⟩:=q
 obtain⟨⟨h,t,rfl⟩,k,d,l⟩:=a
 exact⟨x,h1,h2.le l,⟨h',t',rfl⟩,k.trans d h4,l.trans h5,h6⟩
theorem EX.sx{e:Value}(S:St s σ m env A md loc)(q:EX σ X s e s'):SX env σ X s e s':=by
 obtain⟨x,h1,h2,h3,h4,h5⟩:=q
 exact⟨x,h1,h2,h3,h4.l _,h5,m,kG S.ns fun o e=>(h4 _ o e).2 S.frm.off⟩
theorem St.ev(S:St s σ m env A md loc){Qv:V→aA→Prop}{v:Value}(q:EQ G σ Qv s v s'):∃r σ',Qv r σ'∧bW G.P σ' s'.heap r v∧cA s σ' s' σ∧St s' σ' m env A md loc:=by
 obtain⟨r,σ',h1,h2,h3,h4⟩:=q
 exact⟨r,σ',h1,h2,h3,S.after h3 h4⟩
theorem vE(F:Frm md A env σ s.heap)(hL:∃o,s.heap.get? env.locals=some o)(a:eK env.locals σ σ' s s')(hn:∃m',s'.heap.Ns env.locals m'):Frm md A env σ' s'.heap:=by
 obtain⟨h1,h2,hn',h3,h4,h5,h6,h7,⟨fenv,outer,L,f1,f2,f3,f4,f5⟩,h9,h10,h11,h12⟩:=F
 refine⟨h1,h2,hn',h3,h4,h5,h6,h7,⟨fenv,outer,L,f1,f2,f3,?_,fun b hb=>?_⟩,?_,?_,?_,h12⟩
 ·have aux:∀{l:List Env},(∀a∈qE l,σ a=some .mark)→s.heap.FunFrames G.base l→s'.heap.FunFrames G.base l:=by
   intro l
   induction l with
   |nil=>intro _ _;trivial
   |cons e1 rest ih=>
    rintro hm ⟨hk,⟨L1,o,hf,hnn,ho,hd⟩,hr⟩
    have hm1:σ L1=some .mark:=hm L1 (by unfold qE;rw[List.filterMap_cons,hf];exact eS ..)
    refine⟨hk,?_,ih (fun a ha=>hm a (by unfold qE;rw[List.filterMap_cons,hf];exact fW _ ha)) hr⟩
    by_cases hl:L1=env.locals
    ·subst hl
     obtain⟨m',o',es,ep,ho',hd',_⟩:=hn
     exact⟨_,o',hf,hnn,ho',fun vs q=>by rw[hd'] at q;cases q⟩
    ·obtain⟨o',e',q⟩:=(a.keep L1 o ho).2 hm1 hl
     exact⟨L1,o',hf,hnn,e',fun vs=>q.data▸hd vs⟩
  exact aux f5 f4
 ·obtain⟨o,e⟩:=dY.all f4 b hb
  exact(a.dom b o e).2.1 (f5 b hb)
 ·exact fun b o e=>(a.keep b o (h9 b o e)).1 (h10 b o e)
 ·exact fun b o e=>(a.dom b o (h9 b o e)).1 (h10 b o e)
 ·obtain⟨o,e⟩:=hL
  exact(a.dom _ o e).2.1 h11
theorem St.sq(S:St s σ m env A md loc){f:Flow}(q:SQ env σ Q s f s'):∃fl loc' σ' m',Q fl loc' σ'∧aMO G.P σ' s'.heap fl f∧eK env.locals σ σ' s s'∧St s' σ' m' env A md loc':=by
 obtain⟨fl,loc',σ',m',h1,h2,h3,h4,h5,h6⟩:=q
 exact⟨fl,loc',σ',m',h1,h2,h3,vE S.frm (let⟨o,_,_,e,_⟩:=S.ns;⟨o,e⟩) h3 ⟨m',h4⟩,h4,h5,h6⟩
abbrev aEq(md:Md)(rest:List Stmt)(Q:gA→aX→aA→Prop)(X:bF→Prop):gA→aX→aA→Prop:=fun fl loc' σ'=>match fl with|.next=>jC X σ' loc' md Q rest|f=>Q f loc' σ'
abbrev IfQ(orelse:List Stmt)(md:Md)(body:List Stmt)(X:bF→Prop)(Q:gA→aX→aA→Prop)(loc:aX):Bool→aA→Prop:=fun b σ'=>if b=true then jC X σ' loc md Q body else jC X σ' loc md Q orelse
abbrev aPC(x:Str)(loc:aX)(Q:gA→aX→aA→Prop):V→aA→Prop:=fun v σ'=>Q .next ((x,.val v)::loc) σ'
abbrev aO7(loc:aX)(Q:gA→aX→aA→Prop):V→aA→Prop:=fun Z σ'=>Q .next loc σ'
abbrev aNd(loc:aX)(Q:gA→aX→aA→Prop):V→aA→Prop:=fun v σ'=>Q (.ret v) loc σ'
theorem xJ{c:Prop}[Decidable c]{p q:Prop}(h:c)(x:p):if c then p else q:=by exact rwL (if_pos h) x
theorem uV{c:Prop}[Decidable c]{p q:Prop}(h:¬c)(x:q):if c then p else q:=by exact rwL (if_neg h) x
theorem aH(h:Q .next loc σ):jC X σ loc md Q []:=fun A env m s S=>
 wpAny_execs_nil ⟨.next,loc,σ,m,h,rfl,.refl ..,S.ns,S.sim,S.loc⟩
theorem aG{st:Stmt}{rest:List Stmt}(h:sY md st loc σ (aEq md rest Q X) X):jC X σ loc md Q (st::rest):=fun A env m s S=>by
 refine wpAny_execs_cons (wpAny_mono (h A env m s S) (fun f s' q=>?_) fun Z Z e=>e)
 obtain⟨fl,loc',σ',m',h1,h2,h3,S'⟩:=S.sq q
 induction fl with
 |next=>subst h2;exact wpAny_mono (h1 A env m' s' S') (fun Z Z z=>z.then h3) fun Z Z z=>z.then h3
 |brk=>subst h2;exact⟨.brk,loc',σ',m',h1,rfl,h3,S'.ns,S'.sim,S'.loc⟩
 |cont=>subst h2;exact⟨.cont,loc',σ',m',h1,rfl,h3,S'.ns,S'.sim,S'.loc⟩
 |ret v=>obtain⟨w,rfl,r⟩:=h2;exact⟨.ret v,loc',σ',m',h1,⟨w,rfl,r⟩,h3,S'.ns,S'.sim,S'.loc⟩
theorem eF{e:Expr}{pos:Pos}(h:cP X σ loc md (aNd loc Q) e):sY md (.Return (some e) pos) loc σ Q X:=fun A env m s S=>
 wpAny_Return_some (wpAny_mono (h A env m s S) (fun v s' q=>by
  obtain⟨r,σ',h1,h2,h3,S'⟩:=S.ev q
  exact⟨.ret r,loc,σ',m,h1,⟨v,rfl,h2⟩,h3.l _,S'.ns,S'.sim,S'.loc⟩) fun Z Z q=>q.sx S)
theorem vD{pos:Pos}(h:Q (.ret .none) loc σ):sY md (.Return none pos) loc σ Q X:=fun A env m s S=>
 wpAny_Return_none ⟨.ret .none,loc,σ,m,h,⟨.none,rfl,rfl⟩,.refl ..,S.ns,S.sim,S.loc⟩
theorem aBT{pos:Pos}(h:Q .brk loc σ):sY md (.Break pos) loc σ Q X:=fun A env m s S=>
 wpAny_bind (wpAny_standAt (wpAny_pure ⟨.brk,loc,σ,m,h,rfl,.refl ..,S.ns,S.sim,S.loc⟩))
theorem gQ{test:Expr}{body orelse:List Stmt}{pos:Pos}(h:qI md test loc σ (IfQ orelse md body X Q loc) X):sY md (.If test body orelse pos) loc σ Q X:=fun A env m s S=>by
 refine wpAny_If (wpAny_mono (h A env m s S) (fun b s' q=>?_) fun Z Z q=>q.sx S)
 obtain⟨σ',h1,h2,h3⟩:=q
 have S':=S.after h2 h3
 induction b
 ·exact wpAny_mono (h1 A env m s' S') (fun Z Z z=>z.then (h2.l _)) fun Z Z z=>z.then (h2.l _)
 ·exact wpAny_mono (h1 A env m s' S') (fun Z Z z=>z.then (h2.l _)) fun Z Z z=>z.then (h2.l _)
theorem lQ{x:Str}{r:V}{v:Value}{Qu:Unit→Shared→Prop}{E:Value→Shared→Prop}(S:St s σ m env A md loc)(hx:md.sc.lookup x=some .local)(hr:bW G.P σ s.heap r v)
  (h:∀s',St s' σ (fun y=>if y=x then some v else m y) env A md ((x,.val r)::loc)→eK env.locals σ σ s s'→Qu () s'):wpAny G.M A (storeName env x v) Qu E s:=by
 have hk:env.kindOf x=some .local:=by show env.scope.names.lookup x=_;rw[S.frm.names];exact hx
 refine wpAny_storeName_local hk S.ns (fun h' hn hs=>?_) (by rw[S.frm.kind];rfl)
 have hm:=S.frm.off
 have aft:eK env.locals σ σ s {s with heap:=h',toks:=s.toks+1}:=by
  have ne:∀b,σ b=none→b≠env.locals:=fun b hb q=>by rw[q,hm] at hb;exact cZ (Eq.symm hb)
  refine⟨⟨_,_,rfl⟩,fun b o e=>⟨fun z=>(hs.2 b (ne b z)).trans e,fun z n=>⟨o,(hs.2 b n).trans e,.refl o⟩⟩,yJ.refl σ s.heap,fun b o e=>?_⟩
  by_cases hb:b=env.locals
  ·subst hb;obtain⟨o',_,_,e',_⟩:=hn;exact⟨o',e'⟩
  ·exact⟨o,(hs.2 b hb).trans e⟩
 have keepR:∀b o,s.heap.get? b=some o→σ b=none→h'.get? b=some o∧σ b=none:=fun b o e z=>⟨(aft.keep b o e).1 z,z⟩
 have sim':iH G.P σ h':=fun a mo e=>by
  obtain⟨o,ho,c⟩:=S.sim a mo e
  by_cases ha:a=env.locals
  ·subst ha
   rw[hm] at e
   obtain rfl:=bE e
   obtain⟨o',_,_,e',_⟩:=hn
   exact⟨o',e',trivial⟩
  ·exact⟨o,(hs.2 a ha).trans ho,c.mono keepR⟩
 refine h _ ⟨vE S.frm (let⟨o,_,_,e,_⟩:=S.ns;⟨o,e⟩) aft ⟨_,hn⟩,hn,sim',fun y lv e=>?_⟩ aft
 rw[List.lookup_cons] at e
 by_cases hy:y=x
 ·subst hy
  rw[beq_self_eq_true] at e
  obtain rfl:=bE e
  exact⟨hk,v,by simp,hr.mono keepR⟩
 ·have:(y==x)=false:=by simpa using hy
  replace e:=this▸e
  have z:=S.loc y lv e
  induction lv with
  |val u=>obtain⟨k,w,hw,q⟩:=z;exact⟨k,w,by simpa [hy] using hw,q.mono keepR⟩
  |cell c=>exact z
noncomputable def gN:Expr→Bool
 |.ListComp .. |.SetComp .. |.DictComp ..=>false
 |_=>true
theorem hO{e:Expr}(h:gN e=true)(t:Option Expr)(l:Nat)(env:Env):swapsWith e t l env=pure false:=by
 cases e <;> first|rfl|exact iX h
theorem tL{x:Str}{px pos:Pos}{e:Expr}(hx:md.sc.lookup x=some .local)(h:cP X σ loc md (aPC x loc Q) e)(hn:gN e=true:=by rfl):
  sY md (.Assign [.Name x px] e pos) loc σ Q X:=fun A env m s S=>by
 refine wpAny_Assign_Name (wpAny_mono (h A env m s S) (fun v s' q=>?_) fun Z Z q=>q.sx S) (hO hn ..)
 obtain⟨r,σ',h1,h2,h3,S'⟩:=S.ev q
 refine lQ S' hx h2 fun s'' S'' a=>?_
 exact⟨.next,_,σ',_,h1,rfl,(h3.l _).trans a,S''.ns,S''.sim,S''.loc⟩
theorem pT{e:Expr}{pos:Pos}(h:cP X σ loc md (aO7 loc Q) e)(hn:gN e=true:=by rfl):sY md (.Expr e pos) loc σ Q X:=fun A env m s S=>by
 refine wpAny_Expr_any (wpAny_mono (h A env m s S) (fun v s' q=>?_) fun Z Z q=>q.sx S) (by unfold interactive;rw[S.frm.kind];rfl) (hO hn ..)
 obtain⟨r,σ',h1,h2,h3,S'⟩:=S.ev q
 exact⟨.next,loc,σ',m,h1,rfl,h3.l _,S'.ns,S'.sim,S'.loc⟩
end
section
variable{md:Md}{A:Around}{env:Env}{m:Str→Option Value}{loc:aX}{σ σ':aA}{s s':Shared}{X:bF→Prop}
theorem zM{L:Addr}{h0 h h':Heap}{S:List Addr}(k:sJ L σ h0 h)(st:hV S h0 h h')(hm:∀a∈S,σ a=some .mark):sJ L σ h0 h':=fun b o e=>by
 have hs:(h0.get? b).isSome=true:=by rw[e];rfl
 refine⟨fun z=>?_,fun z n=>?_⟩
 ·exact(st.1 b o ((k b o e).1 z) hs).1 fun hb=>by rw[hm b hb] at z;exact cZ (Eq.symm z)
 ·obtain⟨o',e',q⟩:=(k b o e).2 z n
  obtain⟨o'',e'',q'⟩:=(st.1 b o' e' hs).2
  exact⟨o'',e'',q.trans q'⟩
theorem aFV{L:Addr}{h0 h h':Heap}{S:List Addr}{m:Str→Option Value}(hn:h.Ns L m)(hL:∃o,h0.get? L=some o)(st:hV S h0 h h'):h'.Ns L m:=
 kG hn fun o e=>(st.1 L o e (by obtain⟨o',e'⟩:=hL;rw[e'];rfl)).2
theorem zL{e:Value}(F:Frm md A env σ s.heap)(q:SX env σ X s e s'):
  ∃fenv outer L,A.frames=some (fenv::outer)∧fenv.frame=some L∧env.frame=some L∧dY G.base s'.heap (fenv::outer)∧(∀a∈qE (fenv::outer),σ a=some .mark)∧∀a∈qE (fenv::outer),∃o,s.heap.get? a=some o:=by
 obtain⟨h1,h2,hn',h3,h4,h5,h6,h7,⟨fenv,outer,L,f1,f2,f3,f4,f5⟩,h9,h10,h11,h12⟩:=F
 obtain⟨x,_,_,_,k,_,m',hn⟩:=q
 refine⟨fenv,outer,L,f1,f2,f3,?_,f5,f4.all⟩
 have aux:∀{l:List Env},(∀a∈qE l,σ a=some .mark)→s.heap.FunFrames G.base l→s'.heap.FunFrames G.base l:=by
  intro l
  induction l with
  |nil=>intro _ _;trivial
  |cons e1 rest ih=>
   rintro hm ⟨hk,⟨L1,o,hf,hnn,ho,hd⟩,hr⟩
   have hm1:σ L1=some .mark:=hm L1 (by unfold qE;rw[List.filterMap_cons,hf];exact eS ..)
   refine⟨hk,?_,ih (fun a ha=>hm a (by unfold qE;rw[List.filterMap_cons,hf];exact fW _ ha)) hr⟩
   by_cases hl:L1=env.locals
   ·subst hl
    obtain⟨o',es,ep,ho',hd',_⟩:=hn
    exact⟨_,o',hf,hnn,ho',fun vs q=>by rw[hd'] at q;cases q⟩
   ·obtain⟨o',e',q⟩:=(k L1 o ho).2 hm1 hl
    exact⟨L1,o',hf,hnn,e',fun vs=>q.data▸hd vs⟩
 exact aux f5 f4
theorem aEg{e:Value}{Qu:Unit→Shared→Prop}{E:Value→Shared→Prop}(F:Frm md A env σ s.heap)(hL:∃o,s.heap.get? env.locals=some o)(q:SX env σ X s e s')
  (hQ:∀s'' L,env.frame=some L→SX env σ X s e s''→(∃x,X x∧Up G.P s.heap x (·=some (rawInt L)) e s''.heap)→Qu () s''):wpAny G.M A (noteFrame e env) Qu E s':=by
 obtain⟨fenv,outer,L,f1,f2,f3,f4,f5,f6⟩:=zL F q
 obtain⟨x,hx,U,⟨h',tk,rfl⟩,k,l,m',hn⟩:=q
 refine aDD f1 f2 f3 f4 l f6 U fun h'' U' st F'=>?_
 refine hQ _ L f3 ⟨x,hx,?_,⟨_,_,rfl⟩,zM k st f5,l.trans st.2,m',aFV hn hL st⟩ ⟨x,hx,U'⟩
 obtain⟨ea,dx,oe,vs,es,n,r1,r2,r3,r4,r5,r6,r7,r8,r⟩:=U'
 refine⟨ea,dx,oe,vs,es,n,r1,r2,r3,r4,r5,r6,r7,?_,r⟩
 rcases r8 with⟨z,_⟩|⟨T,oT,ts,f,z1,z2,z3,z4,z5,z6,_⟩
 ·exact .inl ⟨z,trivial⟩
 ·exact .inr ⟨T,oT,ts,f,z1,z2,z3,z4,z5,z6,trivial⟩
theorem aH0{P:Params}{h0 h:Heap}{x:bF}{q:Option Value→Prop}{e:Value}(U:Up P h0 x q e h):Up P h0 x (fun Z=>True) e h:=by
 obtain⟨ea,dx,oe,vs,es,n,r1,r2,r3,r4,r5,r6,r7,r8,r⟩:=U
 refine⟨ea,dx,oe,vs,es,n,r1,r2,r3,r4,r5,r6,r7,?_,r⟩
 rcases r8 with⟨z,_⟩|⟨T,oT,ts,f,z1,z2,z3,z4,z5,z6,_⟩
 ·exact .inl ⟨z,trivial⟩
 ·exact .inr ⟨T,oT,ts,f,z1,z2,z3,z4,z5,z6,trivial⟩
theorem zT{e:Value}{fl:Option Addr}{L:Addr}{Qu:Unit→Shared→Prop}{E:Value→Shared→Prop}(F:Frm md A env σ s.heap)(hL:∃o,s.heap.get? env.locals=some o)(q:SX env σ X s e s')
  (u:∃x,X x∧Up G.P s.heap x (·=some (rawInt L)) e s'.heap)
  (hQ:∀s'',SX env σ X s e s''→(∃x,X x∧Up G.P s.heap x (·=some (fl.elim .none fun f=>rawInt f)) e s''.heap)→Qu () s''):wpAny G.M A (setFlight e fl) Qu E s':=by
 obtain⟨fenv,outer,L,f1,f2,f3,f4,f5,f6⟩:=zL F q
 obtain⟨_,_,_,⟨h',tk,rfl⟩,k,l,m',hn⟩:=q
 obtain⟨x,hx,U⟩:=u
 refine zN (S:=qE (fenv::outer)) f4 U (by simp) fun h'' U' st F'=>?_
 exact hQ _ ⟨x,hx,aH0 U',⟨_,_,rfl⟩,zM k st f5,l.trans st.2,m',aFV hn hL st⟩ ⟨x,hx,U'⟩
theorem yP(F:Frm md A env σ s.heap)(hL:∃o,s.heap.get? env.locals=some o):PassesOwn G.M A env (SX env σ X s):=fun e s' q=>by
 refine aEg F hL q fun s'' L hf q' u=>?_
 show wpAny G.M A _ _ _ s''
 obtain⟨x,hx,ea,dx,oe,vs,es,n,rfl,r2,r3,r4,r5,r6,r7,r8,r⟩:=id u
 rcases r8 with⟨_,z⟩|⟨T,oT,ts,f,z1,z2,z3,z4,z5,z6,z7⟩
 ·exact cZ z
 refine wpAny_bind (wpAny_field r3 r6 z1 ?_)
 refine rwL (if_neg (by simp)) ?_
 exact zT F hL q' u fun s3 q3 Z=>q3
theorem aA6{e:Value}{E:Value→Shared→Prop}{Qu:Unit→Shared→Prop}(F:Frm md A env σ s.heap)(hL:∃o,s.heap.get? env.locals=some o)(q:SX env σ X s e s')
  (hQ:∀s'',SX env σ X s e s''→Qu () s''):wpAny G.M A (leaving env e) Qu E s':=by
 unfold leaving
 refine wpAny_bind (aEg F hL q fun s'' L hf q' u=>?_)
 exact zT F hL q' u fun s3 q3 Z=>hQ s3 q3
end
structure aBW(f:Addr)(ps:List Str)(body:List Stmt)(names:List (Str×NameKind))(o:Obj)(fd:FuncData):Prop where
 at_:G.base.get? f=some o
 data:o.data=.func fd
 body:fd.body=.stmts body
 names:fd.scope.names=names
 code:G.base.CodeRec fd.code fd.qualname
 kind:fd.scope.kind=.function
 co:fd.scope.isCoroutine=false
 gen:fd.scope.isGenerator=false
 globals:fd.globals=mainGlobals
 builtins:fd.builtins=builtinsNs
 closure:fd.closure=[]
 binds:∀s vals,vals.length=ps.length→G.base.StaysIn s.heap→BindsTo s fd ⟨vals,[]⟩ (ps.zip vals)
 nodup:ps.Nodup
noncomputable def aW(Q:V→aA→Prop)(σ:aA)(X:bF→Prop)(n:Nat)(f:Value)(args:List V):Prop:=
 ∀md A env m loc s vals,n≤md.n→md.hd=none→St s σ m env A md loc→bC G.P σ s.heap args vals→wpAny G.M A (call f vals) (EQ G σ Q s) (EX σ X s) s
noncomputable def kM(n:Nat)(f:Value)(args:List V)(σ:aA)(Q:V→aA→Prop)(X:bF→Prop):Prop:=
 ∀md A env m loc s vals,n≤md.n→md.hd=none→St s σ m env A md loc→bC G.P σ s.heap args vals→codeAny G.M A (.call f ⟨vals,[]⟩) (fun r s'=>match r with|.ok (.ret v)=>EQ G σ Q s v s'|.ok _=>False|.error e=>EX σ X s e s') s
theorem kM.w{n:Nat}{f:Value}{args:List V}{σ:aA}{Q:V→aA→Prop}{X:bF→Prop}(h:kM n f args σ Q X):aW Q σ X n f args:=fun md A env m loc s vals h1 h2 h3 h4=>wpAny_call (h md A env m loc s vals h1 h2 h3 h4)
theorem tN{P:Params}{σ:aA}{h:Heap}{ps:List Str}:∀{args:List V} {vals:List Value},bC P σ h args vals→ps.length=args.length→ps.Nodup→
  ∀x v,(ps.zip (args.map LV.val)).lookup x=some v→x∈ps∧∃u w,v=.val u∧(ps.zip vals).reverse.lookup x=some w∧bW P σ h u w:=by
 induction ps with
 |nil=>intro _ _ _ _ _ x v e;exact cZ e
 |cons p ps ih=>
  intro args vals r hl nd x v e
  cases args with
  |nil=>cases hl
  |cons a args=>
  obtain⟨w,ws,rfl,r1,r2⟩:=r
  obtain⟨n1,n2⟩:=List.nodup_cons.mp nd
  rw[List.map_cons,List.zip_cons_cons,List.lookup_cons] at e
  refine rwL List.zip_cons_cons ?_
  refine rwL List.reverse_cons ?_
  refine rwL List.lookup_append ?_
  by_cases hx:x=p
  ·subst hx
   rw[beq_self_eq_true] at e
   obtain rfl:=bE e
   have:(ps.zip ws).reverse.lookup x=none:=by
    rw[List.lookup_eq_none_iff]
    intro q hq
    refine bne_iff_ne.mpr fun q'=>n1 ?_
    refine rwL q' ?_
    exact(List.of_mem_zip (List.mem_reverse.mp hq)).1
   exact⟨eS ..,a,w,rfl,by rw[this];simp,r1⟩
  ·replace e:=(beq_eq_false_iff_ne.mpr hx)▸e
   obtain⟨h1,u,w',h2,h3,h4⟩:=ih r2 (Nat.succ.inj hl) n2 x v e
   exact⟨fW _ h1,u,w',h2,by rw[h3];rfl,h4⟩
theorem oI{ps:List Str}{vals:List Value}{names:List (Str×NameKind)}(h:∀p∈ps,names.lookup p=some .local):∀x∈ps.zip vals,names.lookup x.1=some .local:=
 fun x hx=>h _ (List.of_mem_zip hx).1
abbrev aPm(Q:V→aA→Prop)(er:aA→aA):gA→aX→aA→Prop:=fun fl Z σ'=>match fl with|.ret v=>Q v (er σ')|.next=>Q .none (er σ')|_=>False
abbrev FnQ(L:Addr)(Q:V→aA→Prop):gA→aX→aA→Prop:=fun fl Z σ'=>match fl with|.ret v=>Q v (eZ L σ')|.next=>Q .none (eZ L σ')|_=>False
theorem aLE{a k:Nat}(h:a+k≤900):a<recursionLimit:=Nat.lt_of_le_of_lt (aM (eL _ _) h) (aD rfl)
theorem aKK{a n k b:Nat}(hk:n+1≤k)(h:a+k≤b):a+1+n≤b:=by
 refine rwL (Nat.add_assoc _ _ _) ?_
 refine rwL (Nat.add_comm 1 n) ?_
 exact aM (fV hk a) h
theorem aK7{a n k b:Nat}(hk:n+1≤k)(h:a+20*k+200≤b):a+3+20*n+200≤b:=by
 refine aM (eP ?_ 200) h
 refine rwL (Nat.add_assoc _ _ _) ?_
 refine fV (aM ?_ (hZ 20 hk)) a
 refine rwL (Nat.mul_succ _ _) ?_
 refine rwL (Nat.add_comm 3 _) ?_
 exact fV (aD rfl) _
section
variable{n:Nat}{f L:Addr}{ps:List Str}{body:List Stmt}{names:List (Str×NameKind)}{o:Obj}{fd:FuncData}{args:List V}{σ:aA}{s:Shared}{h₀:Heap}{tk:Nat}{A:Around}{vals:List Value}
theorem oU(hL:s.heap.get? L=none):∀b o,s.heap.get? b=some o→b≠L:=fun b o e q=>by rw[q,hL] at e;exact cZ e
theorem rM(sim:iH G.P σ s.heap)(hL:s.heap.get? L=none):σ L=none:=by
 induction hq:σ L with
 |none=>rfl
 |some mo=>obtain⟨o,ho,_⟩:=sim _ _ hq;rw[hL] at ho;exact cZ ho
theorem xC(stays:G.base.StaysIn s.heap)(hL:s.heap.get? L=none):G.base.get? L=none:=by
 induction hq:G.base.get? L with
 |none=>rfl
 |some o=>have:=stays _ _ hq;rw[hL] at this;exact cZ this
structure Beg(σ τ:aA)(L:Addr)(s:Shared)(h₀:Heap):Prop where
 hk:∀b o,s.heap.get? b=some o→h₀.get? b=some o
 ne:∀b o,s.heap.get? b=some o→b≠L
 up:∀b o,s.heap.get? b=some o→τ b=σ b
inductive aKe(env:Env)(names:List (Str×NameKind))(L:Addr):Prop
 |mk (k:env.scope.kind=.function) (n:env.scope.names=names) (g:env.globals=mainGlobals) (b:env.builtins=builtinsNs) (f:env.frame=some L) (l:env.locals=L)
section
variable{τ:aA}{m:Str→Option Value}{env:Env}{loc:aX}{X:bF→Prop}
theorem Beg.mono{u:V}{w:Value}(K:Beg σ τ L s h₀)(r:bW G.P σ s.heap u w):bW G.P τ h₀ u w:=r.mono fun b o e z=>⟨K.hk b o e,(K.up b o e).trans z⟩
theorem aH3{fl:List Env}(f:env.frame=some L):qE (env::fl)=L::qE fl:=by unfold qE;rw[List.filterMap_cons,f]
theorem yW{fl:List Env}(E:aKe env names L)(K:Beg σ τ L s h₀)(ok:G.Ok)(hha:A.handled=none)(hdp:A.depth+1+n≤900)(hun:A.units+3+20*n+200≤cLine)(f1:A.frames=some fl)(f4:dY G.base s.heap fl)
  (f5:∀b∈qE fl,σ b=some .mark) (stays:G.base.StaysIn s.heap) (bdom:∀b o,G.base.get? b=some o→σ b=none) (hL:s.heap.get? L=none) (hns:h₀.Ns L m) (upL:τ L=some .mark) (sim:iH G.P τ h₀) (hloc:kL G.P τ h₀ env m loc):
  St {s with heap:=h₀,toks:=tk} τ m env (A.deeper env) ⟨n,none,names⟩ loc:=by
 obtain⟨k,nn,g,bt,f,l⟩:=E
 obtain⟨o,x1,x2,e',hd,x3⟩:=hns
 refine⟨⟨ok,k,nn,g,bt,hha,hdp,hun,⟨env,fl,L,(congrArg (Option.map _) f1).trans rfl,f,f,⟨fun q=>(nomatch k.symm.trans q),⟨L,o,f,xC stays hL,e',fun vs q=>(nomatch hd.symm.trans q)⟩,Heap.FunFrames.of_keeps (fun b o e Z=>⟨o,K.hk b o e,rfl⟩) f4⟩,fun b hb=>?_⟩,fun b o e=>K.hk b o (stays b o e),fun b o e=>(K.up b o (stays b o e)).trans (bdom b o e),(congrArg τ l).trans upL,(congrArg G.base.get? l).trans (xC stays hL)⟩,l.symm▸⟨o,x1,x2,e',hd,x3⟩,sim,hloc⟩
 exact(eM (aH3 f▸hb:b∈L::qE fl)).elim (fun e=>e▸upL) fun hb=>(dY.all f4 b hb).elim fun o e=>(K.up b o e).trans (f5 b hb)
theorem Beg.of(hL:s.heap.get? L=none)(hk:∀b o,s.heap.get? b=some o→h₀.get? b=some o):Beg σ (upd L .mark σ) L s h₀:=⟨hk,oU hL,fun b o e=>aR σ _ (oU hL b o e)⟩
theorem aB7{fl:List Env}(F:aBW f ps body names o fd)(hl:∀p∈ps,names.lookup p=some .local)(ok:G.Ok)(hha:A.handled=none)(hdp:A.depth+1+n≤900)(hun:A.units+3+20*n+200≤cLine)(f1:A.frames=some fl)(f4:dY G.base s.heap fl)
  (f5:∀b∈qE fl,σ b=some .mark) (stays:G.base.StaysIn s.heap) (bdom:∀b o,G.base.get? b=some o→σ b=none) (sim:iH G.P σ s.heap) (hL:s.heap.get? L=none) (hns:h₀.Ns L (fun x=>(ps.zip vals).reverse.lookup x)) (hk:∀b o,s.heap.get? b=some o→h₀.get? b=some o)
  (hr:bC G.P σ s.heap args vals) (hn:ps.length=args.length):
  St {s with heap:=h₀,toks:=tk} (upd L .mark σ) (fun x=>(ps.zip vals).reverse.lookup x) (callEnv fd L f) (A.deeper (callEnv fd L f)) ⟨n,none,names⟩ (ps.zip (args.map .val)):=by
 have K:=Beg.of (σ:=σ) hL hk
 refine yW ⟨F.6,F.4,F.9,F.10,rfl,rfl⟩ K ok hha hdp hun f1 f4 f5 stays bdom hL hns (aI ..) (fun a mo e=>?_) fun x lv e=>?_
 ·by_cases ha:a=L
  ·obtain⟨o,_,_,e',_⟩:=hns
   exact⟨o,ha▸e',bE ((aI σ L .mark).symm.trans (ha▸e))▸trivial⟩
  ·obtain⟨o,ho,c⟩:=sim a mo ((aR σ _ ha).symm.trans e)
   exact⟨o,hk a o ho,c.mono fun b o e z=>⟨hk b o e,(K.up b o e).trans z⟩⟩
 ·obtain⟨hx,u,w,ev,hw,r⟩:=tN hr hn F.13 x lv e
  exact ev▸⟨(congrArg (List.lookup x) F.4).trans (hl x hx),w,hw,K.mono r⟩
theorem aKH{hh:Heap}{tk':Nat}{σ' er:aA}{r:V}{w:Value}{Q:V→aA→Prop}(K:Beg σ τ L s h₀)(a:eK L τ σ' {s with heap:=h₀,toks:=tk} {s with heap:=hh,toks:=tk'})(sim:iH G.P σ' hh)(ez:∀b,σ' b=none→er b=none)(eo:∀b o,s.heap.get? b=some o→er b=σ' b)
  (es:∀b mo,er b=some mo→σ' b=some mo) (hq:Q r er) (hr:bW G.P σ' hh r w):EQ G σ Q s w {s with heap:=hh,toks:=tk'}:=
 ⟨r,er,hq,hr.mono fun b o e z=>⟨e,ez b z⟩,⟨⟨_,_,rfl⟩,fun b o e=>⟨fun z=>(a.keep b o (K.hk b o e)).1 ((K.up b o e).trans z),fun z=>(a.keep b o (K.hk b o e)).2 ((K.up b o e).trans z) (K.ne b o e)⟩,fun b o e=>eo b o e▸K.up b o e▸a.dom b o (K.hk b o e),fun b o e=>a.live b o (K.hk b o e)⟩,
   fun x mo e=>let⟨o,ho,c⟩:=sim x mo (es x mo e);⟨o,ho,c.mono fun b o e z=>⟨e,ez b z⟩⟩⟩
theorem aHJ{e:Value}{s':Shared}(K:Beg σ τ env.locals s h₀)(q:SX env τ X {s with heap:=h₀,toks:=tk} e s'):EX σ X s e s':=by
 obtain⟨x,hx,U,⟨hh,tk,rfl⟩,k',l',_⟩:=q
 exact⟨x,hx,U.le fun b o e=>⟨o,K.hk b o e⟩,⟨_,_,rfl⟩,fun b o e=>⟨fun z=>(k' b o (K.hk b o e)).1 ((K.up b o e).trans z),fun z=>(k' b o (K.hk b o e)).2 ((K.up b o e).trans z) (K.ne b o e)⟩,fun b o e=>l' b o (K.hk b o e)⟩
end
noncomputable def aPl(σ:aA)(Q:V→aA→Prop)(s:Shared)(s':Shared):Flow→Prop
 |.next=>EQ G σ Q s .none s'
 |.ret w=>EQ G σ Q s w s'
 |_=>False
theorem aCs{env:Env}{τ:aA}{er:aA→aA}{fl:Flow}{s':Shared}{Q:V→aA→Prop}(K:Beg σ τ env.locals s h₀)(ez:∀σ' b,σ' b=none→er σ' b=none)(eo:∀σ' b o,s.heap.get? b=some o→er σ' b=σ' b)(es:∀σ' b mo,er σ' b=some mo→σ' b=some mo)
  (q:SQ env τ (aPm Q er) {s with heap:=h₀,toks:=tk} fl s'):aPl σ Q s s' fl:=by
 obtain⟨fw,loc',σ',m',h1,h2,h3,_,h5,_⟩:=q
 obtain⟨hh,tk',rfl⟩:=h3.same
 have fin:=fun r w (hq:Q r (er σ')) hr=>aKH (r:=r) (w:=w) (Q:=Q) K h3 h5 (ez σ') (eo σ') (es σ') hq hr
 induction fw with
 |next=>exact(h2:fl=.next)▸fin .none .none h1 rfl
 |brk=>exact h1.elim
 |cont=>exact h1.elim
 |ret v=>obtain⟨w,rfl,r⟩:=h2;exact fin v w h1 r
theorem aBG{b:Addr}{mo:dJ}(h:eZ L σ b=some mo):σ b=some mo:=kZ h (fun Z=>cZ) fun Z=>id
theorem aBK{b:Addr}(h:σ b=none):eZ L σ b=none:=by
 unfold eZ
 split
 ·rfl
 ·exact h
end
theorem aBU{n:Nat}{f:Addr}{ps:List Str}{body:List Stmt}{names:List (Str×NameKind)}{o:Obj}{fd:FuncData}{args args':List V}{σ:aA}{Q:V→aA→Prop}{X:bF→Prop}
  (F:aBW f ps body names o fd) (hc:∀x∈names,x.2≠.cell) (hl:∀p∈ps,names.lookup p=some .local) (hn:ps.length=args'.length)
  (hb:∀(s:Shared) vals,G.base.StaysIn s.heap→bC G.P σ s.heap args vals→∃vals',BindsTo s fd ⟨vals,[]⟩ (ps.zip vals')∧bC G.P σ s.heap args' vals')
  (h:∀L,σ L=none→jC X (upd L .mark σ) (ps.zip (args'.map .val)) ⟨n,none,names⟩ (FnQ L Q) body):
  kM (n+1) (.ref f) args σ Q X:=by
 intro md A env m loc s vals0 hmn hhd S hr0
 obtain⟨vals,hbd,hr⟩:=hb s vals0 S.frm.stays hr0
 have hroom:A.depth<recursionLimit:=aLE S.frm.depth
 refine(codeAny_call_def hroom (S.frm.stays _ _ F.1) F.2 (S.frm.ok.top.nolimit.keeps S.frm.stays) (F.5.keeps S.frm.stays) F.3 hbd (rwL F.4 hc) (rwL F.4 (oI hl)) (fun h₀ hns hk=>?_) F.7 F.8 F.6)
 have hL:s.heap.get? s.heap.objs.size=none:=Heap.get?_none_of_le (bO _)
 obtain⟨q1,q2,q3,q4,q5,q6,q7,q8,⟨fenv,outer,Lf,f1,f2,f3,f4,f5⟩,q9,q10,q11,q12⟩:=S.frm
 have S1:=aB7 (n:=n) (tk:=s.toks+(ps.zip vals).length) F hl q1 (q6.trans hhd) (aKK hmn q7) (aK7 hmn q8) f1 f4 f5 q9 q10 S.sim hL hns hk hr hn
 have hLs:∃o,h₀.get? s.heap.objs.size=some o:=let⟨o,_,_,e,_⟩:=hns;⟨o,e⟩
 have K:=Beg.of (σ:=σ) hL hk
 refine wpAny_mono (h _ (rM S.sim hL) _ _ _ _ S1) (fun fl s' q=>?_) fun e s' q=>aA6 S1.frm hLs q fun s'' q'=>aHJ K q'
 have z:=aCs (er:=fun σ'=>eZ s.heap.objs.size σ') K (fun Z Z=>aBK) (fun Z b o e=>dP _ (K.ne b o e)) (fun Z Z Z=>aBG) q
 cases fl <;> first|exact z|exact z.elim
theorem kE{n:Nat}{f:Addr}{ps:List Str}{body:List Stmt}{names:List (Str×NameKind)}{o:Obj}{fd:FuncData}{args:List V}{σ:aA}{Q:V→aA→Prop}{X:bF→Prop}
  (F:aBW f ps body names o fd) (hc:∀x∈names,x.2≠.cell) (hl:∀p∈ps,names.lookup p=some .local) (hn:ps.length=args.length)
  (h:∀L,σ L=none→jC X (upd L .mark σ) (ps.zip (args.map .val)) ⟨n,none,names⟩ (FnQ L Q) body):
  kM (n+1) (.ref f) args σ Q X:=aBU F hc hl hn (fun s vals hs r=>⟨vals,F.binds s vals (rwL hn r.length) hs,r⟩) h
theorem aZ{n:Nat}{f:Addr}{ps:List Str}{body:List Stmt}{names:List (Str×NameKind)}{o:Obj}{fd:FuncData}{args:List V}{σ:aA}{Q:V→aA→Prop}{X:bF→Prop}
  (F:aBW f ps body names o fd) (hc:∀x∈names,x.2≠.cell) (hl:∀p∈ps,names.lookup p=some .local) (hn:ps.length=args.length)
  (h:∀L,σ L=none→jC X (upd L .mark σ) (ps.zip (args.map .val)) ⟨n,none,names⟩ (FnQ L Q) body):
  aW Q σ X (n+1) (.ref f) args:=(kE F hc hl hn h).w
theorem aU{σ:aA}{L:Addr}{m:dJ}(h:σ L=none):eZ L (upd L m σ)=σ:=by
 funext b
 unfold eZ upd
 by_cases hb:b=L
 ·subst hb;simp[h]
 ·simp[hb]
theorem cF{σ:aA}{L a:Addr}{m:dJ}(h:a≠L):eZ L (upd a m σ)=upd a m (eZ L σ):=by
 funext b
 unfold eZ upd
 by_cases hb:b=L
 ·subst hb;simp[Ne.symm h]
 ·simp[hb]
theorem bK{σ:aA}{a:Addr}{m m':dJ}:upd a m' (upd a m σ)=upd a m' σ:=by
 funext b
 unfold upd
 by_cases hb:b=a <;> simp[hb]
theorem kC{σ:aA}{a b:Addr}{m m':dJ}(h:a≠b):upd b m' (upd a m σ)=upd a m (upd b m' σ):=by
 funext c
 unfold upd
 by_cases hc:c=b
 ·subst hc;simp[Ne.symm h]
 ·simp[hc]
section
variable{md:Md}{A:Around}{env:Env}{m:Str→Option Value}{loc:aX}{σ σ':aA}{s s':Shared}{X:bF→Prop}
structure AB(σ:aA)(rs:List V)(σ':aA)(s:Shared)(vs:List Value)(s':Shared):Prop where
 rel:bC G.P σ' s'.heap rs vs
 af:cA s σ' s' σ
 sim:iH G.P σ' s'.heap
inductive AQ(σ:aA)(Q:List V→aA→Prop)(s:Shared)(vs:List Value)(s':Shared):Prop
 |mk (rs:List V) (σ':aA) (q:Q rs σ') (b:AB σ rs σ' s vs s')
noncomputable def nW(md:Md)(es:List Expr)(loc:aX)(σ:aA)(Q:List V→aA→Prop)(X:bF→Prop):Prop:=
 ∀pos A env m s,St s σ m env A md loc→wpAny G.M A (spliced (backTo pos (starEach es env))) (AQ σ Q s) (EX σ X s) s
noncomputable def fF:Expr→Bool
 |.Starred ..=>false
 |_=>true
theorem uW{e:Expr}(h:fF e=true)(rest:List Expr)(env:Env):starEach (e::rest) env=(false,eval e env)::starEach rest env:=by
 cases e <;> first|rfl|exact iX h
theorem zV{pos:Pos}:∀{es:List Expr} {env:Env},es.all fF=true→(backTo pos (starEach es env)).any (·.1)=false
 |[],_,_=>rfl
 |e::es,env,h=>by
  rw[List.all_cons,Bool.and_eq_true] at h
  rw[uW h.1]
  show(false||(backTo pos (starEach es env)).any (·.1))=false
  refine rwL (zV h.2) ?_
  rfl
abbrev aNR(v:V)(Q:List V→aA→Prop):List V→aA→Prop:=fun vs σ2=>Q (v::vs) σ2
abbrev aPt(X:bF→Prop)(md:Md)(loc:aX)(es:List Expr)(Q:List V→aA→Prop):V→aA→Prop:=fun v σ1=>nW md es loc σ1 (aNR v Q) X
abbrev aLZ(n:Nat)(f:Value)(Q:V→aA→Prop)(X:bF→Prop):List V→aA→Prop:=fun vs σ1=>aW Q σ1 X n f vs
abbrev IsQ(v0:V)(σ0:aA):V→aA→Prop:=fun v σ1=>v=v0∧σ1=σ0
theorem aE{Q:List V→aA→Prop}(h:Q [] σ):nW md [] loc σ Q X:=fun pos A env m s S=>
 PySem.Calls.spliced_nil ⟨[],σ,h,rfl,.refl ..,S.sim⟩
theorem aC{e:Expr}{es:List Expr}{Q:List V→aA→Prop}(h:cP X σ loc md (aPt X md loc es Q) e)(hn:fF e=true:=by rfl):
  nW md (e::es) loc σ Q X:=fun pos A env m s S=>by
 refine rwL (uW hn _ _) ?_
 refine PySem.Calls.spliced_cons (wpAny_mono (h A env m s S) (fun v s1 q=>?_) fun Z Z e=>e)
 obtain⟨r,σ1,h1,h2,h3,S1⟩:=S.ev q
 refine wpAny_mono (h1 pos A env m s1 S1) (fun vs s2 q2=>?_) fun Z Z e=>e.then h3
 obtain⟨rs,σ2,k1,k2,k3,k4⟩:=q2
 exact⟨r::rs,σ2,k1,.cons (h2.step k3.keep k3.dom) k2,h3.trans k3,k4⟩
noncomputable def lO(f:Value):Prop:=∀h,G.base.StaysIn h→∃k,(k=Keeper.frame∨k=Keeper.machine∨k=Keeper.boundFrame)∧Looks G.M h (keeperOf f) k
theorem aO(i:String):lO (.builtin i):=fun Z Z=>⟨.machine,.inr (.inl rfl),.now⟩
theorem eI(i:String):lO (.type i):=fun Z Z=>⟨.machine,.inr (.inl rfl),.now⟩
theorem aAY{pos:Pos}{f:Value}{es:List Expr}{Qa:Args→Shared→Prop}{E:Value→Shared→Prop}(hn:es.all fF=true)(h:wpAny G.M A (spliced (backTo pos (starEach es env))) (fun vs s'=>Qa ⟨vs,[]⟩ s') E s):
  wpAny G.M A (evalArgs f true (backTo pos (starEach es env)) []) Qa E s:=by
 induction es with
 |nil=>
  unfold evalArgs
  show wpAny G.M A (spliced [] >>= _) Qa E s
  refine wpAny_bind (wpAny_mono h (fun vs s' h'=>?_) fun Z Z x=>x)
  refine wpAny_holding ?_
  exact wpAny_bind (wpAny_pure (wpAny_bind (wpAny_pure (wpAny_pure h'))))
 |cons e es=>
  rw[List.all_cons,Bool.and_eq_true] at hn
  rw[uW hn.1] at h ⊢
  exact PySem.Calls.evalArgs_plain h
theorem zE{pos:Pos}{f:Value}{n:Nat}{first:List Value}{rs:List V}{es:List Expr}{Q:V→aA→Prop}(S:St s σ m env A md loc)(hk:lO f)(hn:es.all fF=true)(hmd:n≤md.n)(hd:md.hd=none)
  (hf:bC G.P σ s.heap rs first) (h:nW md es loc σ (fun vs σ1=>aW Q σ1 X n f (rs++vs)) X):wpAny G.M A (callWith pos f first (backTo pos (starEach es env)) []) (EQ G σ Q s) (EX σ X s) s:=by
 refine callWith_of (P:=fun h=>G.base.StaysIn h) (by rw[zV hn];rfl) (fun h k=>hk h k) (aAY hn (wpAny_mono (h pos A env m s S) (fun vs s1 q=>?_) fun Z Z e=>e))
 obtain⟨us,σ1,k1,k2,k3,k4⟩:=q
 have S1:=S.after k3 k4
 exact⟨S1.frm.stays,wpAny_mono (k1 md A env m loc s1 _ hmd hd S1 ((hf.step k3.keep k3.dom).append k2)) (fun Z Z z=>z.then k3) fun Z Z z=>z.then k3⟩
noncomputable def aFL:V→Option Value
 |.ref a=>some (.ref a)
 |.ty n=>some (.type n)
 |.bi n=>some (.builtin n)
 |_=>none
theorem aI2{P:Params}{h:Heap}{v:V}{w u:Value}(e:aFL v=some w)(r:bW P σ h v u):u=w:=by
 cases v <;> cases e <;> exact r
theorem aDu{x:Str}{px pos:Pos}{es:List Expr}{fv:V}{f:Value}{n:Nat}{Q:V→aA→Prop}(hf:cP X σ loc md (IsQ fv σ) (.Name x px))(ha:aFL fv=some f)(hk:lO f)(hmd:n≤md.n)(hd:md.hd=none)
  (h:nW md es loc σ (aLZ n f Q X) X) (hn:es.all fF=true:=by rfl):cP X σ loc md Q (.Call (.Name x px) es [] pos):=fun A env m s S=>by
 refine Call_ (wpAny_mono (hf A env m s S) (fun v s1 q=>?_) fun Z Z e=>e)
 obtain⟨r,σ1,⟨rfl,rfl⟩,h2,h3,S1⟩:=S.ev q
 obtain rfl:=aI2 ha h2
 exact wpAny_mono (zE S1 hk hn hmd hd (rs:=[]) .nil h) (fun Z Z z=>z.then h3) fun Z Z z=>z.then h3
end
noncomputable def iY:List Str→List V→Str→Option V
 |[]=>fun Z Z=>none
 |k::ks=>fun vs x=>vs.head?.bind fun v=>if k=x then some v else iY ks vs.tail x
noncomputable def lV:List Str→Str→List Str
 |k::ks,x=>if k=x then k::ks else k::lV ks x
 |[],x=>[x]
noncomputable def lP:List Str→List V→Str→V→List V
 |[]=>fun Z Z v=>[v]
 |k::ks=>fun vs x v=>vs.head?.elim [v] fun w=>if k=x then v::vs.tail else w::lP ks vs.tail x v
theorem aJn{k x:Str}{ks:List Str}{w v:V}{vs:List V}:lP (k::ks) (w::vs) x v=if k=x then v::vs else w::lP ks vs x v:=rfl
noncomputable def mG:V→Bool
 |.bi _=>false
 |_=>true
noncomputable def aM0(m:dJ):Option (Addr×Addr):=qA (p:=fun q=>m=.ins q.1 q.2) (if h:m.ctorIdx=1 then dJ.ins.elim m h fun C dx=>some ⟨(C,dx),rfl⟩ else none)
noncomputable def nsM(m:dJ):Option (List Str×List V):=qA (p:=fun q=>m=.ns q.1 q.2) (if h:m.ctorIdx=2 then dJ.ns.elim m h fun C dx=>some ⟨(C,dx),rfl⟩ else none)
noncomputable def aL1(m:dJ):Option (List V):=qA (p:=fun q=>m=.lst q) (if h:m.ctorIdx=0 then dJ.lst.elim m h fun l=>some ⟨l,rfl⟩ else none)
noncomputable def aOC(v:V):Option (Addr×List Str×List V):=qA (p:=fun q=>v=.obj q.1 q.2.1 q.2.2) (if h:v.ctorIdx=8 then V.obj.elim v h fun C ks vs=>some ⟨(C,ks,vs),rfl⟩ else none)
noncomputable def aLm(v:V):Option Addr:=qA (p:=fun q=>v=.ref q) (if h:v.ctorIdx=11 then V.ref.elim v h fun l=>some ⟨l,rfl⟩ else none)
noncomputable def look(σ:aA)(v:V):Option (Addr×List Str×List V):=(aOC v).or ((aLm v).bind fun a=>(σ a).bind fun m=>(aM0 m).bind fun q=>(σ q.2).bind fun n=>(nsM n).map fun r=>(q.1,r.1,r.2))
theorem aM8{σ:aA}{x:V}{q:Addr×List Str×List V}{P:Prop}(h:look σ x=some q)(y:x=.obj q.1 q.2.1 q.2.2→P)(z:∀a dx,x=.ref a→σ a=some (.ins q.1 dx)→σ dx=some (.ns q.2.1 q.2.2)→P):P:=by
 refine orE h (fun h=>y (eE (p:=fun q:Addr×List Str×List V=>x=.obj q.1 q.2.1 q.2.2) h)) fun h=>dQ h fun a ha h=>dQ h fun m hm h=>dQ h fun r hr h=>dQ h fun n hn h=>oE h fun u hu e=>?_
 have e1:m=.ins r.1 r.2:=eE (p:=fun q:Addr×Addr=>m=.ins q.1 q.2) hr
 have e2:n=.ns u.1 u.2:=eE (p:=fun q:List Str×List V=>n=.ns q.1 q.2) hu
 subst e e1 e2
 exact z a r.2 (eE (p:=fun q:Addr=>x=.ref q) ha) hm hn
theorem vA{σ:aA}{a C dx:Addr}{ks:List Str}{vs:List V}(h1:σ a=some (.ins C dx))(h2:σ dx=some (.ns ks vs)):look σ (.ref a)=some (C,ks,vs):=by
 show((σ a).bind fun m=>(aM0 m).bind fun q=>(σ q.2).bind fun n=>(nsM n).map fun r=>(q.1,r.1,r.2))=_
 rw[h1]
 show((σ dx).bind fun n=>(nsM n).map fun r=>(C,r.1,r.2))=_
 rw[h2];rfl
noncomputable def lk(σ:aA)(v:V):V:=((aLm v).bind fun a=>(σ a).bind aL1).elim v .lst
theorem lkE{σ:aA}{x:V}{P:Prop}(y:∀a l,x=.ref a→σ a=some (.lst l)→lk σ x=.lst l→P)(z:lk σ x=x→P):P:=by
 induction h:(aLm x).bind fun a=>(σ a).bind aL1 with
 |none=>exact z (congrArg (fun o:Option (List V)=>o.elim x .lst) h)
 |some l=>exact dQ h fun a ha h2=>dQ h2 fun m hm h3=>y a l (eE (p:=fun q:Addr=>x=.ref q) ha) (hm.trans (congrArg some (eE (p:=fun q:List V=>m=.lst q) h3))) (congrArg (fun o:Option (List V)=>o.elim x .lst) h)
theorem aDH{σ:aA}{b y:V}(h:lk σ b=y)(n:Nat.beq y.ctorIdx 5=false):b=y:=lkE (fun Z l Z Z e=>iX (n.symm.trans (congrArg (fun v:V=>Nat.beq v.ctorIdx 5) (h.symm.trans e)))) fun e=>e.symm.trans h
theorem dA{σ:aA}{a:Addr}{l:List V}(h:σ a=some (.lst l)):lk σ (.ref a)=.lst l:=by
 show((σ a).bind aL1).elim (V.ref a) V.lst=_
 rw[h];rfl
section
variable{P:Params}{σ:aA}{h:Heap}
theorem sG{x:V}{v:Value}(hp:mG x=true)(r:bW P σ h x v):handedIn v=true:=by
 cases x with
 |none=>subst r;rfl
 |bool b=>subst r;rfl
 |int i=>obtain⟨t,rfl⟩:=r;rfl
 |str s=>obtain⟨_,t,rfl⟩:=r;rfl
 |tup l=>obtain⟨a,vs,n,rfl,_⟩:=r;rfl
 |lst l=>obtain⟨a,vs,n,rfl,_⟩:=r;rfl
 |sdc ks vs=>obtain⟨a,vs,n,rfl,_⟩:=r;rfl
 |idc ks vs=>obtain⟨a,vs,n,rfl,_⟩:=r;rfl
 |obj C ns vs=>obtain⟨a,dx,es,n,rfl,_⟩:=r;rfl
 |xc C ks vs=>obtain⟨a,_,_,_,_,rfl,_⟩:=r;rfl
 |rng n=>obtain⟨a,_,_,_,rfl,_⟩:=r;rfl
 |ref a=>subst r;rfl
 |ty n=>subst r;rfl
 |bi n=>exact iX hp
theorem wO{ks:List Str}:∀{vs:List V} {es:List DictEntry} {x:Str} {u:V},lD ks (es.map (·.key))→bC P σ h vs (es.map (·.val))→iY ks vs x=some u→
  ∃e,es.find? (·.key.isStr x)=some e∧bW P σ h u e.val:=by
 induction ks with
 |nil=>intro vs es x u _ _ g;cases vs <;> exact cZ g
 |cons k ks ih=>
  intro vs es x u rk rv g
  cases vs with
  |nil=>exact cZ g
  |cons v vs=>
  obtain⟨t,rest,hk,rk'⟩:=rk
  obtain⟨w,ws,hv,r1,r2⟩:=rv
  cases es with
  |nil=>cases hk
  |cons e es=>
   injection hk with hk1 q2
   injection hv with q3 q4
   subst q2 q3 q4
   replace hk1:e.key=.str k t:=hk1
   refine rwL (List.find?_cons) ?_
   refine rwL hk1 ?_
   by_cases hkx:k=x
   ·replace g:=(show iY (k::ks) (v::vs) x=some v from if_pos hkx)▸g
    obtain rfl:=bE g
    subst hkx
    refine rwL (show(Value.str k t).isStr k=true by simp[Value.isStr]) ?_
    exact⟨e,rfl,r1⟩
   ·replace g:=(show iY (k::ks) (v::vs) x=iY ks vs x from if_neg hkx)▸g
    refine rwL (show(Value.str k t).isStr x=false by simp[Value.isStr,hkx]) ?_
    exact ih rk' r2 g
inductive aOQ(P:Params)(σ:aA)(h:Heap)(l:List V)(v:Value):Prop|mk (a:Addr) (vs:Array Value) (n:Nat) (e:v=.ref a) (g:h.get? a=some (fL vs n)) (r:bC P σ h l vs.toList)
theorem aAG{x:V}{v:Value}{C:Addr}{ks:List Str}{vs:List V}(sim:iH P σ h)(r:bW P σ h x v)(l:look σ x=some (C,ks,vs)){R:Prop}
  (k:∀a dx es n,v=.ref a→h.get? a=some (instObj C dx)→h.get? dx=some (fX es n)→lD ks (es.toList.map (·.key))→bC P σ h vs (es.toList.map (·.val))→R):R:=by
 refine aM8 l (fun e=>?_) fun a dx e h1 h2=>?_
 ·subst e
  obtain⟨a,dx,es,n,e,_,_,h1,h2,h3,h4⟩:=r
  exact k a dx es n e h1 h2 h3 h4
 ·subst e
  obtain⟨o,ho,e⟩:=sim a _ h1
  obtain⟨o',ho',es,n,e',h3,h4⟩:=sim dx _ h2
  exact k a dx es n r (ho.trans (congrArg some e)) (ho'.trans (congrArg some e')) h3 h4
theorem hM{x:V}{v:Value}{l:List V}(sim:iH P σ h)(r:bW P σ h x v)(e:lk σ x=.lst l):aOQ P σ h l v:=by
 refine lkE (σ:=σ) (x:=x) (fun a l' ex hs e'=>?_) fun e'=>?_
 ·subst ex
  cases e.symm.trans e'
  obtain⟨o,ho,vs,n,q,h2⟩:=sim a _ hs
  exact⟨a,vs,n,r,ho.trans (congrArg some q),h2⟩
 ·obtain⟨a,vs,n,q,_,h1,h2⟩:=(e'.symm.trans e)▸r
  exact⟨a,vs,n,q,h1,h2⟩
end
section
variable{md:Md}{A:Around}{env:Env}{m:Str→Option Value}{loc:aX}{σ σ':aA}{s s':Shared}{X:bF→Prop}
set_option tactic.hygienic true in
theorem aGs{x:V}{v:Value}{C:Addr}{ks own:List Str}{vs:List V}{name:Str}{u:V}{expr:Bool}{Qv:Value→Shared→Prop}{E:Value→Shared→Prop}(ok:G.Ok)(hb:G.base.StaysIn s.heap)(sim:iH G.P σ s.heap)
  (r:bW G.P σ s.heap x v) (l:look σ x=some (C,ks,vs)) (hc:G.cls.lookup C=some own) (hm:own.contains name=true) (hg:iY ks vs name=some u) (hp:mG u=true)
  (h:∀w,bW G.P σ s.heap u w→Qv w {s with toks:=s.toks+1}):wpAny G.M A (getAttr v name expr) Qv E s:=by
 refine aAG sim r l fun a dx es n e h1 h2 h3 h4=>?_
 subst e
 obtain⟨K,hK,hcl⟩:=ok.cls C own hc
 simp only[aDK,Bool.and_eq_true,List.all_eq_true] at hcl
 obtain⟨⟨⟨⟨c1,c2⟩,c3⟩,c4⟩,c5⟩:=hcl
 obtain⟨c6,c7⟩:=c5 name (List.contains_iff_mem.mp hm)
 obtain⟨e,he,hr⟩:=wO h3 h4 hg
 have hne:∃attr,findIn K (.ref C) name=some attr∧noGet K attr=true:=by
  split at c6
  ·rename_i attr ha;exact⟨attr,ha,c6⟩
  ·exact iX c6
 obtain⟨attr,ha,hng⟩:=hne
 refine get_value (od:=some (fX es n)) (v:=e.val) (hK.keeps hb) ⟨h1,rfl,rfl,h2⟩ (plainGet_of (name:="") c2).1 (findObj_own c1 ha hng ?_) (sG hp hr) (h _ hr)
 show lookIn name (fX es n)=_
 unfold lookIn
 dsimp only
 rw[he]
inductive aNz(name:Str)(Q:V→aA→Prop)(x:V)(σ1:aA):Prop|mk (C:Addr) (ks:List Str) (vs:List V) (own:List Str) (u:V) (h1:look σ1 x=some (C,ks,vs)) (h2:G.cls.lookup C=some own) (h3:own.contains name=true) (h4:iY ks vs name=some u) (h5:mG u=true) (q:Q u σ1)
theorem lU{e:Expr}{name:Str}{pos:Pos}{Q:V→aA→Prop}(h:cP X σ loc md (aNz name Q) e)
  (he:∀env,eval (.Attribute e name pos) env=(do
   let o ←eval e env
   standAt pos.atName
   let r ←holding [o] (getAttr o name true)
   letTemporaryGo e o r
   pure r):=by intro _;with_unfolding_all rfl):cP X σ loc md Q (.Attribute e name pos):=fun A env m s S=>by
 refine Attribute_any_ (wpAny_mono (h A env m s S) (fun v s1 q=>?_) fun Z Z z=>z) (he env)
 obtain⟨x,σ1,⟨C,ks,vs,own,u,l1,l2,l3,l4,l5,l6⟩,h2,h3,S1⟩:=S.ev q
 exact aGs S1.frm.ok S1.frm.stays S1.sim h2 l1 l2 l3 l4 l5 fun w hw=>⟨u,σ1,l6,hw,h3.trans (.tok ..),S1.sim⟩
theorem oP{a:Addr}{mo mo':dJ}{o':Obj}{h':Heap}{tk:Nat}(sim:iH G.P σ s.heap)(ha:σ a=some mo)(hm:mo≠.mark)(hc:∀v,mo=.cell v→∃v',mo'=.cell v')(hs:Heap.SameBut a s.heap h')(ho:h'.get? a=some o')(c:rU G.P σ s.heap mo' o'):
  cA s (upd a mo' σ) {s with heap:=h',toks:=tk} σ∧iH G.P (upd a mo' σ) h':=by
 have kR:∀b o,s.heap.get? b=some o→σ b=none→h'.get? b=some o∧upd a mo' σ b=none:=fun b o e z=>by
  have hb:b≠a:=by rintro rfl;rw[ha] at z;exact cZ (Eq.symm z)
  exact⟨(hs.2 b hb).trans e,(aR σ _ hb).trans z⟩
 refine⟨⟨⟨_,_,rfl⟩,fun b o e=>⟨fun z=>(kR b o e z).1,fun z=>?_⟩,fun b o e=>⟨fun z=>(kR b o e z).2,fun z=>?_,fun v z=>?_⟩,fun b o e=>?_⟩,fun b mb e=>?_⟩
 ·have hb:b≠a:=by rintro rfl;rw[ha] at z;obtain rfl:=bE z;exact hm rfl
  exact⟨o,(hs.2 b hb).trans e,.refl o⟩
 ·have hb:b≠a:=by rintro rfl;rw[ha] at z;obtain rfl:=bE z;exact hm rfl
  exact(aR σ _ hb).trans z
 ·by_cases hb:b=a
  ·subst hb
   replace z:=ha▸z
   obtain rfl:=bE z
   obtain⟨v',rfl⟩:=hc v rfl
   exact⟨v',aI ..⟩
  ·exact⟨v,(aR σ _ hb).trans z⟩
 ·by_cases hb:b=a
  ·subst hb;exact⟨o',ho⟩
  ·exact⟨o,(hs.2 b hb).trans e⟩
 ·by_cases hb:b=a
  ·subst hb
   replace e:=(aI _ _ _)▸e
   obtain rfl:=bE e
   exact⟨o',ho,c.mono kR⟩
  ·replace e:=(aR σ _ hb)▸e
   obtain⟨o,h1,h2⟩:=sim b mb e
   exact⟨o,(hs.2 b hb).trans h1,h2.mono kR⟩
theorem aBF{a:Addr}{es:List DictEntry}{n:Nat}{name:Str}{v:Value}{Qu:Unit→Shared→Prop}{E:Value→Shared→Prop}(ho:s.heap.get? a=some (dictOf es n))(hk:∀e∈es,∃x t,e.key=.str x t)
  (h:Qu () {s with heap:=s.heap.update a (Obj.putName name (PyData.keyHash G.P name) (.str name s.toks) v),toks:=s.toks+1}):wpAny G.M A (nsSet a name v) Qu E s:=by
 unfold nsSet
 refine wpAny_bind (wpAny_bind (wpAny_askSetting (wpAny_pure (wpAny_bind (wpAny_mkText (wpAny_bind (wpAny_loadPart ho ?_)))))))
 dsimp only
 have hr:es.toArray.any (·.refKey)=false:=by
  rw[List.any_toArray,List.any_eq_false]
  intro e he
  obtain⟨x,t,hx⟩:=hk e he
  simp[DictEntry.refKey,hx]
 refine rwL (aRefKeyMayBeTheName_at _ _) ?_
 refine rwL hr ?_
 refine rwL (Bool.and_false _) ?_
 exact wpAny_updatePart ho h
theorem vC:∀{ks:List Str} {es:List DictEntry},lD ks (es.map (·.key))→∀e∈es,∃x t,e.key=.str x t
 |[],es,r,e,he=>by
  induction es with
  |nil=>cases he
  |cons _ _=>cases r
 |k::ks,es,r,e,he=>by
  obtain⟨t,rest,hk,r'⟩:=r
  induction es with
  |nil=>cases he
  |cons e0 es=>
   simp only[List.map_cons,List.cons.injEq] at hk
   obtain⟨h1,rfl⟩:=hk
   rcases eM he with rfl|he
   ·exact⟨k,t,h1⟩
   ·exact vC r' e he
theorem aIV{P:Params}{h:Heap}{name:Str}{hsh:Int}{t:Tok}{v:Value}{ks:List Str}:∀{es:List DictEntry},lD ks (es.map (·.key))→lD (lV ks name) ((putL name hsh (.str name t) v es).map (·.key)):=by
 induction ks with
 |nil=>
  intro es r
  induction es with
  |nil=>exact⟨t,[],rfl,rfl⟩
  |cons _ _=>cases r
 |cons k ks ih=>
  intro es r
  obtain⟨u,rest,hk,r'⟩:=r
  induction es with
  |nil=>cases hk
  |cons e0 es=>
   injection hk with h1 h2
   subst h2
   replace h1:e0.key=.str k u:=h1
   unfold lV putL
   refine rwL h1 ?_
   by_cases hkx:k=name
   ·subst hkx
    refine rwL (if_pos rfl) ?_
    refine rwL (if_pos (by simp[Value.isStr])) ?_
    exact⟨u,es.map (·.key),by exact List.map_cons,r'⟩
   ·refine rwL (if_neg hkx) ?_
    refine rwL (if_neg (by simp[Value.isStr,hkx])) ?_
    exact⟨u,_,by exact rwL List.map_cons (rwL h1 rfl),ih r'⟩
theorem aJo{P:Params}{h:Heap}{name:Str}{hsh:Int}{t:Tok}{x:V}{v:Value}(rv:bW P σ h x v){ks:List Str}:∀{vs:List V} {es:List DictEntry},lD ks (es.map (·.key))→bC P σ h vs (es.map (·.val))→
  bC P σ h (lP ks vs name x) ((putL name hsh (.str name t) v es).map (·.val)):=by
 induction ks with
 |nil=>
  intro vs es r q
  cases es with
  |nil=>cases vs <;> exact⟨v,[],rfl,rv,rfl⟩
  |cons _ _=>cases r
 |cons k ks ih=>
  intro vs es r q
  obtain⟨u,rest,hk,r'⟩:=r
  cases es with
  |nil=>cases hk
  |cons e0 es=>
   injection hk with h1 h2
   subst h2
   replace h1:e0.key=.str k u:=h1
   cases vs with
   |nil=>cases q
   |cons y vs=>
    obtain⟨w,ws,hv,r1,r2⟩:=q
    injection hv with q1 q2
    subst q1 q2
    unfold putL
    refine rwL aJn ?_
    refine rwL h1 ?_
    by_cases hkx:k=name
    ·subst hkx
     refine rwL (if_pos rfl) ?_
     refine rwL (if_pos (by simp[Value.isStr])) ?_
     exact⟨v,es.map (·.val),rfl,rv,r2⟩
    ·refine rwL (if_neg hkx) ?_
     refine rwL (if_neg (by simp[Value.isStr,hkx])) ?_
     exact⟨e0.val,_,rfl,r1,ih r' r2⟩
theorem yC{name:Str}{hsh:Int}{k v:Value}:∀es:List DictEntry,(putL name hsh k v es).length≤es.length+1
 |[]=>by simp[putL]
 |e::es=>by
  unfold putL
  refine iteD (fun h=>?_) fun h=>?_
  ·simp
  ·simp only[eX];have:=yC (name:=name) (hsh:=hsh) (k:=k) (v:=v) es;exact fM ‹_›
theorem rE:∀{ks:List Str} {l:List Value},lD ks l→l.length=ks.length
 |[],_,e=>by subst e;rfl
 |_::_,_,e=>by obtain⟨t,vs,rfl,h2⟩:=e;simp[rE h2]
theorem aDo{dx:Addr}{ks:List Str}{vs:List V}{name:Str}{u:V}{w:Value}{Qu:Unit→Shared→Prop}{E:Value→Shared→Prop}(t:Nat)(sim:iH G.P σ s.heap)(hd:σ dx=some (.ns ks vs))(hz:ks.length≤900)(hr:bW G.P σ s.heap u w)
  (h:∀h' es n tk,h'.get? dx=some (dictOf es n)→es.toArray.size≤sizeLine+1→cA s (upd dx (.ns (lV ks name) (lP ks vs name u)) σ) {s with heap:=h',toks:=tk} σ→iH G.P (upd dx (.ns (lV ks name) (lP ks vs name u)) σ) h'→Qu () {s with heap:=h',toks:=tk}):
  wpAny G.M A (nsSet dx name w) Qu E {s with toks:=t}:=by
 obtain⟨od,h2,es,n,q,h3,h4⟩:=sim dx _ hd
 have h2':s.heap.get? dx=some (dictOf es.toList n):=h2.trans (congrArg some q)
 refine aBF (s:={s with toks:=t}) h2' (vC h3) ?_
 have hput:=putName_dict name (PyData.keyHash G.P name) (.str name t) w es.toList n
 have hnew:(s.heap.update dx (Obj.putName name (PyData.keyHash G.P name) (.str name t) w)).get? dx=some (dictOf (putL name (PyData.keyHash G.P name) (.str name t) w es.toList) (putN name es.toList n)):=(Heap.get?_update_self _ h2' (congrArg Obj.isFreed hput)).trans (congrArg some hput)
 obtain⟨k1,k2⟩:=oP (tk:=t+1) sim hd nofun (fun Z=>nofun) (Heap.SameBut.update ..) hnew (mo':=.ns (lV ks name) (lP ks vs name u)) ⟨_,_,rfl,aIV (P:=G.P) (h:=s.heap) h3,aJo hr h3 h4⟩
 have hl:es.toList.length=ks.length:=(bS ..).symm.trans (rE h3)
 have:=yC (name:=name) (hsh:=PyData.keyHash G.P name) (k:=.str name t) (v:=w) es.toList
 exact h _ _ _ _ hnew (by exact rwL List.size_toArray (rwL sizeLine_eq (aM this (fM (aM (dH hl) (aM hz (aD rfl))))))) k1 k2
theorem aHl{C a dx:Addr}{ks own:List Str}{vs:List V}{name:Str}{u:V}{w:Value}{Qu:Unit→Shared→Prop}{E:Value→Shared→Prop}(ok:G.Ok)(hb:G.base.StaysIn s.heap)(sim:iH G.P σ s.heap)
  (ha:σ a=some (.ins C dx)) (hd:σ dx=some (.ns ks vs)) (hc:G.cls.lookup C=some own) (hm:own.contains name=true) (hz:ks.length≤900) (hr:bW G.P σ s.heap u w)
  (h:∀s',cA s (upd dx (.ns (lV ks name) (lP ks vs name u)) σ) s' σ→iH G.P (upd dx (.ns (lV ks name) (lP ks vs name u)) σ) s'.heap→Qu () s'):wpAny G.M A (setAttr (.ref a) name w) Qu E s:=by
 obtain⟨oa,h1,rfl⟩:=sim a _ ha
 obtain⟨od,h2,es,n,rfl,h3,h4⟩:=sim dx _ hd
 obtain⟨K,hK,hcl⟩:=ok.cls C own hc
 simp only[aDK,Bool.and_eq_true,List.all_eq_true] at hcl
 obtain⟨⟨⟨⟨c1,c2⟩,c3⟩,c4⟩,c5⟩:=hcl
 obtain⟨c6,c7⟩:=c5 name (List.contains_iff_mem.mp hm)
 have X:=hK.keeps hb
 have I:InstAt s.heap a (instObj C dx) C (some (fX es n)):=⟨h1,rfl,rfl,h2⟩
 refine set_plain X I (cJ c4) ?_
 refine osa_open (s:={s with toks:=s.toks+1}) X I c3 (cJ c7) fun b=>?_
 obtain⟨cd,hcd,hdd⟩:=any_some c1
 refine wpAny_bind (wpAny_pure (wpAny_bind (wpAny_bind (wpAny_loadPart h1 (wpAny_bind ((looks_clsIn (h:=s.heap) X hcd) _ _ _ _ (fun Z Z e=>e) ?_))))))
 rw[hdd]
 exact wpAny_pure (a:=some dx) (wpAny_bind (wpAny_pure (wpAny_bind (aDo _ sim hd hz hr fun h' es n tk hn hl k1 k2=>wpAny_bind (wpAny_lookBehind (s:={s with heap:=h',toks:=tk}) hn (pastItsLine_dict hl) (wpAny_pure (h _ k1 k2)))))))
inductive aOu(name:Str)(loc:aX)(Q:gA→aX→aA→Prop)(u x:V)(σ2:aA):Prop|mk (a C dx:Addr) (ks:List Str) (vs:List V) (own:List Str) (h1:x=.ref a) (h2:σ2 a=some (.ins C dx)) (h3:σ2 dx=some (.ns ks vs)) (h4:G.cls.lookup C=some own) (h5:own.contains name=true) (h6:ks.length≤900)
   (q:Q .next loc (upd dx (.ns (lV ks name) (lP ks vs name u)) σ2))
abbrev aPc(md:Md)(o:Expr)(name:Str)(loc:aX)(Q:gA→aX→aA→Prop)(X:bF→Prop):V→aA→Prop:=fun u σ1=>cP X σ1 loc md (aOu name loc Q u) o
theorem aCW{o e:Expr}{name:Str}{tp pos:Pos}{Q:gA→aX→aA→Prop}
  (h:cP X σ loc md (aPc md o name loc Q X) e) (hn:gN e=true:=by rfl):sY md (.Assign [.Attribute o name tp] e pos) loc σ Q X:=fun A env m s S=>by
 refine plainObj_wpAny_Assign_Attribute (wpAny_mono (h A env m s S) (fun w s1 q=>?_) fun Z Z z=>z.sx S) (hO hn ..)
 obtain⟨u,σ1,h1,h2,h3,S1⟩:=S.ev q
 refine wpAny_mono (h1 A env m s1 S1) (fun v s2 q=>?_) fun Z Z z=>(z.sx S1).then (h3.l _)
 obtain⟨x,σ2,⟨a,C,dx,ks,vs,own,rfl,k2,k3,k4,k5,k6,k7⟩,j2,j3,S2⟩:=S1.ev q
 subst j2
 refine aHl S2.frm.ok S2.frm.stays S2.sim k2 k3 k4 k5 k6 (h2.step j3.keep j3.dom) fun s3 a3 sim3=>?_
 have S3:=S2.after a3 sim3
 exact⟨.next,loc,_,m,k7,rfl,((h3.trans j3).trans a3).l _,S3.ns,S3.sim,S3.loc⟩
noncomputable def rD:List Int→List V→Int→Option V
 |k::ks,v::vs,x=>if k=x then some v else rD ks vs x
 |_,_,_=>none
theorem KS.keys{P:Params}{ks:List Str}:∀{es:List DictEntry},KS P ks es→∀e∈es,∃k t,e.key=.str k t∧e.hash=PyData.keyHash P k∧xW k:=by
 induction ks with
 |nil=>intro es h e he;subst h;cases he
 |cons k ks ih=>
  intro es h e he
  obtain⟨e0,es,t,rfl,h1,h2,hf,h3⟩:=h
  rcases eM he with rfl|he
  ·exact⟨k,t,h1,h2,hf⟩
  ·exact ih h3 e he
theorem KI.keys:∀{ks:List Int} {es:List DictEntry},KI ks es→∀e∈es,∃k t,e.key=.int k t∧e.hash=hashInt k
 |[],_,h,e,he=>by subst h;cases he
 |k::ks,_,h,e,he=>by
  obtain⟨e0,es,t,rfl,h1,h2,h3⟩:=h
  rcases eM he with rfl|he
  ·exact⟨k,t,h1,h2⟩
  ·exact KI.keys h3 e he
theorem KS.find{P:Params}{σ:aA}{h:Heap}(x:Str){ks:List Str}:∀{vs:List V} {es:List DictEntry},KS P ks es→bC P σ h vs (es.map (·.val))→
  match iY ks vs x with
  |some u=>∃v,(es.find? fun e=>Value.isStrOf x e.key).map (·.val)=some v∧bW P σ h u v
  |none=>(es.find? fun e=>Value.isStrOf x e.key).map (·.val)=none:=by
 induction ks with
 |nil=>intro vs es hk hv;subst hk;cases vs <;> exact rfl
 |cons k ks ih=>
  intro vs es hk hv
  obtain⟨e,es,t,rfl,h1,h2,_,h3⟩:=hk
  induction vs with
  |nil=>cases hv
  |cons u vs=>
   obtain⟨w,ws,hw,r1,r2⟩:=hv
   injection hw with q1 q2
   subst q1 q2
   refine rwL (List.find?_cons) ?_
   refine rwL h1 ?_
   by_cases hx:k=x
   ·subst hx
    refine rwL (show iY (k::ks) (u::vs) k=some u from if_pos rfl) ?_
    refine rwL (show Value.isStrOf k (.str k t)=true by simp[Value.isStrOf]) ?_
    exact⟨_,rfl,r1⟩
   ·refine rwL (show iY (k::ks) (u::vs) x=iY ks vs x from if_neg hx) ?_
    refine rwL (show Value.isStrOf x (.str k t)=false by simpa [Value.isStrOf] using fun q=>hx q) ?_
    exact ih h3 r2
theorem KI.find{P:Params}{σ:aA}{h:Heap}(x:Int){ks:List Int}:∀{vs:List V} {es:List DictEntry},KI ks es→bC P σ h vs (es.map (·.val))→
  match rD ks vs x with
  |some u=>∃v,(es.find? fun e=>Value.isInt x e.key).map (·.val)=some v∧bW P σ h u v
  |none=>(es.find? fun e=>Value.isInt x e.key).map (·.val)=none:=by
 induction ks with
 |nil=>intro vs es hk hv;subst hk;cases vs <;> exact rfl
 |cons k ks ih=>
  intro vs es hk hv
  obtain⟨e,es,t,rfl,h1,h2,h3⟩:=hk
  induction vs with
  |nil=>cases hv
  |cons u vs=>
   obtain⟨w,ws,hw,r1,r2⟩:=hv
   injection hw with q1 q2
   subst q1 q2
   refine rwL (List.find?_cons) ?_
   refine rwL h1 ?_
   by_cases hx:k=x
   ·subst hx
    refine rwL (show rD (k::ks) (u::vs) k=some u from if_pos rfl) ?_
    refine rwL (show Value.isInt k (.int k t)=true by simp[Value.isInt]) ?_
    exact⟨_,rfl,r1⟩
   ·refine rwL (show rD (k::ks) (u::vs) x=rD ks vs x from if_neg hx) ?_
    refine rwL (show Value.isInt x (.int k t)=false by simpa [Value.isInt] using fun q=>hx q) ?_
    exact ih h3 r2
theorem aEj{ks:List Str}{vs:List V}{v:Value}(r:bW G.P σ s.heap (.sdc ks vs) v):∃a f,v=.ref a∧(a==sysModules)=false∧s.heap.MapOf (PySem.strKind G.prog G.w) a f∧∀x,match iY ks vs x with
  |some u=>∃v,f x=some v∧bW G.P σ s.heap u v
  |none=>f x=none:=by
 obtain⟨a,es,n,rfl,⟨hs,hy⟩,ho,hk,hv⟩:=r
 refine⟨a,_,rfl,hy,⟨_,es,n,ho,⟨rfl,rfl,rfl⟩,rfl,fun e he=>?_,fun Z=>rfl⟩,fun x=>?_⟩
 ·obtain⟨k,t,h1,h2,_⟩:=hk.keys e (Array.mem_toList_iff.mpr he)
  exact⟨k,by rw[h1];simp[PySem.strKind,Value.isStrOf],h2⟩
 ·have:=hk.find x hv
  unfold findBy
  refine rwR (Array.find?_toList) ?_
  exact this
theorem aDC{ks:List Int}{vs:List V}{v:Value}(r:bW G.P σ s.heap (.idc ks vs) v):∃a f,v=.ref a∧(a==sysModules)=false∧s.heap.MapOf (intKind G.prog G.w) a f∧∀x,match rD ks vs x with
  |some u=>∃v,f x=some v∧bW G.P σ s.heap u v
  |none=>f x=none:=by
 obtain⟨a,es,n,rfl,⟨hs,hy⟩,ho,hk,hv⟩:=r
 refine⟨a,_,rfl,hy,⟨_,es,n,ho,⟨rfl,rfl,rfl⟩,rfl,fun e he=>?_,fun Z=>rfl⟩,fun x=>?_⟩
 ·obtain⟨k,t,h1,h2⟩:=hk.keys e (Array.mem_toList_iff.mpr he)
  exact⟨k,by rw[h1];simp[intKind,Value.isInt],h2⟩
 ·have:=hk.find x hv
  unfold findBy
  refine rwR (Array.find?_toList) ?_
  exact this
end
mutual
noncomputable def aCt:V→Option PyData
 |.none=>some .none
 |.bool b=>some (.bool b)
 |.int i=>some (.int i)
 |.str s=>some (.str s)
 |.tup l=>(pK l).map .tuple
 |.lst l=>(pK l).map .list
 |_=>none
noncomputable def pK:List V→Option (List PyData)
 |[]=>some []
 |x::xs=>(aCt x).bind fun d=>(pK xs).map (d::·)
end
theorem aAF{x:V}{xs:List V}:pK (x::xs)=(aCt x).bind fun d=>(pK xs).map (d::·):=rfl
theorem aGn{l:List V}:aCt (.tup l)=(pK l).map .tuple:=rfl
mutual
theorem aA4{P:Params}{σ:aA}{h:Heap}:∀{x:V} {v:Value} {d:PyData},bW P σ h x v→aCt x=some d→∃as,Reads h v d as∧PyData.canLay0 d=true
 |.none,_,_,r,e=>by subst r;obtain rfl:=bE e;exact⟨_,.none,rfl⟩
 |.bool b,_,_,r,e=>by subst r;obtain rfl:=bE e;exact⟨_,.bool b,rfl⟩
 |.int i,_,_,r,e=>by obtain⟨t,rfl⟩:=r;obtain rfl:=bE e;exact⟨_,.int i t,rfl⟩
 |.str s,_,_,r,e=>by obtain⟨hf,t,rfl⟩:=r;obtain rfl:=bE e;exact⟨_,.str s t,hf.1⟩
 |.tup l,_,_,r,e=>by
  obtain⟨a,vs,n,rfl,_,ho,hr⟩:=r
  obtain⟨ds,hds,rfl⟩:=iJ e
  obtain⟨as,ra,hl⟩:=mA hr hds
  exact⟨_,.tuple ho rfl rfl ra,hl⟩
 |.lst l,_,_,r,e=>by
  obtain⟨a,vs,n,rfl,_,ho,hr⟩:=r
  obtain⟨ds,hds,rfl⟩:=iJ e
  obtain⟨as,ra,hl⟩:=mA hr hds
  exact⟨_,.list ho rfl rfl ra,hl⟩
 |.sdc ..,_,_,_,e=>by exact cZ e
 |.idc ..,_,_,_,e=>by exact cZ e
 |.obj ..,_,_,_,e=>by exact cZ e
 |.xc ..,_,_,_,e=>by exact cZ e
 |.rng _,_,_,_,e=>by exact cZ e
 |.ref _,_,_,_,e=>by exact cZ e
 |.ty _,_,_,_,e=>by exact cZ e
 |.bi _,_,_,_,e=>by exact cZ e
theorem mA{P:Params}{σ:aA}{h:Heap}:∀{l:List V} {vs:List Value} {ds:List PyData},bC P σ h l vs→pK l=some ds→∃as,ReadsAll h vs ds as∧PyData.canLayAll0 ds=true
 |[],_,_,r,e=>by subst r;obtain rfl:=bE e;exact⟨_,.nil,rfl⟩
 |x::xs,_,_,r,e=>by
  obtain⟨v,vs,rfl,r1,r2⟩:=r
  obtain⟨d,h1,e⟩:=Option.bind_eq_some_iff.mp (aAF.symm.trans e)
  obtain⟨ds,h2,rfl⟩:=iJ e
  obtain⟨as,ra,l1⟩:=aA4 r1 h1
  obtain⟨bs,rb,l2⟩:=mA r2 h2
  exact⟨_,.cons ra rb,by rw[PyData.canLayAll0,l1,l2];rfl⟩
end
theorem aKF{σ:aA}{x:V}(hl:¬∃l,lk σ x=.lst l):lk σ x=x:=lkE (fun Z l Z Z e=>absurd ⟨l,e⟩ hl) id
noncomputable def aB1(σ:aA)(x:V):Option PyData:=aCt (lk σ x)
theorem zH{P:Params}{σ:aA}{h:Heap}{x:V}{v:Value}{d:PyData}(sim:iH P σ h)(r:bW P σ h x v)(e:aB1 σ x=some d):∃as,Reads h v d as∧PyData.canLay0 d=true:=by
 refine lkE (σ:=σ) (x:=x) (fun a l Z Z hl=>?_) fun hl=>aA4 r ((congrArg aCt hl).symm.trans e)
 obtain⟨a,vs,n,rfl,ho,hr⟩:=hM sim r hl
 refine oE ((congrArg aCt hl).symm.trans e) fun ds hds q=>?_
 subst q
 obtain⟨as,ra,hc⟩:=mA hr hds
 exact⟨_,.list ho rfl rfl ra,hc⟩
noncomputable def eqV(σ:aA)(a b:V):Option Bool:=(aB1 σ a).bind fun x=>(aB1 σ b).bind fun y=>if x.depth≤64∧y.depth≤64 then some (PyData.eqv x y) else none
noncomputable def fR:List V→Option (List Str)
 |[]=>some []
 |y::l=>(mU y).bind fun s=>(fR l).map (s::·)
noncomputable def aLK(a:V)(l:List V):Option Bool:=(mU a).bind fun x=>(fR l).map fun ss=>ss.any (·==x)
noncomputable def inW(a:V):V→Option Bool
 |.lst l=>aLK a l
 |.tup l=>aLK a l
 |.sdc ks vs=>(mU a).map fun x=>(iY ks vs x).isSome
 |.idc ks vs=>(vG a).map fun x=>(rD ks vs x).isSome
 |.str y=>(mU a).map fun x=> !(Builtin.Str.occurrences y x 0 y.length 1).isEmpty
 |_=>none
noncomputable def inV(σ:aA)(a b:V):Option Bool:=inW a (lk σ b)
noncomputable def jB:V→Bool
 |.none=>true
 |_=>false
theorem zU{P:Params}{σ:aA}{h:Heap}{a:V}{va:Value}(ra:bW P σ h a va):(va==Value.none)=jB a:=by
 cases a with
 |none=>subst ra;rfl
 |bool _=>subst ra;rfl
 |int _=>obtain⟨t,rfl⟩:=ra;rfl
 |str _=>obtain⟨_,t,rfl⟩:=ra;rfl
 |tup _=>obtain⟨_,_,_,rfl,_⟩:=ra;rfl
 |lst _=>obtain⟨_,_,_,rfl,_⟩:=ra;rfl
 |sdc _ _=>obtain⟨_,_,_,rfl,_⟩:=ra;rfl
 |idc _ _=>obtain⟨_,_,_,rfl,_⟩:=ra;rfl
 |obj _ _ _=>obtain⟨_,_,_,_,rfl,_⟩:=ra;rfl
 |xc _ _ _=>obtain⟨_,_,_,_,_,rfl,_⟩:=ra;rfl
 |rng _=>obtain⟨_,_,_,_,rfl,_⟩:=ra;rfl
 |ref _=>subst ra;rfl
 |ty _=>subst ra;rfl
 |bi _=>subst ra;rfl
noncomputable def aHt(f:Int→Int→Bool)(a b:V):Option Bool:=(vG a).bind fun i=>(vG b).map (f i)
noncomputable def leS(a b:Str):Bool:= !decide (b.cps.toList<a.cps.toList)
noncomputable def leV(a b:V):Option Bool:=match mU a with
 |some x=>(mU b).map (leS x)
 |none=>aHt (fun i j=>decide (i≤j)) a b
noncomputable def aBa(σ:aA):CmpOp→V→V→Option Bool
 |.Eq,a,b=>eqV σ a b
 |.NotEq,a,b=>(eqV σ a b).map (!·)
 |.Lt,a,b=>aHt (fun i j=>decide (i<j)) a b
 |.LtE,a,b=>leV a b
 |.Gt,a,b=>aHt (fun i j=>decide (j<i)) a b
 |.GtE,a,b=>aHt (fun i j=>decide (j≤i)) a b
 |.Is,a,b=>if jB b=true then some (jB a) else none
 |.IsNot,a,b=>if jB b=true then some (!jB a) else none
 |.In,a,b=>inV σ a b
 |.NotIn,a,b=>(inV σ a b).map (!·)
theorem aIK{f:Int→Int→Bool}{a b:V}{r:Bool}{P:Prop}(e:aHt f a b=some r)(k:∀i j,a=.int i→b=.int j→f i j=r→P):P:=
 dQ e fun i h1 e=>oE e fun j h3=>k i j (pC h1) (pC h3)
theorem yX{b:V}(h:jB b=true):b=.none:=by cases b <;> first|rfl|exact iX h
theorem pW{y:V}{l:List V}{ss:List Str}(h:fR (y::l)=some ss):∃s r,y=.str s∧fR l=some r∧ss=s::r:=by
 refine dQ h fun s h1 h2=>?_
 refine oE h2 fun r h3 h4=>?_
 exact⟨s,r,lL h1,h3,h4.symm⟩
theorem wU{P:Params}{σ:aA}{h:Heap}{l:List V}:∀{vs:List Value} {ss:List Str},bC P σ h l vs→fR l=some ss→(∀v∈vs,∃s t,v=.str s t)∧∀x:Str,vs.any (fun v=>v.isStr x)=ss.any (·==x):=by
 induction l with
 |nil=>intro vs ss r e;subst r;obtain rfl:=bE e;exact⟨fun Z h=>(nomatch h),fun Z=>rfl⟩
 |cons y l ih=>
  intro vs ss r e
  obtain⟨v,vs,rfl,r1,r2⟩:=r
  obtain⟨s,ss,rfl,hs,rfl⟩:=pW e
  obtain⟨hf,t,rfl⟩:=r1
  obtain⟨h1,h2⟩:=ih r2 hs
  refine⟨fun v hv=>?_,fun x=>?_⟩
  ·rcases eM hv with rfl|hv
   ·exact⟨s,t,rfl⟩
   ·exact h1 v hv
  ·refine rwL List.any_cons ?_
   refine rwL List.any_cons ?_
   refine rwL (h2 x) ?_
   rfl
section
variable{md:Md}{A:Around}{env:Env}{m:Str→Option Value}{loc:aX}{σ σ':aA}{s s':Shared}{X:bF→Prop}
theorem mS(S:St s σ m env A md loc):A.units+200≤cLine:=aM (eP (eL _ _) _) S.frm.units
theorem aBm{a b:V}{va vb:Value}{r:Bool}(sim:iH G.P σ s.heap)(ra:bW G.P σ s.heap a va)(rb:bW G.P σ s.heap b vb)(e:eqV σ a b=some r){P:Prop}
  (k:∀da db as bs,Reads s.heap va da as→Reads s.heap vb db bs→SeqAt.shaped da=true→SeqAt.shaped db=true→PyData.eqv da db=r→P):P:=by
 refine dQ e fun x hx e=>dQ e fun y hy e=>kZ e (fun hd e=>?_) fun Z=>cZ
 obtain⟨as,h1,h2⟩:=zH sim ra hx
 obtain⟨bs,h3,h4⟩:=zH sim rb hy
 exact k x y as bs h1 h3 (by unfold SeqAt.shaped;rw[h2,decide_eq_true hd.1];rfl) (by unfold SeqAt.shaped;rw[h4,decide_eq_true hd.2];rfl) (bE e)
theorem aFZ{P:Params}{σ:aA}{h:Heap}{x:Str}{t:Tok}{vs:Array Value}{l:List V}{ss:List Str}(hr:bC P σ h l vs.toList)(hs:fR l=some ss):
  (∀y,y∈vs→SeqAt.EqAt A.in1 s y (.str x t) (y.isStr x))∧vs.any (fun y=>y.isStr x)=ss.any (·==x):=by
 obtain⟨h1,h2⟩:=wU hr hs
 refine⟨fun y hy=>?_,by exact rwR Array.any_toList (h2 x)⟩
 obtain⟨s1,t1,rfl⟩:=h1 y (Array.mem_toList_iff.mpr hy)
 exact SeqAt.EqAt.str_str s1 t1 x t
theorem aDf{b:V}{l:List V}(h:lk σ b=.tup l):b=.tup l:=aDH h rfl
theorem aCZ{b:V}{l:Str}(h:lk σ b=.str l):b=.str l:=aDH h rfl
theorem aGl{b:V}{ks:List Str}{vs:List V}(h:lk σ b=.sdc ks vs):b=.sdc ks vs:=aDH h rfl
theorem aGq{b:V}{ks:List Int}{vs:List V}(h:lk σ b=.idc ks vs):b=.idc ks vs:=aDH h rfl
theorem aNT{a:V}{ks:List Str}{vs:List V}{va vb:Value}{r:Bool}{Qv:Value→Shared→Prop}{E:Value→Shared→Prop}(ra:bW G.P σ s.heap a va)(rb:bW G.P σ s.heap (.sdc ks vs) vb)(e:inW a (.sdc ks vs)=some r):
  ((∀t,Qv (.bool r) {s with toks:=t})→wpAny G.M A (compareOp .In va vb) Qv E s)∧((∀t,Qv (.bool (!r)) {s with toks:=t})→wpAny G.M A (compareOp .NotIn va vb) Qv E s):=by
 obtain⟨x,hx,rfl⟩:=iJ e
 obtain rfl:=lL hx
 obtain⟨hf,t,rfl⟩:=ra
 obtain⟨a,f,rfl,hy,hm,hx⟩:=aEj rb
 have e:(f x).isSome=(iY ks vs x).isSome:=by
  have:=hx x
  revert this
  induction iY ks vs x with
  |some u=>exact fun h=>h.elim fun v h=>congrArg Option.isSome h.1
  |none=>exact fun h=>congrArg Option.isSome h
 have hkey:(PySem.strKind G.prog G.w).is x (.str x t)=true:=by simp[PySem.strKind,Value.isStrOf]
 exact⟨fun hq=>wpAny_in_of hkey hy hm (by exact rwL e (hq _)),fun hq=>wpAny_notIn_of hkey hy hm (by exact rwL e (hq _))⟩
theorem aMS{a:V}{ks:List Int}{vs:List V}{va vb:Value}{r:Bool}{Qv:Value→Shared→Prop}{E:Value→Shared→Prop}(ra:bW G.P σ s.heap a va)(rb:bW G.P σ s.heap (.idc ks vs) vb)(e:inW a (.idc ks vs)=some r):
  ((∀t,Qv (.bool r) {s with toks:=t})→wpAny G.M A (compareOp .In va vb) Qv E s)∧((∀t,Qv (.bool (!r)) {s with toks:=t})→wpAny G.M A (compareOp .NotIn va vb) Qv E s):=by
 obtain⟨x,hx,rfl⟩:=iJ e
 obtain rfl:=pC hx
 obtain⟨t,rfl⟩:=ra
 obtain⟨a,f,rfl,hy,hm,hx⟩:=aDC rb
 have e:(f x).isSome=(rD ks vs x).isSome:=by
  have:=hx x
  revert this
  induction rD ks vs x with
  |some u=>exact fun h=>h.elim fun v h=>congrArg Option.isSome h.1
  |none=>exact fun h=>congrArg Option.isSome h
 have hkey:(PySem.intKind G.prog G.w).is x (.int x t)=true:=by simp[PySem.intKind,Value.isInt]
 exact⟨fun hq=>wpAny_in_of hkey hy hm (by exact rwL e (hq _)),fun hq=>wpAny_notIn_of hkey hy hm (by exact rwL e (hq _))⟩
theorem aMy{a:V}{l:List V}{r:Bool}{P:Prop}(e:aLK a l=some r)(k:∀x ss,a=.str x→fR l=some ss→ss.any (·==x)=r→P):P:=
 dQ e fun x h1 e=>oE e fun ss h3=>k x ss (lL h1) h3
theorem aBQ{a b:V}{va vb:Value}{r:Bool}{Qv:Value→Shared→Prop}{E:Value→Shared→Prop}(sim:iH G.P σ s.heap)(ra:bW G.P σ s.heap a va)(rb:bW G.P σ s.heap b vb)(e:inV σ a b=some r):
  ((∀t,Qv (.bool r) {s with toks:=t})→wpAny G.M A (compareOp .In va vb) Qv E s)∧((∀t,Qv (.bool (!r)) {s with toks:=t})→wpAny G.M A (compareOp .NotIn va vb) Qv E s):=by
 unfold inV at e
 generalize hb:lk σ b=y at e
 cases y with
 |lst l=>
  refine aMy e fun x ss ea hs er=>?_
  subst ea er
  obtain⟨hf,t,rfl⟩:=ra
  obtain⟨c,vs,n,rfl,ho,hr⟩:=hM sim rb hb
  obtain⟨k1,k2⟩:=aFZ (A:=A) (s:=s) (x:=x) (t:=t) hr hs
  exact⟨fun hq=>SeqAt.in_listAt (fun y=>y.isStr x) ⟨_,ho,rfl,n,rfl⟩ k1 (by exact rwL k2 (hq s.toks)),fun hq=>SeqAt.notIn_listAt (fun y=>y.isStr x) ⟨_,ho,rfl,n,rfl⟩ k1 (by exact rwL k2 (hq s.toks))⟩
 |tup l=>
  refine aMy e fun x ss ea hs er=>?_
  subst ea er
  obtain⟨hf,t,rfl⟩:=ra
  obtain rfl:=aDf hb
  obtain⟨c,vs,n,rfl,_,ho,hr⟩:=rb
  obtain⟨k1,k2⟩:=aFZ (A:=A) (s:=s) (x:=x) (t:=t) hr hs
  exact⟨fun hq=>SeqAt.in_tupleAt (fun y=>y.isStr x) ⟨_,ho,rfl,n,rfl⟩ k1 (by exact rwL k2 (hq s.toks)),fun hq=>SeqAt.notIn_tupleAt (fun y=>y.isStr x) ⟨_,ho,rfl,n,rfl⟩ k1 (by exact rwL k2 (hq s.toks))⟩
 |sdc ks vs=>exact aNT ra (aGl hb▸rb) e
 |idc ks vs=>exact aMS ra (aGq hb▸rb) e
 |str y=>
  obtain⟨x,hx,rfl⟩:=iJ e
  obtain rfl:=lL hx
  obtain⟨hf,t,rfl⟩:=ra
  obtain rfl:=aCZ hb
  obtain⟨hf',t',rfl⟩:=rb
  exact⟨fun hq=>PyProof.Rows.in_str (hq s.toks),fun hq=>PyProof.Rows.notIn_str (hq s.toks)⟩
 |_=>exact cZ e
theorem pO{op:CmpOp}{a b:V}{va vb:Value}{r:Bool}{Qv:Value→Shared→Prop}{E:Value→Shared→Prop}(hu:A.units+200≤cLine)(sim:iH G.P σ s.heap)(ra:bW G.P σ s.heap a va)(rb:bW G.P σ s.heap b vb)
  (e:aBa σ op a b=some r) (h':∀t,Qv (.bool r) {s with toks:=t}):wpAny G.M A (compareOp op va vb) Qv E s:=by
 have hu64:A.units+64<cLine:=Nat.lt_of_lt_of_le (Nat.add_lt_add_left (aD rfl) _) hu
 have h:Qv (.bool r) s:=h' s.toks
 induction op with
 |Eq=>
  exact aBm sim ra rb e fun Z Z Z Z h1 h2 h3 h4 q=>SeqAt.compareEq_shaped h1 h2 h3 h4 hu64 (q▸h)
 |NotEq=>
  exact oE e fun r' e' q'=>aBm sim ra rb e' fun Z Z Z Z h1 h2 h3 h4 q=>SeqAt.compareNe_shaped h1 h2 h3 h4 hu64 (q▸q'▸h)
 |In=>exact(aBQ sim ra rb e).1 h'
 |NotIn=>
  exact oE e fun r' e' q=>(aBQ sim ra rb e').2 fun t=>q▸h' t
 |Is=>
  by_cases hb:jB b=true
  ·obtain rfl:=yX hb
   subst rb
   obtain rfl:=bE e
   refine is_none_gen ?_
   refine rwL (zU ra) ?_
   exact h
  ·exact cZ ((if_neg hb).symm.trans e)
 |IsNot=>
  by_cases hb:jB b=true
  ·obtain rfl:=yX hb
   subst rb
   obtain rfl:=bE e
   refine isNot_none ?_
   refine rwL (zU ra) ?_
   exact h
  ·exact cZ ((if_neg hb).symm.trans e)
 |Lt=>
  refine aIK e fun i j ea eb er=>?_
  subst ea eb er
  obtain⟨t,rfl⟩:=ra;obtain⟨u,rfl⟩:=rb
  exact PyProof.Rows.lt_int h
 |LtE=>
  replace e:leV a b=some r:=e
  unfold leV at e
  induction hx:mU a with
  |some x=>
   replace e:=hx▸e
   obtain⟨y,hy,rfl⟩:=iJ e
   obtain rfl:=lL hx
   obtain rfl:=lL hy
   obtain⟨_,t,rfl⟩:=ra;obtain⟨_,u,rfl⟩:=rb
   exact P.le_str h
  |none=>
   replace e:=hx▸e
   refine aIK e fun i j ea eb er=>?_
   subst ea eb er
   obtain⟨t,rfl⟩:=ra;obtain⟨u,rfl⟩:=rb
   exact PyProof.Rows.le_int h
 |Gt=>
  refine aIK e fun i j ea eb er=>?_
  subst ea eb er
  obtain⟨t,rfl⟩:=ra;obtain⟨u,rfl⟩:=rb
  exact PyProof.Rows.gt_int h
 |GtE=>
  refine aIK e fun i j ea eb er=>?_
  subst ea eb er
  obtain⟨t,rfl⟩:=ra;obtain⟨u,rfl⟩:=rb
  exact PyProof.Rows.ge_int h
theorem TQ.then{σ₁:aA}{s₁:Shared}{Q:Bool→aA→Prop}{v:Bool}(a:cA s σ₁ s₁ σ)(q:TQ σ₁ Q s₁ v s'):TQ σ Q s v s':=by
 obtain⟨σ',h1,h2,h3⟩:=q
 exact⟨σ',h1,a.trans h2,h3⟩
theorem iZ{b:Bool}{Q:Bool→Shared→Prop}{E:Value→Shared→Prop}(h:Q b s):wpAny G.M A (truthy (.bool b)) Q E s:=wpAny_truthy_bool h
theorem dU{l r:Expr}{Qb:V→V→aA→Prop}{K:Value→Value→Shared→Prop}(S:St s σ m env A md loc)
  (h:cP X σ loc md (fun a σ1=>cP X σ1 loc md (fun b σ2=>Qb a b σ2) r) l)
  (k:∀a b va vb σ2 s2,Qb a b σ2→cA s σ2 s2 σ→St s2 σ2 m env A md loc→bW G.P σ2 s2.heap a va→bW G.P σ2 s2.heap b vb→K va vb s2):
  wpAny G.M A (eval l env) (fun va s1=>wpAny G.M A (eval r env) (fun vb s2=>K va vb s2) (EX σ X s) s1) (EX σ X s) s:=by
 refine wpAny_mono (h A env m s S) (fun va s1 q=>?_) fun Z Z z=>z
 obtain⟨a,σ1,h1,h2,h3,S1⟩:=S.ev q
 refine wpAny_mono (h1 A env m s1 S1) (fun vb s2 q=>?_) fun Z Z z=>z.then h3
 obtain⟨b,σ2,k1,k2,k3,S2⟩:=S1.ev q
 exact k a b va vb σ2 s2 k1 (h3.trans k3) S2 (h2.step k3.keep k3.dom) k2
inductive aJh(op:CmpOp)(a:V)(Q:Bool→aA→Prop)(b:V)(σ:aA):Prop|mk (c:Bool) (h:aBa σ op a b=some c) (q:Q c σ)
abbrev aL7(op:CmpOp)(md:Md)(r:Expr)(X:bF→Prop)(loc:aX)(Q:Bool→aA→Prop):V→aA→Prop:=fun a σ1=>cP X σ1 loc md (aJh op a Q) r
abbrev aND(Q:V→aA→Prop):Bool→aA→Prop:=fun c σ=>Q (.bool c) σ
abbrev aOk(md:Md)(rest:List Expr)(pos:Pos)(loc:aX)(Q:Bool→aA→Prop)(X:bF→Prop):Bool→aA→Prop:=fun b σ1=>if b=true then qI md (.BoolOp .And rest pos) loc σ1 Q X else Q false σ1
abbrev OrQ(md:Md)(rest:List Expr)(pos:Pos)(loc:aX)(Q:Bool→aA→Prop)(X:bF→Prop):Bool→aA→Prop:=fun b σ1=>if b=true then Q true σ1 else qI md (.BoolOp .Or rest pos) loc σ1 Q X
abbrev aPj(Q:Bool→aA→Prop):Bool→aA→Prop:=fun b σ1=>Q (!b) σ1
abbrev aPv(md:Md)(body orelse:Expr)(loc:aX)(Q:V→aA→Prop)(X:bF→Prop):Bool→aA→Prop:=fun b σ1=>if b=true then cP X σ1 loc md Q body else cP X σ1 loc md Q orelse
inductive aMC(Q:Bool→aA→Prop)(v:V)(σ:aA):Prop|mk (b:Bool) (h:v=.bool b) (q:Q b σ)
abbrev aMH(Q:V→aA→Prop):Bool→aA→Prop:=fun b σ1=>Q (.bool !b) σ1
theorem kI{l r:Expr}{op:CmpOp}{pos:Pos}{Q:V→aA→Prop}(h:cP X σ loc md (aL7 op md r X loc (aND Q)) l)(hm:behindInMarks op r=false:=by with_unfolding_all rfl):
  cP X σ loc md Q (.Compare l [op] [r] pos):=fun A env m s S=>by
 refine wpAny_Compare1 (dU S h fun a b va vb σ2 s2 q aft S2 ra rb=>?_) hm
 obtain⟨c,hc,hq⟩:=q
 exact pO (mS S2) S2.sim ra rb hc fun t=>⟨_,σ2,hq,rfl,aft.trans (.tok ..),S2.sim⟩
theorem aV{l r:Expr}{op:CmpOp}{pos:Pos}{Q:Bool→aA→Prop}(h:cP X σ loc md (aL7 op md r X loc Q) l)(hm:behindInMarks op r=false:=by with_unfolding_all rfl):
  qI md (.Compare l [op] [r] pos) loc σ Q X:=fun A env m s S=>by
 refine wpAny_isTrue_Compare1 (dU S h fun a b va vb σ2 s2 q aft S2 ra rb=>?_) hm
 obtain⟨c,hc,hq⟩:=q
 exact pO (mS S2) S2.sim ra rb hc fun t=>iZ ⟨σ2,hq,aft.trans (.tok ..),S2.sim⟩
abbrev aOT(md:Md)(t:Expr)(loc:aX)(op':CmpOp)(Q:Bool→aA→Prop)(X:bF→Prop)(b:V):Bool→aA→Prop:=fun c σ2=>if c=true then cP X σ2 loc md (aJh op' b Q) t else Q false σ2
abbrev aPE(md:Md)(t:Expr)(loc:aX)(op op':CmpOp)(Q:Bool→aA→Prop)(X:bF→Prop)(a:V):V→aA→Prop:=fun b σ2=>aJh op a (aOT md t loc op' Q X b) b σ2
abbrev Lnk(md:Md)(r t:Expr)(loc:aX)(op op':CmpOp)(Q:Bool→aA→Prop)(X:bF→Prop):V→aA→Prop:=fun a σ1=>cP X σ1 loc md (aPE md t loc op op' Q X a) r
theorem aEb{l r t:Expr}{op op':CmpOp}{pos:Pos}{Q:Bool→aA→Prop}
  (h:cP X σ loc md (Lnk md r t loc op op' Q X) l)
  (hm:lastMarks [op,op'] [r,t]=false:=by with_unfolding_all rfl):qI md (.Compare l [op,op'] [r,t] pos) loc σ Q X:=fun A env m s S=>by
 refine isTrue_chain (wpAny_mono (h A env m s S) (fun va s1 q=>?_) fun Z Z z=>z) hm
 obtain⟨a,σ1,h1,h2,h3,S1⟩:=S.ev q
 refine test_link (wpAny_mono (h1 A env m s1 S1) (fun vb s2 q=>?_) fun Z Z z=>z.then h3)
 obtain⟨b,σ2,⟨c,hc,hq⟩,k2,k3,S2⟩:=S1.ev q
 refine pO (mS S2) S2.sim (h2.step k3.keep k3.dom) k2 hc fun t=>iZ ?_
 have ak:cA s σ2 {s2 with toks:=t} σ:=(h3.trans k3).trans (.tok ..)
 induction c
 ·exact⟨σ2,hq,ak,S2.sim⟩
 ·refine test_last (wpAny_mono (hq A env m _ (S2.tok t)) (fun vd s3 q=>?_) fun Z Z z=>z.then ak)
  obtain⟨d,σ3,⟨c',hc',hq'⟩,j2,j3,S3⟩:=(S2.tok t).ev q
  exact pO (mS S3) S3.sim (bW.step (h:=s2.heap) k2 j3.keep j3.dom) j2 hc' fun t=>iZ ⟨σ3,hq',(ak.trans j3).trans (.tok ..),S3.sim⟩
theorem mL{e:Expr}{pos:Pos}{Q:Bool→aA→Prop}(h:qI md e loc σ (aPj Q) X):qI md (.UnaryOp .Not e pos) loc σ Q X:=fun A env m s S=>
 isTrue_not (wpAny_mono (h A env m s S) (fun _ _ ⟨σ',q,a,b⟩=>⟨σ',q,a,b⟩) fun Z Z z=>z)
theorem cK{pos:Pos}{Q:Bool→aA→Prop}(h:Q true σ):qI md (.BoolOp .And [] pos) loc σ Q X:=fun A env m s S=>isTrue_and_nil ⟨σ,h,.refl ..,S.sim⟩
theorem eO{pos:Pos}{Q:Bool→aA→Prop}(h:Q false σ):qI md (.BoolOp .Or [] pos) loc σ Q X:=fun A env m s S=>isTrue_or_nil ⟨σ,h,.refl ..,S.sim⟩
theorem bU{x:Expr}{rest:List Expr}{pos:Pos}{Q:Bool→aA→Prop}(h:qI md x loc σ (aOk md rest pos loc Q X) X):qI md (.BoolOp .And (x::rest) pos) loc σ Q X:=fun A env m s S=>by
 refine isTrue_and (wpAny_mono (h A env m s S) (fun b s1 q=>?_) fun Z Z z=>z)
 obtain⟨σ1,h1,h2,h3⟩:=q
 have S1:=S.after h2 h3
 induction b
 ·exact⟨σ1,h1,h2,h3⟩
 ·exact wpAny_mono (h1 A env m s1 S1) (fun Z Z z=>z.then h2) fun Z Z z=>z.then h2
theorem fJ{x:Expr}{rest:List Expr}{pos:Pos}{Q:Bool→aA→Prop}(h:qI md x loc σ (OrQ md rest pos loc Q X) X):qI md (.BoolOp .Or (x::rest) pos) loc σ Q X:=fun A env m s S=>by
 refine isTrue_or (wpAny_mono (h A env m s S) (fun b s1 q=>?_) fun Z Z z=>z)
 obtain⟨σ1,h1,h2,h3⟩:=q
 have S1:=S.after h2 h3
 induction b
 ·exact wpAny_mono (h1 A env m s1 S1) (fun Z Z z=>z.then h2) fun Z Z z=>z.then h2
 ·exact⟨σ1,h1,h2,h3⟩
theorem bX{test body orelse:Expr}{pos:Pos}{Q:V→aA→Prop}(h:qI md test loc σ (aPv md body orelse loc Q X) X):cP X σ loc md Q (.IfExp test body orelse pos):=fun A env m s S=>by
 refine IfExp_ (wpAny_mono (h A env m s S) (fun b s1 q=>?_) fun Z Z z=>z)
 obtain⟨σ1,h1,h2,h3⟩:=q
 have S1:=S.after h2 h3
 cases b <;> exact wpAny_mono (h1 A env m s1 S1) (fun Z Z z=>z.then h2) fun Z Z z=>z.then h2
theorem bT{e:Expr}{Q:Bool→aA→Prop}(h:cP X σ loc md (aMC Q) e)(he:∀env oS,isTrue e env oS=(do let v ←oS;standAt e.pos;holding [v] (truthy v)):=by intro _ _;rfl):qI md e loc σ Q X:=fun A env m s S=>by
 refine isTrue_plain (wpAny_mono (h A env m s S) (fun v s1 q=>?_) fun Z Z z=>z) (he _ _)
 obtain⟨r,σ1,⟨b,rfl,hq⟩,h2,h3,h4⟩:=q
 subst h2
 exact iZ ⟨σ1,hq,h3,h4⟩
theorem aG4{e:Expr}{pos:Pos}{Q:V→aA→Prop}(h:cP X σ loc md (aMC (aMH Q)) e):cP X σ loc md Q (.UnaryOp .Not e pos):=fun A env m s S=>by
 refine UnaryOp_ (wpAny_mono (h A env m s S) (fun v s1 q=>?_) fun Z Z z=>z)
 obtain⟨r,σ1,⟨b,rfl,hq⟩,h2,h3,h4⟩:=q
 subst h2
 exact not_of (iZ ⟨_,σ1,hq,rfl,h3,h4⟩)
theorem kF{op:BoolOp}{e:Expr}{pos:Pos}{Q:V→aA→Prop}(h:cP X σ loc md Q e):cP X σ loc md Q (.BoolOp op [e] pos):=fun A env m s S=>BoolOp_one (h A env m s S)
inductive aNn(Q1:Bool→aA→Prop)(v:V)(σ1:aA):Prop|mk (b:Bool) (h:v=.bool b) (q:Q1 b σ1)
abbrev aNj(md:Md)(e₂:Expr)(rest:List Expr)(pos:Pos)(loc:aX)(Q:V→aA→Prop)(X:bF→Prop):Bool→aA→Prop:=fun b σ1=>if b=true then cP X σ1 loc md Q (.BoolOp .And (e₂::rest) pos) else Q (.bool false) σ1
abbrev aOq(md:Md)(e₂:Expr)(rest:List Expr)(pos:Pos)(loc:aX)(Q:V→aA→Prop)(X:bF→Prop):Bool→aA→Prop:=fun b σ1=>if b=true then Q (.bool true) σ1 else cP X σ1 loc md Q (.BoolOp .Or (e₂::rest) pos)
theorem qG{e₁ e₂:Expr}{rest:List Expr}{pos:Pos}{Q:V→aA→Prop}(h:cP X σ loc md (aNn (aNj md e₂ rest pos loc Q X)) e₁):
  cP X σ loc md Q (.BoolOp .And (e₁::e₂::rest) pos):=fun A env m s S=>by
 refine BoolOp_and (wpAny_mono (h A env m s S) (fun v s1 q=>?_) fun Z Z z=>z)
 obtain⟨r,σ1,⟨b,rfl,hq⟩,h2,h3,S1⟩:=S.ev q
 subst h2
 refine iZ ?_
 induction b
 ·exact⟨_,σ1,hq,rfl,h3,S1.sim⟩
 ·exact wpAny_mono (hq A env m s1 S1) (fun Z Z z=>z.then h3) fun Z Z z=>z.then h3
theorem zW{e₁ e₂:Expr}{rest:List Expr}{pos:Pos}{Q:V→aA→Prop}(h:cP X σ loc md (aNn (aOq md e₂ rest pos loc Q X)) e₁):
  cP X σ loc md Q (.BoolOp .Or (e₁::e₂::rest) pos):=fun A env m s S=>by
 refine BoolOp_or (wpAny_mono (h A env m s S) (fun v s1 q=>?_) fun Z Z z=>z)
 obtain⟨r,σ1,⟨b,rfl,hq⟩,h2,h3,S1⟩:=S.ev q
 subst h2
 refine iZ ?_
 induction b
 ·exact wpAny_mono (hq A env m s1 S1) (fun Z Z z=>z.then h3) fun Z Z z=>z.then h3
 ·exact⟨_,σ1,hq,rfl,h3,S1.sim⟩
theorem aAQ{x y:Str}(hx:PyData.strOk x=true)(hy:PyData.strOk y=true):PyData.strOk (x++y)=true:=by
 unfold PyData.strOk at *
 show(x.cps++y.cps).all _=true
 refine rwL Array.all_append ?_
 refine rwL hx ?_
 refine rwL hy ?_
 rfl
theorem xW.append{x y:Str}(hx:xW x)(hy:xW y)(h:x.length+y.length≤2^20):xW (x++y):=⟨aAQ hx.1 hy.1,rwL (strLen_append _ _) h⟩
theorem jK{n:Nat}(h:n≤2^20):n≤sizeLine:=by rw[sizeLine_eq];exact aM ‹_› (aD rfl)
inductive Bin:Operator→V→V→V→Prop
 |add (a b:Int):Bin .Add (.int a) (.int b) (.int (a+b))
 |sub (a b:Int):Bin .Sub (.int a) (.int b) (.int (a - b))
 |mul (a b:Int) (h:a.natAbs<2^64):Bin .Mult (.int a) (.int b) (.int (a*b))
 |fdiv (a b:Int) (h0:b≠0) (h:b.natAbs<1073741824):Bin .FloorDiv (.int a) (.int b) (.int (a.fdiv b))
 |mod (a b:Int) (h0:b≠0):Bin .Mod (.int a) (.int b) (.int (a.fmod b))
 |pow (a b:Int) (h0:0≤b) (h1:b≤1000000) (h2:a.natAbs<2^64):Bin .Pow (.int a) (.int b) (.int (a^b.toNat))
 |shl (a b:Int) (h0:0≤b) (h1:b≤1000000) (h2:a.natAbs<2^64):Bin .LShift (.int a) (.int b) (.int (a*2^b.toNat))
 |cat (x y:Str) (h:x.length+y.length≤2^20):Bin .Add (.str x) (.str y) (.str (x++y))
noncomputable def Mk(σ:aA)(fz:V)(mo:dJ)(Q:V→aA→Prop):Prop:=Q fz σ∨∀a,σ a=none→Q (.ref a) (upd a mo σ)
theorem nab{a:Int}{n:Nat}(h:a.natAbs<n): -(n:Int)<a∧a<n:=⟨Int.neg_lt_of_neg_lt (Int.lt_of_le_of_lt (Int.natAbs_neg a▸Int.le_natAbs) (Int.ofNat_lt.mpr h)),Int.lt_of_le_of_lt Int.le_natAbs (Int.ofNat_lt.mpr h)⟩
theorem aJd{x y:Str}(h:(x.length==0)=true):x++y=y:=by
 obtain⟨cx⟩:=x
 cases Array.eq_empty_of_size_eq_zero (cJ h)
 exact congrArg Str.mk Array.empty_append
theorem aJk{x y:Str}(h:(y.length==0)=true):x++y=x:=by
 obtain⟨cy⟩:=y
 cases Array.eq_empty_of_size_eq_zero (cJ h)
 exact congrArg Str.mk Array.append_empty
theorem aE9{op:Operator}{a b c:V}{va vb:Value}{Qv:Value→Shared→Prop}{E:Value→Shared→Prop}(bin:Bin op a b c)(ra:bW G.P σ s.heap a va)(rb:bW G.P σ s.heap b vb)
  (h:∀v t,bW G.P σ s.heap c v→Qv v {s with toks:=t}):wpAny G.M A (binaryOp op va vb) Qv E s:=by
 revert ra rb h
 induction bin with
 |add a b=>exact fun⟨t,e⟩ ⟨u,e'⟩ h=>e▸e'▸P.add_int (h _ _ ⟨_,rfl⟩)
 |sub a b=>exact fun⟨t,e⟩ ⟨u,e'⟩ h=>e▸e'▸P.sub_int (h _ _ ⟨_,rfl⟩)
 |mul a b hm=>exact fun⟨t,e⟩ ⟨u,e'⟩ h=>e▸e'▸P.mul_int (h _ _ ⟨_,rfl⟩) (.of_left (intBits_le_64 (nab hm).1 (nab hm).2))
 |fdiv a b h0 hb=>exact fun⟨t,e⟩ ⟨u,e'⟩ h=>e▸e'▸PyProof.Rows.floordiv_int h0 (h _ _ ⟨_,rfl⟩) (Or.inl (PyProof.noPylong_small hb))
 |mod a b h0=>exact fun⟨t,e⟩ ⟨u,e'⟩ h=>e▸e'▸PyProof.Rows.mod_int' h0 (h _ _ ⟨_,rfl⟩)
 |pow a b h0 h1 h2=>exact fun⟨t,e⟩ ⟨u,e'⟩ h=>e▸e'▸PyProof.Rows.pow_int_small h0 h1 h2 (h _ _ ⟨_,rfl⟩)
 |shl a b h0 h1 h2=>exact fun⟨t,e⟩ ⟨u,e'⟩ h=>e▸e'▸PyProof.Rows.lshift_int_small h0 h1 h2 (h _ _ ⟨_,rfl⟩)
 |cat x y hl=>
  rintro⟨hx,t,rfl⟩ ⟨hy,u,rfl⟩ h
  have hf:=hx.append hy hl
  refine P.add_str (kZ rfl (fun q e=>e▸?_) fun Z e=>e▸kZ rfl (fun q e=>e▸?_) fun Z e=>e▸?_)
  ·exact h _ s.toks ⟨hf,u,rwL (aJd q) rfl⟩
  ·exact h _ s.toks ⟨hf,t,rwL (aJk q) rfl⟩
  ·exact⟨jK hf.2,h _ _ ⟨hf,_,rfl⟩⟩
inductive aOS(op:Operator)(a:V)(Q:V→aA→Prop)(b:V)(σ:aA):Prop|mk (c:V) (h:Bin op a b c) (q:Q c σ)
abbrev aPk(op:Operator)(md:Md)(X:bF→Prop)(loc:aX)(r:Expr)(Q:V→aA→Prop):V→aA→Prop:=fun a σ1=>cP X σ1 loc md (aOS op a Q) r
inductive aOD(Q:V→aA→Prop)(v:V)(σ:aA):Prop|mk (i:Int) (h:v=.int i) (q:Q (.int (-i)) σ)
inductive aPG(a:V)(Q:V→aA→Prop)(b:V)(σ:aA):Prop|mk (l1 l2:List V) (h1:lk σ a=.lst l1) (h2:lk σ b=.lst l2) (hz:l1.length+l2.length≤2^20) (q:Mk σ (.lst (l1++l2)) (.lst (l1++l2)) Q)
abbrev aOl(md:Md)(r:Expr)(loc:aX)(Q:V→aA→Prop)(X:bF→Prop):V→aA→Prop:=fun a σ1=>cP X σ1 loc md (aPG a Q) r
theorem aP{l r:Expr}{op:Operator}{pos:Pos}{Q:V→aA→Prop}(h:cP X σ loc md (aPk op md X loc r Q) l):
  cP X σ loc md Q (.BinOp l op r pos):=fun A env m s S=>by
 refine wpAny_BinOp (dU S h fun a b va vb σ2 s2 q aft S2 ra rb=>?_)
 obtain⟨c,hc,hq⟩:=q
 exact aE9 hc ra rb fun v t r=>⟨c,σ2,hq,r,aft.trans (.tok ..),S2.sim⟩
theorem oO{e:Expr}{pos:Pos}{Q:V→aA→Prop}(h:cP X σ loc md (aOD Q) e):cP X σ loc md Q (.UnaryOp .USub e pos):=fun A env m s S=>by
 refine UnaryOp_ (wpAny_mono (h A env m s S) (fun v s1 q=>?_) fun Z Z z=>z)
 obtain⟨r,σ1,⟨i,rfl,hq⟩,⟨t,rfl⟩,h3,h4⟩:=q
 exact P.neg_int ⟨_,σ1,hq,⟨_,rfl⟩,h3.trans (.tok ..),h4⟩
theorem uC{h':Heap}{tk:Nat}(sim:iH G.P σ s.heap)(hk:∀b o,s.heap.get? b=some o→h'.get? b=some o):cA s σ {s with heap:=h',toks:=tk} σ∧iH G.P σ h':=
 ⟨⟨⟨_,_,rfl⟩,fun b o e=>⟨fun Z=>hk b o e,fun Z=>⟨o,hk b o e,.refl o⟩⟩,yJ.refl σ s.heap,fun b o e=>⟨o,hk b o e⟩⟩,
   fun a mo e=>let⟨o,ho,c⟩:=sim a mo e;⟨o,hk a o ho,c.mono fun b o e z=>⟨hk b o e,z⟩⟩⟩
theorem dE{a:Addr}(sim:iH G.P σ s.heap)(ha:s.heap.get? a=none):σ a=none:=by
 induction hq:σ a with
 |none=>rfl
 |some mo=>obtain⟨o,ho,_⟩:=sim _ _ hq;rw[ha] at ho;exact cZ ho
theorem lK{h':Heap}{tk:Nat}{a:Addr}{o':Obj}{mo:dJ}(sim:iH G.P σ s.heap)(hk:∀b o,s.heap.get? b=some o→h'.get? b=some o)(ha:s.heap.get? a=none)(ho:h'.get? a=some o')(c:rU G.P σ s.heap mo o'):
  cA s (upd a mo σ) {s with heap:=h',toks:=tk} σ∧iH G.P (upd a mo σ) h':=by
 have ne:∀b o,s.heap.get? b=some o→b≠a:=fun b o e q=>by rw[q,ha] at e;exact cZ e
 have kR:∀b o,s.heap.get? b=some o→σ b=none→h'.get? b=some o∧upd a mo σ b=none:=fun b o e z=>⟨hk b o e,(aR σ _ (ne b o e)).trans z⟩
 refine⟨⟨⟨_,_,rfl⟩,fun b o e=>⟨fun Z=>hk b o e,fun Z=>⟨o,hk b o e,.refl o⟩⟩,fun b o e=>?_,fun b o e=>⟨o,hk b o e⟩⟩,fun b mb e=>?_⟩
 ·refine rwL (aR σ _ (ne b o e)) ?_
  exact⟨id,id,fun v e=>⟨v,e⟩⟩
 ·by_cases hb:b=a
  ·subst hb
   replace e:=(aI _ _ _)▸e
   obtain rfl:=bE e
   exact⟨o',ho,c.mono kR⟩
  ·replace e:=(aR σ _ hb)▸e
   obtain⟨o,h1,h2⟩:=sim b mb e
   exact⟨o,hk b o h1,h2.mono kR⟩
theorem eG(h:Heap):h.get? h.objs.size=none:=by
 induction hq:h.get? h.objs.size with
 |none=>rfl
 |some o=>exact absurd (Heap.lt_size hq) (Nat.lt_irrefl _)
theorem dL(h:Heap)(o:Obj):∀b o',h.get? b=some o'→(h.push o).get? b=some o':=fun b o' e=>Heap.get?_push_of_some o e
theorem aAW{l:List V}{vs:Array Value}{n:Nat}{tk:Nat}{Q:V→aA→Prop}(sim:iH G.P σ s.heap)(r:bC G.P σ s.heap l vs.toList)(h:Mk σ (.lst l) (.lst l) Q):
  EQ G σ Q s (.ref s.heap.objs.size) {s with heap:=s.heap.push (fL vs n),toks:=tk}:=by
 have hk:=dL s.heap (fL vs n)
 have hf:=eG s.heap
 have hn:(s.heap.push (fL vs n)).get? s.heap.objs.size=some (fL vs n):=Heap.get?_push_size _ rfl
 rcases h with h|h
 ·obtain⟨k1,k2⟩:=uC (tk:=tk) sim hk
  exact⟨_,σ,h,⟨_,vs,n,rfl,dE sim hf,hn,r.mono fun b o e z=>⟨hk b o e,z⟩⟩,k1,k2⟩
 ·obtain⟨k1,k2⟩:=lK (tk:=tk) sim hk hf hn (mo:=.lst l) ⟨vs,n,rfl,r⟩
  exact⟨_,_,h _ (dE sim hf),rfl,k1,k2⟩
theorem jG{l r:Expr}{pos:Pos}{Q:V→aA→Prop}(h:cP X σ loc md (aOl md r loc Q X) l):
  cP X σ loc md Q (.BinOp l .Add r pos):=fun A env m s S=>by
 refine wpAny_BinOp (dU S h fun a b va vb σ2 s2 q aft S2 ra rb=>?_)
 obtain⟨l1,l2,h1,h2,h3,h4⟩:=q
 obtain⟨a1,vs,n,rfl,ho,hr⟩:=hM S2.sim ra h1
 obtain⟨b1,ws,n',rfl,ho',hr'⟩:=hM S2.sim rb h2
 have e1:=hr.length
 have e2:=hr'.length
 rw[Array.length_toList] at e1 e2
 have hsz:vs.size+ws.size≤sizeLine:=by exact rwL e1 (rwL e2 (jK h3))
 refine concat_meets ⟨_,ho,rfl⟩ ⟨_,ho',rfl⟩ noFill_list_add seq_list_add PySem.F.slot_list_add PySem.F.entry_list_add (PySem.F.args_list_add_2 _ _) (AutoSeq1.list___add___list_list_0 _ vs n _ ws n' hsz) ⟨ho,ho',?_⟩
 have:=aAW (s:=s2) (tk:=s2.toks) (n:=0) (vs:=vs++ws) S2.sim (rwL Array.toList_append (hr.append hr')) h4
 exact this.then aft
theorem aHO{l:List V}{vs:Array Value}{n:Nat}{tk:Nat}{Q:V→aA→Prop}(sim:iH G.P σ s.heap)(r:bC G.P σ s.heap l vs.toList)(h:Q (.tup l) σ):
  EQ G σ Q s (.ref s.heap.objs.size) {s with heap:=s.heap.push (mK vs n),toks:=tk}:=by
 have hk:=dL s.heap (mK vs n)
 have hf:=eG s.heap
 have hn:(s.heap.push (mK vs n)).get? s.heap.objs.size=some (mK vs n):=Heap.get?_push_size _ rfl
 obtain⟨k1,k2⟩:=uC (tk:=tk) sim hk
 exact⟨_,σ,h,⟨_,vs,n,rfl,dE sim hf,hn,r.mono fun b o e z=>⟨hk b o e,z⟩⟩,k1,k2⟩
inductive aPz(Q:V→aA→Prop)(vs:List V)(σ:aA):Prop|mk (hz:vs.length≤1000) (q:Q (.tup vs) σ)
inductive aOK(Q:V→aA→Prop)(vs:List V)(σ:aA):Prop|mk (hz:vs.length≤1000) (q:Mk σ (.lst vs) (.lst vs) Q)
theorem aT{es:List Expr}{k:Nat}{pos:Pos}{Q:V→aA→Prop}(h:nW md es loc σ (aPz Q) X):cP X σ loc md Q (.Tuple es k pos):=fun A env m s S=>by
 refine Tuple_ (wpAny_mono (h pos A env m s S) (fun vs s1 q=>?_) fun Z Z z=>z)
 obtain⟨rs,σ1,⟨hl,hq⟩,h2,h3,h4⟩:=q
 have hz:=h2.length
 refine wpAny_newTuple ?_ (rwL sizeLine_eq (aM (dH hz) (aM hl (aD rfl))))
 exact(aHO (s:=s1) (tk:=s1.toks) (n:=0) (vs:=vs.toArray) h4 (by simpa using h2) hq).then h3
theorem bJ{es:List Expr}{pos:Pos}{Q:V→aA→Prop}(h:nW md es loc σ (aOK Q) X):cP X σ loc md Q (.List es pos):=fun A env m s S=>by
 refine List_ (wpAny_mono (h pos A env m s S) (fun vs s1 q=>?_) fun Z Z z=>z)
 obtain⟨rs,σ1,⟨hl,hq⟩,h2,h3,h4⟩:=q
 have hz:=h2.length
 refine wpAny_newList ?_ (rwL sizeLine_eq (aM (dH hz) (aM hl (aD rfl))))
 exact(aAW (s:=s1) (tk:=s1.toks) (n:=0) (vs:=vs.toArray) h4 (by simpa using h2) hq).then h3
noncomputable def aEV{α:Type}(l:List α)(k:Int):Option α:=(seqIndex? k l.length).bind fun j=>l[j]?
inductive xU(σ:aA):V→V→V→Prop
 |lst (o:V) (l:List V) (k:Int) (x:V) (h:lk σ o=.lst l) (hk: -(2^63)≤k∧k<2^63) (hx:aEV l k=some x):xU σ o (.int k) x
 |tup (l:List V) (k:Int) (x:V) (hk: -(2^63)≤k∧k<2^63) (hx:aEV l k=some x):xU σ (.tup l) (.int k) x
 |str (s:Str) (k:Int) (c:Nat) (hk: -(2^63)≤k∧k<2^63) (hx:aEV s.cps.toList k=some c):xU σ (.str s) (.int k) (.str ⟨#[c]⟩)
 |sdc (ks:List Str) (vs:List V) (k:Str) (x:V) (hx:iY ks vs k=some x):xU σ (.sdc ks vs) (.str k) x
 |idc (ks:List Int) (vs:List V) (k:Int) (x:V) (hx:rD ks vs k=some x):xU σ (.idc ks vs) (.int k) x
noncomputable def oX{α:Type}(l:List α)(lo hi:Option Int):List α:=(l.drop (lo.elim 0 (clipAt l.length))).take (hi.elim l.length (clipAt l.length) - lo.elim 0 (clipAt l.length))
theorem aOI{n:Nat}{k:Int}{j:Nat}{P:Prop}(h:seqIndex? k n=some j)(x:0≤k→k.toNat=j→j<n→P)(y:k<0→-(n:Int)≤k→(k+n).toNat=j→j<n→P):P:=by
 by_cases hk:k<0
 ·refine kZ (show(if(decide (0≤k+n)&&decide (k+(n:Int)<n))=true then some (k+(n:Int)).toNat else none)=some j from(by rw[←h];unfold seqIndex?;rw[if_pos hk])) (fun q e=>gU q fun q1 q2=>?_) fun Z=>cZ
  have q1:=of_decide_eq_true q1
  have e:=bE e
  refine y hk ?_ e (e▸(Int.toNat_lt q1).mpr (of_decide_eq_true q2))
  have:=Int.sub_le_sub_right q1 n
  rwa [Int.zero_sub,Int.add_sub_cancel] at this
 ·refine kZ (show(if(decide (0≤k)&&decide (k<n))=true then some k.toNat else none)=some j from(by rw[←h];unfold seqIndex?;rw[if_neg hk])) (fun q e=>gU q fun q1 q2=>?_) fun Z=>cZ
  have q1:=of_decide_eq_true q1
  have e:=bE e
  exact x q1 e (e▸(Int.toNat_lt q1).mpr (of_decide_eq_true q2))
inductive aL8(A:Around)(vo vi:Value)(Qv:Value→Shared→Prop)(E:Value→Shared→Prop)(s:Shared):Prop|mk (T id:String) (h1:s.TypeIs vo T) (h2:typeLookup (.type T) "__getitem__"=pure (some (.builtin id))) (w:wpAny G.M A (getItem vo vi) Qv E s)
theorem aL8.get{vo vi:Value}{Qv:Value→Shared→Prop}{E:Value→Shared→Prop}(h:aL8 A vo vi Qv E s):wpAny G.M A (getItem vo vi) Qv E s:=by
 obtain⟨_,_,_,_,w⟩:=h
 exact w
theorem vB{o i x:V}{vo vi:Value}{Qv:Value→Shared→Prop}{E:Value→Shared→Prop}(it:xU σ o i x)(sim:iH G.P σ s.heap)(ro:bW G.P σ s.heap o vo)(ri:bW G.P σ s.heap i vi)
  (h:∀v t,bW G.P σ s.heap x v→Qv v {s with toks:=t}):aL8 A vo vi Qv E s:=by
 induction it with
 |lst _ l k x hl hk hx=>
  obtain⟨a,vs,n,rfl,ho,hr⟩:=hM sim ro hl
  obtain⟨t,rfl⟩:=ri
  have hT:s.heap.IsList a vs:=⟨_,ho,rfl,n,rfl⟩
  refine⟨"list",_,hT.typeIs,slot_list_getitem.lookup,dQ hx fun j hj hx=>?_⟩
  obtain⟨v,hv,r⟩:=hr.get j hx
  have hlen:=Array.length_toList.symm.trans hr.length
  have hv:=Array.getElem?_toList.symm.trans hv
  refine aOI hj (fun h0 e Z=>?_) fun h0 h1 e Z=>?_
  ·exact wpAny_getItem_list hT h0 hk.2 (e▸hv) (h v s.toks r)
  ·exact wpAny_getItem_list_neg hT h0 (hlen▸h1) hk.1 (by exact rwL hlen (rwL e hv)) (h v s.toks r)
 |tup l k x hk hx=>
  obtain⟨a,vs,n,rfl,_,ho,hr⟩:=ro
  obtain⟨t,rfl⟩:=ri
  have hT:IsTup s.heap a vs:=⟨_,ho,rfl,n,rfl⟩
  refine⟨"tuple",_,hT.typeIs,slot_tuple_getitem.lookup,dQ hx fun j hj hx=>?_⟩
  obtain⟨v,hv,r⟩:=hr.get j hx
  exact getItem_tuple hT hk.1 hk.2 ((Array.length_toList.symm.trans hr.length)▸hj) (Array.getElem?_toList.symm.trans hv) (h v s.toks r)
 |str y k c hk hx=>
  obtain⟨hf,t,rfl⟩:=ro
  obtain⟨u,rfl⟩:=ri
  refine⟨"str",_,typeIs_str s y t,F.slot_str_getitem.lookup,dQ hx fun j hj hx=>?_⟩
  have hc:y.cps[j]? =some c:=Array.getElem?_toList.symm.trans hx
  refine P.getItem_str (c:=c) (by rw[decide_eq_false (Int.not_lt.mpr hk.1),decide_eq_false (Int.not_le.mpr hk.2)];rfl) ?_ (h _ _ ⟨⟨?_,by show 1≤2^20;exact aD rfl⟩,_,rfl⟩)
  ·rw[show y.length=y.cps.toList.length from Array.length_toList.symm,hj]
   exact hc
  ·have:=Array.all_eq_true'.mp (show y.cps.all _=true from hf.1) c (Array.mem_of_getElem? hc)
   show(#[c]:Array Nat).all _=true
   simpa using this
 |sdc ks vs k x hx=>
  obtain⟨a,f,rfl,_,hm,hf⟩:=aEj ro
  obtain⟨_,t,rfl⟩:=ri
  refine⟨"dict",_,hm.typeIs,slot_dict_getitem.lookup,?_⟩
  have:=hf k
  rw[hx] at this
  obtain⟨v,hv,r⟩:=this
  exact wpAny_getItem_of (by simp[PySem.strKind,Value.isStrOf]) hm hv (h v _ r)
 |idc ks vs k x hx=>
  obtain⟨a,f,rfl,_,hm,hf⟩:=aDC ro
  obtain⟨t,rfl⟩:=ri
  refine⟨"dict",_,hm.typeIs,slot_dict_getitem.lookup,?_⟩
  have:=hf k
  rw[hx] at this
  obtain⟨v,hv,r⟩:=this
  exact wpAny_getItem_of (by simp[intKind,Value.isInt]) hm hv (h v _ r)
inductive aJa(o:V)(Q:V→aA→Prop)(i:V)(σ:aA):Prop|mk (x:V) (h:xU σ o i x) (q:Q x σ)
abbrev aOU(md:Md)(slice:Expr)(loc:aX)(Q:V→aA→Prop)(X:bF→Prop):V→aA→Prop:=fun o σ1=>cP X σ1 loc md (aJa o Q) slice
inductive PtR(Q:Option Int→aA→Prop)(v:V)(σ:aA):Prop|mk (i:Int) (h:v=.int i) (q:Q (some i) σ)
theorem bR{value slice:Expr}{pos:Pos}{Q:V→aA→Prop}(h:cP X σ loc md (aOU md slice loc Q X) value)
  (hs:∀o i,subscripted slice false o i=operate [o,i] (getItem o i):=by intro _ _;with_unfolding_all rfl):cP X σ loc md Q (.Subscript value slice pos):=fun A env m s S=>by
 refine Subscript_ (dU S h fun a b va vb σ2 s2 q aft S2 ra rb=>?_)
 obtain⟨x,it,hq⟩:=q
 obtain⟨T,id,hT,hl,hw⟩:=vB (A:=A) (Qv:=EQ G σ Q s) (E:=EX σ X s) it S2.sim ra rb fun v t r=>⟨x,σ2,hq,r,aft.trans (.tok ..),S2.sim⟩
 exact tail_any hT hl hw (hs _ _)
noncomputable def aH8(md:Md)(e:Option Expr)(loc:aX)(σ:aA)(Q:Option Int→aA→Prop)(X:bF→Prop):Prop:=match e with
 |none=>Q none σ
 |some e=>cP X σ loc md (PtR Q) e
theorem xD{e:Option Expr}{Q:Option Int→aA→Prop}{K:Value→Shared→Prop}(S:St s σ m env A md loc)(h:aH8 md e loc σ Q X)
  (k:∀v p σ1 s1,Q p σ1→IsPart v p→cA s σ1 s1 σ→St s1 σ1 m env A md loc→K v s1):wpAny G.M A (evalPart e env) K (EX σ X s) s:=by
 induction e with
 |none=>exact wpAny_pure (k _ _ σ s h .none (.refl ..) S)
 |some e=>
  refine wpAny_mono (h A env m s S) (fun v s1 q=>?_) fun Z Z z=>z
  obtain⟨r,σ1,⟨i,rfl,hq⟩,⟨t,rfl⟩,h3,S1⟩:=S.ev q
  exact k _ _ σ1 s1 hq (.int i t) h3 S1
theorem bC.drop{P:Params}{h:Heap}:∀(n:Nat) {l:List V} {vs:List Value},bC P σ h l vs→bC P σ h (l.drop n) (vs.drop n)
 |0,_,_,r=>r
 |n+1,[],_,r=>by subst r;exact .nil
 |n+1,x::l,_,r=>by obtain⟨v,vs,rfl,_,r2⟩:=r;exact bC.drop n r2
theorem bC.take{P:Params}{h:Heap}:∀(n:Nat) {l:List V} {vs:List Value},bC P σ h l vs→bC P σ h (l.take n) (vs.take n)
 |0,_,_,r=>.nil
 |n+1,[],_,r=>by subst r;exact .nil
 |n+1,x::l,_,r=>by obtain⟨v,vs,rfl,r1,r2⟩:=r;exact .cons r1 (bC.take n r2)
theorem bC.rev{P:Params}{h:Heap}:∀{l:List V} {vs:List Value},bC P σ h l vs→bC P σ h l.reverse vs.reverse
 |[],_,r=>by subst r;exact .nil
 |x::l,_,r=>by
  obtain⟨v,vs,rfl,r1,r2⟩:=r
  refine rwL List.reverse_cons ?_
  refine rwL List.reverse_cons ?_
  exact r2.rev.append (.cons r1 .nil)
theorem aE2{x:Str}(h:PyData.strOk x=true)(lo hi:Option Int):PyData.strOk (Txt.slice x lo hi)=true:=by
 unfold Txt.slice
 refine kZ rfl (fun Z e=>e▸h) fun Z e=>e▸?_
 refine Array.all_eq_true'.mpr fun c hc=>?_
 rw[List.mem_toArray,List.mem_filterMap] at hc
 obtain⟨j,_,hj⟩:=hc
 exact Array.all_eq_true'.mp h c (Array.mem_of_getElem? hj)
theorem xW.cut{x:Str}(h:xW x)(lo hi:Option Int):xW (Txt.slice x lo hi):=⟨aE2 h.1 lo hi,aM (Txt.slice_le x lo hi) h.2⟩
theorem aBd{v:Value}{q:Option Int}(hv:IsPart v q):∃l:Option (Int×Tok),v=partValue l∧l.map (·.1)=q:=by
 induction hv with
 |none=>exact⟨none,rfl,rfl⟩
 |int i t=>exact⟨some (i,t),rfl,rfl⟩
abbrev aOx(o:V)(Q:V→aA→Prop)(lo hi:Option Int)(σ3:aA):Prop:=(∃l,lk σ3 o=.lst l∧l.length≤2^20∧Mk σ3 (.lst (oX l lo hi)) (.lst (oX l lo hi)) Q)∨∃x,o=.str x∧Q (.str (Txt.slice x lo hi)) σ3
abbrev aMw(md:Md)(upper:Option Expr)(loc:aX)(o:V)(Q:V→aA→Prop)(X:bF→Prop):Option Int→aA→Prop:=fun lo σ2=>aH8 md upper loc σ2 (aOx o Q lo) X
abbrev aOA(md:Md)(lower upper:Option Expr)(loc:aX)(Q:V→aA→Prop)(X:bF→Prop):V→aA→Prop:=fun o σ1=>aH8 md lower loc σ1 (aMw md upper loc o Q X) X
theorem gY{value:Expr}{lower upper:Option Expr}{p pos:Pos}{Q:V→aA→Prop}
  (h:cP X σ loc md (aOA md lower upper loc Q X) value):
  cP X σ loc md Q (.Subscript value (.Slice lower upper none p) pos):=fun A env m s S=>by
 refine Subscript_ (wpAny_mono (h A env m s S) (fun vo s1 q=>?_) fun Z Z z=>z)
 obtain⟨o,σ1,h1,h2,h3,S1⟩:=S.ev q
 refine wpAny_Slice (wpAny_mono (xD (K:=fun lv s2=>wpAny G.M A (evalPart upper env) (fun u s₂=>wpAny G.M A (evalPart none env) (fun st s₃=>wpAny G.M A (subscriptTail value (.Slice lower upper none p) vo (.ref s₃.heap.objs.size)) (EQ G σ Q s) (EX σ X s)
  {s₃ with heap:=s₃.heap.push {cls:=.type "slice",data:=.fields #[lv,u,st]}}) (EX σ X s) s₂) (EX σ X s) s2) S1 h1 fun lv lo σ2 s2 q2 pl a2 S2=>?_) (fun Z Z z=>z) fun Z Z z=>z.then h3)
 refine wpAny_mono (xD (K:=fun u s₂=>wpAny G.M A (evalPart none env) (fun st s₃=>wpAny G.M A (subscriptTail value (.Slice lower upper none p) vo (.ref s₃.heap.objs.size)) (EQ G σ Q s) (EX σ X s)
  {s₃ with heap:=s₃.heap.push {cls:=.type "slice",data:=.fields #[lv,u,st]}}) (EX σ X s) s₂) S2 q2 fun uv hi σ3 s3 q3 pu a3 S3=>?_) (fun Z Z z=>z) fun Z Z z=>(z.then a2).then h3
 refine rwL (evalPart_none _) ?_
 refine wpAny_pure ?_
 have ro:=(h2.step a2.keep a2.dom).step a3.keep a3.dom
 have aft:=(h3.trans a2).trans a3
 obtain⟨g1,g2⟩:=uC (tk:=s3.toks) S3.sim (dL s3.heap {cls:=.type "slice",data:=.fields #[lv,uv,.none]})
 rcases q3 with⟨l,hl,hz,hq⟩|⟨x,rfl,hq⟩
 ·obtain⟨a,vs,n,rfl,ho,hr⟩:=hM S3.sim ro hl
  have hlen:=hr.length
  replace hlen:=Array.length_toList▸hlen
  have hT:s3.heap.IsList a vs:=⟨_,ho,rfl,n,rfl⟩
  refine tail_any (hT.push _).typeIs list_getitem_lookup (wpAny_getItem_list_slice (hT.push _) (Heap.IsSliceOf.new ..) pl pu .none (by simp) ?_ (by exact rwL hlen (jK hz))) (by rfl)
  refine rwL (slicePick_plain _ _ _) ?_
  refine(aAW (s:={s3 with heap:=s3.heap.push _,toks:=s3.toks}) (σ:=σ3) (tk:=s3.toks) (n:=0) g2 ?_ hq).then (aft.trans g1)
  refine rwL List.toList_toArray ?_
  refine rwL hlen ?_
  exact(bC.take _ (bC.drop _ hr)).step g1.keep g1.dom
 ·obtain⟨hf,t,rfl⟩:=ro
  obtain⟨l,rfl,rfl⟩:=aBd pl
  obtain⟨u,rfl,rfl⟩:=aBd pu
  refine tail_any (typeIs_str _ x t) F.slot_str_getitem.lookup (wpAny_getItem_str_slice (l:=l) (u:=u) (st:=none) ⟨_,Heap.get?_push_size _ rfl,rfl,rfl⟩ rfl ?_) (by rfl)
  have e1:sliceMade x t l u none=(if((1:Int)==1&&(Builtin.Str.strSliceIndices (l.map (·.1)) (u.map (·.1)) 1 x.length).length==x.length)=true then Made.val (.str x t)
   else Made.str ⟨((Builtin.Str.strSliceIndices (l.map (·.1)) (u.map (·.1)) 1 x.length).filterMap (x.cps[·]?)).toArray⟩):=rfl
  have e2:(if((1:Int)==1&&(Builtin.Str.strSliceIndices (l.map (·.1)) (u.map (·.1)) 1 x.length).length==x.length)=true then x
   else⟨((Builtin.Str.strSliceIndices (l.map (·.1)) (u.map (·.1)) 1 x.length).filterMap (x.cps[·]?)).toArray⟩)=Txt.slice x (l.map (·.1)) (u.map (·.1)):=rfl
  have hc:=hf.cut (l.map (·.1)) (u.map (·.1))
  refine rwL e1 ?_
  refine post_val_or_str ?_
  refine rwL e2 ?_
  exact⟨jK hc.2,fun t' k=>⟨_,σ3,hq,⟨hc,t',rfl⟩,(aft.trans g1).trans (.tok ..),g2⟩⟩
end
noncomputable def aJ4(K:Frag)(D C:Addr):Bool→Bool
 |true=>isIn K (.ref D) C
 |false=>kin_not K D C&&plainGet K D "__class__"&&hasDictIn K D&&(findIn K (.ref D) "__class__"==some (some (.builtin "object.__class__")))
  &&(specialIn K (.builtin "object.__class__") "__get__"==some (some (.builtin "getset_descriptor.__get__")))&&(takesIn K (.builtin "object.__class__")==some true)&&(mroIn K D (.type "object")==some true)
noncomputable def aCb(D C:Addr)(b:Bool):Prop:=∃K:Frag,K.In G.base∧aJ4 K D C b=true
noncomputable def aDB(C:Addr):Prop:=∃K:Frag,K.In G.base∧isNotIn K "NoneType" C=true
noncomputable def oM(σ:aA)(x:V):Option Nat:=match lk σ x with
 |.lst l=>some l.length
 |.tup l=>some l.length
 |.str s=>some s.length
 |_=>none
section
variable{md:Md}{A:Around}{env:Env}{m:Str→Option Value}{loc:aX}{σ σ':aA}{s s':Shared}{X:bF→Prop}{Q:V→aA→Prop}
theorem jH{P:Params}{h:Heap}{x:V}{vals:List Value}(r:bC P σ h [x] vals):∃v,vals=[v]∧bW P σ h x v:=by
 obtain⟨v,vs,rfl,r1,r2⟩:=r
 subst r2
 exact⟨v,rfl,r1⟩
theorem iK{P:Params}{h:Heap}{x y:V}{vals:List Value}(r:bC P σ h [x,y] vals):∃v w,vals=[v,w]∧bW P σ h x v∧bW P σ h y w:=by
 obtain⟨v,vs,rfl,r1,r2⟩:=r
 obtain⟨w,rfl,r3⟩:=jH r2
 exact⟨v,w,rfl,r1,r3⟩
theorem fK{x:V}{n:Nat}(h:oM σ x=some n)(hn:n≤2^60)(hq:Q (.int n) σ):aW Q σ X 0 (.builtin "len") [x]:=by
 intro md A env m loc s vals hmd hhd S hr
 obtain⟨v,rfl,r⟩:=jH hr
 have fin:∀k,k=n→EQ G σ Q s (.int (k:Nat) (s.toks+1)) {s with toks:=s.toks+1+1}:=fun k e=>⟨_,σ,hq,⟨s.toks+1,by exact rwL e rfl⟩,.tok ..,S.sim⟩
 unfold oM at h
 generalize hl:lk σ x=y at h
 cases y with
 |lst l=>
  obtain rfl:=bE h
  obtain⟨a,vs,k,rfl,ho,hz⟩:=hM S.sim r hl
  have e:=hz.length
  rw[Array.length_toList] at e
  exact PySem.Calls.call_len_list ⟨_,ho,rfl,k,rfl⟩ (by exact rwL e (Int.ofNat_lt.mpr (Nat.lt_of_le_of_lt hn (aD rfl)))) (fin _ e)
 |tup l=>
  obtain rfl:=bE h
  obtain rfl:=aDf hl
  obtain⟨a,vs,k,rfl,_,ho,hz⟩:=r
  have e:=hz.length
  rw[Array.length_toList] at e
  exact len_tuple ⟨_,ho,rfl,k,rfl⟩ (by exact rwL e (Int.ofNat_lt.mpr (Nat.lt_of_le_of_lt hn (aD rfl)))) (fin _ e)
 |str s=>
  obtain rfl:=bE h
  obtain rfl:=aCZ hl
  obtain⟨hf,t,rfl⟩:=r
  exact P.len_str (by exact Int.not_le.mpr (Int.ofNat_lt.mpr (Nat.lt_of_le_of_lt hn (aD rfl)))) (fin _ rfl)
 |_=>exact cZ h
theorem jN{i:Int}(hi:i.natAbs.log2<1920)(hf:xW (Str.ofString (toString i)))(hq:Q (.str (Str.ofString (toString i))) σ):aW Q σ X 0 (.type "str") [.int i]:=by
 intro md A env m loc s vals hmd hhd S hr
 obtain⟨v,rfl,t,rfl⟩:=jH hr
 exact P.str_of_int hi ⟨_,σ,hq,⟨hf,_,rfl⟩,.tok ..,S.sim⟩
theorem aCV{x:Str}{i:Int}(hi:PySem.intText? x=some i)(hl:x.length≤640)(hq:Q (.int i) σ):aW Q σ X 0 (.type "int") [.str x]:=by
 intro md A env m loc s vals hmd hhd S hr
 obtain⟨v,rfl,hf,t,rfl⟩:=jH hr
 exact KIN.call_text hi hl ⟨_,σ,hq,⟨_,rfl⟩,.tok ..,S.sim⟩
theorem rQ{x:V}{l:List V}(hl:lk σ x=.lst l)(hz:l.length≤2^20)(hq:Q (.tup l) σ):aW Q σ X 0 (.type "tuple") [x]:=by
 intro md A env m loc s vals hmd hhd S hr
 obtain⟨v,rfl,r⟩:=jH hr
 obtain⟨a,vs,k,rfl,ho,hR⟩:=hM S.sim r hl
 have e:=hR.length
 rw[Array.length_toList] at e
 refine call_tuple_list ⟨_,ho,rfl,k,rfl⟩ (fun h' hk=>?_) (by exact rwL e (jK hz))
 obtain⟨g1,g2⟩:=uC (tk:=s.toks) S.sim hk
 exact(aHO (s:={s with heap:=h',toks:=s.toks}) (tk:=s.toks) (n:=0) g2 (hR.step g1.keep g1.dom) hq).then g1
theorem iN{x:V}{C D:Addr}{ks:List Str}{vs:List V}{b:Bool}(ok:G.Ok)(hl:look σ x=some (D,ks,vs))(hi:aCb D C b)(hq:Q (.bool b) σ):aW Q σ X 0 (.builtin "isinstance") [x,.ref C]:=by
 intro md A env m loc s vals hmd hhd S hr
 obtain⟨v,w,rfl,r,rfl⟩:=iK hr
 refine aAG S.sim r hl fun a dx es n e h1 h2 h3 h4=>?_
 subst e
 obtain⟨K,hK,hb⟩:=hi
 have I:InstAt s.heap a (instObj D dx) D (some (fX es n)):=⟨h1,rfl,rfl,h2⟩
 have X1:=hK.keeps S.frm.stays
 induction b with
 |true=>exact isi_call X1 (fun M=>I.type) hb (by intro q;cases q) ⟨_,σ,hq,rfl,.refl ..,S.sim⟩
 |false=>
  simp only[aJ4,Bool.and_eq_true] at hb
  obtain⟨⟨⟨⟨⟨⟨c1,c2⟩,c3⟩,c4⟩,c5⟩,c6⟩,c7⟩:=hb
  exact kin_callC X1 I c1 c2 c3 (cJ c4) (cJ c5) (cJ c6) (cJ c7) ⟨_,σ,hq,rfl,.tok ..,S.sim⟩
theorem aBJ{C:Addr}(hi:aDB C)(hq:Q (.bool false) σ):aW Q σ X 0 (.builtin "isinstance") [.none,.ref C]:=by
 intro md A env m loc s vals hmd hhd S hr
 obtain⟨v,w,rfl,r,rfl⟩:=iK hr
 subst r
 obtain⟨K,hK,hb⟩:=hi
 exact isn_call (P:=fun Z=>True) (hK.keeps S.frm.stays) (fun M=>Looks.of_pure rfl) hb (by intro e;cases e) trivial none_cls ⟨_,σ,hq,rfl,.tok ..,S.sim⟩
noncomputable def tyN:V→Option String
 |.int _=>some "int"
 |.str _=>some "str"
 |.tup _=>some "tuple"
 |.lst _=>some "list"
 |_=>none
noncomputable def aGT(n T:String):Option Bool:=if T="tuple" then some (n=="tuple") else if T="str" then some (n=="str") else none
noncomputable def aOj(x:V)(T:String):Option Bool:=match tyN x with
 |some n=>aGT n T
 |none=>none
theorem rG{n T:String}{b:Bool}(h:aGT n T=some b):(T="tuple"∧(n=="tuple")=b)∨(T="str"∧(n=="str")=b):=by
 unfold aGT at h
 by_cases h1:T="tuple"
 ·replace h:=(if_pos h1)▸h
  obtain rfl:=bE h
  exact .inl ⟨h1,rfl⟩
 ·replace h:=(if_neg h1)▸h
  by_cases h2:T="str"
  ·replace h:=(if_pos h2)▸h
   obtain rfl:=bE h
   exact .inr ⟨h2,rfl⟩
  ·replace h:=(if_neg h2)▸h
   exact cZ h
theorem yO{x:V}{T:String}{b:Bool}(hi:aOj (lk σ x) T=some b)(hq:Q (.bool b) σ):aW Q σ X 0 (.builtin "isinstance") [x,.ty T]:=by
 intro md A env m loc s vals hmd hhd S hr
 obtain⟨v,w,rfl,r,rfl⟩:=iK hr
 have fin:∀t,EQ G σ Q s (.bool b) {s with toks:=t}:=fun t=>⟨_,σ,hq,rfl,.tok ..,S.sim⟩
 by_cases hl:∃l,lk σ x=.lst l
 ·obtain⟨l,hl⟩:=hl
  obtain⟨a,vs,k,rfl,ho,_⟩:=hM S.sim r hl
  replace hi:=hl▸hi
  rcases rG (n:="list") hi with⟨rfl,rfl⟩|⟨rfl,rfl⟩
  ·exact IsiPair.list_tuple ho rfl (fin _)
  ·exact IsiPair.list_str ho rfl (fin _)
 ·replace hi:=(aKF hl)▸hi
  cases x with
  |int i=>
   obtain⟨t,rfl⟩:=r
   rcases rG (n:="int") hi with⟨rfl,rfl⟩|⟨rfl,rfl⟩
   ·exact IsiPair.int_tuple (fin _)
   ·exact IsiPair.int_str (fin _)
  |str s=>
   obtain⟨_,t,rfl⟩:=r
   rcases rG (n:="str") hi with⟨rfl,rfl⟩|⟨rfl,rfl⟩
   ·exact IsiPair.str_tuple (fin _)
   ·exact IsiPair.str_str (fin _)
  |tup l=>
   obtain⟨a,vs,n,rfl,_,ho,_⟩:=r
   rcases rG (n:="tuple") hi with⟨rfl,rfl⟩|⟨rfl,rfl⟩
   ·exact IsiPair.tuple_tuple ho rfl (fin _)
   ·exact IsiPair.tuple_str ho rfl (fin _)
  |lst l=>exact absurd ⟨_,rfl⟩ hl
  |_=>exact cZ hi
end
noncomputable def qB:List Str→List V→aX→aX
 |x::xs,v::vs,loc=>qB xs vs ((x,.val v)::loc)
 |_,_,loc=>loc
noncomputable def kX:List Expr→Option (List Str)
 |[]=>some []
 |e::es=>match qK e with
  |some x=>(kX es).map (x::·)
  |none=>none
theorem aAp{e:Expr}{es:List Expr}{ns:List Str}(h:kX (e::es)=some ns):∃x p ms,e=.Name x p∧kX es=some ms∧ns=x::ms:=by
 unfold kX at h
 induction hx:qK e with
 |none=>
  replace h:=hx▸h
  exact cZ h
 |some x=>
  replace h:=hx▸h
  obtain⟨p,rfl⟩:=yG hx
  refine oE h fun ms h1 h2=>?_
  exact⟨x,p,ms,rfl,h1,h2.symm⟩
noncomputable def aAN(sc:List (Str×NameKind)):Env:={scope:={kind:=.function,names:=sc,isGenerator:=false,isCoroutine:=false},locals:=0,globals:=0,cells:=[],qual:="",func:=none,code:=.none,frame:=none,builtins:=0}
noncomputable def locals(sc:List (Str×NameKind))(ns:List Str):Bool:=ns.all fun x=>sc.lookup x==some .local
section
variable{md:Md}{A:Around}{env:Env}{m:Str→Option Value}{loc:aX}{σ σ':aA}{s s':Shared}{X:bF→Prop}
theorem aA5{ts:List Expr}{v:Expr}{e1 e2:Env}(h1:e1.blockKind=e2.blockKind)(h2:∀x,e1.kindOf x=e2.kindOf x):swappedStores ts v e1=swappedStores ts v e2:=by
 have:e1.kindOf=e2.kindOf:=funext h2
 unfold swappedStores
 rw[h1,this]
theorem aDm{ts:List Expr}{v:Expr}(S:Frm md A env σ s.heap):swappedStores ts v env=swappedStores ts v (aAN md.sc):=by
 refine aA5 ?_ fun x=>?_
 ·unfold Env.blockKind;rw[S.kind];rfl
 ·show env.scope.names.lookup x=md.sc.lookup x
  rw[S.names]
theorem wF{sc:List (Str×NameKind)}{ns:List Str}(h:locals sc ns=true):∀x∈ns,sc.lookup x=some .local:=fun x hx=>by
 unfold locals at h
 exact cJ (eT h x hx)
theorem aLA{E:Value→Shared→Prop}{Qu:Unit→Shared→Prop}:∀{ns:List Str} {ts:List (Value→Sem Unit)} {items:List V} {vs:List Value} {m:Str→Option Value} {loc:aX} {s:Shared},
  St s σ m env A md loc→(∀x∈ns,md.sc.lookup x=some .local)→bC G.P σ s.heap items vs→items.length=ns.length→ts.length=ns.length→
  (∀(i:Nat) (x:Str) (t:Value→Sem Unit),ns[i]? =some x→ts[i]? =some t→∀v Q s,wpAny G.M A (storeName env x v) Q E s→wpAny G.M A (t v) Q E s)→
  (∀m' s',St s' σ m' env A md (qB ns items loc)→eK env.locals σ σ s s'→Qu () s')→wpAny G.M A (assignInOrder ts vs) Qu E s
 |[],[],items,vs,m,loc,s,S,_,r,hl,_,_,h=>by
  cases items with
  |cons _ _=>cases hl
  |nil=>subst r;exact wpAny_pure (h m s S (.refl ..))
 |[],_::_,_,_,_,_,_,_,_,_,_,hl,_,_=>by cases hl
 |_::_,[],_,_,_,_,_,_,_,_,_,hl,_,_=>by cases hl
 |x::ns,t::ts,items,vs,m,loc,s,S,hx,r,hl,ht,hs,h=>by
  cases items with
  |nil=>cases hl
  |cons y items=>
   obtain⟨v,ws,rfl,r1,r2⟩:=r
   show wpAny G.M A (do holding ws (t v);assignInOrder ts ws) Qu E s
   refine wpAny_bind (wpAny_holding (hs 0 x t rfl rfl _ _ _ (lQ S (hx x (eS ..)) r1 fun s' S' a=>?_)))
   refine aLA S' (fun z hz=>hx z (fW _ hz)) (r2.mono fun b o e z=>⟨(a.keep b o e).1 z,(a.dom b o e).1 z⟩) (by simpa using hl) (by simpa using ht) (fun i z u h1 h2=>hs (i+1) z u (by simpa using h1) (by simpa using h2)) fun m' s'' S'' a'=>h m' s'' S'' (a.trans a')
structure aL9(env:Env)(elts:List Expr)(ns:List Str):Prop where
 len:(assignEach elts env).length=ns.length
 nos:(assignEach elts env).findIdx? (·.1)=none
 at_:∀(i:Nat) (x:Str) (t:Value→Sem Unit),ns[i]? =some x→((assignEach elts env).map (·.2))[i]? =some t→∃p,t=assign (.Name x p) env
theorem aFe{elts:List Expr}:∀{ns:List Str},kX elts=some ns→aL9 env elts ns:=by
 induction elts with
 |nil=>intro ns h;obtain rfl:=bE h;exact⟨rfl,rfl,fun i x t h=>by simp at h⟩
 |cons e es ih=>
  intro ns h
  obtain⟨x,p,ms,rfl,hm,rfl⟩:=aAp h
  obtain⟨h1,h2,h3⟩:=ih hm
  have e1:assignEach (.Name x p::es) env=(false,assign (.Name x p) env)::assignEach es env:=rfl
  refine⟨by exact rwL e1 (rwL eX (rwL h1 (rwL eX rfl))),by rw[e1,List.findIdx?_cons];simpa using h2,fun i y t k1 k2=>?_⟩
  replace k2:=e1▸k2
  induction i with
  |zero=>obtain rfl:=bE k1;obtain rfl:=bE k2;exact⟨p,rfl⟩
  |succ i=>exact h3 i y t k1 k2
theorem wM{elts:List Expr}{k:Nat}{tp:Pos}{ns:List Str}{items:List V}{v:Value}{E:Value→Shared→Prop}{Qu:Unit→Shared→Prop}(S:St s σ m env A md loc)(hh:A.handled=none)(hn:kX elts=some ns)(hl:locals md.sc ns=true)
  (r:bW G.P σ s.heap (.tup items) v) (hz:items.length=ns.length) (h:∀m' s',St s' σ m' env A md (qB ns items loc)→eK env.locals σ σ s s'→Qu () s'):wpAny G.M A (assign (.Tuple elts k tp) env v) Qu E s:=by
 obtain⟨a,vs,n,rfl,_,ho,hr⟩:=r
 obtain⟨h1,h2,h3⟩:=aFe (env:=env) hn
 have hlen:=hr.length
 rw[Array.length_toList] at hlen
 refine assign_Tuple_tuple hh ⟨_,ho,rfl,n,rfl⟩ (by exact rwL h1 (rwL hlen (rwL hz rfl))) h2 fun h' he=>?_
 obtain⟨g1,g2⟩:=uC (tk:=s.toks) S.sim (h':=h') fun b o e=>he b o (Nat.ne_of_lt (Heap.lt_size e)) e
 refine aLA (ts:=((assignEach elts env).map (·.2))) (S.after g1 g2) (wF hl) (hr.step g1.keep g1.dom) hz (by simpa using h1) (fun i x t k1 k2 v Q s hw=>?_) fun m' s' S' a'=>h m' s' S' ((g1.l _).trans a')
 obtain⟨p,rfl⟩:=h3 i x t k1 k2
 exact wpAny_assign_Name hw
inductive aOM(ns:List Str)(o:Option (List Str))(loc:aX)(Q:gA→aX→aA→Prop)(v:V)(σ:aA):Prop|mk (items:List V) (h:v=.tup items) (hz:items.length=ns.length) (q:Q .next (if o=none then qB ns items loc else qB ns.reverse items.reverse loc) σ)
theorem bD{elts:List Expr}{k:Nat}{tp pos:Pos}{value:Expr}{ns:List Str}{o:Option (List Str)}{Q:gA→aX→aA→Prop}(hd:md.hd=none)(hn:kX elts=some ns)(hl:locals md.sc ns=true)(hw:swappedStores [.Tuple elts k tp] value (aAN md.sc)=pure o)(ho:o=none∨o=some ns)
  (h:cP X σ loc md (aOM ns o loc Q) value) (hc:gN value=true:=by rfl):
  sY md (.Assign [.Tuple elts k tp] value pos) loc σ Q X:=fun A env m s S=>by
 have hh:A.handled=none:=S.frm.hand.trans hd
 have hw':=(aDm S.frm).trans hw
 rcases ho with rfl|rfl
 ·refine Assign_Tuple (wpAny_mono (h A env m s S) (fun v s1 q=>?_) fun Z Z z=>z.sx S) (by exact hO hc (some (.Tuple elts k tp)) pos.line env) hw'
  obtain⟨r,σ1,⟨items,rfl,hz,hq⟩,h2,h3,S1⟩:=S.ev q
  refine wM S1 hh hn hl h2 hz fun m' s' S' a'=>?_
  exact⟨.next,_,σ1,m',hq,rfl,(h3.l _).trans a',S'.ns,S'.sim,S'.loc⟩
 ·refine Assign_Tuple_swapped (wpAny_mono (h A env m s S) (fun v s1 q=>?_) fun Z Z z=>z.sx S) (by exact hO hc (some (.Tuple elts k tp)) pos.line env) hw'
  obtain⟨r,σ1,⟨items,rfl,hz,hq⟩,h2,h3,S1⟩:=S.ev q
  obtain⟨a,vs,n,rfl,_,ho,hr⟩:=h2
  have hlen:=hr.length
  replace hlen:=Array.length_toList▸hlen
  have e1:ns.length=vs.size:=by exact rwL hlen (rwL hz rfl)
  refine rwL e1 ?_
  refine unpackItems_tuple hh ⟨_,ho,rfl,n,rfl⟩ fun h' he=>?_
  obtain⟨g1,g2⟩:=uC (tk:=s1.toks) S1.sim (h':=h') fun b o e=>he b o (Nat.ne_of_lt (Heap.lt_size e)) e
  refine aLA (ns:=ns.reverse) (ts:=(ns.reverse.map fun n=>bindName env n)) (S1.after g1 g2) (fun x hx=>wF hl x (List.mem_reverse.mp hx)) ((hr.step g1.keep g1.dom).rev) (by simpa using hz) (by simp) (fun i x t k1 k2 v Q s hw=>?_) fun m' s' S' a'=>?_
  ·replace k2:=(List.getElem?_map)▸k2
   replace k2:=k1▸k2
   obtain rfl:=bE k2
   exact bindName_ hw
  ·exact⟨.next,_,σ1,m',hq,rfl,((h3.trans g1).l _).trans a',S'.ns,S'.sim,S'.loc⟩
structure mZ(σ:aA)(wr:List Addr)(h h':Heap):Prop where
 keep:∀b o,b∉wr→h.get? b=some o→h'.get? b=some o
 dat:∀b o,h.get? b=some o→σ b=none→Dat o→h'.get? b=some o
structure Wk(tgt:Expr)(I:Addr)(wr:List Addr)(xs:List V)(Sw:Nat→aA→Heap→Prop):Prop where
 frame:∀i σ σ' h h',Sw i σ h→(∀b o,h.get? b=some o→σ b=none→h'.get? b=some o∧σ' b=none)→Sw i σ' h'
 item:∀(A:Around) i σ (s:Shared) v (K:Value→Shared→Prop) (Q:Option Value→Shared→Prop) (E:Value→Shared→Prop),A.handled=none→iH G.P σ s.heap→Sw i σ s.heap→xs[i]? =some v→
  (∀u s',wpAny G.M A (letOwnedTupleGo tgt (.ref I) u) (fun Z s''=>K u s'') E s'→Q (some u) s')→
  (∀u h' tk,bW G.P σ h' v u→mZ σ wr s.heap h'→Sw (i+1) σ h'→K u {s with heap:=h',toks:=tk})→wpAny G.M A (pyNext (.ref I)) Q E s
 done:∀(A:Around) i σ (s:Shared) (Q:Option Value→Shared→Prop) (E:Value→Shared→Prop),A.handled=none→iH G.P σ s.heap→Sw i σ s.heap→xs[i]? =none→
  (∀h' tk,mZ σ wr s.heap h'→Q none {s with heap:=h',toks:=tk})→wpAny G.M A (pyNext (.ref I)) Q E s
 off:∀i σ h,Sw i σ h→∀b∈wr,σ b=none
 self:∀(A:Around) i σ (s:Shared) (Q:Value→Shared→Prop) (E:Value→Shared→Prop),A.handled=none→Sw i σ s.heap→Q (.ref I) s→wpAny G.M A (pyIter (.ref I)) Q E s
noncomputable def aFH(e:Expr)(el:List Expr):Prop:=∃k tp,e=.Tuple el k tp
noncomputable def aNM(e:Expr):Option (List Expr):=qA (p:=aFH e) (if h:e.ctorIdx=25 then Expr.Tuple.elim e h fun el k tp=>some ⟨el,k,tp,rfl⟩ else none)
noncomputable def aDx(e:Expr):Option (List Str):=(aNM e).bind kX
theorem aGh{e:Expr}{ns:List Str}(h:aDx e=some ns):∃el k tp,e=.Tuple el k tp∧kX el=some ns:=by
 obtain⟨el,h1,h2⟩:=Option.bind_eq_some_iff.mp h
 obtain⟨k,tp,h3⟩:=eE (p:=aFH e) h1
 exact⟨el,k,tp,h3,h2⟩
noncomputable def aKc(target:Expr)(v:V)(loc:aX):Option aX:=(aDx target).bind fun ns=>(aKv v).bind fun items=>if items.length=ns.length then some (qB ns items loc) else none
noncomputable def tZ(target:Expr)(v:V)(loc:aX):Option aX:=match qK target with
 |some x=>some ((x,.val v)::loc)
 |none=>aKc target v loc
noncomputable def jA(sc:List (Str×NameKind))(target:Expr):Bool:=match qK target with
 |some x=>sc.lookup x==some .local
 |none=>(aDx target).any (locals sc)
theorem aHb{target:Expr}{v:V}{loc loc':aX}(h:aKc target v loc=some loc'):∃ns items,aDx target=some ns∧v=.tup items∧items.length=ns.length∧qB ns items loc=loc':=by
 obtain⟨ns,h1,h2⟩:=Option.bind_eq_some_iff.mp h
 obtain⟨items,h3,h4⟩:=Option.bind_eq_some_iff.mp h2
 by_cases hz:items.length=ns.length
 ·replace h4:=(if_pos hz)▸h4
  obtain rfl:=bE h4
  exact⟨ns,items,h1,aHS h3,hz,rfl⟩
 ·replace h4:=(if_neg hz)▸h4
  exact cZ h4
abbrev LpQ(K:aX→aA→Prop)(Q:gA→aX→aA→Prop):gA→aX→aA→Prop:=fun fl loc'' σ''=>match fl with
   |.next|.cont=>K loc'' σ''
   |.brk=>Q .next loc'' σ''
   |.ret r=>Q (.ret r) loc'' σ''
noncomputable def aCH(md:Md)(target:Expr)(body:List Stmt)(Q:gA→aX→aA→Prop)(X:bF→Prop):List V→aX→aA→Prop
 |[],loc,σ=>Q .next loc σ
 |v::vs,loc,σ=>∃loc',tZ target v loc=some loc'∧jC X σ loc' md (LpQ (aCH md target body Q X vs) Q) body
inductive aNr(md:Md)(A:Around)(env:Env)(target:Expr)(body:List Stmt)(Sw:Nat→aA→Heap→Prop)(xs:List V)(Q:gA→aX→aA→Prop)(X:bF→Prop)(σ0:aA)(s0:Shared)(n:Nat)(s:Shared):Prop
 |mk (σ:aA) (loc:aX) (m:Str→Option Value) (i:Nat) (rest:List V) (hn:n=rest.length) (hr:xs.drop i=rest) (S:St s σ m env A md loc) (a:eK env.locals σ0 σ s0 s) (st:Sw i σ s.heap) (F:aCH md target body Q X rest loc σ)
theorem mZ.rel{P:Params}{wr:List Addr}{h h':Heap}(w:mZ σ wr h h'){x:V}{v:Value}(r:bW P σ h x v):bW P σ h' x v:=r.monoD fun b o e z d=>⟨w.dat b o e z d,z⟩
theorem mZ.sim{P:Params}{wr:List Addr}{h h':Heap}(w:mZ σ wr h h')(off:∀b∈wr,σ b=none)(sim:iH P σ h):iH P σ h':=fun a mo e=>by
 obtain⟨o,ho,c⟩:=sim a mo e
 exact⟨o,w.keep a o (fun hm=>by rw[off a hm] at e;exact cZ e) ho,c.monoD fun b o e z d=>⟨w.dat b o e z d,z⟩⟩
theorem mZ.st{wr:List Addr}{h':Heap}{tk:Nat}(w:mZ σ wr s.heap h')(off:∀b∈wr,σ b=none)(nb:∀b∈wr,G.base.get? b=none)(S:St s σ m env A md loc):St {s with heap:=h',toks:=tk} σ m env A md loc:=by
 obtain⟨F,hn,sim,hl⟩:=S
 obtain⟨h1,h2,hn',h3,h4,h5,h6,h7,⟨fenv,outer,L,f1,f2,f3,f4,f5⟩,h9,h10,h11,h12⟩:=F
 have nm:∀b,σ b=some .mark→b∉wr:=fun b e hm=>by rw[off b hm] at e;exact cZ e
 refine⟨⟨h1,h2,hn',h3,h4,h5,h6,h7,⟨fenv,outer,L,f1,f2,f3,?_,f5⟩,fun b o e=>?_,h10,h11,h12⟩,?_,w.sim off sim,fun x lv e=>?_⟩
 ·exact dY.of' f4 fun b o hb e Z=>⟨o,w.keep b o (nm b (f5 b hb)) e,.refl o⟩
 ·exact w.keep b o (fun hm=>by rw[nb b hm] at e;exact cZ e) (h9 b o e)
 ·exact kG hn fun o e=>⟨o,w.keep _ o (nm _ h11) e,.refl o⟩
 ·have z:=hl x lv e
  induction lv with
  |val v=>obtain⟨k,u,hu,r⟩:=z;exact⟨k,u,hu,w.rel r⟩
  |cell c=>exact z
theorem mZ.after{wr:List Addr}{h':Heap}{tk:Nat}{L:Addr}{σ0:aA}{s0:Shared}(w:mZ σ wr s.heap h')(nw:∀b∈wr,s0.heap.get? b=none)(a:eK L σ0 σ s0 s):eK L σ0 σ s0 {s with heap:=h',toks:=tk}:=by
 obtain⟨⟨h,t,rfl⟩,k,d,l⟩:=a
 have nm:∀b o,s0.heap.get? b=some o→b∉wr:=fun b o e hm=>by rw[nw b hm] at e;exact cZ e
 refine⟨⟨_,_,rfl⟩,fun b o e=>⟨fun z=>w.keep b o (nm b o e) ((k b o e).1 z),fun z n=>?_⟩,d,fun b o e=>let⟨o',e'⟩:=l b o e;⟨o',w.keep b o' (nm b o e) e'⟩⟩
 obtain⟨o',e',q⟩:=(k b o e).2 z n
 exact⟨o',w.keep b o' (nm b o e) e',q⟩
theorem aGu{target:Expr}{I:Addr}{v:Value}{o:Obj}{T:String}{E:Value→Shared→Prop}{Qu:Unit→Shared→Prop}(ho:s.heap.get? I=some o)(hc:o.cls=.type T)
  (hT:(["enumerate","zip","dict_itemiterator","dict_reverseitemiterator","odict_iterator","itertools.zip_longest","itertools.pairwise"]:List String).contains T=false) (h:Qu () s):wpAny G.M A (letOwnedTupleGo target (.ref I) v) Qu E s:=by
 have main:wpAny G.M A (do
   let(.ref r,.ref a):=((Value.ref I),v)|return
   let o ←load r
   match o.cls,o.data with
   |.type n,.fields vs=>
    if["enumerate","zip","dict_itemiterator","dict_reverseitemiterator","odict_iterator","itertools.zip_longest","itertools.pairwise"].contains n&&vs[0]?==some (rawInt a) then
     rule "for.unpacks-the-owned-tuple"
     updateField r 0 .none
   |_,_=>pure ():Sem Unit) Qu E s:=by
  induction v with
  |ref a=>
   refine wpAny_bind (wpAny_load ho ?_)
   refine rwL hc ?_
   cases o.data <;> try exact wpAny_pure h
   dsimp only
   refine rwL hT ?_
   refine rwL (Bool.false_and _) ?_
   exact wpAny_pure h
  |_=>exact wpAny_pure h
 unfold letOwnedTupleGo
 cases target <;> first|exact main|exact wpAny_pure h
theorem vT{target:Expr}{v:V}{u:Value}{loc':aX}{E:Value→Shared→Prop}{Qu:Unit→Shared→Prop}(S:St s σ m env A md loc)(hh:A.handled=none)(ht:jA md.sc target=true)(hb:tZ target v loc=some loc')
  (r:bW G.P σ s.heap v u) (h:∀m' s',St s' σ m' env A md loc'→eK env.locals σ σ s s'→Qu () s'):wpAny G.M A (assign target env u) Qu E s:=by
 unfold tZ at hb
 unfold jA at ht
 induction hx:qK target with
 |some x=>
  rw[hx] at hb ht
  obtain⟨p,rfl⟩:=yG hx
  obtain rfl:=bE hb
  exact wpAny_assign_Name (lQ S (cJ ht) r fun s' S' a=>h _ s' S' a)
 |none=>
  rw[hx] at hb ht
  obtain⟨ns,items,hn,rfl,hz,rfl⟩:=aHb hb
  rw[hn] at ht
  obtain⟨elts,k,tp,rfl,hn⟩:=aGh hn
  exact wM S hh hn ht r hz h
theorem aBc{b:Addr}(hs:G.base.StaysIn s.heap)(h:s.heap.get? b=none):G.base.get? b=none:=by
 induction hq:G.base.get? b with
 |none=>rfl
 |some o=>exact cZ (h.symm.trans (hs _ _ hq))
theorem aJO{target:Expr}{body:List Stmt}{I:Addr}{wr:List Addr}{xs:List V}{Sw:Nat→aA→Heap→Prop}{Q:gA→aX→aA→Prop}{σ0:aA}{s0:Shared}{loc0:aX}{m0:Str→Option Value}
  (W:Wk target I wr xs Sw) (hd:md.hd=none) (ht:jA md.sc target=true) (S0:St s0 σ0 m0 env A md loc0) (hw:∀b∈wr,s0.heap.get? b=none)
  (S:St s σ m env A md loc) (a:eK env.locals σ0 σ s0 s) (st:Sw 0 σ s.heap) (F:aCH md target body Q X xs loc σ):
  codeAny G.M A (.forLoop target (.ref I) body [] env) (fun r s'=>match r with|.ok f=>SQ env σ0 Q s0 f s'|.error e=>cameBackBy G.M A env (SX env σ0 X s0) e s') s:=by
 have hh:A.handled=none:=S0.frm.hand.trans hd
 have nb:∀b∈wr,G.base.get? b=none:=fun b hb=>aBc S0.frm.stays (hw b hb)
 have pass:=yP (X:=X) S0.frm (let⟨o,_,_,e,_⟩:=S0.ns;⟨o,e⟩)
 refine codeAny_forLoop_any (aNr md A env target body Sw xs Q X σ0 s0) ?_ xs.length ⟨σ,loc,m,0,xs,rfl,rfl,S,a,st,F⟩
 rintro n s1 ⟨σ1,loc1,m1,i1,rest,hn,hr,S1,a1,st1,F1⟩
 have hx:xs[i1]? =rest[(0:Nat)]?:=(congrArg (xs[·]?) (Nat.add_zero i1)).symm.trans (List.getElem?_drop.symm.trans (congrArg (·[(0:Nat)]?) hr))
 have off:=W.off _ _ _ st1
 induction rest with
 |nil=>
  refine W.done A i1 σ1 s1 _ _ hh S1.sim st1 hx fun h' tk w=>wpAny_execs_nil ?_
  have S2:=w.st (tk:=tk) off nb S1
  exact⟨.next,loc1,σ1,m1,F1,rfl,w.after hw a1,S2.ns,S2.sim,S2.loc⟩
 |cons v vs=>
  obtain⟨loc',hb,hB⟩:=F1
  have hr':xs.drop (i1+1)=vs:=List.tail_drop.symm.trans (congrArg List.tail hr)
  refine W.item A i1 σ1 s1 v _ _ _ hh S1.sim st1 hx (fun u s' h=>h) fun u h' tk hr w st2=>?_
  have a2:=w.after (tk:=tk) hw a1
  refine vT (w.st (tk:=tk) off nb S1) hh ht hb hr fun m' s3 S3 a3=>?_
  refine wpAny_mono (hB A env m' s3 S3) (fun f s4 q=>?_) fun e s4 q=>pass e s4 ((q.then a3).then a2)
  obtain⟨fl,loc4,σ4,m4,q1,q2,q3,S4⟩:=S3.sq q
  have a4:=(a2.trans a3).trans q3
  have go:aCH md target body Q X vs loc4 σ4→∃m,m<n∧aNr md A env target body Sw xs Q X σ0 s0 m s4:=fun q=>⟨vs.length,hn▸Nat.lt_succ_self _,σ4,loc4,m4,i1+1,vs,rfl,hr',S4,a4,W.frame _ _ _ _ _ st2 fun b o e z=>have e3:=(a3.keep b o e).1 z;⟨(q3.keep b o e3).1 z,(q3.dom b o e3).1 z⟩,q⟩
  induction fl with
  |next=>
   subst q2
   exact go q1
  |cont=>subst q2;exact go q1
  |brk=>subst q2;exact⟨.next,loc4,σ4,m4,q1,rfl,a4,S4.ns,S4.sim,S4.loc⟩
  |ret r=>
   obtain⟨w',rfl,hr'⟩:=q2
   exact⟨.ret r,loc4,σ4,m4,q1,⟨w',rfl,hr'⟩,a4,S4.ns,S4.sim,S4.loc⟩
inductive ItQ(target:Expr)(σ:aA)(C:List V→aA→Prop)(s:Shared)(it:Value)(s2:Shared):Prop
 |mk (I:Addr) (wr:List Addr) (xs:List V) (Sw:Nat→aA→Heap→Prop) (σ2:aA) (h1:it=.ref I) (h2:Wk target I wr xs Sw) (h3:Sw 0 σ2 s2.heap) (h4:cA s σ2 s2 σ) (h5:iH G.P σ2 s2.heap) (h6:∀b∈wr,s.heap.get? b=none) (h7:C xs σ2)
noncomputable def aCj(md:Md)(target:Expr)(e:Expr)(loc:aX)(σ:aA)(C:List V→aA→Prop)(X:bF→Prop):Prop:=
 ∀A env m s,A.handled=none→St s σ m env A md loc→wpAny G.M A (eval e env) (fun x s1=>wpAny G.M A (pyIter x) (ItQ target σ C s) (EX σ X s) s1) (EX σ X s) s
abbrev aPu(md:Md)(target:Expr)(body:List Stmt)(Q:gA→aX→aA→Prop)(X:bF→Prop)(loc:aX):List V→aA→Prop:=fun xs σ1=>aCH md target body Q X xs loc σ1
theorem kH{target iter:Expr}{body:List Stmt}{pos:Pos}{Q:gA→aX→aA→Prop}(hd:md.hd=none)(ht:jA md.sc target=true)
  (h:aCj md target iter loc σ (aPu md target body Q X loc) X) (hs:∀env x,foldedSetIterable iter env x=pure x:=by intro _ _;rfl):sY md (.For target iter body [] pos) loc σ Q X:=fun A env m s S=>by
 refine wpAny_For (wpAny_mono (h A env m s (S.frm.hand.trans hd) S) (fun x s1 q=>wpAny_mono q (fun it s2 q2=>?_) fun Z Z z=>z.sx S) fun Z Z z=>z.sx S) (hs env)
 obtain⟨I,wr,xs,Sw,σ2,rfl,W,st,aft,sim,nw,F⟩:=q2
 exact aJO W hd ht S nw (S.after aft sim) (aft.l _) st F
theorem jC.mono{ss:List Stmt}{Q Q':gA→aX→aA→Prop}(h:jC X σ loc md Q ss)(hQ:∀f l s,Q f l s→Q' f l s):jC X σ loc md Q' ss:=fun A env m s S=>
 wpAny_mono (h A env m s S) (fun Z Z q=>by
  obtain⟨fl,loc',σ',m',h1,h2,h3,h4⟩:=q
  exact⟨fl,loc',σ',m',hQ _ _ _ h1,h2,h3,h4⟩) fun Z Z z=>z
end
noncomputable def zZ(s:Str):List V:=s.cps.toList.map fun c=>.str ⟨#[c]⟩
noncomputable def xB(n:Nat):List V:=(List.range n).map fun(i:Nat)=>V.int i
inductive aCT(σ:aA):V→List V→Prop
 |lst (l:List V):aCT σ (.lst l) l
 |tup (l:List V):aCT σ (.tup l) l
 |str (s:Str) (h:s.cps.all (·<128)=true):aCT σ (.str s) (zZ s)
 |idc (ks:List Int) (vs:List V) (h:ks.Nodup) (hz:ks.length=vs.length):aCT σ (.idc ks vs) (ks.map V.int)
 |rng (n:Nat) (h:n≤2^60):aCT σ (.rng n) (xB n)
noncomputable def aDN:Around:={}
section
variable{tgt:Expr}{md:Md}{A:Around}{env:Env}{m:Str→Option Value}{loc:aX}{σ σ':aA}{s s':Shared}{X:bF→Prop}
theorem Wk.of{I:Addr}{fp wr:List Addr}{n:Nat}{P:Nat→Value→Prop}{Sw:Nat→Heap→Prop}{xs:List V}{Rel:aA→Heap→Prop}(W:∀A:Around,A.handled=none→Walks G.prog G.w A I fp wr n P Sw)(hn:n=xs.length)
  (hlive:∀i h,Sw i h→∀b∈fp,∃o,h.get? b=some o) (hwr:∀i h,Sw i h→∀b∈wr,∀o,h.get? b=some o→¬Dat o)
  (hRel:∀σ σ' h h',Rel σ h→(∀b o,h.get? b=some o→σ b=none→Dat o→h'.get? b=some o∧σ' b=none)→Rel σ' h')
  (hP:∀σ h i u v,Rel σ h→P i u→xs[i]? =some v→bW G.P σ h v u)
  (hown:∀i h,Sw i h→∃o T,h.get? I=some o∧o.cls=.type T∧(["enumerate","zip","dict_itemiterator","dict_reverseitemiterator","odict_iterator","itertools.zip_longest","itertools.pairwise"]:List String).contains T=false):
  Wk tgt I wr xs (fun i σ h=>i≤n∧Sw i h∧Rel σ h∧∀b∈fp,σ b=none) where
 frame:=fun i σ σ' h h' ⟨hi,h1,h2,h3⟩ k=>⟨hi,(W aDN rfl).frame i h h' h1 fun b hb o e=>(k b o e (h3 b hb)).1,hRel _ _ _ _ h2 fun b o e z Z=>k b o e z,fun b hb=>by
  obtain⟨o,e⟩:=hlive i h h1 b hb
  exact(k b o e (h3 b hb)).2⟩
 item:=fun A i σ s v K Q E hh sim ⟨hi,h1,h2,h3⟩ hnx hgo hQ=>by
  have hlt:i<n:=by
   refine rwL hn ?_
   exact(gB hnx).1
  refine(W A hh).item i s Q E hlt h1 fun u h' tk hp h1' hk=>?_
  have w:mZ σ wr s.heap h':=⟨hk,fun b o e z d=>hk b o (fun hm=>hwr i _ h1 b hm o e d) e⟩
  have h2':=hRel _ σ _ h' h2 fun b o e z d=>⟨w.dat b o e z d,z⟩
  obtain⟨o,T,ho,hc,hT⟩:=hown _ _ h1'
  exact hgo u _ (aGu (s:={s with heap:=h',toks:=tk}) ho hc hT (hQ u h' tk (hP _ _ _ _ _ h2' hp hnx) w ⟨hlt,h1',h2',h3⟩))
 done:=fun A i σ s Q E hh sim ⟨hi,h1,h2,h3⟩ hnx hQ=>by
  have hge:i=n:=by
   have:=List.getElem?_eq_none_iff.mp hnx
   exact Nat.le_antisymm hi (hn▸this)
  subst hge
  exact(W A hh).done s Q E h1 fun h' tk hk=>hQ h' tk ⟨hk,fun b o e z d=>hk b o (fun hm=>hwr _ _ h1 b hm o e d) e⟩
 off:=fun i σ h ⟨_,_,_,h3⟩ b hb=>h3 b ((W aDN rfl).sub b hb)
 self:=fun A i σ s Q E hh ⟨_,h1,_⟩ hq=>(W A hh).self i s Q E h1 hq
theorem sW{o:Obj}{T:String}(h:o.cls=.type T)(h1:T≠"tuple":=by exact zD T0)(h2:T≠"list":=by exact zD T0)(h3:T≠"dict":=by exact zD T0)(h4:T≠"range":=by exact zD T0):¬Dat o:=by
 rintro(d|d|d|⟨C,d⟩|d) <;> rw[h] at d <;> cases d
 ·exact h1 rfl
 ·exact h2 rfl
 ·exact h3 rfl
 ·exact h4 rfl
theorem aIM{I ax:Addr}(hne:ax≠I)(items:Array Value)(xs:List V)(hz:items.size=xs.length):Wk tgt I [I] xs (fun i σ h=>i≤items.size∧(h.IsListIter I ax i∧h.IsList ax items)∧bC G.P σ h xs items.toList∧∀b∈[I,ax],σ b=none):=
 Wk.of (fun A hh=>Walks.list hh I ax hne items) hz
  (fun i h st b hb=>by
   rcases eM hb with rfl|hb
   ·obtain⟨o,ho,_⟩:=st.1;exact⟨o,ho⟩
   ·obtain⟨o,ho,_⟩:=st.2
    have:=eR hb
    subst this;exact⟨o,ho⟩)
  (fun i h st b hb o e=>by
   have:=eR hb;subst this
   obtain⟨o',ho,hc,_⟩:=st.1
   rw[ho] at e;obtain rfl:=bE e;exact sW hc)
  (fun σ σ' h h' r k=>r.monoD k)
  (fun σ h i u v r hp hx=>by
   obtain⟨w,hw,q⟩:=r.get i hx
   replace hw:=(Array.getElem?_toList)▸hw
   replace hw:=hp▸hw
   obtain rfl:=bE hw;exact q)
  (fun i h st=>by obtain⟨o,ho,hc,_⟩:=st.1;exact⟨o,_,ho,hc,by exact rfl⟩)
theorem aGm{I ax:Addr}(hne:ax≠I)(items:Array Value)(xs:List V)(hz:items.size=xs.length):Wk tgt I [I] xs (fun i σ h=>i≤items.size∧(h.IsTupleIter I ax i∧h.IsTuple ax items)∧bC G.P σ h xs items.toList∧∀b∈[I,ax],σ b=none):=
 Wk.of (fun A hh=>Walks.tuple hh I ax hne items) hz
  (fun i h st b hb=>by
   rcases eM hb with rfl|hb
   ·obtain⟨o,ho,_⟩:=st.1;exact⟨o,ho⟩
   ·obtain⟨o,ho,_⟩:=st.2
    have:=eR hb
    subst this;exact⟨o,ho⟩)
  (fun i h st b hb o e=>by
   have:=eR hb;subst this
   obtain⟨o',ho,hc,_⟩:=st.1
   rw[ho] at e;obtain rfl:=bE e;exact sW hc)
  (fun σ σ' h h' r k=>r.monoD k)
  (fun σ h i u v r hp hx=>by
   obtain⟨w,hw,q⟩:=r.get i hx
   replace hw:=(Array.getElem?_toList)▸hw
   replace hw:=hp▸hw
   obtain rfl:=bE hw;exact q)
  (fun i h st=>by obtain⟨o,ho,hc,_⟩:=st.1;exact⟨o,_,ho,hc,by exact rfl⟩)
theorem aLP{I:Addr}{x:Str}{t:Tok}(hf:xW x):Wk tgt I [I] (zZ x) (fun i σ h=>i≤x.cps.size∧h.IsStrIter I "str_ascii_iterator" x t i∧True∧∀b∈[I],σ b=none):=
 Wk.of (Rel:=fun Z Z=>True) (fun A hh=>Walks.strAscii hh I x t) (by simp[zZ])
  (fun i h st b hb=>by
   have:=eR hb;subst this
   obtain⟨o,ho,_⟩:=st;exact⟨o,ho⟩)
  (fun i h st b hb o e=>by
   have:=eR hb;subst this
   obtain⟨o',ho,hc,_⟩:=st
   rw[ho] at e;obtain rfl:=bE e;exact sW hc)
  (fun Z Z Z Z Z Z=>trivial)
  (fun σ h i u v Z hp hx=>by
   obtain⟨c,tk,hc,rfl⟩:=hp
   unfold zZ at hx
   replace hx:=(List.getElem?_map)▸hx
   replace hx:=(Array.getElem?_toList)▸hx
   replace hx:=hc▸hx
   obtain rfl:=bE hx
   refine⟨⟨?_,by show 1≤2^20;exact aD rfl⟩,tk,rfl⟩
   have:=hf.1
   unfold PyData.strOk at this ⊢
   have:=Array.all_eq_true'.mp this c (Array.mem_of_getElem? hc)
   simpa using this)
  (fun i h st=>by obtain⟨o,ho,hc,_⟩:=st;exact⟨o,_,ho,hc,by exact rfl⟩)
theorem aHx{I:Addr}{n:Nat}:Wk tgt I [I] (xB n) (fun i σ h=>i≤n∧IsRangeIter h I (0+(i:Nat)*1) ((n:Int) - (i:Nat)) 1∧True∧∀b∈[I],σ b=none):=
 Wk.of (Rel:=fun Z Z=>True) (fun A hh=>Walks.range hh I 0 1 n) (by simp[xB])
  (fun i h st b hb=>by
   have:=eR hb;subst this
   exact⟨_,st⟩)
  (fun i h st b hb o e=>by
   have:=eR hb;subst this
   have e':h.get? b=_:=st
   rw[e'] at e;obtain rfl:=bE e;exact sW rfl)
  (fun Z Z Z Z Z Z=>trivial)
  (fun σ h i u v Z hp hx=>by
   obtain⟨tk,rfl⟩:=hp
   unfold xB at hx
   rw[List.getElem?_map] at hx
   obtain⟨j,hj,rfl⟩:=iJ hx
   have:j=i:=by
    rw[List.getElem?_range] at hj
    ·obtain rfl:=bE hj;rfl
    ·have:=(gB hj).1
     simpa using this
   subst this
   exact⟨tk,by simp⟩)
  (fun i h st=>⟨_,_,st,rfl,by exact rfl⟩)
theorem aBw{P:Params}(hP:P=G.w.params):∀{ks:List Str} {es:List DictEntry},KS P ks es→Pairs (PySem.strKind G.prog G.w) es (ks.zip (es.map (·.val)))
 |[],_,h=>by subst h;exact .nil
 |k::ks,_,h=>by
  obtain⟨e,es,t,rfl,h1,h2,hf,h3⟩:=h
  exact .cons (by rw[h1];simp[PySem.strKind,Value.isStrOf]) rfl (aBw hP h3)
theorem wA:∀{ks:List Int} {es:List DictEntry},KI ks es→Pairs (PySem.intKind G.prog G.w) es (ks.zip (es.map (·.val)))
 |[],_,h=>by subst h;exact .nil
 |k::ks,_,h=>by
  obtain⟨e,es,t,rfl,h1,h2,h3⟩:=h
  exact .cons (by rw[h1];simp[PySem.intKind,Value.isInt]) rfl (wA h3)
theorem aLL{P:Params}:∀{ks:List Str} {es:List DictEntry},KS P ks es→es.length=ks.length
 |[],_,h=>by subst h;rfl
 |k::ks,_,h=>by obtain⟨e,es,t,rfl,_,_,_,h3⟩:=h;simp[aLL h3]
theorem aDb:∀{ks:List Int} {es:List DictEntry},KI ks es→es.length=ks.length
 |[],_,h=>by subst h;rfl
 |k::ks,_,h=>by obtain⟨e,es,t,rfl,_,_,h3⟩:=h;simp[aDb h3]
theorem aIg{K:Type}[DecidableEq K]{knd:PySem.KeyKind G.prog G.w K}{I d:Addr}(hne:d≠I)(kvs:List (K×Value))(ep:Nat)(xs:List V)(hz:kvs.length=xs.length)
  (hP:∀σ h (i:Nat) u v,(∃k x,kvs[i]? =some (k,x)∧knd.is k u=true)→xs[i]? =some v→bW G.P σ h v u):
  Wk tgt I [I] xs (fun i σ h=>i≤kvs.length∧(h.IsKeyIter I d i kvs.length ep∧h.DictAt knd d kvs ep)∧True∧∀b∈[I,d],σ b=none):=
 Wk.of (Rel:=fun Z Z=>True) (fun A hh=>Walks.dictKeys hh I d hne kvs ep) hz
  (fun i h st b hb=>by
   rcases eM hb with rfl|hb
   ·obtain⟨o,ho,_⟩:=st.1;exact⟨o,ho⟩
   ·obtain⟨o,_,ho,_⟩:=st.2
    have:=eR hb
    subst this;exact⟨o,ho⟩)
  (fun i h st b hb o e=>by
   have:=eR hb;subst this
   obtain⟨o',ho,hc,_⟩:=st.1
   rw[ho] at e;obtain rfl:=bE e;exact sW hc)
  (fun Z Z Z Z Z Z=>trivial)
  (fun σ h i u v Z hp hx=>hP σ h i u v hp hx)
  (fun i h st=>by obtain⟨o,ho,hc,_⟩:=st.1;exact⟨o,_,ho,hc,by exact rfl⟩)
theorem rZ{n:Int}{Q:V→aA→Prop}(hq:Q (.rng n) σ):aW Q σ X 0 (.type "range") [.int n]:=by
 intro md A env m loc s vals hmd hhd S hr
 obtain⟨v,rfl,t,rfl⟩:=jH hr
 refine call_range_1 ?_
 obtain⟨g1,g2⟩:=uC (tk:=s.toks+1+1) S.sim (dL s.heap {cls:=.type "range",data:=.fields #[.int 0 s.toks,.int n t,.int 1 (s.toks+1)]})
 exact⟨_,σ,hq,⟨_,_,_,_,rfl,dE S.sim (eG s.heap),Heap.get?_push_size _ rfl⟩,g1,g2⟩
theorem aAw{h:Heap}{a:Addr}{o:Obj}(e:h.get? a=some o):a≠h.objs.size:=Nat.ne_of_lt (Heap.lt_size e)
theorem aOv{h:Heap}(sim:iH G.P σ h):∀b∈[h.objs.size],σ b=none:=fun b hb=>by
 have:=eR hb
 subst this
 induction hq:σ h.objs.size with
 |none=>rfl
 |some mo=>obtain⟨o,ho,_⟩:=sim _ _ hq;rw[eG] at ho;exact cZ ho
theorem aKN{I a:Addr}(h:∀b∈[I],σ b=none)(ha:σ a=none)(b:Addr)(hb:b∈[I,a]):σ b=none:=(eM hb).elim (fun e=>e▸h I (List.mem_singleton.mpr rfl)) fun e=>eR e▸ha
theorem aFn{v:V}{u:Value}{xs:List V}{K:Value→Shared→Prop}{E:Value→Shared→Prop}(it:aCT σ v xs)(hh:A.handled=none)(sim:iH G.P σ s.heap)(r:bW G.P σ s.heap v u)
  (h:∀I Sw s2,Wk tgt I [I] xs Sw→Sw 0 σ s2.heap→cA s σ s2 σ→iH G.P σ s2.heap→s.heap.get? I=none→K (.ref I) s2):wpAny G.M A (pyIter u) K E s:=by
 have hI:∀o,(s.heap.push o).get? s.heap.objs.size=some o∨o.isFreed=true:=fun o=>by
  cases hf:o.isFreed with
  |true=>exact .inr rfl
  |false=>exact .inl (Heap.get?_push_size _ hf)
 have fin:∀(o:Obj) Sw,Wk tgt s.heap.objs.size [s.heap.objs.size] xs Sw→Sw 0 σ (s.heap.push o)→K (.ref s.heap.objs.size) {s with heap:=s.heap.push o,toks:=s.toks}:=fun o Sw W st=>by
  obtain⟨g1,g2⟩:=uC (tk:=s.toks) sim (dL s.heap o)
  exact h _ Sw {s with heap:=s.heap.push o,toks:=s.toks} W st g1 g2 (eG _)
 have of1:=aOv sim
 cases it with
 |lst=>
  obtain⟨a,vs,n,rfl,hs,ho,hr⟩:=r
  have hT:s.heap.IsList a vs:=⟨_,ho,rfl,n,rfl⟩
  have hlen:=hr.length
  replace hlen:=Array.length_toList▸hlen
  refine wpAny_pyIter_list hT (fin _ _ (aIM (aAw ho) vs xs hlen) ⟨cM _,⟨⟨_,Heap.get?_push_size _ rfl,rfl,rfl⟩,hT.push _⟩,hr.mono fun b o e z=>⟨dL _ _ b o e,z⟩,fun b hb=>?_⟩)
  exact aKN of1 hs b hb
 |tup=>
  obtain⟨a,vs,n,rfl,hs,ho,hr⟩:=r
  have hT:IsTup s.heap a vs:=⟨_,ho,rfl,n,rfl⟩
  have hlen:=hr.length
  replace hlen:=Array.length_toList▸hlen
  refine iter_tuple hT (fin _ _ (aGm (aAw ho) vs xs hlen) ⟨cM _,⟨⟨_,Heap.get?_push_size _ rfl,rfl,rfl⟩,hT.push _⟩,hr.mono fun b o e z=>⟨dL _ _ b o e,z⟩,fun b hb=>?_⟩)
  exact aKN of1 hs b hb
 |str x ha=>
  obtain⟨hf,t,rfl⟩:=r
  exact wpAny_pyIter_ascii ha (fin _ _ (aLP hf) ⟨cM _,⟨_,Heap.get?_push_size _ rfl,rfl,rfl⟩,trivial,of1⟩)
 |rng n hn=>
  obtain⟨a,t,u,w,rfl,hs,ho⟩:=r
  have hsz:Builtin.Range.rangeSize 0 (n:Int) 1=n:=by
   refine rwL (PyProof.Rows.rangeSize_nat _ _) ?_
   exact Int.natCast_add _ _
  refine wpAny_pyIter_range (a:=0) (b:=n) (c:=1) ho ?_ ?_
  ·unfold Builtin.Range.small Builtin.Range.rangeFitsLong
   refine rwL hsz ?_
   simp
   lia
  ·refine rwL hsz ?_
   refine fin _ _ (aHx (n:=n)) ⟨cM _,?_,trivial,of1⟩
   show(s.heap.push _).get? _=_
   refine rwL (Heap.get?_push_size _ rfl) ?_
   simp[rawInt]
 |idc ks vs hnd hz=>
  obtain⟨a,es,n,rfl,⟨hs,hy⟩,ho,hk,hv⟩:=r
  have hl:=aDb hk
  have hm:s.heap.DictAt (PySem.intKind G.prog G.w) a (ks.zip (es.toList.map (·.val))) n:=⟨_,es,ho,⟨rfl,rfl,rfl⟩,rfl,fun e he=>by
   obtain⟨k,t,h1,h2⟩:=hk.keys e (Array.mem_toList_iff.mpr he)
   exact⟨k,by rw[h1];simp[PySem.intKind,Value.isInt],h2⟩,wA hk,by exact rwL (List.map_fst_zip (by simp;simpa using dH hl.symm)) hnd⟩
  have hlen:(ks.zip (es.toList.map (·.val))).length=ks.length:=by exact rwL List.length_zip (rwL (bS _) (rwL hl (rwL (Nat.min_self _) rfl)))
  refine wpAny_pyIter_dict hy hm (fin _ _ (aIg (knd:=PySem.intKind G.prog G.w) (aAw ho) _ n (ks.map V.int) (by exact rwL hlen (rwL (bS _) rfl)) fun σ h i u v hp hx=>?_) ⟨cM _,⟨⟨_,Heap.get?_push_size _ rfl,rfl,rfl⟩,?_⟩,trivial,fun b hb=>?_⟩)
  ·obtain⟨k,x,hkx,hu⟩:=hp
   obtain⟨j,hj,e⟩:=iJ (List.getElem?_map.symm.trans hx)
   obtain⟨t,e2⟩:=Value.isInt_shape hu
   have:=bE ((List.getElem?_zip_eq_some.mp hkx).1.symm.trans hj)
   subst this e e2
   exact⟨t,rfl⟩
  ·exact hm.at' fun o e=>dL _ _ a o e
  ·exact aKN of1 hs b hb
inductive aMM(C:List V→aA→Prop)(v:V)(σ1:aA):Prop|mk (xs:List V) (h:aCT σ1 v xs) (q:C xs σ1)
theorem fE{e:Expr}{C:List V→aA→Prop}(h:cP X σ loc md (aMM C) e):aCj md tgt e loc σ C X:=fun A env m s hh S=>by
 refine wpAny_mono (h A env m s S) (fun v s1 q=>?_) fun Z Z z=>z
 obtain⟨r,σ1,⟨xs,it,hC⟩,h2,h3,S1⟩:=S.ev q
 refine aFn (tgt:=tgt) it hh S1.sim h2 fun I Sw s2 W st a2 sim2 hI=>?_
 refine⟨I,[I],xs,Sw,σ1,rfl,W,st,h3.trans a2,sim2,fun b hb=>?_,hC⟩
 have:=eR hb;subst this
 induction hq:s.heap.get? b with
 |none=>rfl
 |some o=>obtain⟨o',e'⟩:=h3.live b o hq;rw[hI] at e';exact cZ e'
end
noncomputable def aGN(md:Md)(test:Expr)(body:List Stmt)(Q:gA→aX→aA→Prop)(X:bF→Prop):Nat→aX→aA→Prop
 |0,_,_=>False
 |k+1,loc,σ=>qI md test loc σ (fun b σ1=>if b=true then jC X σ1 loc md (LpQ (aGN md test body Q X k) Q) body else Q .next loc σ1) X
section
variable{md:Md}{A:Around}{env:Env}{m:Str→Option Value}{loc:aX}{σ σ':aA}{s s':Shared}{X:bF→Prop}
theorem aEu{test:Expr}{body:List Stmt}{Q:gA→aX→aA→Prop}{σ0:aA}{s0:Shared}(pass:PassesOwn G.M A env (SX env σ0 X s0))(k:Nat):∀{m:Str→Option Value} {loc:aX} {σ:aA} {s:Shared},
  St s σ m env A md loc→eK env.locals σ0 σ s0 s→aGN md test body Q X k loc σ→WhlRest G.prog G.w A (SX env σ0 X s0) env test body [] (SQ env σ0 Q s0) k s:=by
 induction k with
 |zero=>intro m loc σ s _ _ h;exact h.elim
 |succ k ih=>
  intro m loc σ s S a h
  refine whl_turn pass ?_
  refine wpAny_mono (h A env m s S) (fun b s1 q=>?_) fun Z Z z=>(z.sx S).then a
  obtain⟨σ1,h1,h2,h3⟩:=q
  have S1:=S.after h2 h3
  have a1:=a.trans (h2.l _)
  induction b with
  |false=>
   refine WhlIf.no rfl (wpAny_execs_nil ?_)
   exact⟨.next,loc,σ1,m,h1,rfl,a1,S1.ns,S1.sim,S1.loc⟩
  |true=>
   refine WhlIf.yes rfl (wpAny_mono (h1 A env m s1 S1) (fun f s2 q2=>?_) fun Z Z z=>z.then a1)
   obtain⟨fl,loc',σ2,m',q1,q2,q3,S2⟩:=S1.sq q2
   have a2:=a1.trans q3
   induction fl with
   |next=>subst q2;exact ih S2 a2 q1
   |cont=>subst q2;exact ih S2 a2 q1
   |brk=>subst q2;exact⟨.next,loc',σ2,m',q1,rfl,a2,S2.ns,S2.sim,S2.loc⟩
   |ret r=>obtain⟨w',rfl,hr'⟩:=q2;exact⟨.ret r,loc',σ2,m',q1,⟨w',rfl,hr'⟩,a2,S2.ns,S2.sim,S2.loc⟩
theorem lB{test:Expr}{body:List Stmt}{pos:Pos}{Q:gA→aX→aA→Prop}(k:Nat)(h:aGN md test body Q X k loc σ):sY md (.While test body [] pos) loc σ Q X:=fun A env m s S=>by
 have hL0:∃o,s.heap.get? env.locals=some o:=let⟨o,_,_,e,_⟩:=S.ns;⟨o,e⟩
 exact whl_start k (aEu (yP (X:=X) S.frm hL0) k S (.refl ..) h)
noncomputable def aC7(K:Frag)(C:Addr)(name:Str)(fa:Addr):Bool:=
 (findIn K (.ref C) "__getattribute__"==some (some (.builtin "object.__getattribute__")))&&(findIn K (.ref C) "__getattr__"==some none)&&(findIn K (.ref C) name==some (some (.ref fa)))&&(typeIn K (.ref fa)==some (.type "function"))
noncomputable def aFx(C:Addr)(name:Str)(fa:Addr):Prop:=∃K:Frag,K.In G.base∧aC7 K C name fa=true
noncomputable def fS(σ:aA)(x:V):Option String:=match lk σ x with
 |.lst _=>some "list"
 |.tup _=>some "tuple"
 |.str _=>some "str"
 |.sdc ..=>some "dict"
 |.idc ..=>some "dict"
 |_=>none
noncomputable def aJm(C:Addr)(name:Str)(fa:Addr):Prop:=∃K:Frag,K.In G.base∧
 ((specialIn K (.ref C) "__getattribute__"==some (some (.builtin "type.__getattribute__")))&&readsIn K C (.type "type"))=true∧findCls K (.ref C) (.type "type") name=some (.val (.ref fa))
inductive aCu(σ:aA)(x:V)(name:Str):Value→List V→Prop
 |own (C:Addr) (ks:List Str) (vs:List V) (fa:Addr) (hl:look σ x=some (C,ks,vs)) (hk:ks.contains name=false) (hm:aFx C name fa):aCu σ x name (.ref fa) [x]
 |blt (T id:String) (hT:fS σ x=some T) (pa:PlainAttrs T) (slot:Slot T name id) (hty:typeOf (.builtin id)=pure (.type "method_descriptor")):aCu σ x name (.builtin id) [x]
 |cls (C fa:Addr) (hx:x=.ref C) (hm:aJm C name fa):aCu σ x name (.ref fa) []
 |exc (hx:x=.ty "Exception") (hn:name="__init__"):aCu σ x name (.builtin "Exception.__init__") []
theorem aDd{ks:List Str}:∀{es:List DictEntry} {name:Str},lD ks (es.map (·.key))→ks.contains name=false→es.find? (·.key.isStr name)=none:=by
 induction ks with
 |nil=>
  intro es name h _
  induction es with
  |nil=>rfl
  |cons _ _=>cases h
 |cons k ks ih=>
  intro es name h hc
  obtain⟨t,rest,hk,h'⟩:=h
  induction es with
  |nil=>cases hk
  |cons e es=>
   injection hk with h1 h2
   subst h2
   replace h1:e.key=.str k t:=h1
   rw[List.contains_cons,Bool.or_eq_false_iff] at hc
   refine rwL (List.find?_cons) ?_
   refine rwL h1 ?_
   refine rwL (show(Value.str k t).isStr name=false by simpa [Value.isStr] using fun q:k=name=>(beq_eq_false_iff_ne.mp hc.1) q.symm) ?_
   exact ih h' hc.2
theorem aAH{a:Addr}{o:Obj}{T T':String}{v:Value}(e:v=.ref a)(ho:s.heap.get? a=some o)(hc:o.cls=.type T)(hd:o.dict=none)(hT:some T=some T'):s.TypeIs v T'∧∀a,v=.ref a→∃o,s.heap.get? a=some o∧o.dict=none:=by
 subst e
 obtain rfl:=bE hT
 exact⟨⟨_,ho,hc⟩,fun b e=>⟨o,Value.ref.inj e▸ho,hd⟩⟩
theorem aHX{x:V}{v:Value}{T:String}(sim:iH G.P σ s.heap)(r:bW G.P σ s.heap x v)(hT:fS σ x=some T):s.TypeIs v T∧∀a,v=.ref a→∃o,s.heap.get? a=some o∧o.dict=none:=by
 unfold fS at hT
 generalize hl:lk σ x=y at hT
 cases y with
 |lst l=>
  obtain⟨a,vs,k,e,ho,_⟩:=hM sim r hl
  exact aAH e ho rfl rfl hT
 |tup l=>
  obtain⟨a,vs,k,e,_,ho,_⟩:=aDf hl▸r
  exact aAH e ho rfl rfl hT
 |str s=>
  obtain⟨_,t,rfl⟩:=aCZ hl▸r
  exact bE hT▸⟨typeIs_str _ _ _,fun b e=>by cases e⟩
 |sdc ks vs=>
  obtain⟨a,vs,k,e,_,ho,_⟩:=aGl hl▸r
  exact aAH e ho rfl rfl hT
 |idc ks vs=>
  obtain⟨a,vs,k,e,_,ho,_⟩:=aGq hl▸r
  exact aAH e ho rfl rfl hT
 |_=>exact cZ hT
theorem aGI:typeOf (.type "Exception")=pure (.type "type"):=by kernel_rfl
theorem aFd:findCls [] (.type "Exception") (.type "type") "__init__"=some (.val (.builtin "Exception.__init__")):=by kernel_rfl
theorem vH{x:V}{v f:Value}{first:List V}{name:Str}{pl:Sem Bool}{Q:Value×List Value→Shared→Prop}{E:Value→Shared→Prop}(mt:aCu σ x name f first)(hb:G.base.StaysIn s.heap)(sim:iH G.P σ s.heap)(r:bW G.P σ s.heap x v)
  (h:∀fs t,bC G.P σ s.heap first fs→Q (f,fs) {s with toks:=t}):
  wpAny G.M A (getMethod v name pl) Q E s:=by
 induction mt with
 |own C ks vs fa hl hk hm=>
  refine aAG sim r hl fun a dx es n e h1 h2 h3 h4=>?_
  subst e
  obtain⟨K,hK,hc⟩:=hm
  simp only[aC7,Bool.and_eq_true] at hc
  obtain⟨⟨⟨c1,c2⟩,c3⟩,c4⟩:=hc
  have I:InstAt s.heap a (instObj C dx) C (some (fX es n)):=⟨h1,rfl,rfl,h2⟩
  refine method_fn (hK.keeps hb) I (cJ c1) (cJ c2) (cJ c3) (cJ c4) ?_ (h _ s.toks (.cons r .nil))
  show(lookIn name (fX es n)).map _=_
  unfold lookIn
  dsimp only
  refine rwL (aDd h3 hk) ?_
  have hr:es.toList.any (·.refKey)=false:=by
   rw[List.any_eq_false]
   intro e he
   obtain⟨x,t,hx⟩:=vC h3 e he
   simp[DictEntry.refKey,hx]
  refine rwL hr ?_
  rfl
 |blt T id hT pa slot hty=>
  have key:=aHX (s:=s) sim r hT
  exact getMethod_builtin key.1 pa slot hty key.2 (h _ s.toks (.cons r .nil))
 |cls C fa hx hm=>
  subst hx
  subst r
  obtain⟨K,hK,hc,c3⟩:=hm
  simp only[Bool.and_eq_true] at hc
  obtain⟨c1,c2⟩:=hc
  exact method_cls (hK.keeps hb) (cJ c1) (cls_value (hK.keeps hb) c2 c3 rfl (h _ _ .nil))
 |exc hx hn=>
  subst hx hn
  subst r
  have X0:Frag.In [] s.heap:=fun a o e=>by exact cZ e
  have hg:findIn [] (.type "type") "__getattribute__"=some (some (.builtin "type.__getattribute__")):=type_tga
  have L0:Looks G.M s.heap (typeOf (.type "Exception")) (.type "type"):=Looks.of_pure aGI
  unfold getMethod specialOf
  refine wpAny_bind (wpAny_bind (L0.here ((looks_findIn X0 hg).here ?_)))
  dsimp only
  refine rwL (if_pos canon_tga) ?_
  refine wpAny_bind (wpAny_mono (Q:=fun v=>Q (v,[])) (E:=E) ?_ (fun Z Z z=>wpAny_pure z) fun Z Z z=>z)
  have hstub:opaqueClassAbove (.type "Exception")=pure none:=by kernel_rfl
  have LO:Looks G.M s.heap (opaqueClassAbove (.type "Exception")) none:=Looks.of_pure hstub
  refine cls_open X0 LO L0 hg (looks_hook X0 (r:=none) (by rfl)) (by show subIn [] _ _=_;rfl) aFd
   (wpAny_pure (by show wpAny _ _ (handedOut (.builtin "Exception.__init__")) _ _ _;rw[handedOut_of (by rfl)];exact wpAny_pure (h _ _ .nil)))
abbrev aMz(n:Nat)(f:Value)(first:List V)(Q:V→aA→Prop)(X:bF→Prop):List V→aA→Prop:=fun vs σ2=>aW Q σ2 X n f (first++vs)
inductive aOp(md:Md)(es:List Expr)(name:Str)(loc:aX)(Q:V→aA→Prop)(X:bF→Prop)(x:V)(σ:aA):Prop|mk (f:Value) (first:List V) (n:Nat) (hm:aCu σ x name f first) (hk:lO f) (hn:n≤md.n) (q:nW md es loc σ (aMz n f first Q X) X)
theorem cI{o:Expr}{name:Str}{apos pos:Pos}{es:List Expr}{Q:V→aA→Prop}(hd:md.hd=none)
  (h:cP X σ loc md (aOp md es name loc Q X) o) (hn:es.all fF=true:=by rfl)
  (he:∀env,∃pl:Sem Bool,eval (.Call (.Attribute o name apos) es [] pos) env=(do
   let ov ←eval o env
   standAt apos.atName
   let(f,first) ←holding [ov] (getMethod ov name pl)
   callWith pos f first (backTo pos (starEach es env)) (backToKw pos (keywordEach [] env))):=by intro _;exact⟨_,by with_unfolding_all rfl⟩):cP X σ loc md Q (.Call (.Attribute o name apos) es [] pos):=fun A env m s S=>by
 obtain⟨pl,he⟩:=he env
 refine methodCall_KW (pl:=pl) (wpAny_mono (h A env m s S) (fun v s1 q=>?_) fun Z Z z=>z) he
 obtain⟨x,σ1,⟨f,first,n,hm,hk,hmd,hE⟩,h2,h3,S1⟩:=S.ev q
 refine vH hm S1.frm.stays S1.sim h2 fun fs t hfs=>?_
 have h3':=h3.trans (.tok σ1 s1 t)
 exact wpAny_mono (zE (S1.tok t) hk hn hmd hd (rs:=first) hfs hE) (fun Z Z z=>z.then h3') fun Z Z z=>z.then h3'
theorem xG{P:Params}{h:Heap}:∀{l:List V} {y:V} {vs:List Value},bC P σ h (l++[y]) vs→∃ws u,vs=ws++[u]∧bC P σ h l ws∧bW P σ h y u
 |[],_,_,r=>by
  obtain⟨u,rfl,r1⟩:=jH r
  exact⟨[],u,rfl,.nil,r1⟩
 |x::l,y,_,r=>by
  obtain⟨v,vs,rfl,r1,r2⟩:=r
  obtain⟨ws,u,rfl,r3,r4⟩:=xG r2
  exact⟨v::ws,u,rfl,.cons r1 r3,r4⟩
theorem aBj{a:Addr}{l:List V}{y:V}{Q:V→aA→Prop}(ha:σ a=some (.lst l))(hz:l.length≤2^20)(hq:Q .none (upd a (.lst (l++[y])) σ)):aW Q σ X 0 (.builtin "list.append") [.ref a,y]:=by
 intro md A env m loc s vals hmd hhd S hr
 obtain⟨v,w,rfl,rfl,r⟩:=iK hr
 obtain⟨o,ho,vs,n,rfl,hl⟩:=S.sim a _ ha
 have hlen:=hl.length
 rw[Array.length_toList] at hlen
 refine wpAny_list_append_plain ⟨n,ho⟩ (fun h' hpl hs=>?_) (by exact rwL hlen (jK hz))
 obtain⟨n',ho'⟩:=hpl
 obtain⟨k1,k2⟩:=oP (tk:=s.toks) S.sim ha (by simp) (by intro v e;cases e) hs ho' (mo':=.lst (l++[y])) ⟨_,_,rfl,by exact rwL Array.toList_push (hl.append (.cons r .nil))⟩
 exact⟨_,_,hq,rfl,k1,k2⟩
theorem aNN{a:Addr}{l:List V}{y:V}{Q:V→aA→Prop}(ha:σ a=some (.lst (l++[y])))(hz:l.length≤2^20)(hq:Q y (upd a (.lst l) σ)):aW Q σ X 0 (.builtin "list.pop") [.ref a]:=by
 intro md A env m loc s vals hmd hhd S hr
 obtain⟨v,rfl,rfl⟩:=jH hr
 obtain⟨o,ho,vs,n,rfl,hl⟩:=S.sim a _ ha
 have hlen:=hl.length
 rw[Array.length_toList,cL] at hlen
 simp only[eX,List.length_nil] at hlen
 obtain⟨u,hu,ru⟩:=hl.get l.length (x:=y) (by simp)
 have hi:vs.size - 1=l.length:=by rw[hlen];rfl
 refine call_meets F.slot_list_pop ⟨_,ho,rfl⟩ F.entry_list_pop (F.args_list_pop_1 _) (MeetsSeq.list_pop_last a vs n u (by rw[hi];simpa using hu) (hs1:=by rw[sizeLine_eq];rw[hlen];exact aM (fM hz) (by exact aD rfl))) ⟨ho,?_⟩
 obtain⟨ws,u',hws,r1,r2⟩:=xG hl
 have hu':u'=u:=by
  have e1:ws.length=l.length:=r1.length
  rw[hws,←e1] at hu
  simpa using hu
 subst hu'
 have hers:(vs.eraseIdxIfInBounds (vs.size - 1)).toList=ws:=by
  obtain⟨vl⟩:=vs
  have:vl=ws++[u']:=hws
  subst this
  unfold Array.eraseIdxIfInBounds
  rw[dif_pos (by simp)]
  simp[List.eraseIdx_append_of_length_le]
 have hobj:Obj.mapSeq (fun xs=>xs.eraseIdxIfInBounds (vs.size - 1)) (fL vs n)=fL (vs.eraseIdxIfInBounds (vs.size - 1)) (if(vs.eraseIdxIfInBounds (vs.size - 1)).size==vs.size then n else n+1):=rfl
 have hnew:(s.heap.update a (Obj.mapSeq fun xs=>xs.eraseIdxIfInBounds (vs.size - 1))).get? a=some (fL (vs.eraseIdxIfInBounds (vs.size - 1)) (if(vs.eraseIdxIfInBounds (vs.size - 1)).size==vs.size then n else n+1)):=by
  rw[Heap.get?_update_self _ ho (by rw[hobj];rfl),hobj]
 obtain⟨k1,k2⟩:=oP (tk:=s.toks) S.sim ha (by simp) (by intro v e;cases e) (Heap.SameBut.update ..) hnew (mo':=.lst l) ⟨_,_,rfl,by exact rwL hers r1⟩
 exact⟨_,_,hq,r2.step k1.keep k1.dom,k1,k2⟩
theorem kB{a:Addr}{l l2:List V}{y:V}{Q:V→aA→Prop}(ha:σ a=some (.lst l))(hy:lk σ y=.lst l2)(hz:l.length+l2.length≤2^20)(hq:Q .none (upd a (.lst (l++l2)) σ)):aW Q σ X 0 (.builtin "list.extend") [.ref a,y]:=by
 intro md A env m loc s vals hmd hhd S hr
 obtain⟨v,w,rfl,rfl,r⟩:=iK hr
 obtain⟨o,ho,vs,n,rfl,hl⟩:=S.sim a _ ha
 obtain⟨b,ws,n',rfl,ho',hl'⟩:=hM S.sim r hy
 have hlen:=hl.length
 rw[Array.length_toList] at hlen
 have hlen':=hl'.length
 rw[Array.length_toList] at hlen'
 have hsz:=sizeLine_eq
 refine call_meets F.slot_list_extend ⟨_,ho,rfl⟩ F.entry_list_extend (F.args_list_extend_2 _ _) (AutoSeq1.list_extend_list_list_0 a vs n b ws n' ?_ (by exact rwL hlen (rwL hsz (aM (aM (eL _ _) hz) (by exact aD rfl)))) (hs2:=by exact rwL hlen (rwL hlen' (rwL hsz (aM hz (by exact aD rfl)))))) ⟨ho,ho',?_⟩
 ·simp only[Builtin.List.listTooLong]
  intro hc
  simp at hc
  exact absurd hc.2 (Nat.not_lt.mpr (by exact rwL hlen (rwL hlen' (rwL hsz (aM hz (by exact aD rfl))))))
 ·have hobj:Obj.mapSeq (fun x=>x++ws) (fL vs n)=fL (vs++ws) (if(vs++ws).size==vs.size then n else n+1):=rfl
  have hnew:(s.heap.update a (Obj.mapSeq fun x=>x++ws)).get? a=some (fL (vs++ws) (if(vs++ws).size==vs.size then n else n+1)):=by
   rw[Heap.get?_update_self _ ho (by rw[hobj];rfl),hobj]
  obtain⟨k1,k2⟩:=oP (tk:=s.toks) S.sim ha (by simp) (by intro v e;cases e) (Heap.SameBut.update ..) hnew (mo':=.lst (l++l2)) ⟨_,_,rfl,by exact rwL Array.toList_append (hl.append hl')⟩
  exact⟨_,_,hq,rfl,k1,k2⟩
theorem aAm(a b:Str)(t u:Tok):MeetsSeq.EqGives (.str a t) (.str b u) (decide (a=b)):=fun Z Z Z Z Z Z h=>wpAny_eqBool_str h
noncomputable def mM:List Str→Str→Option Nat
 |[],_=>none
 |y::ys,x=>if y=x then some 0 else(mM ys x).map (·+1)
theorem aEy{ss:List Str}:∀{x:Str} {j:Nat},mM ss x=some j→∃h:j<ss.length,ss[j]=x∧∀m (hm:m<ss.length),m<j→ss[m]≠x:=by
 induction ss with
 |nil=>intro x j h;exact cZ h
 |cons y ys ih=>
  intro x j h
  by_cases hy:y=x
  ·replace h:=(show mM (y::ys) x=some 0 from if_pos hy)▸h
   obtain rfl:=bE h
   exact⟨Nat.succ_pos _,hy,fun m Z hm=>absurd hm (Nat.not_lt_zero _)⟩
  ·replace h:=(show mM (y::ys) x=(mM ys x).map (·+1) from if_neg hy)▸h
   obtain⟨i,hi,rfl⟩:=iJ h
   obtain⟨h1,h2,h3⟩:=ih hi
   refine⟨Nat.succ_lt_succ h1,h2,fun m hm hlt=>?_⟩
   induction m with
   |zero=>exact hy
   |succ m=>exact h3 m (Nat.lt_of_succ_lt_succ hm) (Nat.lt_of_succ_lt_succ hlt)
theorem aJQ{P:Params}{h:Heap}{l:List V}:∀{vs:List Value} {ss:List Str},bC P σ h l vs→fR l=some ss→vs.length=ss.length∧∀(i:Nat) (v:Value),vs[i]? =some v→∃t,∃hi:i<ss.length,v=.str ss[i] t:=by
 induction l with
 |nil=>intro vs ss r e;subst r;obtain rfl:=bE e;exact⟨rfl,fun i v h=>by exact cZ h⟩
 |cons y l ih=>
  intro vs ss r e
  obtain⟨v,vs,rfl,r1,r2⟩:=r
  obtain⟨s,ss,rfl,hs,rfl⟩:=pW e
  obtain⟨hf,t,rfl⟩:=r1
  obtain⟨h1,h2⟩:=ih r2 hs
  refine⟨by exact rwL eX (rwL h1 (rwL eX rfl)),fun i v hv=>?_⟩
  induction i with
  |zero=>obtain rfl:=bE hv;exact⟨t,Nat.succ_pos _,rfl⟩
  |succ i=>
   obtain⟨u,hi,e⟩:=h2 i v hv
   exact⟨u,Nat.succ_lt_succ hi,e⟩
noncomputable def aKL(x:Str):Value→Bool
 |.str y _=>decide (y=x)
 |_=>false
noncomputable def aAb(K:Frag)(C fI:Addr):Bool:=makesIn K C&&(findIn K (.ref C) "__init__"==some (some (.ref fI)))&&(typeIn K (.ref fI)==some (.type "function"))
noncomputable def qL(C fI:Addr):Prop:=∃K:Frag,K.In G.base∧aAb K C fI=true
inductive Frz(σ:aA):V→V→aA→Prop
 |lst (a:Addr) (l:List V) (h:σ a=some (.lst l)):Frz σ (.ref a) (.lst l) (eZ a σ)
 |obj (a C dx:Addr) (ks:List Str) (vs:List V) (h:σ a=some (.ins C dx)) (h':σ dx=some (.ns ks vs)):Frz σ (.ref a) (.obj C ks vs) (eZ dx (eZ a σ))
theorem uL{P:Params}{h:Heap}(sim:iH P σ h)(a:Addr):iH P (eZ a σ) h:=fun b mb e=>by
 by_cases hb:b=a
 ·subst hb
  replace e:=(oK _ _)▸e
  exact cZ e
 ·replace e:=(dP _ hb)▸e
  obtain⟨o,ho,c⟩:=sim b mb e
  refine⟨o,ho,c.mono fun b o e z=>⟨e,?_⟩⟩
  by_cases hb:b=a
  ·subst hb;exact oK ..
  ·refine rwL (dP _ hb) ?_
   exact z
theorem pQ{a:Addr}{mo:dJ}(ha:σ a=some mo)(h1:mo≠.mark)(h2:∀v,mo≠.cell v):cA s (eZ a σ) s σ:=
 ⟨⟨s.heap,s.toks,rfl⟩,nX.refl σ s.heap,fun b o e=>by
   by_cases hb:b=a
   ·subst hb
    refine rwL ha ?_
    refine⟨fun z=>by(exact cZ (Eq.symm z)),fun z=>?_,fun v z=>?_⟩
    ·obtain rfl:=bE z;exact absurd rfl h1
    ·obtain rfl:=bE z;exact absurd rfl (h2 v)
   ·rw[dP _ hb];exact⟨id,id,fun v z=>⟨v,z⟩⟩,.refl _⟩
theorem sR{P:Params}{h:Heap}(a:Addr):∀b o,h.get? b=some o→σ b=none→h.get? b=some o∧eZ a σ b=none:=fun b o e z=>⟨e,by
 by_cases hb:b=a
 ·subst hb;exact oK ..
 ·rw[dP _ hb];exact z⟩
theorem aL3{r r':V}{σ2:aA}{v:Value}(f:Frz σ r r' σ2)(sim:iH G.P σ s.heap)(h:bW G.P σ s.heap r v):bW G.P σ2 s.heap r' v∧cA s σ2 s σ∧iH G.P σ2 s.heap:=by
 induction f with
 |lst a l ha=>
  subst h
  obtain⟨o,ho,vs,n,rfl,hl⟩:=sim a _ ha
  exact⟨⟨a,vs,n,rfl,oK ..,ho,hl.mono (sR (P:=G.P) a)⟩,pQ ha (by simp) (by simp),uL sim a⟩
 |obj a C dx ks vs ha hd=>
  subst h
  obtain⟨o,ho,rfl⟩:=sim a _ ha
  obtain⟨o',ho',es,n,rfl,hk,hv⟩:=sim dx _ hd
  have hne:dx≠a:=by rintro rfl;rw[ha] at hd;cases hd
  have hd':eZ a σ dx=some (.ns ks vs):=by exact rwL (dP _ hne) hd
  have a1:cA s (eZ a σ) s σ:=pQ ha (by simp) (by simp)
  have a2:cA s (eZ dx (eZ a σ)) s (eZ a σ):=pQ hd' (by simp) (by simp)
  refine⟨⟨a,dx,es,n,rfl,?_,oK ..,ho,ho',hk,?_⟩,a1.trans a2,uL (uL sim a) dx⟩
  ·refine rwL (dP _ (Ne.symm hne)) ?_
   exact oK ..
  ·exact(hv.mono (sR (P:=G.P) a)).mono (sR (P:=G.P) dx)
inductive aMh(Q:V→aA→Prop)(r:V)(σ1:aA):Prop|mk (r':V) (σ2:aA) (h:Frz σ1 r r' σ2) (q:Q r' σ2)
theorem EQ.frz{Q:V→aA→Prop}{v:Value}(q:EQ G σ (aMh Q) s v s'):EQ G σ Q s v s':=by
 obtain⟨r,σ1,⟨r',σ2,f,hq⟩,h2,h3,h4⟩:=q
 obtain⟨k1,k2,k3⟩:=aL3 f h4 h2
 exact⟨r',σ2,hq,k1,h3.trans k2,k3⟩
theorem aHi{e:Expr}{Q:V→aA→Prop}(h:cP X σ loc md (aMh Q) e):cP X σ loc md Q e:=fun A env m s S=>wpAny_mono (h A env m s S) (fun Z Z q=>q.frz) fun Z Z z=>z
theorem jQ{n:Nat}{f:Value}{args:List V}{Q:V→aA→Prop}(h:aW (aMh Q) σ X n f args):aW Q σ X n f args:=fun md A env m loc s vals h1 h2 h3 h4=>
 wpAny_mono (h md A env m loc s vals h1 h2 h3 h4) (fun Z Z q=>q.frz) fun Z Z z=>z
theorem aIw{a u n b:Nat}(hu:u≤20)(hn:1≤n)(h:a+20*n+200≤b):a+u+20*(n - 1)+200≤b:=by
 induction n with
 |zero=>cases hn
 |succ n=>
  refine aM (eP ?_ 200) h
  refine rwL (Nat.add_assoc _ _ _) ?_
  refine rwL (Nat.mul_succ _ _) ?_
  refine rwL (Nat.add_comm (20*n) 20) ?_
  exact fV (eP hu _) _
theorem St.under{c:Code}(S:St s σ m env A md loc)(hw:c.weight≤1)(he:c.envs=[])(hu:c.cUnits≤20)(hn:1≤md.n):St s σ m env (A.under c) ⟨md.n - 1,md.hd,md.sc⟩ loc:=by
 obtain⟨⟨h1,h2,hn',h3,h4,h5,h6,h7,⟨fenv,outer,L,f1,f2,f3,f4,f5⟩,h9,h10,h11,h12⟩,a,b,d⟩:=S
 refine⟨⟨h1,h2,hn',h3,h4,h5,?_,?_,⟨fenv,outer,L,?_,f2,f3,f4,f5⟩,h9,h10,h11,h12⟩,a,b,d⟩
 ·exact aM (eP (fV hw _) _) (by exact rwL (Nat.add_assoc _ _ _) (rwL (Nat.add_sub_cancel' hn) h6))
 ·exact aIw hu hn h7
 ·show pushEnvs c.envs A.frames=_;rw[he,f1];rfl
theorem lJ{C fI:Addr}(h:qL C fI):lO (.ref C):=fun hp k=>by
 obtain⟨K,hK,hm⟩:=h
 simp only[aAb,Bool.and_eq_true] at hm
 have Y:=makes_of (M:=G.M) (hK.keeps k) hm.1.1
 obtain⟨⟨oc,od,cd,sl,hC,e1,e2,e4⟩,made,base,self,top,call,typ⟩:=Y
 refine⟨.machine,.inr (.inl rfl),(Looks.ld (part:=none) hC).andThen ?_⟩
 refine call.andThen ?_
 refine rwL (if_pos (by simp)) ?_
 exact .now
theorem aMx{C:Addr}{l:List Value}:Code.weight (.builtin "type.__call__" ⟨.ref C::l,[]⟩)=1:=rfl
theorem aM4{C:Addr}{l:List Value}:Code.envs (.builtin "type.__call__" ⟨.ref C::l,[]⟩)=[]:=rfl
theorem aM7{C:Addr}{l:List Value}:Code.cUnits (.builtin "type.__call__" ⟨.ref C::l,[]⟩)=1:=rfl
theorem mT{C fI:Addr}{n:Nat}{args:List V}{Q:V→aA→Prop}(hm:qL C fI)
  (h:∀x dx,σ x=none→σ dx=none→x≠dx→kM n (.ref fI) (.ref x::args) (upd x (.ins C dx) (upd dx (.ns [] []) σ)) (fun r σ'=>r=.none∧Q (.ref x) σ') X):kM (n+1) (.ref C) args σ Q X:=by
 intro md A env m loc s vals hmn hhd S hr
 obtain⟨K,hK,hc⟩:=hm
 simp only[aAb,Bool.and_eq_true] at hc
 obtain⟨⟨c1,c2⟩,c3⟩:=hc
 have X1:=hK.keeps S.frm.stays
 obtain⟨hp,g,d,t,os⟩:=s
 refine make_core (makes_of X1 c1) (looks_findIn X1 (cJ c2)) (fun self=>bind_fn X1 self (cJ c3)) (.inl rfl) ?_
 obtain⟨a1,m1⟩:=lK (s:=⟨hp,g,d,t,os⟩) (tk:=t) (h':=hp.push emptyDict) (a:=hp.objs.size) (o':=emptyDict) (mo:=.ns [] []) S.sim (dL hp emptyDict) (eG hp) (Heap.get?_push_size _ rfl) ⟨#[],0,rfl,rfl,rfl⟩
 have S1:=S.after a1 m1
 have hsz:(hp.push emptyDict).objs.size=hp.objs.size+1:=Heap.size_push ..
 have hf1:(hp.push emptyDict).get? (hp.objs.size+1)=none:=by exact rwR hsz (eG _)
 obtain⟨a2,m2⟩:=lK (s:={(⟨hp,g,d,t,os⟩:Shared) with heap:=hp.push emptyDict,toks:=t}) (tk:=t) (h':=(hp.push emptyDict).push (instObj C hp.objs.size)) (a:=hp.objs.size+1) (o':=instObj C hp.objs.size) (mo:=.ins C hp.objs.size) m1 (dL _ _) hf1 (by rw[←hsz];exact Heap.get?_push_size _ rfl) rfl
 have S2:=S1.after a2 m2
 have hx:σ (hp.objs.size+1)=none:=by
  have:=dE (s:=⟨hp.push emptyDict,g,d,t,os⟩) m1 hf1
  rwa [aR _ _ (Nat.succ_ne_self _)] at this
 have S3:=S2.under (c:=.builtin "type.__call__" ⟨.ref C::vals,[]⟩) (by rw[aMx];decide) aM4 (by rw[aM7];decide) (aM (fM (cM n)) hmn)
 refine codeAny_mono (h (hp.objs.size+1) hp.objs.size hx (dE S.sim (eG hp)) (Nat.succ_ne_self _) ⟨md.n - 1,md.hd,md.sc⟩ _ env m loc _ (.ref (hp.objs.size+1)::vals) (Nat.le_sub_of_add_le hmn) hhd S3 (.cons rfl ((hr.step a1.keep a1.dom).step a2.keep a2.dom))) fun r s' z=>?_
 rcases r with e|(v|_|_|_)
 ·exact(EX.then a2 z).then a1
 ·exact z.elim
 ·exact z.elim
 ·exact z.elim
 ·obtain⟨r,σ',⟨rfl,hq⟩,h2,h3,h4⟩:=z
  subst h2
  exact⟨rfl,_,σ',hq,rfl,(a1.trans a2).trans h3,h4⟩
end
end Mine
end
section
set_option maxHeartbeats 4000000
namespace Mine
section
variable{prog:Program}{w:World}{A:Around}{R:Result→Shared→Prop}{h:Heap}{g:Array GenState}{d:Drawn}{t:Nat}{os:OsState}
variable{nm q:Str}{C N fI:Addr}{bs bm:List Value}{hdct:Bool}{sn:List Str}{sub:List Value}{ab:Bool}{col:Option Bool}{dd:Option Addr}{k0 k1 k2 k3 k5:Option Value}
variable(hB:(Value.ref C::bm).contains (.type "Exception")=true)(hA:(Value.ref C::bm).contains (.type "AttributeError")=false)(hN:(Value.ref C::bm).contains (.type "NameError")=false)
include hB hA hN
theorem aFF{rest:List Value}(hC:h.get? C=some (excClassObj nm q C N bs bm hdct sn sub ab col dd k0 k1 k2 k3 k5 "Exception.__new__"))
  (hi:Looks (model prog w) h (typeLookup (.ref C) "__init__") (some (.ref fI))) (hb:∀self,Looks (model prog w) h (bindSpecial (.ref fI) self) (.ref fI,[self]))
  (hq:∀h' e,Heap.MadeExcOf h h' e (.ref C) rest→codeAny (model prog w) (A.under (.builtin "type.__call__" ⟨.ref C::rest,[]⟩)) (.call (.ref fI) ⟨.ref e::rest,[]⟩) (InitBack e R) ⟨h',g,d,t,os⟩) (hrest:rest.length≤sizeLine):
  codeAny (model prog w) A (.call (.ref C) ⟨rest,[]⟩) R ⟨h,g,d,t,os⟩:=by
 have F:=PySem.F.excBase_Exception
 have f1:=tc_lookup
 have f2:=tc_bind (.ref C)
 have hT:(⟨h,g,d,t,os⟩:Shared).TypeIs (.ref C) "type":=⟨_,hC,rfl⟩
 have hstar:=F.noStar
 have hends:=F.ends
 refine codeAny_of_tree ?_
 show wpAny _ _ (callAny (.ref C) _) _ _ _
 repeat (any_goals (first|assumption|with_reducible refine wpAny_loadPart_at hC ?_|wp_step))
 refine⟨rfl,?_⟩
 refine codeAny_call_builtin_at (Code.quiet_builtin _ (by decide+kernel)) entry_typeCall (wpAny_check_type_call_sub hC ?_)
 repeat (first|with_reducible refine wpAny_loadPart_at hC ?_|with_reducible refine wpAny_madeBy_exc hC ?_|wp_step)
 refine codeAny_call_builtin_code (Code.quiet_builtin _ F.quiet) (wpAny_check_new_subU (bmB:=bm) F hB .base hC ?_)
 have hnew:∀{A':Around} {R':Result→Shared→Prop},R' (.ok (.ret (.ref (h.objs.size+1)))) ⟨(h.push {cls:=.type "tuple",data:=.seq rest.toArray}).push
   {cls:=.ref C,data:=.fields #[.ref h.objs.size,.none,.none,.none,.bool false,.none]},g,d,t,os⟩→codeAny (model prog w) A' (.builtin "Exception.__new__" ⟨.ref C::rest,[]⟩) R' ⟨h,g,d,t,os⟩:=by
  intro A' R' hr
  refine codeAny_builtinAt F.entry ?_
  unfold Builtin.«BaseException.__new__»
  refine PySem.wpAt_bind ?_
  show PySem.wpAt _ _ _ (stack >>= _) _ _ _
  refine PySem.wpAt_bind (PySem.wpAt_stack fun p below=>PySem.wpAt_of_wpAny ?_)
  wp_walk
  refine PySem.wpAt_of_wpAny ?_
  refine rwL F.owner ?_
  repeat (first|with_reducible refine wpAny_madeHere_exc F.canon hC ?_|with_reducible refine wpAny_loadPart_at hC ?_|(with_reducible refine wpAny_isSubtype_exc hC ?_;first|rw[hB]|rw[hA]|rw[hN])|wp_step)
  show R' _ _
  refine rwL (Heap.size_push _ _) ?_
  exact hr
 refine hnew ?_
 show wpAny _ _ _ _ _ _
 have k:∀b o,h.get? b=some o→((h.push {cls:=.type "tuple",data:=.seq rest.toArray}).push {cls:=.ref C,data:=.fields #[.ref h.objs.size,.none,.none,.none,.bool false,.none]}).get? b=some o:=
  fun b o e=>Heap.get?_push_of_some _ (Heap.get?_push_of_some _ e)
 have hC₁:=k _ _ hC
 have hget:((h.push {cls:=.type "tuple",data:=.seq rest.toArray}).push
   {cls:=.ref C,data:=.fields #[.ref h.objs.size,.none,.none,.none,.bool false,.none]}).get? (h.objs.size+1)=some
   {cls:=.ref C,data:=.fields #[.ref h.objs.size,.none,.none,.none,.bool false,.none]}:=by heap_get
 have hcC:(Value.ref C::bm).contains (.ref C)=true:=by simp
 have i1:=hi.keeps k
 have b1:=(hb (.ref (h.objs.size+1))).keeps k
 unfold isInstance
 repeat (first|with_reducible refine wpAny_loadPart_at hget ?_|(with_reducible refine wpAny_isSubtype_exc hC₁ ?_;rw[hcC])|wp_step)
 refine i1.at ?_
 refine wpAny_holding (wpAny_bind (b1.at ?_))
 refine wpAny_bind (wpAny_call (codeAny_mono (hq _ (h.objs.size+1) ⟨k,Heap.get?_none_of_le (Nat.le_succ _),h.objs.size,hget,Heap.get?_none_of_le (bO _),Heap.get?_push_of_some _ (Heap.get?_push_size _ rfl)⟩) fun r s' z=>?_))
 rcases r with e|(v|_|_|_) <;> first|exact z|exact z.elim|skip
 obtain⟨rfl,z⟩:=z
 wp_walk
 exact z
end
end Mine
end
section
set_option maxHeartbeats 4000000
namespace Mine
noncomputable def oY:List Value→Bool
 |[]=>false
 |x::r=>match xI x with
  |some _=>oY r
  |none=>(wL x==some "Exception")&&(r.map wL==[some "BaseException",some "object"])
noncomputable def aNC(l:List (Option Value)):Bool:=decide (l.length=6)&&(l[4]?==some (some (.builtin "Exception.__new__")))
noncomputable def aJV(f:Value→List Value→Bool):List Value→Bool
 |[]=>false
 |m::r=>f m r
noncomputable def aN5(C:Addr)(cd:ClassData):Bool:=aJV (fun m bm=>(xI m==some C)&&(!cd.hasDel&&(oY bm&&((Value.ref C::bm).contains (.type "Exception")&&((Value.ref C::bm).contains (.type "BaseException")
    &&(!(Value.ref C::bm).contains (.type "AttributeError")&& !(Value.ref C::bm).contains (.type "NameError"))))))) cd.mro
noncomputable def wB(C:Addr)(o:Obj):Bool:=(wL o.cls==some "type")&&(aNC o.slots.toList&&(aNG o.data).any (aN5 C))
noncomputable def aJ7(K:Frag)(C fI:Addr)(own:List Str):Bool:=
 (K.lookup C).any (wB C)&&(findIn K (.ref C) "__init__"==some (some (.ref fI)))&&(typeIn K (.ref fI)==some (.type "function"))
  &&(findIn K (.ref C) "__setattr__"==some (some (.builtin "object.__setattr__")))&&(findIn K (.ref C) "__getattribute__"==some (some (.builtin "BaseException.__getattribute__")))&&(findIn K (.ref C) "__getattr__"==some none)
  &&hasDictIn K C&&(mroIn K C (.type "object")==some true)&&own.all fun n=>findIn K (.ref C) n==some none
noncomputable def kN(C fI:Addr)(own:List Str):Prop:=∃K:Frag,K.In G.base∧aJ7 K C fI own=true
inductive aNF(K:Frag)(C:Addr):Prop
 |mk (nm q:Str) (N:Addr) (bs bm:List Value) (hdct:Bool) (sn:List Str) (sub:List Value) (ab:Bool) (col:Option Bool) (dd:Option Addr) (k0 k1 k2 k3 k5:Option Value) (h1:K.lookup C=some (excClassObj nm q C N bs bm hdct sn sub ab col dd k0 k1 k2 k3 k5 "Exception.__new__")) (h2:oY bm=true) (h3:(Value.ref C::bm).contains (.type "Exception")=true)
  (h4:(Value.ref C::bm).contains (.type "BaseException")=true) (h5:(Value.ref C::bm).contains (.type "AttributeError")=false) (h6:(Value.ref C::bm).contains (.type "NameError")=false)
structure aBl(K:Frag)(C fI:Addr)(own:List Str):Prop where
 obj:aNF K C
 init:findIn K (.ref C) "__init__"=some (some (.ref fI))
 fn:typeIn K (.ref fI)=some (.type "function")
 sets:findIn K (.ref C) "__setattr__"=some (some (.builtin "object.__setattr__"))
 gets:findIn K (.ref C) "__getattribute__"=some (some (.builtin "BaseException.__getattribute__"))
 hook:findIn K (.ref C) "__getattr__"=some none
 dict:hasDictIn K C=true
 isObj:mroIn K C (.type "object")=some true
 names:∀n,own.contains n=true→findIn K (.ref C) n=some none
theorem aNV{f:Value→List Value→Bool}{l:List Value}{P:Prop}(h:aJV f l=true)(k:∀m r,l=m::r→f m r=true→P):P:=by
 induction l with
 |nil=>exact iX h
 |cons m r=>exact k m r rfl h
theorem aNe{α:Type}{o:Option α}{p:α→Bool}{P:Prop}(h:o.any p=true)(k:∀a,o=some a→p a=true→P):P:=by
 induction o with
 |none=>exact iX h
 |some a=>exact k a rfl h
theorem ntE{b:Bool}(h:(!b)=true):b=false:=by
 induction b with
 |false=>rfl
 |true=>exact iX h
theorem aLd{o:Obj}{c:Value}{d:Data}{s:List (Option Value)}(h1:o.cls=c)(h2:o.data=d)(h3:o.slots.toList=s):o=⟨c,o.dict,d,s.toArray⟩:=by
 subst h1;subst h2;subst h3;rfl
theorem aNP{cd:ClassData}{m:List Value}(h1:cd.mro=m)(h2:cd.hasDel=false):cd={cd with mro:=m,hasDel:=false}:=by
 subst h1;exact h2▸rfl
theorem aJR{K:Frag}{C:Addr}(h:(K.lookup C).any (wB C)=true):aNF K C:=
 aNe h fun o ho h=>gU h fun s1 h=>gU h fun s2 s3=>gU s2 fun q1 q2=>aNe s3 fun cd hcd h=>aNV h fun m bm hm h=>gU h fun w1 h=>gU h fun w2 h=>gU h fun w3 h=>gU h fun w4 h=>gU h fun w5 h=>gU h fun w6 w7=>
  let⟨k0,k1,k2,k3,k4,k5,hl⟩:=aKQ (of_decide_eq_true q1)
  ⟨cd.name,cd.qualname,cd.ns,cd.bases,bm,cd.hasDict,cd.slotNames,cd.subclasses,cd.abstract,cd.collection,o.dict,k0,k1,k2,k3,k5,
   ho.trans (congrArg some ((aLd (lN (cJ s1)) ((aJP hcd).trans (congrArg Data.cls (aNP (hm.trans (congrArg (·::bm) (rF (cJ w1)))) (ntE w2)))) hl).trans
    (congrArg (fun k=>Obj.mk _ _ _ #[k0,k1,k2,k3,k,k5]) (bE ((congrArg (·[4]?) hl).symm.trans (cJ q2)))))),w3,w4,w5,ntE w6,ntE w7⟩
theorem iV{K:Frag}{C fI:Addr}{own:List Str}(h:aJ7 K C fI own=true):aBl K C fI own:=
 gU h fun h c9=>gU h fun h c8=>gU h fun h c7=>gU h fun h c6=>gU h fun h c5=>gU h fun h c4=>gU h fun h c3=>gU h fun c1 c2=>
  ⟨aJR c1,cJ c2,cJ c3,cJ c4,cJ c5,cJ c6,c7,cJ c8,fun n hn=>cJ (eT c9 n (List.contains_iff_mem.mp hn))⟩
theorem aA9{x:Value}{r:List Value}(h:oY (x::r)=true):(∃c,x=.ref c∧oY r=true)∨(x=.type "Exception"∧r=[.type "BaseException",.type "object"]):=by
 unfold oY at h
 induction hx:xI x with
 |some c=>
  replace h:=hx▸h
  exact .inl ⟨c,rF hx,h⟩
 |none=>
  replace h:=hx▸h
  obtain⟨h1,h2⟩:=Bool.and_eq_true_iff.mp h
  have h2:=cJ h2
  have hl:r.length=2:=by simpa using congrArg List.length h2
  obtain⟨y,z,rfl⟩:=aLU hl
  injection h2 with e1 e2
  injection e2 with e3 _
  exact .inr ⟨lN (cJ h1),by exact rwL (lN e1) (rwL (lN e3) rfl)⟩
section
variable{md:Md}{A:Around}{env:Env}{m:Str→Option Value}{loc:aX}{σ σ':aA}{s s':Shared}{X:bF→Prop}
theorem aBA{C fI:Addr}{own:List Str}(h:kN C fI own):lO (.ref C):=fun hp k=>by
 obtain⟨K,hK,hm⟩:=h
 obtain⟨nm,q,N,bs,bm,hdct,sn,sub,ab,col,dd,k0,k1,k2,k3,k5,ho,_⟩:=(iV hm).obj
 refine⟨.machine,.inr (.inl rfl),fun A Q E s kk hq=>?_⟩
 obtain⟨h1,g,d,t,os⟩:=s
 exact wpAny_keeperOf_exc (kk _ _ (k _ _ (hK _ _ ho))) hq
theorem aBX{C fI:Addr}{own:List Str}{n:Nat}{args:List V}{Q:V→aA→Prop}(hm:kN C fI own)(hz:args.length≤1000)
  (h:∀x,σ x=none→kM n (.ref fI) (.ref x::args) (upd x (.exc C none) σ) (fun r σ'=>r=.none∧Q (.ref x) σ') X):kM (n+1) (.ref C) args σ Q X:=by
 intro md A env m loc s vals hmn hhd S hr
 obtain⟨K,hK,hc⟩:=hm
 obtain⟨⟨nm,q,N,bs,bm,hdct,sn,sub,ab,col,dd,k0,k1,k2,k3,k5,ho,hx,hB,hb,hA,hN⟩,hi,hf,_⟩:=iV hc
 have X1:=hK.keeps S.frm.stays
 have hlen:=hr.length
 obtain⟨hp,g,d,t,os⟩:=s
 refine aFF hB hA hN (X1 _ _ ho) (looks_findIn X1 hi) (fun self=>bind_fn X1 self hf) (fun h' e M=>?_) (by exact rwL hlen (rwL sizeLine_eq (aM hz (by exact aD rfl))))
 obtain⟨keep,new,tt,he,_,_⟩:=M
 obtain⟨a1,m1⟩:=lK (s:=⟨hp,g,d,t,os⟩) (tk:=t) (mo:=.exc C none) S.sim keep new he ⟨rfl,rfl,rfl,_,rfl,rfl,rfl⟩
 have S1:=S.after a1 m1
 have S3:=S1.under (c:=.builtin "type.__call__" ⟨.ref C::vals,[]⟩) (by rw[aMx];decide) aM4 (by rw[aM7];decide) (aM (fM (cM n)) hmn)
 refine codeAny_mono (h e (dE S.sim new) ⟨md.n - 1,md.hd,md.sc⟩ _ env m loc _ (.ref e::vals) (Nat.le_sub_of_add_le hmn) hhd S3 (.cons rfl (hr.step a1.keep a1.dom))) fun r s' z=>?_
 rcases r with e|(v|_|_|_)
 ·exact EX.then a1 z
 ·exact z.elim
 ·exact z.elim
 ·exact z.elim
 ·obtain⟨r,σ',⟨rfl,hq⟩,h2,h3,h4⟩:=z
  subst h2
  exact⟨rfl,_,σ',hq,rfl,a1.trans h3,h4⟩
theorem aFg{C fI:Addr}{own:List Str}{e:Addr}{dx:Option Addr}{y:V}{Q:V→aA→Prop}(hm:kN C fI own)(he:σ e=some (.exc C dx))(hq:Q .none σ):aW Q σ X 0 (.builtin "Exception.__init__") [.ref e,y]:=by
 intro md A env m loc s vals hmn hhd S hr
 obtain⟨v,w,rfl,rfl,ry⟩:=iK hr
 obtain⟨K,hK,hc⟩:=hm
 obtain⟨⟨nm,q,N,bs,bm,hdct,sn,sub,ab,col,dd,k0,k1,k2,k3,k5,ho,hx,hB,hb,hA,hN⟩,hi,hf,_⟩:=iV hc
 have X1:=hK.keeps S.frm.stays
 have F:=PySem.F.excBase_Exception
 obtain⟨o,hoe,hcl,hdi,hsl,vs,hd,hsz,h1⟩:=S.sim e _ he
 have hC:=X1 _ _ ho
 have hshort:=F.noStar
 obtain⟨hp,g,d,t,os⟩:=s
 have hck:∀{A':Around} {E':Value→Shared→Prop} {Q':Unit→Shared→Prop},Q' () ⟨hp,g,d,t,os⟩→wpAny G.M A' (checkBuiltinCall "Exception.__init__" ⟨[.ref e,w],[]⟩) Q' E' ⟨hp,g,d,t,os⟩:=by
  intro A' E' Q' hq'
  simp only[checkBuiltinCall,F.initKind,F.initSplit,F.initRow]
  repeat (first|(with_reducible refine wpAny_loadPart_at hoe ?_;rw[hcl])|with_reducible refine wpAny_loadPart_at hC ?_|(with_reducible refine wpAny_isSubtype_exc hC ?_;rw[hB])|wp_step)
  exact hq'
 refine wpAny_call (codeAny_call_builtin F.init.plain F.initEntry (hck ?_))
 unfold Builtin.«BaseException.__init__»
 dsimp only
 rw[if_neg (by simp)]
 unfold newTuple Builtin.BaseException.bexcPut
 obtain⟨v0,h0⟩:∃v0,vs[0]? =some v0:=⟨vs[0],by simp[hsz]⟩
 have keep:=dL hp (mK [w].toArray 0)
 have he₁:=keep _ _ hoe
 obtain⟨g1,g2⟩:=uC (s:=⟨hp,g,d,t,os⟩) (tk:=t) S.sim keep
 have hob:Obj.mapFields (·.setIfInBounds 0 (.ref hp.objs.size)) o={o with data:=.fields (vs.setIfInBounds 0 (.ref hp.objs.size))}:=by
  obtain⟨c,dd,dt,sl⟩:=o;subst hd;rfl
 have hnew:((hp.push (mK [w].toArray 0)).update e (Obj.mapFields (·.setIfInBounds 0 (.ref hp.objs.size)))).get? e=some {o with data:=.fields (vs.setIfInBounds 0 (.ref hp.objs.size))}:=by
  rw[Heap.get?_update_self _ he₁ (by rw[hob];rfl),hob]
 obtain⟨k1',k2'⟩:=oP (s:={(⟨hp,g,d,t,os⟩:Shared) with heap:=hp.push (mK [w].toArray 0),toks:=t}) (tk:=t) g2 he (by simp) (by intro v e;cases e) (Heap.SameBut.update ..) hnew (mo':=.exc C dx)
  ⟨hcl,hdi,hsl,_,rfl,by simp[hsz],by exact rwL (Array.getElem?_setIfInBounds_ne (by exact zD T0)) h1⟩
 have hσ:upd e (.exc C dx) σ=σ:=by
  funext b
  unfold upd
  by_cases hb:b=e
  ·subst hb;simp[he]
  ·simp[hb]
 rw[hσ] at k1' k2'
 refine wpAny_bind (wpAny_newObj_type (wpAny_bind (wpAny_bind (wpAny_field he₁ hd h0 (wpAny_bind (wpAny_setField he₁ hd (by rw[hsz];decide) ?_))))) (by size_fits))
 have fin:EQ G σ Q ⟨hp,g,d,t,os⟩ .none {(⟨hp,g,d,t,os⟩:Shared) with heap:=(hp.push (mK [w].toArray 0)).update e (Obj.mapFields (·.setIfInBounds 0 (.ref hp.objs.size))),toks:=t}:=⟨_,σ,hq,rfl,g1.trans k1',k2'⟩
 induction v0 with
 |ref b=>exact wpAny_letGo (wpAny_pure fin)
 |_=>exact wpAny_pure (wpAny_pure fin)
end
end Mine
end
section
open Builtin Builtin.ObjectAttr
namespace Mine
theorem aCX(self:Value){l:List Value}:oY l=true→refuseLoop self "__setattr__" l=pure ():=by
 induction l with
 |nil=>intro e;exact iX e
 |cons x r ih=>
  intro e
  rcases aA9 e with⟨c,rfl,h⟩|⟨rfl,rfl⟩
  ·rw[refuseLoop_ref];exact ih h
  ·exact PySem.F.store_Exception.passes self
section
variable{md:Md}{A:Around}{env:Env}{m:Str→Option Value}{loc:aX}{σ σ':aA}{s s':Shared}{X:bF→Prop}
theorem aCg{K:Frag}{C fI e:Addr}{own:List Str}{o:Obj}{vs:Array Value}(he:s.heap.get? e=some o)(hcl:o.cls=.ref C)(hd:o.data=.fields vs){od:Option Obj}(hod:match o.dict,od with
  |some dx,some o=>s.heap.get? dx=some o
  |none,none=>True
  |_,_=>False):InstAt s.heap e o C od:=⟨he,hcl,by unfold notCls;rw[hd],hod⟩
theorem aEi{K:Frag}{C fI e:Addr}{own:List Str}{o:Obj}{od:Option Obj}{name:Str}{tk:Tok}{v:Value}{R:Result→Shared→Prop}(F:aBl K C fI own)(X1:K.In s.heap)(I:InstAt s.heap e o C od)(hn:own.contains name=true)
  (h:∀b,wpAny G.M A.in1 (storeInOwnDict (.ref e) (.ref C) (.str name tk) name v b) (fun fin s'=>match fin with|.done f=>R (.ok f) s'|.again c'=>c'.quiet=true∧codeAny G.M A c' R s') (fun e s'=>R (.error e) s') s):
  codeAny G.M A (.call (.builtin "object.__setattr__") ⟨[.ref e,.str name tk,v],[]⟩) R s:=by
 have SF:=PySem.F.store_object
 obtain⟨nm,q,N,bs,bm,hdct,sn,sb,ab,col,dd,k0,k1,k2,k3,k5,ho,hx,hB,hb,hA,hN⟩:=F.obj
 have sub:Looks G.M s.heap (isInstance (.ref e) (.type "object")) true:=I.type.andThen (looks_mroIn X1 F.isObj)
 refine codeAny_call_builtin SF.slot.plain SF.entry (@check_slot G.M _ _ s "object.__setattr__" "object" "__setattr__" (.ref e) [.str name tk,v] [] _ SF.kind SF.split sub (SF.args (.ref e) (.str name tk) v) ?_)
 have hcls:clsIn K C=some {name:=nm,bases:=bs,mro:=.ref C::bm,ns:=N,qualname:=q,hasDict:=hdct,slotNames:=sn,subclasses:=sb,abstract:=ab,collection:=col,hasDel:=false}:=by unfold clsIn;rw[ho]
 have hm:Looks G.M s.heap (mroOf (.ref C)) (.ref C::bm):=(looks_clsIn X1 hcls).andThen .now
 have L3:Looks G.M s.heap (storeTaker? none) none:=.now
 rw[osa_eq,refuse_eq]
 refine wpAny_bind (wpAny_bind (I.type.here (wpAny_bind (hm.here ?_))))
 rw[aCX _ (by unfold oY;exact hx)]
 refine wpAny_pure (wpAny_bind (I.type.here (wpAny_bind ((looks_findIn X1 (F.names name hn)).here (wpAny_bind (L3.here ?_))))))
 exact h _
theorem aIp{C fI e:Addr}{own:List Str}{odx:Option Addr}{name:Str}{u:V}{w:Value}{Qu:Unit→Shared→Prop}{E:Value→Shared→Prop}(hm:kN C fI own)(hb:G.base.StaysIn s.heap)(sim:iH G.P σ s.heap)
  (he:σ e=some (.exc C odx)) (hn:own.contains name=true) (hr:bW G.P σ s.heap u w)
  (hdx:∀dx,odx=some dx→∃ks vs,σ dx=some (.ns ks vs)∧ks.length≤900)
  (h0:odx=none→∀dx,σ dx=none→∀s',cA s (upd e (.exc C (some dx)) (upd dx (.ns [name] [u]) σ)) s' σ→iH G.P (upd e (.exc C (some dx)) (upd dx (.ns [name] [u]) σ)) s'.heap→Qu () s')
  (h1:∀dx ks vs,odx=some dx→σ dx=some (.ns ks vs)→∀s',cA s (upd dx (.ns (lV ks name) (lP ks vs name u)) σ) s' σ→iH G.P (upd dx (.ns (lV ks name) (lP ks vs name u)) σ) s'.heap→Qu () s'):
  wpAny G.M A (setAttr (.ref e) name w) Qu E s:=by
 obtain⟨K,hK,hc⟩:=hm
 have F:=iV hc
 have X1:=hK.keeps hb
 obtain⟨o,hoe,hcl,hdi,hsl,vs,hd,hsz,h1'⟩:=sim e _ he
 obtain⟨cd,hcd,hdd⟩:=any_some F.dict
 induction odx with
 |some dx=>
  obtain⟨ks,vs,hσ,hz⟩:=hdx dx rfl
  obtain⟨od,h2,es,n,rfl,h3,h4⟩:=sim dx _ hσ
  have I:InstAt s.heap e o C (some (fX es n)):=aCg (K:=K) (fI:=fI) (own:=own) hoe hcl hd (rwL hdi h2)
  refine set_plain X1 I F.sets ?_
  refine aEi (s:={s with toks:=s.toks+1}) F X1 I hn fun b=>?_
  refine wpAny_bind (wpAny_pure (wpAny_bind (wpAny_bind (wpAny_loadPart hoe ?_))))
  rw[hcl]
  refine wpAny_bind ((looks_clsIn (h:=s.heap) X1 hcd) _ _ _ _ (fun Z Z e=>e) ?_)
  rw[hdd,hdi]
  exact wpAny_pure (a:=some dx) (wpAny_bind (wpAny_pure (wpAny_bind (aDo _ sim hσ hz hr fun h' es n tk hn hl k1 k2=>wpAny_bind (wpAny_lookBehind (s:={s with heap:=h',toks:=tk}) hn (pastItsLine_dict hl) (wpAny_pure (h1 dx ks vs rfl hσ _ k1 k2)))))))
 |none=>
  have I:InstAt s.heap e o C none:=aCg (K:=K) (fI:=fI) (own:=own) hoe hcl hd (by rw[hdi];trivial)
  refine set_plain X1 I F.sets ?_
  refine aEi (s:={s with toks:=s.toks+1}) F X1 I hn fun b=>?_
  refine wpAny_bind (wpAny_pure (wpAny_bind (wpAny_bind (wpAny_loadPart hoe ?_))))
  rw[hcl]
  refine wpAny_bind ((looks_clsIn (h:=s.heap) X1 hcd) _ _ _ _ (fun Z Z e=>e) ?_)
  rw[hdd,hdi]
  rw[if_neg (by simp)]
  dsimp only
  rw[if_neg (by simp[typeHasDict]),hd]
  dsimp only
  have hf:=eG s.heap
  obtain⟨D,hD⟩:∃D,s.heap.objs.size=D:=⟨_,rfl⟩
  obtain⟨a1,m1⟩:=lK (tk:=s.toks+1) (h':=s.heap.push emptyDict) (o':=emptyDict) (mo:=.ns [] []) sim (dL s.heap emptyDict) hf (Heap.get?_push_size _ rfl) ⟨#[],0,rfl,rfl,rfl⟩
  have hoe1:=dL s.heap emptyDict _ _ hoe
  refine wpAny_bind (wpAny_alloc (wpAny_bind (wpAny_update hoe1 ?_)))
  rw[hD] at hf a1 m1 ⊢
  have hne:e≠D:=fun q=>nomatch (q▸hoe).symm.trans hf
  have he1:upd D (.ns [] []) σ e=some (.exc C none):=(aR σ _ hne).trans he
  have hnew1:((s.heap.push emptyDict).update e fun o=>{cls:=o.cls,dict:=some D,data:=o.data,slots:=o.slots}).get? e=some {cls:=o.cls,dict:=some D,data:=o.data,slots:=o.slots}:=by
   rw[Heap.get?_update_self _ hoe1 (by simp[Obj.isFreed,hd])]
  obtain⟨a2,m2⟩:=oP (s:={s with heap:=s.heap.push emptyDict,toks:=s.toks+1}) (tk:=s.toks+1) m1 he1 nofun (fun Z=>nofun) (Heap.SameBut.update ..) hnew1 (mo':=.exc C (some D)) ⟨hcl,rfl,hsl,vs,hd,hsz,h1'⟩
  clear hoe1 hnew1
  generalize (s.heap.push emptyDict).update e (fun o=>{cls:=o.cls,dict:=some D,data:=o.data,slots:=o.slots})=H at *
  have hdσ:σ D=none:=dE sim hf
  refine wpAny_pure (a:=some D) (wpAny_bind (wpAny_pure (wpAny_bind (aDo (s:={s with heap:=H,toks:=s.toks+1}) (s.toks+1) m2 ((aR _ _ hne.symm).trans (aI ..)) (cM _) ((hr.step a1.keep a1.dom).step a2.keep a2.dom) fun h' es n tk hn hl k1 k2=>?_))))
  rw[kC hne,bK] at k1 k2
  exact wpAny_bind (wpAny_lookBehind (s:={s with heap:=h',toks:=tk}) hn (pastItsLine_dict hl) (wpAny_pure (h0 rfl _ hdσ _ ((a1.trans a2).trans k1) k2)))
end
end Mine
end
section
namespace Mine
noncomputable def aGc:V→Bool
 |.none|.bool _|.int _|.str _=>true
 |_=>false
theorem aF4{P:Params}{σ:aA}{h:Heap}{x:V}{v:Value}(hs:aGc x=true)(r:bW P σ h x v):bW P sH {} x v:=by
 cases x with
 |none=>exact r
 |bool _=>exact r
 |int _=>exact r
 |str _=>exact r
 |_=>exact iX hs
theorem yY{P:Params}{σ:aA}{h:Heap}:∀{l:List V} {vs:List Value},l.all aGc=true→bC P σ h l vs→aD5 P l vs
 |[],_,_,r=>r
 |x::l,_,hs,r=>by
  rw[List.all_cons,Bool.and_eq_true] at hs
  obtain⟨v,vs,rfl,r1,r2⟩:=r
  exact⟨v,vs,rfl,aF4 hs.1 r1,yY hs.2 r2⟩
theorem aMc{vs:Array Value}(h:vs.size=6)(h1:vs[1]? =some .none):∃a b c d e,vs=#[a,.none,b,c,d,e]:=by
 obtain⟨l⟩:=vs
 obtain⟨a,x,b,c,d,e,rfl⟩:=aKQ (l:=l) h
 simp at h1
 subst h1
 exact⟨a,b,c,d,e,rfl⟩
section
variable{md:Md}{A:Around}{env:Env}{m:Str→Option Value}{loc:aX}{σ σ':aA}{s s':Shared}{X:bF→Prop}
inductive aL5(name:Str)(loc:aX)(Q:gA→aX→aA→Prop)(u:V)(a C:Addr)(σ2:aA):Option Addr→Prop
 |none (h:∀dx,σ2 dx=none→dx≠a→Q .next loc (upd a (.exc C (some dx)) (upd dx (.ns [name] [u]) σ2))):aL5 name loc Q u a C σ2 none
 |some (dx:Addr) (ks:List Str) (vs:List V) (h1:σ2 dx=some (.ns ks vs)) (h2:ks.length≤900) (q:Q .next loc (upd dx (.ns (lV ks name) (lP ks vs name u)) σ2)):aL5 name loc Q u a C σ2 (some dx)
inductive aNU(name:Str)(loc:aX)(Q:gA→aX→aA→Prop)(u x:V)(σ2:aA):Prop|mk (a C fI:Addr) (own:List Str) (odx:Option Addr) (h1:x=.ref a) (h2:σ2 a=some (.exc C odx)) (h3:kN C fI own) (h4:own.contains name=true) (q:aL5 name loc Q u a C σ2 odx)
abbrev aNy(md:Md)(o:Expr)(name:Str)(loc:aX)(Q:gA→aX→aA→Prop)(X:bF→Prop):V→aA→Prop:=fun u σ1=>cP X σ1 loc md (aNU name loc Q u) o
theorem jF{o e:Expr}{name:Str}{tp pos:Pos}{Q:gA→aX→aA→Prop}
  (h:cP X σ loc md (aNy md o name loc Q X) e) (hn:gN e=true:=by rfl):sY md (.Assign [.Attribute o name tp] e pos) loc σ Q X:=fun A env m s S=>by
 refine plainObj_wpAny_Assign_Attribute (wpAny_mono (h A env m s S) (fun w s1 q=>?_) fun Z Z z=>z.sx S) (hO hn ..)
 obtain⟨u,σ1,h1,h2,h3,S1⟩:=S.ev q
 refine wpAny_mono (h1 A env m s1 S1) (fun v s2 q=>?_) fun Z Z z=>(z.sx S1).then (h3.l _)
 obtain⟨x,σ2,⟨a,C,fI,own,odx,rfl,k2,k3,k4,k5⟩,j2,j3,S2⟩:=S1.ev q
 subst j2
 have hu:=h2.step j3.keep j3.dom
 refine aIp k3 S2.frm.stays S2.sim k2 k4 hu (fun dx hdx=>?_) (fun h0 dx hσ s3 a3 sim3=>?_) (fun dx ks vs h1 hσ s3 a3 sim3=>?_)
 ·subst hdx
  obtain⟨h⟩|⟨_,ks,vs,e1,e2,_⟩:=k5
  exact⟨ks,vs,e1,e2⟩
 ·subst h0
  have S3:=S2.after a3 sim3
  obtain⟨k5⟩|_:=k5
  exact⟨.next,loc,_,m,k5 dx hσ (by rintro rfl;rw[k2] at hσ;exact cZ (Eq.symm hσ)),rfl,((h3.trans j3).trans a3).l _,S3.ns,S3.sim,S3.loc⟩
 ·subst h1
  obtain⟨h⟩|⟨_,ks',vs',e1,e2,e3⟩:=k5
  replace e1:=hσ▸e1
  cases e1
  have S3:=S2.after a3 sim3
  exact⟨.next,loc,_,m,e3,rfl,((h3.trans j3).trans a3).l _,S3.ns,S3.sim,S3.loc⟩
inductive aOX(X:bF→Prop)(σ:aA)(r:V)(σ1:aA):Prop|mk (ea C fI:Addr) (own:List Str) (dx:Addr) (ks:List Str) (vs:List V) (h1:r=.ref ea) (h2:σ1 ea=some (.exc C (some dx))) (h3:σ1 dx=some (.ns ks vs)) (h4:σ ea=none) (h5:σ dx=none) (h6:vs.all aGc=true) (h7:kN C fI own) (h8:X ⟨C,ks,vs⟩)
theorem aCf{e:Expr}{pos:Pos}{Q:gA→aX→aA→Prop}(hd:md.hd=none)
  (h:cP X σ loc md (aOX X σ) e):sY md (.Raise (some e) none pos) loc σ Q X:=fun A env m s S=>by
 rw[arm_exec_Raise]
 refine wpAny_bind (wpAny_standAt ?_)
 show wpAny _ _ (raiseStmt env (some (do let v ←eval e env;standAt pos;pure v)) none) _ _ _
 unfold raiseStmt
 refine wpAny_bind (wpAny_bind (wpAny_mono (h A env m s S) (fun v s1 q=>?_) fun Z Z z=>z.sx S))
 obtain⟨r,σ1,⟨ea,C,fI,own,dx,ks,vs,rfl,k1,k2,k3,k4,k5,k6,k7⟩,h2,h3,S1⟩:=S.ev q
 subst h2
 have hh:A.handled=none:=S.frm.hand.trans hd
 obtain⟨K,hK,hc⟩:=k6
 obtain⟨⟨nm,q',N,bs,bm,hdct,sn,sub,ab,col,dd,k0,kk1,kk2,kk3,k5',ho,hx,hB,hb,hA,hN⟩,_⟩:=iV hc
 have hC:=(hK.keeps S1.frm.stays) _ _ ho
 obtain⟨o,hoe,hcl,hdi,hsl,fvs,hdat,hsz,hv1⟩:=S1.sim ea _ k1
 obtain⟨od,hod,es,n,rfl,hk,hv⟩:=S1.sim dx _ k2
 have fr:∀b,σ b=none→σ1 b≠none→s.heap.get? b=none:=fun b hb hb1=>by
  induction hq:s.heap.get? b with
  |none=>rfl
  |some o=>exact absurd ((h3.dom b o hq).1 hb) hb1
 have fin:SX env σ X s (.ref ea) s1:=by
  refine⟨_,k7,⟨ea,dx,o,fvs,es,n,rfl,fr ea k3 (by rw[k1];simp),hoe,hcl,hdi,hdat,by lia,.inl ⟨hv1,trivial⟩,fr dx k4 (by rw[k2];simp),hod,hk,yY k5 hv⟩,h3.same,h3.keep.l _,h3.live,m,S1.ns⟩
 refine wpAny_bind (wpAny_standAt (wpAny_pure ?_))
 obtain⟨a0,b0,c0,d0,e0,rfl⟩:=aMc hsz hv1
 obtain⟨oc,odi,oda,osl⟩:=o
 dsimp only at hcl hdi hdat hsl
 subst hcl hdi hdat hsl
 obtain⟨hp,g,d,t,os⟩:=s1
 repeat (first|with_reducible refine wpAny_loadPart_at hoe ?_|with_reducible refine wpAny_loadPart_at hC ?_|(with_reducible refine wpAny_isSubtype_exc hC ?_;rw[hb])|wp_step)
 exact wpAny_raiseNew_none hh fin
noncomputable def lT(σ:aA):aA:=fun b=>match σ b with
 |some .mark=>some .mark
 |_=>none
theorem nI{σ:aA}{b:Addr}(h:σ b=some .mark):lT σ b=some .mark:=by unfold lT;rw[h]
theorem gW{σ:aA}{b:Addr}(h:σ b=none):lT σ b=none:=by unfold lT;rw[h]
set_option tactic.hygienic true in
theorem aH7{σ:aA}{b:Addr}{mo:dJ}(h:lT σ b=some mo):mo=.mark∧σ b=some .mark:=by
 unfold lT at h
 split at h
 ·rename_i hm;obtain rfl:=bE h;exact⟨rfl,hm⟩
 ·exact cZ h
noncomputable def rX:aX→Bool
 |[]=>true
 |(_,.val _)::l=>rX l
 |_=>false
theorem tR:∀{l:aX} {x:Str} {lv:LV},rX l=true→l.lookup x=some lv→∃v,lv=.val v
 |[],_,_,_,e=>by simp at e
 |(y,.val v)::l,x,lv,h,e=>by
  rw[List.lookup_cons] at e
  split at e
  ·obtain rfl:=bE e;exact⟨v,rfl⟩
  ·exact tR (l:=l) h e
 |(y,.cell c)::l,_,_,h,_=>by exact iX h
noncomputable def aJ0(D C:Addr):Prop:=∃K:Frag,K.In G.base∧(mroIn K D (.ref C)=some true)
noncomputable def aJJ(C:Addr):Prop:=∃fI own,kN C fI own
inductive aGb(md:Md)(loc:aX)(σ:aA)(Q:gA→aX→aA→Prop)(x:bF):ExceptHandler→Prop
 |mk {cn n:Str} {cp pos:Pos} {b0:Stmt} {suite:List Stmt} (C:Addr) (hE:∀hd,cP (fun _=>False) σ loc ⟨md.n,hd,md.sc⟩ (fun v σ1=>v=.ref C∧σ1=σ) (.Name cn cp)) (hC:aJJ C) (hS:aJ0 x.C C) (hl:md.sc.lookup n=some .local)
  (hB:∀hd,jC (fun _=>False) σ ((n,.val (.xc x.C x.ks x.vs))::loc) ⟨md.n,hd,md.sc⟩ (fun fl _ σ'=>∃v,fl=.ret v∧Q (.ret v) [] σ') (b0::suite)):aGb md loc σ Q x (.ExceptHandler (some (.Name cn cp)) (some n) (b0::suite) pos)
set_option tactic.hygienic true in
theorem aBh{C D:Addr}{e:Addr}{oe:Obj}{fI fI':Addr}{own own':List Str}{Q:Bool→Shared→Prop}{E:Value→Shared→Prop}(hb0:G.base.StaysIn s.heap)(hD:kN D fI own)(hC:kN C fI' own')(hs:aJ0 D C)
  (he:s.heap.get? e=some oe) (hcl:oe.cls=.ref D) (hq:Q true s):wpAny G.M A (excMatches (.ref e) (.ref C)) Q E s:=by
 obtain⟨K,hK,hc⟩:=hD
 obtain⟨⟨nm,q',N,bs,bm,hdct,sn,sb,ab,col,dd,k0,kk1,kk2,kk3,k5',ho,hx,hB,hb,hA,hN⟩,_⟩:=iV hc
 obtain⟨K2,hK2,hc2⟩:=hC
 obtain⟨⟨nm2,q2,N2,bs2,bm2,hdct2,sn2,sb2,ab2,col2,dd2,j0,j1,j2,j3,j5,ho2,hx2,hB2,hb2,hA2,hN2⟩,_⟩:=iV hc2
 obtain⟨K3,hK3,hs⟩:=hs
 have cD:=(hK.keeps hb0) _ _ ho
 have cC:=(hK2.keeps hb0) _ _ ho2
 have hbm:(Value.ref D::bm).contains (.ref C)=true:=by
  unfold mroIn at hs
  obtain⟨cd,h1,h2⟩:=Option.bind_eq_some_iff.mp hs
  unfold clsIn at h1
  split at h1
  ·rename_i o1 o2 cd' sl hl
   obtain rfl:=bE h1
   have:=(hK3.keeps hb0) _ _ hl
   rw[cD] at this
   injection this with this
   injection this with _ _ hdat _
   injection hdat with hdat
   subst hdat
   split at h2
   ·exact cZ h2
   ·simpa using h2
  ·exact cZ h1
 have f:=tc_notTuple
 obtain⟨hp,g,d,t,os⟩:=s
 unfold excMatches
 repeat (first|(with_reducible refine wpAny_loadPart_at he ?_;rw[hcl])|with_reducible refine wpAny_loadPart_at cC ?_|with_reducible refine wpAny_loadPart_at cD ?_|(with_reducible refine wpAny_isSubtype_exc cC ?_;rw[hb2])|(with_reducible refine wpAny_isSubtype_exc cD ?_;rw[hbm])|wp_step)
 wp_walk
 exact hq
structure EU(σ:aA)(x:bF)(q:Option Value→Prop)(s:Shared)(e:Value)(s':Shared):Prop where
 up:Up G.P s.heap x q e s'.heap
 same:aGE s s'
 keep:nX σ s.heap s'.heap
 live:oV s.heap s'.heap
theorem aKq{e:Value}(q:EX σ X s e s'):∃x,X x∧EU σ x (fun Z=>True) s e s':=by
 obtain⟨x,h1,h2,h3,h4,h5⟩:=q
 exact⟨x,h1,h2,h3,h4,h5⟩
theorem aCo{h0 h h':Heap}{S:List Addr}(k:nX σ h0 h)(st:hV S h0 h h')(hm:∀a∈S,σ a=some .mark):nX σ h0 h':=fun b o e=>by
 have hs:(h0.get? b).isSome=true:=by rw[e];rfl
 refine⟨fun z=>?_,fun z=>?_⟩
 ·exact(st.1 b o ((k b o e).1 z) hs).1 fun hb=>by rw[hm b hb] at z;exact cZ (Eq.symm z)
 ·obtain⟨o',e',q⟩:=(k b o e).2 z
  obtain⟨o'',e'',q'⟩:=(st.1 b o' e' hs).2
  exact⟨o'',e'',q.trans q'⟩
theorem aDr{A':Around}{x:bF}{q:Option Value→Prop}{e:Value}{Qu:Unit→Shared→Prop}{E:Value→Shared→Prop}(hA:A'.frames=A.frames)(F:Frm md A env σ s.heap)(u:EU σ x q s e s')
  (hQ:∀s'',(∃L,EU σ x (·=some (rawInt L)) s e s'')→Qu () s''):wpAny G.M A' (noteFrame e env) Qu E s':=by
 obtain⟨h1,h2,hn',h3,h4,h5,h6,h7,⟨fenv,outer,L,f1,f2,f3,f4,f5⟩,h9,h10,h11,h12⟩:=F
 obtain⟨U,⟨h',tk,rfl⟩,k,l⟩:=u
 have F':dY G.base h' (fenv::outer):=dY.of' f4 fun b o hb e Z=>(k b o e).2 (f5 b hb)
 exact aDD (hA.trans f1) f2 f3 F' l f4.all U fun h'' U' st F''=>hQ _ ⟨L,U',⟨_,_,rfl⟩,aCo k st f5,l.trans st.2⟩
theorem tD{A':Around}{x:bF}{q:Option Value→Prop}{e:Value}{fl:Option Addr}{Qu:Unit→Shared→Prop}{E:Value→Shared→Prop}(F:Frm md A env σ s.heap)(u:EU σ x q s e s')(hU:¬q none)
  (hQ:∀s'',EU σ x (·=some (fl.elim .none fun f=>rawInt f)) s e s''→Qu () s''):wpAny G.M A' (setFlight e fl) Qu E s':=by
 obtain⟨h1,h2,hn',h3,h4,h5,h6,h7,⟨fenv,outer,L,f1,f2,f3,f4,f5⟩,h9,h10,h11,h12⟩:=F
 obtain⟨U,⟨h',tk,rfl⟩,k,l⟩:=u
 have F':dY G.base h' (fenv::outer):=dY.of' f4 fun b o hb e Z=>(k b o e).2 (f5 b hb)
 exact zN (S:=qE (fenv::outer)) F' U hU fun h'' U' st F''=>hQ _ ⟨U',⟨_,_,rfl⟩,aCo k st f5,l.trans st.2⟩
theorem aGS{x:bF}{q:Option Value→Prop}{e:Value}(u:EU σ x q s e s')(hc:∀b v,σ b≠some (.cell v)):cA s (lT σ) s' σ:=
 ⟨u.same,u.keep,fun b o Z=>⟨gW,nI,fun v h=>absurd h (hc b v)⟩,u.live⟩
theorem aKz{A':Around}{x:bF}{q:Option Value→Prop}{e:Value}(S:St s σ m env A md loc)(hv:rX loc=true)(hA:A'.frames=A.frames)(hdp:A'.depth=A.depth)(hun:A'.units=A.units)(u:EU σ x q s e s'):
  St s' (lT σ) m env A' ⟨md.n,A'.handled,md.sc⟩ loc:=by
 obtain⟨⟨h1,h2,hn',h3,h4,h5,h6,h7,⟨fenv,outer,L,f1,f2,f3,f4,f5⟩,h9,h10,h11,h12⟩,hns,sim,hl⟩:=S
 refine⟨⟨h1,h2,hn',h3,h4,rfl,by exact rwL hdp h6,by exact rwL hun h7,⟨fenv,outer,L,hA.trans f1,f2,f3,dY.of' f4 fun b o hb e Z=>(u.keep b o e).2 (f5 b hb),fun a ha=>nI (f5 a ha)⟩,fun b o e=>(u.keep b o (h9 b o e)).1 (h10 b o e),fun b o e=>gW (h10 b o e),nI h11,h12⟩,?_,fun a mo e=>?_,fun y lv e=>?_⟩
 ·exact kG hns fun o e=>(u.keep _ o e).2 h11
 ·obtain⟨rfl,hm⟩:=aH7 e
  obtain⟨o,ho,_⟩:=sim a _ hm
  obtain⟨o',ho'⟩:=u.live a o ho
  exact⟨o',ho',trivial⟩
 ·obtain⟨v,rfl⟩:=tR hv e
  obtain⟨k,w,hw,r⟩:=hl y _ e
  exact⟨k,w,hw,r.mono fun b o e z=>⟨(u.keep b o e).1 z,gW z⟩⟩
theorem aEJ(b:Addr):({}:Heap).get? b=none:=by
 induction hq:({}:Heap).get? b with
 |none=>rfl
 |some o=>have:=Heap.lt_size hq;simp at this
theorem aKV{x:bF}{q:Option Value→Prop}{e:Value}(sim:iH G.P σ s.heap)(u:EU σ x q s e s'):bW G.P (lT σ) s'.heap (.xc x.C x.ks x.vs) e:=by
 obtain⟨ea,dx,oe,vs,es,n,rfl,h0e,he,hcl,hdi,hd,hsz,htb,h0d,hdx,hk,hv⟩:=u.up
 exact⟨ea,dx,oe,es,n,rfl,gW (dE sim h0e),gW (dE sim h0d),he,hcl,hdi,by unfold notCls;rw[hd],hdx,hk,hv.mono fun b o e Z=>by rw[aEJ] at e;exact cZ e⟩
theorem EU.step{x:bF}{q:Option Value→Prop}{e:Value}{s1:Shared}(u:EU σ x q s e s')(sim:iH G.P σ s.heap)(a:cA s' (lT σ) s1 (lT σ)):EU σ x q s e s1:=by
 obtain⟨⟨ea,dx,oe,vs,es,k,e1,e2,e3,e4,e5,e6,e7,e8,e9,e10,e11,e12⟩,⟨h1,t1,q1⟩,uk,ul⟩:=u
 obtain⟨⟨h2,t2,q2⟩,kk,dd,ll⟩:=a
 have mv:∀b,s.heap.get? b=none→lT σ b=none:=fun b hb=>gW (dE sim hb)
 exact⟨⟨ea,dx,oe,vs,es,k,e1,e2,(kk _ _ e3).1 (mv _ e2),e4,e5,e6,e7,e8.imp id fun⟨T,oT,ts,f,z1,z2,z3,z4,z5,z6,z7⟩=>⟨T,oT,ts,f,z1,z2,z3,(kk _ _ z4).1 (mv _ z2),z5,z6,z7⟩,e9,(kk _ _ e10).1 (mv _ e9),e11,e12⟩,
  ⟨h2,t2,q2.trans (q1▸rfl)⟩,fun b o e=>⟨fun z=>(kk b o ((uk b o e).1 z)).1 (gW z),fun z=>let⟨o',e',q⟩:=(uk b o e).2 z;let⟨o'',e'',q'⟩:=(kk b o' e').2 (nI z);⟨o'',e'',q.trans q'⟩⟩,ul.trans ll⟩
theorem aEM{Q:gA→aX→aA→Prop}{σ5:aA}{s5:Shared}{h6:Heap}{m6:Str→Option Value}{v:V}{w:Value}(S:St s σ m env A md loc)(aft:eK env.locals σ σ5 s s5)(hq:Q (.ret v) [] σ5)(r:bW G.P σ5 s5.heap v w)(sim:iH G.P σ5 s5.heap)(n6:h6.Ns env.locals m6)
  (hs:∀b,b≠env.locals→h6.get? b=s5.heap.get? b):SQ env σ Q s (.ret w) {s5 with heap:=h6,toks:=s5.toks+1}:=by
 obtain⟨o,_,_,ho,_⟩:=S.ns
 have hoff:σ5 env.locals=some .mark:=(aft.dom _ o ho).2.1 S.frm.off
 obtain⟨o',x1,x2,e',x3⟩:=n6
 have keepR:∀b o,s5.heap.get? b=some o→σ5 b=none→h6.get? b=some o∧σ5 b=none:=fun b o e z=>⟨(hs b fun q=>nomatch (q▸z).symm.trans hoff).trans e,z⟩
 refine⟨.ret v,[],σ5,m6,hq,⟨w,rfl,r.mono keepR⟩,aft.trans ⟨⟨_,_,rfl⟩,fun b o e=>⟨fun z=>(keepR b o e z).1,fun z n=>⟨o,(hs b n).trans e,.refl o⟩⟩,yJ.refl σ5 s5.heap,fun b o e=>?_⟩,⟨o',x1,x2,e',x3⟩,fun a mo e=>?_,fun y lv e=>nomatch e⟩
 ·exact if hb:b=env.locals then⟨o',hb▸e'⟩ else⟨o,(hs b hb).trans e⟩
 ·by_cases ha:a=env.locals
  ·exact⟨o',ha▸e',bE (hoff.symm.trans (ha▸e))▸trivial⟩
  ·obtain⟨o,ho,c⟩:=sim a mo e
   exact⟨o,(hs a ha).trans ho,c.mono keepR⟩
theorem aHH{x:bF}{e:Value}{Q:gA→aX→aA→Prop}{E:Value→Shared→Prop}(S:St s σ m env A md loc)(hv:rX loc=true)(hc:∀b v,σ b≠some (.cell v))(hX:∃fI own,kN x.C fI own){hd:ExceptHandler}{hs:List ExceptHandler}(u:EU σ x (·=some .none) s e s')
  (h:aGb md loc (lT σ) Q x hd):wpAny G.M A (handleBy e env (hd::hs)) (SQ env σ Q s) E s':=by
 obtain⟨fI,own,hX⟩:=hX
 induction h with
 |@mk _ n _ _ _ _ C hE hC hS hln hB=>
 obtain⟨fI',own',hC⟩:=hC
 obtain⟨ea,dx,oe,vs,es,k,ee,h0e,he,hcl,_⟩:=u.up
 subst ee
 have S1:=aKz (A':=A.mark (some (.ref ea))) S hv rfl rfl rfl u
 refine wpAny_handleBy_cons (codeAny_handlers_test (wpAny_mono (hE _ _ env m s' S1) (fun v s1 q=>?_) fun e s q=>nomatch q)) (nofun)
 obtain⟨r,σ1,⟨q1,q2⟩,h2,h3,S2⟩:=S1.ev q
 subst q1 q2
 have u1:=u.step S.sim h3
 subst h2
 refine aBh S2.frm.stays hX hC hS ((h3.keep ea oe he).1 (gW (dE S.sim h0e))) hcl ?_
 refine codeAny_handlers_suite_as (tD S.frm u1 nofun fun s2 u2=>?_)
 refine lQ (aKz S hv rfl rfl rfl u2) hln (aKV S.sim u2) fun s3 S4 a4=>?_
 refine wpAny_mono (hB _ _ env _ s3 S4) (fun f s5 q5=>?_) fun e s q=>nomatch q
 obtain⟨fl,loc5,σ5,m5,⟨v,q1,hq5⟩,rf,a5,n5,sim5,l5⟩:=q5
 subst q1
 obtain⟨w,q1,r5⟩:=rf
 subst q1
 exact wpAny_nameGoes ((congrArg (List.lookup n) S.frm.names).trans hln) n5 (by rw[S.frm.kind];rfl) fun h6 m6 n6 sb6=>aEM S (((aGS u2 hc).l env.locals).trans (a4.trans a5)) hq5 r5 sim5 n6 sb6.2
end
end Mine
end
section
open Builtin Builtin.ObjectAttr
namespace Mine
theorem aHc:builtinKind "BaseException.__getattribute__"=some .slot:=by decide+kernel
theorem aE5:splitId "BaseException.__getattribute__"=some ("BaseException","__getattribute__"):=by decide+kernel
theorem aEQ:entryFor table "BaseException.__getattribute__"=some Builtin.«object.__getattribute__»:=entryFor_alias (id':="object.__getattribute__") (by kernel_rfl) (by first|rfl|decide+kernel) (by decide+kernel) (by kernel_rfl)
theorem aFr:plainId "BaseException.__getattribute__"=true:=by decide+kernel
theorem aG8(a b:Value):argsOk "BaseException.__getattribute__" ⟨[a,b],[]⟩:=by unfold argsOk;kernel_rfl
theorem aGQ(self:Value):bindSpecial (.builtin "BaseException.__getattribute__") self=pure (.builtin "BaseException.__getattribute__",[self]):=
 (Slot.of (T:="BaseException") (name:="__getattribute__") (owner:="BaseException") (n:="__getattribute__") (by rw[typeLookup_type,builtinLookup_eq_fast];kernel_rfl) (by decide+kernel) (by decide+kernel) (by decide+kernel)
  (.inl (by decide+kernel)) (by rw[isSubtype_type];kernel_rfl)).bind self
section
variable{md:Md}{A:Around}{env:Env}{m:Str→Option Value}{loc:aX}{σ σ':aA}{s s':Shared}{X:bF→Prop}
theorem aI9{x:V}{v:Value}{C fI:Addr}{ks own:List Str}{vs:List V}{name:Str}{u:V}{expr:Bool}{Qv:Value→Shared→Prop}{E:Value→Shared→Prop}(hm:kN C fI own)(hb:G.base.StaysIn s.heap)
  (r:bW G.P σ s.heap (.xc C ks vs) v) (hn:own.contains name=true) (hg:iY ks vs name=some u) (hp:mG u=true)
  (h:∀w t,bW G.P σ s.heap u w→Qv w {s with toks:=t}):wpAny G.M A (getAttr v name expr) Qv E s:=by
 obtain⟨a,dx,o,es,n,rfl,hs,hsx,ho,hc,hdi,hnc,hd,hk,hv⟩:=r
 obtain⟨K,hK,hcc⟩:=hm
 have F:=iV hcc
 have X1:=hK.keeps hb
 obtain⟨nm,q,N,bs,bm,hdct,sn,sb,ab,col,dd,k0,k1,k2,k3,k5,hoC,hx,hB,hbB,hA,hN⟩:=F.obj
 have I:InstAt s.heap a o C (some (fX es n)):=⟨ho,hc,hnc,rwL hdi hd⟩
 obtain⟨e,he,hr⟩:=wO hk hv hg
 have hf:findObj K C (some (fX es n)) name=some (.value e.val):=findObj_own F.dict (F.names name hn) rfl (by
  show lookIn name (fX es n)=_
  unfold lookIn
  dsimp only
  rw[he])
 have hh:=sG hp hr
 have hsub:Looks G.M s.heap (isInstance (.ref a) (.type "BaseException")) true:=I.type.andThen (looks_mroIn X1 (by
  unfold mroIn clsIn
  rw[hoC]
  simp only[Option.bind_some,List.isEmpty_cons,Bool.false_eq_true,if_false]
  rw[hbB]))
 obtain⟨hp',g,d,t,os⟩:=s
 have L0:=I.type (M:=G.M)
 have L1:=looks_findIn (M:=G.M) X1 F.gets
 have L2:=looks_findIn (M:=G.M) X1 F.hook
 have L3:=looks_find (M:=G.M) X1 I hf
 unfold getAttr getAttrBy
 refine wpAny_bind (wpAny_mkText (wpAny_holding (wpAny_bind (L0.at (wpAny_bind (L1.at ?_))))))
 show wpAny _ _ (getAttrByItsOwn (.ref a) (.str name t) (.ref C) (.builtin "BaseException.__getattribute__") true expr) _ _ _
 unfold getAttrByItsOwn hookBefore callGetattribute boundAndCalled
 have h1:(if onTheHeap (.ref C)=true then typeLookup (.ref C) (Str.ofString "__getattr__") else pure none)=typeLookup (.ref C) (Str.ofString "__getattr__"):=rfl
 rw[h1]
 refine wpAny_bind (L2.at ?_)
 have h2:(expr&&onTheHeap (.builtin "BaseException.__getattribute__"))=false:=by
  rw[show onTheHeap (.builtin "BaseException.__getattribute__")=false from rfl,Bool.and_false]
 refine rwL h2 ?_
 refine rwL (if_neg (by exact zD T0)) ?_
 refine wpAny_bind (wpAny_attempt (wpAny_holding ?_))
 refine rwL (aGQ _) ?_
 refine wpAny_bind (wpAny_pure ?_)
 refine wpAny_call (codeAny_call_builtin aFr aEQ (@check_slot G.M _ _ _ "BaseException.__getattribute__" "BaseException" "__getattribute__" (.ref a) [.str name t] [] _ aHc aE5 hsub (aG8 _ _) ?_))
 unfold Builtin.«object.__getattribute__»
 refine wpAny_bind (wpAny_pure (wpAny_bind (wpAny_pure (wpAny_bind (L0.at (wpAny_bind (L3.at ?_)))))))
 refine wpAny_pure ?_
 show wpAny _ _ (handedOut e.val) _ _ _
 refine rwL (handedOut_of hh) ?_
 exact wpAny_pure (h _ _ hr)
inductive aPI(name:Str)(Q:V→aA→Prop)(x:V)(σ1:aA):Prop|mk (C fI:Addr) (own ks:List Str) (vs:List V) (u:V) (h1:x=.xc C ks vs) (h2:kN C fI own) (h3:own.contains name=true) (h4:iY ks vs name=some u) (h5:mG u=true) (q:Q u σ1)
theorem pL{e:Expr}{name:Str}{pos:Pos}{Q:V→aA→Prop}(h:cP X σ loc md (aPI name Q) e)
  (he:∀env,eval (.Attribute e name pos) env=(do
   let o ←eval e env
   standAt pos.atName
   let r ←holding [o] (getAttr o name true)
   letTemporaryGo e o r
   pure r):=by intro _;with_unfolding_all rfl):cP X σ loc md Q (.Attribute e name pos):=fun A env m s S=>by
 refine Attribute_any_ (wpAny_mono (h A env m s S) (fun v s1 q=>?_) fun Z Z z=>z) (he env)
 obtain⟨x,σ1,⟨C,fI,own,ks,vs,u,rfl,l2,l3,l4,l5,l6⟩,h2,h3,S1⟩:=S.ev q
 exact aI9 (x:=.none) l2 S1.frm.stays h2 l3 l4 l5 fun w t hw=>⟨u,σ1,l6,hw,h3.trans (.tok ..),S1.sim⟩
end
end Mine
end
section
namespace Mine
noncomputable def Ext(σ σ':aA):Prop:=∀b,σ b≠none→σ' b=σ b
noncomputable def cR(names sc:List (Str×NameKind)):List (Str×NameKind):=names.map fun(n,k)=>if(k==.free&&sc.lookup n==some .cell) then(n,.cell) else(n,k)
noncomputable def nY:List (Str×NameKind)→aX→List (Str×Addr)→Option (List (Str×Addr))
 |[],_,acc=>some acc
 |(n,k)::r,loc,acc=>if k==.free then(match loc.lookup n with
    |some (.cell c)=>nY r loc ((n,c)::acc)
    |_=>none) else nY r loc acc
noncomputable def gT(cl:List (Str×Addr)):aX:=cl.map fun x=>(x.1,.cell x.2)
noncomputable def aC4(md:Md)(ifs:List Expr)(loc:aX)(σ:aA)(b:Bool):Prop:=match ifs with
 |[]=>b=true
 |[t]=>qI md t loc σ (fun b' σ'=>b'=b∧σ'=σ) (fun Z=>False)
 |_=>False
noncomputable def zC(md:Md)(target:Expr)(ifs:List Expr)(elt:Expr)(loc:aX)(σ:aA):List V→List V→Prop
 |[],ys=>ys=[]
 |v::vs,ys=>∃loc',tZ target v loc=some loc'∧∃b,(∀σ',Ext σ σ'→aC4 md ifs loc' σ' b)∧
   if b=true then ∃y ys',ys=y::ys'∧(∀σ',Ext σ σ'→cP (fun Z=>False) σ' loc' md (fun r σ''=>r=y∧σ''=σ') elt)∧zC md target ifs elt loc σ vs ys'
   else zC md target ifs elt loc σ vs ys
section
variable{md:Md}{A:Around}{env:Env}{m:Str→Option Value}{loc:aX}{σ σ':aA}{s s':Shared}{X:bF→Prop}
set_option tactic.hygienic true in
theorem aCB(S:kL G.P σ s.heap env m loc){names:List (Str×NameKind)}:∀{acc cl:List (Str×Addr)},nY names loc acc=some cl→
  (forIn names acc fun x cs=>if x.2==.free then(do let c ←cellOf env x.1;pure (ForInStep.yield ((x.1,c)::cs))) else pure (ForInStep.yield cs):Sem (List (Str×Addr)))=pure cl:=by
 induction names with
 |nil=>intro acc cl h;obtain rfl:=bE h;rfl
 |cons x r ih=>
  obtain⟨n,k⟩:=x
  intro acc cl h
  unfold nY at h
  rw[List.forIn_cons]
  by_cases hk:(k==NameKind.free)=true
  ·rw[if_pos hk] at h
   split at h
   ·rename_i c hc
    obtain⟨_,hl,_⟩:=S n _ hc
    rw[if_pos hk]
    unfold cellOf
    rw[hl]
    simp only[pure_bind]
    exact ih h
   ·exact cZ h
  ·rw[if_neg hk] at h
   rw[if_neg hk,pure_bind]
   exact ih h
theorem mI{scope:Scope}{cl:List (Str×Addr)}(S:kL G.P σ s.heap env m loc)(h:nY scope.names loc []=some cl):closureFor scope env=pure cl:=by
 have:=aCB (env:=env) S h
 unfold closureFor
 refine rwR this ?_
 exact(bind_pure _)
theorem aDF{L:Addr}{σ₁ σ₂ σ₃:aA}{s₁ s₂ s₃:Shared}(x:cA s₁ σ₂ s₂ σ₁)(y:eK L σ₂ σ₃ s₂ s₃)(h:s₁.heap.get? L=none):cA s₁ σ₃ s₃ σ₁:=by
 obtain⟨⟨h1,t,rfl⟩,k,d,l⟩:=x
 obtain⟨⟨h',t',rfl⟩,k',d',l'⟩:=y
 refine⟨⟨h',t',rfl⟩,fun b o e=>⟨fun z=>(k' b o ((k b o e).1 z)).1 ((d b o e).1 z),fun z=>?_⟩,d.trans l d',l.trans l'⟩
 obtain⟨o',e',q⟩:=(k b o e).2 z
 obtain⟨o'',e'',q'⟩:=(k' b o' e').2 ((d b o e).2.1 z) (by rintro rfl;rw[h] at e;exact cZ e)
 exact⟨o'',e'',q.trans q'⟩
theorem mZ.after0{wr:List Addr}{h':Heap}{tk:Nat}{σ0:aA}{s0:Shared}(w:mZ σ wr s.heap h')(nw:∀b∈wr,s0.heap.get? b=none)(a:cA s0 σ s σ0):cA s0 σ {s with heap:=h',toks:=tk} σ0:=by
 obtain⟨⟨h,t,rfl⟩,k,d,l⟩:=a
 have nm:∀b o,s0.heap.get? b=some o→b∉wr:=fun b o e hm=>by rw[nw b hm] at e;exact cZ e
 refine⟨⟨_,_,rfl⟩,fun b o e=>⟨fun z=>w.keep b o (nm b o e) ((k b o e).1 z),fun z=>?_⟩,d,fun b o e=>let⟨o',e'⟩:=l b o e;⟨o',w.keep b o' (nm b o e) e'⟩⟩
 obtain⟨o',e',q⟩:=(k b o e).2 z
 exact⟨o',w.keep b o' (nm b o e) e',q⟩
set_option tactic.hygienic true in
theorem nQ:∀{cl:List (Str×Addr)} {x:Str} {lv:LV},(gT cl).lookup x=some lv→∃c,lv=.cell c∧cl.lookup x=some c
 |[],_,_,e=>by simp[gT] at e
 |(n,c)::cl,x,lv,e=>by
  unfold gT at e
  rw[List.map_cons,List.lookup_cons] at e
  refine rwL List.lookup_cons ?_
  split at e
  ·rename_i h;obtain rfl:=bE e;exact⟨c,rfl,rwL h rfl⟩
  ·rename_i h
   obtain⟨c',h1,h2⟩:=nQ (cl:=cl) e
   exact⟨c',h1,rwL h h2⟩
set_option tactic.hygienic true in
theorem aFK{names:List (Str×NameKind)}:∀{acc cl:List (Str×Addr)},nY names loc acc=some cl→∀x∈cl,x∈acc∨((x.1,NameKind.free)∈names∧loc.lookup x.1=some (.cell x.2)):=by
 induction names with
 |nil=>intro acc cl h x hx;obtain rfl:=bE h;exact .inl hx
 |cons y r ih=>
  obtain⟨n,k⟩:=y
  intro acc cl h x hx
  unfold nY at h
  by_cases hk:(k==NameKind.free)=true
  ·rw[if_pos hk] at h
   split at h
   ·rename_i c hc
    rcases ih h x hx with q|⟨q1,q2⟩
    ·rcases eM q with rfl|q
     ·obtain rfl:=cJ hk
      exact .inr ⟨eS ..,hc⟩
     ·exact .inl q
    ·exact .inr ⟨fW _ q1,q2⟩
   ·exact cZ h
  ·rw[if_neg hk] at h
   rcases ih h x hx with q|⟨q1,q2⟩
   ·exact .inl q
   ·exact .inr ⟨fW _ q1,q2⟩
set_option tactic.hygienic true in
theorem pY{cl:List (Str×Addr)}{x:Str}{c:Addr}(h:cl.lookup x=some c):(x,c)∈cl:=by
 induction cl with
 |nil=>simp at h
 |cons y cl ih=>
  obtain⟨n,c'⟩:=y
  rw[List.lookup_cons] at h
  split at h
  ·rename_i hq;obtain rfl:=bE h
   have:x=n:=cJ hq
   subst this;exact eS ..
  ·exact fW _ (ih h)
noncomputable def NoX(_:Value)(_:Shared):Prop:=False
inductive aNm(I:Nat→Shared→Prop)(n:Nat)(s:Shared):Prop|mk (m:Nat) (h:m<n) (i:I m s)
section
variable(A:Around)(cenv:Env)(target:Expr)(ifs:List Expr)(elt:Expr)(it acc:Value)(I:Nat→Shared→Prop)(n:Nat)
noncomputable def aOw(x:Value)(s:Shared):Prop:=wpAny G.M A (call (.builtin "list.append") [acc,x]) (fun Z s=>aNm I n s) NoX s
noncomputable def aO6(ok:Bool)(s:Shared):Prop:=match ok with
 |true=>wpAny G.M A (eval elt cenv) (aOw A acc I n) NoX s
 |false=>aNm I n s
noncomputable def aOF(s:Shared):Prop:=wpAny G.M A (forIn ifs true fun c r=>if r=true then do let ok ←isTrue c cenv (eval c cenv);pure (ForInStep.yield ok) else pure (ForInStep.yield r)) (aO6 A cenv elt acc I n) NoX s
noncomputable def aOr(v:Value)(s:Shared):Prop:=wpAny G.M A (assign target cenv v) (fun Z s=>aOF A cenv ifs elt acc I n s) NoX s
noncomputable def aM9(R:Result→Shared→Prop)(r:Option Value)(s:Shared):Prop:=match r with
 |none=>R (.ok .next) s
 |some v=>wpAny G.M A (letOwnedTupleGo target it v) (fun Z s=>aOr A cenv target ifs elt acc I n v s) NoX s
end
theorem aEW{elt target iter:Expr}{ifs:List Expr}{scope:Scope}{pos:Pos}{it acc:Value}{cenv:Env}{R:Result→Shared→Prop}(I:Nat→Shared→Prop)(turn:∀n s,I n s→wpAny G.M A (pyNext it) (aM9 A cenv target ifs elt it acc I n R) NoX s)(n:Nat)(h:I n s):
  codeAny G.M A (.compLoop (.ListComp elt [⟨target,iter,ifs,0⟩] scope pos) 0 it acc cenv) R s:=by
 refine codeAny_loop rfl I (fun n s hI=>?_) n h
 show wpAny _ A ((compTurn (.ListComp elt [⟨target,iter,ifs,0⟩] scope pos) 0 it acc cenv).onRaise (fun x=>do noteFrame x cenv;theTreesLotGoes x)) _ _ s
 refine wpAny_noted ?_
 refine rwL (compTurn_list ..) ?_
 refine wpAny_bind (wpAny_standAt (wpAny_bind (wpAny_mono (turn n s hI) (fun r s₁ h=>?_) fun Z Z=>False.elim)))
 induction r with
 |none=>exact wpAny_pure h
 |some v=>
  refine wpAny_bind (wpAny_mono h (fun Z s h=>wpAny_bind (wpAny_mono h (fun Z s h=>wpAny_bind (wpAny_mono h (fun ok s h=>?_) fun Z Z=>False.elim)) fun Z Z=>False.elim)) fun Z Z=>False.elim)
  induction ok with
  |false=>exact wpAny_pure ⟨rfl,let⟨m,a,b⟩:=h;⟨m,a,b⟩⟩
  |true=>exact wpAny_bind (wpAny_bind (wpAny_mono h (fun x s h=>wpAny_bind (wpAny_mono h (fun Z s h=>wpAny_pure (wpAny_pure ⟨rfl,let⟨m,a,b⟩:=h;⟨m,a,b⟩⟩)) fun Z Z=>False.elim)) fun Z Z=>False.elim))
theorem pD{α:Type}{f:Nat→Option α}{a b:Nat}{x:α}(ha:f a=some x)(hb:f b=none):a≠b:=fun q=>nomatch (q▸ha).symm.trans hb
theorem aHI{α:Type}{a:Option α}{x:α}(h:a=some x):a≠none:=fun q=>nomatch h.symm.trans q
noncomputable def kQ(σ:aA)(D C:Addr)(ys:List V):aA:=upd C .mark (upd D (.lst ys) σ)
theorem aCQ{D C b:Addr}{ys:List V}(h1:b≠D)(h2:b≠C):kQ σ D C ys b=σ b:=(aR _ _ h2).trans (aR _ _ h1)
theorem uQ{D C:Addr}{ys:List V}(h1:σ D=none)(h2:σ C=none):Ext σ (kQ σ D C ys):=fun b hb=>aCQ (fun q=>hb (q▸h1)) fun q=>hb (q▸h2)
theorem aBb{D C:Addr}{ys:List V}(h:D≠C):kQ σ D C ys D=some (.lst ys):=by unfold kQ;rw[aR _ _ h,aI]
theorem aD2{D C:Addr}{ys:List V}:kQ σ D C ys C=some .mark:=aI ..
theorem aJl{D C:Addr}{ys zs:List V}(h:D≠C):upd D (.lst zs) (kQ σ D C ys)=kQ σ D C zs:=by
 unfold kQ
 rw[kC (Ne.symm h),bK]
theorem wW{D C b:Addr}{ys:List V}(h:kQ σ D C ys b=none):σ b=none∧b≠D∧b≠C:=by
 have h1:b≠C:=(pD (f:=kQ σ D C ys) aD2 h).symm
 have h2:b≠D:=fun q=>pD (f:=kQ σ D C ys) (aBb fun z=>h1 (q.trans z)) h q.symm
 exact⟨(aCQ h2 h1).symm.trans h,h2,h1⟩
theorem yB{scope:Scope}(F:Frm md A env σ s.heap):(relabel scope env).names=cR scope.names md.sc:=by
 unfold relabel cR
 have h1:(env.scope.kind==ScopeKind.function)=true:=by rw[F.kind];rfl
 have h2:∀n,env.kindOf n=md.sc.lookup n:=fun n=>by show env.scope.names.lookup n=_;rw[F.names]
 dsimp only
 congr 1
 funext x
 obtain⟨n,k⟩:=x
 dsimp only
 rw[h1,h2 n,Bool.and_true]
theorem aFk{ifs:List Expr}{b:Bool}{Q:Bool→Shared→Prop}(S:St s σ m env A md loc)(h:aC4 md ifs loc σ b)(hq:∀s',cA s σ s' σ→St s' σ m env A md loc→Q b s'):
  wpAny G.M A (forIn ifs true fun c r=>if r=true then do let ok ←isTrue c env (eval c env);pure (ForInStep.yield ok) else pure (ForInStep.yield r)) Q NoX s:=by
 unfold aC4 at h
 split at h
 ·subst h
  exact wpAny_tests_nil (hq s (.refl ..) S)
 ·refine wpAny_tests_one (wpAny_mono (h A env m s S) (fun b' s' q=>?_) fun Z Z q=>by obtain⟨_,hf,_⟩:=q;exact hf.elim)
  obtain⟨σ',⟨rfl,rfl⟩,h2,h3⟩:=q
  exact hq s' h2 (S.after h2 h3)
 ·exact h.elim
noncomputable abbrev cMd(md:Md)(scope:Scope):Md:=⟨md.n,md.hd,cR scope.names md.sc⟩
inductive aNq(md:Md)(A:Around)(cenv:Env)(cl:List (Str×Addr))(target:Expr)(ifs:List Expr)(elt:Expr)(Sw:Nat→aA→Heap→Prop)(σ σ2:aA)(D C:Addr)(xs ys:List V)(s:Shared)(n:Nat)(s':Shared):Prop
 |mk (i:Nat) (acc rest:List V) (m':Str→Option Value) (h1:n=xs.length+1 - i) (h2:i≤xs.length) (S:St s' (kQ σ2 D C acc) m' cenv A md (gT cl)) (A1:cA s (kQ σ2 D C acc) s' σ) (st:Sw i (kQ σ2 D C acc) s'.heap) (hys:ys=acc++rest) (hl:acc.length≤i) (hC:zC md target ifs elt (gT cl) σ2 (xs.drop i) rest)
theorem aIx{i n:Nat}(h:i<n):n+1 - (i+1)<n+1 - i:=by exact Nat.sub_lt_sub_left (Nat.lt_succ_of_lt h) (Nat.lt_succ_self i)
theorem aDe{J:Nat→Shared→Prop}{elt target:Expr}{ifs:List Expr}{scope:Scope}{cl:List (Str×Addr)}{I:Addr}{wr:List Addr}{Sw:Nat→aA→Heap→Prop}{xs ys:List V}{σ2:aA}{cenv:Env}{D C:Addr}{R:Result→Shared→Prop}
  (hJ:∀n s',aNq (cMd md scope) A cenv cl target ifs elt Sw σ σ2 D C xs ys s n s'→J n s') (W:Wk target I wr xs Sw) (hh:A.handled=none) (hd:md.hd=none) (ht:jA (cR scope.names md.sc) target=true) (nb:∀b∈wr,G.base.get? b=none) (nw:∀b∈wr,s.heap.get? b=none) (hσD:σ2 D=none) (hσC:σ2 C=none) (hDC:D≠C) (hC0:s.heap.get? C=none)
  (hxs:xs.length≤2^20) (locC:∀(zs:List V) (h'':Heap) (m'':Str→Option Value),kL G.P (kQ σ2 D C zs) h'' cenv m'' (gT cl)) (hL:cenv.locals=C)
  (hRR:∀s5 vs n,s5.heap.get? D=some (fL vs n)→bC G.P (kQ σ2 D C ys) s5.heap ys vs.toList→cA s (kQ σ2 D C ys) s5 σ→iH G.P (kQ σ2 D C ys) s5.heap→(∃m,s5.heap.Ns C m)→R (.ok .next) s5):
  ∀n s',aNq (cMd md scope) A cenv cl target ifs elt Sw σ σ2 D C xs ys s n s'→wpAny G.M A (pyNext (.ref I)) (aM9 A cenv target ifs elt (.ref I) (.ref D) J n R) NoX s':=by
 subst hL
 rintro n s1 ⟨i,acc,rest,m',hn,hi,S1,A1,st1,hys,hlen,hCL⟩
 have ext:=uQ (ys:=acc) hσD hσC
 by_cases hlt:i<xs.length
 ·rw[List.drop_eq_getElem_cons hlt] at hCL
  obtain⟨loc',hb,b,hT,hB⟩:=hCL
  refine W.item A i _ s1 xs[i] _ _ _ hh S1.sim st1 (List.getElem?_eq_getElem hlt) (fun u s' h=>h) fun u h' tk hr w st2=>?_
  have a2':=w.after0 (tk:=tk) nw A1
  refine vT (w.st (tk:=tk) (W.off _ _ _ st1) nb S1) hh ht hb hr fun m3 s3 S3 a3=>?_
  refine aFk S3 (hT _ ext) fun s4 a4 S4=>?_
  have a4':=(aDF a2' a3 hC0).trans a4
  have st4:Sw (i+1) (kQ σ2 D cenv.locals acc) s4.heap:=W.frame _ _ _ _ _ st2 fun b o e z=>⟨(a4.keep b o ((a3.keep b o e).1 z)).1 z,z⟩
  have wk:∀{m'':Str→Option Value} {zs:List V} {s'':Shared},St s'' (kQ σ2 D cenv.locals zs) m'' (cenv) A (cMd md scope) loc'→St s'' (kQ σ2 D cenv.locals zs) m'' (cenv) A (cMd md scope) (gT cl):=fun S'=>⟨S'.frm,S'.ns,S'.sim,locC _ _ _⟩
  have les:=hn▸aIx hlt
  clear S3 a3 hn hi
  induction b with
  |false=>exact⟨_,les,hJ _ _ ⟨i+1,acc,rest,_,rfl,hlt,wk S4,a4',st4,hys,Nat.le_succ_of_le hlen,(if_neg (by exact zD T0)).mp hB⟩⟩
  |true=>
   obtain⟨y,ys',q,hE,hB⟩:=hB
   refine wpAny_mono (hE _ ext A (cenv) _ s4 S4) (fun v s5 q5=>?_) fun Z Z q=>nomatch q
   obtain⟨r,σ5,⟨q1,q2⟩,k2,k3,S5⟩:=S4.ev q5
   subst q1 q2
   have app:=aBj (X:=fun Z=>False) (Q:=fun v σ6=>v=.none∧σ6=kQ σ2 D cenv.locals (acc++[r])) (y:=r) (aBb (σ:=σ2) (ys:=acc) hDC) (aM hlen (aM (Nat.le_of_lt hlt) hxs)) ⟨rfl,aJl hDC⟩
   refine wpAny_mono (app (cMd md scope) A (cenv) _ _ s5 [.ref D,v] (cM _) hd S5 (.cons rfl (.cons k2 .nil))) (fun v6 s6 q6=>?_) fun Z Z q=>nomatch q
   obtain⟨r6,σ6,⟨q1,q2⟩,_,j3,S6⟩:=S5.ev q6
   subst q2
   have st6:Sw (i+1) (kQ σ2 D cenv.locals (acc++[r])) s6.heap:=W.frame _ _ _ _ _ st4 fun b o e z=>have e3:=(k3.keep b o e).1 z;⟨(j3.keep b o e3).1 z,(j3.dom b o e3).1 z⟩
   exact⟨_,les,hJ _ _ ⟨i+1,acc++[r],ys',_,rfl,hlt,wk S6,(a4'.trans k3).trans j3,st6,hys.trans ((congrArg (acc++·) q).trans (eJ acc [r] ys').symm),(congrArg (·≤i+1) cL).mpr (fM hlen),hB⟩⟩
 ·have hie:i=xs.length:=Nat.le_antisymm hi (Nat.not_lt.mp hlt)
  have hr:ys=acc:=hys.trans ((congrArg (acc++·) (show rest=[] by rw[hie,List.drop_length] at hCL;exact hCL)).trans (List.append_nil _))
  subst hr
  refine W.done A _ _ s1 _ _ hh S1.sim st1 (List.getElem?_eq_none (Nat.not_lt.mp hlt)) fun h' tk w=>?_
  have S2':=w.st (tk:=tk) (W.off _ _ _ st1) nb S1
  obtain⟨o,ho,vs,k,q,hr⟩:=S2'.sim D _ (aBb hDC)
  exact hRR _ vs k (ho.trans (congrArg some q)) hr (w.after0 (tk:=tk) nw A1) S2'.sim ⟨_,S2'.ns⟩
theorem tS{elt target iter:Expr}{ifs:List Expr}{scope:Scope}{pos:Pos}{cl:List (Str×Addr)}{I:Addr}{wr:List Addr}{xs:List V}{Sw:Nat→aA→Heap→Prop}{σ2:aA}{s2:Shared}
  {RR:Value→Addr→Result→Shared→Prop} {E:Value→Shared→Prop} (W:Wk target I wr xs Sw) (hd:md.hd=none)
  (hcell:∀x∈scope.names,x.2≠.cell) (hkind:scope.kind=.function) (hcl:nY scope.names loc []=some cl) (hck:∀x∈cl,(cR scope.names md.sc).lookup x.1=some .cell∨(cR scope.names md.sc).lookup x.1=some .free)
  (ht:jA (cR scope.names md.sc) target=true) (S2:St s2 σ2 m env A md loc) (a2:cA s σ2 s2 σ) (st:Sw 0 σ2 s2.heap) (hbs:G.base.StaysIn s.heap) (nw:∀b∈wr,s.heap.get? b=none)
  (hloop:∀D C m4 s4,(∀b∈wr,G.base.get? b=none)→σ2 D=none→σ2 C=none→D≠C→s.heap.get? D=none→s.heap.get? C=none→s2.heap.get? D=none→s2.heap.get? C=none→St s4 (kQ σ2 D C []) m4 (compEnvC scope cl C env) A ⟨md.n,md.hd,cR scope.names md.sc⟩ (gT cl)→cA s (kQ σ2 D C []) s4 σ→Sw 0 (kQ σ2 D C []) s4.heap→(∀(zs:List V) (h'':Heap) (m'':Str→Option Value),kL G.P (kQ σ2 D C zs) h'' (compEnvC scope cl C env) m'' (gT cl))→
   codeAny G.M A (.compLoop (.ListComp elt [⟨target,iter,ifs,0⟩] scope pos) 0 (.ref I) (.ref D) (compEnvC scope cl C env)) (RR (.ref D) C) s4):
  wpAny G.M A (newList []) (fun acc s₃=>wpAny G.M A (newFunctionEnv scope env.globals cl [] env.qual none .none (some env)) (fun cenv s₄=>
   codeAny G.M A (.compStart (.ListComp elt [⟨target,iter,ifs,0⟩] scope pos) 0 (.ref I) acc {cenv with scope:=relabel scope env}) (RR acc cenv.locals) s₄) E s₃) E s2:=by
 have hh:A.handled=none:=S2.frm.hand.trans hd
 refine wpAny_newObj_type (wpAny_newFunctionEnv hcell (by intro y hy;simp at hy) (fun h₁ hns₁ hsb₁=>?_) hkind)
 dsimp only at hns₁ hsb₁ ⊢
 generalize hH2:s2.heap.push {cls:=.type "list",dict:=none,data:=.seq ([]:List Value).toArray}=H2 at hns₁ hsb₁ ⊢
 have hDf:=eG s2.heap
 have hCsz:H2.objs.size=s2.heap.objs.size+1:=by exact rwR hH2 (rwL (Heap.size_push _ _) rfl)
 have hDC:s2.heap.objs.size≠H2.objs.size:=by exact rwL hCsz (Nat.ne_of_lt (Nat.lt_succ_self _))
 have hk2:∀b o,s2.heap.get? b=some o→H2.get? b=some o:=fun b o e=>hH2▸Heap.get?_push_of_some _ e
 have hDo:H2.get? s2.heap.objs.size=some (fL #[] 0):=hH2▸Heap.get?_push_size _ rfl
 have hCf:H2.get? H2.objs.size=none:=eG H2
 have hCf2:s2.heap.get? H2.objs.size=none:=by
  induction hq:s2.heap.get? H2.objs.size with
  |none=>rfl
  |some o=>
   replace hCf:=(hk2 _ _ hq)▸hCf
   exact cZ (Eq.symm hCf)
 have hk1:∀b o,H2.get? b=some o→h₁.get? b=some o:=fun b o e=>(hsb₁.2 b (by rintro rfl;rw[hCf] at e;exact cZ e)).trans (Heap.get?_push_of_some _ e)
 generalize hDn:s2.heap.objs.size=D at *
 generalize hCn:H2.objs.size=C at *
 have hσD:σ2 D=none:=dE S2.sim hDf
 have hσC:σ2 C=none:=dE S2.sim hCf2
 have back:∀b,s2.heap.get? b=none→s.heap.get? b=none:=fun b hb=>by
  induction hq:s.heap.get? b with
  |none=>rfl
  |some o=>obtain⟨o',e'⟩:=a2.live b o hq;rw[hb] at e';exact cZ e'
 obtain⟨g1,m1⟩:=lK (tk:=s2.toks) (mo:=.lst []) S2.sim hk2 hDf hDo ⟨#[],0,rfl,rfl⟩
 obtain⟨oC,esC,epC,hoC,rC⟩:=id hns₁
 obtain⟨g2,m2⟩:=lK (s:={s2 with heap:=H2,toks:=s2.toks}) (tk:=s2.toks+([]:List (Str×Value)).length) (mo:=.mark) m1 hk1 hCf hoC trivial
 have S4e:=(S2.after g1 m1).after g2 m2
 have hnames:=yB (scope:=scope) S2.frm
 have hCbase:G.base.get? C=none:=by
  induction hq:G.base.get? C with
  |none=>rfl
  |some o=>have:=S2.frm.stays _ _ hq;rw[hCf2] at this;exact cZ this
 have locC:∀(zs:List V) (h'':Heap) (m'':Str→Option Value),kL G.P (kQ σ2 D C zs) h'' (compEnvC scope cl C env) m'' (gT cl):=fun zs h'' m'' x lv e=>by
  obtain⟨c,rfl,hc⟩:=nQ e
  have hm:=pY hc
  rcases aFK hcl _ hm with q|⟨_,q⟩
  ·simp at q
  ·obtain⟨_,_,v,hv⟩:=S2.loc _ _ q
   refine⟨?_,hc,v,?_⟩
   ·show(relabel scope env).names.lookup x=_∨(relabel scope env).names.lookup x=_
    refine rwL hnames ?_
    exact hck _ hm
   ·refine rwL (uQ hσD hσC c (by rw[hv];simp)) ?_
    exact hv
 have S4:St {s2 with heap:=h₁,toks:=s2.toks+([]:List (Str×Value)).length} (kQ σ2 D C []) (fun x=>([]:List (Str×Value)).reverse.lookup x) (compEnvC scope cl C env) A ⟨md.n,md.hd,cR scope.names md.sc⟩ (gT cl):=by
  obtain⟨⟨q1,q2,q3,q4,q5,q6,q7,q8,⟨fenv,outer,Lf,f1,f2,f3,f4,f5⟩,q9,q10,q11,q12⟩,_,_,_⟩:=S4e
  exact⟨⟨q1,hkind,hnames,q4,q5,q6,q7,q8,⟨fenv,outer,Lf,f1,f2,f3,f4,f5⟩,q9,q10,aD2,hCbase⟩,hns₁,m2,locC _ _ _⟩
 have A4:cA s (kQ σ2 D C []) {s2 with heap:=h₁,toks:=s2.toks+([]:List (Str×Value)).length} σ:=(a2.trans g1).trans g2
 have nb:∀b∈wr,G.base.get? b=none:=fun b hb=>by
  have h1:=nw b hb
  induction hq:G.base.get? b with
  |none=>rfl
  |some o=>have h2:=hbs _ _ hq;rw[h1] at h2;exact cZ h2
 have stl:Sw 0 (kQ σ2 D C []) h₁:=W.frame _ _ _ _ _ st fun b o e z=>by
  have h1:=hk1 b o (hk2 b o e)
  refine⟨h1,?_⟩
  have hbC:b≠C:=by rintro rfl;rw[hCf2] at e;exact cZ e
  have hbD:b≠D:=by rintro rfl;rw[hDf] at e;exact cZ e
  unfold kQ
  refine rwL (aR _ _ hbC) ?_
  refine rwL (aR _ _ hbD) ?_
  exact z
 have loop:=hloop D C _ _ nb hσD hσC hDC (back D hDf) (back C hCf2) hDf hCf2 S4 A4 stl locC
 exact codeAny_compStart_list loop (W.self A 0 _ _ _ _ hh stl loop)
theorem wS{elt target iter:Expr}{ifs:List Expr}{scope:Scope}{pos:Pos}{cl:List (Str×Addr)}{I:Addr}{wr:List Addr}{Sw:Nat→aA→Heap→Prop}{xs ys:List V}{σ2:aA}{s2:Shared}
  {RR:Value→Addr→Result→Shared→Prop} {E:Value→Shared→Prop} (W:Wk target I wr xs Sw) (hd:md.hd=none)
  (hcell:∀x∈scope.names,x.2≠.cell) (hkind:scope.kind=.function) (hcl:nY scope.names loc []=some cl) (hck:∀x∈cl,(cR scope.names md.sc).lookup x.1=some .cell∨(cR scope.names md.sc).lookup x.1=some .free)
  (ht:jA (cR scope.names md.sc) target=true) (S2:St s2 σ2 m env A md loc) (a2:cA s σ2 s2 σ) (st:Sw 0 σ2 s2.heap) (hbs:G.base.StaysIn s.heap) (nw:∀b∈wr,s.heap.get? b=none)
  (hxs:xs.length≤2^20) (hC:zC ⟨md.n,md.hd,cR scope.names md.sc⟩ target ifs elt (gT cl) σ2 xs ys)
  (hRR:∀D C s5 vs n,σ2 D=none→σ2 C=none→D≠C→s.heap.get? D=none→s.heap.get? C=none→s2.heap.get? D=none→s2.heap.get? C=none→s5.heap.get? D=some (fL vs n)→bC G.P (kQ σ2 D C ys) s5.heap ys vs.toList→cA s (kQ σ2 D C ys) s5 σ→iH G.P (kQ σ2 D C ys) s5.heap→(∃m,s5.heap.Ns C m)→RR (.ref D) C (.ok .next) s5):
  wpAny G.M A (newList []) (fun acc s₃=>wpAny G.M A (newFunctionEnv scope env.globals cl [] env.qual none .none (some env)) (fun cenv s₄=>
   codeAny G.M A (.compStart (.ListComp elt [⟨target,iter,ifs,0⟩] scope pos) 0 (.ref I) acc {cenv with scope:=relabel scope env}) (RR acc cenv.locals) s₄) E s₃) E s2:=by
 have hh:A.handled=none:=S2.frm.hand.trans hd
 refine tS W hd hcell hkind hcl hck ht S2 a2 st hbs nw fun D C m4 s4 nb hσD hσC hDC fD fC gD gC S4 A4 stl locC=>?_
 exact aEW _ (aDe (fun Z Z h=>h) W hh hd ht nb nw hσD hσC hDC fC hxs locC rfl fun s5 vs n=>hRR D C s5 vs n hσD hσC hDC fD fC gD gC) (xs.length+1)
   ⟨0,[],ys,_,rfl,cM _,S4,A4,stl,rfl,bO _,rwL List.drop_zero hC⟩
noncomputable def rP(scope:Scope)(sc:List (Str×NameKind))(target:Expr)(cl:List (Str×Addr)):Bool:=
 scope.names.all (fun x=>x.2 !=.cell&&(x.2 !=.local||scope.names.lookup x.1==some .local))&&scope.kind==.function&&jA (cR scope.names sc) target
  &&cl.all fun x=>(cR scope.names sc).lookup x.1==some .cell||(cR scope.names sc).lookup x.1==some .free
noncomputable def aKk(md:Md)(target:Expr)(ifs:List Expr)(elt:Expr)(scope:Scope)(cl:List (Str×Addr))(Q:V→aA→Prop)(xs:List V)(σ1:aA):Prop:=
 ∃ys,xs.length≤2^20∧zC ⟨md.n,md.hd,cR scope.names md.sc⟩ target ifs elt (gT cl) σ1 xs ys∧Mk σ1 (.lst ys) (.lst ys) Q
inductive aMV(σ σ2:aA)(D:Addr)(Q:V→aA→Prop)(τ:aA)(h0 h5 h':Heap):Prop
 |mk (r:V) (σf:aA) (hq:Q r σf) (hr:bW G.P σf h' r (.ref D)) (hd:yJ σ σf h0) (hs:iH G.P σf h') (he:∀b,b≠D→σf b=σ2 b) (mono:∀b o,h5.get? b=some o→τ b=none→h'.get? b=some o∧σf b=none)
theorem yD{ys:List V}{Q:V→aA→Prop}{σ2:aA}{s5:Shared}{D C:Addr}{vs:Array Value}{n:Nat}{h':Heap}(hD:σ2 D=none)(hC:σ2 C=none)(hDC:D≠C)(fD:s.heap.get? D=none)
  (ho:s5.heap.get? D=some (fL vs n)) (hr:bC G.P (kQ σ2 D C ys) s5.heap ys vs.toList) (sim:iH G.P (kQ σ2 D C ys) s5.heap) (d2:yJ σ σ2 s.heap) (hs:Heap.SameBut C s5.heap h')
  (hmk:Mk σ2 (.lst ys) (.lst ys) Q):aMV σ σ2 D Q (kQ σ2 D C ys) s.heap s5.heap h':=by
 have ho':h'.get? D=some (fL vs n):=(hs.2 D hDC).trans ho
 have mono:∀(σf:aA),(∀b,σ2 b=none→b≠D→σf b=none)→∀b o,s5.heap.get? b=some o→kQ σ2 D C ys b=none→h'.get? b=some o∧σf b=none:=fun σf hf b o e z=>⟨(hs.2 b (wW z).2.2).trans e,hf b (wW z).1 (wW z).2.1⟩
 have old:∀{σf:aA},(∀b o,s5.heap.get? b=some o→kQ σ2 D C ys b=none→h'.get? b=some o∧σf b=none)→∀b mo,σ2 b=some mo→aKI G.P σf h' b mo:=fun m1 b mo e=>by
  obtain⟨o,h1,h2⟩:=sim b mo ((uQ hD hC b (aHI e)).trans e)
  exact⟨o,(hs.2 b (pD e hC)).trans h1,h2.mono m1⟩
 rcases hmk with hq|hq
 ·have m1:=mono σ2 fun b z Z=>z
  exact⟨_,σ2,hq,⟨D,vs,n,rfl,hD,ho',hr.mono m1⟩,d2,old m1,fun Z Z=>rfl,m1⟩
 ·have m1:=mono (upd D (.lst ys) σ2) fun b z hb=>(aR _ _ hb).trans z
  refine⟨_,upd D (.lst ys) σ2,hq D hD,rfl,fun b o e=>rwL (aR _ _ (pD e fD)) (d2 b o e),fun b mo e=>?_,fun b hb=>aR _ _ hb,m1⟩
  by_cases hbD:b=D
  ·exact bE ((aI σ2 D (.lst ys)).symm.trans (hbD▸e))▸⟨_,hbD▸ho',vs,n,rfl,hr.mono m1⟩
  ·exact old m1 b mo ((aR _ _ hbD).symm.trans e)
theorem aHN{ys:List V}{Q:V→aA→Prop}{σ2:aA}{s5:Shared}{D C:Addr}{vs:Array Value}{n tk:Nat}{h':Heap}(hD:σ2 D=none)(hC:σ2 C=none)(hDC:D≠C)(fD:s.heap.get? D=none)(fC:s.heap.get? C=none)
  (ho:s5.heap.get? D=some (fL vs n)) (hr:bC G.P (kQ σ2 D C ys) s5.heap ys vs.toList) (aft:cA s (kQ σ2 D C ys) s5 σ) (sim:iH G.P (kQ σ2 D C ys) s5.heap) (d2:yJ σ σ2 s.heap) (hs:Heap.SameBut C s5.heap h')
  (hmk:Mk σ2 (.lst ys) (.lst ys) Q):EQ G σ Q s (.ref D) {s5 with heap:=h',toks:=tk}:=by
 obtain⟨r,σf,hq,hrel,hdom,hsim,_,_⟩:=yD (s:=s) (σ:=σ) hD hC hDC fD ho hr sim d2 hs hmk
 obtain⟨⟨hh,tk',rfl⟩,k,d,l⟩:=aft
 exact⟨r,σf,hq,hrel,⟨⟨_,_,rfl⟩,fun b o e=>⟨fun z=>(hs.2 b (pD e fC)).trans ((k b o e).1 z),fun z=>let⟨o',e',q⟩:=(k b o e).2 z;⟨o',(hs.2 b (pD e fC)).trans e',q⟩⟩,hdom,fun b o e=>let⟨o',e'⟩:=l b o e;⟨o',(hs.2 b (pD e fC)).trans e'⟩⟩,hsim⟩
theorem oN{scope:Scope}{sc:List (Str×NameKind)}{target:Expr}{cl:List (Str×Addr)}(h:rP scope sc target cl=true):(∀x∈scope.names,x.2≠.cell)∧(∀x∈scope.names,x.2=.local→scope.names.lookup x.1=some .local)∧scope.kind=.function∧
  jA (cR scope.names sc) target=true∧∀x∈cl,(cR scope.names sc).lookup x.1=some .cell∨(cR scope.names sc).lookup x.1=some .free:=by
 simp only[rP,Bool.and_eq_true,List.all_eq_true] at h
 obtain⟨⟨⟨h1,h2⟩,h3⟩,h4⟩:=h
 refine⟨fun x hx=>?_,fun x hx hl=>?_,cJ h2,h3,fun x hx=>?_⟩
 ·have:=(h1 x hx).1
  simpa using this
 ·have:=(h1 x hx).2
  rw[hl] at this
  simpa using this
 ·have:=h4 x hx
  rw[Bool.or_eq_true] at this
  rcases this with q|q
  ·exact .inl (cJ q)
  ·exact .inr (cJ q)
theorem aAU{elt target iter:Expr}{ifs:List Expr}{scope:Scope}{pos:Pos}{cl:List (Str×Addr)}{Q:V→aA→Prop}(hd:md.hd=none)(hcl:nY scope.names loc []=some cl)(hok:rP scope md.sc target cl=true)
  (h:aCj md target iter loc σ (aKk md target ifs elt scope cl Q) X) (hs:∀env x,foldedSetIterable iter env x=pure x:=by intro _ _;rfl):cP X σ loc md Q (.ListComp elt [⟨target,iter,ifs,0⟩] scope pos):=fun A env m s S=>by
 obtain⟨c1,c2,c3,c4,c5⟩:=oN hok
 have hh:A.handled=none:=S.frm.hand.trans hd
 rw[eval_ListComp]
 refine wpAny_comprehension_free (use:=none) rfl (hs env) (mI S.loc hcl) c3 c2 (wpAny_mono (h A env m s hh S) (fun xv s1 q=>wpAny_mono q (fun it s2 q2=>?_) fun Z Z z=>z) fun Z Z z=>z)
 obtain⟨I,wr,xs,Sw,σ2,rfl,W,st,aft,sim,nw,ys,hxs,hC,hmk⟩:=q2
 refine wS (RR:=fun acc C=>compPost G.M A (EX σ X s) none (EQ G σ Q s) acc C) W hd c1 c3 hcl c5 c4 (S.after aft sim) aft st S.frm.stays nw hxs hC ?_
 intro D C s5 vs n hD hC hDC fD fC gD gC ho hr aft5 sim5 hns
 obtain⟨m5,hns⟩:=hns
 exact⟨m5,hns,fun h' hs=>aHN (tk:=s5.toks) hD hC hDC fD fC ho hr aft5 sim5 aft.dom hs hmk⟩
theorem aHE{value:Expr}{t:Option Expr}{l:Nat}(F:Frm md A env σ s.heap):swapsWith value t l env=swapsWith value t l (aAN md.sc):=by
 have h1:env.blockKind=(aAN md.sc).blockKind:=by unfold Env.blockKind;rw[F.kind];rfl
 have h2:env.kindOf=(aAN md.sc).kindOf:=by
  funext x
  show env.scope.names.lookup x=md.sc.lookup x
  rw[F.names]
 have h3:env.scope.kind=(aAN md.sc).scope.kind:=F.kind
 unfold swapsWith
 rw[h1,h2,h3]
theorem aGr{y:Str}{σ2:aA}{s6:Shared}{D C:Addr}{ys:List V}{h':Heap}{m6:Str→Option Value}{Q:gA→aX→aA→Prop}(S6:St s6 (kQ σ2 D C ys) m6 env A md ((y,.val (.ref D))::loc))(aL:eK env.locals σ (kQ σ2 D C ys) s s6)
  (hDC:D≠C) (hLC:env.locals≠C) (fC:s.heap.get? C=none) (hsb:∀b,b≠C→h'.get? b=s6.heap.get? b) (c:aMV σ σ2 D (fun v σ'=>Q .next ((y,.val v)::loc) σ') (kQ σ2 D C ys) s.heap s6.heap h'):SQ env σ Q s .next {s6 with heap:=h'}:=by
 obtain⟨r,σf,hq,hrel,hdom,hsim,hσf,mono⟩:=c
 obtain⟨⟨hh6,tk6,rfl⟩,k,d,l⟩:=aL
 refine⟨.next,_,σf,_,hq,rfl,⟨⟨_,_,rfl⟩,fun b o e=>⟨fun z=>(hsb b (pD e fC)).trans ((k b o e).1 z),fun z n=>let⟨o',e',q⟩:=(k b o e).2 z n;⟨o',(hsb b (pD e fC)).trans e',q⟩⟩,hdom,fun b o e=>let⟨o',e'⟩:=l b o e;⟨o',(hsb b (pD e fC)).trans e'⟩⟩,
  kG S6.ns fun o e=>⟨o,(hsb _ hLC).trans e,.refl o⟩,hsim,fun z lv e=>?_⟩
 by_cases hz:z=y
 ·subst hz
  obtain⟨kk,w,hw,rr⟩:=S6.loc z _ List.lookup_cons_self
  exact bE (List.lookup_cons_self.symm.trans e)▸⟨kk,w,hw,(rr:w=.ref D)▸hrel⟩
 ·have hzb:(z==y)=false:=beq_eq_false_iff_ne.mpr hz
  have ee:∀v:LV,List.lookup z ((y,v)::loc)=List.lookup z loc:=fun v=>by exact rwL List.lookup_cons (rwL hzb rfl)
  have q:=S6.loc z lv ((ee _).trans ((ee _).symm.trans e))
  induction lv with
  |val u=>exact let⟨kk,w,hw,rr⟩:=q;⟨kk,w,hw,rr.mono mono⟩
  |cell c=>
   obtain⟨kk,hc,v,hv⟩:=q
   have hcC:c≠C:=fun q=>nomatch hv.symm.trans ((congrArg (kQ σ2 D C ys) q).trans aD2)
   have hcD:c≠D:=fun q=>nomatch hv.symm.trans ((congrArg (kQ σ2 D C ys) q).trans (aBb hDC))
   exact⟨kk,hc,v,(hσf c hcD).trans ((aCQ hcD hcC).symm.trans hv)⟩
theorem oG{elt target iter:Expr}{ifs:List Expr}{scope:Scope}{pos spos py:Pos}{y:Str}{cl:List (Str×Addr)}{Q:gA→aX→aA→Prop}(hd:md.hd=none)(hy:md.sc.lookup y=some .local)
  (hsw:swapsWith (.ListComp elt [⟨target,iter,ifs,0⟩] scope pos) (some (.Name y py)) spos.line (aAN md.sc)=pure true) (hcl:nY scope.names loc []=some cl) (hok:rP scope md.sc target cl=true)
  (h:aCj md target iter loc σ (aKk md target ifs elt scope cl (fun v σ'=>Q .next ((y,.val v)::loc) σ')) X) (hs:∀env x,foldedSetIterable iter env x=pure x:=by intro _ _;rfl):sY md (.Assign [.Name y py] (.ListComp elt [⟨target,iter,ifs,0⟩] scope pos) spos) loc σ Q X:=fun A env m s S=>by
 obtain⟨c1,c2,c3,c4,c5⟩:=oN hok
 have hh:A.handled=none:=S.frm.hand.trans hd
 refine rwL (exec_Assign_Name_used _ _ _ _ ((aHE S.frm).trans hsw)) ?_
 refine wpAny_bind (wpAny_standAt (wpAny_bind ?_))
 show wpAny _ A (do let _ ←comprehension (.ListComp elt [⟨target,iter,ifs,0⟩] scope pos) scope env _ (newList []) false (eval iter env) (some (assign (.Name y py) env))) _ _ s
 refine wpAny_bind (wpAny_mono (wpAny_comprehension_free (use:=some (assign (.Name y py) env)) (Q:=fun Z s'=>SQ env σ Q s .next s') (E:=SX env σ X s) rfl (hs env) (mI S.loc hcl) c3 c2 (wpAny_mono (h A env m s hh S) (fun xv s1 q=>wpAny_mono q (fun it s2 q2=>?_) fun Z Z z=>z.sx S) fun Z Z z=>z.sx S))
  (fun Z s' hq=>wpAny_pure (wpAny_pure hq)) fun Z Z e=>e)
 obtain⟨I,wr,xs,Sw,σ2,rfl,W,st,aft,sim,nw,ys,hxs,hC,hmk⟩:=q2
 refine wS (RR:=fun acc C=>compPost G.M A (SX env σ X s) (some (assign (.Name y py) env)) (fun Z s'=>SQ env σ Q s .next s') acc C) W hd c1 c3 hcl c5 c4 (S.after aft sim) aft st S.frm.stays nw hxs hC ?_
 intro D C s5 vs n hD hC hDC fD fC gD gC ho hr aft5 sim5 hns
 obtain⟨m5,hns⟩:=hns
 show wpAny _ A (assign (.Name y py) env (.ref D)) _ _ _
 have S5:=S.after aft5 sim5
 have hrD:bW G.P (kQ σ2 D C ys) s5.heap (.ref D) (.ref D):=rfl
 have hLC:env.locals≠C:=by obtain⟨o,_,_,e,_⟩:=S.ns;exact pD e fC
 refine wpAny_assign_Name (lQ S5 hy hrD fun s6 S6 a6=>?_)
 obtain⟨oC,esC,epC,hoC,rC⟩:=hns
 obtain⟨o',e',q⟩:=(a6.keep C oC hoC).2 aD2 hLC.symm
 refine⟨m5,kG ⟨oC,esC,epC,hoC,rC⟩ fun o e=>⟨o',e',bE (hoC.symm.trans e)▸q⟩,fun h' hsb=>?_⟩
 obtain⟨oD,hoD,vs6,n6,q6,hr6⟩:=S6.sim D _ (aBb hDC)
 exact aGr S6 ((aft5.l env.locals).trans a6) hDC hLC fC hsb.2 (yD hD hC hDC fD (hoD.trans (congrArg some q6)) hr6 S6.sim aft.dom hsb hmk)
theorem bC.set{P:Params}{h:Heap}:∀(i:Nat) {l:List V} {vs:List Value} {x:V} {v:Value},bC P σ h l vs→bW P σ h x v→bC P σ h (l.set i x) (vs.set i v)
 |_,[],_,_,_,r,_=>by subst r;exact .nil
 |0,y::l,_,x,v,r,rv=>by obtain⟨w,ws,rfl,r1,r2⟩:=r;exact .cons rv r2
 |i+1,y::l,_,x,v,r,rv=>by obtain⟨w,ws,rfl,r1,r2⟩:=r;exact .cons r1 (bC.set i r2 rv)
theorem aBO{a:Addr}{l:List V}{k:Int}{t:Tok}{x:V}{v:Value}{Qu:Unit→Shared→Prop}{E:Value→Shared→Prop}(sim:iH G.P σ s.heap)(ha:σ a=some (.lst l))(h0:0≤k)(hk:k<l.length)(hz:l.length≤2^20)(r:bW G.P σ s.heap x v)
  (h:∀s',cA s (upd a (.lst (l.set k.toNat x)) σ) s' σ→iH G.P (upd a (.lst (l.set k.toNat x)) σ) s'.heap→Qu () s'):wpAny G.M A (setItem (.ref a) (.int k t) v) Qu E s:=by
 obtain⟨o,ho,vs,n,rfl,hl⟩:=sim a _ ha
 have hlen:=hl.length
 rw[Array.length_toList] at hlen
 have hL:s.heap.IsList a vs:=⟨_,ho,rfl,n,rfl⟩
 unfold setItem
 try with_reducible refine wpAny_holding ?_
 first|refine wpAny_bind (wpAny_pure ?_)|skip
 refine wpAny_bind (wpAny_sequenceKey hL.typeIs (by exact rfl) ?_)
 refine wpAny_bind (wpAny_callSpecial?_slot (name:=Str.ofString "__setitem__") hL.typeIs slot_list_setitem
  (wpAny_call_entry slot_list_setitem hL.typeIs entry_list_setitem ?_ (args_list_setitem _ _ _)))
 show wpAny _ _ (Builtin.List.listSubscript? (.int k t) >>= _) _ _ s
 have hfit:k<2^63:=by exact Int.lt_of_lt_of_le hk (Int.le_trans (Int.ofNat_le.mpr hz) (by exact zD T0))
 refine wpAny_bind (wpAny_listSubscript_int (fitsIndex_of h0 hfit) ?_)
 obtain⟨j,rfl⟩:=Int.eq_ofNat_of_zero_le h0
 have hj:j<vs.size:=by exact Nat.lt_of_lt_of_eq (Int.ofNat_lt.mp hk) hlen.symm
 have hx':vs[j]? =some vs[j]:=Array.getElem?_eq_getElem hj
 show wpAny _ _ ((seqItemAt a j >>= fun r=>pure (r.map (j,·))) >>= _) _ _ s
 refine wpAny_bind (wpAny_bind (wpAny_seqItemAt ho rfl (wpAny_pure ?_)))
 rw[hx']
 show wpAny _ _ (setSeqItemAt a j v >>= _) _ _ s
 have hobj:Obj.mapSeq (·.setIfInBounds j v) (fL vs n)=fL (vs.setIfInBounds j v) (if(vs.setIfInBounds j v).size==vs.size then n else n+1):=rfl
 have hnew:(s.heap.update a (Obj.mapSeq (·.setIfInBounds j v))).get? a=some (fL (vs.setIfInBounds j v) (if(vs.setIfInBounds j v).size==vs.size then n else n+1)):=by
  rw[Heap.get?_update_self _ ho (by rw[hobj];rfl),hobj]
 obtain⟨k1,k2⟩:=oP (tk:=s.toks) sim ha (by simp) (by intro v e;cases e) (Heap.SameBut.update ..) hnew (mo':=.lst (l.set j x)) ⟨_,_,rfl,by exact rwL Array.toList_setIfInBounds (hl.set j r)⟩
 refine wpAny_bind (wpAny_setSeqItemAt ho rfl ?_)
 exact wpAny_pure ⟨.none,rfl,wpAny_pure (h _ k1 k2)⟩
inductive aO4(loc:aX)(Q:gA→aX→aA→Prop)(u x k:V)(σ3:aA):Prop|mk (a:Addr) (l:List V) (j:Int) (h1:x=.ref a) (h2:σ3 a=some (.lst l)) (h3:k=.int j) (h4:0≤j) (h5:j<l.length) (h6:l.length≤2^20) (q:Q .next loc (upd a (.lst (l.set j.toNat u)) σ3))
abbrev aME(md:Md)(i:Expr)(loc:aX)(Q:gA→aX→aA→Prop)(X:bF→Prop)(u:V):V→aA→Prop:=fun x σ2=>cP X σ2 loc md (aO4 loc Q u x) i
abbrev aPd(md:Md)(o i:Expr)(loc:aX)(Q:gA→aX→aA→Prop)(X:bF→Prop):V→aA→Prop:=fun u σ1=>cP X σ1 loc md (aME md i loc Q X u) o
theorem aCM{o i e:Expr}{tp pos:Pos}{Q:gA→aX→aA→Prop}
  (h:cP X σ loc md (aPd md o i loc Q X) e) (hn:gN e=true:=by rfl):
  sY md (.Assign [.Subscript o i tp] e pos) loc σ Q X:=fun A env m s S=>by
 refine wpAny_Assign_Subscript (wpAny_mono (h A env m s S) (fun w s1 q=>?_) fun Z Z z=>z.sx S) (hO hn ..)
 obtain⟨u,σ1,h1,h2,h3,S1⟩:=S.ev q
 refine wpAny_mono (dU (K:=fun ov iv s3=>wpAny G.M A (setItem ov iv w) (fun Z=>SQ env σ Q s .next) (SX env σ X s) s3) S1 h1 fun x k ov iv σ3 s3 q3 a3 S3 rx rk=>?_) (fun ov s2 q=>wpAny_mono q (fun Z Z z=>z) fun Z Z z=>(z.sx S1).then (h3.l _)) fun Z Z z=>(z.sx S1).then (h3.l _)
 obtain⟨a,l,j,rfl,k1,rfl,k2,k3,k4,k5⟩:=q3
 subst rx
 obtain⟨t,rfl⟩:=rk
 refine aBO S3.sim k1 k2 k3 k4 (h2.step a3.keep a3.dom) fun s4 a4 sim4=>?_
 have S4:=S3.after a4 sim4
 exact⟨.next,loc,_,m,k5,rfl,((h3.trans a3).trans a4).l _,S4.ns,S4.sim,S4.loc⟩
inductive vI:Expr→Int→Prop where
 |pos (i:Int) (k:Nat) (p:Pos):vI (.Constant (.int i) k p) i
 |neg (i:Int) (k:Nat) (p q:Pos):vI (.UnaryOp .USub (.Constant (.int i) k p) q) (-i)
noncomputable def sF:List Expr→List Int→Prop
 |[],is=>is=[]
 |e::es,is=>∃i r,is=i::r∧vI e i∧sF es r
theorem vI.eval{A:Around}{env:Env}{e:Expr}{i:Int}{s:Shared}{Q:Value→Shared→Prop}{E:Value→Shared→Prop}(h:vI e i)(q:∀u tk,Q (.int i u) {s with toks:=tk}):wpAny G.M A (eval e env) Q E s:=by
 induction h with
 |pos i k p=>exact wpAny_Constant_int (q _ _)
 |neg i k p r=>exact UnaryOp_ (wpAny_Constant_int (P.neg_int (q _ _)))
inductive aNS:Option Expr→Str→Prop|mk (k:Str) (n:Nat) (p:Pos):aNS (some (.Constant (.str k) n p)) k
inductive yI:List (Option Expr)→List Str→Prop
 |nil:yI [] []
 |cons {o:Option Expr} {k:Str} {r:List (Option Expr)} {ks:List Str} (h:aNS o k) (t:yI r ks):yI (o::r) (k::ks)
noncomputable def DPS:List (Value×Value)→List Str→List Int→Prop
 |[],ks,is=>ks=[]∧is=[]
 |(a,b)::r,ks,is=>∃k ks' i is' t u,ks=k::ks'∧is=i::is'∧a=.str k t∧b=.int i u∧DPS r ks' is'
theorem DPS.all:∀{vs:List (Value×Value)} {ks:List Str} {is:List Int},DPS vs ks is→allStrKeys vs=true∧(strPairs vs).map (·.1)=ks
 |[],_,_,h=>by obtain⟨rfl,rfl⟩:=h;exact⟨rfl,rfl⟩
 |(a,b)::r,_,_,h=>by
  obtain⟨k,ks',i,is',t,u,rfl,rfl,rfl,rfl,h⟩:=h
  obtain⟨h1,h2⟩:=DPS.all h
  exact⟨h1,by simp only[strPairs,List.map_cons];rw[h2]⟩
theorem DPS.made{prog:Program}{w:World}{P:Params}(hP:w.params=P){σ:aA}{h:Heap}{vs:List (Value×Value)}:∀{ks:List Str} {is:List Int} {es:List DictEntry},DPS vs ks is→Pairs (PySem.strKind prog w) es (strPairs vs)→(∀e∈es,∃k,(PySem.strKind prog w).is k e.key=true∧e.hash=(PySem.strKind prog w).hash k)→
  (∀k∈ks,xW k)→KS P ks es∧bC P σ h (is.map V.int) (es.map (·.val)):=by
 induction vs with
 |nil=>intro ks is es hd hp _ _;obtain⟨rfl,rfl⟩:=hd;cases hp;exact⟨rfl,rfl⟩
 |cons x r ih=>
  obtain⟨a,b⟩:=x
  intro ks is es hd hp hk hf
  obtain⟨k,ks',i,is',t,u,rfl,rfl,rfl,rfl,hd⟩:=hd
  cases hp with
  |@cons e kv es kvs h1 h2 h3=>
   obtain⟨k',hk1,hk2⟩:=hk e (eS ..)
   obtain rfl:k=k':=(PySem.strKind prog w).inj _ _ _ h1 hk1
   obtain⟨t',ht⟩:=Value.isStrOf_shape h1
   obtain⟨r1,r2⟩:=ih hd h3 (fun e he=>hk e (fW _ he)) fun k hk=>hf k (fW _ hk)
   exact⟨⟨e,es,t',rfl,ht,by rw[hk2,←hP];rfl,hf _ (eS ..),r1⟩,⟨_,_,rfl,⟨u,h2⟩,r2⟩⟩
theorem aNw{A:Around}{env:Env}(pos:Pos){keys:List (Option Expr)}{ks:List Str}(hk:yI keys ks):∀{values:List Expr} {is:List Int} {s:Shared},sF values is→keys.length=values.length→
  wpAny G.M A (evalPairs (pairTrees keys values env pos)) (fun vs s1=>DPS vs ks is∧∃tk,s1={s with toks:=tk}) (fun Z Z=>False) s:=by
 induction hk with
 |nil=>
  intro values is s hv hl
  cases values with
  |nil=>subst hv;exact pairTrees_nil_walk ⟨⟨rfl,rfl⟩,_,rfl⟩
  |cons=>cases hl
 |cons hk _ ih=>
  intro values is s hv hl
  cases values with
  |nil=>cases hl
  |cons e values=>
   obtain⟨i,is',rfl,h1,h2⟩:=hv
   induction hk
   refine pairTrees_cons_walk (wpAny_Constant_str (h1.eval fun u tk=>wpAny_mono (ih h2 (Nat.succ.inj hl)) (fun vs s2 q=>?_) fun Z Z x=>x))
   obtain⟨hd,tk',rfl⟩:=q
   exact⟨⟨_,_,_,_,_,_,rfl,rfl,rfl,rfl,hd⟩,_,rfl⟩
theorem aEU{keys:List (Option Expr)}{ks:List Str}(hk:yI keys ks):keys.all (·.isSome)=true:=by
 induction hk with
 |nil=>rfl
 |cons h _ ih=>induction h;exact ih
theorem uZ{md:Md}{loc:aX}{σ:aA}{X:bF→Prop}{keys:List (Option Expr)}{values:List Expr}{pos:Pos}{ks:List Str}{is:List Int}{Q:V→aA→Prop}(hk:yI keys ks)(hn:ks.Nodup)(hf:∀k∈ks,xW k)
  (hl:keys.length=values.length) (h0:keys≠[]) (hlen:keys.length≤15) (hv:sF values is) (h:Q (.sdc ks (is.map V.int)) σ):cP X σ loc md Q (.Dict keys values pos):=fun A env m s S=>by
 have hfr:=eG s.heap
 have hk0:=dL s.heap {cls:=.type "dict",data:=.dict #[]}
 refine wpAny_Dict_walk (knd:=PySem.strKind G.prog G.w) (aEU hk) hl h0 hlen (wpAny_mono (aNw pos hk hv hl) (fun vs s1 q=>?_) fun Z Z x=>x.elim)
 obtain⟨hd,tk,rfl⟩:=q
 obtain⟨d1,d2⟩:=hd.all
 have hn0:(s.heap.push {cls:=.type "dict",data:=.dict #[]}).get? s.heap.objs.size=some {cls:=.type "dict",data:=.dict #[]}:=Heap.get?_push_size _ rfl
 refine display_done_str d1 (by exact rwL d2 hn) ⟨_,#[],_,hn0,⟨rfl,rfl,rfl⟩,rfl,by intro e he;simp at he,.nil,by simp⟩ fun h' hm hs=>?_
 obtain⟨o,es,ep,ho,⟨o1,o2,o3⟩,hdat,hkeys,hp,_⟩:=hm
 obtain⟨c,dd,dt,sl⟩:=o
 simp only at o1 o2 o3 hdat
 subst o1 o2 o3 hdat
 obtain⟨r1,r2⟩:=hd.made (P:=G.P) (σ:=σ) (h:=h') rfl hp (fun e he=>hkeys e (Array.mem_toList_iff.mp he)) hf
 have ne:∀b o,s.heap.get? b=some o→b≠s.heap.objs.size:=fun b o e q=>by rw[q,hfr] at e;exact cZ e
 have hk1:∀b o,s.heap.get? b=some o→h'.get? b=some o:=fun b o e=>(hs.2 b (ne b o e)).trans (hk0 b o e)
 obtain⟨a,sim⟩:=uC (tk:=tk+vs.length) S.sim hk1
 exact⟨_,σ,h,⟨_,es,ep,rfl,⟨dE S.sim hfr,beq_eq_false_iff_ne.mpr (Nat.ne_of_gt (PyProof.Rows.modules_low (S.frm.ok.top.nolimit.keeps S.frm.stays)))⟩,ho,r1,r2⟩,a,sim⟩
inductive aNb:Option Expr→Int→Prop|mk (k:Int) (n:Nat) (p:Pos):aNb (some (.Constant (.int k) n p)) k
inductive yK:List (Option Expr)→List Int→Prop
 |nil:yK [] []
 |cons {o:Option Expr} {k:Int} {r:List (Option Expr)} {ks:List Int} (h:aNb o k) (t:yK r ks):yK (o::r) (k::ks)
noncomputable def DPI:List (Value×Value)→List Int→List Int→Prop
 |[],ks,is=>ks=[]∧is=[]
 |(a,b)::r,ks,is=>∃k ks' i is' t u,ks=k::ks'∧is=i::is'∧a=.int k t∧b=.int i u∧DPI r ks' is'
theorem DPI.all:∀{vs:List (Value×Value)} {ks:List Int} {is:List Int},DPI vs ks is→allIntKeys vs=true∧(intKeyPairs vs).map (·.1)=ks
 |[],_,_,h=>by obtain⟨rfl,rfl⟩:=h;exact⟨rfl,rfl⟩
 |(a,b)::r,_,_,h=>by
  obtain⟨k,ks',i,is',t,u,rfl,rfl,rfl,rfl,h⟩:=h
  obtain⟨h1,h2⟩:=DPI.all h
  exact⟨h1,by simp only[intKeyPairs,List.map_cons];rw[h2]⟩
theorem DPI.made{prog:Program}{w:World}{P:Params}(hP:w.params=P){σ:aA}{h:Heap}:∀{vs:List (Value×Value)} {ks:List Int} {is:List Int} {es:List DictEntry},DPI vs ks is→Pairs (PySem.intKind prog w) es (intKeyPairs vs)→(∀e∈es,∃k,(PySem.intKind prog w).is k e.key=true∧e.hash=(PySem.intKind prog w).hash k)→
  (∀k∈ks,(fun Z=>True) k)→KI ks es∧bC P σ h (is.map V.int) (es.map (·.val))
 |[],_,_,es,hd,hp,_,_=>by
  obtain⟨rfl,rfl⟩:=hd
  cases hp
  exact⟨rfl,rfl⟩
 |(a,b)::r,_,_,es,hd,hp,hk,hf=>by
  obtain⟨k,ks',i,is',t,u,rfl,rfl,rfl,rfl,hd⟩:=hd
  cases hp with
  |@cons e kv es kvs h1 h2 h3=>
   obtain⟨k',hk1,hk2⟩:=hk e (by simp)
   have e1:=(PySem.intKind prog w).inj _ _ _ h1 hk1
   simp only at e1
   subst e1
   obtain⟨t',ht⟩:=Value.isInt_shape h1
   obtain⟨r1,r2⟩:=DPI.made hP hd h3 (fun e he=>hk e (by simp[he])) fun k hk=>hf k (by simp[hk])
   refine⟨⟨e,es,t',rfl,ht,?_,r1⟩,⟨_,_,rfl,⟨u,h2⟩,r2⟩⟩
   refine rwL hk2 ?_
   rfl
theorem aMT{A:Around}{env:Env}(pos:Pos){keys:List (Option Expr)}{ks:List Int}(hk:yK keys ks):∀{values:List Expr} {is:List Int} {s:Shared},sF values is→keys.length=values.length→
  wpAny G.M A (evalPairs (pairTrees keys values env pos)) (fun vs s1=>DPI vs ks is∧∃tk,s1={s with toks:=tk}) (fun Z Z=>False) s:=by
 induction hk with
 |nil=>
  intro values is s hv hl
  cases values with
  |nil=>subst hv;exact pairTrees_nil_walk ⟨⟨rfl,rfl⟩,_,rfl⟩
  |cons=>cases hl
 |cons hk _ ih=>
  intro values is s hv hl
  cases values with
  |nil=>cases hl
  |cons e values=>
   obtain⟨i,is',rfl,h1,h2⟩:=hv
   induction hk
   refine pairTrees_cons_walk (wpAny_Constant_int (h1.eval fun u tk=>wpAny_mono (ih h2 (Nat.succ.inj hl)) (fun vs s2 q=>?_) fun Z Z x=>x))
   obtain⟨hd,tk',rfl⟩:=q
   exact⟨⟨_,_,_,_,_,_,rfl,rfl,rfl,rfl,hd⟩,_,rfl⟩
theorem aEs{keys:List (Option Expr)}{ks:List Int}(hk:yK keys ks):keys.all (·.isSome)=true:=by
 induction hk with
 |nil=>rfl
 |cons h _ ih=>induction h;exact ih
theorem aHy{md:Md}{loc:aX}{σ:aA}{X:bF→Prop}{keys:List (Option Expr)}{values:List Expr}{pos:Pos}{ks:List Int}{is:List Int}{Q:V→aA→Prop}(hk:yK keys ks)(hn:ks.Nodup)(hf:∀k∈ks,(fun Z=>True) k)
  (hl:keys.length=values.length) (h0:keys≠[]) (hlen:keys.length≤15) (hv:sF values is) (h:Q (.idc ks (is.map V.int)) σ):cP X σ loc md Q (.Dict keys values pos):=fun A env m s S=>by
 have hfr:=eG s.heap
 have hk0:=dL s.heap {cls:=.type "dict",data:=.dict #[]}
 refine wpAny_Dict_walk (knd:=PySem.intKind G.prog G.w) (aEs hk) hl h0 hlen (wpAny_mono (aMT pos hk hv hl) (fun vs s1 q=>?_) fun Z Z x=>x.elim)
 obtain⟨hd,tk,rfl⟩:=q
 obtain⟨d1,d2⟩:=hd.all
 have hn0:(s.heap.push {cls:=.type "dict",data:=.dict #[]}).get? s.heap.objs.size=some {cls:=.type "dict",data:=.dict #[]}:=Heap.get?_push_size _ rfl
 refine display_done_int d1 (by exact rwL d2 hn) ⟨_,#[],_,hn0,⟨rfl,rfl,rfl⟩,rfl,by intro e he;simp at he,.nil,by simp⟩ fun h' hm hs=>?_
 obtain⟨o,es,ep,ho,⟨o1,o2,o3⟩,hdat,hkeys,hp,_⟩:=hm
 obtain⟨c,dd,dt,sl⟩:=o
 simp only at o1 o2 o3 hdat
 subst o1 o2 o3 hdat
 obtain⟨r1,r2⟩:=hd.made (P:=G.P) (σ:=σ) (h:=h') rfl hp (fun e he=>hkeys e (Array.mem_toList_iff.mp he)) hf
 have ne:∀b o,s.heap.get? b=some o→b≠s.heap.objs.size:=fun b o e q=>by rw[q,hfr] at e;exact cZ e
 have hk1:∀b o,s.heap.get? b=some o→h'.get? b=some o:=fun b o e=>(hs.2 b (ne b o e)).trans (hk0 b o e)
 obtain⟨a,sim⟩:=uC (tk:=tk+vs.length) S.sim hk1
 exact⟨_,σ,h,⟨_,es,ep,rfl,⟨dE S.sim hfr,beq_eq_false_iff_ne.mpr (Nat.ne_of_gt (PyProof.Rows.modules_low (S.frm.ok.top.nolimit.keeps S.frm.stays)))⟩,ho,r1,r2⟩,a,sim⟩
noncomputable def stC(σ:aA)(L:Addr)(cs:List (Str×Addr))(bs:List (Str×V)):aA:=
 cs.foldr (fun x τ=>upd x.2 (.cell ((bs.lookup x.1).getD (.bi ""))) τ) (upd L .mark σ)
noncomputable def sT(σ:aA)(L:Addr)(cs:List (Str×Addr)):aA:=fun b=>if b=L∨b∈cs.map (·.2) then none else σ b
theorem uS{σ:aA}{L:Addr}{bs:List (Str×V)}{b:Addr}:∀{cs:List (Str×Addr)},b∉cs.map (·.2)→stC σ L cs bs b=upd L .mark σ b
 |[],_=>rfl
 |x::cs,h=>by
  simp only[List.map_cons,List.mem_cons,not_or] at h
  show upd x.2 _ (stC σ L cs bs) b=_
  rw[aR _ _ h.1,uS h.2]
theorem aDg{σ:aA}{L:Addr}{bs:List (Str×V)}{n:Str}{c:Addr}:∀{cs:List (Str×Addr)},cs.Pairwise (fun x y=>x.2≠y.2)→(n,c)∈cs→stC σ L cs bs c=some (.cell ((bs.lookup n).getD (.bi "")))
 |x::cs,hp,h=>by
  obtain⟨h1,h2⟩:=List.pairwise_cons.mp hp
  show upd x.2 _ (stC σ L cs bs) c=_
  rcases eM h with e|h
  ·rw[←e,aI]
  ·rw[aR _ _ (Ne.symm (h1 _ h)),aDg h2 h]
theorem yS{kf:Str→Option NameKind}{x:Str}(hx:kf x=some .local):∀{bs:List (Str×Value)} {m:Str→Option Value},bindL kf bs m x=(bs.reverse.lookup x).or (m x)
 |[],m=>rfl
 |(n,v)::r,m=>by
  unfold bindL
  refine rwL (yS hx) ?_
  refine rwL List.reverse_cons ?_
  refine rwL List.lookup_append ?_
  refine rwL List.lookup_cons ?_
  by_cases hn:x=n
  ·subst hn
   refine rwL (if_pos hx) ?_
   cases r.reverse.lookup x <;> simp
  ·have:(x==n)=false:=by simpa using hn
   refine rwL this ?_
   (refine iteD (fun h=>?_) fun h=>?_) <;> cases r.reverse.lookup x <;> simp[hn]
theorem zO{kf:Str→Option NameKind}{x:Str}(hx:kf x≠some .local):∀{bs:List (Str×Value)} {m:Str→Option Value},bindC kf bs m x=(bs.reverse.lookup x).or (m x)
 |[],m=>rfl
 |(n,v)::r,m=>by
  unfold bindC
  refine rwL (zO hx) ?_
  refine rwL List.reverse_cons ?_
  refine rwL List.lookup_append ?_
  refine rwL List.lookup_cons ?_
  by_cases hn:x=n
  ·subst hn
   refine rwL (if_neg hx) ?_
   cases r.reverse.lookup x <;> simp
  ·have:(x==n)=false:=by simpa using hn
   refine rwL this ?_
   (refine iteD (fun h=>?_) fun h=>?_) <;> cases r.reverse.lookup x <;> simp[hn]
theorem aDW{x:Str}:∀{ps:List Str} {args:List V},(ps.zip (args.map LV.val)).lookup x=((ps.zip args).lookup x).map .val
 |[],_=>by simp
 |_::_,[]=>by simp
 |p::ps,a::args=>by
  simp only[List.map_cons,List.zip_cons_cons,List.lookup_cons]
  cases x==p
  ·exact aDW (ps:=ps) (args:=args)
  ·rfl
theorem uF{ps:List Str}{vals:List Value}{x:Str}(h:x∉ps):(ps.zip vals).reverse.lookup x=none:=by
 rw[List.lookup_eq_none_iff]
 intro q hq
 have:=(List.of_mem_zip (List.mem_reverse.mp hq)).1
 refine bne_iff_ne.mpr ?_
 rintro rfl
 exact h this
theorem rW:∀{cs:List (Str×Addr)},(cs.map (·.1)).Nodup→∀{z:Str} {c:Addr},(z,c)∈cs→cs.lookup z=some c
 |(k,v)::r,hn,z,c,h=>by
  obtain⟨h1,h2⟩:=List.nodup_cons.mp hn
  refine rwL List.lookup_cons ?_
  rcases eM h with e|h
  ·cases e;rw[beq_self_eq_true]
  ·have:(z==k)=false:=by
    rw[beq_eq_false_iff_ne]
    intro e
    refine h1 (List.mem_map.mpr ⟨_,h,e⟩)
   refine rwL this ?_
   exact rW h2 h
theorem qC{x:Str}{c:Addr}:∀{cs:List (Str×Addr)},cs.lookup x=some c→(gT cs).lookup x=some (.cell c)
 |(k,v)::r,h=>by
  rw[List.lookup_cons] at h
  show List.lookup x ((k,LV.cell v)::gT r)=_
  refine rwL List.lookup_cons ?_
  induction hb:x==k with
  |true=>
   replace h:=hb▸h
   obtain rfl:=bE h
   rfl
  |false=>
   replace h:=hb▸h
   exact qC h
abbrev aOi(Q:V→aA→Prop)(L:Addr)(cs:List (Str×Addr)):gA→aX→aA→Prop:=fun fl Z σ'=>match fl with|.ret v=>Q v (sT σ' L cs)|.next=>Q .none (sT σ' L cs)|_=>False
theorem orN{α:Type}{a b:Option α}{c:α}{P:Prop}(h:a.or b=some c)(x:a=some c→P)(y:a=none→b=some c→P):P:=by
 induction a with
 |none=>exact y rfl h
 |some _=>exact x h
theorem aCJ{L b:Addr}{cs:List (Str×Addr)}(h:σ b=none):sT σ L cs b=none:=by
 unfold sT
 split
 ·rfl
 ·exact h
theorem aCC{L b:Addr}{cs:List (Str×Addr)}{mo:dJ}(h:sT σ L cs b=some mo):σ b=some mo:=kZ h (fun Z=>cZ) fun Z=>id
theorem Beg.at{τ:aA}{L L':Addr}{h₀:Heap}(K:Beg σ τ L s h₀)(e:L=L'):Beg σ τ L' s h₀:=e▸K
section
variable{names:List (Str×NameKind)}{L:Addr}{cs:List (Str×Addr)}{ps:List Str}{h₀:Heap}{vals:List Value}{args:List V}
variable(kd:∀x∈cs,names.lookup x.1=some .cell)(kf:∀x,env.kindOf x=names.lookup x)(ap:cs.Pairwise fun x y=>x.2≠y.2)
section
variable(nd:(cs.map (·.1)).Nodup)(cell:∀n c,cs.lookup n=some c→h₀.IsCell c (bindC env.kindOf (ps.zip vals) (fun Z=>none) n))
include kd kf nd cell
theorem aHV(K:Beg σ (stC σ L cs (ps.zip args)) L s h₀)(hr:bC G.P σ s.heap args vals)(hn:ps.length=args.length)(hd:ps.Nodup){z:Str}{c:Addr}(hz:(z,c)∈cs):
  aKI G.P (stC σ L cs (ps.zip args)) h₀ c (.cell (((ps.zip args).lookup z).getD (.bi ""))):=by
 obtain⟨o,ho,hd'⟩:=cell z c (rW nd hz)
 refine⟨o,ho,?_⟩
 replace hd':=zO (kf:=env.kindOf) (fun q=>nomatch ((kf z).trans (kd _ hz)).symm.trans q)▸hd'
 induction hq:(ps.zip args).lookup z with
 |some u=>
  obtain⟨_,u',w,e1,e2,r⟩:=tN hr hn hd z (.val u) (aDW.trans (congrArg _ hq))
  exact .inr ⟨w,hd'.trans (congrArg (fun x=>Data.cell (x.or none)) e2),by cases e1;exact K.mono r⟩
 |none=>
  refine .inl ⟨rfl,hd'.trans (congrArg (fun x=>Data.cell (x.or none)) (uF fun hm=>?_))⟩
  obtain⟨i,hi,e⟩:=List.mem_iff_getElem.mp hm
  have:=List.lookup_eq_none_iff.mp hq (ps[i],args[i]'(hn▸hi)) (List.mem_iff_getElem.mpr ⟨i,rwL List.length_zip (rwR hn (rwL (Nat.min_self _) hi)),List.getElem_zip ..⟩)
  exact bne_iff_ne.mp this e.symm
include ap
theorem aFb(K:Beg σ (stC σ L cs (ps.zip args)) L s h₀)(hr:bC G.P σ s.heap args vals)(hn:ps.length=args.length)(hd:ps.Nodup)(sim:iH G.P σ s.heap)(hL:∃o,h₀.get? L=some o):
  iH G.P (stC σ L cs (ps.zip args)) h₀:=fun a mo e=>by
 by_cases ha:a∈cs.map (·.2)
 ·obtain⟨⟨z,c⟩,hz,q⟩:=List.mem_map.mp ha
  subst q
  exact bE ((aDg ap hz).symm.trans e)▸aHV kd kf nd cell K hr hn hd hz
 replace e:=(uS ha).symm.trans e
 by_cases hq:a=L
 ·obtain⟨o,ho⟩:=hL
  exact⟨o,hq▸ho,bE ((aI σ L .mark).symm.trans (hq▸e))▸trivial⟩
 ·obtain⟨o,ho,c⟩:=sim a mo ((aR σ _ hq).symm.trans e)
  exact⟨o,K.hk a o ho,c.mono fun b o e z=>⟨K.hk b o e,(K.up b o e).trans z⟩⟩
end
include kd kf ap
theorem aEX(cells:env.cells=cs)(K:Beg σ (stC σ L cs (ps.zip args)) L s h₀)(hl:∀p∈ps,names.lookup p=some .local∨(names.lookup p=some .cell∧(cs.lookup p).isSome=true))(hr:bC G.P σ s.heap args vals)(hn:ps.length=args.length)(hd:ps.Nodup):
  kL G.P (stC σ L cs (ps.zip args)) h₀ env (bindL env.kindOf (ps.zip vals) fun Z=>none) (gT cs++ps.zip (args.map .val)):=fun x lv e=>by
 refine orN (List.lookup_append.symm.trans e) (fun e=>?_) fun e' e=>?_
 ·obtain⟨c,q,hc⟩:=nQ e
  have hm:=pY hc
  exact q▸⟨.inl ((kf x).trans (kd _ hm)),(congrArg (List.lookup x) cells).trans hc,_,aDg ap hm⟩
 ·obtain⟨hx,u,w,q,hw,r⟩:=tN hr hn hd x lv e
  have hk:=(kf x).trans ((hl x hx).elim id fun q=>(Option.isSome_iff_exists.mp q.2).elim fun c hc=>nomatch (qC hc).symm.trans e')
  exact q▸⟨hk,w,(yS hk).trans (congrArg (·.or none) hw),K.mono r⟩
end
theorem aFS{n:Nat}{f:Addr}{ps:List Str}{body:List Stmt}{names:List (Str×NameKind)}{o:Obj}{fd:FuncData}{args:List V}{σ:aA}{Q:V→aA→Prop}{X:bF→Prop}{cs:Addr→List (Str×Addr)}
  (F:aBW f ps body names o fd) (hcs:∀L,cellsFrom (L+1) names []=cs L) (hck:∀L,∀x∈cs L,names.lookup x.1=some .cell) (hnd:∀L,((cs L).map (·.1)).Nodup)
  (hl:∀p∈ps,names.lookup p=some .local∨(names.lookup p=some .cell∧∀L,((cs L).lookup p).isSome=true)) (hn:ps.length=args.length)
  (h:∀L,σ L=none→(∀x∈cs L,σ x.2=none)→jC X (stC σ L (cs L) (ps.zip args)) (gT (cs L)++ps.zip (args.map .val)) ⟨n,none,names⟩ (aOi Q L (cs L)) body):
  kM (n+1) (.ref f) args σ Q X:=by
 intro md A env m loc s vals hmn hhd S hr
 have hlen:=hr.length
 have F4:fd.scope.names=names:=F.4
 have hlim:=S.frm.ok.top.nolimit.keeps S.frm.stays
 refine codeAny_call_function (aLE S.frm.depth) (S.frm.stays _ _ F.1) F.2 F.7 F.8 F.3 (F.5.keeps S.frm.stays) ((F.12 s vals (hlen.trans hn.symm) S.frm.stays) _ _ _ _ ?_)
 refine rwL F.11 ?_
 refine wpAny_newFunctionEnv_cells F.6 (fun x hx=>?_) fun envC he s₁ x=>?_
 ·rw[F4,hcs]
  exact(hl _ (List.of_mem_zip hx).1).imp id fun q=>⟨q.1,q.2 _⟩
 rw[F4,hcs] at he
 have E:aKe envC names s.heap.objs.size:=he▸⟨F.6,F4,F.9,F.10,rfl,rfl⟩
 have hkf:∀x,envC.kindOf x=names.lookup x:=fun x=>congrArg (List.lookup x) E.2
 have hcl:envC.cells=cs s.heap.objs.size:=he▸rfl
 obtain⟨ICx,hcell,hapart,habove⟩:=x
 obtain⟨⟨h₀,tk₀,rfl⟩,hns,hk,hfr⟩:=ICx
 clear he
 have hel:=E.6
 refine⟨hlim.keeps hk,codeAny_func ?_⟩
 rw[hcl] at hcell hapart habove
 rw[hel] at hns habove
 have hL:=eG s.heap
 obtain⟨L,hq⟩:∃L,s.heap.objs.size=L:=⟨_,rfl⟩
 rw[hq] at E hcl hel hcell hapart habove hns hL
 have hcfree:∀z∈cs L,s.heap.get? z.2=none:=fun z hz=>Heap.get?_none_of_le (hq▸Nat.le_of_lt (habove z.1 z.2 hz))
 have K:Beg σ (stC σ L (cs L) (ps.zip args)) L s h₀:=⟨hk,oU hL,fun b o e=>(uS fun q=>by
  obtain⟨z,hz,q⟩:=List.mem_map.mp q
  exact nomatch (q▸hcfree z hz).symm.trans e).trans (aR σ _ (oU hL b o e))⟩
 have hLc:L∉(cs L).map (·.2):=fun q=>by
  obtain⟨z,hz,q⟩:=List.mem_map.mp q
  exact absurd (habove z.1 z.2 hz) (q▸Nat.lt_irrefl _)
 have hLs:∃o,h₀.get? L=some o:=let⟨o,_,_,e,_⟩:=hns;⟨o,e⟩
 obtain⟨q1,q2,q3,q4,q5,q6,q7,q8,⟨fenv,outer,Lf,f1,f2,f3,f4,f5⟩,q9,q10,q11,q12⟩:=S.frm
 have S1:=yW (n:=n) (tk:=tk₀) E K q1 (q6.trans hhd) (aKK hmn q7) (aK7 hmn q8) f1 f4 f5 q9 q10 hL hns ((uS hLc).trans (aI ..)) (aFb (hck L) hkf hapart (hnd L) hcell K hr hn F.13 S.sim hLs) (aEX (hck L) hkf hapart hcl K (fun p hp=>(hl p hp).imp id fun q=>⟨q.1,q.2 L⟩) hr hn F.13)
 refine wpAny_mono (h L (rM S.sim hL) (fun z hz=>rM S.sim (hcfree z hz)) _ _ _ _ S1) (fun fl s' q=>?_) fun e s' q=>aA6 S1.frm (hel.symm▸hLs) q fun s'' q'=>aHJ (K.at hel.symm) q'
 have z:=aCs (er:=fun σ'=>sT σ' L (cs L)) (K.at hel.symm) (fun Z Z=>aCJ) (fun Z b o e=>if_neg fun q=>q.elim (K.ne b o e) fun q=>by
  obtain⟨z,hz,q⟩:=List.mem_map.mp q
  exact nomatch (q▸hcfree z hz).symm.trans e) (fun Z Z Z=>aCC) q
 cases fl <;> first|exact z|exact z.elim
theorem aEF{x:Str}{c:Addr}{r:V}{v:Value}{Qu:Unit→Shared→Prop}{E:Value→Shared→Prop}(S:St s σ m env A md loc)(hx:loc.lookup x=some (.cell c))(hk:md.sc.lookup x=some .cell)(hr:bW G.P σ s.heap r v)
  (h:∀s',St s' (upd c (.cell r) σ) m env A md loc→cA s (upd c (.cell r) σ) s' σ→Qu () s'):wpAny G.M A (storeName env x v) Qu E s:=by
 have hk':env.kindOf x=some .cell:=by show env.scope.names.lookup x=_;rw[S.frm.names];exact hk
 obtain⟨_,hl,v0,hv0⟩:=S.loc x _ hx
 obtain⟨o,ho,cc⟩:=S.sim c _ hv0
 have hic:∃w0,s.heap.IsCell c w0:=by
  rcases cc with⟨_,e⟩|⟨w,e,_⟩
  ·exact⟨_,o,ho,e⟩
  ·exact⟨_,o,ho,e⟩
 obtain⟨w0,hic⟩:=hic
 refine wpAny_storeName_cell S.frm.kind hk' hl hic fun h' hc' hs=>?_
 obtain⟨o',ho',hd'⟩:=hc'
 obtain⟨a,sim⟩:=oP (tk:=s.toks) (mo':=.cell r) S.sim hv0 (by nofun) (fun Z Z=>⟨_,rfl⟩) hs ho' (.inr ⟨v,hd',hr⟩)
 exact h _ (S.after a sim) a
theorem lF{x:Str}{c:Addr}{px pos:Pos}{e:Expr}{Q:gA→aX→aA→Prop}(hx:loc.lookup x=some (.cell c))(hk:md.sc.lookup x=some .cell)(h:cP X σ loc md (fun v σ'=>Q .next loc (upd c (.cell v) σ')) e)(hn:gN e=true:=by rfl):
  sY md (.Assign [.Name x px] e pos) loc σ Q X:=fun A env m s S=>by
 refine wpAny_Assign_Name (wpAny_mono (h A env m s S) (fun v s' q=>?_) fun Z Z q=>q.sx S) (hO hn ..)
 obtain⟨r,σ',h1,h2,h3,S'⟩:=S.ev q
 refine aEF S' hx hk h2 fun s'' S'' a=>?_
 exact⟨.next,_,_,_,h1,rfl,(h3.trans a).l _,S''.ns,S''.sim,S''.loc⟩
end
end Mine
end
section
open AutoSeq1 (wpAny_loadPart')
namespace Mine
noncomputable def aMd(items:Array Value)(x:Value)(i:Nat)(_:Option PySem.Fin×Unit):Sem (ForInStep (Option PySem.Fin×Unit)):=
 match items[i]? with
      |some y=>do
       let __do_lift ←eqBool y x
       if __do_lift=true then do
         let __do_lift ←retInt ↑i
         pure (ForInStep.done (some __do_lift,()))
        else pure (ForInStep.yield (none,()))
      |x=>pure (ForInStep.yield (none,()))
theorem aH2{prog:Program}{w:World}{A:Around}{E:Value→Shared→Prop}(items:Array Value)(x:Value)(e:Value→Bool)(he:∀y,y∈items→MeetsSeq.EqGives y x (e y))(j:Nat)(hj:j<items.size)
  (hit:e items[j]=true) (hno:∀m (hm:m<items.size),m<j→e items[m]=false) (s:Shared) (K:Option PySem.Fin×Unit→Shared→Prop) (h:K (some (PySem.Fin.done (.ret (.int j s.toks))),()) {s with toks:=s.toks+1}) (k:Nat):∀(i:Nat),i+k=items.size→i≤j→
  wpAny (model prog w) A (forIn (List.range' i k) (none,()) (aMd items x)) K E s:=by
 induction k with
 |zero=>intro i h1 h2;exact absurd hj (Nat.not_lt.mpr (aM (dH h1.symm) h2))
 |succ k ih=>
  intro i h1 h2
  rw[List.range'_succ,List.forIn_cons]
  have hs:i<items.size:=by exact Nat.lt_of_lt_of_eq (Nat.lt_add_of_pos_right (Nat.succ_pos k)) h1
  unfold aMd
  refine rwL (Array.getElem?_eq_getElem hs) ?_
  refine wpAny_bind (wpAny_bind (he _ (Array.getElem_mem hs) prog w _ _ _ _ ?_))
  by_cases hij:i=j
  ·subst hij
   refine rwL hit ?_
   wp_walk
   exact h
  ·refine rwL (hno i hs (Nat.lt_of_le_of_ne h2 hij)) ?_
   exact wpAny_pure (ih (i+1) ((Nat.add_right_comm i 1 k).trans h1) (Nat.lt_of_le_of_ne h2 hij))
theorem aBL(l:Addr)(items:Array Value)(n:Nat)(x:Value)(e:Value→Bool)(he:∀y,y∈items→MeetsSeq.EqGives y x (e y))(j:Nat)(hj:j<items.size)
  (hit:e items[j]=true) (hno:∀m (hm:m<items.size),m<j→e items[m]=false):
  Meets (Builtin.«tuple.index» ⟨[.ref l,x],[]⟩)
   (fun Z R s=>s.heap.get? l=some (mK items n)∧R (.ok (.ret (.int j s.toks))) {s with toks:=s.toks+1}):=.of_wp fun prog w A R s h=>by
 obtain⟨hp,g,d,tk,os⟩:=s;obtain⟨hl,h⟩:=h
 wp_walk using wpAny_loadPart' hl
 show wpAny _ _ (forIn [:min items.size items.size] (none,()) (aMd items x)) _ _ _
 refine rwL (Std.Legacy.Range.forIn_eq_forIn_range' _ _ _) ?_
 have:[:min items.size items.size].size=items.size:=by simp[Std.Legacy.Range.size]
 refine rwL this ?_
 refine aH2 items x e he j hj hit hno _ _ ?_ items.size 0 (Nat.zero_add _) (cM _)
 exact wpAny_pure ⟨_,rfl,h⟩
section
variable{md:Md}{A:Around}{env:Env}{m:Str→Option Value}{loc:aX}{σ σ':aA}{s s':Shared}{X:bF→Prop}
theorem aJS{l:List V}{ss:List Str}{x:Str}{j:Nat}{Q:V→aA→Prop}(hs:fR l=some ss)(hz:ss.length≤2^20)(hj:mM ss x=some j)(hq:Q (.int j) σ):aW Q σ X 0 (.builtin "tuple.index") [.tup l,.str x]:=by
 intro md A env m loc s vals hmd hhd S hr
 obtain⟨v,w,rfl,r,hf,t,rfl⟩:=iK hr
 obtain⟨a,vs,n,rfl,_,ho,hl⟩:=r
 obtain⟨h1,h2⟩:=aJQ hl hs
 replace h1:=Array.length_toList▸h1
 obtain⟨k1,k2,k3⟩:=aEy hj
 have get:∀i (hi:i<vs.size),∃t,∃hi':i<ss.length,vs[i]=.str ss[i] t:=fun i hi=>h2 i vs[i] (by simp[hi])
 refine call_meets F.slot_tuple_index ⟨_,ho,rfl⟩ F.entry_tuple_index (F.args_tuple_index_2 _ _) (aBL a vs n (.str x t) (aKL x) (fun y hy=>?_) j (Nat.lt_of_lt_of_eq k1 h1.symm) ?_ ?_) ⟨ho,⟨_,σ,hq,⟨_,rfl⟩,.tok ..,S.sim⟩⟩
 ·obtain⟨i,hi,rfl⟩:=Array.mem_iff_getElem.mp hy
  obtain⟨u,hi',e⟩:=get i hi
  refine rwL e ?_
  exact aAm ss[i] x u t
 ·obtain⟨u,hi',e⟩:=get j (Nat.lt_of_lt_of_eq k1 h1.symm)
  refine rwL e ?_
  show decide (ss[j]=x)=true
  simp[k2]
 ·intro i hi hlt
  obtain⟨u,hi',e⟩:=get i hi
  refine rwL e ?_
  show decide (ss[i]=x)=false
  simp[k3 i hi' hlt]
end
end Mine
end
section
namespace Mine
noncomputable def pV(s:Str):Bool:=PyData.strOk s&&decide (s.length≤2^20)
theorem dI{s:Str}(h:pV s=true):xW s:=by
 unfold pV at h
 rw[Bool.and_eq_true] at h
 exact⟨h.1,of_decide_eq_true h.2⟩
noncomputable def aGz(f:V→Value→Bool):List V→List Value→Bool
 |[],ys=>ys.isEmpty
 |x::xs,ys=>match ys with
  |y::ys=>f x y&&aGz f xs ys
  |[]=>false
noncomputable def kiB:List Int→List DictEntry→Bool
 |[],es=>es.isEmpty
 |k::ks,es=>match es with
  |e::es=>(aDT e.key==some k)&&e.hash==hashInt k&&kiB ks es
  |[]=>false
noncomputable def aJj(T:String)(o:Obj):Bool:=(wL o.cls==some T)&&o.dict.isNone&&o.slots.isEmpty
theorem aD4{T:String}{o:Obj}(h:aJj T o=true):o={cls:=.type T,data:=o.data}:=by
 unfold aJj at h
 rw[Bool.and_eq_true,Bool.and_eq_true] at h
 obtain⟨⟨h1,h2⟩,h3⟩:=h
 have e1:=lN (cJ h1)
 have e2:=Option.isNone_iff_eq_none.mp h2
 have e3:=Array.isEmpty_iff.mp h3
 obtain⟨c,d,dt,sl⟩:=o
 subst e1;subst e2;subst e3;rfl
noncomputable def aO5(f:V→Value→Bool)(l:List V)(o:Obj):Bool:=aJj "tuple" o&&(match aLD o.data with|some p=>aGz f l p.1.toList|none=>false)
noncomputable def aO8(f:V→Value→Bool)(ks:List Int)(vs:List V)(o:Obj):Bool:=aJj "dict" o&&(match aKE o.data with|some p=>kiB ks p.1.toList&&aGz f vs (p.1.toList.map (·.val))|none=>false)
noncomputable def atB(K:Frag)(v:Value)(g:Addr→Obj→Bool):Bool:=match xI v with
 |some a=>(match K.lookup a with|some o=>g a o|none=>false)
 |none=>false
noncomputable def aIY(K:Frag):Nat→V→Value→Bool
 |0,_,_=>false
 |n+1,x,v=>match x with
  |.none=>aFM v==some ()
  |.bool b=>aGk v==some b
  |.int i=>aDT v==some i
  |.str s=>decide (aKw v=some s)&&pV s
  |.tup l=>atB K v fun Z o=>aO5 (aIY K n) l o
  |.idc ks vs=>atB K v fun a o=>(a !=sysModules)&&aO8 (aIY K n) ks vs o
  |.ref a=>xI v==some a
  |.ty n=>wL v==some n
  |.bi n=>aHz v==some n
  |_=>false
theorem aBn{P:Params}{σ:aA}{h:Heap}{f:V→Value→Bool}(hf:∀x v,f x v=true→bW P σ h x v){l:List V}:∀{vs:List Value},aGz f l vs=true→bC P σ h l vs:=by
 induction l with
 |nil=>intro vs e;exact List.isEmpty_iff.mp e
 |cons x xs ih=>
  intro vs e
  induction vs with
  |nil=>exact iX e
  |cons y ys=>
   replace e:(f x y&&aGz f xs ys)=true:=e
   rw[Bool.and_eq_true] at e
   exact⟨y,ys,rfl,hf _ _ e.1,ih e.2⟩
theorem aIE{ks:List Int}:∀{es:List DictEntry},kiB ks es=true→KI ks es:=by
 induction ks with
 |nil=>intro es e;exact List.isEmpty_iff.mp e
 |cons k ks ih=>
  intro es e
  induction es with
  |nil=>exact iX e
  |cons d es=>
   replace e:((aDT d.key==some k)&&d.hash==hashInt k&&kiB ks es)=true:=e
   rw[Bool.and_eq_true,Bool.and_eq_true] at e
   obtain⟨⟨h1,h2⟩,h3⟩:=e
   obtain⟨t,ht⟩:=aCa (cJ h1)
   exact⟨d,es,t,rfl,ht,cJ h2,ih h3⟩
theorem aG9{K:Frag}{v:Value}{g:Addr→Obj→Bool}(h:atB K v g=true):∃a o,v=.ref a∧K.lookup a=some o∧g a o=true:=by
 unfold atB at h
 induction ha:xI v with
 |none=>
  replace h:=ha▸h
  exact iX h
 |some a=>
  replace h:=ha▸h
  induction ho:K.lookup a with
  |none=>simp only[ho] at h;exact iX h
  |some o=>simp only[ho] at h;exact⟨a,o,rF ha,ho,h⟩
section
variable{K:Frag}
theorem aH1{σ:aA}{h:Heap}(hK:K.In G.base)(hs:G.base.StaysIn h)(off:∀b o,G.base.get? b=some o→σ b=none)(n:Nat):∀{x:V} {v:Value},aIY K n x v=true→bW G.P σ h x v:=by
 induction n with
 |zero=>intro x v e;exact iX e
 |succ n ih=>
  intro x v e
  cases x with
  |none=>exact aEO (cJ e)
  |bool b=>exact aFs (cJ e)
  |int i=>exact aCa (cJ e)
  |str s=>
   obtain⟨e1,e2⟩:=Bool.and_eq_true_iff.mp e
   exact⟨dI e2,aFG (of_decide_eq_true e1)⟩
  |tup l=>
   obtain⟨a,o,rfl,hl,q⟩:=aG9 e
   obtain⟨q1,q2⟩:=Bool.and_eq_true_iff.mp q
   have ho:=aD4 q1
   induction hd:aLD o.data with
   |none=>
    replace q2:=hd▸q2
    exact iX q2
   |some p=>
    replace q2:=hd▸q2
    replace ho:=(aJg hd)▸ho
    replace hl:=ho▸hl
    exact⟨a,_,_,rfl,off _ _ (hK _ _ hl),hs _ _ (hK _ _ hl),aBn (fun x v e=>ih e) q2⟩
  |idc ks vs=>
   obtain⟨a,o,rfl,hl,q⟩:=aG9 e
   obtain⟨q0,q⟩:=Bool.and_eq_true_iff.mp q
   obtain⟨q1,q2⟩:=Bool.and_eq_true_iff.mp q
   have ho:=aD4 q1
   induction hd:aKE o.data with
   |none=>
    replace q2:=hd▸q2
    exact iX q2
   |some p=>
    replace q2:=hd▸q2
    obtain⟨q3,q4⟩:=Bool.and_eq_true_iff.mp q2
    replace ho:=(aJF hd)▸ho
    replace hl:=ho▸hl
    exact⟨a,_,_,rfl,⟨off _ _ (hK _ _ hl),by simpa using q0⟩,hs _ _ (hK _ _ hl),aIE q3,aBn (fun x v e=>ih e) q4⟩
  |ref a=>exact rF (cJ e)
  |ty m=>exact lN (cJ e)
  |bi m=>exact aBx (cJ e)
  |_=>exact iX e
noncomputable def aGe(K:Frag)(x:Str)(v:V):Bool:=match nsIn K mainGlobals x with
 |some (some w)=>aIY K 12 v w
 |_=>false
set_option tactic.hygienic true in
theorem aK5{x:Str}{v:V}(ok:G.Ok)(hK:K.In G.base)(h:aGe K x v=true):dD x v:=by
 unfold aGe at h
 split at h
 ·rename_i w hw
  exact⟨w,mg_of hK ok.top.g hw,fun σ h' hs off=>aH1 hK hs off 12 h⟩
 ·exact iX h
noncomputable def aPw(w:Value):V→Bool
 |.bi m=>aHz w==some m
 |.ty m=>wL w==some m
 |_=>false
noncomputable def aF6(K:Frag)(x:Str)(v:V):Bool:=(nsIn K mainGlobals x==some none)&&decide (x≠"__name__")&&match bootBuiltins x with
 |some w=>aPw w v
 |none=>false
theorem aLb{x:Str}{v:V}(ok:G.Ok)(hK:K.In G.base)(h:aF6 K x v=true):uH x v:=by
 unfold aF6 at h
 rw[Bool.and_eq_true,Bool.and_eq_true] at h
 obtain⟨⟨h1,h2⟩,h3⟩:=h
 refine⟨mg_none_of hK ok.top.g (cJ h1),of_decide_eq_true h2,?_⟩
 induction hb:bootBuiltins x with
 |none=>
  replace h3:=hb▸h3
  exact iX h3
 |some w=>
  replace h3:=hb▸h3
  refine⟨w,rfl,?_⟩
  cases v with
  |bi m=>exact .inl ⟨_,rfl,aBx (cJ h3)⟩
  |ty m=>exact .inr ⟨_,rfl,lN (cJ h3)⟩
  |_=>exact iX h3
theorem aOZ{f c:Addr}{cl ccl:Value}{d cdd:Option Addr}{sl csl:Array (Option Value)}{name q:Str}{prm:Arguments}{body:List Stmt}{names:List (Str×NameKind)}{more:List (Str×Const)}{defaults kwd doc pm clt:Value}{ann:Option Addr}{cvs:Array Value}{t:Tok}{ps:List Str}
  (hK:K.In G.base) (h:K.lookup f=some ⟨cl,d,.func ⟨name,q,prm,.stmts body,⟨.function,names,false,false,more⟩,mainGlobals,[],defaults,kwd,doc,pm,ann,.ref c,clt,builtinsNs⟩,sl⟩)
  (hc:K.lookup c=some ⟨ccl,cdd,.fields cvs,csl⟩) (hq:cvs[1]? =some (.str q t))
  (hb:∀s vals,vals.length=ps.length→G.base.StaysIn s.heap→BindsTo s ⟨name,q,prm,.stmts body,⟨.function,names,false,false,more⟩,mainGlobals,[],defaults,kwd,doc,pm,ann,.ref c,clt,builtinsNs⟩ ⟨vals,[]⟩ (ps.zip vals)) (nd:ps.Nodup:=by decide):
  aBW f ps body names ⟨cl,d,.func ⟨name,q,prm,.stmts body,⟨.function,names,false,false,more⟩,mainGlobals,[],defaults,kwd,doc,pm,ann,.ref c,clt,builtinsNs⟩,sl⟩ ⟨name,q,prm,.stmts body,⟨.function,names,false,false,more⟩,mainGlobals,[],defaults,kwd,doc,pm,ann,.ref c,clt,builtinsNs⟩:=
 ⟨hK _ _ h,rfl,rfl,rfl,⟨c,_,cvs,t,rfl,hK _ _ hc,rfl,hq⟩,rfl,rfl,rfl,rfl,rfl,rfl,hb,nd⟩
end
theorem bt0{B:Shared→Prop}{fd:FuncData}(H:∀(s:Shared),BindsTo s fd ⟨[],[]⟩ []):∀(s:Shared) (vals:List Value),vals.length=([]:List Str).length→B s→BindsTo s fd ⟨vals,[]⟩ (([]:List Str).zip vals):=fun s vals h Z=>by
 have e:=aN4 h
 subst e
 exact H s
theorem bt1{B:Shared→Prop}{fd:FuncData}{p0:Str}(H:∀(s:Shared) (a0:Value),BindsTo s fd ⟨[a0],[]⟩ [(p0,a0)]):∀(s:Shared) (vals:List Value),vals.length=([p0]:List Str).length→B s→BindsTo s fd ⟨vals,[]⟩ (([p0]:List Str).zip vals):=fun s vals h Z=>by
 obtain⟨a0,e⟩:=aNl h
 subst e
 exact H s a0
theorem tA{B:Shared→Prop}{fd:FuncData}{p0 p1:Str}(H:∀(s:Shared) (a0 a1:Value),BindsTo s fd ⟨[a0,a1],[]⟩ [(p0,a0),(p1,a1)]):∀(s:Shared) (vals:List Value),vals.length=([p0,p1]:List Str).length→B s→BindsTo s fd ⟨vals,[]⟩ (([p0,p1]:List Str).zip vals):=fun s vals h Z=>by
 obtain⟨a0,a1,e⟩:=aLU h
 subst e
 exact H s a0 a1
theorem bt3{B:Shared→Prop}{fd:FuncData}{p0 p1 p2:Str}(H:∀(s:Shared) (a0 a1 a2:Value),BindsTo s fd ⟨[a0,a1,a2],[]⟩ [(p0,a0),(p1,a1),(p2,a2)]):∀(s:Shared) (vals:List Value),vals.length=([p0,p1,p2]:List Str).length→B s→BindsTo s fd ⟨vals,[]⟩ (([p0,p1,p2]:List Str).zip vals):=fun s vals h Z=>by
 obtain⟨a0,a1,a2,e⟩:=aK9 h
 subst e
 exact H s a0 a1 a2
theorem bt4{B:Shared→Prop}{fd:FuncData}{p0 p1 p2 p3:Str}(H:∀(s:Shared) (a0 a1 a2 a3:Value),BindsTo s fd ⟨[a0,a1,a2,a3],[]⟩ [(p0,a0),(p1,a1),(p2,a2),(p3,a3)]):∀(s:Shared) (vals:List Value),vals.length=([p0,p1,p2,p3]:List Str).length→B s→BindsTo s fd ⟨vals,[]⟩ (([p0,p1,p2,p3]:List Str).zip vals):=fun s vals h Z=>by
 obtain⟨a0,a1,a2,a3,e⟩:=aNv h
 subst e
 exact H s a0 a1 a2 a3
theorem bt6{B:Shared→Prop}{fd:FuncData}{p0 p1 p2 p3 p4 p5:Str}(H:∀(s:Shared) (a0 a1 a2 a3 a4 a5:Value),BindsTo s fd ⟨[a0,a1,a2,a3,a4,a5],[]⟩ [(p0,a0),(p1,a1),(p2,a2),(p3,a3),(p4,a4),(p5,a5)]):∀(s:Shared) (vals:List Value),vals.length=([p0,p1,p2,p3,p4,p5]:List Str).length→B s→BindsTo s fd ⟨vals,[]⟩ (([p0,p1,p2,p3,p4,p5]:List Str).zip vals):=fun s vals h Z=>by
 obtain⟨a0,a1,a2,a3,a4,a5,e⟩:=aKQ h
 subst e
 exact H s a0 a1 a2 a3 a4 a5
section
variable{md:Md}{A:Around}{env:Env}{m:Str→Option Value}{loc:aX}{σ σ':aA}{s s':Shared}{X:bF→Prop}
theorem aIH{a b:V}{va vb:Value}{l:List V}{Qv:Value→Shared→Prop}{E:Value→Shared→Prop}(hu:A.units+200≤cLine)(sim:iH G.P σ s.heap)(ra:bW G.P σ s.heap a va)(rb:bW G.P σ s.heap b vb)
  (ea:lk σ a=.lst l) (eb:lk σ b=.lst []):(Qv (.bool l.isEmpty) s→wpAny G.M A (compareOp .Eq va vb) Qv E s)∧(Qv (.bool !l.isEmpty) s→wpAny G.M A (compareOp .NotEq va vb) Qv E s):=by
 obtain⟨x,vs,n,rfl,ho,hr⟩:=hM sim ra ea
 obtain⟨y,ws,k,rfl,hp,hq⟩:=hM sim rb eb
 have e1:=hr.length
 have e2:=hq.length
 rw[Array.length_toList] at e1 e2
 have hu':A.units<cLine:=by exact Nat.lt_of_lt_of_le (Nat.lt_add_of_pos_right (aD rfl)) hu
 cases l with
 |nil=>
  have hz:vs.size=ws.size:=by exact rwL e1 (rwL e2 rfl)
  have h0:vs.size=0:=e1
  have hall:∀(e:Nat→Bool),(List.range vs.size).all e=true:=fun e=>by rw[h0];rfl
  refine⟨fun h=>?_,fun h=>?_⟩
  ·exact SeqAt.eq_listAt (e:=fun Z=>true) ⟨_,ho,rfl,n,rfl⟩ ⟨_,hp,rfl,k,rfl⟩ hz hu' (fun j h1=>absurd h1 (by lia)) (rwL (hall _) h)
  ·exact SeqAt.RcNeAt.lists (e:=fun Z=>true) ⟨_,ho,rfl,n,rfl⟩ ⟨_,hp,rfl,k,rfl⟩ hz hu' (fun j h1=>absurd h1 (by lia)) G.prog G.w _ _ (rwL (hall _) h)
 |cons v l=>
  have hz:(vs.size !=ws.size)=true:=by rw[e1,e2];simp
  exact⟨fun h=>SeqAt.eq_list_lengthsAt ⟨_,ho,rfl,n,rfl⟩ ⟨_,hp,rfl,k,rfl⟩ hz hu' h,fun h=>SeqAt.RcNeAt.lists_lengths ⟨_,ho,rfl,n,rfl⟩ ⟨_,hp,rfl,k,rfl⟩ hz hu' G.prog G.w _ _ h⟩
inductive aPf(a:V)(Q1:List V→aA→Prop)(b:V)(σ2:aA):Prop|mk (xs:List V) (h1:lk σ2 a=.lst xs) (h2:lk σ2 b=.lst []) (q:Q1 xs σ2)
abbrev aLV(Q:Bool→aA→Prop):List V→aA→Prop:=fun xs σ2=>Q (!xs.isEmpty) σ2
abbrev aO3(md:Md)(r:Expr)(loc:aX)(Q1:List V→aA→Prop)(X:bF→Prop):V→aA→Prop:=fun a σ1=>cP X σ1 loc md (aPf a Q1) r
theorem aEK{l r:Expr}{pos:Pos}{Q:Bool→aA→Prop}(h:cP X σ loc md (aO3 md r loc (aLV Q) X) l)(hm:behindInMarks .NotEq r=false:=by with_unfolding_all rfl):
  qI md (.Compare l [.NotEq] [r] pos) loc σ Q X:=fun A env m s S=>by
 refine wpAny_isTrue_Compare1 (dU S h fun a b va vb σ2 s2 q aft S2 ra rb=>?_) hm
 obtain⟨xs,h1,h2,hq⟩:=q
 exact(aIH (mS S2) S2.sim ra rb h1 h2).2 (iZ ⟨σ2,hq,aft,S2.sim⟩)
inductive aBt:Operator→Int→Int→Int→Prop
 |add (a b:Int):aBt .Add a b (a+b)
 |sub (a b:Int):aBt .Sub a b (a - b)
theorem aE1{op:Operator}{a b c:Int}{t u:Tok}{Qv:Value→Shared→Prop}{E:Value→Shared→Prop}(h:aBt op a b c)(hq:Qv (.int c s.toks) {s with toks:=s.toks+1}):wpAny G.M A (inplaceOp op (.int a t) (.int b u)) Qv E s:=by
 induction h with
 |add=>exact AutoIntOps.iadd_0 hq
 |sub=>exact AutoIntOps.isub_0 hq
theorem sZ{o i e:Expr}{op:Operator}{tp pos:Pos}{Q:gA→aX→aA→Prop}
  (h:cP X σ loc md (fun x σ1=>cP X σ1 loc md (fun k σ2=>∃a l j old,x=.ref a∧σ2 a=some (.lst l)∧k=.int j∧0≤j∧j<l.length∧l.length≤2^20∧aEV l j=some (.int old)∧
   cP X σ2 loc md (fun v σ3=>∃n new,v=.int n∧aBt op old n new∧σ3=σ2∧Q .next loc (upd a (.lst (l.set j.toNat (.int new))) σ2)) e) i) o)
  (ha:∀ov iv new,augStore i ov iv new=(do holding [new,ov,iv] (setItem ov iv new);release [new,ov,iv] [];pure .next):=by intros;rfl):sY md (.AugAssign (.Subscript o i tp) op e pos) loc σ Q X:=fun A env m s S=>by
 refine wpAny_AugAssign_SubscriptAny (wpAny_mono (dU (K:=fun ov iv s2=>wpAny G.M A (getItem ov iv) (fun old s₃=>wpAny G.M A (eval e env) (fun v s₄=>wpAny G.M A (inplaceOp op old v) (fun new s₅=>wpAny G.M A (setItem ov iv new) (fun Z=>SQ env σ Q s .next) (SX env σ X s) s₅) (SX env σ X s) s₄) (SX env σ X s) s₃) (SX env σ X s) s2) S h fun x k ov iv σ2 s2 q2 a2 S2 rx rk=>?_) (fun ov s1 q=>wpAny_mono q (fun Z Z z=>z) fun Z Z z=>z.sx S) fun Z Z z=>z.sx S) ha
 obtain⟨a,l,j,old,rfl,k1,rfl,k2,k3,k4,k5,hE⟩:=q2
 refine(vB (A:=A) (Qv:=fun old s₃=>wpAny G.M A (eval e env) (fun v s₄=>wpAny G.M A (inplaceOp op old v) (fun new s₅=>wpAny G.M A (setItem ov iv new) (fun Z=>SQ env σ Q s .next) (SX env σ X s) s₅) (SX env σ X s) s₄) (SX env σ X s) s₃) (E:=SX env σ X s)
  (xU.lst (.ref a) l j (.int old) (dA k1) (⟨Int.le_trans (by exact zD T0) k2,Int.lt_of_lt_of_le k3 (Int.le_trans (Int.ofNat_le.mpr k4) (by exact zD T0))⟩) k5) S2.sim rx rk fun v t r=>?_).get
 obtain⟨t1,rfl⟩:=r
 refine wpAny_mono (hE A env m _ (S2.tok t)) (fun v s4 q4=>?_) fun Z Z z=>(z.sx (S2.tok t)).then ((a2.trans (.tok ..)).l _)
 obtain⟨r4,σ4,⟨n,new,rfl,hop,rfl,hq⟩,h2,h3,h4⟩:=q4
 obtain⟨t2,rfl⟩:=h2
 have S4:=(S2.tok t).after h3 h4
 refine aE1 hop ?_
 subst rx
 obtain⟨t3,rfl⟩:=rk
 refine aBO (s:={s4 with toks:=s4.toks+1}) (x:=.int new) S4.sim k1 k2 k3 k4 ⟨_,rfl⟩ fun s5 a5 sim5=>?_
 have S5:=(S4.tok (s4.toks+1)).after a5 sim5
 exact⟨.next,loc,_,m,hq,rfl,((((a2.trans (.tok ..)).trans h3).trans (.tok ..)).trans a5).l _,S5.ns,S5.sim,S5.loc⟩
theorem aL0{i:Int}{Q:V→aA→Prop}(hf:xW (baseText "0x" 16 i))(hq:Q (.str (baseText "0x" 16 i)) σ):aW Q σ X 0 (.builtin "hex") [.int i]:=by
 intro md A env m loc s vals hmd hhd S hr
 obtain⟨v,rfl,t,rfl⟩:=jH hr
 exact P.hex_of_int ⟨_,σ,hq,⟨hf,_,rfl⟩,.tok ..,S.sim⟩ (jK hf.2)
theorem aIC{x:Str}{Q:V→aA→Prop}(hf:xW (Txt.lower x))(hq:Q (.str (Txt.lower x)) σ):aW Q σ X 0 (.builtin "str.lower") [.str x]:=by
 intro md A env m loc s vals hmd hhd S hr
 obtain⟨v,rfl,hfx,t,rfl⟩:=jH hr
 exact call_meets F.slot_str_lower (typeIs_str _ _ _) F.entry_str_lower (F.args_str_lower_1 _) (gives_str_lower x t (by have:=jK hf.2;show decide ((Txt.lower x).length>sizeLine)=false;simp;assumption)).meets ⟨jK hf.2,⟨_,σ,hq,⟨hf,_,rfl⟩,.tok ..,S.sim⟩⟩
theorem aBP{x y:Str}{Q:V→aA→Prop}(hq:Q (.bool (Txt.startswith x y)) σ):aW Q σ X 0 (.builtin "str.startswith") [.str x,.str y]:=by
 intro md A env m loc s vals hmd hhd S hr
 obtain⟨v,w,rfl,⟨hfx,t,rfl⟩,hfy,u,rfl⟩:=iK hr
 exact call_meets F.slot_str_startswith (typeIs_str _ _ _) F.entry_str_startswith (F.args_str_startswith_2 _ _) (gives_str_startswith x y t u).meets ⟨_,σ,hq,rfl,.refl ..,S.sim⟩
theorem aJH{x y:Str}{i:Nat}{rest:List Nat}{Q:V→aA→Prop}(h:Builtin.Str.occurrences x y 0 x.length 1=i::rest)(hq:Q (.int i) σ):aW Q σ X 0 (.builtin "str.index") [.str x,.str y]:=by
 intro md A env m loc s vals hmd hhd S hr
 obtain⟨v,w,rfl,⟨hfx,t,rfl⟩,hfy,u,rfl⟩:=iK hr
 exact call_meets F.slot_str_index (typeIs_str _ _ _) F.entry_str_index (F.args_str_index_2 _ _) (gives_str_index x y t u i rest h).meets ⟨_,σ,hq,⟨_,rfl⟩,.tok ..,S.sim⟩
end
theorem tV:typeLookup (.type "dict_values") "__contains__"=pure none:=by rw[typeLookup_type,builtinLookup_eq_fast];kernel_rfl
theorem aB2:entryFor table "proto.contains_iter"=some Builtin.«proto.contains_iter»:=entryFor_of_tree (by kernel_rfl)
theorem aHK:plainId "proto.contains_iter"=true:=by decide+kernel
section
variable{prog:Program}{w:World}{K:Type}[DecidableEq K]{knd:PySem.KeyKind prog w K}{A:Around}{E:Value→Shared→Prop}{s:Shared}
theorem aIb{it d:Addr}{ep i:Nat}{kvs:List (K×Value)}{x:Str}{t:Tok}{r:Bool}{R:Result→Shared→Prop}(hr:((kvs.drop i).any fun kv=>kv.2.isStr x)=r)(hh:A.handled=none)(hx:kvs[i]? =none)(hi:s.heap.IsValIter it d i kvs.length ep)(hm:s.heap.DictAt knd d kvs ep)
  (hR:∀h' tk,(∀b o,b≠it→s.heap.get? b=some o→h'.get? b=some o)→R (.ok (.ret (.bool r))) {s with heap:=h',toks:=tk}):codeAny (model prog w) A (.builtin "proto.contains_iter" ⟨[.ref it,.str x t],[]⟩) R s:=by
 replace hr:false=r:=by rw[List.drop_eq_nil_of_le (List.getElem?_eq_none_iff.mp hx)] at hr;exact hr
 subst hr
 refine codeAny_builtin aB2 ?_
 show wpAny _ _ (pyNext (.ref it) >>= _) _ _ s
 exact wpAny_bind (wpAny_pyNext_values_end hh hi hm hx fun h' hb=>wpAny_bind (wpAny_rule (wpAny_pure (hR h' _ fun b o h e=>hb b o h e))))
theorem aIN{it d:Addr}{ep:Nat}{kvs:List (K×Value)}{x:Str}{t:Tok}{r:Bool}(hss:∀(i:Nat) kv,kvs[i]? =some kv→∃y u,kv.2=.str y u){R:Result→Shared→Prop}(n:Nat):
  ∀(i:Nat) (A:Around) (s:Shared),((kvs.drop i).any fun kv=>kv.2.isStr x)=r→A.handled=none→it≠d→kvs.length - i≤n→s.heap.IsValIter it d i kvs.length ep→s.heap.DictAt knd d kvs ep→
  (∀h' tk,(∀b o,b≠it→s.heap.get? b=some o→h'.get? b=some o)→R (.ok (.ret (.bool r))) {s with heap:=h',toks:=tk})→
  codeAny (model prog w) A (.builtin "proto.contains_iter" ⟨[.ref it,.str x t],[]⟩) R s:=by
 induction n with
 |zero=>exact fun i A s hr hh hne hn hi hm hR=>aIb hr hh (List.getElem?_eq_none (Nat.sub_eq_zero_iff_le.mp (Nat.le_zero.mp hn))) hi hm hR
 |succ n ih=>
  intro i A s hr hh hne hn hi hm hR
  induction hx:kvs[i]? with
  |none=>exact aIb hr hh hx hi hm hR
  |some kv=>
   obtain⟨k,v⟩:=kv
   obtain⟨y,u,q⟩:=hss i _ hx
   replace q:v=.str y u:=q
   subst q
   obtain⟨hl,he⟩:=gB hx
   replace hr:(decide (y=x)||(kvs.drop (i+1)).any fun kv=>kv.2.isStr x)=r:=by rw[List.drop_eq_getElem_cons hl,he] at hr;exact hr
   refine codeAny_builtin aB2 ?_
   show wpAny _ _ (pyNext (.ref it) >>= _) _ _ s
   refine wpAny_bind (wpAny_pyNext_values_item hi hm hx fun h' hi' hsb=>wpAny_bind (wpAny_eqBool_str ?_))
   generalize decide (y=x)=b at hr ⊢
   induction b with
   |true=>
    replace hr:true=r:=hr
    subst hr
    exact wpAny_bind (wpAny_rule (wpAny_pure (hR h' _ fun b o hb e=>(hsb.2 b hb).trans e)))
   |false=>exact wpAny_pure ⟨plainId_quiet aHK _,ih (i+1) A _ hr hh hne (Nat.pred_le_pred hn) hi' (let⟨o,es,ho,r⟩:=hm;⟨o,es,(hsb.2 d hne.symm).trans ho,r⟩) fun h'' tk hk=>hR h'' tk fun b o hb e=>hk b o hb ((hsb.2 b hb).trans e)⟩
theorem xO{v d:Addr}{ep:Nat}{kvs:List (K×Value)}{x:Str}{t:Tok}{Q:Value→Shared→Prop}(hh:A.handled=none)(hv:s.heap.IsValuesView v d)(hm:s.heap.DictAt knd d kvs ep)(hss:∀(i:Nat) kv,kvs[i]? =some kv→∃y u,kv.2=.str y u){r:Bool}(hr:(kvs.any fun kv=>kv.2.isStr x)=r)
  (hQ:∀h' tk,(∀b o,s.heap.get? b=some o→h'.get? b=some o)→Q (.bool r) {s with heap:=h',toks:=tk}):wpAny (model prog w) A (compareOp .In (.str x t) (.ref v)) Q E s:=by
 show wpAny _ _ (contains (.ref v) (.str x t) >>= fun b=>pure (Value.bool b)) _ _ s
 refine wpAny_bind ?_
 unfold contains
 refine wpAny_holding ?_
 show wpAny _ _ (do
  if(←specialOf (.ref v) "__contains__")==some .none then
   rule "in.none";raiseError "TypeError" s!"'{← typeNameOf (.ref v)}' object is not a container"
  match ←callSpecialUnlessNone? (.ref v) "__contains__" [.str x t] (do rule "in.none";raiseError "TypeError" s!"'{← typeNameOf (.ref v)}' object is not a container") with
  |some r=>truthy r
  |none=>
   rule "in.by-iteration"
   match ←runValue (.builtin "proto.contains_iter" ⟨[←(pyIter (.ref v)).tryCatch fun e=>do
     if ←isInstance e (.type "TypeError") then raiseError "TypeError" s!"argument of type '{← typeNameOf (.ref v)}' is not iterable" else throw e,.str x t],[]⟩) with
   |.bool b=>pure b
   |_=>unsupported "internal:contains") _ _ s
 refine wpAny_bind (wpAny_specialOf hv.typeIs tV ?_)
 refine wpAny_ite_split (fun hab=>absurd hab (zD T0)) (fun Z=>?_)
 dsimp only
 refine wpAny_bind ?_
 unfold callSpecialUnlessNone?
 refine wpAny_bind (wpAny_specialOf hv.typeIs tV (wpAny_pure ?_))
 refine wpAny_bind (wpAny_rule ?_)
 refine wpAny_bind (wpAny_tryCatch (wpAny_pyIter_values hv hm ?_))
 have hI:=Heap.get?_push_size s.heap (o:={cls:=.type "dict_valueiterator",data:=.fields #[.ref d,.int 0 0,.int kvs.length 0,.int ep 0]}) rfl
 have hne:s.heap.objs.size≠d:=Nat.ne_of_gt hm.lt_size
 refine wpAny_bind (wpAny_runValue (aIN (knd:=knd) (kvs:=kvs) (ep:=ep) hss kvs.length 0 A _ hr hh hne (bO _) ⟨_,hI,rfl,rfl⟩ (hm.push _) fun h' tk hk=>?_))
 refine wpAny_pure (wpAny_pure ?_)
 exact hQ h' tk fun b o e=>hk b o (Nat.ne_of_lt (Heap.lt_size e)) (Heap.get?_push_of_some _ e)
end
section
variable{md:Md}{A:Around}{env:Env}{m:Str→Option Value}{loc:aX}{σ σ':aA}{s s':Shared}{X:bF→Prop}
theorem aC5{l o:Expr}{ap cp pos:Pos}{x:Str}{ks:List Int}{vs:List V}{ss:List Str}{Q:V→aA→Prop}(hd:md.hd=none)(hl:cP X σ loc md (fun a σ1=>a=.str x∧σ1=σ) l)(ho:cP X σ loc md (fun a σ1=>a=.idc ks vs∧σ1=σ) o)
  (hs:fR vs=some ss) (hks:ks.Nodup) (hq:Q (.bool (ss.any (·==x))) σ)
  (he:∀env,∃pl:Sem Bool,eval (.Call (.Attribute o "values" ap) [] [] cp) env=(do
   let ov ←eval o env
   standAt ap.atName
   let(f,first) ←holding [ov] (getMethod ov "values" pl)
   callWith cp f first (backTo cp (starEach [] env)) (backToKw cp (keywordEach [] env))):=by intro _;exact⟨_,by with_unfolding_all rfl⟩) (hm:behindInMarks .In (.Call (.Attribute o "values" ap) [] [] cp)=false:=by with_unfolding_all rfl):
  cP X σ loc md Q (.Compare l [.In] [.Call (.Attribute o "values" ap) [] [] cp] pos):=fun A env m s S=>by
 have hh:A.handled=none:=S.frm.hand.trans hd
 refine wpAny_Compare1 (wpAny_mono (hl A env m s S) (fun va s1 q=>?_) fun Z Z z=>z) hm
 obtain⟨a,σ1,⟨rfl,rfl⟩,h2,h3,S1⟩:=S.ev q
 obtain⟨pl,he⟩:=he env
 refine methodCall_KW (pl:=pl) (wpAny_mono (ho A env m s1 S1) (fun vo s2 q=>?_) fun Z Z z=>z.then h3) he
 obtain⟨b,σ2,⟨rfl,rfl⟩,k2,k3,S2⟩:=S1.ev q
 refine vH (aCu.blt "dict" "dict.values" rfl F.plainAttrs_dict F.slot_dict_values (by kernel_rfl)) S2.frm.stays S2.sim k2 fun fs t hfs=>?_
 obtain⟨w,rfl,hw⟩:=jH hfs
 obtain⟨d,es,n,rfl,⟨hsd,hy⟩,hod,hki,hrv⟩:=hw
 have hlk:=aDb hki
 have hm:s2.heap.DictAt (PySem.intKind G.prog G.w) d (ks.zip (es.toList.map (·.val))) n:=⟨_,es,hod,⟨rfl,rfl,rfl⟩,rfl,fun e he=>by
   obtain⟨k,t,h1,h2⟩:=hki.keys e (Array.mem_toList_iff.mpr he)
   exact⟨k,by rw[h1];simp[PySem.intKind,Value.isInt],h2⟩,wA hki,by exact rwL (List.map_fst_zip (by simp;simpa using dH hlk.symm)) hks⟩
 obtain⟨g1,g2⟩:=wU hrv hs
 have hzip:(ks.zip (es.toList.map (·.val))).map (·.2)=es.toList.map (·.val):=List.map_snd_zip (by simp;simpa using dH hlk)
 refine callWith_method0 (call_meetsIn F.slot_dict_values ⟨_,hod,rfl⟩ F.entry_dict_values (F.args_dict_values_1 _) (meets_dict_values (PySem.intKind G.prog G.w) d hy) ⟨⟨_,hm.dictOf⟩,?_⟩)
 obtain⟨hfx,tx,hva⟩:=h2
 subst hva
 have e1:((ks.zip (es.toList.map (·.val))).any fun kv=>kv.2.isStr x)=ss.any (·==x):=by
  have q:=g2 x
  rw[←hzip,List.any_map] at q
  exact q
 refine xO (knd:=PySem.intKind G.prog G.w) (kvs:=ks.zip (es.toList.map (·.val))) (ep:=n) (d:=d) hh ⟨_,Heap.get?_push_size _ rfl,rfl,rfl⟩ (hm.push _) (fun i kv hkv=>g1 _ (hzip▸List.mem_map.mpr ⟨kv,iA hkv,rfl⟩)) e1 fun h' tk hk=>?_
 obtain⟨gr,gs⟩:=uC (s:=s2) (h':=h') (tk:=tk) S2.sim fun b o e=>hk b o (Heap.get?_push_of_some _ e)
 exact⟨_,σ2,hq,rfl,(h3.trans k3).trans gr,gs⟩
theorem aDq{elt target iter:Expr}{scope:Scope}{pos:Pos}{it acc:Value}{cenv:Env}{R:Result→Shared→Prop}
  (turn:wpAny G.M A (pyNext it) (fun r s₁=>match r with
   |none=>False
   |some v=>wpAny G.M A (letOwnedTupleGo target it v) (fun Z s₁'=>wpAny G.M A (assign target cenv v) (fun Z s₂=>
     wpAny G.M A (eval elt cenv) (fun Z Z=>False) (notedBy G.M A cenv fun x s'=>R (.error x) s') s₂) (fun Z Z=>False) s₁') (fun Z Z=>False) s₁) (fun Z Z=>False) s):
  codeAny G.M A (.compLoop (.ListComp elt [⟨target,iter,[],0⟩] scope pos) 0 it acc cenv) R s:=by
 refine codeAny_loop rfl (fun Z s'=>s'=s) (fun n s' hI=>?_) 0 rfl
 subst hI
 show wpAny _ A ((compTurn (.ListComp elt [⟨target,iter,[],0⟩] scope pos) 0 it acc cenv).onRaise (fun x=>do noteFrame x cenv;theTreesLotGoes x)) _ _ s'
 refine wpAny_noted ?_
 rw[compTurn_list]
 refine wpAny_bind (wpAny_standAt (wpAny_bind (wpAny_mono turn (fun r s₁ h₁=>?_) fun Z Z h'=>h'.elim)))
 induction r with
 |none=>exact h₁.elim
 |some v=>
  refine wpAny_bind (wpAny_mono h₁ (fun Z s₁' h₁'=>?_) fun Z Z h'=>h'.elim)
  refine wpAny_bind (wpAny_mono h₁' (fun Z s₂ h₂=>wpAny_bind (wpAny_tests_nil ?_)) fun Z Z h'=>h'.elim)
  exact wpAny_bind (wpAny_bind (wpAny_mono h₂ (fun x s₄ h₄=>h₄.elim) fun Z Z h'=>h'))
theorem aIs{x:bF}{q:Option Value→Prop}{σ1:aA}{s1:Shared}{e:Value}(a:cA s σ1 s1 σ)(u:EU σ1 x q s1 e s'):EU σ x q s e s':=by
 obtain⟨a1,a2,a3,a4⟩:=a
 exact⟨u.up.le a4,by obtain⟨_,_,rfl⟩:=a1;obtain⟨h',tk,rfl⟩:=u.same;exact⟨h',tk,rfl⟩,a2.trans a3 u.keep,a4.trans u.live⟩
theorem aLz{P:Params}{h0 h h':Heap}{x:bF}{q:Option Value→Prop}{e:Value}{C:Addr}(U:Up P h0 x q e h)(hC:∃o,h0.get? C=some o)(hs:Heap.SameBut C h h'):Up P h0 x q e h':=by
 obtain⟨ea,dx,oe,vs,es,k,rfl,h0e,he,hcl,hdi,hd,hsz,htb,h0d,hdx,hk,hv⟩:=U
 obtain⟨oC,hC⟩:=hC
 have n:∀{b},h0.get? b=none→b≠C:=fun{b} hb q=>by rw[q,hC] at hb;exact cZ (Eq.symm hb)
 refine⟨ea,dx,oe,vs,es,k,rfl,h0e,(hs.2 _ (n h0e)).trans he,hcl,hdi,hd,hsz,?_,h0d,(hs.2 _ (n h0d)).trans hdx,hk,hv⟩
 rcases htb with z|⟨T,oT,ts,f,h1,h0T,z1,z2,z3,z4,z5⟩
 ·exact .inl z
 ·exact .inr ⟨T,oT,ts,f,h1,h0T,z1,(hs.2 _ (n h0T)).trans z2,z3,z4,z5⟩
theorem aLS{x:bF}{q:Option Value→Prop}{σ1:aA}{s1:Shared}{e:Value}{C:Addr}{h':Heap}(a:cA s σ1 s1 σ)(u:EU σ1 x q s1 e s')(fC:s.heap.get? C=none)(hC:∃o,s1.heap.get? C=some o)(hs:Heap.SameBut C s'.heap h'):EU σ x q s e {s' with heap:=h'}:=by
 have u2:=aIs a u
 have n:∀{b o},s.heap.get? b=some o→b≠C:=fun{b o} hb q=>by rw[q,fC] at hb;exact cZ hb
 refine⟨(aLz u.up hC hs).le a.live,by obtain⟨h2,tk,rfl⟩:=u2.same;exact⟨h',tk,rfl⟩,fun b o e=>⟨fun z=>(hs.2 b (n e)).trans ((u2.keep b o e).1 z),fun z=>?_⟩,fun b o e=>?_⟩
 ·obtain⟨o',e',q⟩:=(u2.keep b o e).2 z
  exact⟨o',(hs.2 b (n e)).trans e',q⟩
 ·obtain⟨o',e'⟩:=u2.live b o e
  exact⟨o',(hs.2 b (n e)).trans e'⟩
noncomputable def aMA(md:Md)(target:Expr)(elt:Expr)(scope:Scope)(cl:List (Str×Addr))(X:bF→Prop)(xs:List V)(σ1:aA):Prop:=
 ∃x loc',xs[(0:Nat)]? =some x∧tZ target x (gT cl)=some loc'∧∀σ',Ext σ1 σ'→cP X σ' loc' ⟨md.n,md.hd,cR scope.names md.sc⟩ (fun Z Z=>False) elt
theorem xQ{elt target iter:Expr}{scope:Scope}{pos:Pos}{cl:List (Str×Addr)}{Q:V→aA→Prop}(hd:md.hd=none)(hcl:nY scope.names loc []=some cl)(hok:rP scope md.sc target cl=true)
  (h:aCj md target iter loc σ (aMA md target elt scope cl X) X) (hs:∀env x,foldedSetIterable iter env x=pure x:=by intro _ _;rfl):cP X σ loc md Q (.ListComp elt [⟨target,iter,[],0⟩] scope pos):=fun A env m s S=>by
 obtain⟨c1,c2,c3,c4,c5⟩:=oN hok
 have hh:A.handled=none:=S.frm.hand.trans hd
 rw[eval_ListComp]
 refine wpAny_comprehension_free (use:=none) rfl (hs env) (mI S.loc hcl) c3 c2 (wpAny_mono (h A env m s hh S) (fun xv s1 q=>wpAny_mono q (fun it s2 q2=>?_) fun Z Z z=>z) fun Z Z z=>z)
 obtain⟨I,wr,xs,Sw,σ2,rfl,W,st,aft,sim,nw,x,loc',hnx,hb,hE⟩:=q2
 refine tS (RR:=fun acc C=>compPost G.M A (EX σ X s) none (EQ G σ Q s) acc C) W hd c1 c3 hcl c5 c4 (S.after aft sim) aft st S.frm.stays nw fun D C m4 s4 nb hσD hσC hDC fD fC gD gC S4 A4 stl locC=>?_
 have ext:=uQ (ys:=[]) hσD hσC
 refine aDq (W.item A 0 _ s4 x _ _ _ hh S4.sim stl hnx (fun u s' h=>h) fun u h' tk hr w st2=>?_)
 have off:=W.off _ _ _ stl
 have S2':=w.st (tk:=tk) off nb S4
 have a2':=w.after0 (tk:=tk) nw A4
 refine vT S2' hh c4 hb hr fun m3 s3 S3 a3=>?_
 have a3':=aDF a2' a3 fC
 refine wpAny_mono (hE _ ext A _ _ s3 S3) (fun Z Z q=>by obtain⟨_,_,hf,_⟩:=q;exact hf.elim) fun e s5 q=>?_
 obtain⟨x,hx,u⟩:=aKq q
 refine aDr rfl S3.frm u fun s6 u6=>?_
 obtain⟨Lf,u6⟩:=u6
 have hC3:∃o,s3.heap.get? C=some o:=let⟨o,_,_,e,_⟩:=S3.ns;⟨o,e⟩
 refine⟨_,kG S3.ns fun o e=>(u6.keep _ o e).2 S3.frm.off,fun h' hs cenv' hc'=>?_⟩
 have u7:=aLS a3' u6 fC hC3 hs
 obtain⟨ea,dx,oe,vs,es,n,rfl,r2,r3,r4,r5,r6,r7,r8,r⟩:=id u7.up
 rcases r8 with⟨_,z⟩|⟨T,oT,ts,f,z1,z2,z3,z4,z5,z6,z7⟩
 ·exact cZ z
 unfold PySem.passOn
 refine wpAny_bind (wpAny_field r3 r6 z1 ?_)
 refine rwL (if_neg (by simp)) ?_
 refine wpAny_bind (tD S.frm u7 (by simp) fun s8 u8=>wpAny_throw ?_)
 exact⟨x,hx,aH0 u8.up,u8.same,u8.keep,u8.live⟩
end
section
noncomputable def nH:V:=.idc ((-1)::(-2)::(-16)::(-17)::[]) (.str "i32"::.str "i64"::.str "funcref"::.str "externref"::[])
noncomputable def sB:V:=.idc ((-3)::(-4)::(-5)::[]) (.str "f32"::.str "f64"::.str "v128"::[])
noncomputable def nA:V:=.idc ((-16)::(-17)::[]) (.str "func"::.str "extern"::[])
noncomputable def nL:V:=.idc (40::41::44::45::46::47::48::49::50::51::52::53::[]) (.tup [.int (-1),.int 4,.int 0]::.tup [.int (-2),.int 8,.int 0]::.tup [.int (-1),.int 1,.int 1]::.tup [.int (-1),.int 1,.int 0]::.tup [.int (-1),.int 2,.int 1]::.tup [.int (-1),.int 2,.int 0]::.tup [.int (-2),.int 1,.int 1]::.tup [.int (-2),.int 1,.int 0]::.tup [.int (-2),.int 2,.int 1]::.tup [.int (-2),.int 2,.int 0]::.tup [.int (-2),.int 4,.int 1]::.tup [.int (-2),.int 4,.int 0]::[])
noncomputable def lE:V:=.idc (54::55::58::59::60::61::62::[]) (.tup [.int (-1),.int 4]::.tup [.int (-2),.int 8]::.tup [.int (-1),.int 1]::.tup [.int (-1),.int 2]::.tup [.int (-2),.int 1]::.tup [.int (-2),.int 2]::.tup [.int (-2),.int 4]::[])
noncomputable def rA:V:=.idc (0::1::2::3::4::5::11::12::13::14::15::16::17::18::19::26::27::28::32::33::34::35::36::37::38::63::64::65::66::208::209::210::64520::64521::64522::64523::64524::64525::64526::64527::64528::64529::[]) (.str "none"::.str "none"::.str "block"::.str "block"::.str "block"::.str "none"::.str "none"::.str "label"::.str "label"::.str "labels"::.str "none"::.str "func"::.str "indirect"::.str "func"::.str "indirect"::.str "none"::.str "none"::.str "kinds"::.str "local"::.str "local"::.str "local"::.str "global"::.str "global"::.str "table"::.str "table"::.str "memory"::.str "memory"::.str "i32"::.str "i64"::.str "refkind"::.str "none"::.str "func"::.str "memory_init"::.str "data"::.str "two_memories"::.str "memory"::.str "table_init"::.str "elem"::.str "table_copy"::.str "table"::.str "table"::.str "table"::[])
noncomputable def pP:V:=.tup [.tup [.int 69,.int 69,.tup [.int (-1)],.tup [.int (-1)]],.tup [.int 70,.int 79,.tup [.int (-1),.int (-1)],.tup [.int (-1)]],.tup [.int 80,.int 80,.tup [.int (-2)],.tup [.int (-1)]],.tup [.int 81,.int 90,.tup [.int (-2),.int (-2)],.tup [.int (-1)]],.tup [.int 103,.int 105,.tup [.int (-1)],.tup [.int (-1)]],.tup [.int 106,.int 120,.tup [.int (-1),.int (-1)],.tup [.int (-1)]],.tup [.int 121,.int 123,.tup [.int (-2)],.tup [.int (-2)]],.tup [.int 124,.int 138,.tup [.int (-2),.int (-2)],.tup [.int (-2)]],.tup [.int 167,.int 167,.tup [.int (-2)],.tup [.int (-1)]],.tup [.int 172,.int 173,.tup [.int (-1)],.tup [.int (-2)]],.tup [.int 192,.int 193,.tup [.int (-1)],.tup [.int (-1)]],.tup [.int 194,.int 196,.tup [.int (-2)],.tup [.int (-2)]]]
noncomputable def aC3:V:=.tup [.tup [.int 69,.str "i32.",.tup [.str "eqz",.str "eq",.str "ne",.str "lt_s",.str "lt_u",.str "gt_s",.str "gt_u",.str "le_s",.str "le_u",.str "ge_s",.str "ge_u"]],.tup [.int 80,.str "i64.",.tup [.str "eqz",.str "eq",.str "ne",.str "lt_s",.str "lt_u",.str "gt_s",.str "gt_u",.str "le_s",.str "le_u",.str "ge_s",.str "ge_u"]],.tup [.int 103,.str "i32.",.tup [.str "clz",.str "ctz",.str "popcnt",.str "add",.str "sub",.str "mul",.str "div_s",.str "div_u",.str "rem_s",.str "rem_u",.str "and",.str "or",.str "xor",.str "shl",.str "shr_s",.str "shr_u",.str "rotl",.str "rotr"]],.tup [.int 121,.str "i64.",.tup [.str "clz",.str "ctz",.str "popcnt",.str "add",.str "sub",.str "mul",.str "div_s",.str "div_u",.str "rem_s",.str "rem_u",.str "and",.str "or",.str "xor",.str "shl",.str "shr_s",.str "shr_u",.str "rotl",.str "rotr"]]]
noncomputable def uP:V:=.idc (32::65::33::34::66::2::3::4::5::11::12::13::14::15::16::17::26::27::28::0::1::18::19::35::36::37::38::40::41::44::45::46::47::48::49::50::51::52::53::54::55::58::59::60::61::62::63::64::167::172::173::192::193::194::195::196::208::209::210::64520::64521::64522::64523::64524::64525::64526::64527::64528::64529::[]) (.str "local.get"::.str "i32.const"::.str "local.set"::.str "local.tee"::.str "i64.const"::.str "block"::.str "loop"::.str "if"::.str "else"::.str "end"::.str "br"::.str "br_if"::.str "br_table"::.str "return"::.str "call"::.str "call_indirect"::.str "drop"::.str "select"::.str "select"::.str "unreachable"::.str "nop"::.str "return_call"::.str "return_call_indirect"::.str "global.get"::.str "global.set"::.str "table.get"::.str "table.set"::.str "i32.load"::.str "i64.load"::.str "i32.load8_s"::.str "i32.load8_u"::.str "i32.load16_s"::.str "i32.load16_u"::.str "i64.load8_s"::.str "i64.load8_u"::.str "i64.load16_s"::.str "i64.load16_u"::.str "i64.load32_s"::.str "i64.load32_u"::.str "i32.store"::.str "i64.store"::.str "i32.store8"::.str "i32.store16"::.str "i64.store8"::.str "i64.store16"::.str "i64.store32"::.str "memory.size"::.str "memory.grow"::.str "i32.wrap_i64"::.str "i64.extend_i32_s"::.str "i64.extend_i32_u"::.str "i32.extend8_s"::.str "i32.extend16_s"::.str "i64.extend8_s"::.str "i64.extend16_s"::.str "i64.extend32_s"::.str "ref.null"::.str "ref.is_null"::.str "ref.func"::.str "memory.init"::.str "data.drop"::.str "memory.copy"::.str "memory.fill"::.str "table.init"::.str "elem.drop"::.str "table.copy"::.str "table.grow"::.str "table.size"::.str "table.fill"::[])
noncomputable def pX:V:=.tup [.str "block",.str "loop",.str "if"]
noncomputable def pZ:V:=.tup [.str "type",.str "param",.str "result",.str "local",.str "then",.str "else",.str "end",.str "item",.str "offset",.str "mut",.str "func",.str "extern",.str "table",.str "memory",.str "global",.str "elem",.str "data",.str "\x69mport",.str "export",.str "start",.str "module",.str "declare",.str "i32",.str "i64",.str "funcref",.str "externref"]
noncomputable def aMY:List (Str×V):=("KIND_NAMES",nH)::("LEFT_NAMES",sB)::("HEAP_NAMES",nA)::("LOADS",nL)::("STORES",lE)::("FORMS",rA)::("NUMBERS",pP)::("ROWS",aC3)::("NAMES",uP)::("BLOCK_WORDS",pX)::("OTHER_WORDS",pZ)::("I32",.int (-1))::("I64",.int (-2))::("FUNCREF",.int (-16))::("EXTERNREF",.int (-17))::("EMPTY",.int (-64))::("BLOCK",.int 2)::("IF",.int 4)::("ELSE",.int 5)::("END",.int 11)::("SELECT",.int 27)::("SELECT_KINDS",.int 28)::("MOST_COUNT",.int 4294967295)::("DIGITS",.str "0123456789")::("HEX_DIGITS",.str "0123456789abcdefABCDEF")::("kind_of",.ref 24)::("is_left_name",.ref 31)::("heap_of",.ref 38)::("number_kind",.ref 106)::("form_of",.ref 113)::("natural",.ref 120)::("WasmFault",.ref 137)::("BadText",.ref 157)::("LeftOut",.ref 176)::("Token",.ref 195)::("Branch",.ref 223)::("is_token",.ref 235)::("whole_of",.ref 242)::("int_of",.ref 249)::("u32_of",.ref 256)::("code_of",.ref 275)::("is_left_word",.ref 282)::("refuse",.ref 292)::("head_of",.ref 299)::("is_other_word",.ref 306)::("value_kind",.ref 313)::("kinds_in",.ref 318)::("has_index",.ref 325)::("index_at",.ref 332)::("word_at",.ref 339)::("count_of",.ref 346)::("exponent_of",.ref 353)::("Label",.ref 370)::("ItemRun",.ref 391)::("run_task",.ref 402)::("BodyReader",.ref 564)::("read_body",.ref 575)::("_law_next",.ref 582)::("_law_token",.ref 589)::("_law_items",.ref 596)::("_law_goal",.ref 603)::("_law_single",.ref 608)::("_law_tree",.ref 615)::("_law_trees",.ref 622)::("_law_all",.ref 629)::("_law_texts",.ref 636)::("_law_flat",.ref 643)::("_law_wrong",.ref 650)::("law",.ref 657)::[]
theorem aOL(P:Params):(aMY.all fun p=>aGe (KK P) p.1 p.2)=true:=by kernel_rfl
theorem iO(C:Cx G)(i:Nat){x:Str}{v:V}(h:aMY[i]? =some (x,v)):dD x v:=aK5 C.ok C.k (eT (aOL G.P) _ (iA h))
theorem sL(C:Cx G):dD "KIND_NAMES" (nH):=iO C 0 rfl
theorem aAy(C:Cx G):dD "LEFT_NAMES" (sB):=iO C 1 rfl
theorem sC(C:Cx G):dD "HEAP_NAMES" (nA):=iO C 2 rfl
theorem aAs(C:Cx G):dD "LOADS" (nL):=iO C 3 rfl
theorem aCh(C:Cx G):dD "STORES" (lE):=iO C 4 rfl
theorem aEl(C:Cx G):dD "FORMS" (rA):=iO C 5 rfl
theorem aED(C:Cx G):dD "NUMBERS" (pP):=iO C 6 rfl
theorem aLj(C:Cx G):dD "ROWS" (aC3):=iO C 7 rfl
theorem aEk(C:Cx G):dD "NAMES" (uP):=iO C 8 rfl
theorem mO(C:Cx G):dD "BLOCK_WORDS" (pX):=iO C 9 rfl
theorem xT(C:Cx G):dD "OTHER_WORDS" (pZ):=iO C 10 rfl
theorem aI4(C:Cx G):dD "EMPTY" (.int (-64)):=iO C 15 rfl
theorem aOn(C:Cx G):dD "IF" (.int 4):=iO C 17 rfl
theorem aHu(C:Cx G):dD "ELSE" (.int 5):=iO C 18 rfl
theorem aJY(C:Cx G):dD "END" (.int 11):=iO C 19 rfl
theorem aFE(C:Cx G):dD "SELECT" (.int 27):=iO C 20 rfl
theorem oQ(C:Cx G):dD "SELECT_KINDS" (.int 28):=iO C 21 rfl
theorem aAx(C:Cx G):dD "MOST_COUNT" (.int 4294967295):=iO C 22 rfl
theorem aG6(C:Cx G):dD "DIGITS" (.str "0123456789"):=iO C 23 rfl
theorem rT(C:Cx G):dD "HEX_DIGITS" (.str "0123456789abcdefABCDEF"):=iO C 24 rfl
theorem aEL(C:Cx G):dD "kind_of" (.ref 24):=iO C 25 rfl
theorem wG(C:Cx G):dD "is_left_name" (.ref 31):=iO C 26 rfl
theorem aEB(C:Cx G):dD "heap_of" (.ref 38):=iO C 27 rfl
theorem yA(C:Cx G):dD "number_kind" (.ref 106):=iO C 28 rfl
theorem aFp(C:Cx G):dD "form_of" (.ref 113):=iO C 29 rfl
theorem aFj(C:Cx G):dD "natural" (.ref 120):=iO C 30 rfl
theorem tW(C:Cx G):dD "WasmFault" (.ref 137):=iO C 31 rfl
theorem zJ(C:Cx G):dD "BadText" (.ref 157):=iO C 32 rfl
theorem aE4(C:Cx G):dD "LeftOut" (.ref 176):=iO C 33 rfl
theorem pU(C:Cx G):dD "Token" (.ref 195):=iO C 34 rfl
theorem rY(C:Cx G):dD "Branch" (.ref 223):=iO C 35 rfl
theorem vO(C:Cx G):dD "is_token" (.ref 235):=iO C 36 rfl
theorem vU(C:Cx G):dD "whole_of" (.ref 242):=iO C 37 rfl
theorem aHs(C:Cx G):dD "int_of" (.ref 249):=iO C 38 rfl
theorem aBo(C:Cx G):dD "u32_of" (.ref 256):=iO C 39 rfl
theorem tF(C:Cx G):dD "code_of" (.ref 275):=iO C 40 rfl
theorem vJ(C:Cx G):dD "is_left_word" (.ref 282):=iO C 41 rfl
theorem cU(C:Cx G):dD "refuse" (.ref 292):=iO C 42 rfl
theorem jS(C:Cx G):dD "head_of" (.ref 299):=iO C 43 rfl
theorem uG(C:Cx G):dD "is_other_word" (.ref 306):=iO C 44 rfl
theorem sS(C:Cx G):dD "value_kind" (.ref 313):=iO C 45 rfl
theorem qW(C:Cx G):dD "kinds_in" (.ref 318):=iO C 46 rfl
theorem pJ(C:Cx G):dD "has_index" (.ref 325):=iO C 47 rfl
theorem wI(C:Cx G):dD "index_at" (.ref 332):=iO C 48 rfl
theorem tM(C:Cx G):dD "word_at" (.ref 339):=iO C 49 rfl
theorem wZ(C:Cx G):dD "count_of" (.ref 346):=iO C 50 rfl
theorem xZ(C:Cx G):dD "exponent_of" (.ref 353):=iO C 51 rfl
theorem aDR(C:Cx G):dD "Label" (.ref 370):=iO C 52 rfl
theorem aEx(C:Cx G):dD "ItemRun" (.ref 391):=iO C 53 rfl
theorem lM(C:Cx G):dD "run_task" (.ref 402):=iO C 54 rfl
theorem aAu(C:Cx G):dD "BodyReader" (.ref 564):=iO C 55 rfl
theorem tY(C:Cx G):dD "read_body" (.ref 575):=iO C 56 rfl
theorem jZ(C:Cx G):dD "_law_next" (.ref 582):=iO C 57 rfl
theorem aAM(C:Cx G):dD "_law_token" (.ref 589):=iO C 58 rfl
theorem kS(C:Cx G):dD "_law_items" (.ref 596):=iO C 59 rfl
theorem tP(C:Cx G):dD "_law_goal" (.ref 603):=iO C 60 rfl
theorem xY(C:Cx G):dD "_law_single" (.ref 608):=iO C 61 rfl
theorem aBs(C:Cx G):dD "_law_tree" (.ref 615):=iO C 62 rfl
theorem nR(C:Cx G):dD "_law_trees" (.ref 622):=iO C 63 rfl
theorem qR(C:Cx G):dD "_law_all" (.ref 629):=iO C 64 rfl
theorem aAn(C:Cx G):dD "_law_texts" (.ref 636):=iO C 65 rfl
theorem jX(C:Cx G):dD "_law_flat" (.ref 643):=iO C 66 rfl
theorem aAr(C:Cx G):dD "_law_wrong" (.ref 650):=iO C 67 rfl
noncomputable def aNu:List (Str×V):=[("len",.bi "len"),("isinstance",.bi "isinstance"),("sum",.bi "sum"),("range",.ty "range"),("enumerate",.ty "enumerate"),("tuple",.ty "tuple"),("str",.ty "str"),("int",.ty "int"),("Exception",.ty "Exception"),("hex",.bi "hex")]
theorem aPH(P:Params):(aNu.all fun p=>aF6 (KK P) p.1 p.2)=true:=by kernel_rfl
theorem bAt(C:Cx G)(i:Nat){x:Str}{v:V}(h:aNu[i]? =some (x,v)):uH x v:=aLb C.ok C.k (eT (aPH G.P) _ (iA h))
theorem hY(C:Cx G):uH "len" (.bi "len"):=bAt C 0 rfl
theorem fN(C:Cx G):uH "isinstance" (.bi "isinstance"):=bAt C 1 rfl
theorem uO(C:Cx G):uH "range" (.ty "range"):=bAt C 3 rfl
theorem uM(C:Cx G):uH "tuple" (.ty "tuple"):=bAt C 5 rfl
theorem vF(C:Cx G):uH "str" (.ty "str"):=bAt C 6 rfl
theorem aM6(C:Cx G):uH "int" (.ty "int"):=bAt C 7 rfl
theorem aBz(C:Cx G):uH "Exception" (.ty "Exception"):=bAt C 8 rfl
theorem aNZ(C:Cx G):uH "hex" (.bi "hex"):=bAt C 9 rfl
noncomputable def uB:V:=.sdc ["func","global","data","elem","memory_init"] [.str "func",.str "global",.str "data",.str "elem",.str "data"]
theorem uE(C:Cx G):dD "SPACE_OF_FORM" uB:=by
 refine⟨.ref 285,mg_of C.k C.ok.top.g (by kernel_rfl),fun σ h hs off=>?_⟩
 have e:(KK G.P).lookup 285=some ⟨.type "dict",none,.dict _ _,#[]⟩:=rfl
 have q:=C.k _ _ e
 refine⟨_,_,_,rfl,⟨off _ _ q,rfl⟩,hs _ _ q,?_,?_⟩
 ·exact⟨_,_,_,rfl,rfl,rfl,dI (by kernel_rfl),⟨_,_,_,rfl,rfl,rfl,dI (by kernel_rfl),⟨_,_,_,rfl,rfl,rfl,dI (by kernel_rfl),⟨_,_,_,rfl,rfl,rfl,dI (by kernel_rfl),⟨_,_,_,rfl,rfl,rfl,dI (by kernel_rfl),rfl⟩⟩⟩⟩⟩
 ·exact⟨_,_,rfl,⟨dI (by kernel_rfl),_,rfl⟩,⟨_,_,rfl,⟨dI (by kernel_rfl),_,rfl⟩,⟨_,_,rfl,⟨dI (by kernel_rfl),_,rfl⟩,⟨_,_,rfl,⟨dI (by kernel_rfl),_,rfl⟩,⟨_,_,rfl,⟨dI (by kernel_rfl),_,rfl⟩,rfl⟩⟩⟩⟩⟩
end
theorem nb{b:Bool}(h:b=false):¬b=true:=by rw[h];decide
theorem ndF{p:Prop}[Decidable p](h:p):(!decide p)=false:=by rw[decide_eq_true h];rfl
theorem ndT{p:Prop}[Decidable p](h:¬p):(!decide p)=true:=by rw[decide_eq_false h];rfl
inductive aLl(v0:V)(b:Bool)(Q:V→aA→Prop)(v:V)(σ1:aA):Prop|mk (h:v=v0) (q:Q (.bool b) σ1)
abbrev aMs(n:Nat)(f:Value)(x:V)(Q:V→aA→Prop)(X:bF→Prop):List V→aA→Prop:=fun vs σ2=>aW Q σ2 X n f (x::vs)
noncomputable def fdO(n q:Str)(st:Stmt)(md:Str)(t:Tok)(c:Addr):FuncData:=⟨n,q,aFY st,.stmts (zP st),vY st,3,[],.none,.none,.none,.str md t,none,.ref c,.none,0⟩
theorem gV(C:Cx G){f c a:Addr}{n q md nm:Str}{st:Stmt}{t:Tok}{t1 i:Nat}{line argc:Int}{z:Bool}{ps:List Str}{body:List Stmt}{names:List (Str×NameKind)}{more:List (Str×Const)}(h:(KK G.P).lookup f=some (fO n q st md t c))(hc:(KK G.P).lookup c=some (cO nm q t1 line argc a z i))
  (hs:vY st=⟨.function,names,false,false,more⟩) (hbd:zP st=body) (hb:∀s vals,vals.length=ps.length→G.base.StaysIn s.heap→BindsTo s (fdO n q st md t c) ⟨vals,[]⟩ (ps.zip vals)) (nd:ps.Nodup:=by exact zD T0):aBW f ps body names (fO n q st md t c) (fdO n q st md t c):=
 ⟨C.k _ _ h,rfl,congrArg FuncBody.stmts hbd,congrArg Scope.names hs,⟨c,_,_,_,rfl,C.k _ _ hc,rfl,rfl⟩,congrArg Scope.kind hs,congrArg Scope.isCoroutine hs,congrArg Scope.isGenerator hs,rfl,rfl,rfl,hb,nd⟩
section
variable{md:Md}{loc:aX}{σ:aA}{X:bF→Prop}
theorem aS(C:Cx G){f:Addr}{c:Value}{d:Option Addr}{fd:FuncData}{sl:Array (Option Value)}(h:(KK G.P).lookup f=some ⟨c,d,.func fd,sl⟩):lO (.ref f):=fun hp k=>by
 refine⟨.frame,.inl rfl,(Looks.ld (part:=none) (k _ _ (C.k _ _ h))).andThen ?_⟩
 exact .now
theorem aY{x:Str}{f:Addr}{px pos:Pos}{es:List Expr}{n:Nat}{Q:V→aA→Prop}(g:dD x (.ref f))(hk:lO (.ref f))(hm:md.sc.lookup x=some .globalImplicit)(hmd:n≤md.n)(hd:md.hd=none)
  (h:nW md es loc σ (aLZ n (.ref f) Q X) X) (hx:(x==("__debug__":Str))=false:=by exact zD T0) (hn:es.all fF=true:=by rfl):cP X σ loc md Q (.Call (.Name x px) es [] pos):=
 aDu (fv:=.ref f) (bA g hm ⟨rfl,rfl⟩ hx) rfl hk hmd hd h hn
theorem cY{x:Str}{fv:V}{f:Value}{px pos:Pos}{es:List Expr}{Q:V→aA→Prop}(g:uH x fv)(ha:aFL fv=some f)(hk:lO f)(hm:md.sc.lookup x=some .globalImplicit)(hd:md.hd=none)
  (h:nW md es loc σ (aLZ 0 f Q X) X) (hx:(x==("__debug__":Str))=false:=by exact zD T0) (hn:es.all fF=true:=by rfl):cP X σ loc md Q (.Call (.Name x px) es [] pos):=
 aDu (qN g hm ⟨rfl,rfl⟩ hx) ha hk (cM _) hd h hn
theorem wR(C:Cx G):kN 157 154 ["why","row","column"]:=⟨_,C.k,by kernel_rfl⟩
theorem aF5(C:Cx G):kN 176 173 ["why","at"]:=⟨_,C.k,by kernel_rfl⟩
theorem zS(C:Cx G){D fI:Addr}{own:List Str}{x:Addr}{why:V}{Q:V→aA→Prop}(hx:σ x=some (.exc D none))(hD:kN D fI own)(ho:own.contains "why"=true)
  (hq:∀dx,σ dx=none→dx≠x→Q .none (upd x (.exc D (some dx)) (upd dx (.ns ["why"] [why]) σ))):aW Q σ X 3 (.ref 134) [.ref x,why]:=by
 refine aZ (n:=2) (gV (ps:=["self","why"]) C rfl rfl rfl rfl (tA fun Z Z Z=>.of_eq rfl)) (zD T0) (zD T0) rfl fun L hL=>?_
 have hxL:x≠L:=by rintro rfl;rw[hL] at hx;exact cZ hx
 refine aG (pT ?_)
 refine cI rfl (qN (aBz C) rfl ⟨.builtin "Exception.__init__",[],0,.exc rfl rfl,aO _,cM _,aC (aB rfl (aC (aB rfl (aE ?_))))⟩)
 refine aFg hD (rwL (aR _ _ hxL) hx) ?_
 refine aG (jF (aB rfl (aB rfl ⟨x,D,fI,own,none,rfl,rwL (aR _ _ hxL) hx,hD,ho,.none fun dx hdx hne=>?_⟩)))
 refine aH ?_
 have hdL:dx≠L:=by rintro rfl;rw[aI] at hdx;exact cZ (Eq.symm hdx)
 have hdx':σ dx=none:=by rw[aR _ _ hdL] at hdx;exact hdx
 show Q .none (eZ L (upd x _ (upd dx _ (upd L .mark σ))))
 refine rwL (cF hxL) ?_
 refine rwL (cF hdL) ?_
 refine rwL (aU hL) ?_
 exact hq dx hdx' hne
end
section
variable{md:Md}{X:bF→Prop}{loc:aX}{σ:aA}
abbrev aOG(md:Md)(rest:List Stmt)(loc:aX)(Q:gA→aX→aA→Prop)(X:bF→Prop):V→aA→Prop:=fun Z σ'=>jC X σ' loc md Q rest
abbrev aOs(md:Md)(x:Str)(rest:List Stmt)(loc:aX)(Q:gA→aX→aA→Prop)(X:bF→Prop):V→aA→Prop:=fun v σ'=>jC X σ' ((x,.val v)::loc) md Q rest
theorem bL{x:Str}{p:Pos}{v:V}{es:List Expr}{Q:List V→aA→Prop}(hx:loc.lookup x=some (.val v))(h:nW md es loc σ (aNR v Q) X)(hd:(x==("__debug__":Str))=false:=by exact zD T0):nW md (.Name x p::es) loc σ Q X:=aC (aB hx h hd)
theorem aQ{x:Str}{p:Pos}{v:V}{Q:List V→aA→Prop}(hx:loc.lookup x=some (.val v))(h:Q [v] σ)(hd:(x==("__debug__":Str))=false:=by exact zD T0):nW md [.Name x p] loc σ Q X:=aC (aB hx (aE h) hd)
theorem bZ{e:Expr}{pos:Pos}{rest:List Stmt}{Q:gA→aX→aA→Prop}(h:cP X σ loc md (aNd loc Q) e):jC X σ loc md Q (.Return (some e) pos::rest):=aG (eF h)
theorem cW{e:Expr}{pos:Pos}{rest:List Stmt}{Q:gA→aX→aA→Prop}(h:cP X σ loc md (aOG md rest loc Q X) e)(hn:gN e=true:=by rfl):jC X σ loc md Q (.Expr e pos::rest):=aG (pT h hn)
theorem cG{x:Str}{px pos:Pos}{e:Expr}{rest:List Stmt}{Q:gA→aX→aA→Prop}(hx:md.sc.lookup x=some .local)(h:cP X σ loc md (aOs md x rest loc Q X) e)(hn:gN e=true:=by rfl):jC X σ loc md Q (.Assign [.Name x px] e pos::rest):=aG (tL hx h hn)
theorem qZ{e:Expr}{pos:Pos}{body orelse rest:List Stmt}{Q:gA→aX→aA→Prop}(h:qI md e loc σ (IfQ orelse md body X (aEq md rest Q X) loc) X):jC X σ loc md Q (.If e body orelse pos::rest):=aG (gQ h)
theorem nZ{l r:Expr}{op:CmpOp}{pos p1:Pos}{body orelse rest:List Stmt}{Q:gA→aX→aA→Prop}(h:cP X σ loc md (aL7 op md r X loc (IfQ orelse md body X (aEq md rest Q X) loc)) l)(hm:behindInMarks op r=false:=by with_unfolding_all rfl):
  jC X σ loc md Q (.If (.Compare l [op] [r] p1) body orelse pos::rest):=aG (gQ (aV h hm))
theorem eB{x:Str}{r:Expr}{op:CmpOp}{pos p1 p2:Pos}{v:V}{body orelse rest:List Stmt}{Q:gA→aX→aA→Prop}(hx:loc.lookup x=some (.val v))(h:cP X σ loc md (aJh op v (IfQ orelse md body X (aEq md rest Q X) loc)) r)(hm:behindInMarks op r=false:=by with_unfolding_all rfl)(hd:(x==("__debug__":Str))=false:=by exact zD T0):
  jC X σ loc md Q (.If (.Compare (.Name x p2) [op] [r] p1) body orelse pos::rest):=aG (gQ (aV (aB hx h hd) hm))
end
section
variable{md:Md}{loc:aX}{σ:aA}{X:bF→Prop}
theorem aFh(C:Cx G){x:Addr}{why row col:V}{Q:V→aA→Prop}(hx:σ x=some (.exc 157 none))
  (hq:∀dx,σ dx=none→dx≠x→Q .none (upd x (.exc 157 (some dx)) (upd dx (.ns ["why","row","column"] [why,row,col]) σ))):kM 5 (.ref 154) [.ref x,why,row,col] σ Q X:=by
 refine kE (n:=4) (gV (ps:=["self","why","row","column"]) C rfl rfl rfl rfl (bt4 fun Z Z Z Z Z=>.of_eq rfl)) (zD T0) (zD T0) rfl fun L hL=>?_
 have hxL:x≠L:=by rintro rfl;rw[hL] at hx;exact cZ hx
 refine aG (pT ?_)
 refine cI rfl (bA (tW C) rfl ⟨.ref 134,[],3,.cls 137 134 rfl ⟨_,C.k,by kernel_rfl,by kernel_rfl⟩,aS C rfl,aD rfl,aC (aB rfl (aC (aB rfl (aE ?_))))⟩)
 refine zS C (D:=157) (rwL (aR _ _ hxL) hx) (wR C) rfl fun dx hdx hne=>?_
 have hdL:dx≠L:=by rintro rfl;rw[aI] at hdx;exact cZ (Eq.symm hdx)
 have hdx':σ dx=none:=by rw[aR _ _ hdL] at hdx;exact hdx
 refine aG (jF (aB rfl (aB rfl ⟨x,157,_,_,some dx,rfl,aI ..,wR C,rfl,.some _ _ _ ((aR _ _ hne).trans (aI ..)) (aD rfl) ?_⟩)))
 refine aG (jF (aB rfl (aB rfl ⟨x,157,_,_,some dx,rfl,(aR _ _ hne.symm).trans (aI ..),wR C,rfl,.some _ _ _ (aI ..) (aD rfl) ?_⟩)))
 refine aH ?_
 show Q .none (eZ L (upd dx (.ns ["why","row","column"] [why,row,col]) (upd dx _ (upd x _ (upd dx _ (upd L .mark σ))))))
 refine rwL bK ?_
 refine rwL (kC hne.symm) ?_
 refine rwL bK ?_
 refine rwL (cF hxL) ?_
 refine rwL (cF hdL) ?_
 refine rwL (aU hL) ?_
 exact hq dx hdx' hne
theorem aPo(C:Cx G){why row col:V}{Q:V→aA→Prop}(hq:∀ea dx σ',σ' ea=some (.exc 157 (some dx))→σ' dx=some (.ns ["why","row","column"] [why,row,col])→σ ea=none→σ dx=none→Q (.ref ea) σ'):
  aW Q σ X 6 (.ref 157) [why,row,col]:=by
 refine(aBX (n:=5) (wR C) (by simp) fun x hx=>aFh C (aI ..) fun dx hdx hne=>⟨rfl,?_⟩).w
 have hdx':σ dx=none:=by rw[aR _ _ hne] at hdx;exact hdx
 exact hq x dx _ (aI ..) ((aR _ _ hne).trans (aI ..)) hx hdx'
theorem aE0(C:Cx G){x:Addr}{why row:V}{Q:V→aA→Prop}(hx:σ x=some (.exc 176 none))
  (hq:∀dx,σ dx=none→dx≠x→Q .none (upd x (.exc 176 (some dx)) (upd dx (.ns ["why","at"] [why,row]) σ))):kM 5 (.ref 173) [.ref x,why,row] σ Q X:=by
 refine kE (n:=4) (gV (ps:=["self","why","at"]) C rfl rfl rfl rfl (bt3 fun Z Z Z Z=>.of_eq rfl)) (zD T0) (zD T0) rfl fun L hL=>?_
 have hxL:x≠L:=by rintro rfl;rw[hL] at hx;exact cZ hx
 refine aG (pT ?_)
 refine cI rfl (bA (tW C) rfl ⟨.ref 134,[],3,.cls 137 134 rfl ⟨_,C.k,by kernel_rfl,by kernel_rfl⟩,aS C rfl,aD rfl,aC (aB rfl (aC (aB rfl (aE ?_))))⟩)
 refine zS C (D:=176) (rwL (aR _ _ hxL) hx) (aF5 C) rfl fun dx hdx hne=>?_
 have hdL:dx≠L:=by rintro rfl;rw[aI] at hdx;exact cZ (Eq.symm hdx)
 have hdx':σ dx=none:=by rw[aR _ _ hdL] at hdx;exact hdx
 refine aG (jF (aB rfl (aB rfl ⟨x,176,_,_,some dx,rfl,aI ..,aF5 C,rfl,.some _ _ _ ((aR _ _ hne).trans (aI ..)) (aD rfl) ?_⟩)))
 refine aH ?_
 show Q .none (eZ L (upd dx (.ns ["why","at"] [why,row]) (upd x _ (upd dx _ (upd L .mark σ)))))
 refine rwL (kC hne.symm) ?_
 refine rwL bK ?_
 refine rwL (cF hxL) ?_
 refine rwL (cF hdL) ?_
 refine rwL (aU hL) ?_
 exact hq dx hdx' hne
theorem aOV(C:Cx G){why row:V}{Q:V→aA→Prop}(hq:∀ea dx σ',σ' ea=some (.exc 176 (some dx))→σ' dx=some (.ns ["why","at"] [why,row])→σ ea=none→σ dx=none→Q (.ref ea) σ'):
  aW Q σ X 6 (.ref 176) [why,row]:=by
 refine(aBX (n:=5) (aF5 C) (by simp) fun x hx=>aE0 C (aI ..) fun dx hdx hne=>⟨rfl,?_⟩).w
 have hdx':σ dx=none:=by rw[aR _ _ hne] at hdx;exact hdx
 exact hq x dx _ (aI ..) ((aR _ _ hne).trans (aI ..)) hx hdx'
noncomputable def rB(row:Int)(col:Int)(why:Str):bF:=⟨157,["why","row","column"],[.str why,.int row,.int col]⟩
noncomputable def xLO(why:Str)(row:Int):bF:=⟨176,["why","at"],[.str why,.int row]⟩
noncomputable def iR(sort text:Str)(val:V)(row col:Int):V:=.obj 195 ["sort","text","value","row","column"] [.str sort,.str text,val,.int row,.int col]
theorem aAE{σ:aA}{a b:V}{x y:PyData}(h1:aB1 σ a=some x)(h2:aB1 σ b=some y)(d1:x.depth≤64)(d2:y.depth≤64):eqV σ a b=some (PyData.eqv x y):=by
 unfold eqV
 rw[h1,h2]
 exact if_pos ⟨d1,d2⟩
theorem bG{σ:aA}(a b:Str):aBa σ .Eq (.str a) (.str b)=some (decide (a=b)):=
 (aAE (σ:=σ) (a:=.str a) (b:=.str b) (x:=.str a) (y:=.str b) rfl rfl (by simp[PyData.depth]) (by simp[PyData.depth])).trans (by by_cases h:a=b <;> simp[PyData.eqv,h])
theorem iG{σ:aA}(a b:Str):aBa σ .NotEq (.str a) (.str b)=some (!decide (a=b)):=by
 show(aBa σ .Eq (.str a) (.str b)).map _=_
 refine rwL (bG _ _) ?_
 rfl
theorem cS{σ:aA}(a b:Int):aBa σ .Eq (.int a) (.int b)=some (decide (a=b)):=
 (aAE (σ:=σ) (a:=.int a) (b:=.int b) (x:=.int a) (y:=.int b) rfl rfl (by simp[PyData.depth]) (by simp[PyData.depth])).trans (by by_cases h:a=b <;> simp[PyData.eqv,h])
theorem vV{σ:aA}(a b:Int):aBa σ .NotEq (.int a) (.int b)=some (!decide (a=b)):=by
 show(aBa σ .Eq (.int a) (.int b)).map _=_
 refine rwL (cS _ _) ?_
 rfl
abbrev aO9:List Str:=["sort","text","value","row","column"]
inductive TaR(name:Str)(Q:V→aA→Prop)(x:V)(σ1:aA):Prop|mk (sort text:Str) (val:V) (row col:Int) (u:V) (h1:x=iR sort text val row col) (h2:iY aO9 [.str sort,.str text,val,.int row,.int col] name=some u) (h3:mG u=true) (q:Q u σ1)
theorem aLC(C:Cx G):aCb 195 223 false:=⟨_,C.k,by kernel_rfl⟩
theorem aNO(C:Cx G):aCb 195 195 true:=⟨_,C.k,by kernel_rfl⟩
theorem eN(C:Cx G){e:Expr}{name:Str}{pos:Pos}{Q:V→aA→Prop}
  (h:cP X σ loc md (TaR name Q) e)
  (hn:(["sort","text","value","row","column"]:List Str).contains name=true)
  (he:∀env,eval (.Attribute e name pos) env=(do
   let o ←eval e env
   standAt pos.atName
   let r ←holding [o] (getAttr o name true)
   letTemporaryGo e o r
   pure r):=by intro _;rfl):cP X σ loc md Q (.Attribute e name pos):=
 lU (h.mono (fun x σ1 ⟨sort,text,val,row,col,u,hx,hg,hp,hq⟩=>⟨195,_,_,_,u,by rw[hx];rfl,by rw[C.cls];rfl,hn,hg,hp,hq⟩) fun Z z=>z) he
noncomputable def nN(why sort:Str):Str:=if why="unexpected token"∧sort="reserved" then "unknown operator" else why
inductive BTR(X:bF→Prop)(σ:aA)(vs:List V)(σ1:aA):Prop|mk (why:Str) (row col:Int) (h:vs=[.str why,.int row,.int col]) (hs:σ1=σ) (hx:X (rB row col why))
inductive LOR(X:bF→Prop)(σ:aA)(vs:List V)(σ1:aA):Prop|mk (why:Str) (row:Int) (h:vs=[.str why,.int row]) (hs:σ1=σ) (hx:X (xLO why row))
theorem jW(C:Cx G){p1 p2 p3:Pos}{es:List Expr}{Q:gA→aX→aA→Prop}(hd:md.hd=none)(hn:6≤md.n)(hs:md.sc.lookup ("BadText":Str)=some .globalImplicit)
  (h:nW md es loc σ (BTR X σ) X) (he:es.all fF=true:=by rfl):
  sY md (.Raise (some (.Call (.Name "BadText" p1) es [] p2)) none p3) loc σ Q X:=by
 refine aCf hd (aY (n:=6) (zJ C) (aBA (wR C)) hs hn hd ?_ rfl he)
 intro pos A env m s S
 refine wpAny_mono (h pos A env m s S) (fun vs s1 q=>?_) fun Z Z z=>z
 obtain⟨us,σ1,⟨why,row,col,rfl,rfl,hx⟩,h2,h3,h4⟩:=q
 exact⟨_,σ1,aPo C fun ea dx σ' k1 k2 k3 k4=>⟨ea,157,_,_,dx,_,_,rfl,k1,k2,k3,k4,rfl,wR C,hx⟩,h2,h3,h4⟩
theorem aF1(C:Cx G){p1 p2 p3:Pos}{es:List Expr}{Q:gA→aX→aA→Prop}(hd:md.hd=none)(hn:6≤md.n)(hs:md.sc.lookup ("LeftOut":Str)=some .globalImplicit)
  (h:nW md es loc σ (LOR X σ) X) (he:es.all fF=true:=by rfl):
  sY md (.Raise (some (.Call (.Name "LeftOut" p1) es [] p2)) none p3) loc σ Q X:=by
 refine aCf hd (aY (n:=6) (aE4 C) (aBA (aF5 C)) hs hn hd ?_ rfl he)
 intro pos A env m s S
 refine wpAny_mono (h pos A env m s S) (fun vs s1 q=>?_) fun Z Z z=>z
 obtain⟨us,σ1,⟨why,row,rfl,rfl,hx⟩,h2,h3,h4⟩:=q
 exact⟨_,σ1,aOV C fun ea dx σ' k1 k2 k3 k4=>⟨ea,176,_,_,dx,_,_,rfl,k1,k2,k3,k4,rfl,aF5 C,hx⟩,h2,h3,h4⟩
theorem lG(C:Cx G){why sort text:Str}{val:V}{row col:Int}{Q:V→aA→Prop}(hx:X (rB row col (nN why sort))):aW Q σ X 7 (.ref 292) [.str why,iR sort text val row col]:=by
 refine aZ (n:=6) (gV (ps:=["why","item"]) C rfl rfl rfl rfl (tA fun Z Z Z=>.of_eq rfl)) (zD T0) (zD T0) rfl fun L hL=>?_
 have fin1:why="unexpected token"∧sort="reserved"→X (rB row col "unknown operator"):=fun h=>by rw[show nN why sort="unknown operator" from if_pos h] at hx;exact hx
 have fin2:¬(why="unexpected token"∧sort="reserved")→X (rB row col why):=fun h=>by rw[show nN why sort=why from if_neg h] at hx;exact hx
 refine aG (gQ (bU (aV (aB rfl (iQ ⟨_,bG _ _,?_⟩ (dI (by kernel_rfl)))))))
 by_cases h1:why="unexpected token"
 ·refine xJ (decide_eq_true ‹_›) ?_
  refine bU (mL (bT (cY (fN C) rfl (aO _) rfl rfl (aC (aB rfl (aC (bA (rY C) rfl (aE ?_))))))))
  refine iN C.ok rfl (aLC C) ⟨_,rfl,?_⟩
  refine xJ rfl ?_
  refine bU (aV (eN C (aB rfl ⟨_,_,_,_,_,_,rfl,rfl,rfl,iQ ⟨_,bG _ _,?_⟩ (dI (by kernel_rfl))⟩) rfl))
  by_cases h2:sort="reserved"
  ·refine xJ (decide_eq_true ‹_›) ?_
   refine cK ?_
   refine xJ rfl ?_
   exact aG (jW C rfl (bO _) rfl (aC (iQ (aC (eN C (aB rfl ⟨_,_,_,_,_,_,rfl,rfl,rfl,aC (eN C (aB rfl ⟨_,_,_,_,_,_,rfl,rfl,rfl,aE ⟨_,_,_,rfl,rfl,fin1 ⟨h1,h2⟩⟩⟩) rfl)⟩) rfl)) (dI (by kernel_rfl)))))
  ·refine uV (by simpa using h2) (uV (zD T0) ?_)
   exact aH (aG (jW C rfl (bO _) rfl (aC (aB rfl (aC (eN C (aB rfl ⟨_,_,_,_,_,_,rfl,rfl,rfl,aC (eN C (aB rfl ⟨_,_,_,_,_,_,rfl,rfl,rfl,aE ⟨_,_,_,rfl,rfl,fin2 (fun h=>h2 h.2)⟩⟩) rfl)⟩) rfl))))))
 ·refine uV (by simpa using h1) (uV (zD T0) ?_)
  exact aH (aG (jW C rfl (bO _) rfl (aC (aB rfl (aC (eN C (aB rfl ⟨_,_,_,_,_,_,rfl,rfl,rfl,aC (eN C (aB rfl ⟨_,_,_,_,_,_,rfl,rfl,rfl,aE ⟨_,_,_,rfl,rfl,fin2 (fun h=>h1 h.1)⟩⟩) rfl)⟩) rfl))))))
theorem gI{α:Type}{l:List α}{i:Nat}{x:α}(h:l[i]? =some x):aEV l (i:Int)=some x:=by
 have hi:=(gB h).1
 have e:seqIndex? (i:Int) l.length=some i:=by
  unfold seqIndex?
  rw[if_neg (Int.not_lt.mpr (Int.natCast_nonneg i))]
  exact if_pos (by rw[decide_eq_true (Int.natCast_nonneg i),decide_eq_true (Int.ofNat_lt.mpr hi)];rfl)
 exact(congrArg (fun o:Option Nat=>o.bind fun j=>l[j]?) e).trans h
theorem aHv(m:Nat):seqIndex? (-1) (m+1)=some m:=by
 have e:(-1:Int)+((m+1:Nat):Int)=(m:Int):=by exact rwL (Int.add_comm _ _) (Int.add_neg_cancel_right (m:Int) 1)
 show(if(decide (0≤(-1:Int)+((m+1:Nat):Int))&&decide ((-1:Int)+((m+1:Nat):Int)<((m+1:Nat):Int)))=true then some ((-1:Int)+((m+1:Nat):Int)).toNat else none)=some m
 refine rwL e ?_
 refine rwL (if_pos (by rw[decide_eq_true (Int.natCast_nonneg m),decide_eq_true (Int.ofNat_lt.mpr (Nat.lt_succ_self m))];rfl)) ?_
 rfl
theorem yT{α:Type}{l:List α}{x:α}(h:l.getLast? =some x):aEV l (-1)=some x:=by
 obtain⟨l0,rfl⟩:=List.getLast?_eq_some_iff.mp h
 have e:seqIndex? (-1) (l0++[x]).length=some l0.length:=by exact rwL cL (aHv _)
 exact(congrArg (fun o:Option Nat=>o.bind fun j=>(l0++[x])[j]?) e).trans (show(l0++[x])[l0.length]? =some x from List.getElem?_concat_length)
theorem vS{i:Nat}(h:i<2^63): -(2^63)≤(i:Int)∧(i:Int)<2^63:=⟨Int.le_trans (by exact zD T0) (Int.natCast_nonneg i),Int.ofNat_lt.mpr h⟩
noncomputable def hiB(sort:Str):Bool:=(["int","id"]:List Str).any (·==sort)
theorem sD{items:V}{l:List V}{i:Nat}{x:V}{Q:V→aA→Prop}(hl:lk σ items=.lst l)(hz:l.length≤2^20)(h:l[i]? =some x)(hp:Q x σ):aJa items Q (.int (i:Int)) σ:=
 ⟨x,.lst _ l _ x hl (vS (Nat.lt_of_lt_of_le (gB h).1 (aM hz (aD rfl)))) (gI h),hp⟩
theorem mJ(C:Cx G){x y:Str}{p1 p2 p3 p4 p5:Pos}{i:Nat}{v:V}{l:List V}{Q:Bool→aA→Prop}(hd:md.hd=none)(hx:loc.lookup x=some (.val (.int i)))(hy:loc.lookup y=some (.val v))(hl:lk σ v=.lst l)(hz:l.length≤2^20)
  (hm:md.sc.lookup ("len":Str)=some .globalImplicit) (hq:Q (decide (i<l.length)) σ) (d1:(x==("__debug__":Str))=false:=by exact zD T0) (d2:(y==("__debug__":Str))=false:=by exact zD T0):
  qI md (.Compare (.Name x p1) [.Lt] [.Call (.Name "len" p2) [.Name y p3] [] p4] p5) loc σ Q X:=by
 refine aV (aB hx (cY (hY C) rfl (aO _) hm hd (aC (aB hy (aE (fK (n:=l.length) (by unfold oM;rw[hl]) (aM ‹_› (aD rfl)) ⟨decide (i<l.length),?_,hq⟩)) d2)) (by decide)) d1)
 show some (decide ((i:Int)<(l.length:Int)))=_
 simp
theorem aAc(C:Cx G){x y:Str}{p1 p2 p3 p4 p5:Pos}{i:Nat}{v:V}{l:List V}{Q:V→aA→Prop}(hd:md.hd=none)(hx:loc.lookup x=some (.val (.int i)))(hy:loc.lookup y=some (.val v))(hl:lk σ v=.lst l)(hz:l.length≤2^20)
  (hm:md.sc.lookup ("len":Str)=some .globalImplicit) (hq:Q (.bool (decide (i<l.length))) σ) (d1:(x==("__debug__":Str))=false:=by exact zD T0) (d2:(y==("__debug__":Str))=false:=by exact zD T0):
  cP X σ loc md Q (.Compare (.Name x p1) [.Lt] [.Call (.Name "len" p2) [.Name y p3] [] p4] p5):=by
 refine kI (aB hx (cY (hY C) rfl (aO _) hm hd (aC (aB hy (aE (fK (n:=l.length) (by unfold oM;rw[hl]) (aM ‹_› (aD rfl)) ⟨decide (i<l.length),?_,hq⟩)) d2)) (by decide)) d1)
 show some (decide ((i:Int)<(l.length:Int)))=_
 simp
theorem aE7(C:Cx G){items:V}{l:List V}{i:Nat}{Q:V→aA→Prop}(hl:items=.lst l)(hz:l.length≤2^20)(h:l.length≤i)(hq:Q (.bool false) σ):aW Q σ X 1 (.ref 325) [items,.int i]:=by
 subst hl
 refine aZ (n:=0) (gV (ps:=["items","at"]) C rfl rfl rfl rfl (tA fun Z Z Z=>.of_eq rfl)) (zD T0) (zD T0) rfl fun L hL=>?_
 refine aG (eF (qG (aAc C rfl rfl rfl rfl hz rfl ⟨_,rfl,?_⟩)))
 refine uV (by simp;assumption) ?_
 show Q _ (eZ L (upd L .mark σ))
 refine rwL (aU hL) ?_
 exact hq
theorem aDk(C:Cx G){e:Expr}{p1 p2 p3:Pos}{sort text:Str}{val:V}{row col:Int}{Q:V→aA→Prop}(hd:md.hd=none)(h:cP X σ loc md (aLl (iR sort text val row col) false Q) e)
  (h1:md.sc.lookup ("isinstance":Str)=some .globalImplicit) (h2:md.sc.lookup ("Branch":Str)=some .globalImplicit) (hn:fF e=true:=by rfl):cP X σ loc md Q (.Call (.Name "isinstance" p1) [e,.Name "Branch" p2] [] p3):=by
 refine cY (fN C) rfl (aO _) h1 hd (aC (h.mono (fun v σ1 ⟨hv,hq⟩=>aC (bA (rY C) h2 (aE ?_))) fun Z z=>z) hn) rfl (by rw[List.all_cons,hn];rfl)
 subst hv
 exact iN C.ok rfl (aLC C) hq
theorem aFc(C:Cx G){e:Expr}{p1 p2 p3:Pos}{sort text:Str}{val:V}{row col:Int}{Q:V→aA→Prop}(hd:md.hd=none)(h:cP X σ loc md (aLl (iR sort text val row col) true Q) e)
  (h1:md.sc.lookup ("isinstance":Str)=some .globalImplicit) (h2:md.sc.lookup ("Token":Str)=some .globalImplicit) (hn:fF e=true:=by rfl):cP X σ loc md Q (.Call (.Name "isinstance" p1) [e,.Name "Token" p2] [] p3):=by
 refine cY (fN C) rfl (aO _) h1 hd (aC (h.mono (fun v σ1 ⟨hv,hq⟩=>aC (bA (pU C) h2 (aE ?_))) fun Z z=>z) hn) rfl (by rw[List.all_cons,hn];rfl)
 subst hv
 exact iN C.ok rfl (aNO C) hq
theorem aDE{x y:Str}{p1 p2 p3:Pos}{i:Nat}{v:V}{l:List V}{t:V}{Q:V→aA→Prop}(hx:loc.lookup x=some (.val v))(hy:loc.lookup y=some (.val (.int i)))(hl:lk σ v=.lst l)(hz:l.length≤2^20)(ht:l[i]? =some t)(hq:Q t σ)
  (d1:(x==("__debug__":Str))=false:=by exact zD T0) (d2:(y==("__debug__":Str))=false:=by exact zD T0):cP X σ loc md Q (.Subscript (.Name x p1) (.Name y p2) p3):=
 bR (aB hx (aB hy (sD hl hz ht hq) d2) d1)
theorem aFf(C:Cx G){l:List V}{i:Nat}{sort text:Str}{val:V}{row col:Int}{Q:V→aA→Prop}(hz:l.length≤2^20)(h:l[i]? =some (iR sort text val row col))(hq:Q (.bool (hiB sort)) σ):aW Q σ X 1 (.ref 325) [.lst l,.int i]:=by
 have hi:=(gB h).1
 refine aZ (n:=0) (gV (ps:=["items","at"]) C rfl rfl rfl rfl (tA fun Z Z Z=>.of_eq rfl)) (zD T0) (zD T0) rfl fun L hL=>?_
 refine aG (eF (qG (aAc C rfl rfl rfl rfl hz rfl ⟨_,rfl,?_⟩)))
 refine xJ (decide_eq_true ‹_›) ?_
 refine qG (aG4 (aDk C rfl (aDE rfl rfl rfl hz h ⟨rfl,_,rfl,_,rfl,?_⟩) rfl rfl))
 refine xJ rfl ?_
 refine kF (kI (eN C (aDE rfl rfl rfl hz h ⟨_,_,_,_,_,_,rfl,rfl,rfl,?_⟩) rfl))
 refine aT (aC (iQ (aC (iQ (aE ⟨aD rfl,_,rfl,?_⟩) (dI (by kernel_rfl)))) (dI (by kernel_rfl))))
 show Q _ (eZ L (upd L .mark σ))
 refine rwL (aU hL) ?_
 exact hq
noncomputable def aCy:List Str:=["type","param","result","local","then","else","end","item","offset","mut","func","extern","table","memory","global","elem","data","\x69mport","export","start","module","declare","i32","i64","funcref","externref"]
noncomputable def owB(t:Str):Bool:=aCy.any (·==t)||(decide (Txt.slice t none (some 7)="offset=")||decide (Txt.slice t none (some 6)="align="))
noncomputable def aGi:List (Int×Str×List Str):=[(69,"i32.",["eqz","eq","ne","lt_s","lt_u","gt_s","gt_u","le_s","le_u","ge_s","ge_u"]),(80,"i64.",["eqz","eq","ne","lt_s","lt_u","gt_s","gt_u","le_s","le_u","ge_s","ge_u"]),
 (103,"i32.",["clz","ctz","popcnt","add","sub","mul","div_s","div_u","rem_s","rem_u","and","or","xor","shl","shr_s","shr_u","rotl","rotr"]),(121,"i64.",["clz","ctz","popcnt","add","sub","mul","div_s","div_u","rem_s","rem_u","and","or","xor","shl","shr_s","shr_u","rotl","rotr"])]
noncomputable def aKO:V→Str
 |.str s=>s
 |_=>""
noncomputable def jR:List (Int×Str):=match uP with
 |.idc ks vs=>ks.zip (vs.map aKO)
 |_=>[]
noncomputable def uA(t:Str):List (Int×Str×List Str)→Option Int
 |[]=>none
 |(f,p,ws)::r=>if Txt.slice t none (some 4)=p∧ws.any (·==Txt.slice t (some 4) none)=true then(mM ws (Txt.slice t (some 4) none)).map fun j=>f+(j:Int) else uA t r
noncomputable def pA(t:Str):List (Int×Str)→V
 |(k,v)::r=>if v=t∧k≠28 then .int k else pA t r
 |_=>.none
noncomputable def kD(t:Str):V:=match uA t aGi with
 |some i=>.int i
 |none=>pA t jR
theorem aA2:uP=.idc (jR.map (·.1)) (jR.map fun p=>V.str p.2):=by rfl
theorem aG3:(jR.all fun p=>match rD (jR.map (·.1)) (jR.map fun p=>V.str p.2) p.1 with
 |some (.str s)=>s==p.2
 |_=>false)=true:=by kernel_rfl
theorem aHq:(jR.map (·.1)).Nodup:=by exact zD T0
set_option tactic.hygienic true in
theorem aER{p:Int×Str}(h:p∈jR):rD (jR.map (·.1)) (jR.map fun p=>V.str p.2) p.1=some (.str p.2):=by
 have:=eT aG3 p h
 split at this
 ·rename_i s e
  rw[e,cJ this]
 ·exact iX this
theorem aIO(C:Cx G){t:Str}{Q:V→aA→Prop}(hq:Q (.bool (owB t)) σ):aW Q σ X 1 (.ref 306) [.str t]:=by
 refine aZ (n:=0) (gV (ps:=["text"]) C rfl rfl rfl rfl (bt1 fun Z Z=>.of_eq rfl)) (zD T0) (zD T0) rfl fun L hL=>?_
 have fin:∀v,v=V.bool (owB t)→Q v (eZ L (upd L .mark σ)):=fun v e=>by exact rwL (aU hL) (rwL e hq)
 refine aG (eF (zW (kI (aB rfl (bA (xT C) rfl ⟨aCy.any (·==t),rfl,_,rfl,?_⟩)))))
 induction h1:aCy.any (·==t) with
 |true=>exact xJ rfl (fin _ (by unfold owB;rw[h1];rfl))
 |false=>
  refine uV (zD T0) ?_
  refine zW (kI (gY (aB rfl (aF ⟨_,rfl,.inr ⟨_,rfl,iQ ⟨_,bG _ _,_,rfl,?_⟩ (dI (by kernel_rfl))⟩⟩))))
  induction h2:decide (Txt.slice t none (some 7)="offset=") with
  |true=>exact xJ rfl (fin _ (by unfold owB;rw[h1,h2];rfl))
  |false=>
   refine uV (zD T0) ?_
   refine kF (kI (gY (aB rfl (aF ⟨_,rfl,.inr ⟨_,rfl,iQ ⟨_,bG _ _,?_⟩ (dI (by kernel_rfl))⟩⟩))))
   exact fin _ (by unfold owB;rw[h1,h2];rfl)
theorem aJv:aC3=.tup (aGi.map fun r=>.tup [.int r.1,.str r.2.1,.tup (r.2.2.map V.str)]):=by rfl
theorem kP:∀(l:List Str),fR (l.map V.str)=some l
 |[]=>rfl
 |x::l=>by rw[List.map_cons];unfold fR;rw[kP l];rfl
theorem yR:∀{l:List Str} {x:Str},l.any (·==x)=true→∃j,mM l x=some j
 |[],x,h=>by simp at h
 |y::l,x,h=>by
  unfold mM
  by_cases hy:y=x
  ·exact⟨0,by simp[hy]⟩
  ·have:l.any (·==x)=true:=by
    rw[List.any_cons] at h
    simpa [hy] using h
   obtain⟨j,hj⟩:=yR this
   exact⟨j+1,by simp[hy,hj]⟩
theorem iI{α:Type}{tgt:Expr}{body:List Stmt}{Q:gA→aX→aA→Prop}(f:α→V)(J:List α→aX→aA→Prop)
  (step:∀a as loc σ,J (a::as) loc σ→∃loc',tZ tgt (f a) loc=some loc'∧jC X σ loc' md (LpQ (J as) Q) body)
  (done:∀loc σ,J [] loc σ→Q .next loc σ):∀as loc σ,J as loc σ→aCH md tgt body Q X (as.map f) loc σ
 |[],loc,σ,h=>done loc σ h
 |a::as,loc,σ,h=>by
  obtain⟨loc',h1,h2⟩:=step a as loc σ h
  refine⟨loc',h1,h2.mono fun fl l s q=>?_⟩
  induction fl with
  |next=>exact iI f J step done as l s q
  |cont=>exact iI f J step done as l s q
  |brk=>exact q
  |ret r=>exact q
theorem aDl(C:Cx G){t:Str}{Q:V→aA→Prop}(hq:Q (kD t) σ):aW Q σ X 1 (.ref 275) [.str t]:=by
 refine aZ (n:=0) (gV (ps:=["name"]) C rfl rfl rfl rfl (bt1 fun Z Z=>.of_eq rfl)) (zD T0) (zD T0) rfl fun L hL=>?_
 have fin:∀v,v=kD t→Q v (eZ L (upd L .mark σ)):=fun v e=>by exact rwL (aU hL) (rwL e hq)
 refine aG (kH rfl rfl (fE (bA (aLj C) rfl ⟨_,rwL aJv (.tup _),?_⟩)))
 refine iI (f:=fun r:Int×Str×List Str=>V.tup [.int r.1,.str r.2.1,.tup (r.2.2.map V.str)]) (fun rs loc σ'=>σ'=upd L .mark σ∧loc.lookup ("name":Str)=some (.val (.str t))∧(∀r∈rs,r.2.2.length≤100)∧
  kD t=(match uA t rs with|some i=>.int i|none=>pA t jR)) ?_ ?_ aGi _ _ ⟨rfl,rfl,zD T0,rfl⟩
 ·rintro⟨f,p,ws⟩ rs loc σ' ⟨rfl,hn,hz,hc⟩
  refine⟨_,rfl,?_⟩
  have hzz:ws.length≤100:=hz _ (eS ..)
  refine aG (gQ (bU (aV (gY (aB hn (aF ⟨_,rfl,.inr ⟨_,rfl,aB rfl ⟨_,bG _ _,?_⟩⟩⟩))))))
  by_cases h1:Txt.slice t none (some 4)=p
  ·refine xJ (decide_eq_true ‹_›) ?_
   refine bU (aV (gY (aB hn (aF ⟨_,rfl,.inr ⟨_,rfl,aB rfl ⟨ws.any (·==Txt.slice t (some 4) none),?_,?_⟩⟩⟩))))
   ·show(fR (ws.map V.str)).map _=_
    rw[kP];rfl
   induction h2:ws.any (·==Txt.slice t (some 4) none) with
   |true=>
    refine xJ rfl ?_
    refine cK ?_
    refine xJ rfl ?_
    obtain⟨j,hj⟩:=yR h2
    have e:kD t=.int (f+(j:Int)):=by
     rw[hc,show uA t ((f,p,ws)::rs)=_ from if_pos ⟨h1,h2⟩,hj];rfl
    refine aG (eF (aP (aB rfl (cI rfl (aB rfl ⟨_,_,0,.blt "tuple" "tuple.index" rfl F.plainAttrs_tuple F.slot_tuple_index (by kernel_rfl),aO _,cM _,aC (gY (aB hn (aF ⟨_,rfl,.inr ⟨_,rfl,aE ?_⟩⟩)))⟩)))))
    exact aJS (kP ws) (aM ‹_› (aD rfl)) hj ⟨_,.add _ _,fin _ e.symm⟩
   |false=>
    refine uV (zD T0) (uV (zD T0) ?_)
    refine aH (aH ⟨rfl,hn,fun r hr=>hz r (fW _ hr),?_⟩)
    rw[hc,show uA t ((f,p,ws)::rs)=uA t rs from if_neg (fun q=>by rw[q.2] at h2;exact iX (Eq.symm h2))]
  ·refine uV (by simpa using h1) (uV (zD T0) ?_)
   refine aH (aH ⟨rfl,hn,fun r hr=>hz r (fW _ hr),?_⟩)
   rw[hc,show uA t ((f,p,ws)::rs)=uA t rs from if_neg (fun q=>h1 q.1)]
 ·rintro loc σ' ⟨rfl,hn,_,hc⟩
  refine aG (kH rfl rfl (fE (bA (aEk C) rfl ⟨_,rwL aA2 (.idc _ _ aHq (by simp)),?_⟩)))
  rw[List.map_map]
  refine iI (f:=fun p:Int×Str=>V.int p.1) (fun rs loc σ'=>σ'=upd L .mark σ∧loc.lookup ("name":Str)=some (.val (.str t))∧(∀r∈rs,r∈jR)∧kD t=pA t rs) ?_ ?_ jR _ _ ⟨rfl,hn,fun Z h=>h,hc⟩
  ·rintro⟨k,n⟩ rs loc σ' ⟨rfl,hn,hz,hc⟩
   refine⟨_,rfl,?_⟩
   refine aG (gQ (bU (aV (bR (bA (aEk C) rfl (aB rfl ⟨.str n,rwL aA2 (.idc _ _ _ _ (aER (hz _ (eS ..)))),aB hn ⟨_,bG _ _,?_⟩⟩))))))
   have next:¬(n=t∧k≠28)→kD t=pA t rs:=fun h=>by
    rw[hc]
    show(if n=t∧k≠28 then V.int k else pA t rs)=_
    rw[if_neg h]
   by_cases h1:n=t
   ·refine xJ (decide_eq_true ‹_›) ?_
    refine bU (aV (aB rfl (bA (oQ C) rfl ⟨_,vV _ _,?_⟩)))
    by_cases h2:k=28
    ·refine uV (by simpa using h2) (uV (zD T0) ?_)
     exact aH (aH ⟨rfl,hn,fun r hr=>hz r (fW _ hr),next fun q=>q.2 h2⟩)
    ·refine xJ (ndT ‹_›) ?_
     refine cK ?_
     refine xJ rfl ?_
     refine aG (eF (aB rfl (fin _ ?_)))
     rw[hc]
     show _=(if n=t∧k≠28 then V.int k else pA t rs)
     rw[if_pos ⟨h1,h2⟩]
   ·refine uV (by simpa using h1) (uV (zD T0) ?_)
    exact aH (aH ⟨rfl,hn,fun r hr=>hz r (fW _ hr),next fun q=>h1 q.1⟩)
  ·rintro loc σ' ⟨rfl,hn,_,hc⟩
   exact aG (eF (bQ (fin _ hc.symm)))
inductive aPi{α:Type}(f:α→V)(g:α→aA)(P:α→Prop)(v:V)(σ':aA):Prop|mk (t:α) (e:v=f t) (h:P t) (e2:σ'=g t)
theorem aDp{md:Md}{loc:aX}{σ:aA}{X:bF→Prop}{α:Type}(f:α→V)(g:α→aA)(P:α→Prop){e:Expr}{Q:V→aA→Prop}(h:cP X σ loc md (aPi f g P) e)(k:∀t,P t→Q (f t) (g t)):cP X σ loc md Q e:=
 h.mono (fun v σ' q=>by obtain⟨t,e,ht,e2⟩:=q;subst e e2;exact k t ht) fun Z z=>z
theorem yV{md:Md}{loc:aX}{σ τ:aA}{X:bF→Prop}(c:V){e:Expr}{Q:V→aA→Prop}(h:cP X σ loc md (fun v σ'=>v=c∧σ'=τ) e)(k:Q c τ):cP X σ loc md Q e:=
 h.mono (fun v σ' q=>by obtain⟨e,e2⟩:=q;subst e e2;exact k) fun Z z=>z
theorem bI{c:Bool}{P Q:Prop}(h:c=true)(p:P):if c=true then P else Q:=by exact rwL (if_pos h) p
theorem bB{c:Bool}{P Q:Prop}(h:c=false)(q:Q):if c=true then P else Q:=by exact rwL (if_neg (by rw[h];decide)) q
theorem dN{c:Bool}{P Q:Prop}(p:c=true→P)(q:c=false→Q):if c=true then P else Q:=by
 cases h:c
 ·exact bB rfl (q h)
 ·exact bI rfl (p h)
noncomputable def kJ(t x:Str):Bool:= !(Builtin.Str.occurrences t x 0 t.length 1).isEmpty
noncomputable def gO(t:Str):Bool:=match t.cps.toList[0]? with
 |some c=>kJ "+-" ⟨#[c]⟩
 |none=>false
noncomputable def tX:List (Int×Int×V×V):=match pP with
 |.tup l=>l.map fun r=>match r with
  |.tup [.int a,.int b,c,d]=>(a,b,c,d)
  |_=>(0,0,.none,.none)
 |_=>[]
noncomputable def xF(code:Int):List (Int×Int×V×V)→V
 |[]=>.none
 |(a,b,c,d)::r=>if a≤code∧code≤b then .tup [c,d] else xF code r
theorem aJz:pP=.tup (tX.map fun r=>.tup [.int r.1,.int r.2.1,r.2.2.1,r.2.2.2]):=by rfl
noncomputable def getD(v:V)(i:Int):Option V:=match v with
 |.idc ks vs=>rD ks vs i
 |_=>none
noncomputable def lX(code:Int):V:=match getD rA code with
 |some v=>v
 |none=>if(getD nL code).isSome then .str "memarg" else if(getD lE code).isSome then .str "memarg" else if jB (xF code tX) then .none else .str "none"
noncomputable def rN(t:Str):Bool:=(["f32.","f64.","v128"]:List Str).any (·==Txt.slice t none (some 4))||(kJ t "_f32"||(kJ t "_f64"||((["i8x16.","i16x8.","i32x4.","i64x2.","f32x4.","f64x2."]:List Str).any (·==Txt.slice t none (some 6))||kJ t "trunc_sat")))
theorem aN{x:Str}{k:Nat}{pos:Pos}{Q:V→aA→Prop}(hf:pV x=true)(h:Q (.str x) σ):cP X σ loc md Q (.Constant (.str x) k pos):=iQ h (dI hf)
theorem dG(C:Cx G){e:Expr}{name:Str}{pos:Pos}{Q:V→aA→Prop}(hn:(["sort","text","value","row","column"]:List Str).contains name=true)
  (h:cP X σ loc md (TaR name Q) e)
  (he:∀env,eval (.Attribute e name pos) env=(do
   let o ←eval e env
   standAt pos.atName
   let r ←holding [o] (getAttr o name true)
   letTemporaryGo e o r
   pure r):=by intro _;rfl):cP X σ loc md Q (.Attribute e name pos):=eN C h hn he
noncomputable def aEp(e:Expr)(c:Const):Prop:=∃k p,e=.Constant c k p
noncomputable def aMa(e:Expr):Option Const:=qA (p:=aEp e) (if h:e.ctorIdx=19 then Expr.Constant.elim e h fun c k p=>some ⟨c,k,p,rfl⟩ else none)
noncomputable def aGv(c:Const)(s:Str):Prop:=c=.str s
noncomputable def aMR(c:Const):Option Str:=qA (p:=aGv c) (if h:c.ctorIdx=5 then Const.str.elim c h fun s=>some ⟨s,rfl⟩ else none)
noncomputable def aF0:List Expr→Option (List Str)
 |[]=>some []
 |e::es=>((aMa e).bind aMR).bind fun s=>(aF0 es).map (s::·)
theorem aBN{es:List Expr}:∀{ss:List Str} {σ:aA} {Q:List V→aA→Prop},aF0 es=some ss→ss.all pV=true→Q (ss.map V.str) σ→nW md es loc σ Q X:=by
 induction es with
 |nil=>intro ss σ Q h _ hq;obtain rfl:=bE h;exact aE hq
 |cons e es ih=>
  intro ss σ Q h hf hq
  obtain⟨s,h1,h2⟩:=Option.bind_eq_some_iff.mp h
  obtain⟨c,h3,h4⟩:=Option.bind_eq_some_iff.mp h1
  obtain⟨r,hr,rfl⟩:=iJ h2
  obtain⟨k,p,rfl⟩:=eE (p:=aEp e) h3
  obtain rfl:c=.str s:=eE (p:=aGv c) h4
  rw[List.all_cons,Bool.and_eq_true] at hf
  exact aC (aN hf.1 (ih hr hf.2 hq)) rfl
theorem nK{es:List Expr}{k:Nat}{pos:Pos}{ss:List Str}{Q:V→aA→Prop}(h1:aF0 es=some ss)(h2:ss.all pV=true)(h3:ss.length≤1000)(h:Q (.tup (ss.map V.str)) σ):cP X σ loc md Q (.Tuple es k pos):=
 aT (aBN h1 h2 ⟨by simpa using h3,h⟩)
theorem xH(C:Cx G){sort text s:Str}{val:V}{row col:Int}{Q:V→aA→Prop}(hq:Q (.bool (decide (sort=s))) σ):aW Q σ X 1 (.ref 235) [iR sort text val row col,.str s]:=by
 refine(aBU (n:=0) (args':=[iR sort text val row col,.str s,.none]) (aOZ (ps:=["item","sort","text"]) C.k rfl rfl rfl (by
   intro s vals h hs
   obtain⟨a,b,c,e⟩:=aK9 h;subst e
   exact BindsTo.of_defaults rfl (hs _ _ (C.k _ _ rfl)) rfl rfl rfl)) (by exact zD T0) (by exact zD T0) rfl (fun s vals hs r=>by
   obtain⟨v,w,rfl,r1,r2⟩:=iK r
   exact⟨[v,w,.none],BindsTo.of_defaults rfl (hs _ _ (C.k _ _ rfl)) rfl rfl rfl,.cons r1 (.cons r2 (.cons rfl .nil))⟩) fun L hL=>?_).w
 have fin:∀v,v=V.bool (decide (sort=s))→Q v (eZ L (upd L .mark σ)):=fun v e=>by exact rwL (aU hL) (rwL e hq)
 refine aG (eF (qG (aFc C rfl (aB rfl ⟨rfl,_,rfl,?_⟩) rfl rfl)))
 refine xJ rfl ?_
 refine qG (kI (eN C (aB rfl ⟨_,_,_,_,_,_,rfl,rfl,rfl,aB rfl ⟨_,bG _ _,_,rfl,?_⟩⟩) rfl))
 by_cases h:sort=s
 ·refine xJ (decide_eq_true ‹_›) ?_
  refine kF (zW (kI (aB rfl (bQ ⟨true,rfl,_,rfl,?_⟩))))
  refine xJ rfl ?_
  exact fin _ (by simp[h])
 ·refine uV (by simpa using h) ?_
  exact fin _ (by simp[h])
inductive aOz(Q:V→aA→Prop)(v:V)(σ1:aA):Prop|mk (t:Str) (c:Nat) (h1:v=.str t) (h2:t.cps.toList[0]? =some c) (q:Q (.str ⟨#[c]⟩) σ1)
theorem sM{e:Expr}{p1 p2:Pos}{k:Nat}{Q:V→aA→Prop}(h:cP X σ loc md (aOz Q) e):cP X σ loc md Q (.Subscript e (.Constant (.int 0) k p1) p2):=
 bR (h.mono (fun v σ1 ⟨t,c,hv,hc,hq⟩=>aF ⟨_,rwL hv (.str t 0 c (by exact zD T0) (gI (i:=0) hc)),hq⟩) fun Z z=>z)
theorem aKu(C:Cx G){text:Str}{c:Nat}{n row col:Int}{Q:V→aA→Prop}(ht:text.cps.toList[0]? =some c)
  (h1:gO text=true→X (rB row col "unexpected token")) (h2:gO text=false→2^32≤n→X (rB row col "i32 constant out of range")) (hq:gO text=false→n<2^32→Q (.int n) σ):
  aW Q σ X 7 (.ref 256) [iR "int" text (.int n) row col]:=by
 refine aZ (n:=6) (gV (ps:=["token"]) C rfl rfl rfl rfl (bt1 fun Z Z=>.of_eq rfl)) (zD T0) (zD T0) rfl fun L hL=>?_
 refine aG (gQ (fJ (mL (bT (aY (n:=1) (vO C) (aS C rfl) rfl (aD rfl) rfl (aC (aB rfl (aC (iQ (aE (xH C ⟨_,rfl,?_⟩)) (dI (by kernel_rfl)))))))))))
 refine uV (zD T0) ?_
 have hs:gO text=kJ "+-" ⟨#[c]⟩:=by unfold gO;rw[ht]
 refine fJ (aV (sM (eN C (aB rfl ⟨_,_,_,_,_,_,rfl,rfl,rfl,_,c,rfl,ht,iQ ⟨gO text,congrArg some hs.symm,?_⟩ (dI (by kernel_rfl))⟩) rfl)))
 induction hb:gO text with
 |true=>
  refine xJ rfl (xJ rfl ?_)
  exact aG (jW C rfl (bO _) rfl (aC (iQ (aC (eN C (aB rfl ⟨_,_,_,_,_,_,rfl,rfl,rfl,aC (eN C (aB rfl ⟨_,_,_,_,_,_,rfl,rfl,rfl,aE ⟨_,_,_,rfl,rfl,h1 hb⟩⟩) rfl)⟩) rfl)) (dI (by kernel_rfl)))))
 |false=>
  refine uV (zD T0) ?_
  refine eO ?_
  refine uV (zD T0) ?_
  refine aH (aG (gQ (aV (eN C (aB rfl ⟨_,_,_,_,_,_,rfl,rfl,rfl,aP (aF (aF ⟨_,.pow _ _ (zD T0) (zD T0) (aD rfl),decide ((2:Int)^32≤n),rfl,?_⟩))⟩) rfl))))
  by_cases h:(2:Int)^32≤n
  ·refine xJ (decide_eq_true ‹_›) ?_
   exact aG (jW C rfl (bO _) rfl (aC (iQ (aC (eN C (aB rfl ⟨_,_,_,_,_,_,rfl,rfl,rfl,aC (eN C (aB rfl ⟨_,_,_,_,_,_,rfl,rfl,rfl,aE ⟨_,_,_,rfl,rfl,h2 hb h⟩⟩) rfl)⟩) rfl)) (dI (by kernel_rfl)))))
  ·refine uV (by simpa using h) ?_
   refine aH (aG (eF (eN C (aB rfl ⟨_,_,_,_,_,_,rfl,rfl,rfl,?_⟩) rfl)))
   show Q _ (eZ L (upd L .mark σ))
   refine rwL (aU hL) ?_
   exact hq hb (by first|decide|(refine aM (by assumption) ?_;exact aD rfl)|exact Int.not_le.mp h)
theorem aKR(C:Cx G){code:Int}{Q:V→aA→Prop}(hq:Q (xF code tX) σ):aW Q σ X 1 (.ref 106) [.int code]:=by
 refine aZ (n:=0) (gV (ps:=["code"]) C rfl rfl rfl rfl (bt1 fun Z Z=>.of_eq rfl)) (zD T0) (zD T0) rfl fun L hL=>?_
 have fin:∀v,v=xF code tX→Q v (eZ L (upd L .mark σ)):=fun v e=>by exact rwL (aU hL) (rwL e hq)
 refine aG (kH rfl rfl (fE (bA (aED C) rfl ⟨_,rwL aJz (.tup _),?_⟩)))
 refine iI (f:=fun r:Int×Int×V×V=>V.tup [.int r.1,.int r.2.1,r.2.2.1,r.2.2.2]) (fun rs loc σ'=>σ'=upd L .mark σ∧loc.lookup ("code":Str)=some (.val (.int code))∧xF code tX=xF code rs) ?_ ?_ tX _ _ ⟨rfl,rfl,rfl⟩
 ·rintro⟨a,b,c,d⟩ rs loc σ' ⟨rfl,hn,hc⟩
  refine⟨_,rfl,?_⟩
  have hn':List.lookup ("code":Str) (("results",LV.val d)::("params",.val c)::("most",.val (.int b))::("least",.val (.int a))::loc)=some (.val (.int code)):=hn
  refine aG (gQ (aEb (aB rfl (aB hn' ⟨decide (a≤code),rfl,?_⟩))))
  have next:¬(a≤code∧code≤b)→xF code tX=xF code rs:=fun h=>by
   rw[hc]
   show(if a≤code∧code≤b then V.tup [c,d] else xF code rs)=_
   rw[if_neg h]
  by_cases h1:a≤code
  ·refine xJ (decide_eq_true ‹_›) ?_
   refine aB rfl ⟨decide (code≤b),rfl,?_⟩
   by_cases h2:code≤b
   ·refine xJ (decide_eq_true ‹_›) ?_
    refine aG (eF (aT (aC (aB rfl (aC (aB rfl (aE ⟨aD rfl,fin _ ?_⟩)))))))
    rw[hc]
    show _=(if a≤code∧code≤b then V.tup [c,d] else xF code rs)
    rw[if_pos ⟨h1,h2⟩]
   ·refine uV (by simpa using h2) ?_
    exact aH (aH ⟨rfl,hn',next fun q=>h2 q.2⟩)
  ·refine uV (by simpa using h1) (uV (zD T0) ?_)
   exact aH (aH ⟨rfl,hn',next fun q=>h1 q.1⟩)
 ·rintro loc σ' ⟨rfl,hn,hc⟩
  exact aG (eF (bQ (fin _ hc.symm)))
theorem aKU(C:Cx G){code:Int}{Q:V→aA→Prop}(hq:Q (lX code) σ):aW Q σ X 2 (.ref 113) [.int code]:=by
 refine aZ (n:=1) (gV (ps:=["code"]) C rfl rfl rfl rfl (bt1 fun Z Z=>.of_eq rfl)) (zD T0) (zD T0) rfl fun L hL=>?_
 have fin:∀v,v=lX code→Q v (eZ L (upd L .mark σ)):=fun v e=>by exact rwL (aU hL) (rwL e hq)
 refine aG (gQ (aV (aB rfl (bA (aEl C) rfl ⟨(getD rA code).isSome,rfl,dN (fun h1=>?_) fun h1=>?_⟩))))
 ·obtain⟨v,hv⟩:=Option.isSome_iff_exists.mp h1
  refine aG (eF (bR (bA (aEl C) rfl (aB rfl ⟨v,.idc _ _ _ _ hv,fin _ ?_⟩))))
  unfold lX;rw[hv]
 have e1:getD rA code=none:=by simpa using h1
 refine aH (aG (gQ (fJ (aV (aB rfl (bA (aAs C) rfl ⟨(getD nL code).isSome,rfl,dN (fun h2=>?_) fun h2=>?_⟩))))))
 ·exact aG (eF (iQ (fin _ (by unfold lX;rw[e1,h2];rfl)) (dI (by kernel_rfl))))
 refine fJ (aV (aB rfl (bA (aCh C) rfl ⟨(getD lE code).isSome,rfl,dN (fun h3=>?_) fun h3=>?_⟩)))
 ·exact aG (eF (iQ (fin _ (by unfold lX;rw[e1,h2,h3];rfl)) (dI (by kernel_rfl))))
 refine eO (bB rfl (aH (aG (eF (bX (aV (aY (n:=1) (yA C) (aS C rfl) rfl (aD rfl) rfl (aC (aB rfl (aE (aKR C (bQ ⟨jB (xF code tX),rfl,dN (fun h4=>?_) fun h4=>?_⟩))))))))))))
 ·exact bQ (fin _ (by unfold lX;rw[e1,h2,h3,h4];rfl))
 ·exact iQ (fin _ (by unfold lX;rw[e1,h2,h3,h4];rfl)) (dI (by kernel_rfl))
theorem aLi(C:Cx G){t:Str}{Q:V→aA→Prop}(hq:Q (.bool (rN t)) σ):aW Q σ X 1 (.ref 282) [.str t]:=by
 refine aZ (n:=0) (gV (ps:=["word"]) C rfl rfl rfl rfl (bt1 fun Z Z=>.of_eq rfl)) (zD T0) (zD T0) rfl fun L hL=>?_
 have fin:∀v,v=V.bool (rN t)→Q v (eZ L (upd L .mark σ)):=fun v e=>by exact rwL (aU hL) (rwL e hq)
 have hit:rN t=true→Q (.bool true) (eZ L (upd L .mark σ)):=fun h=>fin _ (rwL h rfl)
 refine qZ<|fJ<|aV<|gY<|aB rfl<|aF ⟨_,rfl,.inr ⟨_,rfl,?_⟩⟩
 refine nK rfl (by kernel_rfl) (aD rfl) ⟨(["f32.","f64.","v128"]:List Str).any (·==Txt.slice t none (some 4)),rfl,dN (fun h1=>?_) fun h1=>?_⟩
 ·exact bI rfl (bZ<|dZ<|hit (by unfold rN;rw[h1];rfl))
 refine fJ<|aV<|aN (by kernel_rfl)<|aB rfl ⟨kJ t "_f32",rfl,dN (fun h2=>?_) fun h2=>?_⟩
 ·exact bI rfl (bZ<|dZ<|hit (by unfold rN;rw[h1,h2];rfl))
 refine fJ<|aV<|aN (by kernel_rfl)<|aB rfl ⟨kJ t "_f64",rfl,dN (fun h3=>?_) fun h3=>?_⟩
 ·exact bI rfl (bZ<|dZ<|hit (by unfold rN;rw[h1,h2,h3];rfl))
 refine eO<|bB rfl<|aH<|bZ<|zW<|kI<|gY<|aB rfl<|aF ⟨_,rfl,.inr ⟨_,rfl,?_⟩⟩
 refine nK rfl (by kernel_rfl) (aD rfl) ⟨(["i8x16.","i16x8.","i32x4.","i64x2.","f32x4.","f64x2."]:List Str).any (·==Txt.slice t none (some 6)),rfl,_,rfl,dN (fun h4=>?_) fun h4=>?_⟩
 ·exact fin _ (by unfold rN;rw[h1,h2,h3,h4];rfl)
 refine kF<|kI<|aN (by kernel_rfl)<|aB rfl ⟨kJ t "trunc_sat",rfl,?_⟩
 exact fin _ (by unfold rN;rw[h1,h2,h3,h4];rfl)
theorem xA{σ:aA}{a:Addr}{m:dJ}(h:σ a=some m):upd a m σ=σ:=by
 funext b
 unfold upd
 by_cases hb:b=a
 ·subst hb;rw[if_pos rfl,h]
 ·rw[if_neg hb]
theorem dS{σ:aA}{a b:Addr}{m:dJ}(ha:σ a=some m)(hb:σ b=none):a≠b:=by rintro rfl;rw[ha] at hb;exact cZ (Eq.symm hb)
theorem bV{σ:aA}{a b:Addr}{m mo:dJ}(ha:σ a=some m)(hb:σ b=none):upd b mo σ a=some m:=by exact rwL (aR _ _ (dS ha hb)) ha
theorem eW{σ:aA}{a b:Addr}{m m1 mo:dJ}(ha:σ a=some m)(hb:σ b=some m1)(hne:m≠m1):upd b mo σ a=some m:=by
 refine rwL (aR _ _ (by rintro rfl;rw[ha] at hb;obtain rfl:=bE hb;exact hne rfl)) ?_
 exact ha
noncomputable def iW:List Str:=["name","word","token","has_else"]
noncomputable def lS:List Str:=["items","at","is_folded","base"]
noncomputable def aBV:List Str:=["spaces","local_ids","body","labels","tasks"]
noncomputable def aO1:List Str:=["items","row","column"]
theorem aAt(C:Cx G):qL 195 192:=⟨_,C.k,by kernel_rfl⟩
theorem aBv(C:Cx G):qL 223 213:=⟨_,C.k,by kernel_rfl⟩
theorem aAi(C:Cx G):qL 370 367:=⟨_,C.k,by kernel_rfl⟩
theorem aKr(C:Cx G):qL 391 388:=⟨_,C.k,by kernel_rfl⟩
theorem aBe(C:Cx G):qL 564 416:=⟨_,C.k,by kernel_rfl⟩
inductive aNB(name:Str)(a D dx:Addr)(ks:List Str)(vs:List V)(loc:aX)(Q:gA→aX→aA→Prop)(u x:V)(σ2:aA):Prop|mk (h1:x=.ref a) (h2:σ2 a=some (.ins D dx)) (h3:σ2 dx=some (.ns ks vs)) (q:Q .next loc (upd dx (.ns (lV ks name) (lP ks vs name u)) σ2))
abbrev aNp(md:Md)(o:Expr)(name:Str)(a D dx:Addr)(ks:List Str)(vs:List V)(loc:aX)(Q:gA→aX→aA→Prop)(X:bF→Prop):V→aA→Prop:=fun u σ1=>cP X σ1 loc md (aNB name a D dx ks vs loc Q u) o
theorem cX(C:Cx G){o e:Expr}{name:Str}{tp pos:Pos}{Q:gA→aX→aA→Prop}{a D dx:Addr}{own ks:List Str}{vs:List V}(hc:aID.lookup D=some own)(hn:own.contains name=true)(hz:ks.length≤900)
  (h:cP X σ loc md (aNp md o name a D dx ks vs loc Q X) e) (hk:gN e=true:=by rfl):
  sY md (.Assign [.Attribute o name tp] e pos) loc σ Q X:=
 aCW (h.mono (fun u σ1 q=>q.mono (fun x σ2 ⟨h1,h2,h3,h4⟩=>⟨a,D,dx,ks,vs,own,h1,h2,h3,rwL C.cls hc,hn,hz,h4⟩) fun Z z=>z) fun Z z=>z) hk
theorem aAh(C:Cx G){x dx:Addr}{a b c d e:V}{Q:V→aA→Prop}(hx:σ x=some (.ins 195 dx))(hd:σ dx=some (.ns [] []))(hq:Q .none (upd dx (.ns ["sort","text","value","row","column"] [a,b,c,d,e]) σ)):
  kM 1 (.ref 192) [.ref x,a,b,c,d,e] σ Q X:=by
 refine kE (n:=0) (gV (ps:=["self","sort","text","value","row","column"]) C rfl rfl rfl rfl (bt6 fun Z Z Z Z Z Z Z=>.of_eq rfl)) (zD T0) (zD T0) rfl fun L hL=>?_
 have hxL:=dS hx hL
 have hdL:=dS hd hL
 have hxd:x≠dx:=by rintro rfl;rw[hx] at hd;cases hd
 have h0:upd L .mark σ x=some (.ins 195 dx):=bV hx hL
 have up:∀{τ:aA} {m},τ x=some (.ins 195 dx)→upd dx m τ x=some (.ins 195 dx):=fun h=>by exact rwL (aR _ _ hxd) h
 refine aG (cX C (vs:=[]) rfl rfl (aD rfl) (aB rfl (aB rfl ⟨rfl,h0,bV hd hL,?_⟩)))
 refine aG (cX C rfl rfl (aD rfl) (aB rfl (aB rfl ⟨rfl,up h0,aI ..,?_⟩)))
 refine aG (cX C rfl rfl (aD rfl) (aB rfl (aB rfl ⟨rfl,up (up h0),aI ..,?_⟩)))
 refine aG (cX C rfl rfl (aD rfl) (aB rfl (aB rfl ⟨rfl,up (up (up h0)),aI ..,?_⟩)))
 refine aG (cX C rfl rfl (aD rfl) (aB rfl (aB rfl ⟨rfl,up (up (up (up h0))),aI ..,?_⟩)))
 refine aH ?_
 show Q .none (eZ L (upd dx (.ns ["sort","text","value","row","column"] [a,b,c,d,e]) (upd dx _ (upd dx _ (upd dx _ (upd dx _ (upd L .mark σ)))))))
 refine rwL bK ?_
 refine rwL bK ?_
 refine rwL bK ?_
 refine rwL bK ?_
 refine rwL (cF hdL) ?_
 refine rwL (aU hL) ?_
 exact hq
theorem aAf(C:Cx G){sort text:Str}{val:V}{row col:Int}{Q:V→aA→Prop}(hq:Q (iR sort text val row col) σ):aW Q σ X 2 (.ref 195) [.str sort,.str text,val,.int row,.int col]:=by
 refine jQ (mT (n:=1) (aAt C) fun x dx hx hdx hne=>aAh C (aI ..) ((aR _ _ hne.symm).trans (aI ..)) ⟨rfl,_,_,.obj x 195 dx _ _ ((aR _ _ hne).trans (aI ..)) (aI ..),?_⟩).w
 have:eZ dx (eZ x (upd dx (.ns ["sort","text","value","row","column"] [.str sort,.str text,val,.int row,.int col]) (upd x (.ins 195 dx) (upd dx (.ns [] []) σ))))=σ:=by
  funext b
  by_cases h1:b=dx
  ·subst h1
   rw[oK,hdx]
  ·rw[dP _ h1]
   by_cases h2:b=x
   ·subst h2
    rw[oK,hx]
   ·rw[dP _ h2,aR _ _ h1,aR _ _ h2,aR _ _ h1]
 refine rwL this ?_
 exact hq
theorem aAT(C:Cx G){x dx:Addr}{a b c:V}{Q:V→aA→Prop}(hx:σ x=some (.ins 370 dx))(hd:σ dx=some (.ns [] []))(hq:Q .none (upd dx (.ns iW [a,b,c,.bool false]) σ)):
  kM 1 (.ref 367) [.ref x,a,b,c] σ Q X:=by
 refine kE (n:=0) (gV (ps:=["self","name","word","token"]) C rfl rfl rfl rfl (bt4 fun Z Z Z Z Z=>.of_eq rfl)) (zD T0) (zD T0) rfl fun L hL=>?_
 have hdL:=dS hd hL
 have hxd:x≠dx:=by rintro rfl;rw[hx] at hd;cases hd
 have h0:upd L .mark σ x=some (.ins 370 dx):=bV hx hL
 have up:∀{τ:aA} {m},τ x=some (.ins 370 dx)→upd dx m τ x=some (.ins 370 dx):=fun h=>by exact rwL (aR _ _ hxd) h
 refine aG (cX C (vs:=[]) rfl rfl (aD rfl) (aB rfl (aB rfl ⟨rfl,h0,bV hd hL,?_⟩)))
 refine aG (cX C rfl rfl (aD rfl) (aB rfl (aB rfl ⟨rfl,up h0,aI ..,?_⟩)))
 refine aG (cX C rfl rfl (aD rfl) (aB rfl (aB rfl ⟨rfl,up (up h0),aI ..,?_⟩)))
 refine aG (cX C rfl rfl (aD rfl) (dZ (aB rfl ⟨rfl,up (up (up h0)),aI ..,?_⟩)))
 refine aH ?_
 show Q .none (eZ L (upd dx (.ns iW [a,b,c,.bool false]) (upd dx _ (upd dx _ (upd dx _ (upd L .mark σ))))))
 refine rwL bK ?_
 refine rwL bK ?_
 refine rwL bK ?_
 refine rwL (cF hdL) ?_
 refine rwL (aU hL) ?_
 exact hq
theorem wH{σ:aA}{x dx:Addr}{m1 m2 m3:dJ}(h:x≠dx):upd dx m3 (upd x m2 (upd dx m1 σ))=upd x m2 (upd dx m3 σ):=by
 rw[kC h,bK]
theorem aDz(C:Cx G){a b c:V}{Q:V→aA→Prop}(hq:∀x dx,σ x=none→σ dx=none→x≠dx→Q (.ref x) (upd x (.ins 370 dx) (upd dx (.ns iW [a,b,c,.bool false]) σ))):aW Q σ X 2 (.ref 370) [a,b,c]:=by
 refine(mT (n:=1) (aAi C) fun x dx hx hdx hne=>aAT C (aI ..) ((aR _ _ hne.symm).trans (aI ..)) ⟨rfl,?_⟩).w
 refine rwL (wH hne) ?_
 exact hq x dx hx hdx hne
theorem aDh(C:Cx G){x dx:Addr}{a b c:V}{Q:V→aA→Prop}(hx:σ x=some (.ins 391 dx))(hd:σ dx=some (.ns [] []))(hq:Q .none (upd dx (.ns lS [a,b,c,.none]) σ)):
  kM 1 (.ref 388) [.ref x,a,b,c] σ Q X:=by
 refine kE (n:=0) (gV (ps:=["self","items","at","is_folded"]) C rfl rfl rfl rfl (bt4 fun Z Z Z Z Z=>.of_eq rfl)) (zD T0) (zD T0) rfl fun L hL=>?_
 have hdL:=dS hd hL
 have hxd:x≠dx:=by rintro rfl;rw[hx] at hd;cases hd
 have h0:upd L .mark σ x=some (.ins 391 dx):=bV hx hL
 have up:∀{τ:aA} {m},τ x=some (.ins 391 dx)→upd dx m τ x=some (.ins 391 dx):=fun h=>by exact rwL (aR _ _ hxd) h
 refine aG (cX C (vs:=[]) rfl rfl (aD rfl) (aB rfl (aB rfl ⟨rfl,h0,bV hd hL,?_⟩)))
 refine aG (cX C rfl rfl (aD rfl) (aB rfl (aB rfl ⟨rfl,up h0,aI ..,?_⟩)))
 refine aG (cX C rfl rfl (aD rfl) (aB rfl (aB rfl ⟨rfl,up (up h0),aI ..,?_⟩)))
 refine aG (cX C rfl rfl (aD rfl) (bQ (aB rfl ⟨rfl,up (up (up h0)),aI ..,?_⟩)))
 refine aH ?_
 show Q .none (eZ L (upd dx (.ns lS [a,b,c,.none]) (upd dx _ (upd dx _ (upd dx _ (upd L .mark σ))))))
 refine rwL bK ?_
 refine rwL bK ?_
 refine rwL bK ?_
 refine rwL (cF hdL) ?_
 refine rwL (aU hL) ?_
 exact hq
theorem aNa(C:Cx G){a b c:V}{Q:V→aA→Prop}(hq:∀x dx,σ x=none→σ dx=none→x≠dx→Q (.ref x) (upd x (.ins 391 dx) (upd dx (.ns lS [a,b,c,.none]) σ))):aW Q σ X 2 (.ref 391) [a,b,c]:=by
 refine(mT (n:=1) (aKr C) fun x dx hx hdx hne=>aDh C (aI ..) ((aR _ _ hne.symm).trans (aI ..)) ⟨rfl,?_⟩).w
 refine rwL (wH hne) ?_
 exact hq x dx hx hdx hne
theorem aCS(C:Cx G){a b c:V}{Q:V→aA→Prop}(hq:∀x dx,σ x=none→σ dx=none→x≠dx→Q (.tup [.str "run",.ref x]) (upd x (.ins 391 dx) (upd dx (.ns lS [a,b,c,.none]) σ))):aW Q σ X 3 (.ref 402) [a,b,c]:=by
 refine aZ (n:=2) (gV (ps:=["items","at","is_folded"]) C rfl rfl rfl rfl (bt3 fun Z Z Z Z=>.of_eq rfl)) (zD T0) (zD T0) rfl fun L hL=>?_
 refine bZ<|aT<|aC<|aN (by kernel_rfl)<|aC (aY (n:=2) (aEx C) (lJ (aKr C)) rfl (aD rfl) rfl<|bL rfl<|bL rfl<|aQ rfl<|aNa C fun x dx hx hdx hne=>aE ⟨aD rfl,?_⟩)
 have hxL:x≠L:=by rintro rfl;rw[aI] at hx;exact cZ (Eq.symm hx)
 have hdL:dx≠L:=by rintro rfl;rw[aI] at hdx;exact cZ (Eq.symm hdx)
 show Q _ (eZ L (upd x _ (upd dx _ (upd L .mark σ))))
 refine rwL (cF hxL) ?_
 refine rwL (cF hdL) ?_
 refine rwL (aU hL) ?_
 exact hq x dx (by rw[aR _ _ hxL] at hx;exact hx) (by rw[aR _ _ hdL] at hdx;exact hdx) hne
inductive aLW(Q:V→aA→Prop)(r:V)(σ':aA):Prop|mk (a:Addr) (mo:dJ) (h1:σ' a=some mo) (h2:mo≠.mark) (h3:∀v,mo≠.cell v) (q:Q r (eZ a σ'))
theorem qJ{n:Nat}{f:Value}{args:List V}{Q:V→aA→Prop}(h:aW (aLW Q) σ X n f args):aW Q σ X n f args:=fun md A env m loc s vals h1 h2 h3 h4=>
 wpAny_mono (h md A env m loc s vals h1 h2 h3 h4) (fun v s' ⟨r,σ1,⟨a,mo,ha,k1,k2,hq⟩,hr,ha2,hs⟩=>⟨r,eZ a σ1,hq,hr.mono (sR (P:=G.P) a),ha2.trans (pQ ha k1 k2),uL hs a⟩) fun Z Z z=>z
end
inductive It where
 |tok (sort text:Str) (val:V) (row col:Int)
 |br (l:List It) (row col:Int)
mutual
noncomputable def oF:It→V
 |.tok s t v r c=>iR s t v r c
 |.br l r c=>.obj 223 ["items","row","column"] [.lst (cN l),.int r,.int c]
noncomputable def cN:List It→List V
 |[]=>[]
 |x::xs=>oF x::cN xs
end
theorem gX:∀l:List It,cN l=l.map oF
 |[]=>by rw[cN];rfl
 |x::xs=>by rw[cN,gX xs];rfl
theorem bH(l:List It):(cN l).length=l.length:=by exact rwL (gX _) (rwL (bS _) rfl)
theorem oL{l:List It}{i:Nat}{x:It}(h:l[i]? =some x):(cN l)[i]? =some (oF x):=by rw[gX,List.getElem?_map,h];rfl
theorem cQ{s t:Str}{v:V}{r c:Int}:oF (.tok s t v r c)=iR s t v r c:=by rw[oF]
theorem qU{l:List It}{r c:Int}:oF (.br l r c)=.obj 223 ["items","row","column"] [.lst (cN l),.int r,.int c]:=by rw[oF]
noncomputable def aI3:It→Bool
 |.br ..=>true
 |_=>false
noncomputable def iC(why:Str):It→bF
 |.tok s _ _ r c=>rB r c (nN why s)
 |.br _ r c=>rB r c why
noncomputable def pG(l:List It)(i:Nat):Bool:=match l[i]? with
 |some (.tok s ..)=>hiB s
 |_=>false
noncomputable def dW(l:List It)(i:Nat):Option Str:=match l[i]? with
 |some (.tok s t ..)=>if s="id" then some t else none
 |_=>none
section
variable{md:Md}{loc:aX}{σ:aA}{X:bF→Prop}
theorem aO2(C:Cx G):aCb 223 223 true:=⟨_,C.k,by kernel_rfl⟩
theorem aOO(C:Cx G):aCb 223 195 false:=⟨_,C.k,by kernel_rfl⟩
theorem mC(C:Cx G){e:Expr}{p1 p2 p3:Pos}{x:It}{Q:V→aA→Prop}(hd:md.hd=none)(h1:md.sc.lookup ("isinstance":Str)=some .globalImplicit)(h2:md.sc.lookup ("Branch":Str)=some .globalImplicit)
  (h:cP X σ loc md (aLl (oF x) (aI3 x) Q) e) (hn:fF e=true:=by rfl):cP X σ loc md Q (.Call (.Name "isinstance" p1) [e,.Name "Branch" p2] [] p3):=by
 refine cY (fN C) rfl (aO _) h1 hd (aC (h.mono (fun v σ1 ⟨hv,hq⟩=>aC (bA (rY C) h2 (aE ?_))) fun Z z=>z) hn) rfl (by rw[List.all_cons,hn];rfl)
 subst hv
 cases x with
 |tok s t v r c=>
  refine rwL cQ ?_
  exact iN C.ok rfl (aLC C) hq
 |br l r c=>
  refine rwL qU ?_
  exact iN C.ok rfl (aO2 C) hq
theorem bY{x y:Str}{p1 p2 p3:Pos}{i:Nat}{v:V}{l:List It}{t:It}{Q:V→aA→Prop}(hx:loc.lookup x=some (.val v))(hy:loc.lookup y=some (.val (.int i)))(hl:lk σ v=.lst (cN l))(hz:l.length≤2^20)(ht:l[i]? =some t)(hq:Q (oF t) σ)
  (d1:(x==("__debug__":Str))=false:=by exact zD T0) (d2:(y==("__debug__":Str))=false:=by exact zD T0):cP X σ loc md Q (.Subscript (.Name x p1) (.Name y p2) p3):=
 bR (aB hx (aB hy (sD hl (rwL (bH _) hz) (oL ht) hq) d2) d1)
theorem aLg(C:Cx G){l:List It}{i:Nat}{Q:V→aA→Prop}(hz:l.length≤2^20)(hq:Q (.bool (pG l i)) σ):aW Q σ X 1 (.ref 325) [.lst (cN l),.int i]:=by
 induction h:l[i]? with
 |none=>exact aE7 C rfl (rwL (bH _) hz) (by rw[bH];exact List.getElem?_eq_none_iff.mp h) (by unfold pG at hq;rw[h] at hq;exact hq)
 |some x=>
  cases x with
  |tok s t v r c=>exact aFf C (rwL (bH _) hz) (oL h |>.trans (rwL cQ rfl)) (by unfold pG at hq;rw[h] at hq;exact hq)
  |br l' r c=>
   have hi:=(gB h).1
   refine aZ (n:=0) (gV (ps:=["items","at"]) C rfl rfl rfl rfl (tA fun Z Z Z=>.of_eq rfl)) (zD T0) (zD T0) rfl fun L hL=>?_
   refine bZ<|qG<|aAc C rfl rfl rfl rfl (rwL (bH _) hz) rfl ⟨_,rfl,bI (by rw[bH];simpa using hi) ?_⟩
   refine qG<|aG4<|mC C rfl rfl rfl<|bY rfl rfl rfl hz h ⟨rfl,true,rfl,false,rfl,bB rfl ?_⟩
   show Q _ (eZ L (upd L .mark σ))
   refine rwL (aU hL) ?_
   unfold pG at hq
   replace hq:=h▸hq
   exact hq
theorem jD(C:Cx G){why:Str}{x:It}{Q:V→aA→Prop}(hx:X (iC why x)):aW Q σ X 7 (.ref 292) [.str why,oF x]:=by
 cases x with
 |tok s t v r c=>
  refine rwL cQ ?_
  exact lG C hx
 |br l r c=>
  refine rwL qU ?_
  refine aZ (n:=6) (gV (ps:=["why","item"]) C rfl rfl rfl rfl (tA fun Z Z Z=>.of_eq rfl)) (zD T0) (zD T0) rfl fun L hL=>?_
  refine qZ<|bU<|aV<|aB rfl<|aN (by kernel_rfl) ⟨_,bG _ _,?_⟩
  have last:∀{p1 p2 p3 p4 p5 p6 p7 p8} {Q'},sY ⟨6,none,[("why",.local),("item",.local),("isinstance",.globalImplicit),("Branch",.globalImplicit),("BadText",.globalImplicit)]⟩ (.Raise (some (.Call (.Name "BadText" p1) [.Name "why" p2,.Attribute (.Name "item" p3) "row" p4,.Attribute (.Name "item" p5) "column" p6] [] p7)) none p8)
    ((["why","item"]:List Str).zip ([V.str why,.obj 223 ["items","row","column"] [.lst (cN l),.int r,.int c]].map .val)) (upd L .mark σ) Q' X:=by
   intros
   refine jW C rfl (bO _) rfl<|bL rfl<|aC<|lU<|aB rfl ⟨223,_,_,_,_,rfl,by rw[C.cls];rfl,rfl,rfl,rfl,?_⟩
   exact aC<|lU<|aB rfl ⟨223,_,_,_,_,rfl,by rw[C.cls];rfl,rfl,rfl,rfl,aE ⟨_,_,_,rfl,rfl,hx⟩⟩
  by_cases h1:why="unexpected token"
  ·refine bI (decide_eq_true ‹_›) ?_
   refine bU<|mL<|bT<|mC (x:=.br l r c) C rfl rfl rfl<|aB rfl ⟨qU,true,rfl,bB rfl<|bB rfl<|aH<|aG last⟩
  ·exact bB (decide_eq_false ‹_›)<|bB rfl<|aH<|aG last
theorem aMF(C:Cx G){l:List It}{i:Nat}{tk:It}{Q:V→aA→Prop}(hz:l.length≤2^20)
  (hq:∀x,pG l i=true→l[i]? =some x→Q (oF x) σ) (hx:pG l i=false→X (iC "unexpected token" (l[i]?.getD tk))):aW Q σ X 9 (.ref 332) [.lst (cN l),.int i,oF tk]:=by
 refine aZ (n:=8) (gV (ps:=["items","at","token"]) C rfl rfl rfl rfl (bt3 fun Z Z Z Z=>.of_eq rfl)) (zD T0) (zD T0) rfl fun L hL=>?_
 refine qZ<|mL<|bT<|aY (n:=1) (pJ C) (aS C rfl) rfl (aD rfl) rfl<|bL rfl<|aQ rfl<|aLg C hz ⟨_,rfl,?_⟩
 induction hb:pG l i with
 |true=>
  refine bB rfl<|aH ?_
  induction h:l[i]? with
  |none=>unfold pG at hb;rw[h] at hb;exact iX hb
  |some x=>
   refine bZ<|bY rfl rfl rfl hz h ?_
   show Q _ (eZ L (upd L .mark σ))
   rw[aU hL];exact hq x hb h
 |false=>
  refine bI rfl<|cW<|aY (n:=7) (cU C) (aS C rfl) rfl (aD rfl) rfl<|aC<|aN (by kernel_rfl)<|aC<|bX<|mJ C rfl rfl rfl rfl (rwL (bH _) hz) rfl ?_
  have hx:=hx hb
  induction h:l[i]? with
  |none=>
   rw[h] at hx
   exact bB (by rw[bH];simpa using List.getElem?_eq_none_iff.mp h) (aB rfl<|aE<|jD C hx)
  |some x=>
   rw[h] at hx
   have hi:=(gB h).1
   exact bI (by rw[bH];simpa using hi) (bY rfl rfl rfl hz h<|aE<|jD C hx)
theorem aGg(C:Cx G){slf:V}{l:List It}{i:Nat}{s w:Str}{v:V}{r c:Int}{Q:V→aA→Prop}(hz:l.length≤2^20)
  (hq:∀x dx,σ x=none→σ dx=none→x≠dx→Q (.tup [.ref x,.int ((i+(if(dW l i).isSome then 1 else 0):Nat):Int)]) (upd x (.ins 370 dx) (upd dx (.ns iW [.str ((dW l i).getD ""),.str w,iR s w v r c,.bool false]) σ))):
  aW Q σ X 3 (.ref 486) [slf,iR s w v r c,.lst (cN l),.int i]:=by
 refine aZ (n:=2) (gV (ps:=["self","token","items","at"]) C rfl rfl rfl rfl (bt4 fun Z Z Z Z Z=>.of_eq rfl)) (zD T0) (zD T0) rfl fun L hL=>?_
 have fin:∀x dx id (k:Int),upd L .mark σ x=none→upd L .mark σ dx=none→x≠dx→id=(dW l i).getD ""→k=((i+(if(dW l i).isSome then 1 else 0):Nat):Int)→Q (.tup [.ref x,.int k]) (eZ L (upd x (.ins 370 dx) (upd dx (.ns iW [.str id,.str w,iR s w v r c,.bool false]) (upd L .mark σ)))):=by
  rintro x dx _ _ hx hdx hne rfl rfl
  have hxL:x≠L:=by rintro rfl;rw[aI] at hx;exact cZ (Eq.symm hx)
  have hdL:dx≠L:=by rintro rfl;rw[aI] at hdx;exact cZ (Eq.symm hdx)
  refine rwL (cF hxL) ?_
  refine rwL (cF hdL) ?_
  refine rwL (aU hL) ?_
  exact hq x dx (by rw[aR _ _ hxL] at hx;exact hx) (by rw[aR _ _ hdL] at hdx;exact hdx) hne
 have none_:∀{p1 p2 p3 p4 p5 p6 p7 p8 p9 k1 k2} {Q':gA→aX→aA→Prop},dW l i=none→(∀x dx,upd L .mark σ x=none→upd L .mark σ dx=none→x≠dx→Q' (.ret (.tup [.ref x,.int i])) ((["self","token","items","at"]:List Str).zip ([slf,iR s w v r c,.lst (cN l),.int i].map .val)) (upd x (.ins 370 dx) (upd dx (.ns iW [.str "",.str w,iR s w v r c,.bool false]) (upd L .mark σ))))→
   jC X (upd L .mark σ) ((["self","token","items","at"]:List Str).zip ([slf,iR s w v r c,.lst (cN l),.int i].map .val)) ⟨2,none,[("self",.local),("token",.local),("items",.local),("at",.local),("len",.globalImplicit),("isinstance",.globalImplicit),("Branch",.globalImplicit),("Label",.globalImplicit)]⟩ Q' [.Return (some (.Tuple [.Call (.Name "Label" p1) [.Constant (.str "") k1 p2,.Attribute (.Name "token" p3) "text" p4,.Name "token" p5] [] p6,.Name "at" p7] k2 p8)) p9]:=by
  intro p1 p2 p3 p4 p5 p6 p7 p8 p9 k1 k2 Q' h0 hf
  refine bZ<|aT<|aC (aY (n:=2) (aDR C) (lJ (aAi C)) rfl (aD rfl) rfl<|aC<|aN (by kernel_rfl)<|aC<|dG C rfl<|aB rfl ⟨_,_,_,_,_,_,rfl,rfl,rfl,?_⟩)
  exact aQ rfl<|aDz C fun x dx hx hdx hne=>aQ rfl ⟨aD rfl,hf x dx hx hdx hne⟩
 have fin0:dW l i=none→∀x dx,upd L .mark σ x=none→upd L .mark σ dx=none→x≠dx→Q (.tup [.ref x,.int i]) (eZ L (upd x (.ins 370 dx) (upd dx (.ns iW [.str "",.str w,iR s w v r c,.bool false]) (upd L .mark σ)))):=fun h0 x dx hx hdx hne=>fin x dx _ _ hx hdx hne (by rw[h0];rfl) (by rw[h0];rfl)
 refine qZ<|bU<|mJ C rfl rfl rfl rfl (rwL (bH _) hz) rfl ?_
 induction h:l[i]? with
 |none=>
  have h0:dW l i=none:=by unfold dW;rw[h]
  exact bB (by rw[bH];simpa using List.getElem?_eq_none_iff.mp h)<|bB rfl<|aH<|none_ h0 (fin0 h0)
 |some x=>
  have hi:=(gB h).1
  refine bI (by rw[bH];simpa using hi) ?_
  refine bU<|mL<|bT<|mC C rfl rfl rfl<|bY rfl rfl rfl hz h ⟨rfl,_,rfl,?_⟩
  cases x with
  |br l' r' c'=>
   have h0:dW l i=none:=by unfold dW;rw[h]
   exact bB rfl<|bB rfl<|aH<|none_ h0 (fin0 h0)
  |tok s' t' v' r' c'=>
   refine bI rfl<|bU<|aV<|dG C rfl<|bY rfl rfl rfl hz h ⟨s',t',v',r',c',_,cQ,rfl,rfl,aN (by kernel_rfl) ⟨_,bG _ _,?_⟩⟩
   by_cases hs:s'="id"
   ·have h0:dW l i=some t':=by unfold dW;rw[h];exact if_pos hs
    refine bI (decide_eq_true ‹_›)<|cK<|bI rfl ?_
    refine bZ<|aT<|aC (aY (n:=2) (aDR C) (lJ (aAi C)) rfl (aD rfl) rfl<|aC<|dG C rfl<|bY rfl rfl rfl hz h ⟨s',t',v',r',c',_,cQ,rfl,rfl,?_⟩)
    refine aC<|dG C rfl<|aB rfl ⟨_,_,_,_,_,_,rfl,rfl,rfl,?_⟩
    refine aQ rfl<|aDz C fun x dx hx hdx hne=>?_
    refine aC (aP<|aB rfl<|aF ⟨_,.add _ _,aE ⟨aD rfl,?_⟩⟩)
    exact fin x dx _ _ hx hdx hne (by rw[h0];rfl) (by rw[h0];rfl)
   ·have h0:dW l i=none:=by unfold dW;rw[h];exact if_neg hs
    exact bB (decide_eq_false ‹_›)<|bB rfl<|aH<|none_ h0 (fin0 h0)
noncomputable def jM(l:List It):Str:=match l[(0:Nat)]? with
 |some (.tok s t ..)=>if s="word" then t else ""
 |_=>""
noncomputable def dK:It→Str
 |.tok ..=>""
 |.br l _ _=>jM l
theorem aPa(C:Cx G):aDB 195:=⟨_,C.k,by kernel_rfl⟩
theorem aLM(C:Cx G):aFx 223 "head" 220:=⟨_,C.k,by kernel_rfl⟩
inductive BaR(name:Str)(Q:V→aA→Prop)(x:V)(σ1:aA):Prop|mk (l:List It) (row col:Int) (u:V) (h1:x=oF (.br l row col)) (h2:iY aO1 [.lst (cN l),.int row,.int col] name=some u) (h3:mG u=true) (q:Q u σ1)
theorem tT(C:Cx G){e:Expr}{name:Str}{pos:Pos}{Q:V→aA→Prop}(hn:(["items","row","column"]:List Str).contains name=true)
  (h:cP X σ loc md (BaR name Q) e)
  (he:∀env,eval (.Attribute e name pos) env=(do
   let o ←eval e env
   standAt pos.atName
   let r ←holding [o] (getAttr o name true)
   letTemporaryGo e o r
   pure r):=by intro _;rfl):cP X σ loc md Q (.Attribute e name pos):=
 lU (h.mono (fun x σ1 ⟨l,row,col,u,hx,hg,hp,hq⟩=>⟨223,_,_,_,u,by rw[hx,qU];rfl,by rw[C.cls];rfl,hn,hg,hp,hq⟩) fun Z z=>z) he
theorem k_head(C:Cx G){l:List It}{row col:Int}{Q:V→aA→Prop}(hz:l.length≤2^20)(hq:Q (.str (dK (.br l row col))) σ):aW Q σ X 1 (.ref 220) [oF (.br l row col)]:=by
 refine aZ (n:=0) (gV (ps:=["self"]) C rfl rfl rfl rfl (bt1 fun Z Z=>.of_eq rfl)) (zD T0) (zD T0) rfl fun L hL=>?_
 have fin:∀v,v=V.str (dK (.br l row col))→Q v (eZ L (upd L .mark σ)):=fun v e=>by exact rwL (aU hL) (rwL e hq)
 refine cG rfl<|bX<|aV ?_
 refine cY (hY C) rfl (aO _) rfl rfl<|aC (tT C rfl<|aB rfl ⟨l,row,col,_,rfl,rfl,rfl,aE ?_⟩)
 refine fK (n:=(cN l).length) rfl (by rw[bH];exact aM ‹_› (aD rfl))<|aF ⟨decide ((0:Int)<((cN l).length:Int)),rfl,?_⟩
 rw[bH]
 induction h:l[0]? with
 |none=>
  have h0:l=[]:=by simpa using h
  refine bB (by simp[h0])<|bQ ?_
  refine bZ<|bX<|bU<|bT<|cY (fN C) rfl (aO _) rfl rfl<|bL rfl<|aC<|bA (pU C) rfl<|aE<|aBJ (aPa C) ⟨_,rfl,bB rfl<|bB rfl<|aN (by kernel_rfl) (fin _ ?_)⟩
  show _=V.str (jM l);unfold jM;rw[h]
 |some x=>
  have hi:=(gB h).1
  refine bI (by simpa using hi)<|bR<|tT C rfl<|aB rfl ⟨l,row,col,_,rfl,rfl,rfl,aF ⟨oF x,.lst _ (cN l) 0 _ rfl (zD T0) (gI (i:=0) (oL h)),?_⟩⟩
  cases x with
  |br l' r' c'=>
   refine bZ<|bX<|bU<|bT<|cY (fN C) rfl (aO _) rfl rfl<|bL rfl<|aC<|bA (pU C) rfl<|aE ?_
   refine rwL qU ?_
   refine iN C.ok rfl (aOO C) ⟨_,rfl,bB rfl<|bB rfl<|aN (by kernel_rfl) (fin _ ?_)⟩
   show _=V.str (jM l);unfold jM;rw[h]
  |tok s t v r c=>
   refine bZ<|bX<|bU<|bT<|cY (fN C) rfl (aO _) rfl rfl<|bL rfl<|aC<|bA (pU C) rfl<|aE ?_
   refine rwL cQ ?_
   refine iN C.ok rfl (aNO C) ⟨_,rfl,bI rfl<|bU<|aV<|dG C rfl<|aB rfl ⟨s,t,v,r,c,_,cQ,rfl,rfl,aN (by kernel_rfl) ⟨_,bG _ _,?_⟩⟩⟩
   by_cases hs:s="word"
   ·refine bI (decide_eq_true ‹_›)<|cK<|bI rfl<|dG C rfl<|aB rfl ⟨s,t,v,r,c,_,cQ,rfl,rfl,fin _ ?_⟩
    show _=V.str (jM l);unfold jM;rw[h];exact congrArg V.str (if_pos hs).symm
   ·refine bB (decide_eq_false ‹_›)<|bB rfl<|aN (by kernel_rfl) (fin _ ?_)
    show _=V.str (jM l);unfold jM;rw[h];exact congrArg V.str (if_neg hs).symm
noncomputable def aFI:It→Bool
 |.br l _ _=>decide (l.length≤2^20)
 |_=>true
theorem nF(C:Cx G){x:It}{Q:V→aA→Prop}(hz:aFI x=true)(hq:Q (.str (dK x)) σ):aW Q σ X 2 (.ref 299) [oF x]:=by
 refine aZ (n:=1) (gV (ps:=["item"]) C rfl rfl rfl rfl (bt1 fun Z Z=>.of_eq rfl)) (zD T0) (zD T0) rfl fun L hL=>?_
 have fin:∀v,v=V.str (dK x)→Q v (eZ L (upd L .mark σ)):=fun v e=>by exact rwL (aU hL) (rwL e hq)
 refine bZ<|bX<|bT<|mC (x:=x) C rfl rfl rfl<|aB rfl ⟨rfl,_,rfl,?_⟩
 cases x with
 |tok s t v r c=>exact bB rfl<|aN (by kernel_rfl) (fin _ rfl)
 |br l r c=>
  refine bI rfl<|cI rfl<|aB rfl ⟨_,_,1,.own 223 ["items","row","column"] [.lst (cN l),.int r,.int c] 220 (by rw[qU];rfl) rfl (aLM C),aS C rfl,aD rfl,aE ?_⟩
  refine k_head C (of_decide_eq_true hz) ?_
  exact fin _ rfl
structure Lb where
 name:Str
 word:Str
 tok:It
 els:Bool
noncomputable def qT(p:Lb):List V:=[.str p.name,.str p.word,oF p.tok,.bool p.els]
noncomputable def lR(σ:aA)(p:Addr×Addr×Lb):Prop:=σ p.1=some (.ins 370 p.2.1)∧σ p.2.1=some (.ns iW (qT p.2.2))
structure RA where
 r:Addr
 d:Addr
 t:Addr
 b:Addr
 l:Addr
 ks:List (Addr×dJ)
structure aJB(σ:aA)(R:RA)(as:List (Addr×Addr×Lb))(p:Addr×dJ):Prop where
 e:σ p.1=some p.2
 m:p.2≠.mark
 t:p.1≠R.t
 b:p.1≠R.b
 l:p.1≠R.l
 n:p.1∉as.map (·.2.1)
structure RS(as:List (Addr×Addr×Lb))(B:List V)(T:List V)(ids:V)(R:RA)(σ:aA):Prop where
 ins:σ R.r=some (.ins 564 R.d)
 ns:σ R.d=some (.ns aBV [.none,ids,.ref R.b,.ref R.l,.ref R.t])
 tt:σ R.t=some (.lst T)
 bb:σ R.b=some (.lst B)
 ll:σ R.l=some (.lst (as.map fun p=>V.ref p.1))
 ne:R.b≠R.l∧R.b≠R.t∧R.l≠R.t
 lbs:∀p∈as,lR σ p
 nd:(as.map (·.2.1)).Nodup
 kk:∀p∈R.ks,aJB σ R as p
theorem aJB.mono{σ σ':aA}{R:RA}{as:List (Addr×Addr×Lb)}{p:Addr×dJ}(h:aJB σ R as p)(e:σ' p.1=some p.2):aJB σ' R as p:=⟨e,h.m,h.t,h.b,h.l,h.n⟩
theorem lR.mono{σ σ':aA}{p:Addr×Addr×Lb}(h:lR σ p)(k:∀a m,σ a=some m→σ' a=some m):lR σ' p:=⟨k _ _ h.1,k _ _ h.2⟩
theorem RS.mono{σ σ':aA}{R:RA}{ids:V}{T B:List V}{as:List (Addr×Addr×Lb)}(h:RS as B T ids R σ)(k:∀a m,σ a=some m→m≠.mark→σ' a=some m):RS as B T ids R σ':=
 ⟨k _ _ h.ins (nm rfl),k _ _ h.ns (nm rfl),k _ _ h.tt (nm rfl),k _ _ h.bb (nm rfl),k _ _ h.ll (nm rfl),h.ne,fun p hp=>⟨k _ _ (h.lbs p hp).1 (nm rfl),k _ _ (h.lbs p hp).2 (nm rfl)⟩,h.nd,fun p hp=>(h.kk p hp).mono (k _ _ (h.kk p hp).e (h.kk p hp).m)⟩
theorem RS.upd{σ:aA}{R:RA}{ids:V}{T B:List V}{as:List (Addr×Addr×Lb)}(h:RS as B T ids R σ){L:Addr}{m:dJ}(hL:σ L=none):RS as B T ids R (upd L m σ):=h.mono fun a m' e Z=>bV e hL
theorem RS.look{σ:aA}{R:RA}{ids:V}{T B:List V}{as:List (Addr×Addr×Lb)}(h:RS as B T ids R σ):look σ (.ref R.r)=some (564,aBV,[.none,ids,.ref R.b,.ref R.l,.ref R.t]):=
 vA h.ins h.ns
theorem lR.look{σ:aA}{p:Addr×Addr×Lb}(h:lR σ p):look σ (.ref p.1)=some (370,iW,qT p.2.2):=
 vA h.1 h.2
noncomputable def tB:It→Prop
 |.tok s t v _ _=>t.length≤1000∧(s="int"→∃n c,v=.int n∧t.cps.toList[(0:Nat)]? =some c)
 |.br l _ _=>l.length≤2^20
theorem tB.ok{x:It}(h:tB x):aFI x=true:=by
 cases x with
 |tok=>rfl
 |br l r c=>exact decide_eq_true h
noncomputable def mD:V→Int
 |.int n=>n
 |_=>0
noncomputable def gZ(names:List Str):It→Except bF Int
 |.tok s t v r c=>if s="int" then(if gO t=true then .error (rB r c "unexpected token") else
   if 2^32≤mD v then .error (rB r c "i32 constant out of range") else .ok (mD v))
  else match mM names.reverse t with
   |some k=>.ok k
   |none=>.error (rB r c (nN ("unknown label "++t) s))
 |.br ..=>.ok 0
theorem aGd{names:List Str}{t:Str}{v:V}{r c:Int}(h:gO t=true):gZ names (.tok "int" t v r c)=.error (rB r c "unexpected token"):=by
 rw[gZ,if_pos rfl,if_pos h]
theorem aF2{names:List Str}{t:Str}{n r c:Int}(h:gO t=false)(h2:2^32≤n):gZ names (.tok "int" t (.int n) r c)=.error (rB r c "i32 constant out of range"):=by
 rw[gZ,if_pos rfl,if_neg (by rw[h];decide)];exact if_pos h2
theorem aBk{names:List Str}{t:Str}{n r c:Int}(h:gO t=false)(h2:n<2^32):gZ names (.tok "int" t (.int n) r c)=.ok n:=by
 rw[gZ,if_pos rfl,if_neg (by rw[h];decide)];exact if_neg (show ¬2^32≤n by exact Int.not_le.mpr h2)
theorem aA8{names:List Str}{s t:Str}{v:V}{r c:Int}{k:Nat}(hs:s≠"int")(h:mM names.reverse t=some k):gZ names (.tok s t v r c)=.ok k:=by
 rw[gZ,if_neg hs,h]
theorem aHa{names:List Str}{s t:Str}{v:V}{r c:Int}(hs:s≠"int")(h:mM names.reverse t=none):gZ names (.tok s t v r c)=.error (rB r c (nN ("unknown label "++t) s)):=by
 rw[gZ,if_neg hs,h]
noncomputable def aAZ:It→Bool
 |.tok s ..=>hiB s
 |_=>false
noncomputable def iF(l:List It)(i:Nat):List It:=(l.drop i).takeWhile aAZ
set_option tactic.hygienic true in
theorem qS{l:List It}{i:Nat}{x:It}{xs:List It}(h:iF l i=x::xs):l[i]? =some x∧pG l i=true∧iF l (i+1)=xs:=by
 unfold iF at h
 induction hi:l[i]? with
 |none=>
  replace h:=(List.drop_eq_nil_of_le (by simpa using hi))▸h
  simp at h
 |some y=>
  obtain⟨hl,he⟩:=gB hi
  replace h:=(List.drop_eq_getElem_cons hl)▸h
  replace h:=he▸h
  replace h:=List.takeWhile_cons▸h
  split at h
  ·rename_i hy
   cases h
   refine⟨rfl,?_,rfl⟩
   unfold pG
   refine rwL hi ?_
   cases x with
   |tok s t v r c=>exact hy
   |br=>exact iX hy
  ·cases h
set_option tactic.hygienic true in
set_option tactic.hygienic true in
theorem rS{l:List It}{i:Nat}(h:pG l i=true):∃s t v r c,l[i]? =some (.tok s t v r c)∧hiB s=true:=by
 unfold pG at h
 split at h
 ·rename_i s t v r c e;exact⟨s,t,v,r,c,e,h⟩
 ·exact iX h
theorem wC{l:List It}{i:Nat}{x:It}(hx:l[i]? =some x)(h:pG l i=true):iF l i=x::iF l (i+1):=by
 obtain⟨s,t,v,r,c,e,hs⟩:=rS h
 rw[hx] at e;obtain rfl:=bE e
 unfold iF
 obtain⟨hl,he⟩:=gB hx
 rw[List.drop_eq_getElem_cons hl,he,List.takeWhile_cons,if_pos (show aAZ (.tok s t v r c)=true from hs)]
noncomputable def eA(names:List Str):List It→Except bF (List Int)
 |[]=>.ok []
 |x::xs=>match gZ names x with
  |.error e=>.error e
  |.ok n=>match eA names xs with
   |.error e=>.error e
   |.ok ns=>.ok (n::ns)
theorem dX(C:Cx G){x name:Str}{p pos:Pos}{R:RA}{ids u:V}{T B:List V}{as:List (Addr×Addr×Lb)}{Q:V→aA→Prop}(S:RS as B T ids R σ)(hx:loc.lookup x=some (.val (.ref R.r)))
  (hn:aBV.contains name=true) (hg:iY aBV [.none,ids,.ref R.b,.ref R.l,.ref R.t] name=some u) (hp:mG u=true) (hq:Q u σ)
  (he:∀env,eval (.Attribute (.Name x p) name pos) env=(do
   let o ←eval (.Name x p) env
   standAt pos.atName
   let r ←holding [o] (getAttr o name true)
   letTemporaryGo (.Name x p) o r
   pure r):=by intro _;rfl) (hd:(x==("__debug__":Str))=false:=by exact zD T0):cP X σ loc md Q (.Attribute (.Name x p) name pos):=
 lU (aB hx ⟨564,_,_,aBV,u,S.look,by rw[C.cls];rfl,hn,hg,hp,hq⟩ hd) he
theorem aCe{α:Type}{l:List α}{k:Nat}(h:k<l.length):l[l.length - 1 - k]? =l.reverse[k]?:=by
 rw[List.getElem?_reverse (by simpa using h)]
theorem aDY(C:Cx G){R:RA}{ids:V}{T B:List V}{as:List (Addr×Addr×Lb)}{s t:Str}{v:V}{r c:Int}{Q:V→aA→Prop}(S:RS as B T ids R σ)(hz:as.length≤1000)(hk:tB (.tok s t v r c))
  (hq:∀n,gZ (as.map (·.2.2.name)) (.tok s t v r c)=.ok n→Q (.int n) σ) (hx:∀e,gZ (as.map (·.2.2.name)) (.tok s t v r c)=.error e→X e):aW Q σ X 8 (.ref 535) [.ref R.r,iR s t v r c]:=by
 refine aZ (n:=7) (gV (ps:=["self","token"]) C rfl rfl rfl rfl (tA fun Z Z Z=>.of_eq rfl)) (zD T0) (zD T0) rfl fun L hL=>?_
 have S':=S.upd (m:=.mark) hL
 refine nZ<|dG C rfl<|aB rfl ⟨_,_,_,_,_,_,rfl,rfl,rfl,aN (by kernel_rfl) ⟨_,bG _ _,?_⟩⟩
 by_cases hs:s="int"
 ·subst hs
  obtain⟨n,ch,rfl,hc⟩:=hk.2 rfl
  refine bI (by simp)<|bZ<|aY (n:=7) (aBo C) (aS C rfl) rfl (aD rfl) rfl<|aQ rfl<|aKu C hc (fun h1=>hx _ ?_) (fun h1 h2=>hx _ ?_) fun h1 h2=>?_
  ·exact aGd h1
  ·exact aF2 h1 h2
  ·show Q _ (eZ L (upd L .mark σ))
   rw[aU hL]
   exact hq n (aBk h1 h2)
 refine bB (decide_eq_false ‹_›)<|aH ?_
 refine aG (kH rfl rfl<|fE<|cY (uO C) rfl (eI _) rfl rfl<|aC (cY (hY C) rfl (aO _) rfl rfl<|aC (dX C S' rfl rfl rfl rfl<|aE<|fK (n:=as.length) (by unfold oM;rw[dA S'.ll];simp) (aM ‹_› (aD rfl))<|aE<|rZ ⟨_,.rng as.length (aM ‹_› (aD rfl)),?_⟩)))
 refine iI (f:=fun k:Nat=>V.int k) (fun ks loc σ'=>σ'=upd L .mark σ∧loc.lookup ("self":Str)=some (.val (.ref R.r))∧loc.lookup ("token":Str)=some (.val (iR s t v r c))∧
  ∃k,ks=(List.range as.length).drop k∧k≤as.length∧mM (as.map (·.2.2.name)).reverse t=(mM ((as.map (·.2.2.name)).reverse.drop k) t).map (·+k)) ?_ ?_ (List.range as.length) _ _ ⟨rfl,rfl,rfl,0,rfl,cM _,by simp⟩
 ·rintro k ks loc σ' ⟨rfl,h1,h2,k',h3,h4,h5⟩
  have hk1:k'<as.length:=by
   rcases Nat.lt_or_ge k' as.length with h|h
   ·exact h
   ·rw[List.drop_eq_nil_of_le (by simpa using h)] at h3
    cases h3
  rw[List.drop_eq_getElem_cons (by simpa using hk1),List.getElem_range] at h3
  cases h3
  obtain⟨p,hp⟩:∃p,as.reverse[k]? =some p:=⟨_,List.getElem?_eq_getElem (by simpa using hk1)⟩
  have hp':as[as.length - 1 - k]? =some p:=(aCe hk1).trans hp
  have hmem:p∈as:=iA hp'
  have hrev:(as.map (·.2.2.name)).reverse.drop k=p.2.2.name::(as.map (·.2.2.name)).reverse.drop (k+1):=by
   rw[←List.map_reverse]
   obtain⟨hl,he⟩:=gB hp
   rw[List.drop_eq_getElem_cons (by simpa using hk1),List.getElem_map,he]
  refine⟨_,rfl,?_⟩
  refine nZ<|lU<|bR<|dX C S' h1 rfl rfl rfl ?_
  refine aP<|aP<|cY (hY C) rfl (aO _) rfl rfl<|aC (dX C S' h1 rfl rfl rfl<|aE<|fK (n:=as.length) (by unfold oM;rw[dA S'.ll];simp) (aM ‹_› (aD rfl))<|aF ⟨_,.sub _ _,aB rfl ⟨_,.sub _ _,.ref p.1,?_,?_⟩⟩)
  ·refine .lst _ (as.map fun p=>V.ref p.1) _ _ (dA S'.ll) (by first|decide|(refine aM (by assumption) ?_;exact aD rfl)|(rw[show((as.length:Int) - 1 - (k:Int))=((as.length - 1 - k:Nat):Int) from(by rw[Int.ofNat_sub (Nat.le_sub_one_of_lt hk1),Int.ofNat_sub (Nat.one_le_of_lt hk1)];rfl)];exact vS (Nat.lt_of_le_of_lt (aM (Nat.sub_le _ _) (Nat.sub_le _ _)) (Nat.lt_of_le_of_lt hz (aD rfl))))) ?_
   refine rwL (show((as.length:Int) - 1 - (k:Int))=((as.length - 1 - k:Nat):Int) by rw[Int.ofNat_sub (Nat.le_sub_one_of_lt hk1),Int.ofNat_sub (Nat.one_le_of_lt hk1)];rfl) ?_
   exact gI (by rw[List.getElem?_map,hp'];rfl)
  refine⟨370,_,_,iW,_,(S'.lbs p hmem).look,by rw[C.cls];rfl,rfl,rfl,rfl,?_⟩
  refine dG C rfl<|aB h2 ⟨s,t,v,r,c,_,rfl,rfl,rfl,_,bG _ _,?_⟩
  by_cases hn:p.2.2.name=t
  ·refine bI (decide_eq_true ‹_›)<|bZ<|aB rfl ?_
   show Q _ (eZ L (upd L .mark σ))
   refine rwL (aU hL) ?_
   refine hq k (aA8 hs ?_)
   refine rwL h5 ?_
   refine rwL hrev ?_
   unfold mM
   refine rwL (if_pos hn) ?_
   simp
  ·refine bB (decide_eq_false ‹_›)<|aH<|aH ⟨rfl,h1,h2,k+1,?_,hk1,?_⟩
   ·rfl
   ·refine rwL h5 ?_
    refine rwL hrev ?_
    show Option.map _ (if p.2.2.name=t then some 0 else(mM _ t).map (·+1))=_
    refine rwL (if_neg hn) ?_
    induction mM ((as.map (·.2.2.name)).reverse.drop (k+1)) t with
    |none=>rfl
    |some j=>simp;exact Nat.add_right_comm _ _ _
 ·rintro loc σ' ⟨rfl,h1,h2,k,h3,h4,h5⟩
  have hkk:as.length≤k:=by
   rcases Nat.lt_or_ge k as.length with h|h
   ·have:=congrArg List.length h3;simp at this;exact Nat.sub_eq_zero_iff_le.mp this.symm
   ·exact h
  have h0:mM (as.map (·.2.2.name)).reverse t=none:=by
   refine rwL h5 ?_
   refine rwL (List.drop_eq_nil_of_le (by simpa using hkk)) ?_
   rfl
  refine cW<|aY (n:=7) (cU C) (aS C rfl) rfl (aD rfl) rfl<|aC (aP<|aN (by kernel_rfl)<|dG C rfl<|aB h2 ⟨s,t,v,r,c,_,rfl,rfl,rfl,_,.cat _ _ (by have:=hk.1;show 14+t.length≤2^20;exact aM (fV this 14) (aD rfl)),?_⟩)
  exact aQ h2<|lG C (hx _ (aHa hs h0))
end
theorem nq{m n:dJ}(h:Nat.beq m.ctorIdx n.ctorIdx=false):m≠n:=fun e=>iX (h.symm.trans ((congrArg (fun m:dJ=>Nat.beq m.ctorIdx n.ctorIdx) e).trans (Nat.beq_refl _)))
noncomputable def kpt:dJ→Bool
 |.lst _=>false
 |.ns ks _=> !decide (ks=iW)
 |_=>true
noncomputable def Kp(σ σ':aA):Prop:=∀a m,σ a=some m→kpt m=true→σ' a=some m
theorem Kp.refl(σ:aA):Kp σ σ:=fun Z Z h Z=>h
theorem Kp.trans{σ σ1 σ2:aA}(x:Kp σ σ1)(y:Kp σ1 σ2):Kp σ σ2:=fun a m h k=>y a m (x a m h k) k
theorem Kp.new{σ:aA}{a:Addr}{m:dJ}(h:σ a=none):Kp σ (upd a m σ):=fun b m' e Z=>bV e h
theorem Kp.put{σ:aA}{a:Addr}{m m':dJ}(h:σ a=some m)(hk:kpt m=false):Kp σ (upd a m' σ):=fun b m1 e k=>by
 refine rwL (aR _ _ (by rintro rfl;rw[h] at e;obtain rfl:=bE e;rw[hk] at k;exact iX k)) ?_
 exact e
theorem Kp.leave{σ σ':aA}{L:Addr}(hL:σ L=none)(h:Kp (upd L .mark σ) σ'):Kp σ (eZ L σ'):=fun a m e k=>by
 refine rwL (dP _ (dS e hL)) ?_
 exact h a m (bV e hL) k
theorem RS.leave{σ σ':aA}{R:RA}{ids:V}{T B:List V}{as:List (Addr×Addr×Lb)}{L:Addr}(h:Kp (Mine.upd L .mark σ) σ')(S:RS as B T ids R σ'):RS as B T ids R (eZ L σ'):=
 S.mono fun a m e hm=>by
  have:=h L .mark (aI ..) rfl
  refine rwL (dP _ (by rintro rfl;rw[this] at e;obtain rfl:=bE e;exact hm rfl)) ?_
  exact e
section
variable{σ:aA}{R:RA}{ids:V}{T B:List V}{as:List (Addr×Addr×Lb)}
theorem RS.setB(S:RS as B T ids R σ)(B':List V):RS as B' T ids R (Mine.upd R.b (.lst B') σ):=by
 have u:∀{a m},σ a=some m→a≠R.b→Mine.upd R.b (.lst B') σ a=some m:=fun h hn=>by exact rwL (aR _ _ hn) h
 have n:∀{a m},σ a=some m→(∀l,m≠.lst l)→a≠R.b:=fun h hm q=>by rw[q,S.bb] at h;obtain rfl:=bE h;exact hm _ rfl
 exact⟨u S.ins (n S.ins (fun Z=>nq rfl)),u S.ns (n S.ns (fun Z=>nq rfl)),u S.tt S.ne.2.1.symm,aI ..,u S.ll S.ne.1.symm,S.ne,fun p hp=>⟨u (S.lbs p hp).1 (n (S.lbs p hp).1 (fun Z=>nq rfl)),u (S.lbs p hp).2 (n (S.lbs p hp).2 (fun Z=>nq rfl))⟩,S.nd,fun p hp=>(S.kk p hp).mono (u (S.kk p hp).e (S.kk p hp).b)⟩
theorem RS.setT(S:RS as B T ids R σ)(T':List V):RS as B T' ids R (Mine.upd R.t (.lst T') σ):=by
 have u:∀{a m},σ a=some m→a≠R.t→Mine.upd R.t (.lst T') σ a=some m:=fun h hn=>by exact rwL (aR _ _ hn) h
 have n:∀{a m},σ a=some m→(∀l,m≠.lst l)→a≠R.t:=fun h hm q=>by rw[q,S.tt] at h;obtain rfl:=bE h;exact hm _ rfl
 exact⟨u S.ins (n S.ins (fun Z=>nq rfl)),u S.ns (n S.ns (fun Z=>nq rfl)),aI ..,u S.bb S.ne.2.1,u S.ll S.ne.2.2,S.ne,fun p hp=>⟨u (S.lbs p hp).1 (n (S.lbs p hp).1 (fun Z=>nq rfl)),u (S.lbs p hp).2 (n (S.lbs p hp).2 (fun Z=>nq rfl))⟩,S.nd,fun p hp=>(S.kk p hp).mono (u (S.kk p hp).e (S.kk p hp).t)⟩
theorem RS.setL(S:RS as B T ids R σ){as':List (Addr×Addr×Lb)}(h1:∀p∈as',lR σ p)(h2:(as'.map (·.2.1)).Nodup)(h3:∀p∈R.ks,p.1∉as'.map (·.2.1)):RS as' B T ids R (Mine.upd R.l (.lst (as'.map fun p=>V.ref p.1)) σ):=by
 have u:∀{a m},σ a=some m→a≠R.l→Mine.upd R.l (.lst (as'.map fun p=>V.ref p.1)) σ a=some m:=fun h hn=>by exact rwL (aR _ _ hn) h
 have n:∀{a m},σ a=some m→(∀l,m≠.lst l)→a≠R.l:=fun h hm q=>by rw[q,S.ll] at h;obtain rfl:=bE h;exact hm _ rfl
 exact⟨u S.ins (n S.ins (fun Z=>nq rfl)),u S.ns (n S.ns (fun Z=>nq rfl)),u S.tt S.ne.2.2.symm,u S.bb S.ne.1,aI ..,S.ne,fun p hp=>⟨u (h1 p hp).1 (n (h1 p hp).1 (fun Z=>nq rfl)),u (h1 p hp).2 (n (h1 p hp).2 (fun Z=>nq rfl))⟩,h2,fun p hp=>have K:=S.kk p hp;⟨u K.e K.l,K.m,K.t,K.b,K.l,h3 p hp⟩⟩
theorem RS.setE{x dx:Addr}{lb:Lb}(S:RS (as++[(x,dx,lb)]) B T ids R σ)(lb':Lb):RS (as++[(x,dx,lb')]) B T ids R (Mine.upd dx (.ns iW (qT lb')) σ):=by
 have hp:=S.lbs (x,dx,lb) (by simp)
 have u:∀{a m},σ a=some m→a≠dx→Mine.upd dx (.ns iW (qT lb')) σ a=some m:=fun h hn=>by exact rwL (aR _ _ hn) h
 have n:∀{a m},σ a=some m→(∀vs,m≠.ns iW vs)→a≠dx:=fun h hm q=>by rw[q] at h;have:=hp.2;rw[h] at this;obtain rfl:=bE this;exact hm _ rfl
 have nd:=S.nd
 rw[eD,List.nodup_append] at nd
 refine⟨u S.ins (n S.ins (fun Z=>nq rfl)),u S.ns (n S.ns (fun vs q=>by injection q with q1 q2;revert q1;exact zD T0)),u S.tt (n S.tt (fun Z=>nq rfl)),u S.bb (n S.bb (fun Z=>nq rfl)),?_,S.ne,fun p hq=>?_,?_,fun p hq=>?_⟩
 ·have:=u S.ll (n S.ll (fun Z=>nq rfl))
  refine rwL this ?_
  simp
 ·rcases gK hq with h|h
  ·have h1:=S.lbs p (List.mem_append_left _ h)
   exact⟨u h1.1 (n h1.1 (fun Z=>nq rfl)),u h1.2 fun q=>nd.2.2 p.2.1 (List.mem_map.mpr ⟨p,h,rfl⟩) dx (by simp) q⟩
  ·simp at h;subst h
   exact⟨u hp.1 (n hp.1 (fun Z=>nq rfl)),aI ..⟩
 ·have:=S.nd
  simpa using this
 ·have K:=S.kk p hq
  exact⟨u K.e (fun q=>K.n (by rw[q];simp)),K.m,K.t,K.b,K.l,by have:=K.n;simpa using this⟩
end
inductive aLf(σ:aA)(a:Addr)(y:V)(Q:V→aA→Prop):Prop|mk (l:List V) (h1:σ a=some (.lst l)) (h2:l.length≤2^20) (q:Q .none (upd a (.lst (l++[y])) σ))
section
variable{md:Md}{loc:aX}{σ:aA}{X:bF→Prop}
theorem cE(C:Cx G){x name:Str}{p apos pos:Pos}{es:List Expr}{fa:Addr}{n:Nat}{R:RA}{ids:V}{T B:List V}{as:List (Addr×Addr×Lb)}{Q:V→aA→Prop}(S:RS as B T ids R σ)(hd:md.hd=none)(hx:loc.lookup x=some (.val (.ref R.r)))
  (hk:aBV.contains name=false) (hm:aC7 (KK G.P) 564 name fa=true) (kp:lO (.ref fa)) (hn:n≤md.n) (h:nW md es loc σ (aMs n (.ref fa) (.ref R.r) Q X) X) (hs:es.all fF=true:=by rfl) (dx:(x==("__debug__":Str))=false:=by exact zD T0)
  (he:∀env,∃pl:Sem Bool,eval (.Call (.Attribute (.Name x p) name apos) es [] pos) env=(do
   let ov ←eval (.Name x p) env
   standAt apos.atName
   let(f,first) ←holding [ov] (getMethod ov name pl)
   callWith pos f first (backTo pos (starEach es env)) (backToKw pos (keywordEach [] env))):=by intro _;exact⟨_,by with_unfolding_all rfl⟩):cP X σ loc md Q (.Call (.Attribute (.Name x p) name apos) es [] pos):=
 cI hd (aB hx ⟨_,_,n,.own 564 _ _ fa S.look hk ⟨_,C.k,hm⟩,kp,hn,h⟩ dx) hs he
abbrev aPB(a:Addr)(Q:V→aA→Prop):V→aA→Prop:=fun y σ2=>aLf σ2 a y Q
inductive aOP(md:Md)(e:Expr)(loc:aX)(Q:V→aA→Prop)(X:bF→Prop)(x:V)(σ1:aA):Prop|mk (a:Addr) (l1:List V) (h1:x=.ref a) (h2:σ1 a=some (.lst l1)) (q:cP X σ1 loc md (aPB a Q) e)
inductive aPs(Q:V→aA→Prop)(x:V)(σ1:aA):Prop|mk (a:Addr) (l:List V) (y:V) (h1:x=.ref a) (h2:σ1 a=some (.lst (l++[y]))) (h3:l.length≤2^20) (q:Q y (upd a (.lst l) σ1))
theorem bM{o e:Expr}{apos pos:Pos}{Q:V→aA→Prop}(hd:md.hd=none)
  (h:cP X σ loc md (aOP md e loc Q X) o) (hs:fF e=true:=by rfl)
  (he:∀env,∃pl:Sem Bool,eval (.Call (.Attribute o "append" apos) [e] [] pos) env=(do
   let ov ←eval o env
   standAt apos.atName
   let(f,first) ←holding [ov] (getMethod ov "append" pl)
   callWith pos f first (backTo pos (starEach [e] env)) (backToKw pos (keywordEach [] env))):=by intro _;exact⟨_,by with_unfolding_all rfl⟩):cP X σ loc md Q (.Call (.Attribute o "append" apos) [e] [] pos):=by
 refine cI hd (h.mono (fun x σ1 ⟨a,l1,hx,h1,hE⟩=>⟨.builtin "list.append",[x],0,.blt "list" "list.append" (by subst hx;unfold fS;rw[dA h1]) F.plainAttrs_list F.slot_list_append (by kernel_rfl),aO _,cM _,?_⟩) fun Z z=>z) (by rw[List.all_cons,hs];rfl) he
 subst hx
 exact aC (hE.mono (fun y σ2 ⟨l,h2,hz,hq⟩=>aE (aBj h2 hz hq)) fun Z z=>z) hs
theorem aDy{o:Expr}{apos pos:Pos}{Q:V→aA→Prop}(hd:md.hd=none)
  (h:cP X σ loc md (aPs Q) o)
  (he:∀env,∃pl:Sem Bool,eval (.Call (.Attribute o "pop" apos) [] [] pos) env=(do
   let ov ←eval o env
   standAt apos.atName
   let(f,first) ←holding [ov] (getMethod ov "pop" pl)
   callWith pos f first (backTo pos (starEach [] env)) (backToKw pos (keywordEach [] env))):=by intro _;exact⟨_,by with_unfolding_all rfl⟩):cP X σ loc md Q (.Call (.Attribute o "pop" apos) [] [] pos):=by
 refine cI hd (h.mono (fun x σ1 ⟨a,l,y,hx,h1,hz,hq⟩=>⟨.builtin "list.pop",[x],0,.blt "list" "list.pop" (by subst hx;unfold fS;rw[dA h1]) F.plainAttrs_list F.slot_list_pop (by kernel_rfl),aO _,cM _,?_⟩) fun Z z=>z) rfl he
 subst hx
 exact aE (aNN h1 hz hq)
variable{R:RA}{ids:V}{T B:List V}{as:List (Addr×Addr×Lb)}
theorem aC6(C:Cx G){iv:V}{x dx:Addr}{lb:Lb}{Q:V→aA→Prop}(S:RS as B T ids R σ)(hb:B.length≤2^20)(hl:as.length≤2^20)(hx:lR σ (x,dx,lb))(hd:dx∉as.map (·.2.1))(hk:∀p∈R.ks,p.1≠dx)
  (hq:∀σ',RS (as++[(x,dx,lb)]) (B++[iv]) T ids R σ'→Kp σ σ'→Q .none σ'):aW Q σ X 1 (.ref 444) [.ref R.r,iv,.ref x]:=by
 refine aZ (n:=0) (gV (ps:=["self","instruction","label"]) C rfl rfl rfl rfl (bt3 fun Z Z Z Z=>.of_eq rfl)) (zD T0) (zD T0) rfl fun L hL=>?_
 have S0:=S.upd (m:=.mark) hL
 refine cW<|bM rfl<|dX C S0 rfl rfl rfl rfl ⟨_,_,rfl,S0.bb,aB rfl ⟨_,S0.bb,hb,?_⟩⟩
 have S1:=S0.setB (B++[iv])
 have K1:Kp (upd L .mark σ) (upd R.b (.lst (B++[iv])) (upd L .mark σ)):=.put S0.bb rfl
 refine cW<|bM rfl<|dX C S1 rfl rfl rfl rfl ⟨_,_,rfl,S1.ll,aB rfl ⟨_,S1.ll,by simpa using hl,?_⟩⟩
 have hx1:lR (upd R.b (.lst (B++[iv])) (upd L .mark σ)) (x,dx,lb):=by
  have h0:lR (upd L .mark σ) (x,dx,lb):=⟨bV hx.1 hL,bV hx.2 hL⟩
  exact⟨eW h0.1 S0.bb (nq rfl),eW h0.2 S0.bb (nq rfl)⟩
 have S2:=S1.setL (as':=as++[(x,dx,lb)]) (fun p hp=>by
  rcases gK hp with h|h
  ·exact S1.lbs p h
  ·simp at h;subst h;exact hx1) (by
  rw[eD,List.nodup_append]
  exact⟨S.nd,by simp,fun a ha b hb=>by simp at hb;subst hb;rintro rfl;exact hd ha⟩) (fun p hp q=>by
  rw[eD] at q
  rcases gK q with h|h
  ·exact(S.kk p hp).n h
  ·exact hk p hp (eR h))
 rw[eD] at S2
 have K2:=K1.trans (.put S1.ll rfl (m':=.lst (List.map (fun p=>V.ref p.1) as++List.map (fun p=>V.ref p.1) [(x,dx,lb)])))
 refine aH ?_
 exact hq _ (S2.leave K2) (K2.leave hL)
theorem aDM(C:Cx G){p:Addr×Addr×Lb}{Q:V→aA→Prop}(S:RS (as++[p]) B T ids R σ)(hb:B.length≤2^20)(hl:as.length≤2^20)
  (hq:∀σ',RS as (B++[.tup [.int 11]]) T ids R σ'→Kp σ σ'→Q .none σ'):aW Q σ X 1 (.ref 451) [.ref R.r]:=by
 refine aZ (n:=0) (gV (ps:=["self"]) C rfl rfl rfl rfl (bt1 fun Z Z=>.of_eq rfl)) (zD T0) (zD T0) rfl fun L hL=>?_
 have S0:=S.upd (m:=.mark) hL
 have hll:=S0.ll
 rw[eD,List.map_cons,List.map_nil] at hll
 refine cW<|aDy rfl<|dX C S0 rfl rfl rfl rfl ⟨_,_,_,rfl,hll,by simpa using hl,?_⟩
 have nd:=S.nd
 rw[eD,List.nodup_append] at nd
 have S1:=S0.setL (as':=as) (fun q hq=>S0.lbs q (List.mem_append_left _ hq)) nd.1 (fun q hq h=>(S0.kk q hq).n (rwL eD (List.mem_append_left _ h)))
 have K1:Kp (upd L .mark σ) (upd R.l (.lst (List.map (fun p=>V.ref p.1) as)) (upd L .mark σ)):=.put S0.ll rfl
 refine cW<|bM rfl<|dX C S1 rfl rfl rfl rfl ⟨_,_,rfl,S1.bb,aT<|aC<|bA (aJY C) rfl<|aE ⟨aD rfl,_,S1.bb,hb,?_⟩⟩
 have S2:=S1.setB (B++[.tup [.int 11]])
 have K2:=K1.trans (.put S1.bb rfl (m':=.lst (B++[.tup [.int 11]])))
 exact aH<|hq _ (S2.leave K2) (K2.leave hL)
end
section
variable{md:Md}{loc:aX}{σ:aA}{X:bF→Prop}
variable{R:RA}{ids:V}{T B:List V}{as:List (Addr×Addr×Lb)}
abbrev LpK(J K:aX→aA→Prop)(Q:gA→aX→aA→Prop):gA→aX→aA→Prop:=fun fl loc σ=>match fl with
   |.next|.cont=>J loc σ
   |.brk=>K loc σ
   |.ret r=>Q (.ret r) loc σ
inductive WhT{α:Type}(md:Md)(body:List Stmt)(J:List α→aX→aA→Prop)(K:aX→aA→Prop)(Q:gA→aX→aA→Prop)(X:bF→Prop)(as:List α)(loc:aX)(σ:aA):Prop|mk (a:α) (as':List α) (h:as=a::as') (q:jC X σ loc md (LpK (J as') K Q) body)
abbrev WhQ{α:Type}(md:Md)(body:List Stmt)(J:List α→aX→aA→Prop)(K:aX→aA→Prop)(Q:gA→aX→aA→Prop)(X:bF→Prop)(as:List α)(loc:aX):Bool→aA→Prop:=fun b σ1=>if b=true then WhT md body J K Q X as loc σ1 else K loc σ1
theorem mV{α:Type}{test:Expr}{body:List Stmt}{Q:gA→aX→aA→Prop}(J:List α→aX→aA→Prop)(K:aX→aA→Prop)(fin:∀loc σ,K loc σ→Q .next loc σ)
  (step:∀as loc σ,J as loc σ→qI md test loc σ (WhQ md body J K Q X as loc) X) (as:List α):∀(loc:aX) (σ:aA),J as loc σ→aGN md test body Q X (as.length+1) loc σ:=by
 induction as with
 |nil=>
  intro loc σ h A env m s S
  refine wpAny_mono (step [] loc σ h A env m s S) (fun b s' ⟨σ',h1,h2,h3⟩=>⟨σ',?_,h2,h3⟩) fun Z Z z=>z
  induction b with
  |false=>exact fin _ _ h1
  |true=>obtain⟨a,as',e,_⟩:=h1;cases e
 |cons a0 as0 ih=>
  intro loc σ h A env m s S
  refine wpAny_mono (step (a0::as0) loc σ h A env m s S) (fun b s' ⟨σ',h1,h2,h3⟩=>⟨σ',?_,h2,h3⟩) fun Z Z z=>z
  induction b with
  |false=>exact fin _ _ h1
  |true=>
   obtain⟨a,as',e,h4⟩:=h1
   cases e
   refine h4.mono fun fl l s q=>?_
   induction fl with
   |next=>exact ih l s q
   |cont=>exact ih l s q
   |brk=>exact fin _ _ q
   |ret r=>exact q
theorem jP{names:List Str}{x:It}{xs:List It}:eA names (x::xs)=(match gZ names x with
  |.error e=>.error e
  |.ok n=>match eA names xs with
   |.error e=>.error e
   |.ok ns=>.ok (n::ns)):=rfl
theorem tQ{names:List Str}{xs ys:List It}:∀{ns:List Int},eA names xs=.ok ns→eA names (xs++ys)=(match eA names ys with
  |.ok ms=>.ok (ns++ms)
  |.error e=>.error e):=by
 induction xs with
 |nil=>
  intro ns h
  obtain rfl:=Except.ok.inj h
  simp only[List.nil_append]
  cases eA names ys <;> rfl
 |cons x xs ih=>
  intro ns h
  replace h:=jP▸h
  refine rwL List.cons_append ?_
  refine rwL jP ?_
  induction hx:gZ names x with
  |error e=>
   replace h:=hx▸h
   exact exE h
  |ok n=>
   replace h:=hx▸h
   induction hs:eA names xs with
   |error e=>
    replace h:=hs▸h
    exact exE h
   |ok ms=>
    replace h:=hs▸h
    obtain rfl:=Except.ok.inj h
    simp only[ih hs]
    cases eA names ys <;> rfl
theorem aBr{names:List Str}{xs:List It}:∀{ns:List Int},eA names xs=.ok ns→ns.length=xs.length:=by
 induction xs with
 |nil=>intro ns h;obtain rfl:=Except.ok.inj h;rfl
 |cons x xs ih=>
  intro ns h
  rw[jP] at h
  induction hx:gZ names x with
  |error e=>rw[hx] at h;exact exE h
  |ok n=>
   rw[hx] at h
   induction hs:eA names xs with
   |error e=>rw[hs] at h;exact exE h
   |ok ms=>rw[hs] at h;obtain rfl:=Except.ok.inj h;rw[eX,ih hs,eX]
noncomputable def jI(form:Str)(l:List It)(i:Nat):List It:=if form="labels" then iF l i else(iF l i).take 1
theorem aGP{x:It}(h:aAZ x=true):∃s t v r c,x=.tok s t v r c:=by
 cases x with
 |tok s t v r c=>exact⟨s,t,v,r,c,rfl⟩
 |br=>exact iX h
theorem aFm{l:List It}:∀{xs:List It} {i:Nat},iF l i=xs→∀x∈xs,x∈l
 |[],_,_,x,hx=>by cases hx
 |y::ys,i,h,x,hx=>by
  obtain⟨h1,_,h3⟩:=qS h
  rcases eM hx with rfl|hx
  ·exact iA h1
  ·exact aFm h3 x hx
inductive aPK(σ0:aA)(f r:Addr)(code:Int)(form:Str)(l:List It)(i:Nat)(nms:List Str)(al:List It)(rest:List It)(loc:aX)(σ':aA):Prop
 |mk (j:Nat) (acc:List Int) (e:σ'=upd f (.lst (acc.map V.int)) σ0) (l1:loc.lookup ("self":Str)=some (.val (.ref r))) (l2:loc.lookup ("code":Str)=some (.val (.int code))) (l3:loc.lookup ("form":Str)=some (.val (.str form))) (l4:loc.lookup ("items":Str)=some (.val (.lst (cN l)))) (l5:loc.lookup ("at":Str)=some (.val (.int (j:Nat)))) (l6:loc.lookup ("found":Str)=some (.val (.ref f)))
  (hr:rest=(if form="labels" then iF l j else[])) (hj:j=i+acc.length) (done:List It) (hd:al=done++rest) (ha:eA nms done=.ok acc)
inductive aPy(σ0:aA)(f:Addr)(code:Int)(l:List It)(i:Nat)(nms:List Str)(al:List It)(loc:aX)(σ':aA):Prop
 |mk (acc:List Int) (e:σ'=upd f (.lst (acc.map V.int)) σ0) (l2:loc.lookup ("code":Str)=some (.val (.int code))) (l5:loc.lookup ("at":Str)=some (.val (.int ((i+acc.length:Nat):Int)))) (l6:loc.lookup ("found":Str)=some (.val (.ref f))) (hl:acc.length≤l.length+1) (ha:eA nms al=.ok acc)
theorem aIv(C:Cx G){form:Str}{l:List It}{i:Nat}{tok:It}{code:Int}{Q:V→aA→Prop}(S:RS as B T ids R σ)(hl:as.length≤1000)(hz:l.length≤2^19)(ho:∀x∈l,tB x)(hf:form="label"∨form="labels")
  (h0:pG l i=false→X (iC "unexpected token" (l[i]?.getD tok)))
  (hq:∀ns,pG l i=true→eA (as.map (·.2.2.name)) (jI form l i)=.ok ns→Q (.tup [.tup (.int code::ns.map V.int),.int ((i+ns.length:Nat):Int)]) σ)
  (hx:∀e,pG l i=true→eA (as.map (·.2.2.name)) (jI form l i)=.error e→X e):aW Q σ X 10 (.ref 521) [.ref R.r,.int code,.str form,oF tok,.lst (cN l),.int i]:=by
 refine qJ (aZ (n:=9) (gV (ps:=["self","code","form","token","items","at"]) C rfl rfl rfl rfl (bt6 fun Z Z Z Z Z Z Z=>.of_eq rfl)) (zD T0) (zD T0) rfl fun L hL=>?_)
 have S0:=S.upd (m:=.mark) hL
 have n1:form≠"indirect":=by rcases hf with rfl|rfl <;> exact zD T0
 have n2:form≠"local":=by rcases hf with rfl|rfl <;> exact zD T0
 refine eB rfl<|aN (by kernel_rfl) ⟨_,bG _ _,bB (decide_eq_false ‹_›)<|aH ?_⟩
 refine cG rfl<|aY (n:=9) (wI C) (aS C rfl) rfl (aD rfl) rfl<|bL rfl<|bL rfl<|aQ rfl<|aMF C (aM ‹_› (aD rfl)) (fun x hi hx0=>?_) h0
 refine eB rfl<|aN (by kernel_rfl) ⟨_,bG _ _,bB (decide_eq_false ‹_›)<|aH ?_⟩
 have hrun:=wC hx0 hi
 have hgo:jI form l i=x::(if form="labels" then iF l (i+1) else[]):=by
  unfold jI;rw[hrun];split <;> rfl
 obtain⟨s,t,v,r,c,rfl⟩:=aGP (x:=x) (by obtain⟨s,t,v,r,c,e,hs⟩:=rS hi;rw[hx0] at e;obtain rfl:=bE e;exact hs)
 rw[hgo] at hq hx
 refine cG rfl<|bJ<|aC (cE C (fa:=535) (n:=8) S0 rfl rfl rfl (by kernel_rfl) (aS C rfl) (aD rfl)<|aQ rfl ?_)
 rw[cQ]
 refine aDY C S0 hl (ho _ (iA hx0)) (fun n hn=>?_) fun e he=>hx e hi (rwL jP (rwL he rfl))
 refine aE ⟨aD rfl,.inr fun f hF=>?_⟩
 have hfL:f≠L:=by rintro rfl;rw[aI] at hF;exact cZ (Eq.symm hF)
 have hfσ:σ f=none:=by rw[aR _ _ hfL] at hF;exact hF
 refine cG rfl<|aP<|aB rfl<|aF ⟨_,.add _ _,?_⟩
 refine aG<|lB _ (mV (aPK (upd L .mark σ) f R.r code form l i (as.map (·.2.2.name)) (.tok s t v r c::(if form="labels" then iF l (i+1) else[])))
  (aPy (upd L .mark σ) f code l i (as.map (·.2.2.name)) (.tok s t v r c::(if form="labels" then iF l (i+1) else[]))) ?_ ?_ _ _ _ ⟨i+1,[n],rfl,rfl,rfl,rfl,rfl,rfl,rfl,rfl,rfl,[.tok s t v r c],rfl,by rw[jP,hn];rfl⟩)
 ·rintro loc σ' ⟨acc,rfl,l2,l5,l6,hal,hacc⟩
  refine bZ<|aT<|aC (cY (uM C) rfl (eI _) rfl rfl<|aC (jG<|bJ<|aQ l2 ⟨aD rfl,.inl<|aB l6 ⟨_,_,rfl,dA (aI ..),?_,.inl<|aE<|rQ rfl ?_<|aQ l5 ⟨aD rfl,?_⟩⟩⟩))
  ·simp;exact aM (fV (aM hal (fM hz)) 1) (aD rfl)
  ·simp;exact aM (aM hal (fM hz)) (aD rfl)
  ·refine⟨f,_,(dP _ hfL).trans (aI ..),by nofun,by nofun,?_⟩
   rw[cF hfL,aU hL,aU hfσ]
   exact hq acc hi hacc
 rintro rest loc σ' ⟨j,acc,rfl,l1,l2,l3,l4,l5,l6,hrest,hj,done,hd,hacc⟩
 have Sf:RS as B T ids R (upd f (.lst (acc.map V.int)) (upd L .mark σ)):=S0.upd hF
 have hjl:acc.length≤l.length+1:=by
  have h1:=(gB hx0).1
  have h2:=congrArg List.length hd
  have h3:(iF l (i+1)).length≤l.length:=by
   unfold iF;exact aM (List.takeWhile_sublist _).length_le (by simp)
  have h4:acc.length=done.length:=aBr hacc
  rw[cL,eX] at h2
  split at h2
  ·exact aM (dH h4) (aM (eL _ _) (aM (dH h2.symm) (fM h3)))
  ·rw[List.length_nil] at h2;exact aM (dH h4) (aM (eL _ _) (aM (dH h2.symm) (fA _ _)))
 have halt:rest=[]→eA (as.map (·.2.2.name)) (.tok s t v r c::(if form="labels" then iF l (i+1) else[]))=.ok acc:=fun hr=>by
  rw[hd,hr,List.append_nil];exact hacc
 refine bU<|aV<|aB l3<|aN (by kernel_rfl) ⟨_,bG _ _,?_⟩
 by_cases hL2:form="labels"
 ·refine bI (decide_eq_true ‹_›)<|bU<|bT<|aY (n:=1) (pJ C) (aS C rfl) rfl (aD rfl) rfl<|bL l4<|aQ l5<|aLg C (aM ‹_› (aD rfl)) ⟨_,rfl,?_⟩
  rw[if_pos hL2] at hrest
  induction hb:pG l j with
  |false=>
   refine bB rfl<|bB rfl ?_
   have hr:rest=[]:=by
    induction rest with
    |nil=>rfl
    |cons y ys=>have:=(qS hrest.symm).2.1;rw[hb] at this;exact iX this
   exact⟨acc,rfl,l2,rwR hj l5,l6,hjl,halt hr⟩
  |true=>
   obtain⟨s',t',v',r',c',hy,hs'⟩:=rS hb
   have hr:=wC hy hb
   refine bI rfl<|cK<|bI rfl ⟨.tok s' t' v' r' c',iF l (j+1),rwL hrest (rwL hr rfl),?_⟩
   refine cW<|bM rfl<|aB l6 ⟨_,_,rfl,aI ..,cE C (fa:=535) (n:=8) Sf rfl l1 rfl (by kernel_rfl) (aS C rfl) (aD rfl)<|aC (bY l4 l5 rfl (aM ‹_› (aD rfl)) hy<|aE ?_)⟩
   rw[cQ]
   have hap:eA (as.map (·.2.2.name)) (.tok s t v r c::(if form="labels" then iF l (i+1) else[]))=_:=(congrArg _ hd).trans (tQ (ys:=rest) hacc)
   rw[hrest,hr] at hap
   refine aDY C Sf hl (ho _ (iA hy)) (fun n' hn'=>?_) fun e he=>hx e hi (rwL hap (rwL jP (rwL he rfl)))
   refine⟨_,aI ..,by simp;exact aM hjl (aM (fM hz) (aD rfl)),?_⟩
   rw[bK]
   refine cG rfl<|aP<|aB l5<|aF ⟨_,.add _ _,?_⟩
   refine aH ⟨j+1,acc++[n'],by rw[eD];rfl,l1,l2,l3,l4,rfl,l6,Eq.symm (if_pos hL2),by simp;exact congrArg (·+1) hj,done++[.tok s' t' v' r' c'],?_,?_⟩
   ·rw[hd,hrest,hr];simp
   ·rw[tQ hacc,jP,hn'];rfl
 ·refine bB (decide_eq_false ‹_›)<|bB rfl ?_
  rw[if_neg hL2] at hrest
  exact⟨acc,rfl,l2,rwR hj l5,l6,hjl,halt hrest⟩
end
noncomputable def wQ(t:Str):Option Int:=match kD t with
 |.int i=>some i
 |_=>none
theorem aCl{t:Str}:∀l:List (Int×Str),(∃i,pA t l=.int i)∨pA t l=.none
 |[]=>.inr rfl
 |(k,v)::r=>by
  show(∃i,(if v=t∧k≠28 then V.int k else pA t r)=.int i)∨(if v=t∧k≠28 then V.int k else pA t r)=.none
  refine iteD (fun h=>?_) fun h=>?_
  ·exact .inl ⟨k,rfl⟩
  ·exact aCl r
set_option tactic.hygienic true in
theorem aCv{t:Str}(h:wQ t=none):kD t=.none:=by
 unfold wQ at h
 have:(∃i,kD t=.int i)∨kD t=.none:=by
  unfold kD
  split
  ·rename_i i e;exact .inl ⟨i,rfl⟩
  ·exact aCl _
 rcases this with⟨i,e⟩|e
 ·replace h:=e▸h
  exact cZ (Eq.symm h)
 ·exact e
set_option tactic.hygienic true in
theorem aCz{t:Str}{i:Int}(h:wQ t=some i):kD t=.int i:=by
 unfold wQ at h
 split at h
 ·rename_i j e;obtain rfl:=bE h;exact e
 ·exact cZ h
noncomputable def pH:List Str:=["none","memory","two_memories"]
structure fP(σ:aA)(rn dn:Addr)(l:List It)(at_:Nat)(fold:Bool)(base:V):Prop where
 ins:σ rn=some (.ins 391 dn)
 ns:σ dn=some (.ns lS [.lst (cN l),.int at_,.bool fold,base])
theorem fP.look{σ:aA}{rn dn:Addr}{l:List It}{at_:Nat}{fold:Bool}{base:V}(h:fP σ rn dn l at_ fold base):look σ (.ref rn)=some (391,lS,[.lst (cN l),.int at_,.bool fold,base]):=
 vA h.ins h.ns
theorem fP.kp{σ σ':aA}{rn dn:Addr}{l:List It}{at_:Nat}{fold:Bool}{base:V}(h:fP σ rn dn l at_ fold base)(k:Kp σ σ'):fP σ' rn dn l at_ fold base:=⟨k _ _ h.ins rfl,k _ _ h.ns (by show(!decide (lS=iW))=true;exact rfl)⟩
noncomputable def tH(ls:List Lb)(base:Nat)(l:List It)(i:Nat)(s t:Str)(v:V)(r c:Int):Except bF (Nat×V×List Lb):=
 if ls.length=base then .error (iC "unexpected token" (.tok s t v r c)) else
 match ls.getLast? with
 |none=>.error (iC "unexpected token" (.tok s t v r c))
 |some lb=>
  if(dW l i).any (fun n=> !decide (n=lb.name))=true then .error (iC "mismatching label" (l[i]?.getD (.tok s t v r c)))
  else if t="end" then .ok (i+(if(dW l i).isSome=true then 1 else 0),.tup [.int 11],ls.dropLast)
  else if lb.word≠"if"∨lb.els=true then .error (iC "unexpected token" (.tok s t v r c))
  else .ok (i+(if(dW l i).isSome=true then 1 else 0),.tup [.int 5],ls.dropLast++[{lb with els:=true}])
section
variable{md:Md}{loc:aX}{σ:aA}{X:bF→Prop}
variable{R:RA}{ids:V}{T B:List V}{as:List (Addr×Addr×Lb)}
omit md loc σ X R ids T B as in
noncomputable def vQ(names:List Str)(l:List It)(i:Nat)(f:Str)(code:Int)(tk:It):Except bF (V×Nat):=if pH.any (·==f)=true then .ok (.tup [.int code],i)
  else if pG l i=true then(match eA names (jI f l i) with
   |.ok ns=>.ok (.tup (.int code::ns.map V.int),i+ns.length)
   |.error e=>.error e)
  else .error (iC "unexpected token" (l[i]?.getD tk))
omit md loc σ X R ids T B as in
end
noncomputable def fH(as:List (Addr×Addr×Lb)):List Lb:=as.map (·.2.2)
theorem aBq(as:List (Addr×Addr×Lb)):(fH as).map (·.name)=as.map (·.2.2.name):=by unfold fH;rw[List.map_map];rfl
theorem aEZ{l:List It}{i:Nat}:(∃s t v r c,l[i]? =some (.tok s t v r c)∧s="id"∧dW l i=some t∧pG l i=true)∨(dW l i=none∧(pG l i=true→∃s t v r c,l[i]? =some (.tok s t v r c)∧s≠"id")):=by
 induction h:l[i]? with
 |none=>exact .inr ⟨by unfold dW;rw[h],fun q=>by unfold pG at q;rw[h] at q;exact iX q⟩
 |some x=>
  cases x with
  |br l' r c=>exact .inr ⟨by unfold dW;rw[h],fun q=>by unfold pG at q;rw[h] at q;exact iX q⟩
  |tok s t v r c=>
   by_cases hs:s="id"
   ·exact .inl ⟨s,t,v,r,c,rfl,hs,by unfold dW;rw[h];exact if_pos hs,by unfold pG;rw[h];subst hs;show hiB "id"=true;exact rfl⟩
   ·exact .inr ⟨by unfold dW;rw[h];exact if_neg hs,fun Z=>⟨s,t,v,r,c,rfl,hs⟩⟩
section
variable{md:Md}{loc:aX}{σ:aA}{X:bF→Prop}
variable{R:RA}{ids:V}{T B:List V}{as:List (Addr×Addr×Lb)}
theorem iB(C:Cx G){x name:Str}{p pos:Pos}{rn dn:Addr}{l:List It}{i:Nat}{fold:Bool}{base u:V}{Q:V→aA→Prop}(S:fP σ rn dn l i fold base)(hx:loc.lookup x=some (.val (.ref rn)))
  (hn:lS.contains name=true) (hg:iY lS [.lst (cN l),.int i,.bool fold,base] name=some u) (hp:mG u=true) (hq:Q u σ)
  (he:∀env,eval (.Attribute (.Name x p) name pos) env=(do
   let o ←eval (.Name x p) env
   standAt pos.atName
   let r ←holding [o] (getAttr o name true)
   letTemporaryGo (.Name x p) o r
   pure r):=by intro _;rfl) (hd:(x==("__debug__":Str))=false:=by exact zD T0):cP X σ loc md Q (.Attribute (.Name x p) name pos):=
 lU (aB hx ⟨391,_,_,lS,u,S.look,by rw[C.cls];rfl,hn,hg,hp,hq⟩ hd) he
inductive LbR(name:Str)(Q:V→aA→Prop)(x:V)(σ1:aA):Prop|mk (p:Addr×Addr×Lb) (u:V) (h1:x=.ref p.1) (h2:lR σ1 p) (h3:iY iW (qT p.2.2) name=some u) (h4:mG u=true) (q:Q u σ1)
theorem aEe(C:Cx G){e:Expr}{name:Str}{pos:Pos}{Q:V→aA→Prop}(hn:iW.contains name=true)
  (h:cP X σ loc md (LbR name Q) e)
  (he:∀env,eval (.Attribute e name pos) env=(do
   let o ←eval e env
   standAt pos.atName
   let r ←holding [o] (getAttr o name true)
   letTemporaryGo e o r
   pure r):=by intro _;rfl):cP X σ loc md Q (.Attribute e name pos):=
 lU (h.mono (fun x σ1 ⟨p,u,hx,hl,hg,hp,hq⟩=>⟨370,_,_,iW,u,rwL hx hl.look,by rw[C.cls];rfl,hn,hg,hp,hq⟩) fun Z z=>z) he
theorem sN{l:List It}{i:Nat}{x:It}{Q:V→aA→Prop}(hz:l.length≤2^20)(h:l[i]? =some x)(hp:Q (oF x) σ):aJa (.lst (cN l)) Q (.int (i:Int)) σ:=
 sD rfl (rwL (bH _) hz) (oL h) hp
abbrev aNJ(K:aX→aA→Prop)(Q:gA→aX→aA→Prop):gA→aX→aA→Prop:=fun fl loc' σ'=>match fl with|.next=>K loc' σ'|f=>Q f loc' σ'
theorem qX{st:Stmt}{rest:List Stmt}{Q:gA→aX→aA→Prop}(K:aX→aA→Prop)(h1:sY md st loc σ (aNJ K Q) X)(h2:∀loc' σ',K loc' σ'→jC X σ' loc' md Q rest):jC X σ loc md Q (st::rest):=by
 refine aG fun A env m s S=>wpAny_mono (h1 A env m s S) (fun f s' ⟨fl,loc',σ',m',q,r1,r2,r3⟩=>⟨fl,loc',σ',m',?_,r1,r2,r3⟩) fun Z Z z=>z
 induction fl with
 |next=>exact h2 _ _ q
 |brk=>exact q
 |cont=>exact q
 |ret v=>exact q
inductive aPp(σ0:aA)(l:List It)(lb:Lb)(r x:Addr)(tk:V)(i:Nat)(loc':aX)(σ':aA):Prop
 |mk (e:σ'=σ0) (ha:(dW l i).any (fun n=> !decide (n=lb.name))=false) (l1:loc'.lookup ("self":Str)=some (.val (.ref r))) (l2:loc'.lookup ("token":Str)=some (.val tk)) (l3:loc'.lookup ("label":Str)=some (.val (.ref x)))
  (l4:loc'.lookup ("at":Str)=some (.val (.int ((i+(if(dW l i).isSome=true then 1 else 0):Nat):Int))))
noncomputable def aLr(t:Str)(lb:Lb)(ls:List Lb)(n:Nat)(tk:It):Except bF (Nat×V×List Lb):=if t="end" then .ok (n,V.tup [.int 11],ls) else if lb.word≠"if"∨lb.els=true then .error (iC "unexpected token" tk) else .ok (n,.tup [.int 5],ls++[{lb with els:=true}])
noncomputable def aMJ(lb:Lb)(ls:List Lb)(l:List It)(i:Nat)(s t:Str)(v:V)(r c:Int):Except bF (Nat×V×List Lb):=if(dW l i).any (fun n=> !decide (n=lb.name))=true then .error (iC "mismatching label" (l[i]?.getD (.tok s t v r c))) else aLr t lb ls (i+(if(dW l i).isSome=true then 1 else 0)) (.tok s t v r c)
omit md loc σ X R ids T B as in
theorem aJr{ls:List Lb}{lb:Lb}{base:Nat}{l:List It}{i:Nat}{s t:Str}{v:V}{r c:Int}(h:¬(ls++[lb]).length=base):tH (ls++[lb]) base l i s t v r c=aMJ lb ls l i s t v r c:=by
 refine(if_neg h).trans ?_
 refine rwL (List.getLast?_append) ?_
 refine rwL (List.getLast?_singleton) ?_
 refine rwL List.dropLast_concat ?_
 rfl
inductive aMP(σ0:aA)(R:RA)(ids:V)(T B:List V)(n:Nat)(res:Except bF (Nat×V×List Lb))(loc':aX)(σ':aA):Prop
 |mk (l5:loc'.lookup ("at":Str)=some (.val (.int (n:Int)))) (iv:V) (as':List (Addr×Addr×Lb)) (S:RS as' (B++[iv]) T ids R σ') (k:Kp σ0 σ') (h:res=.ok (n,iv,fH as'))
theorem aNs(C:Cx G){rn dn:Addr}{l:List It}{i k b0:Nat}{fold:Bool}{s t:Str}{v:V}{r c:Int}{Q:V→aA→Prop}(S:RS as B T ids R σ)(hR:fP σ rn dn l k fold (.int b0))(hl:as.length≤1000)(hb0:b0≤as.length)(hB:B.length≤2^19)(hz:l.length≤2^19)
  (ht:t="else"∨t="end") (hq:∀j iv ls',tH (fH as) b0 l i s t v r c=.ok (j,iv,ls')→∀σ' as',RS as' (B++[iv]) T ids R σ'→fH as'=ls'→Kp σ σ'→Q (.int (j:Nat)) σ')
  (hx:∀e,tH (fH as) b0 l i s t v r c=.error e→X e):aW Q σ X 9 (.ref 465) [.ref R.r,.ref rn,iR s t v r c,.int i]:=by
 refine aZ (n:=8) (gV (ps:=["self","run","token","at"]) C rfl rfl rfl rfl (bt4 fun Z Z Z Z Z=>.of_eq rfl)) (zD T0) (zD T0) rfl fun L hL=>?_
 have S0:=S.upd (m:=.mark) hL
 have R0:=hR.kp (.new (m:=.mark) hL)
 have hlen:(fH as).length=as.length:=by unfold fH;simp
 refine nZ<|cY (hY C) rfl (aO _) rfl rfl<|aC (dX C S0 rfl rfl rfl rfl<|aE<|fK (n:=as.length) (by unfold oM;rw[dA S0.ll];simp) (aM ‹_› (aD rfl))<|iB C R0 rfl rfl rfl rfl ⟨_,cS _ _,?_⟩)
 by_cases h1:as.length=b0
 ·refine bI (by simp[h1]) ?_
  exact cW<|aY (n:=7) (cU C) (aS C rfl) rfl (aD rfl) rfl<|aC<|aN (by kernel_rfl)<|aQ rfl<|lG C (hx _ (if_pos (hlen.trans h1)))
 refine bB (by simp;exact fun q=>h1 (Int.ofNat.inj q))<|aH ?_
 rcases List.eq_nil_or_concat as with rfl|⟨as0,p,hp⟩
 ·simp at hb0;simp at h1;lia
 rw[List.concat_eq_append] at hp
 subst hp
 obtain⟨x,dx,lb⟩:=p
 have e1:fH (as0++[(x,dx,lb)])=fH as0++[lb]:=by unfold fH;simp
 have e0:tH (fH (as0++[(x,dx,lb)])) b0 l i s t v r c=aMJ lb (fH as0) l i s t v r c:=by
  rw[e1];exact aJr (rwR e1 (rwL hlen h1))
 have hll:=S0.ll
 rw[eD,List.map_cons,List.map_nil] at hll
 have hlb:=S0.lbs (x,dx,lb) (by simp)
 refine cG rfl<|bR<|dX C S0 rfl rfl rfl rfl<|oO<|aF ⟨1,rfl,.ref x,.lst _ _ _ _ (dA hll) (zD T0) (yT (by simp)),?_⟩
 refine qX (aPp (upd L .mark σ) l lb R.r x (iR s t v r c) i) ?_ ?_
 ·refine gQ<|bU<|bT<|aY (n:=1) (pJ C) (aS C rfl) rfl (aD rfl) rfl<|aC (iB C R0 rfl rfl rfl rfl<|aQ rfl<|aLg C (aM ‹_› (aD rfl)) ⟨_,rfl,?_⟩)
  rcases aEZ (l:=l) (i:=i) with⟨s',t',v',r',c',hi,hs,hid,hh⟩|⟨hid,hh⟩
  ·rw[hh]
   refine bI rfl<|bU<|aV<|dG C rfl<|bR<|iB C R0 rfl rfl rfl rfl<|aB rfl<|sN (aM ‹_› (aD rfl)) hi ⟨s',t',v',r',c',_,cQ,rfl,rfl,aN (by kernel_rfl) ⟨_,bG _ _,bI (decide_eq_true ‹_›)<|cK<|bI rfl ?_⟩⟩
   refine nZ<|dG C rfl<|bR<|iB C R0 rfl rfl rfl rfl<|aB rfl<|sN (aM ‹_› (aD rfl)) hi ⟨s',t',v',r',c',_,cQ,rfl,rfl,aEe C rfl<|aB rfl ⟨(x,dx,lb),_,rfl,hlb,rfl,rfl,_,iG _ _,?_⟩⟩
   by_cases hn:t'=lb.name
   ·refine bB (ndF ‹_›)<|aH ?_
    refine cG rfl<|aP<|aB rfl<|aF ⟨_,.add _ _,aH ⟨rfl,by rw[hid];simpa using hn,rfl,rfl,rfl,by rw[hid];rfl⟩⟩
   ·refine bI (ndT ‹_›) ?_
    replace hx:=hx _ (e0.trans (if_pos (by rw[hid];simpa using hn)))
    rw[hi] at hx
    refine cW<|aY (n:=7) (cU C) (aS C rfl) rfl (aD rfl) rfl<|aC<|aN (by kernel_rfl)<|aC<|bR<|iB C R0 rfl rfl rfl rfl<|aB rfl<|sN (aM ‹_› (aD rfl)) hi<|aE<|jD C hx
  ·have out:(false=true→False):=by exact zD T0
   induction hb:pG l i with
   |false=>exact bB rfl<|bB rfl<|aH ⟨rfl,by rw[hid];rfl,rfl,rfl,rfl,by rw[hid];rfl⟩
   |true=>
    obtain⟨s',t',v',r',c',hi,hs⟩:=hh hb
    exact bI rfl<|bU<|aV<|dG C rfl<|bR<|iB C R0 rfl rfl rfl rfl<|aB rfl<|sN (aM ‹_› (aD rfl)) hi ⟨s',t',v',r',c',_,cQ,rfl,rfl,aN (by kernel_rfl) ⟨_,bG _ _,bB (decide_eq_false ‹_›)<|bB rfl<|aH ⟨rfl,by rw[hid];rfl,rfl,rfl,rfl,by rw[hid];rfl⟩⟩⟩
 rintro loc' σ' ⟨rfl,hany,l1,l2,l3,l4⟩
 have e2:=e0.trans (if_neg (by rw[hany];decide))
 refine qX (aMP (upd L .mark σ) R ids T B (i+(if(dW l i).isSome=true then 1 else 0)) (aLr t lb (fH as0) (i+(if(dW l i).isSome=true then 1 else 0)) (.tok s t v r c))) ?_ ?_
 ·refine gQ<|aV<|dG C rfl<|aB l2 ⟨_,_,_,_,_,_,rfl,rfl,rfl,aN (by kernel_rfl) ⟨_,bG _ _,?_⟩⟩
  by_cases h2:t="end"
  ·refine bI (decide_eq_true ‹_›)<|cW<|cE C (fa:=451) (n:=1) S0 rfl l1 rfl (by kernel_rfl) (aS C rfl) (aD rfl)<|aE<|aDM C S0 (aM ‹_› (aD rfl)) (by simp at hl;exact aM ‹_› (aD rfl)) fun σ' S' K'=>aH ⟨l4,_,as0,S',K',if_pos h2⟩
  ·refine bB (decide_eq_false ‹_›) ?_
   have bad:¬(lb.word="if"∧lb.els=false)→∀{p1 p2 p3 p4 p5 k1} {Q'} {rest},jC X (upd L .mark σ) loc' ⟨8,none,_⟩ Q' (.Expr (.Call (.Name "refuse" p1) [.Constant (.str "unexpected token") k1 p2,.Name "token" p3] [] p4) p5::rest):=fun hw p1 p2 p3 p4 p5 k1 Q' rest=>
    cW<|aY (md:=⟨8,none,[("self",.local),("run",.local),("token",.local),("at",.local),("label",.local),("len",.globalImplicit),("refuse",.globalImplicit),("has_index",.globalImplicit),("ELSE",.globalImplicit)]⟩) (n:=7) (cU C) (aS C rfl) rfl (aD rfl) rfl<|aC<|aN (by kernel_rfl)<|aQ l2<|lG C (hx _ (e2.trans<|(if_neg h2).trans<|if_pos (by
     by_cases q:lb.word="if"
     ·exact .inr (by cases h:lb.els <;> simp_all)
     ·exact .inl q)))
   refine qZ<|fJ<|aV<|aEe C rfl<|aB l3 ⟨(x,dx,lb),_,rfl,hlb,rfl,rfl,aN (by kernel_rfl) ⟨_,iG _ _,?_⟩⟩
   by_cases h3:lb.word="if"
   ·refine bB (ndF ‹_›)<|fJ<|bT<|aEe C rfl<|aB l3 ⟨(x,dx,lb),_,rfl,hlb,rfl,rfl,_,rfl,dN (fun h4=>bI rfl ?_) fun h4=>eO<|bB rfl<|aH ?_⟩
    ·exact bad (fun q=>by rw[h4] at q;exact iX (Eq.symm q.2))
    have S1:=S0.setE {lb with els:=true}
    have K1:Kp (upd L .mark σ) (upd dx (.ns iW (qT {lb with els:=true})) (upd L .mark σ)):=.put hlb.2 rfl
    refine aG<|cX C rfl rfl (aD rfl)<|dZ<|aB l3 ⟨rfl,hlb.1,hlb.2,?_⟩
    refine cW<|bM rfl<|dX C S1 l1 rfl rfl rfl ⟨_,_,rfl,S1.bb,aT<|aC<|bA (aHu C) rfl<|aE ⟨aD rfl,_,S1.bb,aM hB (aD rfl),?_⟩⟩
    exact aH ⟨l4,_,_,S1.setB _,K1.trans (.put S1.bb rfl),by unfold aLr;rw[if_neg h2,if_neg (by rw[h3,h4];simp)];unfold fH;simp⟩
   ·refine bI (ndT ‹_›)<|bI rfl ?_
    exact bad (fun q=>h3 q.1)
 ·rintro loc'' σ'' ⟨l5,iv,as',S',K',he⟩
  exact bZ<|aB l5<|hq _ _ _ (e2.trans he) _ as' (S'.leave K') rfl (K'.leave hL)
end
noncomputable def aIS(c:Nat):Nat:=match Builtin.Str.occurrences ("0123456789abcdefABCDEF":Str) (Txt.lower ⟨#[c]⟩) 0 ("0123456789abcdefABCDEF":Str).length 1 with
 |i::_=>i
 |[]=>0
noncomputable def aEE(c:Nat):Bool:=decide (c<128)&&pV ⟨#[c]⟩&&pV (Txt.lower ⟨#[c]⟩)&&(!kJ "0123456789abcdefABCDEF" ⟨#[c]⟩|| !(Builtin.Str.occurrences ("0123456789abcdefABCDEF":Str) (Txt.lower ⟨#[c]⟩) 0 ("0123456789abcdefABCDEF":Str).length 1).isEmpty)
 &&(!kJ "0123456789" ⟨#[c]⟩||kJ "0123456789abcdefABCDEF" ⟨#[c]⟩)
noncomputable def dgS(base:Int):Str:=if base=16 then "0123456789abcdefABCDEF" else "0123456789"
noncomputable def mN(base:Int):List Nat→Int→Bool→Option (Option Int)
 |[],f,w=>some (if w=true then some f else none)
 |c::cs,f,w=>if(⟨#[c]⟩:Str)="_" then(if w=true then mN base cs f false else some none)
  else if kJ (dgS base) ⟨#[c]⟩=true then(if f.natAbs<2^64 then mN base cs (f*base+(aIS c:Int)) true else none)
  else some none
noncomputable def aCF:Option Int→V
 |some n=>.int n
 |none=>.none
noncomputable def oS(t:Str):Option (Option Int):=if Txt.slice t none (some 2)="0x" then mN 16 (Txt.slice t (some 2) none).cps.toList 0 false else mN 10 t.cps.toList 0 false
noncomputable def qP(t:Str):Bool:=t.cps.toList.all aEE&&decide (t.length≤1000)
noncomputable def nM(t:Str)(n:Int)(bits:Nat)(r c:Int):Except bF Int:=
 if(decide (-(1*2^(bits - 1))≤n)&&decide (n<(if gO t=true then(1:Int)*2^(bits - 1) else 2*(1*2^(bits - 1)))))=false then .error (rB r c "constant out of range")
 else .ok (if(1:Int)*2^(bits - 1)≤n then n - 2*(1*2^(bits - 1)) else n)
noncomputable def fZ(name:Str):List (Int×Str)→V
 |[]=>.none
 |(k,v)::r=>if v=name then .int k else fZ name r
noncomputable def iM:List (Int×Str):=[(-1,"i32"),(-2,"i64"),(-16,"funcref"),(-17,"externref")]
noncomputable def mF:List (Int×Str):=[(-16,"func"),(-17,"extern")]
section
variable{md:Md}{loc:aX}{σ:aA}{X:bF→Prop}
theorem orT{a b:Bool}(h:(!a||b)=true)(ha:a=true):b=true:=by
 subst ha;exact h
theorem aNh{c:Nat}(h:aEE c=true):decide (c<128)=true:=gU h fun h _=>gU h fun h _=>gU h fun h _=>gU h fun h _=>h
theorem aLB{c:Nat}(h:aEE c=true):pV (Txt.lower ⟨#[c]⟩)=true:=gU h fun h _=>gU h fun h _=>gU h fun _ h=>h
theorem aMg{c:Nat}{base:Int}(hb:base=16∨base=10)(h:aEE c=true)(b2:kJ (dgS base) ⟨#[c]⟩=true):∃i rest,Builtin.Str.occurrences ("0123456789abcdefABCDEF":Str) (Txt.lower ⟨#[c]⟩) 0 ("0123456789abcdefABCDEF":Str).length 1=i::rest:=by
 refine gU h fun h c5=>gU h fun h c4=>?_
 have hin:kJ "0123456789abcdefABCDEF" ⟨#[c]⟩=true:=hb.elim (fun e=>(congrArg (fun b=>kJ (dgS b) ⟨#[c]⟩) e).symm.trans b2) fun e=>orT c5 ((congrArg (fun b=>kJ (dgS b) ⟨#[c]⟩) e).symm.trans b2)
 have q:=orT c4 hin
 induction ho:Builtin.Str.occurrences ("0123456789abcdefABCDEF":Str) (Txt.lower ⟨#[c]⟩) 0 ("0123456789abcdefABCDEF":Str).length 1 with
 |nil=>exact iX ((congrArg (fun l=> !List.isEmpty l) ho).symm.trans q)
 |cons i rest=>exact⟨i,rest,rfl⟩
theorem aIj{base:Int}{c:Nat}{cs:List Nat}{f:Int}{w:Bool}:mN base (c::cs) f w=if(⟨#[c]⟩:Str)="_" then(if w=true then mN base cs f false else some none)
  else if kJ (dgS base) ⟨#[c]⟩=true then(if f.natAbs<2^64 then mN base cs (f*base+(aIS c:Int)) true else none) else some none:=rfl
inductive WhI(base:Int)(r:Option Int)(τ:aA)(cs:List Nat)(loc:aX)(σ:aA):Prop
 |mk (f:Int) (w:Bool) (e:σ=τ) (l1:loc.lookup ("digits":Str)=some (.val (.str (dgS base)))) (l2:loc.lookup ("base":Str)=some (.val (.int base))) (l3:loc.lookup ("found":Str)=some (.val (.int f))) (l4:loc.lookup ("was_digit":Str)=some (.val (.bool w))) (hcs:∀c∈cs,aEE c=true) (hw:mN base cs f w=some r)
theorem aDA(C:Cx G){t:Str}{base:Int}{r:Option Int}{Q:V→aA→Prop}(hb:base=16∨base=10)(ht:qP t=true)(hr:mN base t.cps.toList 0 false=some r)(hq:Q (aCF r) σ):aW Q σ X 1 (.ref 242) [.str t,.int base]:=by
 have hch:=eT (gU ht fun h _=>h)
 refine aZ (n:=0) (gV (ps:=["text","base"]) C rfl rfl rfl rfl (tA fun Z Z Z=>.of_eq rfl)) (zD T0) (zD T0) rfl fun L hL=>?_
 have fin:∀v,v=aCF r→Q v (eZ L (upd L .mark σ)):=fun v e=>e▸rwL (aU hL) hq
 show jC _ (upd L .mark σ) _ _ _ _
 generalize upd L .mark σ=τ at fin ⊢
 refine aG<|bD (ns:=["digits","found","was_digit"]) (o:=some ["digits","found","was_digit"]) rfl rfl rfl rfl (.inr rfl) ?_
 refine aT<|aC (yV (τ:=τ) (.str (dgS base)) (bX<|aV<|aB rfl<|aF ⟨_,cS _ _,dN (fun h=>bA (rT C) rfl ⟨congrArg V.str (if_pos (of_decide_eq_true h)).symm,rfl⟩) fun h=>bA (aG6 C) rfl ⟨congrArg V.str (if_neg (of_decide_eq_false h)).symm,rfl⟩⟩) ?_)
 refine aC<|aF<|aC<|dZ<|aE ⟨aD rfl,_,rfl,rfl,?_⟩
 refine rwL (if_neg nofun) ?_
 refine aG<|kH rfl rfl<|fE<|aB rfl ⟨_,.str t (Array.all_eq_true.mpr fun i hi=>aNh (hch t.cps[i] (Array.getElem_mem_toList hi))),?_⟩
 refine iI (f:=fun c:Nat=>V.str ⟨#[c]⟩) (WhI base r τ) ?_ ?_ t.cps.toList _ _ ⟨0,false,rfl,rfl,rfl,rfl,rfl,hch,hr⟩
 ·rintro c cs loc' σ' ⟨f,w,e,l1,l2,l3,l4,hcs,hw⟩
  subst e
  have hc:=hcs c (eS ..)
  have hcs':∀d∈cs,aEE d=true:=fun d hd=>hcs d (fW _ hd)
  replace hw:=aIj.symm.trans hw
  refine⟨_,rfl,?_⟩
  refine eB rfl<|aN (by kernel_rfl) ⟨_,bG _ _,dN (fun b1=>?_) fun b1=>?_⟩
  ·replace hw:=(if_pos (of_decide_eq_true b1)).symm.trans hw
   refine qZ<|mL<|bT<|aB l4 ⟨w,rfl,?_⟩
   induction w with
   |false=>exact bI rfl<|bZ<|bQ (fin _ (congrArg aCF (bE hw)))
   |true=>exact bB rfl<|aH<|cG rfl<|dZ<|aH<|aH ⟨f,false,rfl,l1,l2,l3,rfl,hcs',hw⟩
  ·replace hw:=(if_neg (of_decide_eq_false b1)).symm.trans hw
   refine eB rfl<|aB l1 ⟨kJ (dgS base) ⟨#[c]⟩,rfl,dN (fun b2=>kZ ((if_pos b2).symm.trans hw) (fun hsm hw=>?_) fun _=>cZ) fun b2=>bZ<|bQ (fin _ (congrArg aCF (bE ((if_neg (Bool.eq_false_iff.mp b2)).symm.trans hw))))⟩
   obtain⟨i,rest,ho⟩:=aMg hb hc b2
   have hdig:i=aIS c:=by unfold aIS;rw[ho]
   refine cG rfl<|aP<|aP<|aB l3<|aB l2 ⟨_,.mul _ _ hsm,?_⟩
   refine cI rfl<|bA (rT C) rfl ⟨.builtin "str.index",_,0,.blt "str" "str.index" rfl F.plainAttrs_str F.slot_str_index (by kernel_rfl),aO _,cM _,?_⟩
   refine aC (cI rfl<|aB rfl ⟨.builtin "str.lower",_,0,.blt "str" "str.lower" rfl F.plainAttrs_str F.slot_str_lower (by kernel_rfl),aO _,cM _,aE<|aIC (dI (aLB hc))<|aE<|aJH ho ⟨_,.add _ _,?_⟩⟩)
   exact cG rfl<|dZ<|aH<|aH<|aH ⟨_,true,rfl,l1,l2,rfl,rfl,hcs',(congrArg (fun i:Nat=>mN base cs (f*base+(i:Int)) true) hdig).trans hw⟩
 ·rintro loc' σ' ⟨f,w,e,l1,l2,l3,l4,_,hw⟩
  subst e
  refine bZ<|bX<|bT<|aB l4 ⟨w,rfl,?_⟩
  induction w with
  |false=>exact bB rfl<|bQ (fin _ (congrArg aCF (bE hw)))
  |true=>exact bI rfl<|aB l3 (fin _ (congrArg aCF (bE hw)))
end
noncomputable def mB(t:Str)(x:It):Option (Except bF Int):=match oS t with
 |none=>none
 |some none=>some (.error (iC "unknown operator" x))
 |some (some n)=>if 4294967295<n then some (.error (iC "i32 constant out of range" x)) else some (.ok n)
noncomputable def xM(n:Int):Nat→Nat→Option Nat
 |0,_=>none
 |k+1,e=>if(2:Int)^e<n then xM n k (e+1) else some e
noncomputable def cB(l:List It)(i:Nat):Str:=match l[i]? with
 |some (.tok s t ..)=>if s="word" then t else ""
 |_=>""
noncomputable def eV(ids:List (Str×Int)):It→Except bF Int
 |.tok s t v r c=>if s="int" then(if gO t=true then .error (rB r c "unexpected token") else
   if 2^32≤mD v then .error (rB r c "i32 constant out of range") else .ok (mD v))
  else match(ids.find? fun p=>p.1=t) with
   |some p=>.ok p.2
   |none=>.error (rB r c (nN ("unknown local "++t) s))
 |.br ..=>.ok 0
noncomputable def kK(ids:List (Str×Int)):V:=.sdc (ids.map (·.1)) (ids.map fun p=>V.int p.2)
theorem aCn{t:Str}{ids:List (Str×Int)}:iY (ids.map (·.1)) (ids.map fun p=>V.int p.2) t=(ids.find? fun p=>p.1=t).map fun p=>V.int p.2:=by
 induction ids with
 |nil=>rfl
 |cons p ids ih=>
  show(if p.1=t then some (V.int p.2) else iY (ids.map (·.1)) (ids.map fun p=>V.int p.2) t)=_
  rw[List.find?_cons,ih]
  by_cases h:p.1=t
  ·rw[if_pos h,decide_eq_true h];rfl
  ·rw[if_neg h,decide_eq_false h]
section
variable{md:Md}{loc:aX}{σ:aA}{X:bF→Prop}
variable{R:RA}{ids:V}{T B:List V}{as:List (Addr×Addr×Lb)}
theorem aEh(C:Cx G){t:Str}{x:It}{res:Except bF Int}{Q:V→aA→Prop}(ht:qP t=true)(ht2:qP (Txt.slice t (some 2) none)=true)(hr:mB t x=some res)(hq:∀n,res=.ok n→Q (.int n) σ)(hx:∀e,res=.error e→X e):aW Q σ X 8 (.ref 346) [.str t,oF x]:=by
 refine aZ (n:=7) (gV (ps:=["text","token"]) C rfl rfl rfl rfl (tA fun Z Z Z=>.of_eq rfl)) (zD T0) (zD T0) rfl fun L hL=>?_
 unfold mB at hr
 induction hw:oS t with
 |none=>
  replace hr:=hw▸hr
  exact cZ hr
 |some o=>
 replace hr:=hw▸hr
 refine cG rfl<|yV (τ:=upd L .mark σ) (aCF o) ?_ ?_
 ·unfold oS at hw
  refine bX<|aV<|gY<|aB rfl<|aF ⟨_,rfl,.inr ⟨_,rfl,aN (by kernel_rfl) ⟨_,bG _ _,dN (fun b=>?_) fun b=>?_⟩⟩⟩
  ·replace hw:=(if_pos (of_decide_eq_true b))▸hw
   exact aY (n:=1) (vU C) (aS C rfl) rfl (aD rfl) rfl<|aC (gY<|aB rfl<|aF ⟨_,rfl,.inr ⟨_,rfl,aC<|aF<|aE<|aDA C (.inl rfl) ht2 hw ⟨rfl,rfl⟩⟩⟩)
  ·replace hw:=(if_neg (of_decide_eq_false b))▸hw
   exact aY (n:=1) (vU C) (aS C rfl) rfl (aD rfl) rfl<|bL rfl<|aC<|aF<|aE<|aDA C (.inr rfl) ht hw ⟨rfl,rfl⟩
 induction o with
 |none=>
  dsimp only at hr
  refine eB rfl<|bQ ⟨true,rfl,bI rfl ?_⟩
  exact cW<|aY (n:=7) (cU C) (aS C rfl) rfl (aD rfl) rfl<|aC<|aN (by kernel_rfl)<|aQ rfl<|jD C (hx _ (by obtain rfl:=bE hr;rfl))
 |some n=>
  dsimp only at hr
  refine eB rfl<|bQ ⟨false,rfl,bB rfl<|aH ?_⟩
  refine eB rfl<|bA (aAx C) rfl ⟨decide (4294967295<n),rfl,dN (fun b=>?_) fun b=>aH ?_⟩
  ·replace hr:=(if_pos (of_decide_eq_true b))▸hr
   exact cW<|aY (n:=7) (cU C) (aS C rfl) rfl (aD rfl) rfl<|aC<|aN (by kernel_rfl)<|aQ rfl<|jD C (hx _ (by obtain rfl:=bE hr;rfl))
  ·replace hr:=(if_neg (of_decide_eq_false b))▸hr
   refine bZ<|aB rfl ?_
   show Q _ (eZ L (upd L .mark σ))
   refine rwL (aU hL) ?_
   exact hq n (by obtain rfl:=bE hr;rfl)
theorem aMD(C:Cx G){n:Int}{x:It}{k e:Nat}{Q:V→aA→Prop}(hk:k≤1000)(he:xM n k 0=some e)(hq:(2:Int)^e=n→Q (.int e) σ)(hx:(2:Int)^e≠n→X (iC "alignment must be a power of two" x)):aW Q σ X 8 (.ref 353) [.int n,oF x]:=by
 refine aZ (n:=7) (gV (ps:=["number","token"]) C rfl rfl rfl rfl (tA fun Z Z Z=>.of_eq rfl)) (zD T0) (zD T0) rfl fun L hL=>?_
 refine cG rfl<|aF ?_
 refine qX (fun loc' σ'=>σ'=upd L .mark σ∧loc'.lookup ("number":Str)=some (.val (.int n))∧loc'.lookup ("token":Str)=some (.val (oF x))∧loc'.lookup ("exponent":Str)=some (.val (.int (e:Nat)))∧e≤1000) ?_ ?_
 ·refine lB _ (mV (fun us loc' σ'=>∃j:Nat,σ'=upd L .mark σ∧loc'.lookup ("number":Str)=some (.val (.int n))∧loc'.lookup ("token":Str)=some (.val (oF x))∧loc'.lookup ("exponent":Str)=some (.val (.int (j:Nat)))∧xM n us.length j=some e∧j+us.length≤1000) (fun loc' σ'=>σ'=upd L .mark σ∧loc'.lookup ("number":Str)=some (.val (.int n))∧loc'.lookup ("token":Str)=some (.val (oF x))∧loc'.lookup ("exponent":Str)=some (.val (.int (e:Nat)))∧e≤1000)
   (fun Z Z h=>h) ?_ (List.replicate k ()) _ _ ⟨0,rfl,rfl,rfl,rfl,rwL List.length_replicate he,by rw[List.length_replicate];exact fV ‹_› _⟩)
  rintro us loc' σ' ⟨j,rfl,l1,l2,l3,hj,hle⟩
  cases us with
  |nil=>exact cZ hj
  |cons u us=>
  rw[eX,xM] at hj
  replace hle:=eX▸hle
  refine aV<|aP<|aF<|aB l3 ⟨_,.pow _ _ (Int.natCast_nonneg _) (Int.ofNat_le.mpr (aM (aM (eL _ _) hle) (aD rfl))) (aD rfl),aB l1 ⟨decide ((2:Int)^((j:Nat):Int).toNat<n),rfl,dN (fun b=>?_) fun b=>?_⟩⟩
  ·replace hj:=(if_pos (show(2:Int)^j<n by simpa using b))▸hj
   exact⟨u,us,rfl,cG rfl<|aP<|aB l3<|aF ⟨_,.add _ _,aH ⟨j+1,rfl,l1,l2,rfl,hj,aM (dH (Nat.add_right_comm j 1 _)) hle⟩⟩⟩
  ·replace hj:=(if_neg (show ¬(2:Int)^j<n by simpa using b))▸hj
   obtain rfl:=bE hj
   exact⟨rfl,l1,l2,l3,aM (eL _ _) ‹_›⟩
 rintro loc' σ' ⟨rfl,l1,l2,l3,hle⟩
 refine nZ<|aP<|aF<|aB l3 ⟨_,.pow _ _ (Int.natCast_nonneg _) (Int.ofNat_le.mpr (aM hle (aD rfl))) (aD rfl),aB l1 ⟨_,vV _ _,?_⟩⟩
 by_cases h:(2:Int)^e=n
 ·refine bB (by simpa using h)<|aH<|bZ<|aB l3 ?_
  show Q _ (eZ L (upd L .mark σ))
  refine rwL (aU hL) ?_
  exact hq h
 ·exact bI (by simpa using h)<|cW<|aY (n:=7) (cU C) (aS C rfl) rfl (aD rfl) rfl<|aC<|aN (by kernel_rfl)<|aQ l2<|jD C (hx h)
theorem aNH(C:Cx G){t:Str}{ch:Nat}{n r c:Int}{bits:Nat}{Q:V→aA→Prop}(hc:t.cps.toList[(0:Nat)]? =some ch)(hbits:bits=32∨bits=64)
  (hq:∀m,nM t n bits r c=.ok m→Q (.int m) σ) (hx:∀e,nM t n bits r c=.error e→X e):aW Q σ X 7 (.ref 249) [iR "int" t (.int n) r c,.int bits]:=by
 refine aZ (n:=6) (gV (ps:=["token","bits"]) C rfl rfl rfl rfl (tA fun Z Z Z=>.of_eq rfl)) (zD T0) (zD T0) rfl fun L hL=>?_
 have hs:gO t=kJ "+-" ⟨#[ch]⟩:=by unfold gO;rw[hc]
 refine qZ<|mL<|bT<|aY (n:=1) (vO C) (aS C rfl) rfl (aD rfl) rfl<|bL rfl<|aC<|aN (by kernel_rfl)<|aE<|xH C ⟨_,rfl,bB rfl<|aH ?_⟩
 have e1:((bits:Int) - 1).toNat=bits - 1:=by rcases hbits with rfl|rfl <;> rfl
 refine cG rfl<|aP<|aF<|aP<|aB rfl<|aF ⟨_,.sub _ _,_,.shl _ _ (by rcases hbits with rfl|rfl <;> exact zD T0) (by rcases hbits with rfl|rfl <;> exact zD T0) (aD rfl),?_⟩
 refine rwL e1 ?_
 unfold nM at hq hx
 generalize hh:(1:Int)*2^(bits - 1)=oB at hq hx ⊢
 have hhalf:oB.natAbs<2^64:=by rw[←hh];rcases hbits with rfl|rfl <;> exact aD rfl
 refine cG rfl<|yV (τ:=upd L .mark σ) (.int (if gO t=true then oB else 2*oB)) ?_ ?_
 ·refine bX<|aV<|sM<|dG C rfl<|aB rfl ⟨_,_,_,_,_,_,rfl,rfl,rfl,t,ch,rfl,hc,aN (by kernel_rfl) ⟨gO t,congrArg some hs.symm,dN (fun b=>?_) fun b=>?_⟩⟩
  ·exact aB rfl ⟨rwL (if_pos b) rfl,rfl⟩
  ·exact aP<|aF<|aB rfl ⟨_,.mul _ _ (aD rfl),by exact rwL (if_neg (by rw[b];decide)) rfl,rfl⟩
 generalize (if gO t=true then oB else 2*oB)=most at hq hx ⊢
 refine qX (fun loc' σ'=>σ'=upd L .mark σ∧loc'.lookup ("token":Str)=some (.val (iR "int" t (.int n) r c))∧loc'.lookup ("half":Str)=some (.val (.int oB))∧(decide (-oB≤n)&&decide (n<most))=true) ?_ ?_
 ·refine gQ<|mL<|aEb<|oO<|aB rfl ⟨oB,rfl,dG C rfl<|aB rfl ⟨_,_,_,_,_,_,rfl,rfl,rfl,decide (-oB≤n),rfl,?_⟩⟩
  have bad:(decide (-oB≤n)&&decide (n<most))=false→X (rB r c "constant out of range"):=fun b=>hx _ (if_pos b)
  by_cases h3: -oB≤n
  ·refine bI (by simpa using h3)<|aB rfl ⟨decide (n<most),rfl,?_⟩
   by_cases h4:n<most
   ·exact bB (by simpa using h4)<|aH ⟨rfl,rfl,rfl,by simp[h3,h4]⟩
   ·refine bI (by simpa using h4)<|aG<|jW C rfl (bO _) rfl<|aC<|aN (by kernel_rfl)<|aC (dG C rfl<|aB rfl ⟨_,_,_,_,_,_,rfl,rfl,rfl,?_⟩)
    exact aC (dG C rfl<|aB rfl ⟨_,_,_,_,_,_,rfl,rfl,rfl,aE ⟨_,_,_,rfl,rfl,bad (by simp[h4])⟩⟩)
  ·refine bB (by simpa using h3)<|bI rfl<|aG<|jW C rfl (bO _) rfl<|aC<|aN (by kernel_rfl)<|aC (dG C rfl<|aB rfl ⟨_,_,_,_,_,_,rfl,rfl,rfl,?_⟩)
   exact aC (dG C rfl<|aB rfl ⟨_,_,_,_,_,_,rfl,rfl,rfl,aE ⟨_,_,_,rfl,rfl,bad (by simp[h3])⟩⟩)
 rintro loc' σ' ⟨rfl,l1,l2,hok⟩
 have fin:∀m,m=(if oB≤n then n - 2*oB else n)→Q (.int m) (eZ L (upd L .mark σ)):=fun m e=>by
  refine rwL (aU hL) ?_
  refine rwL e ?_
  exact hq _ (if_neg (by rw[hok];decide))
 refine bZ<|bX<|aV<|dG C rfl<|aB l1 ⟨_,_,_,_,_,_,rfl,rfl,rfl,aB l2 ⟨decide (oB≤n),rfl,dN (fun b=>?_) fun b=>?_⟩⟩
 ·exact aP<|dG C rfl<|aB l1 ⟨_,_,_,_,_,_,rfl,rfl,rfl,aP<|aF<|aB l2 ⟨_,.mul _ _ (aD rfl),_,.sub _ _,fin _ (Eq.symm (if_pos (of_decide_eq_true b)))⟩⟩
 ·exact dG C rfl<|aB l1 ⟨_,_,_,_,_,_,rfl,rfl,rfl,fin _ (Eq.symm (if_neg (of_decide_eq_false b)))⟩
theorem aLa(C:Cx G){t:Str}{Q:V→aA→Prop}(hq:Q (fZ t iM) σ):aW Q σ X 1 (.ref 24) [.str t]:=by
 refine aZ (n:=0) (gV (ps:=["name"]) C rfl rfl rfl rfl (bt1 fun Z Z=>.of_eq rfl)) (zD T0) (zD T0) rfl fun L hL=>?_
 have fin:∀v,v=fZ t iM→Q v (eZ L (upd L .mark σ)):=fun v e=>by exact rwL (aU hL) (rwL e hq)
 refine aG<|kH rfl rfl<|fE<|bA (sL C) rfl ⟨_,.idc _ _ (zD T0) rfl,?_⟩
 refine iI (f:=fun p:Int×Str=>V.int p.1) (fun rs loc' σ'=>σ'=upd L .mark σ∧loc'.lookup ("name":Str)=some (.val (.str t))∧(∀r∈rs,r∈iM)∧fZ t iM=fZ t rs) ?_ ?_ iM _ _ ⟨rfl,rfl,fun Z h=>h,rfl⟩
 ·rintro⟨k,n⟩ rs loc' σ' ⟨rfl,hn,hz,hc⟩
  refine⟨_,rfl,?_⟩
  have hget:getD nH k=some (.str n):=by
   have:=hz _ (eS ..)
   unfold iM at this
   simp only[List.mem_cons,List.not_mem_nil,or_false,Prod.mk.injEq] at this
   rcases this with⟨rfl,rfl⟩|⟨rfl,rfl⟩|⟨rfl,rfl⟩|⟨rfl,rfl⟩ <;> rfl
  have e1:fZ t ((k,n)::rs)=if n=t then .int k else fZ t rs:=rfl
  rw[e1] at hc
  refine nZ<|bR<|bA (sL C) rfl<|aB rfl ⟨.str n,.idc _ _ _ _ hget,aB hn ⟨_,bG _ _,dN (fun b=>?_) fun b=>aH<|aH ⟨rfl,hn,fun r hr=>hz r (fW _ hr),?_⟩⟩⟩
  ·exact bZ<|aB rfl (fin _ (rwL hc (rwL (if_pos (of_decide_eq_true b)) rfl)))
  ·rw[hc,if_neg (of_decide_eq_false b)]
 ·rintro loc' σ' ⟨rfl,hn,_,hc⟩
  exact bZ<|bQ (fin _ hc.symm)
theorem aMj(C:Cx G){t:Str}{Q:V→aA→Prop}(hq:Q (fZ t mF) σ):aW Q σ X 1 (.ref 38) [.str t]:=by
 refine aZ (n:=0) (gV (ps:=["name"]) C rfl rfl rfl rfl (bt1 fun Z Z=>.of_eq rfl)) (zD T0) (zD T0) rfl fun L hL=>?_
 have fin:∀v,v=fZ t mF→Q v (eZ L (upd L .mark σ)):=fun v e=>by exact rwL (aU hL) (rwL e hq)
 refine aG<|kH rfl rfl<|fE<|bA (sC C) rfl ⟨_,.idc _ _ (zD T0) rfl,?_⟩
 refine iI (f:=fun p:Int×Str=>V.int p.1) (fun rs loc' σ'=>σ'=upd L .mark σ∧loc'.lookup ("name":Str)=some (.val (.str t))∧(∀r∈rs,r∈mF)∧fZ t mF=fZ t rs) ?_ ?_ mF _ _ ⟨rfl,rfl,fun Z h=>h,rfl⟩
 ·rintro⟨k,n⟩ rs loc' σ' ⟨rfl,hn,hz,hc⟩
  refine⟨_,rfl,?_⟩
  have hget:getD nA k=some (.str n):=by
   have:=hz _ (eS ..)
   unfold mF at this
   simp only[List.mem_cons,List.not_mem_nil,or_false,Prod.mk.injEq] at this
   rcases this with⟨rfl,rfl⟩|⟨rfl,rfl⟩ <;> rfl
  have e1:fZ t ((k,n)::rs)=if n=t then .int k else fZ t rs:=rfl
  rw[e1] at hc
  refine nZ<|bR<|bA (sC C) rfl<|aB rfl ⟨.str n,.idc _ _ _ _ hget,aB hn ⟨_,bG _ _,dN (fun b=>?_) fun b=>aH<|aH ⟨rfl,hn,fun r hr=>hz r (fW _ hr),?_⟩⟩⟩
  ·exact bZ<|aB rfl (fin _ (rwL hc (rwL (if_pos (of_decide_eq_true b)) rfl)))
  ·rw[hc,if_neg (of_decide_eq_false b)]
 ·rintro loc' σ' ⟨rfl,hn,_,hc⟩
  exact bZ<|bQ (fin _ hc.symm)
end
noncomputable def aOE(v:V):Option (List V):=qA (p:=fun q=>v=.tup q) (if h:v.ctorIdx=4 then V.tup.elim v h fun l=>some ⟨l,rfl⟩ else none)
noncomputable def aDj(v:V):Option Int:=(aOE v).bind fun l=>l[(1:Nat)]?.bind vG
noncomputable def exB{α β:Type}(r:Except bF α)(f:α→Option (Except bF β)):Option (Except bF β):=match r with
 |.ok a=>f a
 |.error e=>some (.error e)
theorem aAI{α β:Type}{r:Except bF α}{a:α}{f:α→Option (Except bF β)}{res:Except bF β}(h:.ok a=r)(hr:exB r f=some res):f a=some res:=by
 subst h;exact hr
theorem rL{α β:Type}{r:Except bF α}{e:bF}{f:α→Option (Except bF β)}{res:Except bF β}(h:.error e=r)(hr:exB r f=some res):.error e=res:=by
 subst h;exact bE hr
noncomputable def aOB(code:Int):Option Int:=(getD nL code).elim ((getD lE code).bind aDj) aDj
noncomputable def aGt(code:Int):Option V:=(aOB code).bind fun o=>rD [1,2,4,8] ([0,1,2,3].map V.int) o
theorem aN0{v:V}{o:Int}{P:Prop}(h:aDj v=some o)(k:∀l,v=.tup l→l[(1:Nat)]? =some (.int o)→P):P:=
 dQ h fun l hl h=>dQ h fun u hu h=>k l (eE (p:=fun q:List V=>v=.tup q) hl) (hu.trans (congrArg some (pC h)))
noncomputable def aCU(t:Str):Str:=Txt.slice t (some 7) none
noncomputable def aCY(t:Str):Str:=Txt.slice t (some 6) none
noncomputable def sQ(t:Str):Bool:=(!Txt.startswith t "offset="||(qP (aCU t)&&qP (Txt.slice (aCU t) (some 2) none)&&(oS (aCU t)).isSome))&&(!Txt.startswith t "align="||(qP (aCY t)&&qP (Txt.slice (aCY t) (some 2) none)&&(oS (aCY t)).isSome))
noncomputable def uD(l:List It)(i:Nat):Option (Except bF (Int×Nat)):=if Txt.startswith (cB l i) "offset="=true then(mB (aCU (cB l i)) (l[i]?.getD (.br [] 0 0))).bind fun r=>exB r fun n=>some (.ok (n,i+1)) else some (.ok (0,i))
noncomputable def rR(a0:V)(l:List It)(i:Nat):Option (Except bF (V×Nat)):=if Txt.startswith (cB l i) "align="=true then(mB (aCY (cB l i)) (l[i]?.getD (.br [] 0 0))).bind fun r=>exB r fun n=>(xM n 40 0).bind fun e=>if(2:Int)^e=n then some (.ok (.int (e:Nat),i+1)) else some (.error (iC "alignment must be a power of two" (l[i]?.getD (.br [] 0 0))))
 else some (.ok (a0,i))
noncomputable def aDc(code:Int)(l:List It)(i:Nat):Option (Except bF (V×Nat)):=(aGt code).bind fun a0=>(uD l i).bind fun r=>exB r fun q=>(rR a0 l q.2).bind fun r=>exB r fun t=>some (.ok (.tup [.int code,t.1,.int q.1],t.2))
noncomputable def mE(code:Int)(form:Str)(l:List It)(i:Nat)(tok:It):Except bF (V×Nat):=match l[i]? with
 |none=>.error (iC "unexpected token" tok)
 |some (.br l' r c)=>.error (iC "unexpected token" (.br l' r c))
 |some (.tok s t v r c)=>if form="refkind" then(match fZ (if s="word" then t else "") mF with
   |.int k=>.ok (.tup [.int code,.int k],i+1)
   |_=>.error (iC "unexpected token" (.tok s t v r c)))
  else if s="int" then(match nM t (mD v) (if form="i32" then 32 else 64) r c with
   |.ok n=>.ok (.tup [.int code,.int n],i+1)
   |.error e=>.error e)
  else .error (iC "unexpected token" (.tok s t v r c))
noncomputable def aGR:Option It→Str
 |some (.tok s t ..)=>if s="word" then t else ""
 |_=>""
theorem yU{l:List It}{i:Nat}(h:cB l i≠""){P:Prop}(k:∀s v r c,l[i]? =some (.tok s (cB l i) v r c)→P):P:=by
 induction hi:l[i]? with
 |none=>exact absurd (congrArg (fun o:Option It=>aGR o) hi) h
 |some x=>
  have e:cB l i=aGR (some x):=congrArg (fun o:Option It=>aGR o) hi
  cases x with
  |br=>exact absurd e h
  |tok s t v r c=>
   refine kZ (show(if s="word" then t else "")=cB l i from e.symm) (fun Z q=>k s v r c (q▸hi)) fun Z q=>absurd q.symm h
section
variable{md:Md}{loc:aX}{σ:aA}{X:bF→Prop}
variable{R:RA}{ids:V}{T B:List V}{as:List (Addr×Addr×Lb)}
theorem aFl(C:Cx G){code:Int}{a:V}{Q:V→aA→Prop}(h:aGt code=some a)(hq:Q a σ):aW Q σ X 1 (.ref 120) [.int code]:=by
 refine aZ (n:=0) (gV (ps:=["code"]) C rfl rfl rfl rfl (bt1 fun Z Z=>.of_eq rfl)) (zD T0) (zD T0) rfl fun L hL=>?_
 refine dQ h fun o ho ha=>?_
 refine cG rfl<|yV (τ:=upd L .mark σ) (.int o) ?_ ?_
 ·refine bX<|aV<|aB rfl<|bA (aAs C) rfl ⟨(getD nL code).isSome,rfl,?_⟩
  induction hl:getD nL code with
  |some v=>
   refine aN0 ((congrArg (fun o:Option V=>o.elim ((getD lE code).bind aDj) aDj) hl).symm.trans ho) fun l e h1=>?_
   subst e
   exact bI rfl<|bR<|bR<|bA (aAs C) rfl<|aB rfl ⟨.tup l,.idc _ _ _ _ hl,aF ⟨.int o,.tup l _ _ (zD T0) (gI (i:=1) h1),rfl,rfl⟩⟩
  |none=>
   refine dQ ((congrArg (fun o:Option V=>o.elim ((getD lE code).bind aDj) aDj) hl).symm.trans ho) fun v hv hv1=>aN0 hv1 fun l e h1=>?_
   subst e
   exact bB rfl<|bR<|bR<|bA (aCh C) rfl<|aB rfl ⟨.tup l,.idc _ _ _ _ hv,aF ⟨.int o,.tup l _ _ (zD T0) (gI (i:=1) h1),rfl,rfl⟩⟩
 refine bZ ?_
 refine bR ?_ ?hs
 case hs=>intro _ _;rfl
 refine aHy (ks:=[1,2,4,8]) (is:=[0,1,2,3]) ?_ ?_ ?_ ?_ ?_ ?_ ?_ ?_
 ·exact .cons (.mk ..)<|.cons (.mk ..)<|.cons (.mk ..)<|.cons (.mk ..) .nil
 ·exact zD T0
 ·exact fun Z Z=>trivial
 ·rfl
 ·nofun
 ·exact aD rfl
 ·exact⟨_,_,rfl,.pos ..,_,_,rfl,.pos ..,_,_,rfl,.pos ..,_,_,rfl,.pos ..,rfl⟩
 refine aB rfl ⟨a,.idc _ _ _ _ ha,?_⟩
 show Q _ (eZ L (upd L .mark σ))
 refine rwL (aU hL) ?_
 exact hq
theorem wN(C:Cx G){l:List It}{i:Nat}{Q:V→aA→Prop}(hz:l.length≤2^20)(hq:Q (.str (cB l i)) σ):aW Q σ X 1 (.ref 339) [.lst (cN l),.int i]:=by
 refine aZ (n:=0) (gV (ps:=["items","at"]) C rfl rfl rfl rfl (tA fun Z Z Z=>.of_eq rfl)) (zD T0) (zD T0) rfl fun L hL=>?_
 have fin:∀v,v=V.str (cB l i)→Q v (eZ L (upd L .mark σ)):=fun v e=>by exact rwL (aU hL) (rwL e hq)
 unfold cB at fin
 refine qZ<|fJ<|aV<|aB rfl<|cY (hY C) rfl (aO _) rfl rfl<|aQ rfl<|fK (n:=l.length) (by unfold oM;show some (cN l).length=_;rw[bH]) (aM ‹_› (aD rfl)) ⟨decide ((l.length:Int)≤(i:Int)),rfl,?_⟩
 induction h:l[i]? with
 |none=>
  replace fin:=h▸fin
  refine bI (by have:=List.getElem?_eq_none_iff.mp h;simp;assumption)<|bI rfl<|bZ<|aN (by kernel_rfl) (fin _ rfl)
 |some x=>
  have hi:=(gB h).1
  replace fin:=h▸fin
  refine bB (by simp;assumption)<|fJ<|bT<|mC C rfl rfl rfl<|bY rfl rfl rfl hz h ⟨rfl,_,rfl,?_⟩
  cases x with
  |br=>exact bI rfl<|bI rfl<|bZ<|aN (by kernel_rfl) (fin _ rfl)
  |tok s t v r c=>
   refine bB rfl<|fJ<|aV<|dG C rfl<|bY rfl rfl rfl hz h ⟨s,t,v,r,c,_,cQ,rfl,rfl,aN (by kernel_rfl) ⟨_,iG _ _,?_⟩⟩
   by_cases hs:s="word"
   ·refine bB (by simpa using hs)<|eO<|bB rfl<|aH<|bZ<|dG C rfl<|bY rfl rfl rfl hz h ⟨s,t,v,r,c,_,cQ,rfl,rfl,fin _ ?_⟩
    exact congrArg V.str (if_pos hs).symm
   ·refine bI (by simpa using hs)<|bI rfl<|bZ<|aN (by kernel_rfl) (fin _ ?_)
    exact congrArg V.str (if_neg hs).symm
theorem zK{t p:Str}(h:Txt.startswith t p=true)(hp:0<p.length):t≠"":=by
 rintro rfl
 unfold Txt.startswith at h
 simp only[Bool.and_eq_true,decide_eq_true_eq] at h
 have h0:(Str.ofString "").length=0:=by exact rfl
 exact absurd hp (Nat.not_lt.mpr (aM (dH (Nat.zero_add _).symm) (aM h.1 (dH h0))))
inductive aOR(τ:aA)(r1:Except bF (Int×Nat))(code:Int)(l:List It)(a0:V)(loc':aX)(σ':aA):Prop
 |mk (o:Int) (j:Nat) (e:σ'=τ) (e2:r1=.ok (o,j)) (l1:loc'.lookup ("code":Str)=some (.val (.int code))) (l2:loc'.lookup ("items":Str)=some (.val (.lst (cN l)))) (l3:loc'.lookup ("at":Str)=some (.val (.int (j:Nat)))) (l4:loc'.lookup ("offset":Str)=some (.val (.int o))) (l5:loc'.lookup ("align":Str)=some (.val a0))
inductive aOH(τ:aA)(r2:Except bF (V×Nat))(code o:Int)(loc':aX)(σ':aA):Prop
 |mk (a:V) (k:Nat) (e:σ'=τ) (e2:r2=.ok (a,k)) (l1:loc'.lookup ("code":Str)=some (.val (.int code))) (l3:loc'.lookup ("at":Str)=some (.val (.int (k:Nat)))) (l4:loc'.lookup ("offset":Str)=some (.val (.int o))) (l5:loc'.lookup ("align":Str)=some (.val a))
theorem aHL(C:Cx G){slf:V}{code:Int}{l:List It}{i:Nat}{res:Except bF (V×Nat)}{Q:V→aA→Prop}(hz:l.length≤2^20)(ho:∀i,sQ (cB l i)=true)(hr:aDc code l i=some res)
  (hq:∀iv j,res=.ok (iv,j)→Q (.tup [iv,.int (j:Nat)]) σ) (hx:∀e,res=.error e→X e):aW Q σ X 10 (.ref 547) [slf,.int code,.lst (cN l),.int i]:=by
 refine aZ (n:=9) (gV (ps:=["self","code","items","at"]) C rfl rfl rfl rfl (bt4 fun Z Z Z Z Z=>.of_eq rfl)) (zD T0) (zD T0) rfl fun L hL=>?_
 refine dQ hr fun a0 hn hr=>?_
 refine aG<|bD (ns:=["offset","align"]) (o:=some ["offset","align"]) rfl rfl rfl rfl (.inr rfl) ?_
 refine aT<|aC<|aF<|aC (aY (n:=1) (aFj C) (aS C rfl) rfl (aD rfl) rfl<|aQ rfl<|aFl C hn<|aE ⟨by simp,_,rfl,rfl,?_⟩)
 refine rwL (if_neg (by simp)) ?_
 refine dQ hr fun r1 hof hr=>?_
 refine qX (aOR (upd L .mark σ) r1 code l a0) ?_ ?_
 ·refine gQ<|bT<|cI rfl<|aY (n:=1) (tM C) (aS C rfl) rfl (aD rfl) rfl<|bL rfl<|aQ rfl<|wN C hz ⟨.builtin "str.startswith",_,0,.blt "str" "str.startswith" rfl F.plainAttrs_str F.slot_str_startswith (by kernel_rfl),aO _,cM _,aC<|aN (by kernel_rfl)<|aE<|aBP ⟨_,rfl,dN (fun b=>?_) fun b=>?_⟩⟩
  ·refine gU (ho i) fun m Z=>gU (orT m b) fun m Z=>gU m fun m1 m2=>?_
   refine yU (zK b (aD rfl)) fun s v r c hx0=>?_
   refine cG rfl<|aY (n:=8) (wZ C) (aS C rfl) rfl (aD rfl) rfl<|aC (gY<|dG C rfl<|bY rfl rfl rfl hz hx0 ⟨s,cB l i,v,r,c,_,cQ,rfl,rfl,aF ⟨_,rfl,.inr ⟨_,rfl,?_⟩⟩⟩)
   refine aC<|bY rfl rfl rfl hz hx0<|aE ?_
   refine dQ ((if_pos b).symm.trans hof) fun cr hcr hof=>?_
   refine aEh C (x:=.tok s (cB l i) v r c) m1 m2 ((congrArg (fun o:Option It=>mB (aCU (cB l i)) (o.getD (.br [] 0 0))) hx0).symm.trans hcr) (fun n e=>?_) fun e he=>hx _ (rL (rL he.symm hof) hr).symm
   have hof:=aAI e.symm hof
   exact cG rfl<|aP<|aB rfl<|aF ⟨_,.add _ _,aH ⟨n,i+1,rfl,(bE hof).symm,rfl,rfl,rfl,rfl,rfl⟩⟩
  ·exact aH ⟨0,i,rfl,(bE ((if_neg (nb b)).symm.trans hof)).symm,rfl,rfl,rfl,rfl,rfl⟩
 rintro loc' σ' ⟨o,j,e,e2,l1,l2,l3,l4,l5⟩
 subst e
 have hr:=aAI e2.symm hr
 refine dQ hr fun r2 hal hr=>?_
 refine qX (aOH (upd L .mark σ) r2 code o) ?_ ?_
 ·refine gQ<|bT<|cI rfl<|aY (n:=1) (tM C) (aS C rfl) rfl (aD rfl) rfl<|bL l2<|aQ l3<|wN C hz ⟨.builtin "str.startswith",_,0,.blt "str" "str.startswith" rfl F.plainAttrs_str F.slot_str_startswith (by kernel_rfl),aO _,cM _,aC<|aN (by kernel_rfl)<|aE<|aBP ⟨_,rfl,dN (fun b=>?_) fun b=>?_⟩⟩
  ·refine gU (ho j) fun Z m=>gU (orT m b) fun m Z=>gU m fun m1 m2=>?_
   refine yU (zK b (aD rfl)) fun s v r c hx0=>?_
   refine cG rfl<|aY (n:=8) (xZ C) (aS C rfl) rfl (aD rfl) rfl<|aC (aY (n:=8) (wZ C) (aS C rfl) rfl (aD rfl) rfl<|aC (gY<|dG C rfl<|bY l2 l3 rfl hz hx0 ⟨s,cB l j,v,r,c,_,cQ,rfl,rfl,aF ⟨_,rfl,.inr ⟨_,rfl,?_⟩⟩⟩))
   refine aC<|bY l2 l3 rfl hz hx0<|aE ?_
   refine dQ ((if_pos b).symm.trans hal) fun cr hcr hal=>?_
   refine aEh C (x:=.tok s (cB l j) v r c) m1 m2 ((congrArg (fun o:Option It=>mB (aCY (cB l j)) (o.getD (.br [] 0 0))) hx0).symm.trans hcr) (fun n e=>?_) fun e he=>hx _ (rL (rL he.symm hal) hr).symm
   have hal:=aAI e.symm hal
   refine dQ hal fun e hee hal=>?_
   refine aC<|bY l2 l3 rfl hz hx0<|aE<|aMD C (k:=40) (aD rfl) hee (fun h2=>?_) fun h2=>hx _ ?_
   ·exact cG rfl<|aP<|aB l3<|aF ⟨_,.add _ _,aH ⟨_,j+1,rfl,(bE ((if_pos h2).symm.trans hal)).symm,l1,rfl,l4,rfl⟩⟩
   ·rw[←rL (bE ((if_neg h2).symm.trans hal)) hr,hx0];rfl
  ·exact aH ⟨a0,j,rfl,(bE ((if_neg (nb b)).symm.trans hal)).symm,l1,l3,l4,l5⟩
 rintro loc2 σ2 ⟨a,k,e,e2,l6,l7,l8,l9⟩
 subst e
 refine bZ<|aT<|aC (aT<|bL l6<|bL l9<|aQ l8 ⟨by simp,aQ l7 ⟨by simp,?_⟩⟩)
 have hr:=aAI e2.symm hr
 show Q _ (eZ L (upd L .mark σ))
 exact(aU hL).symm▸hq _ _ (bE hr).symm
end
noncomputable def nE:List Str:=["f32","f64","v128"]
noncomputable def aG1(x:It):V→Except bF Int
 |.int k=>.ok k
 |_=>.error (iC "unexpected token" x)
noncomputable def mQ:It→Except bF Int
 |.tok s t v r c=>if s="word" then aG1 (.tok s t v r c) (fZ t iM) else .error (iC "unexpected token" (.tok s t v r c))
 |.br l r c=>.error (iC "unexpected token" (.br l r c))
noncomputable def yM:It→Bool
 |.tok _ t ..=>nE.any (·==t)
 |.br ..=>false
theorem aBZ{t:Str}{rs:List (Int×Str)}:(∃k,fZ t rs=.int k)∨fZ t rs=.none:=by
 induction rs with
 |nil=>exact .inr rfl
 |cons p rs ih=>
  have e1:fZ t (p::rs)=if p.2=t then .int p.1 else fZ t rs:=rfl
  refine rwL e1 ?_
  by_cases h:p.2=t
  ·exact .inl ⟨_,if_pos h⟩
  ·refine rwL (if_neg h) ?_
   exact ih
section
variable{md:Md}{loc:aX}{σ:aA}{X:bF→Prop}
theorem aIA(C:Cx G){t:Str}{Q:V→aA→Prop}(hq:Q (.bool (nE.any (·==t))) σ):aW Q σ X 3 (.ref 31) [.str t]:=by
 refine aZ (n:=2) (gV (ps:=["name"]) C rfl rfl rfl rfl (bt1 fun Z Z=>.of_eq rfl)) (zD T0) (zD T0) rfl fun L hL=>?_
 have fin:∀v,v=V.bool (nE.any (·==t))→Q v (eZ L (upd L .mark σ)):=fun v e=>by exact rwL (aU hL) (rwL e hq)
 refine bZ<|aC5 rfl (aB rfl ⟨rfl,rfl⟩) (bA (aAy C) rfl ⟨rfl,rfl⟩) rfl (zD T0) (fin _ rfl)
theorem aDX(C:Cx G){x:It}{Q:V→aA→Prop}(hl:yM x=false)(hq:∀k,mQ x=.ok k→Q (.int k) σ)(hx:∀e,mQ x=.error e→X e):aW Q σ X 8 (.ref 313) [oF x]:=by
 refine aZ (n:=7) (gV (ps:=["item"]) C rfl rfl rfl rfl (bt1 fun Z Z=>.of_eq rfl)) (zD T0) (zD T0) rfl fun L hL=>?_
 cases x with
 |br l r c=>
  refine qZ<|fJ<|bT<|mC (x:=.br l r c) C rfl rfl rfl<|aB rfl ⟨rfl,true,rfl,bI rfl<|bI rfl ?_⟩
  exact cW<|aY (n:=7) (cU C) (aS C rfl) rfl (aD rfl) rfl<|aC<|aN (by kernel_rfl)<|aQ rfl<|jD C (hx _ rfl)
 |tok s t v r c=>
  refine qZ<|fJ<|bT<|mC (x:=.tok s t v r c) C rfl rfl rfl<|aB rfl ⟨rfl,false,rfl,bB rfl ?_⟩
  refine fJ<|aV<|dG C rfl<|aB rfl ⟨s,t,v,r,c,_,cQ,rfl,rfl,aN (by kernel_rfl) ⟨_,iG _ _,?_⟩⟩
  by_cases hs:s="word"
  ·refine bB (by simp[hs])<|eO<|bB rfl<|aH ?_
   have e1:mQ (.tok s t v r c)=aG1 (.tok s t v r c) (fZ t iM):=if_pos hs
   rw[e1] at hq hx
   refine qZ<|bT<|aY (n:=3) (wG C) (aS C rfl) rfl (aD rfl) rfl<|aC (dG C rfl<|aB rfl ⟨s,t,v,r,c,_,cQ,rfl,rfl,aE<|aIA C ⟨_,rfl,bB hl<|aH ?_⟩⟩)
   refine cG rfl<|aY (n:=1) (aEL C) (aS C rfl) rfl (aD rfl) rfl<|aC (dG C rfl<|aB rfl ⟨s,t,v,r,c,_,cQ,rfl,rfl,aE<|aLa C ?_⟩)
   rcases aBZ (t:=t) (rs:=iM) with⟨k,hk⟩|hk
   ·rw[hk] at hq ⊢
    refine eB rfl<|bQ ⟨false,rfl,bB rfl<|aH ?_⟩
    refine bZ<|aB rfl ?_
    show Q _ (eZ L (upd L .mark σ))
    refine rwL (aU hL) ?_
    exact hq k rfl
   ·rw[hk] at hx ⊢
    refine eB rfl<|bQ ⟨true,rfl,bI rfl<|aG ?_⟩
    exact pT<|aY (n:=7) (cU C) (aS C rfl) rfl (aD rfl) rfl<|aC<|aN (by kernel_rfl)<|aQ rfl<|jD C (hx _ rfl)
  ·refine bI (by simp[hs])<|bI rfl<|aG ?_
   have e1:mQ (.tok s t v r c)=.error (iC "unexpected token" (.tok s t v r c)):=if_neg hs
   exact pT<|aY (n:=7) (cU C) (aS C rfl) rfl (aD rfl) rfl<|aC<|aN (by kernel_rfl)<|aQ rfl<|jD C (hx _ e1)
theorem sU{α β:Type}(f:α→β)(xs:List α)(lo hi:Option Int):oX (xs.map f) lo hi=(oX xs lo hi).map f:=by
 unfold oX;rw[bS,List.map_take,List.map_drop]
theorem aEw{α:Type}(l:List α):oX l (some 1) none=l.drop 1:=by
 induction l with
 |nil=>rfl
 |cons a l=>
  have h1:clipAt (a::l).length 1=1:=(clipAt_nat (a::l).length 1).trans (Nat.min_eq_left (fM (cM _)))
  unfold oX
  show((a::l).drop (clipAt (a::l).length 1)).take ((a::l).length - clipAt (a::l).length 1)=_
  refine rwL h1 ?_
  exact List.take_of_length_le (by simp)
theorem tG(l:List It):oX (cN l) (some 1) none=(l.drop 1).map oF:=by rw[gX,sU,aEw]
theorem mW{α:Type}{target elt:Expr}(f g:α→V){as:List α}:(∀a∈as,∃loc',tZ target (f a) loc=some loc'∧∀σ',Ext σ σ'→cP (fun Z=>False) σ' loc' md (fun r σ''=>r=g a∧σ''=σ') elt)→zC md target [] elt loc σ (as.map f) (as.map g):=by
 induction as with
 |nil=>intro _;rfl
 |cons a as ih=>
  intro h
  obtain⟨loc',h1,h2⟩:=h a (eS ..)
  exact⟨loc',h1,true,fun Z Z=>rfl,bI rfl ⟨g a,_,rfl,h2,ih fun b hb=>h b (fW _ hb)⟩⟩
noncomputable def lW(x:It):Int:=match mQ x with
 |.ok k=>k
 |.error _=>0
noncomputable def jU(x:It):Bool:= !yM x&&(match mQ x with
 |.ok _=>true
 |.error _=>false)
theorem aHr{x:It}(h:jU x=true):yM x=false∧mQ x=.ok (lW x):=by
 unfold jU at h
 unfold lW
 rw[Bool.and_eq_true] at h
 induction hk:mQ x with
 |ok k=>exact⟨by simpa using h.1,rfl⟩
 |error e=>
  replace h:=hk▸h
  exact iX h.2
theorem aDL(C:Cx G){l:List It}{r c:Int}{Q:V→aA→Prop}(hz:l.length≤2^20)(hk:(l.drop 1).all jU=true)(hq:Q (.lst ((l.drop 1).map fun x=>.int (lW x))) σ):aW Q σ X 9 (.ref 318) [oF (.br l r c)]:=by
 refine aZ (n:=8) (gV (ps:=["branch"]) C rfl rfl rfl rfl (bt1 fun Z Z=>.of_eq rfl)) (zD T0) (zD T0) rfl fun L hL=>?_
 refine bZ<|aAU (cl:=[]) rfl rfl rfl<|fE<|gY<|tT C rfl<|aB rfl ⟨l,r,c,_,rfl,rfl,rfl,aF ⟨_,rfl,.inl ⟨_,rfl,rwL (bH _) hz,.inl ?_⟩⟩⟩
 refine⟨_,.lst _,(l.drop 1).map fun x=>.int (lW x),?_,?_,.inl ?_⟩
 ·refine rwL (tG _) ?_
  refine rwL (bS _) ?_
  exact aM (by simp) hz
 ·refine rwL (tG _) ?_
  refine mW oF _ fun x hx=>⟨_,rfl,fun σ3 Z=>?_⟩
  obtain⟨h1,h2⟩:=aHr (eT hk x hx)
  exact aY (n:=8) (sS C) (aS C rfl) rfl (aD rfl) rfl<|aQ rfl<|aDX C h1 (fun k e=>by rw[h2] at e;obtain rfl:=Except.ok.inj e;exact⟨rfl,rfl⟩) fun e h=>by rw[h2] at h;exact exE (Eq.symm h)
 ·show Q _ (eZ L (upd L .mark σ))
  refine rwL (aU hL) ?_
  exact hq
theorem aGA(C:Cx G){l:List It}{x:It}{xs:List It}{r c:Int}{e:bF}{Q:V→aA→Prop}(hz:l.length≤2^20)(hl:l.drop 1=x::xs)(h1:yM x=false)(h2:mQ x=.error e)(hx:X e):aW Q σ X 9 (.ref 318) [oF (.br l r c)]:=by
 refine aZ (n:=8) (gV (ps:=["branch"]) C rfl rfl rfl rfl (bt1 fun Z Z=>.of_eq rfl)) (zD T0) (zD T0) rfl fun L hL=>?_
 refine bZ<|xQ (cl:=[]) rfl rfl rfl<|fE<|gY<|tT C rfl<|aB rfl ⟨l,r,c,_,rfl,rfl,rfl,aF ⟨_,rfl,.inl ⟨_,rfl,rwL (bH _) hz,.inl ?_⟩⟩⟩
 refine⟨_,.lst _,oF x,_,?_,rfl,fun σ3 Z=>?_⟩
 ·show(oX (cN l) (some 1) none)[0]? =_
  refine rwL (tG _) ?_
  refine rwL hl ?_
  rfl
 ·exact aY (n:=8) (sS C) (aS C rfl) rfl (aD rfl) rfl<|aQ rfl<|aDX C h1 (fun k e=>by rw[h2] at e;exact exE e) fun e' h=>by rw[h2] at h;obtain rfl:=Except.error.inj h;exact hx
noncomputable def iS:It→List It
 |.br l _ _=>l
 |.tok ..=>[]
noncomputable def tO:List It→Nat→List Int→Bool→Option (List Int×Nat)
 |[],j,ks,_=>some (ks,j)
 |x::xs,j,ks,res=>
  if dK x="result" then(if((iS x).drop 1).all jU=true∧ks.length+((iS x).drop 1).length≤1 then tO xs (j+1) (ks++((iS x).drop 1).map lW) true else none)
  else if dK x="type" then none
  else if dK x="param" then(if res=true then some (ks,j) else if(iS x).length≤1 then tO xs (j+1) ks res else none)
  else some (ks,j)
theorem zR{x:It}{xs:List It}{j:Nat}{ks:List Int}{res:Bool}:tO (x::xs) j ks res=
  if dK x="result" then(if((iS x).drop 1).all jU=true∧ks.length+((iS x).drop 1).length≤1 then tO xs (j+1) (ks++((iS x).drop 1).map lW) true else none)
  else if dK x="type" then none
  else if dK x="param" then(if res=true then some (ks,j) else if(iS x).length≤1 then tO xs (j+1) ks res else none)
  else some (ks,j):=rfl
noncomputable def lY:List Int→Int
 |[]=>-64
 |k::_=>k
theorem sI{x:It}{w:Str}(h:dK x=w)(hw:w≠""):∃l r c,x=.br l r c:=by
 cases x with
 |br l r c=>exact⟨l,r,c,rfl⟩
 |tok=>exact absurd h.symm hw
inductive BkJ(σ0:aA)(D:Addr)(l:List It)(KS:List Int)(J:Nat)(rest:List It)(loc:aX)(σ':aA):Prop
 |mk (j:Nat) (ks:List Int) (res:Bool) (e:σ'=upd D (.lst (ks.map V.int)) σ0) (l1:loc.lookup ("items":Str)=some (.val (.lst (cN l)))) (l3:loc.lookup ("behind":Str)=some (.val (.int (j:Nat)))) (l4:loc.lookup ("kinds":Str)=some (.val (.ref D)))
  (l5:loc.lookup ("has_params":Str)=some (.val (.bool false))) (l6:loc.lookup ("has_results":Str)=some (.val (.bool res))) (hr:rest=l.drop j) (hk:tO rest j ks res=some (KS,J)) (hl:ks.length≤1)
inductive BkK(σ0:aA)(D:Addr)(KS:List Int)(J:Nat)(loc:aX)(σ':aA):Prop
 |mk (e:σ'=upd D (.lst (KS.map V.int)) σ0) (l3:loc.lookup ("behind":Str)=some (.val (.int (J:Nat)))) (l4:loc.lookup ("kinds":Str)=some (.val (.ref D))) (l5:loc.lookup ("has_params":Str)=some (.val (.bool false))) (hl:KS.length≤1)
theorem BkK.of{σ0:aA}{D:Addr}{KS ks:List Int}{J j:Nat}{loc:aX}(e:some (ks,j)=some (KS,J))(l3:loc.lookup ("behind":Str)=some (.val (.int (j:Nat))))(l4:loc.lookup ("kinds":Str)=some (.val (.ref D)))(l5:loc.lookup ("has_params":Str)=some (.val (.bool false)))(hl:ks.length≤1):BkK σ0 D KS J loc (upd D (.lst (ks.map V.int)) σ0):=by
 cases e;exact⟨rfl,l3,l4,l5,hl⟩
theorem wX{α:Type}{l xs:List α}{x:α}{j:Nat}(h:x::xs=l.drop j):l[j]? =some x∧xs=l.drop (j+1):=by
 have h1:(l.drop j)[0]? =some x:=by rw[←h];rfl
 rw[List.getElem?_drop] at h1
 exact⟨h1,by rw[←List.drop_drop,←h];rfl⟩
theorem aC2(C:Cx G){slf:V}{l:List It}{i J:Nat}{KS:List Int}{Q:V→aA→Prop}(hz:l.length≤2^20)(ho:∀x∈l,aFI x=true)(hk:tO (l.drop i) i [] false=some (KS,J))(hq:Q (.tup [.int (lY KS),.int J]) σ):aW Q σ X 11 (.ref 493) [slf,.lst (cN l),.int i]:=by
 refine qJ (aZ (n:=10) (gV (ps:=["self","items","at"]) C rfl rfl rfl rfl (bt3 fun Z Z Z Z=>.of_eq rfl)) (zD T0) (zD T0) rfl fun L hL=>?_)
 refine aG<|bD (ns:=["behind","kinds","has_params","has_results"]) (o:=none) rfl rfl rfl rfl (.inl rfl) ?_
 refine aT<|bL rfl<|aC (bJ<|aE ⟨aD rfl,.inr fun D hD=>?_⟩)
 have hDL:D≠L:=by rintro rfl;rw[aI] at hD;exact cZ (Eq.symm hD)
 have hDσ:σ D=none:=by rw[aR _ _ hDL] at hD;exact hD
 refine aC<|dZ<|aC<|dZ<|aE ⟨aD rfl,_,rfl,rfl,?_⟩
 refine rwL (if_pos rfl) ?_
 refine aG<|lB _ (mV (BkJ (upd L .mark σ) D l KS J) (BkK (upd L .mark σ) D KS J) ?_ ?_ (l.drop i) _ _ ⟨i,[],false,rfl,rfl,rfl,rfl,rfl,rfl,rfl,hk,cM _⟩)
 ·rintro loc σ' ⟨rfl,l3,l4,l5,hl⟩
  have fin:aLW Q (.tup [.int (lY KS),.int J]) (eZ L (upd D (.lst (KS.map V.int)) (upd L .mark σ))):=by
   refine⟨D,_,(dP _ hDL).trans (aI ..),by nofun,by nofun,?_⟩
   refine rwL (cF hDL) ?_
   refine rwL (aU hL) ?_
   refine rwL (aU hDσ) ?_
   exact hq
  refine qZ<|bU<|mL<|bT<|aB l5 ⟨_,rfl,bI rfl ?_⟩
  refine bU<|aV<|cY (hY C) rfl (aO _) rfl rfl<|aQ l4<|fK (n:=KS.length) (by unfold oM;rw[dA (aI ..)];exact congrArg some (bS ..)) (aM ‹_› (aD rfl))<|aF ⟨decide ((KS.length:Int)<2),rfl,bI (decide_eq_true (by first|decide|(refine aM (by assumption) ?_;exact aD rfl)|exact Int.ofNat_lt.mpr (Nat.lt_succ_of_le hl)))<|cK<|bI rfl ?_⟩
  refine bZ<|aT<|aC (bX<|aV<|cY (hY C) rfl (aO _) rfl rfl<|aQ l4<|fK (n:=KS.length) (by unfold oM;rw[dA (aI ..)];exact congrArg some (bS ..)) (aM ‹_› (aD rfl))<|aF ⟨decide ((KS.length:Int)=1),cS _ _,?_⟩)
  cases KS with
  |nil=>exact bB rfl<|bA (aI4 C) rfl<|aQ l3 ⟨aD rfl,fin⟩
  |cons k KS=>
   obtain rfl:KS=[]:=List.length_eq_zero_iff.mp (Nat.le_zero.mp (Nat.le_of_succ_le_succ hl))
   exact bI rfl<|bR<|aB l4<|aF ⟨.int k,.lst _ _ 0 _ (dA (aI ..)) (zD T0) (gI (i:=0) rfl),aQ l3 ⟨aD rfl,fin⟩⟩
 ·rintro rest loc σ' ⟨j,ks,res,e,l1,l3,l4,l5,l6,hr,hk,hl⟩
  subst e
  refine mJ C rfl l3 l1 rfl (rwL (bH _) hz) rfl ?_
  cases rest with
  |nil=>
   exact bB (decide_eq_false (rwL (bH _) (fun q=>absurd (List.drop_eq_nil_iff.mp hr.symm) (Nat.not_le.mpr q)))) (BkK.of hk l3 l4 l5 hl)
  |cons x xs=>
   obtain⟨h,hxs⟩:=wX hr
   have hi:=(gB h).1
   have hox:=ho x (iA h)
   refine bI (decide_eq_true (rwL (bH _) hi)) ⟨x,xs,rfl,?_⟩
   refine cG rfl<|aY (n:=2) (jS C) (aS C rfl) rfl (aD rfl) rfl<|aC<|bY l1 l3 rfl hz h<|aE<|nF C hox ?_
   refine eB rfl<|aN (by kernel_rfl) ⟨_,bG _ _,kZ hk (fun h1 hk=>bI (decide_eq_true h1)<|kZ hk (fun h2 hk=>?_) fun Z=>cZ) fun h1 hk=>bB (decide_eq_false h1)<|kZ hk (fun Z=>cZ) fun h2 hk=>?_⟩
   ·obtain⟨bl,r,c,rfl⟩:=sI h1 (zD T0)
    refine cW<|cI rfl<|aB l4 ⟨.builtin "list.extend",_,0,.blt "list" "list.extend" (by unfold fS;rw[dA (aI ..)]) PySem.F.plainAttrs_list PySem.F.slot_list_extend (by kernel_rfl),aO _,cM _,?_⟩
    refine aC (aY (n:=9) (qW C) (aS C rfl) rfl (aD rfl) rfl<|aC<|bY l1 l3 rfl hz h<|aE<|aDL C (of_decide_eq_true hox) h2.1<|aE ?_)
    refine kB (aI ..) rfl (rwL (bS _) (rwL (bS _) (aM h2.2 (by exact aD rfl)))) ?_
    refine cG rfl<|dZ<|aH ?_
    refine cG rfl<|aP<|aB l3<|aF ⟨_,.add _ _,aH ⟨j+1,ks++(bl.drop 1).map lW,true,?_,l1,rfl,l4,l5,rfl,hxs,hk,?_⟩⟩
    ·rw[bK,eD,List.map_map];rfl
    ·rw[cL,bS]
     exact h2.2
   ·refine qZ<|fJ<|bU<|aV<|aB rfl<|aN (by kernel_rfl) ⟨_,bG _ _,bB (decide_eq_false h2)<|bB rfl ?_⟩
    refine fJ<|bU<|aV<|aB rfl<|aN (by kernel_rfl) ⟨_,bG _ _,kZ hk (fun h3 hk=>bI (decide_eq_true h3) ?_) fun h3 hk=>bB (decide_eq_false h3) ?_⟩
    ·obtain⟨bl,r,c,rfl⟩:=sI h3 (zD T0)
     refine bU<|mL<|bT<|aB l6 ⟨res,rfl,?_⟩
     cases res with
     |true=>exact bB rfl<|bB rfl<|eO<|bB rfl<|aG<|aBT (BkK.of hk l3 l4 l5 hl)
     |false=>
      refine kZ (show(if(iS (.br bl r c)).length≤1 then tO xs (j+1) ks false else none)=some (KS,J) from hk) (fun h4 hk=>?_) fun Z=>cZ
      refine bI rfl<|cK<|bI rfl ?_
      refine cG rfl<|zW<|aB l5 ⟨false,rfl,bB rfl ?_⟩
      refine zW<|kI<|aB rfl<|aN (by kernel_rfl) ⟨_,bG _ _,_,rfl,bB (decide_eq_false h2) ?_⟩
      refine kF<|kI<|cY (hY C) rfl (aO _) rfl rfl<|aC (tT C rfl<|bY l1 l3 rfl hz h ⟨bl,r,c,_,rfl,rfl,rfl,aE ?_⟩)
      refine fK (n:=bl.length) (by unfold oM;show some (cN bl).length=_;rw[bH]) (aM h4 (aD rfl))<|aF ⟨decide ((1:Int)<(bl.length:Int)),rfl,?_⟩
      refine rwL (decide_eq_false (show ¬((1:Int)<(bl.length:Int)) from Int.not_lt.mpr (Int.ofNat_le.mpr h4))) ?_
      refine aH<|aH ?_
      exact cG rfl<|aP<|aB l3<|aF ⟨_,.add _ _,aH ⟨j+1,ks,false,rfl,l1,rfl,l4,rfl,l6,hxs,hk,hl⟩⟩
    ·exact bB rfl<|eO<|bB rfl<|aG<|aBT (BkK.of hk l3 l4 l5 hl)
noncomputable def xV:List It→Nat→List Int→Bool→Option (List Int×Bool×Nat)
 |[],j,ks,told=>some (ks,told,j)
 |x::xs,j,ks,told=>
  if dK x="result" then(if((iS x).drop 1).all jU=true∧ks.length+((iS x).drop 1).length≤8 then xV xs (j+1) (ks++((iS x).drop 1).map lW) true else none)
  else some (ks,told,j)
theorem wD{x:It}{xs:List It}{j:Nat}{ks:List Int}{told:Bool}:xV (x::xs) j ks told=
  if dK x="result" then(if((iS x).drop 1).all jU=true∧ks.length+((iS x).drop 1).length≤8 then xV xs (j+1) (ks++((iS x).drop 1).map lW) true else none)
  else some (ks,told,j):=rfl
noncomputable def aJI(ks:List Int):Bool→V
 |true=>.tup (.int 28::ks.map V.int)
 |false=>.tup [.int 27]
inductive SlJ(σ0:aA)(D:Addr)(l:List It)(KS:List Int)(TT:Bool)(J:Nat)(rest:List It)(loc:aX)(σ':aA):Prop
 |mk (j:Nat) (ks:List Int) (told:Bool) (e:σ'=upd D (.lst (ks.map V.int)) σ0) (l1:loc.lookup ("items":Str)=some (.val (.lst (cN l)))) (l3:loc.lookup ("at":Str)=some (.val (.int (j:Nat)))) (l4:loc.lookup ("kinds":Str)=some (.val (.ref D)))
  (l5:loc.lookup ("is_told":Str)=some (.val (.bool told))) (hr:rest=l.drop j) (hk:xV rest j ks told=some (KS,TT,J)) (hl:ks.length≤8)
inductive SlK(σ0:aA)(D:Addr)(KS:List Int)(TT:Bool)(J:Nat)(loc:aX)(σ':aA):Prop
 |mk (e:σ'=upd D (.lst (KS.map V.int)) σ0) (l3:loc.lookup ("at":Str)=some (.val (.int (J:Nat)))) (l4:loc.lookup ("kinds":Str)=some (.val (.ref D))) (l5:loc.lookup ("is_told":Str)=some (.val (.bool TT))) (hl:KS.length≤8)
theorem aHC(C:Cx G){slf:V}{l:List It}{i J:Nat}{KS:List Int}{TT:Bool}{Q:V→aA→Prop}(hz:l.length≤2^20)(ho:∀x∈l,aFI x=true)(hk:xV (l.drop i) i [] false=some (KS,TT,J))(hq:Q (.tup [aJI KS TT,.int J]) σ):aW Q σ X 11 (.ref 561) [slf,.lst (cN l),.int i]:=by
 refine qJ (aZ (n:=10) (gV (ps:=["self","items","at"]) C rfl rfl rfl rfl (bt3 fun Z Z Z Z=>.of_eq rfl)) (zD T0) (zD T0) rfl fun L hL=>?_)
 refine aG<|bD (ns:=["kinds","is_told"]) (o:=some ["kinds","is_told"]) rfl rfl rfl rfl (.inr rfl) ?_
 refine aT<|aC (bJ<|aE ⟨aD rfl,.inr fun D hD=>?_⟩)
 have hDL:D≠L:=by rintro rfl;rw[aI] at hD;exact cZ (Eq.symm hD)
 have hDσ:σ D=none:=by rw[aR _ _ hDL] at hD;exact hD
 refine aC<|dZ<|aE ⟨aD rfl,_,rfl,rfl,?_⟩
 refine rwL (if_neg (by simp)) ?_
 refine aG<|lB _ (mV (SlJ (upd L .mark σ) D l KS TT J) (SlK (upd L .mark σ) D KS TT J) ?_ ?_ (l.drop i) _ _ ⟨i,[],false,rfl,rfl,rfl,rfl,rfl,rfl,hk,cM _⟩)
 ·rintro loc σ' ⟨rfl,l3,l4,l5,hl⟩
  have fin:aLW Q (.tup [aJI KS TT,.int J]) (eZ L (upd D (.lst (KS.map V.int)) (upd L .mark σ))):=by
   refine⟨D,_,(dP _ hDL).trans (aI ..),by nofun,by nofun,?_⟩
   refine rwL (cF hDL) ?_
   refine rwL (aU hL) ?_
   refine rwL (aU hDσ) ?_
   exact hq
  refine qZ<|bT<|aB l5 ⟨TT,rfl,?_⟩
  cases TT with
  |false=>
   refine bB rfl<|aH ?_
   exact bZ<|aT<|aC (aT<|aC<|bA (aFE C) rfl<|aE ⟨aD rfl,aQ l3 ⟨aD rfl,fin⟩⟩)
  |true=>
   refine bI rfl<|bZ<|aT<|aC (cY (uM C) rfl (eI _) rfl rfl<|aC (jG<|bJ<|aC<|bA (oQ C) rfl<|aE ⟨aD rfl,.inl<|aB l4 ⟨_,_,rfl,dA (aI ..),?_,.inl<|aE<|rQ rfl ?_<|aQ l3 ⟨aD rfl,fin⟩⟩⟩))
   ·simp;exact aM (fV hl 1) (aD rfl)
   ·simp;exact aM ‹_› (aD rfl)
 ·rintro rest loc σ' ⟨j,ks,told,rfl,l1,l3,l4,l5,hr,hk,hl⟩
  refine bU<|mJ C rfl l3 l1 rfl (rwL (bH _) hz) rfl ?_
  cases rest with
  |nil=>
   cases hk
   exact bB (by rw[bH];have:=List.drop_eq_nil_iff.mp hr.symm;simpa using this)<|bB rfl ⟨rfl,l3,l4,l5,hl⟩
  |cons x xs=>
   obtain⟨h,hxs⟩:=wX hr
   have hi:=(gB h).1
   have hox:=ho x (iA h)
   replace hk:=wD▸hk
   refine bI (by rw[bH];simpa using hi) ?_
   refine bU<|aV<|aY (n:=2) (jS C) (aS C rfl) rfl (aD rfl) rfl<|aC<|bY l1 l3 rfl hz h<|aE<|nF C hox<|aN (by kernel_rfl) ⟨_,bG _ _,?_⟩
   by_cases h1:dK x="result"
   ·obtain⟨bl,r,c,rfl⟩:=sI h1 (zD T0)
    replace hk:=(if_pos h1)▸hk
    by_cases h2:(bl.drop 1).all jU=true∧ks.length+(bl.drop 1).length≤8
    ·replace hk:=(if_pos (show((iS (.br bl r c)).drop 1).all jU=true∧ks.length+((iS (.br bl r c)).drop 1).length≤8 from h2))▸hk
     refine bI (decide_eq_true ‹_›)<|cK<|bI rfl ⟨_,xs,rfl,?_⟩
     refine cW<|cI rfl<|aB l4 ⟨.builtin "list.extend",_,0,.blt "list" "list.extend" (by unfold fS;rw[dA (aI ..)]) PySem.F.plainAttrs_list PySem.F.slot_list_extend (by kernel_rfl),aO _,cM _,?_⟩
     refine aC (aY (n:=9) (qW C) (aS C rfl) rfl (aD rfl) rfl<|aC<|bY l1 l3 rfl hz h<|aE<|aDL C (of_decide_eq_true hox) h2.1<|aE ?_)
     refine kB (aI ..) rfl (rwL (bS _) (rwL (bS _) (aM h2.2 (by exact aD rfl)))) ?_
     refine cG rfl<|dZ ?_
     refine cG rfl<|aP<|aB l3<|aF ⟨_,.add _ _,aH ⟨j+1,ks++(bl.drop 1).map lW,true,?_,l1,rfl,l4,rfl,hxs,hk,?_⟩⟩
     ·refine rwL bK ?_
      refine rwL eD ?_
      refine rwL List.map_map ?_
      rfl
     ·refine rwL cL ?_
      refine rwL (bS _) ?_
      exact h2.2
    ·replace hk:=(if_neg (show ¬(((iS (.br bl r c)).drop 1).all jU=true∧ks.length+((iS (.br bl r c)).drop 1).length≤8) from h2))▸hk
     exact cZ hk
   ·replace hk:=(if_neg h1)▸hk
    cases hk
    exact bB (decide_eq_false ‹_›)<|bB rfl ⟨rfl,l3,l4,l5,hl⟩
inductive aMN(l:List It)(i:Nat)(e:bF):Prop
 |mk (bl:List It) (r c:Int) (x:It) (xs:List It) (h:l[i]? =some (.br bl r c)) (h0:dK (.br bl r c)="result") (hb:bl.drop 1=x::xs) (h1:yM x=false) (h2:mQ x=.error e)
inductive SlX(l:List It)(i:Nat)(D:Addr)(us:List Unit)(loc:aX)(σ':aA):Prop
 |mk (h:us=[()]) (l1:loc.lookup ("items":Str)=some (.val (.lst (cN l)))) (l3:loc.lookup ("at":Str)=some (.val (.int (i:Nat)))) (l4:loc.lookup ("kinds":Str)=some (.val (.ref D))) (hD:σ' D=some (.lst []))
theorem aFa(C:Cx G){slf:V}{l:List It}{i:Nat}{e:bF}{Q:V→aA→Prop}(hz:l.length≤2^20)(ho:∀x∈l,aFI x=true)(hk:aMN l i e)(hx:X e):aW Q σ X 11 (.ref 561) [slf,.lst (cN l),.int i]:=by
 obtain⟨bl,r,c,x,xs,h,h0,hb,h1,h2⟩:=hk
 refine aZ (n:=10) (gV (ps:=["self","items","at"]) C rfl rfl rfl rfl (bt3 fun Z Z Z Z=>.of_eq rfl)) (zD T0) (zD T0) rfl fun L hL=>?_
 refine aG<|bD (ns:=["kinds","is_told"]) (o:=some ["kinds","is_told"]) rfl rfl rfl rfl (.inr rfl) ?_
 refine aT<|aC (bJ<|aE ⟨aD rfl,.inr fun D hD=>?_⟩)
 refine aC<|dZ<|aE ⟨aD rfl,_,rfl,rfl,?_⟩
 refine rwL (if_neg (by simp)) ?_
 refine aG<|lB _ (mV (SlX l i D) (fun Z Z=>False) (fun Z Z z=>z.elim) ?_ [()] _ _ ⟨rfl,rfl,rfl,rfl,aI ..⟩)
 rintro us loc σ' ⟨rfl,l1,l3,l4,hD'⟩
 have hi:=(gB h).1
 have hox:=ho _ (iA h)
 refine bU<|mJ C rfl l3 l1 rfl (rwL (bH _) hz) rfl<|bI (by rw[bH];simpa using hi) ?_
 refine bU<|aV<|aY (n:=2) (jS C) (aS C rfl) rfl (aD rfl) rfl<|aC<|bY l1 l3 rfl hz h<|aE<|nF C hox<|aN (by kernel_rfl) ⟨_,bG _ _,bI (decide_eq_true ‹_›)<|cK<|bI rfl ⟨_,[],rfl,?_⟩⟩
 refine cW<|cI rfl<|aB l4 ⟨.builtin "list.extend",_,0,.blt "list" "list.extend" (by unfold fS;rw[dA hD']) PySem.F.plainAttrs_list PySem.F.slot_list_extend (by kernel_rfl),aO _,cM _,?_⟩
 exact aC (aY (n:=9) (qW C) (aS C rfl) rfl (aD rfl) rfl<|aC<|bY l1 l3 rfl hz h<|aE<|aGA C (of_decide_eq_true hox) hb h1 h2 hx)
theorem aGW{ids:List (Str×Int)}{t:Str}{v:V}{r c:Int}(h:gO t=true):eV ids (.tok "int" t v r c)=.error (rB r c "unexpected token"):=by
 rw[eV,if_pos rfl,if_pos h]
theorem aFQ{ids:List (Str×Int)}{t:Str}{n r c:Int}(h:gO t=false)(h2:2^32≤n):eV ids (.tok "int" t (.int n) r c)=.error (rB r c "i32 constant out of range"):=by
 rw[eV,if_pos rfl,if_neg (by rw[h];decide)];exact if_pos h2
theorem aH9{ids:List (Str×Int)}{t:Str}{n r c:Int}(h:gO t=false)(h2:n<2^32):eV ids (.tok "int" t (.int n) r c)=.ok n:=by
 rw[eV,if_pos rfl,if_neg (by rw[h];decide)];exact if_neg (show ¬2^32≤n from Int.not_le.mpr h2)
theorem aGU{ids:List (Str×Int)}{s t:Str}{v:V}{r c:Int}(hs:s≠"int"):eV ids (.tok s t v r c)=match(ids.find? fun p=>p.1=t) with
   |some p=>.ok p.2
   |none=>.error (rB r c (nN ("unknown local "++t) s)):=by
 rw[eV,if_neg hs] <;> rfl
theorem aIF(C:Cx G){R:RA}{ids:List (Str×Int)}{T B:List V}{as:List (Addr×Addr×Lb)}{s t:Str}{v:V}{r c:Int}{Q:V→aA→Prop}(S:RS as B T (kK ids) R σ)(hk:tB (.tok s t v r c))
  (hq:∀n,eV ids (.tok s t v r c)=.ok n→Q (.int n) σ) (hx:∀e,eV ids (.tok s t v r c)=.error e→X e):aW Q σ X 8 (.ref 528) [.ref R.r,iR s t v r c]:=by
 refine aZ (n:=7) (gV (ps:=["self","token"]) C rfl rfl rfl rfl (tA fun Z Z Z=>.of_eq rfl)) (zD T0) (zD T0) rfl fun L hL=>?_
 have S':=S.upd (m:=.mark) hL
 refine nZ<|dG C rfl<|aB rfl ⟨_,_,_,_,_,_,rfl,rfl,rfl,aN (by kernel_rfl) ⟨_,bG _ _,?_⟩⟩
 by_cases hs:s="int"
 ·subst hs
  obtain⟨n,ch,rfl,hc⟩:=hk.2 rfl
  refine bI (by simp)<|bZ<|aY (n:=7) (aBo C) (aS C rfl) rfl (aD rfl) rfl<|aQ rfl<|aKu C hc (fun h1=>hx _ (aGW h1)) (fun h1 h2=>hx _ (aFQ h1 h2)) fun h1 h2=>?_
  show Q _ (eZ L (upd L .mark σ))
  refine rwL (aU hL) ?_
  exact hq n (aH9 h1 h2)
 refine bB (decide_eq_false ‹_›)<|aH ?_
 rw[aGU hs] at hq hx
 refine nZ<|dG C rfl<|aB rfl ⟨_,_,_,_,_,_,rfl,rfl,rfl,dX C S' rfl rfl rfl rfl ⟨!(iY (ids.map (·.1)) (ids.map fun p=>V.int p.2) t).isSome,rfl,?_⟩⟩
 induction hf:ids.find? fun p=>p.1=t with
 |none=>
  replace hx:=hf▸hx
  refine rwL aCn ?_
  refine rwL hf ?_
  refine bI rfl<|cW<|aY (n:=7) (cU C) (aS C rfl) rfl (aD rfl) rfl<|aC (aP<|aN (by kernel_rfl)<|dG C rfl<|aB rfl ⟨s,t,v,r,c,_,rfl,rfl,rfl,_,.cat _ _ (by have:=hk.1;show 14+t.length≤2^20;exact aM (fV this 14) (aD rfl)),?_⟩)
  exact aQ rfl<|lG C (hx _ rfl)
 |some p=>
  replace hq:=hf▸hq
  have hg:iY (ids.map (·.1)) (ids.map fun p=>V.int p.2) t=some (.int p.2):=by rw[aCn,hf];rfl
  refine rwL hg ?_
  refine bB rfl<|aH<|bZ<|bR<|dX C S' rfl rfl rfl rfl<|dG C rfl<|aB rfl ⟨s,t,v,r,c,_,rfl,rfl,rfl,.int p.2,.sdc _ _ _ _ hg,?_⟩
  show Q _ (eZ L (upd L .mark σ))
  refine rwL (aU hL) ?_
  exact hq _ rfl
theorem aIl(C:Cx G){slf:V}{code:Int}{form:Str}{l:List It}{i:Nat}{tok:It}{Q:V→aA→Prop}(hz:l.length≤2^20)(ho:∀x∈l,tB x)
  (hq:∀iv j,mE code form l i tok=.ok (iv,j)→Q (.tup [iv,.int (j:Nat)]) σ) (hx:∀e,mE code form l i tok=.error e→X e):aW Q σ X 10 (.ref 554) [slf,.int code,.str form,oF tok,.lst (cN l),.int i]:=by
 refine aZ (n:=9) (gV (ps:=["self","code","form","token","items","at"]) C rfl rfl rfl rfl (bt6 fun Z Z Z Z Z Z Z=>.of_eq rfl)) (zD T0) (zD T0) rfl fun L hL=>?_
 refine qZ<|fJ<|aV<|aB rfl<|cY (hY C) rfl (aO _) rfl rfl<|aQ rfl<|fK (n:=l.length) (by unfold oM;show some (cN l).length=_;rw[bH]) (aM hz (aD rfl)) ⟨decide ((l.length:Int)≤(i:Int)),rfl,?_⟩
 unfold mE at hq hx
 induction h:l[i]? with
 |none=>
  rw[h] at hx
  have hi:=List.getElem?_eq_none_iff.mp h
  refine bI (decide_eq_true (Int.ofNat_le.mpr hi))<|bI rfl<|cW<|aY (n:=7) (cU C) (aS C rfl) rfl (aD rfl) rfl<|aC<|aN (by kernel_rfl)<|aC (bX<|mJ C rfl rfl rfl rfl (rwL (bH _) hz) rfl ?_)
  exact bB (rwL (bH _) (decide_eq_false (Nat.not_lt.mpr hi)))<|aB rfl<|aE<|jD C (hx _ rfl)
 |some x=>
  rw[h] at hq hx
  have hi:=(gB h).1
  refine bB (decide_eq_false (Int.not_le.mpr (Int.ofNat_lt.mpr hi))) ?_
  cases x with
  |br l' r c=>
   refine fJ<|bT<|mC (x:=.br l' r c) C rfl rfl rfl<|bY rfl rfl rfl hz h ⟨rfl,true,rfl,bI rfl<|bI rfl ?_⟩
   refine cW<|aY (n:=7) (cU C) (aS C rfl) rfl (aD rfl) rfl<|aC<|aN (by kernel_rfl)<|aC (bX<|mJ C rfl rfl rfl rfl (rwL (bH _) hz) rfl ?_)
   exact bI (rwL (bH _) (decide_eq_true hi))<|bY rfl rfl rfl hz h<|aE<|jD C (hx _ rfl)
  |tok s t v r c=>
   refine fJ<|bT<|mC (x:=.tok s t v r c) C rfl rfl rfl<|bY rfl rfl rfl hz h ⟨rfl,false,rfl,bB rfl<|eO<|bB rfl<|aH ?_⟩
   dsimp only at hq hx
   refine eB rfl<|aN (by kernel_rfl) ⟨_,bG _ _,?_⟩
   by_cases h1:form="refkind"
   ·rw[if_pos h1] at hq hx
    refine bI (decide_eq_true ‹_›) ?_
    refine cG rfl<|aY (n:=1) (aEB C) (aS C rfl) rfl (aD rfl) rfl<|aC (aY (n:=1) (tM C) (aS C rfl) rfl (aD rfl) rfl<|bL rfl<|aQ rfl<|wN C hz<|aE<|aMj C ?_)
    have hw:cB l i=if s="word" then t else "":=by unfold cB;rw[h]
    rw[hw]
    rcases aBZ (t:=if s="word" then t else "") (rs:=mF) with⟨k,hk⟩|hk
    ·rw[hk] at hq ⊢
     refine eB rfl<|bQ ⟨false,rfl,bB rfl<|aH ?_⟩
     refine bZ<|aT<|aC (aT<|bL rfl<|aQ rfl ⟨aD rfl,aC (aP<|aB rfl<|aF ⟨_,.add _ _,aE ⟨aD rfl,?_⟩⟩)⟩)
     show Q _ (eZ L (upd L .mark σ))
     rw[aU hL]
     exact hq _ (i+1) rfl
    ·rw[hk] at hx ⊢
     refine eB rfl<|bQ ⟨true,rfl,bI rfl ?_⟩
     exact cW<|aY (n:=7) (cU C) (aS C rfl) rfl (aD rfl) rfl<|aC<|aN (by kernel_rfl)<|aC<|bY rfl rfl rfl hz h<|aE<|jD C (hx _ rfl)
   ·rw[if_neg h1] at hq hx
    refine bB (decide_eq_false ‹_›)<|aH ?_
    refine nZ<|dG C rfl<|bY rfl rfl rfl hz h ⟨s,t,v,r,c,_,cQ,rfl,rfl,aN (by kernel_rfl) ⟨_,iG _ _,?_⟩⟩
    by_cases hs:s="int"
    ·rw[if_pos hs] at hq hx
     subst hs
     obtain⟨n,ch,rfl,hc⟩:=(ho _ (iA h)).2 rfl
     refine bB (by simp)<|aH ?_
     refine bZ<|aT<|aC (aT<|bL rfl<|aC (aY (n:=7) (aHs C) (aS C rfl) rfl (aD rfl) rfl<|aC (bY rfl rfl rfl hz h ?_)))
     refine aC (cP.mono (Q:=fun v σ'=>v=.int ((if form="i32" then 32 else 64:Nat):Int)∧σ'=upd L .mark σ) ?_ (fun v σ' ⟨h1,h2⟩=>?_) fun Z z=>z)
     ·refine bX<|aV<|aB rfl<|aN (by kernel_rfl) ⟨_,bG _ _,?_⟩
      by_cases h2:form="i32"
      ·exact bI (decide_eq_true ‹_›)<|aF ⟨by rw[if_pos h2];rfl,rfl⟩
      ·exact bB (decide_eq_false ‹_›)<|aF ⟨by rw[if_neg h2];rfl,rfl⟩
     rw[h1,h2,cQ]
     refine aE<|aNH C hc (by by_cases h2:form="i32";exact .inl (if_pos h2);exact .inr (if_neg h2)) (fun m hm=>?_) fun e he=>hx e ?_
     ·refine aE ⟨aD rfl,aC (aP<|aB rfl<|aF ⟨_,.add _ _,aE ⟨aD rfl,?_⟩⟩)⟩
      show Q _ (eZ L (upd L .mark σ))
      rw[aU hL]
      refine hq _ (i+1) ?_
      show(match nM t n (if form="i32" then 32 else 64) r c with|.ok n=>_|.error e=>_)=_
      rw[hm]
     ·show(match nM t n (if form="i32" then 32 else 64) r c with|.ok n=>_|.error e=>_)=_
      rw[he]
    ·replace hx:=(if_neg hs)▸hx
     refine bI (by simp[hs]) ?_
     exact cW<|aY (n:=7) (cU C) (aS C rfl) rfl (aD rfl) rfl<|aC<|aN (by kernel_rfl)<|aC<|bY rfl rfl rfl hz h<|aE<|jD C (hx _ rfl)
end
section
variable{md:Md}{loc:aX}{σ:aA}{X:bF→Prop}
variable{R:RA}{ids:List (Str×Int)}{T B:List V}{as:List (Addr×Addr×Lb)}
theorem aHp(C:Cx G){l:List It}{i:Nat}{tok:It}{code:Int}{Q:V→aA→Prop}(S:RS as B T (kK ids) R σ)(hz:l.length≤2^19)(ho:∀x∈l,tB x)
  (h0:pG l i=false→X (iC "unexpected token" (l[i]?.getD tok)))
  (hq:∀x n,pG l i=true→l[i]? =some x→eV ids x=.ok n→Q (.tup [.tup [.int code,.int n],.int ((i+1:Nat):Int)]) σ)
  (hx:∀x e,pG l i=true→l[i]? =some x→eV ids x=.error e→X e):aW Q σ X 10 (.ref 521) [.ref R.r,.int code,.str "local",oF tok,.lst (cN l),.int i]:=by
 refine aZ (n:=9) (gV (ps:=["self","code","form","token","items","at"]) C rfl rfl rfl rfl (bt6 fun Z Z Z Z Z Z Z=>.of_eq rfl)) (zD T0) (zD T0) rfl fun L hL=>?_
 have S0:=S.upd (m:=.mark) hL
 refine eB rfl<|aN (by kernel_rfl) ⟨_,bG _ _,bB rfl<|aH ?_⟩
 refine cG rfl<|aY (n:=9) (wI C) (aS C rfl) rfl (aD rfl) rfl<|bL rfl<|bL rfl<|aQ rfl<|aMF C (aM hz (aD rfl)) (fun x hi hx0=>?_) h0
 refine eB rfl<|aN (by kernel_rfl) ⟨_,bG _ _,bI rfl ?_⟩
 obtain⟨s,t,v,r,c,e0,_⟩:=rS hi
 obtain rfl:x=.tok s t v r c:=bE (hx0.symm.trans e0)
 refine bZ<|aT<|aC (aT<|bL rfl<|aC (cE C (fa:=528) (n:=8) S0 rfl rfl rfl (by kernel_rfl) (aS C rfl) (aD rfl)<|aQ rfl ?_))
 refine rwL cQ ?_
 refine aIF C S0 (ho _ (iA hx0)) (fun n hn=>?_) fun e he=>hx _ e hi hx0 he
 refine aE ⟨aD rfl,aC (aP<|aB rfl<|aF ⟨_,.add _ _,aE ⟨aD rfl,?_⟩⟩)⟩
 show Q _ (eZ L (upd L .mark σ))
 refine rwL (aU hL) ?_
 exact hq _ n hi hx0 hn
end
noncomputable def lZ{α β:Type}(f:α→β):Except bF α→Except bF β
 |.ok a=>.ok (f a)
 |.error e=>.error e
theorem aJ8{α β:Type}{o:Option α}{b c:β}{f:α→β}{P:Prop}(h:o.elim b f=c)(x:o=none→b=c→P)(y:∀a,o=some a→f a=c→P):P:=by
 induction o with
 |none=>exact x rfl h
 |some a=>exact y a rfl h
noncomputable def aAJ(ids:List (Str×Int))(l:List It)(i:Nat)(code:Int)(tk:It):Except bF (V×Nat):=if pG l i=true then l[i]?.elim (.error (iC "unexpected token" tk)) fun x=>lZ (fun n=>(.tup [.int code,.int n],i+1)) (eV ids x) else .error (iC "unexpected token" (l[i]?.getD tk))
noncomputable def rH(ids:List (Str×Int))(names:List Str)(l:List It)(i:Nat)(f:Str)(code:Int)(tk:It):Option (Except bF (V×Nat)):=
 if pH.any (·==f)=true then some (.ok (.tup [.int code],i))
 else if f="local" then some (aAJ ids l i code tk)
 else if f="label"∨f="labels" then some (vQ names l i f code tk)
 else if f="memarg" then aDc code l i
 else if f="i32"∨f="i64"∨f="refkind" then some (mE code f l i tk)
 else none
noncomputable def qF:List Str:=["local","label","labels","memarg","i32","i64","refkind"]
theorem aFT{ids:List (Str×Int)}{names:List Str}{l:List It}{i:Nat}{f:Str}{code:Int}{tk:It}{res:Except bF (V×Nat)}(h:rH ids names l i f code tk=some res)(n:¬pH.any (·==f)=true):f∈qF:=
 kZ h (fun q Z=>absurd q n) fun Z h=>kZ h (fun q Z=>q▸(zD T0:("local":Str)∈qF)) fun Z h=>kZ h (fun q Z=>q.elim (fun q=>q▸(zD T0:("label":Str)∈qF)) fun q=>q▸(zD T0:("labels":Str)∈qF)) fun Z h=>kZ h (fun q Z=>q▸(zD T0:("memarg":Str)∈qF)) fun Z h=>
  kZ h (fun q Z=>q.elim (fun q=>q▸(zD T0:("i32":Str)∈qF)) fun q=>q.elim (fun q=>q▸(zD T0:("i64":Str)∈qF)) fun q=>q▸(zD T0:("refkind":Str)∈qF)) fun Z=>cZ
noncomputable def aPx{α:Type}:Except bF α→Option bF
 |.error e=>some e
 |.ok _=>none
noncomputable def brO(x:It):Option (List It×Int×Int):=qA (p:=fun q=>x=.br q.1 q.2.1 q.2.2) (if h:x.ctorIdx=1 then It.br.elim x h fun l r c=>some ⟨(l,r,c),rfl⟩ else none)
noncomputable def aBp(l:List It)(i:Nat):Option bF:=l[i]?.bind fun y=>(brO y).bind fun q=>if dK y="result" then(q.1.drop 1).head?.bind fun x=>if yM x=false then aPx (mQ x) else none else none
theorem aJf{l:List It}{i:Nat}{e:bF}(h:aBp l i=some e):aMN l i e:=by
 refine dQ h fun y h0 h=>dQ h fun q hq h=>kZ h (fun h1 h=>dQ h fun x h2 h=>kZ h (fun h3 hk0=>?_) fun Z=>cZ) fun Z=>cZ
 have e1:y=.br q.1 q.2.1 q.2.2:=eE (p:=fun q:List It×Int×Int=>y=.br q.1 q.2.1 q.2.2) hq
 subst e1
 obtain⟨xs,hxs⟩:=List.head?_eq_some_iff.mp h2
 induction hk:mQ x with
 |ok k=>rw[hk] at hk0;exact cZ hk0
 |error e'=>rw[hk] at hk0;exact⟨_,_,_,x,xs,h0,h1,hxs,h3,hk.trans (congrArg Except.error (bE hk0))⟩
noncomputable def aEA(l:List It)(i:Nat):Option (Except bF (V×Nat)):=(xV (l.drop i) i [] false).elim ((aBp l i).map .error) fun p=>some (.ok (aJI p.1 p.2.1,p.2.2))
noncomputable def mH(ids:List (Str×Int))(names:List Str)(l:List It)(i:Nat)(s t:Str)(v:V)(r c:Int):Option (Except bF (V×Nat)):=
 if t="select" then aEA l i
 else if owB t=true then some (.error (iC "unexpected token" (.tok s t v r c)))
 else(wQ t).elim (some (if rN t=true then .error (xLO t r) else .error (iC "unknown operator" (.tok s t v r c)))) fun code=>(mU (lX code)).bind fun f=>rH ids names l i f code (.tok s t v r c)
theorem aCL{f:Str}(h:f∈qF):iY ["func","global","data","elem","memory_init"] [.str "func",.str "global",.str "data",.str "elem",.str "data"] f=none:=
 Option.isNone_iff_eq_none.mp (eT (by decide+kernel:(qF.all fun f=>(iY ["func","global","data","elem","memory_init"] [.str "func",.str "global",.str "data",.str "elem",.str "data"] f).isNone)=true) f h)
section
variable{md:Md}{loc:aX}{σ:aA}{X:bF→Prop}
variable{R:RA}{ids:List (Str×Int)}{T B:List V}{as:List (Addr×Addr×Lb)}
theorem aBH(C:Cx G){l:List It}{i:Nat}{s t:Str}{v:V}{r c:Int}{res:Except bF (V×Nat)}{Q:V→aA→Prop}(S:RS as B T (kK ids) R σ)(hl:as.length≤1000)(hz:l.length≤2^19)(ho:∀x∈l,tB x)(hm:∀i,sQ (cB l i)=true)
  (hr:mH ids (as.map (·.2.2.name)) l i s t v r c=some res)
  (hq:∀iv j,res=.ok (iv,j)→Q (.tup [iv,.int (j:Nat)]) σ) (hx:∀e,res=.error e→X e):aW Q σ X 12 (.ref 507) [.ref R.r,iR s t v r c,.lst (cN l),.int i]:=by
 refine aZ (n:=11) (gV (ps:=["self","token","items","at"]) C rfl rfl rfl rfl (bt4 fun Z Z Z Z Z=>.of_eq rfl)) (zD T0) (zD T0) rfl fun L hL=>?_
 have S0:=S.upd (m:=.mark) hL
 have hz20:l.length≤2^20:=aM hz (aD rfl)
 have fin:∀iv j,res=.ok (iv,j)→Q (.tup [iv,.int (j:Nat)]) (eZ L (upd L .mark σ)):=fun iv j e=>by exact rwL (aU hL) (hq iv j e)
 refine nZ<|dG C rfl<|aB rfl ⟨_,_,_,_,_,_,rfl,rfl,rfl,aN (by kernel_rfl) ⟨_,bG _ _,?_⟩⟩
 refine kZ hr (fun h1 hr=>?_) fun h1 hr=>?_
 ·refine bI (decide_eq_true h1)<|bZ<|cE C (fa:=561) (n:=11) S0 rfl rfl rfl (by kernel_rfl) (aS C rfl) (aD rfl)<|bL rfl<|aQ rfl ?_
  exact aJ8 hr (fun Z hr=>oE hr fun e he hr=>aFa C hz20 (fun x hx0=>(ho x hx0).ok) (aJf he) (hx _ hr.symm)) fun p hs hr=>aHC C hz20 (fun x hx0=>(ho x hx0).ok) hs (fin _ p.2.2 (bE hr).symm)
 refine bB (decide_eq_false h1)<|aH ?_
 refine qZ<|bT<|aY (n:=1) (uG C) (aS C rfl) rfl (aD rfl) rfl<|aC (dG C rfl<|aB rfl ⟨_,_,_,_,_,_,rfl,rfl,rfl,aE<|aIO C ⟨_,rfl,kZ hr (fun h2 hr=>bI h2 ?_) fun h2 hr=>bB (Bool.eq_false_iff.mpr h2)<|aH ?_⟩⟩)
 ·exact cW<|aY (n:=7) (cU C) (aS C rfl) rfl (aD rfl) rfl<|aC<|aN (by kernel_rfl)<|aQ rfl<|lG C (hx _ (bE hr).symm)
 refine cG rfl<|aY (n:=1) (tF C) (aS C rfl) rfl (aD rfl) rfl<|aC (dG C rfl<|aB rfl ⟨_,_,_,_,_,_,rfl,rfl,rfl,aE<|aDl C ?_⟩)
 refine aJ8 hr (fun h3 hr=>?_) fun code h3 hr=>dQ hr fun f hfv hr=>?_
 ·refine rwL (aCv h3) ?_
  refine eB rfl<|bQ ⟨true,rfl,bI rfl ?_⟩
  refine qZ<|bT<|aY (n:=1) (vJ C) (aS C rfl) rfl (aD rfl) rfl<|aC (dG C rfl<|aB rfl ⟨_,_,_,_,_,_,rfl,rfl,rfl,aE<|aLi C ⟨_,rfl,dN (fun h4=>?_) fun h4=>aH ?_⟩⟩)
  ·replace hx:=hx _ ((bE hr).symm.trans (if_pos h4))
   refine aG<|aF1 C rfl (aD rfl) rfl<|aC (dG C rfl<|aB rfl ⟨_,_,_,_,_,_,rfl,rfl,rfl,?_⟩)
   exact aC (dG C rfl<|aB rfl ⟨_,_,_,_,_,_,rfl,rfl,rfl,aE ⟨_,_,rfl,rfl,hx⟩⟩)
  ·replace hx:=hx _ ((bE hr).symm.trans (if_neg (nb h4)))
   exact cW<|aY (n:=7) (cU C) (aS C rfl) rfl (aD rfl) rfl<|aC<|aN (by kernel_rfl)<|aQ rfl<|lG C hx
 refine rwL (aCz h3) ?_
 refine eB rfl<|bQ ⟨false,rfl,bB rfl<|aH ?_⟩
 refine cG rfl<|aY (n:=2) (aFp C) (aS C rfl) rfl (aD rfl) rfl<|aQ rfl<|aKU C ?_
 refine rwL (lL hfv) ?_
 have hmem:=aFT hr
 refine eB rfl<|nK rfl (by kernel_rfl) (aD rfl) ⟨pH.any (·==f),rfl,kZ hr (fun h4 hr=>bI h4 ?_) fun n4 hr=>bB (Bool.eq_false_iff.mpr n4)<|aH ?_⟩
 ·exact bZ<|aT<|aC (aT<|aQ rfl ⟨aD rfl,aQ rfl ⟨aD rfl,fin _ i (bE hr).symm⟩⟩)
 refine eB rfl<|bA (uE C) rfl ⟨false,congrArg (fun o:Option V=>some o.isSome) (aCL (hmem n4)),bB rfl<|aH ?_⟩
 refine eB rfl<|nK rfl (by kernel_rfl) (aD rfl) ⟨(["local","label","labels","indirect"]:List Str).any (·==f),rfl,?_⟩
 refine kZ hr (fun q1 hr=>?_) fun q1 hr=>kZ hr (fun q2 hr=>?_) fun q2 hr=>kZ hr (fun q3 hr=>?_) fun q3 hr=>kZ hr (fun q4 hr=>?_) fun Z=>cZ
 ·subst q1
  have hr:=bE hr
  refine bI rfl<|bZ<|cE C (fa:=521) (n:=10) S0 rfl rfl rfl (by kernel_rfl) (aS C rfl) (aD rfl)<|bL rfl<|bL rfl<|bL rfl<|bL rfl<|aQ rfl ?_
  refine rwR cQ ?_
  refine aHp C S0 hz ho (fun h0=>hx _ (hr.symm.trans (if_neg (nb h0)))) (fun x n h0 hx0 hn=>fin _ (i+1) (hr.symm.trans ((if_pos h0).trans ?_))) fun x e h0 hx0 he=>hx _ (hr.symm.trans ((if_pos h0).trans ?_))
  ·rw[hx0,Option.elim,hn];rfl
  ·rw[hx0,Option.elim,he];rfl
 ·have hr:=bE hr
  refine bI (by rcases q2 with rfl|rfl <;> exact rfl)<|bZ<|cE C (fa:=521) (n:=10) S0 rfl rfl rfl (by kernel_rfl) (aS C rfl) (aD rfl)<|bL rfl<|bL rfl<|bL rfl<|bL rfl<|aQ rfl ?_
  refine rwR cQ ?_
  refine aIv C S0 hl hz ho q2 (fun h0=>hx _ (hr.symm.trans ?_)) (fun ns h0 hn=>fin _ _ (hr.symm.trans ?_)) fun e h0 he=>hx _ (hr.symm.trans ?_)
  ·exact(if_neg n4).trans (if_neg (nb h0))
  ·refine(if_neg n4).trans ((if_pos h0).trans ?_)
   rw[hn]
  ·refine(if_neg n4).trans ((if_pos h0).trans ?_)
   rw[he]
 ·subst q3
  refine bB rfl<|aH ?_
  refine eB rfl<|nK rfl (by kernel_rfl) (aD rfl) ⟨(["table","table_init","table_copy"]:List Str).any (·=="memarg"),rfl,bB rfl<|aH ?_⟩
  refine eB rfl<|aN (by kernel_rfl) ⟨_,bG _ _,bI rfl ?_⟩
  exact bZ<|cE C (fa:=547) (n:=10) S0 rfl rfl rfl (by kernel_rfl) (aS C rfl) (aD rfl)<|bL rfl<|bL rfl<|aQ rfl<|aHL C hz20 hm hr fin hx
 ·have hr:=bE hr
  refine bB (by rcases q4 with rfl|rfl|rfl <;> exact rfl)<|aH ?_
  refine eB rfl<|nK rfl (by kernel_rfl) (aD rfl) ⟨(["table","table_init","table_copy"]:List Str).any (·==f),rfl,bB (by rcases q4 with rfl|rfl|rfl <;> exact rfl)<|aH ?_⟩
  refine eB rfl<|aN (by kernel_rfl) ⟨_,bG _ _,bB (decide_eq_false q3)<|aH ?_⟩
  refine bZ<|cE C (fa:=554) (n:=10) S0 rfl rfl rfl (by kernel_rfl) (aS C rfl) (aD rfl)<|bL rfl<|bL rfl<|bL rfl<|bL rfl<|aQ rfl ?_
  refine rwR cQ ?_
  exact aIl C hz20 ho (fun iv j e=>fin iv j (hr.symm.trans e)) fun e he=>hx e (hr.symm.trans he)
end
noncomputable def nS:List Str:=["block","loop","if"]
noncomputable def aAe(ls:List Lb):Except bF (V×Nat)→Except bF (Nat×V×List Lb)
 |.ok (iv,j)=>.ok (j,iv,ls)
 |.error e=>.error e
noncomputable def iL(ids:List (Str×Int))(ls:List Lb)(b0:Nat)(l:List It)(i:Nat)(s t:Str)(v:V)(r c:Int):Option (Except bF (Nat×V×List Lb)):=
 if nS.any (·==t)=true then(tO (l.drop (i+1+(if(dW l (i+1)).isSome=true then 1 else 0))) (i+1+(if(dW l (i+1)).isSome=true then 1 else 0)) [] false).map fun p=>.ok (p.2,.tup [kD t,.int (lY p.1)],ls++[⟨(dW l (i+1)).getD "",t,.tok s t v r c,false⟩])
 else if(["else","end"]:List Str).any (·==t)=true then some (tH ls b0 l (i+1) s t v r c)
 else(mH ids (ls.map (·.name)) l (i+1) s t v r c).map (aAe ls)
section
variable{md:Md}{loc:aX}{σ:aA}{X:bF→Prop}
variable{R:RA}{ids:List (Str×Int)}{T B:List V}{as:List (Addr×Addr×Lb)}
theorem aIk(C:Cx G){rn dn:Addr}{l:List It}{i b0:Nat}{fold:Bool}{s t:Str}{v:V}{r c:Int}{Q:V→aA→Prop}(S:RS as B T (kK ids) R σ)(hR:fP σ rn dn l i fold (.int b0))(hl:as.length≤1000)(hb0:b0≤as.length)(hB:B.length≤2^19)(hz:l.length≤2^19)
  (ho:∀x∈l,tB x) (hm:∀i,sQ (cB l i)=true) {res:Except bF (Nat×V×List Lb)} (hr:iL ids (fH as) b0 l i s t v r c=some res) (hi:i≤l.length) (hq:∀j iv ls',res=.ok (j,iv,ls')→∀σ' as',RS as' (B++[iv]) T (kK ids) R σ'→fH as'=ls'→Kp σ σ'→Q (.int (j:Nat)) σ')
  (hx:∀e,res=.error e→X e):aW Q σ X 13 (.ref 458) [.ref R.r,.ref rn,iR s t v r c]:=by
 refine aZ (n:=12) (gV (ps:=["self","run","token"]) C rfl rfl rfl rfl (bt3 fun Z Z Z Z=>.of_eq rfl)) (zD T0) (zD T0) rfl fun L hL=>?_
 have S0:=S.upd (m:=.mark) hL
 have R0:=hR.kp (.new (m:=.mark) hL)
 refine aG<|bD (ns:=["items","at"]) (o:=some ["items","at"]) rfl rfl rfl rfl (.inr rfl) ?_
 refine aT<|aC<|iB C R0 rfl rfl rfl rfl<|aC (aP<|iB C R0 rfl rfl rfl rfl<|aF ⟨_,.add _ _,aE ⟨aD rfl,_,rfl,rfl,?_⟩⟩)
 refine rwL (if_neg (by simp)) ?_
 refine nZ<|dG C rfl<|aB rfl ⟨_,_,_,_,_,_,rfl,rfl,rfl,bA (mO C) rfl ⟨nS.any (·==t),rfl,dN (fun h1=>?_) fun h1=>aH ?_⟩⟩
 ·unfold iL at hr
  replace hr:=(if_pos h1)▸hr
  obtain⟨⟨KS,J⟩,hk,rfl⟩:=iJ hr
  refine aG<|bD (ns:=["label","at"]) (o:=none) rfl rfl rfl rfl (.inl rfl)<|cE C (fa:=486) (n:=3) S0 rfl rfl rfl (by kernel_rfl) (aS C rfl) (aD rfl)<|bL rfl<|bL rfl<|aQ rfl ?_
  refine aGg C (i:=i+1) (aM ‹_› (aD rfl)) fun x dx hx0 hdx0 hne=>⟨_,rfl,rfl,?_⟩
  refine rwL (if_pos rfl) ?_
  have hdx1:upd dx (.ns iW (qT ⟨(dW l (i+1)).getD "",t,.tok s t v r c,false⟩)) (upd L .mark σ) x=none:=by exact rwL (aR _ _ hne) hx0
  have S1:=(S0.upd (m:=.ns iW (qT ⟨(dW l (i+1)).getD "",t,.tok s t v r c,false⟩)) hdx0).upd (m:=.ins 370 dx) hdx1
  have K1:Kp (upd L .mark σ) _:=(Kp.new (m:=.ns iW (qT ⟨(dW l (i+1)).getD "",t,.tok s t v r c,false⟩)) hdx0).trans (.new (m:=.ins 370 dx) hdx1)
  have hlb:lR (upd x (.ins 370 dx) (upd dx (.ns iW (qT ⟨(dW l (i+1)).getD "",t,.tok s t v r c,false⟩)) (upd L .mark σ))) (x,dx,⟨(dW l (i+1)).getD "",t,.tok s t v r c,false⟩):=⟨aI ..,(aR _ _ hne.symm).trans (aI ..)⟩
  have hdn:dx∉as.map (·.2.1):=fun q=>by
   obtain⟨p,hp,he⟩:=List.mem_map.mp q
   have:=(S0.lbs p hp).2
   replace this:=he▸this
   replace this:=hdx0▸this
   exact cZ this
  refine rwL (show V.str t=V.str t from rfl) ?_
  refine aG<|bD (ns:=["kind","at"]) (o:=none) rfl rfl rfl rfl (.inl rfl)<|cE C (fa:=493) (n:=11) (σ:=upd x (.ins 370 dx) (upd dx (.ns iW (qT ⟨(dW l (i+1)).getD "",t,.tok s t v r c,false⟩)) (upd L .mark σ))) S1 rfl rfl rfl (by kernel_rfl) (aS C rfl) (aD rfl)<|bL rfl<|aQ rfl ?_
  refine aC2 C (aM hz (aD rfl)) (fun y hy=>(ho y hy).ok) hk ⟨_,rfl,rfl,?_⟩
  refine rwL (if_pos rfl) ?_
  refine cW<|cE C (fa:=444) (n:=1) S1 rfl rfl rfl (by kernel_rfl) (aS C rfl) (aD rfl)<|aC (aT<|aC (aY (n:=1) (tF C) (aS C rfl) rfl (aD rfl) rfl<|aC (dG C rfl<|aB rfl ⟨_,_,_,_,_,_,rfl,rfl,rfl,aE<|aDl C<|aQ rfl ⟨aD rfl,aQ rfl ?_⟩⟩)))
  refine aC6 C S1 (aM ‹_› (aD rfl)) (aM ‹_› (aD rfl)) hlb hdn (fun p hp q=>by have:=(S0.kk p hp).e;rw[q,hdx0] at this;exact cZ this) fun σ' S' K'=>bZ<|aB rfl ?_
  refine hq _ _ _ rfl _ _ (S'.leave (K1.trans K')) (by unfold fH;simp) ((K1.trans K').leave hL)
 refine nZ<|dG C rfl<|aB rfl ⟨_,_,_,_,_,_,rfl,rfl,rfl,nK rfl (by kernel_rfl) (aD rfl) ⟨(["else","end"]:List Str).any (·==t),rfl,dN (fun h2=>?_) fun h2=>aH ?_⟩⟩
 ·have e0:some (tH (fH as) b0 l (i+1) s t v r c)=some res:=((if_neg (nb h1)).trans (if_pos h2)).symm.trans hr
  obtain rfl:=bE e0
  refine bZ<|cE C (fa:=465) (n:=9) S0 rfl rfl rfl (by kernel_rfl) (aS C rfl) (aD rfl)<|bL rfl<|bL rfl<|aQ rfl ?_
  refine aNs C (i:=i+1) S0 R0 hl hb0 hB hz ?_ (fun j iv ls' he σ' as' S' e' K'=>hq j iv ls' he _ as' (S'.leave K') e' (K'.leave hL)) fun e he=>hx e he
  replace h2:=List.any_cons▸h2
  replace h2:=List.any_cons▸h2
  replace h2:=List.any_nil▸h2
  simp at h2
  rcases h2 with h|h
  ·exact .inl h.symm
  ·exact .inr h.symm
 have e0:(mH ids (as.map (·.2.2.name)) l (i+1) s t v r c).map (aAe (fH as))=some res:=by
  refine rwR (aBq _) ?_
  exact((if_neg (nb h1)).trans (if_neg (nb h2))).symm.trans hr
 obtain⟨ri,hi1,rfl⟩:=iJ e0
 refine aG<|bD (ns:=["instruction","at"]) (o:=none) rfl rfl rfl rfl (.inl rfl)<|cE C (fa:=507) (n:=12) S0 rfl rfl rfl (by kernel_rfl) (aS C rfl) (aD rfl)<|bL rfl<|bL rfl<|aQ rfl ?_
 refine aBH C (i:=i+1) S0 hl hz ho hm hi1 (fun iv j he=>⟨_,rfl,rfl,?_⟩) fun e he=>hx e (congrArg (aAe _) he)
 refine rwL (if_pos rfl) ?_
 refine cW<|bM rfl<|dX C S0 rfl rfl rfl rfl ⟨_,_,rfl,S0.bb,aB rfl ⟨_,S0.bb,aM hB (aD rfl),?_⟩⟩
 have K1:Kp (upd L .mark σ) (upd R.b (.lst (B++[iv])) (upd L .mark σ)):=.put S0.bb rfl
 refine bZ<|aB rfl ?_
 exact hq j iv _ (congrArg (aAe _) he) _ as ((S0.setB (B++[iv])).leave K1) rfl (K1.leave hL)
end
theorem aDa{l:List It}{w:Str}(h:jM l=w)(hw:w≠""):∃v r c,l[(0:Nat)]? =some (.tok "word" w v r c):=by
 subst h
 unfold jM at hw ⊢
 induction hi:l[(0:Nat)]? with
 |none=>
  replace hw:=hi▸hw
  exact absurd rfl hw
 |some x=>
  replace hw:=hi▸hw
  cases x with
  |br=>exact absurd rfl hw
  |tok s t v r c=>
   dsimp only at hw ⊢
   by_cases hs:s="word"
   ·subst hs;exact⟨v,r,c,rfl⟩
   ·replace hw:=(if_neg hs)▸hw
    exact absurd rfl hw
section
variable{md:Md}{loc:aX}{σ:aA}{X:bF→Prop}
variable{R:RA}{ids:List (Str×Int)}{T B:List V}{as:List (Addr×Addr×Lb)}
end
section
variable{md:Md}{loc:aX}{σ:aA}{X:bF→Prop}
variable{R:RA}{ids:V}{T B:List V}{as:List (Addr×Addr×Lb)}
theorem aC8(C:Cx G){rn:Addr}{Q:V→aA→Prop}(S:RS as B T ids R σ)(h:∀L,σ L=none→aW (fun Z σ'=>Q .none (eZ L σ')) (upd L .mark σ) X 14 (.ref 437) [.ref R.r,.ref rn]):aW Q σ X 15 (.ref 430) [.ref R.r,.tup [.str "run",.ref rn]]:=by
 refine aZ (n:=14) (gV (ps:=["self","task"]) C rfl rfl rfl rfl (tA fun Z Z Z=>.of_eq rfl)) (zD T0) (zD T0) rfl fun L hL=>?_
 have S0:=S.upd (m:=.mark) hL
 refine aG<|bD (ns:=["sort","about"]) (o:=none) rfl rfl rfl rfl (.inl rfl)<|aB rfl ⟨_,rfl,rfl,?_⟩
 refine rwL (if_pos rfl) ?_
 refine eB rfl<|aN (by kernel_rfl) ⟨false,by rw[bG];rfl,bB rfl ?_⟩
 refine eB rfl<|aN (by kernel_rfl) ⟨false,by rw[bG];rfl,bB rfl ?_⟩
 refine eB rfl<|aN (by kernel_rfl) ⟨false,by rw[bG];rfl,bB rfl ?_⟩
 refine cW<|cE C (fa:=437) (n:=14) S0 rfl rfl rfl (by kernel_rfl) (aS C rfl) (aD rfl)<|aQ rfl ?_
 intro md' A env m loc' s vals q1 q2 q3 q4
 exact wpAny_mono (h L hL md' A env m loc' s vals q1 q2 q3 q4) (fun _ _ ⟨r,σ',a,b⟩=>⟨r,σ',aH<|aH<|aH<|aH a,b⟩) fun Z Z z=>z
theorem aA3(C:Cx G){iv:V}{Q:V→aA→Prop}(S:RS as B T ids R σ)(hB:B.length≤2^19)(hq:∀σ',RS as (B++[iv]) T ids R σ'→Kp σ σ'→Q .none σ'):aW Q σ X 15 (.ref 430) [.ref R.r,.tup [.str "emit",iv]]:=by
 refine aZ (n:=14) (gV (ps:=["self","task"]) C rfl rfl rfl rfl (tA fun Z Z Z=>.of_eq rfl)) (zD T0) (zD T0) rfl fun L hL=>?_
 have S0:=S.upd (m:=.mark) hL
 refine aG<|bD (ns:=["sort","about"]) (o:=none) rfl rfl rfl rfl (.inl rfl)<|aB rfl ⟨_,rfl,rfl,?_⟩
 refine rwL (if_pos rfl) ?_
 refine eB rfl<|aN (by kernel_rfl) ⟨true,by rw[bG];rfl,bI rfl ?_⟩
 refine cW<|bM rfl<|dX C S0 rfl rfl rfl rfl ⟨_,_,rfl,S0.bb,aB rfl ⟨_,S0.bb,aM hB (aD rfl),?_⟩⟩
 have K1:Kp (upd L .mark σ) (upd R.b (.lst (B++[iv])) (upd L .mark σ)):=.put S0.bb rfl
 exact aH<|aH<|hq _ ((S0.setB (B++[iv])).leave K1) (K1.leave hL)
theorem aAC(C:Cx G){p:Addr×Addr×Lb}{Q:V→aA→Prop}(S:RS (as++[p]) B T ids R σ)(hB:B.length≤2^19)(hl:as.length≤1000)(hq:∀σ',RS as (B++[.tup [.int 11]]) T ids R σ'→Kp σ σ'→Q .none σ'):aW Q σ X 15 (.ref 430) [.ref R.r,.tup [.str "close",.none]]:=by
 refine aZ (n:=14) (gV (ps:=["self","task"]) C rfl rfl rfl rfl (tA fun Z Z Z=>.of_eq rfl)) (zD T0) (zD T0) rfl fun L hL=>?_
 have S0:=S.upd (m:=.mark) hL
 refine aG<|bD (ns:=["sort","about"]) (o:=none) rfl rfl rfl rfl (.inl rfl)<|aB rfl ⟨_,rfl,rfl,?_⟩
 refine rwL (if_pos rfl) ?_
 refine eB rfl<|aN (by kernel_rfl) ⟨false,by rw[bG];rfl,bB rfl ?_⟩
 refine eB rfl<|aN (by kernel_rfl) ⟨false,by rw[bG];rfl,bB rfl ?_⟩
 refine eB rfl<|aN (by kernel_rfl) ⟨true,by rw[bG];rfl,bI rfl ?_⟩
 refine cW<|cE C (fa:=451) (n:=1) S0 rfl rfl rfl (by kernel_rfl) (aS C rfl) (aD rfl)<|aE<|aDM C S0 (aM hB (aD rfl)) (aM hl (aD rfl)) fun σ' S' K'=>?_
 exact aH<|aH<|aH<|aH<|hq _ (S'.leave K') (K'.leave hL)
end
section
variable{md:Md}{loc:aX}{σ:aA}{X:bF→Prop}
variable{R:RA}{ids:V}{T B:List V}{as:List (Addr×Addr×Lb)}
theorem aA7(C:Cx G){iv:V}{x dx:Addr}{lb:Lb}{Q:V→aA→Prop}(S:RS as B T ids R σ)(hB:B.length≤2^19)(hl:as.length≤1000)(hx:lR σ (x,dx,lb))(hd:dx∉as.map (·.2.1))(hk:∀p∈R.ks,p.1≠dx)
  (hq:∀σ',RS (as++[(x,dx,lb)]) (B++[iv]) T ids R σ'→Kp σ σ'→Q .none σ'):aW Q σ X 15 (.ref 430) [.ref R.r,.tup [.str "open",.tup [iv,.ref x]]]:=by
 refine aZ (n:=14) (gV (ps:=["self","task"]) C rfl rfl rfl rfl (tA fun Z Z Z=>.of_eq rfl)) (zD T0) (zD T0) rfl fun L hL=>?_
 have S0:=S.upd (m:=.mark) hL
 refine aG<|bD (ns:=["sort","about"]) (o:=none) rfl rfl rfl rfl (.inl rfl)<|aB rfl ⟨_,rfl,rfl,?_⟩
 refine rwL (if_pos rfl) ?_
 refine eB rfl<|aN (by kernel_rfl) ⟨false,by rw[bG];rfl,bB rfl ?_⟩
 refine eB rfl<|aN (by kernel_rfl) ⟨true,by rw[bG];rfl,bI rfl ?_⟩
 refine cW<|cE C (fa:=444) (n:=1) S0 rfl rfl rfl (by kernel_rfl) (aS C rfl) (aD rfl)<|aC (bR<|aB rfl<|aF ⟨iv,.tup _ 0 _ (zD T0) (gI (i:=0) rfl),?_⟩)
 refine aC (bR<|aB rfl<|aF ⟨.ref x,.tup _ 1 _ (zD T0) (gI (i:=1) rfl),aE ?_⟩)
 refine aC6 C S0 (aM hB (aD rfl)) (aM hl (aD rfl)) (hx.mono fun a m e=>bV e hL) hd hk fun σ' S' K'=>?_
 exact aH<|aH<|aH<|hq _ (S'.leave K') (K'.leave hL)
end
inductive PT where
 |run (l:List It) (i:Nat) (fold:Bool) (base:Option Nat)
 |emit (iv:V)
 |close
 |opn (iv:V) (lb:Lb)
inductive Tk where
 |run (rn dn:Addr) (l:List It) (i:Nat) (fold:Bool) (base:Option Nat)
 |emit (iv:V)
 |close
 |opn (iv:V) (x dx:Addr) (lb:Lb)
noncomputable def aDS:Option Nat→V
 |none=>.none
 |some n=>.int n
noncomputable def Tk.pt:Tk→PT
 |.run _ _ l i f b=>.run l i f b
 |.emit iv=>.emit iv
 |.close=>.close
 |.opn iv _ _ lb=>.opn iv lb
noncomputable def Tk.v:Tk→V
 |.run rn _ _ _ _ _=>.tup [.str "run",.ref rn]
 |.emit iv=>.tup [.str "emit",iv]
 |.close=>.tup [.str "close",.none]
 |.opn iv x _ _=>.tup [.str "open",.tup [iv,.ref x]]
noncomputable def Tk.own:Tk→List Addr
 |.run _ dn _ _ _ _=>[dn]
 |.opn _ _ dx _=>[dx]
 |_=>[]
noncomputable def Tk.ks:Tk→List (Addr×dJ)
 |.opn _ x dx lb=>[(x,.ins 370 dx),(dx,.ns iW (qT lb))]
 |_=>[]
noncomputable def Tk.At(σ:aA):Tk→Prop
 |.run rn dn l i f b=>fP σ rn dn l i f (aDS b)
 |.opn _ x dx lb=>lR σ (x,dx,lb)
 |_=>True
noncomputable def RA.wk(R:RA)(ks:List (Addr×dJ)):RA:=⟨R.r,R.d,R.t,R.b,R.l,ks⟩
noncomputable def Gr(σ σ':aA):Prop:=∀a m,σ a=some m→σ' a=some m
theorem Gr.new{σ:aA}{a:Addr}{m:dJ}(h:σ a=none):Gr σ (upd a m σ):=fun Z Z e=>bV e h
theorem Gr.trans{σ σ1 σ2:aA}(x:Gr σ σ1)(y:Gr σ1 σ2):Gr σ σ2:=fun a m e=>y a m (x a m e)
theorem Gr.kp{σ σ':aA}(x:Gr σ σ'):Kp σ σ':=fun a m e Z=>x a m e
section
variable{σ σ':aA}{R:RA}{ids:V}{T B:List V}{as:List (Addr×Addr×Lb)}
theorem RS.gr(S:RS as B T ids R σ)(g:Gr σ σ'):RS as B T ids R σ':=S.mono fun a m e Z=>g a m e
theorem RS.dx_new(S:RS as B T ids R σ){dx:Addr}(h:σ dx=none):dx∉as.map (·.2.1):=fun q=>by
 obtain⟨p,hp,he⟩:=List.mem_map.mp q
 have:=(S.lbs p hp).2
 replace this:=he▸this
 replace this:=h▸this
 exact cZ this
theorem RS.ks_new(S:RS as B T ids R σ){dx:Addr}(h:σ dx=none):∀p∈R.ks,p.1≠dx:=fun p hp q=>by
 have:=(S.kk p hp).e
 replace this:=q▸this
 replace this:=h▸this
 exact cZ this
theorem RS.subK(S:RS as B T ids R σ){ks:List (Addr×dJ)}(h:∀p∈ks,p∈R.ks):RS as B T ids (R.wk ks) σ:=
 ⟨S.ins,S.ns,S.tt,S.bb,S.ll,S.ne,S.lbs,S.nd,fun p hp=>have K:=S.kk p (h p hp);⟨K.e,K.m,K.t,K.b,K.l,K.n⟩⟩
theorem RS.addK(S:RS as B T ids R σ){x dx:Addr}{lb:Lb}(h:lR σ (x,dx,lb))(hd:dx∉as.map (·.2.1)):RS as B T ids (R.wk ((x,.ins 370 dx)::(dx,.ns iW (qT lb))::R.ks)) σ:=by
 refine⟨S.ins,S.ns,S.tt,S.bb,S.ll,S.ne,S.lbs,S.nd,fun p hp=>?_⟩
 have n:∀{a m b} {l:List V},σ a=some m→σ b=some (.lst l)→(∀l,m≠.lst l)→a≠b:=fun h1 h2 h3 q=>by rw[q,h2] at h1;obtain rfl:=bE h1;exact h3 _ rfl
 rcases eM hp with rfl|hp
 ·exact⟨h.1,by nofun,n h.1 S.tt (by nofun),n h.1 S.bb (by nofun),n h.1 S.ll (by nofun),fun q=>by
   obtain⟨p,hp,he⟩:=List.mem_map.mp q
   have:=(S.lbs p hp).2
   replace this:=he▸this
   cases this.symm.trans h.1⟩
 rcases eM hp with rfl|hp
 ·exact⟨h.2,by nofun,n h.2 S.tt (by nofun),n h.2 S.bb (by nofun),n h.2 S.ll (by nofun),hd⟩
 ·have K:=S.kk p hp
  exact⟨K.e,K.m,K.t,K.b,K.l,K.n⟩
structure Sep(R:RA)(D:Addr):Prop where
 t:D≠R.t
 b:D≠R.b
 l:D≠R.l
 k:∀p∈R.ks,p.1≠D
theorem RS.sep(S:RS as B T ids R σ){D:Addr}(h:σ D=none):Sep R D:=⟨(dS S.tt h).symm,(dS S.bb h).symm,(dS S.ll h).symm,S.ks_new h⟩
theorem RS.putD(S:RS as B T ids R σ){D:Addr}{vs:List V}{m:dJ}(hs:Sep R D)(h:σ D=some (.lst vs)):RS as B T ids R (Mine.upd D m σ):=by
 have u:∀{a m'},σ a=some m'→(∀l,m'≠.lst l)→Mine.upd D m σ a=some m':=fun e n=>eW e h (n vs)
 exact⟨u S.ins (by nofun),u S.ns (by nofun),(aR _ _ hs.t.symm).trans S.tt,(aR _ _ hs.b.symm).trans S.bb,(aR _ _ hs.l.symm).trans S.ll,S.ne,fun p hp=>⟨u (S.lbs p hp).1 (by nofun),u (S.lbs p hp).2 (by nofun)⟩,S.nd,fun p hp=>(S.kk p hp).mono ((aR _ _ (hs.k p hp)).trans (S.kk p hp).e)⟩
theorem fP.gr{rn dn:Addr}{l:List It}{i:Nat}{f:Bool}{b:V}(h:fP σ rn dn l i f b)(g:Gr σ σ'):fP σ' rn dn l i f b:=⟨g _ _ h.ins,g _ _ h.ns⟩
theorem Tk.At.gr{t:Tk}(h:t.At σ)(g:Gr σ σ'):t.At σ':=by
 induction t with
 |run=>exact fP.gr h g
 |opn=>exact lR.mono h g
 |emit=>trivial
 |close=>trivial
theorem Tk.At.put{t:Tk}(h:t.At σ){D:Addr}{vs:List V}{m:dJ}(e:σ D=some (.lst vs)):t.At (upd D m σ):=by
 induction t with
 |run=>exact⟨eW h.1 e (by nofun),eW h.2 e (by nofun)⟩
 |opn=>exact⟨eW h.1 e (by nofun),eW h.2 e (by nofun)⟩
 |emit=>trivial
 |close=>trivial
theorem Tk.At.off{t:Tk}(h:t.At σ){a:Addr}(e:σ a=some .mark):t.At (eZ a σ):=by
 induction t with
 |run=>exact⟨(dP _ (by rintro rfl;cases e.symm.trans h.1)).trans h.1,(dP _ (by rintro rfl;cases e.symm.trans h.2)).trans h.2⟩
 |opn=>exact⟨(dP _ (by rintro rfl;cases e.symm.trans h.1)).trans h.1,(dP _ (by rintro rfl;cases e.symm.trans h.2)).trans h.2⟩
 |emit=>trivial
 |close=>trivial
end
noncomputable def Nw(σ:aA)(R:RA)(a:Addr):Prop:=(∀m,σ a=some m→kpt m=false)∧∀p∈R.ks,p.1≠a
theorem gR{α:Type}{p:α→Prop}:∀a∈([]:List α),p a:=List.forall_mem_nil p
structure FI(σ0 σ:aA)(R:RA)(ids:V)(T B:List V)(as:List (Addr×Addr×Lb))(ts:List Tk)(ps:List Addr):Prop where
 S:RS as B T ids R σ
 at_:∀t∈ts,t.At σ
 nd:(ts.flatMap Tk.own++ps).Nodup
 new:∀a∈ts.flatMap Tk.own++ps,Nw σ0 R a∧σ a≠none
 k:Kp σ0 σ
section
variable{σ0 σ σ':aA}{R:RA}{ids:V}{T B:List V}{as:List (Addr×Addr×Lb)}{ts:List Tk}{ps:List Addr}
theorem FI.gr(F:FI σ0 σ R ids T B as ts ps)(g:Gr σ σ'):FI σ0 σ' R ids T B as ts ps:=
 ⟨F.S.gr g,fun t ht=>(F.at_ t ht).gr g,F.nd,fun a ha=>⟨(F.new a ha).1,fun q=>by
  induction h:σ a with
  |none=>exact(F.new a ha).2 h
  |some m=>rw[g a m h] at q;exact cZ (Eq.symm q)⟩,F.k.trans g.kp⟩
theorem FI.put(F:FI σ0 σ R ids T B as ts ps){D:Addr}{vs vs':List V}(hs:Sep R D)(h:σ D=some (.lst vs)):FI σ0 (upd D (.lst vs') σ) R ids T B as ts ps:=
 ⟨F.S.putD hs h,fun t ht=>(F.at_ t ht).put h,F.nd,fun a ha=>⟨(F.new a ha).1,fun q=>by
  by_cases e:a=D
  ·replace q:=e▸q
   replace q:=(aI _ _ _)▸q
   exact cZ (Eq.symm q)
  ·rw[aR _ _ e] at q;exact(F.new a ha).2 q⟩,F.k.trans (.put h rfl)⟩
theorem FI.nw(F:FI σ0 σ R ids T B as ts ps){a:Addr}(h:σ a=none):Nw σ0 R a:=by
 refine⟨fun m e=>?_,F.S.ks_new h⟩
 induction hk:kpt m with
 |false=>rfl
 |true=>
  replace h:=(F.k a m e hk)▸h
  exact cZ (Eq.symm h)
theorem FI.push(F:FI σ0 σ R ids T B as ts ps){t:Tk}(h:t.own=[])(ha:t.At σ):FI σ0 σ R ids T B as (ts++[t]) ps:=by
 have e:(ts++[t]).flatMap Tk.own=ts.flatMap Tk.own:=by rw[List.flatMap_append,List.flatMap_cons,h];simp
 exact⟨F.S,fun u hu=>(gK hu).elim (F.at_ u) fun q=>by cases eR q;exact ha,rwL e F.nd,rwL e F.new,F.k⟩
theorem FI.run(F:FI σ0 σ R ids T B as ts ps)(g:Gr σ σ'){rn dn:Addr}{l:List It}{i:Nat}{f:Bool}{b:Option Nat}(hd:σ dn=none)(ha:fP σ' rn dn l i f (aDS b)):FI σ0 σ' R ids T B as (ts++[.run rn dn l i f b]) ps:=by
 have F1:=F.gr g
 have nin:dn∉ts.flatMap Tk.own++ps:=fun q=>(F.new dn q).2 hd
 have e:(ts++[Tk.run rn dn l i f b]).flatMap Tk.own++ps=ts.flatMap Tk.own++dn::ps:=by rw[List.flatMap_append,eJ];rfl
 refine⟨F1.S,fun u hu=>(gK hu).elim (F1.at_ u) fun q=>by cases eR q;exact ha,?_,?_,F1.k⟩
 ·rw[e,(List.perm_middle (l₁:=ts.flatMap Tk.own) (a:=dn) (l₂:=ps)).nodup_iff]
  exact List.nodup_cons.mpr ⟨nin,F.nd⟩
 ·refine rwL e ?_
  intro a q
  rcases gK q with q|q
  ·exact F1.new a (List.mem_append_left _ q)
  ·rcases eM q with rfl|q
   ·exact⟨F.nw hd,fun q=>by rw[ha.ns] at q;exact cZ (Eq.symm q)⟩
   ·exact F1.new a (List.mem_append_right _ q)
theorem FI.opn(F:FI σ0 σ R ids T B as ts [dx]){iv:V}{x:Addr}{lb:Lb}(h:lR σ (x,dx,lb)):FI σ0 σ R ids T B as (ts++[.opn iv x dx lb]) []:=by
 have e:(ts++[Tk.opn iv x dx lb]).flatMap Tk.own++[]=ts.flatMap Tk.own++[dx]:=by rw[List.append_nil,List.flatMap_append];rfl
 exact⟨F.S,fun u hu=>(gK hu).elim (F.at_ u) fun q=>by cases eR q;exact h,rwL e F.nd,rwL e F.new,F.k⟩
end
section
variable{md:Md}{loc:aX}{σ:aA}{X:bF→Prop}
theorem oW(C:Cx G){l:List It}{i:Nat}{f:Bool}{Q:V→aA→Prop}(hq:∀σ' rn dn,σ rn=none→σ dn=none→Gr σ σ'→fP σ' rn dn l i f .none→Q (.tup [.str "run",.ref rn]) σ'):aW Q σ X 3 (.ref 402) [.lst (cN l),.int i,.bool f]:=
 aCS C fun x dx hx hdx hne=>hq _ x dx hx hdx ((Gr.new hdx).trans (.new (rwL (aR _ _ hne) hx))) ⟨aI ..,(aR _ _ hne.symm).trans (aI ..)⟩
noncomputable def rJ(l:List It)(i:Nat):Nat:=i+(if(dW l i).isSome=true then 1 else 0)
noncomputable def tU(l:List It)(i:Nat)(t:Str)(x:It):Lb:=⟨(dW l i).getD "",t,x,false⟩
theorem aD3(C:Cx G){slf:V}{l:List It}{i:Nat}{s t:Str}{v:V}{r c:Int}{Q:V→aA→Prop}(hz:l.length≤2^20)
  (hq:∀σ' x dx,Gr σ σ'→σ dx=none→lR σ' (x,dx,tU l i t (.tok s t v r c))→Q (.tup [.ref x,.int (rJ l i:Nat)]) σ'):aW Q σ X 3 (.ref 486) [slf,iR s t v r c,.lst (cN l),.int i]:=
 aGg C hz fun x dx hx hdx hne=>hq _ x dx ((Gr.new hdx).trans (.new (rwL (aR _ _ hne) hx))) hdx ⟨aI ..,(aR _ _ hne.symm).trans (aI ..)⟩
end
structure qH(os:List Addr)(σ σ':aA)(R:RA)(ids:V)(T B:List V)(as:List (Addr×Addr×Lb))(ts:List Tk):Prop where
 S:RS as B (T++(ts.map Tk.v).reverse) ids (R.wk (ts.flatMap Tk.ks++R.ks)) σ'
 at_:∀t∈ts,t.At σ'
 nd:(ts.flatMap Tk.own).Nodup
 new:∀a∈ts.flatMap Tk.own,Nw σ R a∨a∈os
theorem RS.leaveM{σ:aA}{R:RA}{ids:V}{T B:List V}{as:List (Addr×Addr×Lb)}{L:Addr}(h:σ L=some .mark)(S:RS as B T ids R σ):RS as B T ids R (eZ L σ):=
 S.mono fun a m e hm=>by exact rwL (dP _ (by rintro rfl;rw[h] at e;obtain rfl:=bE e;exact hm rfl)) e
theorem RS.addKs{σ:aA}{R:RA}{ids:V}{T B:List V}{as:List (Addr×Addr×Lb)}(S:RS as B T ids R σ):∀{ts:List Tk},(∀t∈ts,t.At σ)→(∀iv x dx lb,Tk.opn iv x dx lb∈ts→dx∉as.map (·.2.1))→RS as B T ids (R.wk (ts.flatMap Tk.ks++R.ks)) σ:=by
 intro ts
 induction ts with
 |nil=>intro _ _;exact S.subK fun p hp=>hp
 |cons t ts ih=>
  intro h1 h2
  have I:=ih (fun u hu=>h1 u (fW _ hu)) fun iv x dx lb ha=>h2 iv x dx lb (fW _ ha)
  have ht:=h1 t (eS ..)
  induction t with
  |opn iv x dx lb=>exact I.addK ht (h2 iv x dx lb (eS ..))
  |run=>exact I
  |emit=>exact I
  |close=>exact I
theorem FI.out{σ σ':aA}{R:RA}{ids:V}{T T' B':List V}{as':List (Addr×Addr×Lb)}{us:List Tk}{L:Addr}(hL:σ L=none)(F:FI (upd L .mark σ) σ' R ids T' B' as' us [])(hT:T'=T++us.map Tk.v)(hd:∀iv x dx lb,Tk.opn iv x dx lb∈us→dx∉as'.map (·.2.1)):
  qH [] σ (eZ L σ') R ids T B' as' us.reverse∧Kp σ (eZ L σ'):=by
 have pm:List.Perm (us.reverse.flatMap Tk.own) (us.flatMap Tk.own):=(List.reverse_perm us).flatMap_right _
 have hm:σ' L=some .mark:=F.k L .mark (aI ..) rfl
 have at1:∀t∈us.reverse,t.At (eZ L σ'):=fun t ht=>(F.at_ t (List.mem_reverse.mp ht)).off hm
 refine⟨⟨?_,at1,pm.nodup_iff.mpr (rwR (List.append_nil (us.flatMap Tk.own)) F.nd),fun a ha=>.inl ?_⟩,F.k.leave hL⟩
 ·refine rwL List.map_reverse ?_
  refine rwL (List.reverse_reverse _) ?_
  refine rwR hT ?_
  exact(F.S.leave F.k).addKs at1 fun iv x dx lb ha=>hd iv x dx lb (List.mem_reverse.mp ha)
 ·have:=(F.new a (List.mem_append_left _ (pm.mem_iff.mp ha))).1
  exact⟨fun m e=>this.1 m (bV e hL),this.2⟩
theorem qH.nil{os:List Addr}{σ σ':aA}{R:RA}{ids:V}{T B:List V}{as:List (Addr×Addr×Lb)}(S:RS as B T ids R σ'):qH os σ σ' R ids T B as []:=⟨by show RS as B (T++[]) ids R σ';rw[List.append_nil];exact S,gR,.nil,gR⟩
theorem qH.leave{os:List Addr}{σ σ':aA}{R:RA}{ids:V}{T B:List V}{as:List (Addr×Addr×Lb)}{ts:List Tk}{L:Addr}(hL:σ L=none)(N:qH os (upd L .mark σ) σ' R ids T B as ts)(h:σ' L=some .mark):qH os σ (eZ L σ') R ids T B as ts:=
 ⟨N.S.leaveM h,fun t ht=>(N.at_ t ht).off h,N.nd,fun a ha=>(N.new a ha).imp_left fun q=>⟨fun m e=>q.1 m (bV e hL),q.2⟩⟩
noncomputable def kO:List It→Nat→Nat
 |[],j=>j
 |x::xs,j=>if dK x="then" then j else kO xs (j+1)
theorem uK{x:It}{xs:List It}{j:Nat}:kO (x::xs) j=if dK x="then" then j else kO xs (j+1):=rfl
theorem aB9:∀(xs:List It) (j:Nat),j≤kO xs j∧kO xs j≤j+xs.length
 |[],j=>⟨bO _,bO _⟩
 |x::xs,j=>by
  refine rwL uK ?_
  refine iteD (fun h=>?_) fun h=>?_
  ·exact⟨bO _,eL ..⟩
  ·have:=aB9 xs (j+1)
   exact⟨Nat.le_of_succ_le this.1,rwL eX (aM this.2 (by exact dH (Nat.add_right_comm j 1 _)))⟩
set_option tactic.hygienic true in
theorem aBR{l:List It}:∀{xs:List It} {j:Nat},xs=l.drop j→kO xs j<l.length→∃y,l[kO xs j]? =some y∧dK y="then"
 |[],j,h,hl=>absurd (List.drop_eq_nil_iff.mp h.symm) (Nat.not_le.mpr hl)
 |x::xs,j,h,hl=>by
  obtain⟨h1,h2⟩:=wX h
  rw[uK] at hl ⊢
  split
  ·rename_i hx;exact⟨x,h1,hx⟩
  ·rename_i hx;rw[if_neg hx] at hl;exact aBR h2 hl
noncomputable def lH(l:List It)(i:Nat):Str:=match l[i]? with
 |some x=>dK x
 |none=>""
noncomputable def oR(l:List It)(i:Nat):List It:=match l[i]? with
 |some x=>iS x
 |none=>[]
noncomputable def pM(l:List It)(p:Nat):List PT:=if lH l (p+1)="else" then[.emit (.tup [.int 5]),.run (oR l (p+1)) 1 false none] else[]
noncomputable def jV(l:List It)(p:Nat):Nat:=if lH l (p+1)="else" then p+2 else p+1
theorem FI.setT{σ0 σ:aA}{R:RA}{ids:V}{T B:List V}{as:List (Addr×Addr×Lb)}{ts:List Tk}{ps:List Addr}(F:FI σ0 σ R ids T B as ts ps)(T':List V):FI σ0 (upd R.t (.lst T') σ) R ids T' B as ts ps:=
 ⟨F.S.setT T',fun t ht=>(F.at_ t ht).put F.S.tt,F.nd,fun a ha=>⟨(F.new a ha).1,fun q=>by
  by_cases e:a=R.t
  ·replace q:=e▸q
   replace q:=(aI _ _ _)▸q
   exact cZ (Eq.symm q)
  ·rw[aR _ _ e] at q;exact(F.new a ha).2 q⟩,F.k.trans (.put F.S.tt rfl)⟩
noncomputable def aLw(l:List It)(lb:Lb)(J p:Nat)(KS:List Int):Option It→Except bF (List PT)
 |some x=>.error (iC "unexpected token" x)
 |none=>.ok ([.run ((l.drop J).take (p - J)) 0 true none,.opn (.tup [.int 4,.int (lY KS)]) lb,.run (oR l p) 1 false none]++pM l p++[.close])
noncomputable def ifT(l:List It)(lb:Lb)(J p:Nat)(KS:List Int):Except bF (List PT):=
 if p=l.length then .error (iC "unexpected token" lb.tok)
 else aLw l lb J p KS l[jV l p]?
noncomputable def ifR(l:List It)(t:Str)(x:It):Option (Except bF (List PT)):=
 (tO (l.drop (rJ l 1)) (rJ l 1) [] false).map fun q=>ifT l (tU l 1 t x) q.2 (kO (l.drop q.2) q.2) q.1
theorem aGK{α:Type}{l:List α}{a p:Nat}(h1:a≤l.length)(h2:p≤l.length):oX l (some (a:Int)) (some (p:Int))=(l.drop a).take (p - a):=by
 show(l.drop (clipAt l.length a)).take (clipAt l.length p - clipAt l.length a)=_
 rw[show clipAt l.length (a:Int)=a from(clipAt_nat l.length a).trans (Nat.min_eq_left h1),show clipAt l.length (p:Int)=p from(clipAt_nat l.length p).trans (Nat.min_eq_left h2)]
theorem aIm{l:List It}{a p:Nat}(h1:a≤l.length)(h2:p≤l.length):oX (cN l) (some (a:Int)) (some (p:Int))=cN ((l.drop a).take (p - a)):=by
 rw[gX,sU,aGK h1 h2,gX]
theorem aFy:∀{xs:List It} {j:Nat} {ks KS:List Int} {b:Bool} {J:Nat},tO xs j ks b=some (KS,J)→j≤J∧J≤j+xs.length
 |[],j,ks,KS,b,J,h=>by cases h;exact⟨bO _,bO _⟩
 |x::xs,j,ks,KS,b,J,h=>by
  have stop:some (ks,j)=some (KS,J)→j≤J∧J≤j+(x::xs).length:=fun h=>by cases h;exact⟨bO _,eL ..⟩
  have go:∀{ks' b'},tO xs (j+1) ks' b'=some (KS,J)→j≤J∧J≤j+(x::xs).length:=fun h=>by
   have:=aFy h
   exact⟨Nat.le_of_succ_le this.1,rwL eX (aM this.2 (by exact dH (Nat.add_right_comm j 1 _)))⟩
  rw[zR] at h
  split at h
  ·split at h
   ·exact go h
   ·exact cZ h
  ·split at h
   ·exact cZ h
   ·split at h
    ·split at h
     ·exact stop h
     ·split at h
      ·exact go h
      ·exact cZ h
    ·exact stop h
noncomputable def Ag(ns:List Str)(loc loc0:aX):Prop:=∀x,ns.contains x=false→loc.lookup x=loc0.lookup x
theorem Ag.refl{ns:List Str}{loc:aX}:Ag ns loc loc:=fun Z Z=>rfl
theorem Ag.set{ns:List Str}{loc loc0:aX}{y:Str}{v:LV}(h:Ag ns loc loc0)(hy:ns.contains y=true):Ag ns ((y,v)::loc) loc0:=fun x hx=>by
 have:(x==y)=false:=by
  induction e:x==y with
  |false=>rfl
  |true=>
   replace hx:=(eq_of_beq e)▸hx
   replace hx:=hy▸hx
   exact iX (Eq.symm hx)
 refine rwL List.lookup_cons ?_
 refine rwL this ?_
 exact h x hx
inductive IfJ(τ:aA)(l:List It)(P:Nat)(loc0:aX)(rest:List It)(loc:aX)(σ':aA):Prop
 |mk (p:Nat) (e:σ'=τ) (a:Ag ["place"] loc loc0) (l1:loc.lookup ("place":Str)=some (.val (.int (p:Nat)))) (hr:rest=l.drop p) (hp:kO rest p=P)
inductive IfK(τ:aA)(P:Nat)(loc0:aX)(loc:aX)(σ':aA):Prop
 |mk (e:σ'=τ) (a:Ag ["place"] loc loc0) (l1:loc.lookup ("place":Str)=some (.val (.int (P:Nat))))
inductive IfM(σ0:aA)(R:RA)(ids:V)(T B:List V)(as:List (Addr×Addr×Lb))(l:List It)(p:Nat)(D x dx:Addr)(lb:Lb)(loc0:aX)(loc:aX)(σ':aA):Prop
 |mk (us:List Tk) (a:Ag ["behind"] loc loc0) (l1:loc.lookup ("behind":Str)=some (.val (.int (jV l p:Nat)))) (F:FI σ0 σ' R ids T B as us [dx]) (hD:σ' D=some (.lst (us.map Tk.v))) (hlb:lR σ' (x,dx,lb)) (hu:us.map Tk.pt=(pM l p++[PT.close]).reverse) (hz:us.length≤3)
theorem lR.put{σ:aA}{q:Addr×Addr×Lb}(h:lR σ q){D:Addr}{vs:List V}{m:dJ}(e:σ D=some (.lst vs)):lR (upd D m σ) q:=⟨eW h.1 e (by nofun),eW h.2 e (by nofun)⟩
section
variable{md:Md}{loc:aX}{σ:aA}{X:bF→Prop}
variable{R:RA}{ids:V}{T B:List V}{as:List (Addr×Addr×Lb)}
theorem aBy{α:Type}{test:Expr}{body:List Stmt}{Q:gA→aX→aA→Prop}(J:aX→List α→aX→aA→Prop)(K:aX→aX→aA→Prop)(fin:∀l' σ',K loc l' σ'→Q .next l' σ')
  (step:∀as l' σ',J loc as l' σ'→qI md test l' σ' (WhQ md body (J loc) (K loc) Q X as l') X) (as:List α) (h:J loc as loc σ):aGN md test body Q X (as.length+1) loc σ:=mV (J loc) (K loc) fin step as loc σ h
theorem nJ{st:Stmt}{rest:List Stmt}{Q:gA→aX→aA→Prop}(K:aX→aX→aA→Prop)(h1:sY md st loc σ (aNJ (K loc) Q) X)(h2:∀loc' σ',K loc loc' σ'→jC X σ' loc' md Q rest):jC X σ loc md Q (st::rest):=qX (K loc) h1 h2
theorem yE(C:Cx G){ix kx:Str}{p3 p4 p5 p6 p7 p8 p9 p10:Pos}{n n' k:Nat}{bl:List It}{y:It}{Q:V→aA→Prop}(hd:md.hd=none)(hn:3≤md.n)(hg:md.sc.lookup ("run_task":Str)=some .globalImplicit)
  (h2:loc.lookup ix=some (.val (.lst (cN bl)))) (h3:loc.lookup kx=some (.val (.int (k:Nat)))) (hz:bl.length≤2^20) (hy:bl[k]? =some y) (hb:aI3 y=true)
  (hq:∀σ' rn dn,σ rn=none→σ dn=none→Gr σ σ'→fP σ' rn dn (oR bl k) 1 false .none→Q (.tup [.str "run",.ref rn]) σ')
  (d2:(ix==("__debug__":Str))=false:=by exact zD T0) (d3:(kx==("__debug__":Str))=false:=by exact zD T0):
  cP X σ loc md Q (.Call (.Name "run_task" p3) [.Attribute (.Subscript (.Name ix p4) (.Name kx p5) p6) "items" p7,.Constant (.int 1) n p8,.Constant (.bool false) n' p9] [] p10):=by
 cases y with
 |tok=>exact iX hb
 |br l r c=>
  have e:oR bl k=l:=by unfold oR;rw[hy];rfl
  rw[e] at hq
  exact aY (n:=3) (lM C) (aS C rfl) hg hn hd<|aC (tT C (by decide)<|bY h2 h3 rfl hz hy ⟨l,r,c,_,rfl,rfl,rfl,aC<|aF<|aC<|dZ<|aE<|oW C hq⟩ d2 d3)
end
section
variable{md:Md}{loc:aX}{σ:aA}{X:bF→Prop}
variable{R:RA}{ids:V}{T B:List V}{as:List (Addr×Addr×Lb)}
theorem aIo{l:List It}{i:Nat}{w:Str}(h:lH l i=w)(hw:w≠""):∃y,l[i]? =some y∧aI3 y=true:=by
 unfold lH at h
 induction hy:l[i]? with
 |none=>
  replace h:=hy▸h
  exact absurd h.symm hw
 |some y=>
  replace h:=hy▸h
  obtain⟨_,_,_,rfl⟩:=sI h hw
  exact⟨_,rfl,rfl⟩
theorem aHP{l:List It}{i:Nat}(h:i≤l.length):rJ l i≤l.length:=by
 unfold rJ dW
 induction hy:l[i]? with
 |none=>exact h
 |some y=>
  have:=(gB hy).1
  cases y with
  |br=>exact h
  |tok s t v r c=>
   by_cases hs:s="id"
   ·show i+(if(if s="id" then some t else none).isSome=true then 1 else 0)≤l.length
    refine rwL (if_pos hs) ?_
    exact this
   ·show i+(if(if s="id" then some t else none).isSome=true then 1 else 0)≤l.length
    refine rwL (if_neg hs) ?_
    exact h
theorem aF7(C:Cx G){bl:List It}{s t:Str}{v:V}{r c:Int}{res:Except bF (List PT)}{Q:V→aA→Prop}(S:RS as B T ids R σ)(hT:T.length≤2^18)(hz:bl.length≤2^19)(hb:1≤bl.length)(ho:∀x∈bl,tB x)(hr:ifR bl t (.tok s t v r c)=some res)
  (hq:∀pts,res=.ok pts→∀σ' ts,ts.map Tk.pt=pts→qH [] σ σ' R ids T B as ts→Kp σ σ'→Q .none σ') (hx:∀e,res=.error e→X e):aW Q σ X 12 (.ref 479) [.ref R.r,iR s t v r c,.lst (cN bl)]:=by
 refine aZ (n:=11) (gV (ps:=["self","token","items"]) C rfl rfl rfl rfl (bt3 fun Z Z Z Z=>.of_eq rfl)) (zD T0) (zD T0) rfl fun L hL=>?_
 have S0:=S.upd (m:=.mark) hL
 have hz20:bl.length≤2^20:=aM hz (aD rfl)
 obtain⟨⟨KS,J⟩,hk,rfl⟩:=iJ hr
 dsimp only at hq hx
 generalize hP:kO (bl.drop J) J=P at hq hx
 refine aG<|bD (ns:=["label","at"]) (o:=none) rfl rfl rfl rfl (.inl rfl)<|cE C (fa:=486) (n:=3) S0 rfl rfl rfl (by kernel_rfl) (aS C rfl) (aD rfl)<|bL rfl<|bL rfl<|aC<|aF<|aE ?_
 refine aD3 C (i:=1) hz20 fun τ x dx g1 hdx0 hlb=>⟨_,rfl,rfl,?_⟩
 rw[if_pos rfl]
 have F1:FI (upd L .mark σ) τ R ids T B as [] [dx]:=⟨S0.gr g1,gR,List.nodup_cons.mpr ⟨List.not_mem_nil,.nil⟩,fun a ha=>by
  cases eR ha
  exact⟨⟨fun m e=>(by rw[hdx0] at e;exact cZ e),S0.ks_new hdx0⟩,by rw[hlb.2];nofun⟩,g1.kp⟩
 have hdN:=S0.dx_new hdx0
 have hlt:(tU bl 1 t (.tok s t v r c)).tok=.tok s t v r c:=rfl
 rw[←cQ]
 generalize It.tok s t v r c=tk at hlb hq hx hlt ⊢
 generalize tU bl 1 t tk=lb at hlb hq hx hlt
 refine aG<|bD (ns:=["kind","at"]) (o:=none) rfl rfl rfl rfl (.inl rfl)<|cE C (fa:=493) (n:=11) F1.S rfl rfl rfl (by kernel_rfl) (aS C rfl) (aD rfl)<|bL rfl<|aQ rfl ?_
 refine aC2 C hz20 (fun y hy=>(ho y hy).ok) hk ⟨_,rfl,rfl,?_⟩
 rw[if_pos rfl]
 have hJ:J≤bl.length:=aM (aFy hk).2 (rwL List.length_drop (rwL (Nat.add_sub_cancel' (aHP hb)) (bO _)))
 refine cG rfl<|aB rfl ?_
 refine aG<|lB _ (aBy (IfJ τ bl P) (IfK τ P) ?_ ?_ (bl.drop J) ⟨J,rfl,.refl,rfl,rfl,hP⟩)
 ·rintro loc1 σ' ⟨rfl,A1,l1⟩
  have hPle:P≤bl.length:=by
   rw[←hP]
   exact aM (aB9 _ _).2 (rwL List.length_drop (rwL (Nat.add_sub_cancel' hJ) (bO _)))
  refine eB l1<|cY (hY C) rfl (aO _) rfl rfl<|aC (aB ((A1 "items" rfl).trans rfl)<|aE<|fK (n:=bl.length) (by unfold oM;show some (cN bl).length=_;rw[bH]) (aM ‹_› (aD rfl)) ⟨_,cS _ _,?_⟩)
  by_cases h1:P=bl.length
  ·refine bI (by simp[h1])<|cW<|aY (n:=7) (cU C) (aS C rfl) rfl (aD rfl) rfl<|aC<|aN (by kernel_rfl)<|aC (aB ((A1 "token" rfl).trans rfl)<|aE<|jD C (hx _ ((if_pos h1).trans (rwL hlt rfl))))
  refine bB (by simp;exact fun q=>h1 (Int.ofNat.inj q))<|aH ?_
  have hlt:P<bl.length:=Nat.lt_of_le_of_ne hPle h1
  have e1:ifT bl lb J P KS=aLw bl lb J P KS bl[jV bl P]?:=if_neg h1
  rw[e1] at hq hx
  obtain⟨yt,hyt,hbt⟩:∃y,bl[P]? =some y∧aI3 y=true:=by
   obtain⟨y,h,h2⟩:=aBR rfl (rwL hP hlt)
   rw[hP] at h
   obtain⟨_,_,_,rfl⟩:=sI h2 (zD T0)
   exact⟨_,h,rfl⟩
  refine cG rfl<|aP<|aB l1<|aF ⟨_,.add _ _,?_⟩
  refine cG rfl<|bJ<|aC (aT<|aC<|aN (by kernel_rfl)<|aC<|bQ<|aE ⟨aD rfl,aE ⟨aD rfl,.inr fun D hD=>?_⟩⟩)
  have hs:=F1.S.sep hD
  have F2:=(F1.gr (Gr.new (m:=.lst [Tk.close.v]) hD)).push (t:=.close) rfl trivial
  have hlb2:=hlb.mono (Gr.new (m:=.lst [Tk.close.v]) hD)
  have hD2:upd D (.lst [Tk.close.v]) σ' D=some (.lst [Tk.close.v]):=aI ..
  show jC X (upd D (.lst [Tk.close.v]) σ') _ _ _ _
  generalize upd D (.lst [Tk.close.v]) σ'=τ at F2 hlb2 hD2 ⊢
  refine nJ (IfM (upd L .mark σ) R ids T B as bl P D x dx lb) ?_ ?_
  ·refine gQ<|bU<|mJ C (i:=P+1) rfl rfl ((A1 "items" rfl).trans rfl) rfl (rwL (bH _) hz20) rfl ?_
   rw[bH]
   by_cases h2:lH bl (P+1)="else"
   ·have hb2:jV bl P=P+2:=if_pos h2
    have hT2:pM bl P=[.emit (.tup [.int 5]),.run (oR bl (P+1)) 1 false none]:=if_pos h2
    obtain⟨y,hy,hby⟩:=aIo h2 (zD T0)
    have hh:dK y="else":=by unfold lH at h2;rw[hy] at h2;exact h2
    refine bI (decide_eq_true (gB hy).1)<|bU<|aV<|aY (n:=2) (jS C) (aS C rfl) rfl (aD rfl) rfl<|aC (bY ((A1 "items" rfl).trans rfl) (i:=P+1) rfl rfl hz20 hy<|aE<|nF C (ho y (iA hy)).ok<|aN (by kernel_rfl) ⟨_,bG _ _,bI (decide_eq_true hh)<|cK<|bI rfl ?_⟩)
    refine cW<|bM rfl<|aB rfl ⟨_,_,rfl,hD2,yE C rfl (aD rfl) rfl ((A1 "items" rfl).trans rfl) (k:=P+1) rfl hz20 hy hby fun σ3 rn dn hrn hdn g A=>⟨_,g _ _ hD2,aD rfl,?_⟩⟩
    have F3:=(F2.run (b:=none) g hdn A).put hs (g _ _ hD2) (vs':=[Tk.close.v]++[.tup [.str "run",.ref rn]])
    have hlb3:=(hlb2.mono g).put (m:=.lst ([Tk.close.v]++[.tup [.str "run",.ref rn]])) (g _ _ hD2)
    refine cW<|bM rfl<|aB rfl ⟨_,_,rfl,aI ..,aT<|aC<|aN (by kernel_rfl)<|aC (aT<|aC<|bA (aHu C) rfl<|aE ⟨aD rfl,aE ⟨aD rfl,_,aI ..,aD rfl,?_⟩⟩)⟩
    refine cG rfl<|aP<|aB rfl<|aF ⟨_,.add _ _,aH ⟨_,Ag.set .refl rfl,by rw[hb2];rfl,((F3.put hs (aI ..)).push (t:=.emit (.tup [.int 5])) rfl trivial),aI ..,hlb3.put (aI ..),by rw[hT2];rfl,aD rfl⟩⟩
   ·have hb2:jV bl P=P+1:=if_neg h2
    have hT2:pM bl P=[]:=if_neg h2
    have out:IfM (upd L .mark σ) R ids T B as bl P D x dx lb (("later",.val (.ref D))::("behind",.val (.int ((P:Int)+1)))::loc1) (("later",.val (.ref D))::("behind",.val (.int ((P:Int)+1)))::loc1) τ:=⟨_,.refl,by rw[hb2];rfl,F2,hD2,hlb2,by rw[hT2];rfl,aD rfl⟩
    cases hy:bl[P+1]? with
    |none=>exact bB (decide_eq_false (Nat.not_lt.mpr (List.getElem?_eq_none_iff.mp hy)))<|bB rfl<|aH out
    |some y=>
     have hh:¬dK y="else":=by unfold lH at h2;rw[hy] at h2;exact h2
     exact bI (decide_eq_true (gB hy).1)<|bU<|aV<|aY (n:=2) (jS C) (aS C rfl) rfl (aD rfl) rfl<|aC (bY ((A1 "items" rfl).trans rfl) (i:=P+1) rfl rfl hz20 hy<|aE<|nF C (ho y (iA hy)).ok<|aN (by kernel_rfl) ⟨_,bG _ _,bB (decide_eq_false hh)<|bB rfl<|aH out⟩)
  rintro loc2 σ2 ⟨us,A2,l2,F,hD3,hlb3,hu,hz3⟩
  have li:=(A2 "items" rfl).trans ((A1 "items" rfl).trans rfl)
  have ll:loc2.lookup ("later":Str)=some (.val (.ref D)):=(A2 "later" rfl).trans rfl
  have lp:=(A2 "place" rfl).trans l1
  refine qZ<|mJ C rfl l2 li rfl (rwL (bH _) hz20) rfl ?_
  rw[bH]
  cases hb3:bl[jV bl P]? with
  |some y=>
   rw[hb3] at hx
   exact bI (decide_eq_true (gB hb3).1)<|cW<|aY (n:=7) (cU C) (aS C rfl) rfl (aD rfl) rfl<|aC<|aN (by kernel_rfl)<|aC (bY li l2 rfl hz20 hb3<|aE<|jD C (hx _ rfl))
  |none=>
   rw[hb3] at hq
   have hz4:(us.map Tk.v).length≤3:=by exact rwL (bS _) hz3
   refine bB (decide_eq_false (Nat.not_lt.mpr (List.getElem?_eq_none_iff.mp hb3)))<|aH ?_
   refine cW<|bM rfl<|aB ll ⟨_,_,rfl,hD3,yE C rfl (aD rfl) rfl li lp hz20 hyt hbt fun σ3 rn dn hrn hdn g A=>⟨_,g _ _ hD3,aM hz4 (aD rfl),?_⟩⟩
   have F3:=(F.run (b:=none) g hdn A).put hs (g _ _ hD3) (vs':=us.map Tk.v++[.tup [.str "run",.ref rn]])
   have hlb4:=(hlb3.mono g).put (m:=.lst (us.map Tk.v++[.tup [.str "run",.ref rn]])) (g _ _ hD3)
   refine cW<|bM rfl<|aB ll ⟨_,_,rfl,aI ..,aT<|aC<|aN (by kernel_rfl)<|aC (aT<|aC (aT<|aC<|bA (aOn C) rfl<|aC (aB ((A2 "kind" rfl).trans ((A1 "kind" rfl).trans rfl))<|aE ⟨aD rfl,aC (aB ((A2 "label" rfl).trans ((A1 "label" rfl).trans rfl))<|aE ⟨aD rfl,aE ⟨aD rfl,_,aI ..,rwL cL (aM (eP hz4 _) (aD rfl)),?_⟩⟩)⟩)))⟩
   have F4:=(F3.put hs (aI ..) (vs':=us.map Tk.v++[.tup [.str "run",.ref rn]]++[.tup [.str "open",.tup [.tup [.int 4,.int (lY KS)],.ref x]]])).opn (iv:=.tup [.int 4,.int (lY KS)]) (hlb4.put (aI ..))
   refine cW<|bM rfl<|aB ll ⟨_,_,rfl,aI ..,aY (n:=3) (lM C) (aS C rfl) rfl (aD rfl) rfl<|aC (gY<|aB li<|aB ((A2 "at" rfl).trans ((A1 "at" rfl).trans rfl)) ⟨_,rfl,aB lp ⟨_,rfl,.inl ⟨_,rfl,rwL (bH _) hz20,.inl ?_⟩⟩⟩)⟩
   rw[aIm hJ hPle]
   refine aC<|aF<|aC<|dZ<|aE<|oW C fun σ4 rm dm hrm hdm g2 A3=>⟨_,g2 _ _ (aI ..),rwL cL (rwL cL (aM (eP (eP hz4 _) _) (aD rfl))),?_⟩
   have F5:=(F4.run (b:=none) g2 hdm A3).put hs (g2 _ _ (aI ..)) (vs':=us.map Tk.v++[.tup [.str "run",.ref rn]]++[.tup [.str "open",.tup [.tup [.int 4,.int (lY KS)],.ref x]]]++[.tup [.str "run",.ref rm]])
   have hTl:T.length+(us.map Tk.v++[V.tup [.str "run",.ref rn]]++[V.tup [.str "open",.tup [.tup [.int 4,.int (lY KS)],.ref x]]]++[V.tup [.str "run",.ref rm]]).length≤2^20:=by
    rw[cL,cL,cL]
    exact aM (cT hT (eP (eP (eP hz4 _) _) _)) (aD rfl)
   refine cW<|cI rfl<|dX C F5.S ((A2 "self" rfl).trans ((A1 "self" rfl).trans rfl)) rfl rfl rfl ⟨.builtin "list.extend",_,0,.blt "list" "list.extend" (by unfold fS;rw[dA F5.S.tt]) PySem.F.plainAttrs_list PySem.F.slot_list_extend (by kernel_rfl),aO _,cM _,aQ ll<|kB F5.S.tt (dA (aI ..)) hTl<|aH ?_⟩
   have hno:∀iv x' dx' lb',Tk.opn iv x' dx' lb'∈us++[.run rn dn (oR bl P) 1 false none]++[.opn (.tup [.int 4,.int (lY KS)]) x dx lb]++[.run rm dm ((bl.drop J).take (P - J)) 0 true none]→dx'∉as.map (·.2.1):=fun iv x' dx' lb' hm=>by
    rcases gK hm with hm|hm
    ·rcases gK hm with hm|hm
     ·rcases gK hm with hm|hm
      ·have hm2:PT.opn iv lb'∈us.map Tk.pt:=List.mem_map.mpr ⟨_,hm,rfl⟩
       rw[hu] at hm2
       unfold pM at hm2
       split at hm2 <;> simp at hm2
      ·cases eR hm
     ·cases eR hm;exact hdN
    ·cases eR hm
   obtain⟨N,K⟩:=FI.out hL (F5.setT _) (T:=T) (by rw[eD,eD,eD] <;> rfl) hno
   exact hq _ rfl _ _ (by rw[List.map_reverse,eD,eD,eD,hu];simp[Tk.pt]) N K
 ·rintro rest loc1 σ' ⟨p,rfl,A1,l1,hr,hp⟩
  refine bU<|mJ C rfl l1 ((A1 "items" rfl).trans rfl) rfl (rwL (bH _) hz20) rfl ?_
  rw[bH]
  cases rest with
  |nil=>
   subst hp
   exact bB (decide_eq_false (Nat.not_lt.mpr (List.drop_eq_nil_iff.mp hr.symm)))<|bB rfl ⟨rfl,A1,l1⟩
  |cons y ys=>
   obtain⟨h,hxs⟩:=wX hr
   refine bI (decide_eq_true (gB h).1)<|bU<|aV<|aY (n:=2) (jS C) (aS C rfl) rfl (aD rfl) rfl<|aC (bY ((A1 "items" rfl).trans rfl) l1 rfl hz20 h<|aE<|nF C (ho y (iA h)).ok<|aN (by kernel_rfl) ⟨_,iG _ _,?_⟩)
   replace hp:=uK▸hp
   by_cases h1:dK y="then"
   ·replace hp:=(if_pos h1)▸hp
    subst hp
    exact bB (ndF ‹_›)<|bB rfl ⟨rfl,A1,l1⟩
   ·replace hp:=(if_neg h1)▸hp
    exact bI (ndT ‹_›)<|cK<|bI rfl ⟨y,ys,rfl,cG rfl<|aP<|aB l1<|aF ⟨_,.add _ _,aH ⟨p+1,rfl,A1.set rfl,rfl,hxs,hp⟩⟩⟩
end
noncomputable def vL(ids:List (Str×Int))(ls:List Lb)(l:List It)(t:Str)(v:V)(r c:Int):Option (Except bF (List PT×List V×List Lb)):=
 if t="if" then(ifR l t (.tok "word" t v r c)).map (lZ fun pts=>(pts,[],ls))
 else if nS.any (·==t)=true then(tO (l.drop (rJ l 1)) (rJ l 1) [] false).map fun q=>.ok ([.run l q.2 false none,.close],[.tup [kD t,.int (lY q.1)]],ls++[tU l 1 t (.tok "word" t v r c)])
 else(mH ids (ls.map (·.name)) l 1 "word" t v r c).map (lZ fun q=>([.run l q.2 true none,.emit q.1],[],ls))
noncomputable def nV(ids:List (Str×Int))(ls:List Lb)(l:List It)(r c:Int):Option (Except bF (List PT×List V×List Lb)):=
 if jM l="" then some (.error (rB r c "unexpected token"))
 else match l[(0:Nat)]? with
 |some (.tok _ t v r0 c0)=>vL ids ls l t v r0 c0
 |_=>none
section
variable{md:Md}{loc:aX}{σ:aA}{X:bF→Prop}
variable{R:RA}{ids:List (Str×Int)}{T B:List V}{as:List (Addr×Addr×Lb)}
theorem aHo(C:Cx G){l:List It}{r c:Int}{res:Except bF (List PT×List V×List Lb)}{Q:V→aA→Prop}(S:RS as B T (kK ids) R σ)(hl:as.length≤1000)(hT:T.length≤2^18)(hB:B.length≤2^19)(hz:l.length≤2^19)(ho:∀x∈l,tB x)(hm:∀i,sQ (cB l i)=true)
  (hr:nV ids (fH as) l r c=some res)
  (hq:∀pts bs ls',res=.ok (pts,bs,ls')→∀σ' ts as',ts.map Tk.pt=pts→fH as'=ls'→qH [] σ σ' R (kK ids) T (B++bs) as' ts→Kp σ σ'→Q .none σ')
  (hx:∀e,res=.error e→X e):aW Q σ X 13 (.ref 472) [.ref R.r,oF (.br l r c)]:=by
 refine aZ (n:=12) (gV (ps:=["self","branch"]) C rfl rfl rfl rfl (tA fun Z Z Z=>.of_eq rfl)) (zD T0) (zD T0) rfl fun L hL=>?_
 have S0:=S.upd (m:=.mark) hL
 have hz20:l.length≤2^20:=aM hz (aD rfl)
 refine cG rfl<|aY (n:=2) (jS C) (aS C rfl) rfl (aD rfl) rfl<|aQ rfl<|nF C (decide_eq_true hz20) ?_
 show jC X _ (("word",.val (.str (jM l)))::_) _ _ _
 unfold nV at hr
 by_cases hw:jM l=""
 ·rw[if_pos hw] at hr
  obtain rfl:=bE hr
  refine eB rfl<|aN (by kernel_rfl) ⟨_,bG _ _,bI (decide_eq_true hw) ?_⟩
  exact cW<|aY (n:=7) (cU C) (aS C rfl) rfl (aD rfl) rfl<|aC<|aN (by kernel_rfl)<|aQ rfl<|jD C (hx _ rfl)
 obtain⟨v,r0,c0,h0⟩:=aDa rfl hw
 rw[if_neg hw,h0] at hr
 dsimp only at hr
 generalize jM l=t at hw h0 hr
 refine eB rfl<|aN (by kernel_rfl) ⟨_,bG _ _,bB (decide_eq_false hw)<|aH ?_⟩
 refine aG<|bD (ns:=["token","items"]) (o:=some ["token","items"]) rfl rfl rfl rfl (.inr rfl) ?_
 refine aT<|aC (bR<|tT C rfl<|aB rfl ⟨l,r,c,_,rfl,rfl,rfl,aF ⟨_,.lst _ (cN l) 0 _ rfl (zD T0) (gI (i:=0) (oL h0)),?_⟩⟩)
 refine aC (tT C rfl<|aB rfl ⟨l,r,c,_,rfl,rfl,rfl,aE ⟨aD rfl,_,rfl,rfl,?_⟩⟩)
 rw[if_neg (by simp),cQ]
 unfold vL at hr
 by_cases h1:t="if"
 ·rw[if_pos h1] at hr
  obtain⟨ri,hi,rfl⟩:=iJ hr
  refine eB rfl<|aN (by kernel_rfl) ⟨_,bG _ _,bI (decide_eq_true h1) ?_⟩
  refine cW<|cE C (fa:=479) (n:=12) S0 rfl rfl rfl (by kernel_rfl) (aS C rfl) (aD rfl)<|bL rfl<|aQ rfl ?_
  refine aF7 C S0 hT hz (gB h0).1 ho hi (fun pts he σ1 ts hts N K=>aH<|aH ?_) fun e he=>hx e (by rw[he];rfl)
  exact hq pts [] _ (by rw[he];rfl) _ ts as hts rfl (rwL (List.append_nil _) (N.leave hL (K L .mark (aI ..) rfl))) (K.leave hL)
 rw[if_neg h1] at hr
 refine eB rfl<|aN (by kernel_rfl) ⟨_,bG _ _,bB (decide_eq_false h1) ?_⟩
 by_cases h2:nS.any (·==t)=true
 ·rw[if_pos h2] at hr
  obtain⟨⟨KS,J⟩,hk,rfl⟩:=iJ hr
  refine eB rfl<|bA (mO C) rfl ⟨_,rfl,bI h2 ?_⟩
  refine aG<|bD (ns:=["label","at"]) (o:=none) rfl rfl rfl rfl (.inl rfl)<|cE C (fa:=486) (n:=3) S0 rfl rfl rfl (by kernel_rfl) (aS C rfl) (aD rfl)<|bL rfl<|bL rfl<|aC<|aF<|aE ?_
  refine aD3 C (i:=1) hz20 fun τ x dx g1 hdx0 hlb=>⟨_,rfl,rfl,?_⟩
  rw[if_pos rfl]
  have S1:=S0.gr g1
  refine aG<|bD (ns:=["kind","at"]) (o:=none) rfl rfl rfl rfl (.inl rfl)<|cE C (fa:=493) (n:=11) S1 rfl rfl rfl (by kernel_rfl) (aS C rfl) (aD rfl)<|bL rfl<|aQ rfl ?_
  refine aC2 C hz20 (fun y hy=>(ho y hy).ok) hk ⟨_,rfl,rfl,?_⟩
  rw[if_pos rfl]
  refine cW<|cE C (fa:=444) (n:=1) S1 rfl rfl rfl (by kernel_rfl) (aS C rfl) (aD rfl)<|aC (aT<|aC (aY (n:=1) (tF C) (aS C rfl) rfl (aD rfl) rfl<|aQ rfl<|aDl C<|aQ rfl ⟨aD rfl,aQ rfl ?_⟩))
  refine aC6 C S1 (aM ‹_› (aD rfl)) (aM ‹_› (aD rfl)) hlb (S0.dx_new hdx0) (S0.ks_new hdx0) fun σ2 S2 K2=>?_
  have F0:FI (upd L .mark σ) σ2 R (kK ids) T (B++[.tup [kD t,.int (lY KS)]]) (as++[(x,dx,tU l 1 t (.tok "word" t v r0 c0))]) [] []:=⟨S2,gR,.nil,gR,g1.kp.trans K2⟩
  refine cW<|bM rfl<|dX C S2 rfl rfl rfl rfl ⟨_,_,rfl,S2.tt,aT<|aC<|aN (by kernel_rfl)<|aC<|bQ<|aE ⟨aD rfl,_,S2.tt,aM hT (aD rfl),?_⟩⟩
  have F1:=(F0.push (t:=.close) rfl trivial).setT (T++[Tk.close.v])
  refine cW<|bM rfl<|dX C F1.S rfl rfl rfl rfl ⟨_,_,rfl,F1.S.tt,aY (n:=3) (lM C) (aS C rfl) rfl (aD rfl) rfl<|bL rfl<|bL rfl<|aC<|dZ<|aE<|oW C fun σ3 rn dn hrn hdn g A=>⟨_,(F1.gr g).S.tt,by simp;exact aM ‹_› (aD rfl),aH<|aH<|aH ?_⟩⟩
  obtain⟨N,K⟩:=FI.out hL ((F1.run (b:=none) g hdn A).setT (T++[Tk.close.v]++[.tup [.str "run",.ref rn]])) (T:=T) (by rw[eJ] <;> rfl) fun iv x' dx' lb' hm=>by simp at hm
  exact hq _ _ _ rfl _ _ _ rfl (by unfold fH;simp) N K
 rw[if_neg h2] at hr
 obtain⟨ri,hi,rfl⟩:=iJ hr
 refine eB rfl<|bA (mO C) rfl ⟨nS.any (·==t),rfl,bB (Bool.eq_false_iff.mpr h2) ?_⟩
 refine aG<|bD (ns:=["instruction","at"]) (o:=none) rfl rfl rfl rfl (.inl rfl)<|cE C (fa:=507) (n:=12) S0 rfl rfl rfl (by kernel_rfl) (aS C rfl) (aD rfl)<|bL rfl<|bL rfl<|aC<|aF<|aE ?_
 rw[aBq] at hi
 refine aBH C (i:=1) S0 hl hz ho hm hi (fun iv j he=>⟨_,rfl,rfl,?_⟩) fun e he=>hx e (by rw[he];rfl)
 refine rwL (if_pos rfl) ?_
 have F0:FI (upd L .mark σ) (upd L .mark σ) R (kK ids) T B as [] []:=⟨S0,gR,.nil,gR,.refl _⟩
 refine cW<|bM rfl<|dX C S0 rfl rfl rfl rfl ⟨_,_,rfl,S0.tt,aT<|aC<|aN (by kernel_rfl)<|aQ rfl ⟨aD rfl,_,S0.tt,aM hT (aD rfl),?_⟩⟩
 have F1:=(F0.push (t:=.emit iv) rfl trivial).setT (T++[(Tk.emit iv).v])
 refine cW<|bM rfl<|dX C F1.S rfl rfl rfl rfl ⟨_,_,rfl,F1.S.tt,aY (n:=3) (lM C) (aS C rfl) rfl (aD rfl) rfl<|bL rfl<|bL rfl<|aC<|dZ<|aE<|oW C fun σ3 rn dn hrn hdn g A=>⟨_,(F1.gr g).S.tt,by simp;exact aM ‹_› (aD rfl),aH<|aH<|aH ?_⟩⟩
 obtain⟨N,K⟩:=FI.out hL ((F1.run (b:=none) g hdn A).setT (T++[(Tk.emit iv).v]++[.tup [.str "run",.ref rn]])) (T:=T) (by rw[eJ] <;> rfl) fun iv x' dx' lb' hm=>by simp at hm
 exact hq [.run l j true none,.emit iv] [] _ (by rw[he];rfl) _ _ _ rfl rfl (rwL (List.append_nil _) N) K
end
noncomputable def Ko(os:List Addr)(σ σ':aA):Prop:=∀a m,σ a=some m→kpt m=true→a∉os→σ' a=some m
theorem Kp.o{σ σ':aA}(h:Kp σ σ')(os:List Addr):Ko os σ σ':=fun a m e k Z=>h a m e k
theorem Ko.trans{os:List Addr}{σ σ1 σ2:aA}(x:Ko os σ σ1)(y:Ko os σ1 σ2):Ko os σ σ2:=fun a m h k n=>y a m (x a m h k n) k n
theorem Ko.put{dn:Addr}{σ:aA}{m:dJ}:Ko [dn] σ (upd dn m σ):=fun a m1 e Z n=>by exact rwL (aR _ _ fun q=>n (List.mem_singleton.mpr q)) e
theorem Ko.leave{os:List Addr}{σ σ':aA}{L:Addr}(hL:σ L=none)(h:Ko os (upd L .mark σ) σ'):Ko os σ (eZ L σ'):=fun a m e k n=>by
 refine rwL (dP _ (dS e hL)) ?_
 exact h a m (bV e hL) k n
theorem RS.setRun{σ:aA}{rn dn:Addr}{R:RA}{ids:V}{T B:List V}{as:List (Addr×Addr×Lb)}{l:List It}{i:Nat}{fold:Bool}{base:V}(S:RS as B T ids R σ)(hR:fP σ rn dn l i fold base)(hk:∀p∈R.ks,p.1≠dn)(vs:List V):RS as B T ids R (Mine.upd dn (.ns lS vs) σ):=by
 refine⟨eW S.ins hR.ns (by nofun),eW S.ns hR.ns (fun q=>by injection q with q1 q2;revert q1;exact zD T0),eW S.tt hR.ns (by nofun),eW S.bb hR.ns (by nofun),eW S.ll hR.ns (by nofun),S.ne,fun p hp=>⟨eW (S.lbs p hp).1 hR.ns (by nofun),eW (S.lbs p hp).2 hR.ns (fun q=>by injection q with q1 q2;revert q1;exact zD T0)⟩,S.nd,fun p hp=>(S.kk p hp).mono ((aR _ _ (hk p hp)).trans (S.kk p hp).e)⟩
theorem fP.set{σ:aA}{rn dn:Addr}{l:List It}{i:Nat}{fold:Bool}{base:V}(hR:fP σ rn dn l i fold base)(j:Nat)(base':V):fP (upd dn (.ns lS [.lst (cN l),.int j,.bool fold,base']) σ) rn dn l j fold base':=
 ⟨eW hR.ins hR.ns (by nofun),aI ..⟩
theorem qH.snoc{σ0 σ σ':aA}{R:RA}{ids:V}{T B:List V}{as:List (Addr×Addr×Lb)}{ts:List Tk}{rn dn:Addr}{l:List It}{j b0:Nat}{f:Bool}(N:qH [] σ σ' R ids (T++[.tup [.str "run",.ref rn]]) B as ts)(A:fP σ rn dn l j f (.int b0))(K:Kp σ σ')(K0:Ko [dn] σ0 σ):qH [dn] σ0 σ' R ids T B as (ts++[.run rn dn l j f (some b0)]):=by
 have hn:∀a∈ts.flatMap Tk.own,Nw σ R a:=fun a ha=>(N.new a ha).elim id fun q=>absurd q List.not_mem_nil
 have e:(ts++[Tk.run rn dn l j f (some b0)]).flatMap Tk.own=ts.flatMap Tk.own++[dn]:=by rw[List.flatMap_append] <;> rfl
 refine⟨?_,fun t ht=>(gK ht).elim (N.at_ t) fun q=>by cases eR q;exact A.kp K,?_,?_⟩
 ·have S:=N.S
  replace S:=(eJ _ _ _)▸S
  refine rwL eD ?_
  refine rwL List.reverse_append ?_
  refine rwL List.flatMap_append ?_
  refine rwL (show[Tk.run rn dn l j f (some b0)].flatMap Tk.ks=[] from rfl) ?_
  refine rwL (List.append_nil _) ?_
  exact S
 ·rw[e,List.nodup_append]
  refine⟨N.nd,List.nodup_cons.mpr ⟨List.not_mem_nil,.nil⟩,fun a ha b hb q=>?_⟩
  cases eR hb
  subst q
  cases(hn _ ha).1 _ A.ns
 ·refine rwL e ?_
  intro a ha
  by_cases q:a=dn
  ·exact .inr (List.mem_singleton.mpr q)
  ·refine .inl ?_
   have h:=hn a ((gK ha).resolve_right fun z=>q (eR z))
   refine⟨fun m em=>?_,h.2⟩
   induction hm:kpt m with
   |false=>rfl
   |true=>exact hm.symm.trans (h.1 m (K0 a m em hm fun z=>q (eR z)))
inductive rK:It→Prop
 |tok {s t:Str} {v:V} {r c:Int} (h:tB (.tok s t v r c)) (m:s="word"→sQ t=true):rK (.tok s t v r c)
 |br {l:List It} {r c:Int} (z:l.length≤2^19) (h:∀x∈l,rK x):rK (.br l r c)
structure jL(l:List It):Prop where
 z:l.length≤2^19
 h:∀x∈l,rK x
theorem rK.ok{x:It}(h:rK x):tB x:=by
 induction h with
 |tok h=>exact h
 |br z=>exact aM z (aD rfl)
theorem rK.in{l:List It}{r c:Int}(h:rK (.br l r c)):jL l:=by
 cases h with
 |br z h=>exact⟨z,h⟩
set_option tactic.hygienic true in
theorem jL.mem{l:List It}(h:jL l)(i:Nat):sQ (cB l i)=true:=by
 have e:sQ ""=true:=by decide+kernel
 unfold cB
 induction hy:l[i]? with
 |none=>exact e
 |some y=>
  induction h.h y (iA hy) with
  |tok _ m=>
   dsimp only
   split
   ·rename_i hs;exact m hs
   ·exact e
  |br=>exact e
noncomputable def vR(ids:List (Str×Int))(ls:List Lb)(l:List It)(i b0:Nat)(fold:Bool):It→Option (Except bF (List PT×List V×List Lb))
 |.br bl r c=>(nV ids ls bl r c).map (lZ fun q=>(q.1++[.run l (i+1) fold (some b0)],q.2))
 |.tok s t v r c=>if fold=true∨s≠"word" then some (.error (iC "unexpected token" (.tok s t v r c))) else(iL ids ls b0 l i s t v r c).map (lZ fun q=>([.run l q.1 fold (some b0)],[q.2.1],q.2.2))
noncomputable def aGx(ls:List Lb)(b0:Nat):Option (Except bF (List PT×List V×List Lb)):=if ls.length=b0 then some (.ok ([],[],ls)) else ls.getLast?.map fun lb=>.error (iC "unexpected token" lb.tok)
noncomputable def aEr(ids:List (Str×Int))(ls:List Lb)(l:List It)(i b0:Nat)(fold:Bool):Option (Except bF (List PT×List V×List Lb)):=
 if ls.length<b0 then none else if i=l.length then aGx ls b0 else l[i]?.bind (vR ids ls l i b0 fold)
noncomputable def aL6(ids:List (Str×Int))(ls:List Lb)(l:List It)(i:Nat)(fold:Bool)(base:Option Nat):Option (Except bF (List PT×List V×List Lb)):=aEr ids ls l i (base.getD ls.length) fold
section
variable{md:Md}{loc:aX}{σ:aA}{X:bF→Prop}
variable{R:RA}{ids:List (Str×Int)}{T B:List V}{as:List (Addr×Addr×Lb)}
inductive aOm(R:RA)(ids:V)(T B:List V)(as:List (Addr×Addr×Lb))(rn dn:Addr)(l:List It)(i b0:Nat)(fold:Bool)(σ0:aA)(loc0 loc:aX)(σ':aA):Prop
 |mk (a:Ag [] loc loc0) (S:RS as B T ids R σ') (A:fP σ' rn dn l i fold (.int b0)) (k:Ko [dn] σ0 σ')
theorem aJe{S:RS as B T (kK ids) R σ}(h:as≠[]):∃p,(fH as).getLast? =some p.2.2∧p∈as∧(as.map fun p=>V.ref p.1).getLast? =some (.ref p.1):=by
 rcases List.eq_nil_or_concat as with rfl|⟨as0,p,hp⟩
 ·exact absurd rfl h
 ·rw[List.concat_eq_append] at hp
  subst hp
  exact⟨p,by unfold fH;simp,by simp,by simp⟩
theorem aNQ(C:Cx G){rn dn:Addr}{l:List It}{i:Nat}{fold:Bool}{base:Option Nat}{res:Except bF (List PT×List V×List Lb)}{Q:V→aA→Prop}(S:RS as B T (kK ids) R σ)(hR:fP σ rn dn l i fold (aDS base))(hk:∀p∈R.ks,p.1≠dn)(hl:as.length≤1000)(hT:T.length<2^18)(hB:B.length≤2^19)(ho:jL l)
  (hr:aL6 ids (fH as) l i fold base=some res)
  (hq:∀pts bs ls',res=.ok (pts,bs,ls')→∀σ' ts as',ts.map Tk.pt=pts→fH as'=ls'→qH [dn] σ σ' R (kK ids) T (B++bs) as' ts→Ko [dn] σ σ'→Q .none σ')
  (hx:∀e,res=.error e→X e):aW Q σ X 14 (.ref 437) [.ref R.r,.ref rn]:=by
 refine aZ (n:=13) (gV (ps:=["self","run"]) C rfl rfl rfl rfl (tA fun Z Z Z=>.of_eq rfl)) (zD T0) (zD T0) rfl fun L hL=>?_
 have S0:=S.upd (m:=.mark) hL
 have R0:=hR.kp (.new (m:=.mark) hL)
 have hdL:dn≠L:=dS hR.ns hL
 have hlen:(fH as).length=as.length:=by unfold fH;simp
 have lenL:∀{τ:aA} {T},RS as B T (kK ids) R τ→oM τ (.ref R.l)=some as.length:=fun S=>by unfold oM;rw[dA S.ll];simp
 unfold aL6 at hr
 generalize hb0:base.getD (fH as).length=b0 at hr
 refine nJ (aOm R (kK ids) T B as rn dn l i b0 fold (upd L .mark σ)) ?_ ?_
 ·refine gQ<|aV<|iB C R0 rfl rfl rfl (by cases base <;> rfl)<|bQ ⟨jB (aDS base),rfl,?_⟩
  induction base with
  |none=>
   subst hb0
   refine bI rfl<|aG<|cX C rfl rfl (aD rfl)<|cY (hY C) rfl (aO _) rfl rfl<|aC (dX C S0 rfl rfl rfl rfl<|aE<|fK (n:=as.length) (lenL S0) (aM ‹_› (aD rfl))<|aB rfl ⟨rfl,R0.ins,R0.ns,?_⟩)
   refine rwR hlen ?_
   exact aH ⟨.refl,S0.setRun R0 hk _,R0.set i (.int _),.put⟩
  |some b=>
   subst hb0
   exact bB rfl<|aH ⟨.refl,S0,R0,fun a m e Z Z=>e⟩
 rintro loc' σ' ⟨A1,S1,R1,K1⟩
 have l1:loc'.lookup ("self":Str)=some (.val (.ref R.r)):=(A1 "self" rfl).trans rfl
 have l2:loc'.lookup ("run":Str)=some (.val (.ref rn)):=(A1 "run" rfl).trans rfl
 unfold aEr at hr
 by_cases hb:(fH as).length<b0
 ·replace hr:=(if_pos hb)▸hr
  exact cZ hr
 replace hr:=(if_neg hb)▸hr
 refine nZ<|iB C R1 l2 rfl rfl rfl<|cY (hY C) rfl (aO _) rfl rfl<|aC (iB C R1 l2 rfl rfl rfl<|aE<|fK (n:=l.length) (by unfold oM;show some (cN l).length=_;rw[bH]) (aM ho.z (aD rfl)) ⟨_,cS _ _,?_⟩)
 by_cases hil:i=l.length
 ·replace hr:=(if_pos hil)▸hr
  unfold aGx at hr
  refine bI (by simp[hil]) ?_
  refine nZ<|cY (hY C) rfl (aO _) rfl rfl<|aC (dX C S1 l1 rfl rfl rfl<|aE<|fK (n:=as.length) (lenL S1) (aM ‹_› (aD rfl))<|iB C R1 l2 rfl rfl rfl ⟨decide ((b0:Int)<(as.length:Int)),rfl,?_⟩)
  by_cases he:(fH as).length=b0
  ·replace hr:=(if_pos he)▸hr
   obtain rfl:=bE hr
   refine bB (decide_eq_false (fun q=>absurd (Int.ofNat_lt.mp q) (Nat.not_lt.mpr (dH (hlen.symm.trans he)))))<|aH<|aG<|vD ?_
   refine hq [] [] _ rfl _ [] as rfl rfl (.nil ?_) (K1.leave hL)
   refine rwL (List.append_nil _) ?_
   exact S1.leaveM (K1 L .mark (aI ..) rfl (by simpa using hdL.symm))
  ·replace hr:=(if_neg he)▸hr
   obtain⟨lb,hlb,rfl⟩:=iJ hr
   obtain⟨p,h1,h2,h3⟩:=aJe (S:=S) (by rintro rfl;simp[fH] at hb he;lia)
   replace hlb:=h1▸hlb
   obtain rfl:=bE hlb
   refine bI (decide_eq_true (Int.ofNat_lt.mpr (Nat.lt_of_le_of_ne (hlen▸Nat.not_lt.mp hb) fun q=>he (hlen.trans q.symm)))) ?_
   refine cW<|aY (n:=7) (cU C) (aS C rfl) rfl (aD rfl) rfl<|aC<|aN (by kernel_rfl)<|aC (aEe C rfl<|bR<|dX C S1 l1 rfl rfl rfl<|oO<|aF ⟨1,rfl,.ref p.1,.lst _ _ _ _ (dA S1.ll) (zD T0) (yT h3),p,_,rfl,S1.lbs p h2,rfl,?_,aE<|jD C (hx _ rfl)⟩)
   obtain⟨x,dx,⟨n,w,tk,els⟩⟩:=p
   cases tk with
   |tok s t v r c=>rfl
   |br l r c=>rfl
 replace hr:=(if_neg hil)▸hr
 obtain⟨x,hx0,hr⟩:=Option.bind_eq_some_iff.mp hr
 refine bB (decide_eq_false (fun q=>hil (Int.ofNat.inj q)))<|aH ?_
 refine cG rfl<|bR<|iB C R1 l2 rfl rfl rfl<|iB C R1 l2 rfl rfl rfl<|sN (aM ho.z (aD rfl)) hx0 ?_
 refine cW<|bM rfl<|dX C S1 l1 rfl rfl rfl ⟨_,_,rfl,S1.tt,aT<|aC<|aN (by kernel_rfl)<|aQ l2 ⟨aD rfl,_,S1.tt,aM (Nat.le_of_lt hT) (by exact aD rfl),?_⟩⟩
 have S2:=S1.setT (T++[.tup [.str "run",.ref rn]])
 have K2:Kp σ' (upd R.t (.lst (T++[.tup [.str "run",.ref rn]])) σ'):=.put S1.tt rfl
 have R2:=R1.kp K2
 have K3:=K1.trans (K2.o [dn])
 generalize upd R.t (.lst (T++[.tup [.str "run",.ref rn]])) σ'=τ at S2 R2 K3 ⊢
 have hxo:=ho.h x (iA hx0)
 have hlm:∀{σ2},Ko [dn] (upd L .mark σ) σ2→σ2 L=some .mark:=fun K=>K L .mark (aI ..) rfl (by simpa using hdL.symm)
 refine qZ<|bT<|mC (x:=x) C rfl rfl rfl<|aB rfl ⟨rfl,_,rfl,?_⟩
 cases x with
 |br bl r c=>
  obtain⟨rf,hf,rfl⟩:=iJ hr
  refine bI rfl<|aG<|cX C (own:=lS) (D:=391) (ks:=lS) (a:=rn) (dx:=dn) (vs:=[.lst (cN l),.int i,.bool fold,.int b0]) rfl rfl (aD rfl)<|aP<|iB C R2 l2 rfl rfl rfl<|aF ⟨_,.add _ _,aB l2 ⟨rfl,R2.ins,R2.ns,?_⟩⟩
  have S3:=S2.setRun R2 hk [.lst (cN l),.int ((i+1:Nat):Int),.bool fold,.int b0]
  have R3:=R2.set (i+1) (.int b0)
  have K4:=K3.trans (Ko.put (m:=.ns lS [.lst (cN l),.int ((i+1:Nat):Int),.bool fold,.int b0]))
  show jC X (upd dn (.ns lS [.lst (cN l),.int ((i+1:Nat):Int),.bool fold,.int b0]) τ) _ _ _ _
  generalize upd dn (.ns lS [.lst (cN l),.int ((i+1:Nat):Int),.bool fold,.int b0]) τ=τ3 at S3 R3 K4 ⊢
  refine cW<|cE C (fa:=472) (n:=13) S3 rfl l1 rfl (by kernel_rfl) (aS C rfl) (aD rfl)<|aQ rfl ?_
  refine aHo C S3 hl (by simp;exact Nat.le_of_lt_succ ‹_›) hB hxo.in.z (fun y hy=>(hxo.in.h y hy).ok) hxo.in.mem hf (fun pts bs ls' he σ4 ts as' hts has N K=>aH<|aH ?_) fun e he=>hx e (by rw[he];rfl)
  exact hq _ bs ls' (by rw[he];rfl) _ _ as' (by rw[eD,hts] <;> rfl) has ((N.snoc R3 K K4).leave hL (hlm (K4.trans (K.o _)))) ((K4.trans (K.o _)).leave hL)
 |tok s t v r c=>
  refine bB rfl<|qZ<|fJ<|bT<|iB C R2 l2 rfl rfl rfl ⟨fold,rfl,?_⟩
  unfold vR at hr
  dsimp only at hr
  have bad:(fold=true∨s≠"word")→X (iC "unexpected token" (.tok s t v r c)):=fun h=>by
   replace hr:=(if_pos h)▸hr
   obtain rfl:=bE hr
   exact hx _ rfl
  induction fold with
  |true=>exact bI rfl<|bI rfl<|cW<|aY (n:=7) (cU C) (aS C rfl) rfl (aD rfl) rfl<|aC<|aN (by kernel_rfl)<|aQ rfl<|jD C (bad (.inl rfl))
  |false=>
   refine bB rfl<|fJ<|aV<|dG C rfl<|aB rfl ⟨s,t,v,r,c,_,cQ,rfl,rfl,aN (by kernel_rfl) ⟨_,iG _ _,?_⟩⟩
   by_cases hs:s="word"
   ·rw[if_neg (by simp[hs])] at hr
    obtain⟨rp,hp,rfl⟩:=iJ hr
    refine bB (ndF ‹_›)<|eO<|bB rfl ?_
    refine aG<|cX C (own:=lS) (D:=391) (ks:=lS) (a:=rn) (dx:=dn) (vs:=[.lst (cN l),.int i,.bool false,.int b0]) rfl rfl (aD rfl)<|cE C (fa:=458) (n:=13) S2 rfl l1 rfl (by kernel_rfl) (aS C rfl) (aD rfl)<|bL l2<|aQ rfl ?_
    refine rwL cQ ?_
    refine aIk C (b0:=b0) S2 R2 hl (hlen▸Nat.not_lt.mp hb) hB ho.z (fun y hy=>(ho.h y hy).ok) ho.mem hp (Nat.le_of_lt (gB hx0).1) (fun j iv ls' he σ3 as' S3 e3 K5=>?_) fun e he=>hx e (by rw[he];rfl)
    have R3:=R2.kp K5
    refine aB l2 ⟨rfl,R3.ins,R3.ns,aH<|aH<|aH ?_⟩
    have K4:=(K3.trans (K5.o [dn])).trans (Ko.put (m:=.ns lS [.lst (cN l),.int (j:Nat),.bool false,.int b0]))
    exact hq _ [iv] ls' (by rw[he];rfl) _ _ as' rfl e3 (((qH.nil (S3.setRun R3 hk [.lst (cN l),.int (j:Nat),.bool false,.int b0])).snoc (R3.set j (.int b0)) (.refl _) K4).leave hL (hlm K4)) (K4.leave hL)
   ·exact bI (ndT ‹_›)<|bI rfl<|cW<|aY (n:=7) (cU C) (aS C rfl) rfl (aD rfl) rfl<|aC<|aN (by kernel_rfl)<|aQ rfl<|jD C (bad (.inr hs))
end
noncomputable def mY(ids:List (Str×Int))(ls:List Lb):PT→Option (Except bF (List PT×List V×List Lb))
 |.run l i f b=>aL6 ids ls l i f b
 |.emit iv=>some (.ok ([],[iv],ls))
 |.close=>if ls.length=0 then none else some (.ok ([],[.tup [.int 11]],ls.dropLast))
 |.opn iv lb=>some (.ok ([],[iv],ls++[lb]))
noncomputable def xN:PT→Prop
 |.run l _ _ _=>jL l
 |_=>True
section
variable{md:Md}{loc:aX}{σ:aA}{X:bF→Prop}
variable{R:RA}{ids:List (Str×Int)}{T B:List V}{as:List (Addr×Addr×Lb)}
theorem aLo(C:Cx G){t:Tk}{res:Except bF (List PT×List V×List Lb)}{Q:V→aA→Prop}(S:RS as B T (kK ids) (R.wk (t.ks++R.ks)) σ)(A:t.At σ)(hk:∀a∈t.own,∀p∈R.ks,p.1≠a)(hl:as.length≤1000)(hT:T.length<2^18)(hB:B.length≤2^19)(ho:xN t.pt)
  (hr:mY ids (fH as) t.pt=some res)
  (hq:∀pts bs ls',res=.ok (pts,bs,ls')→∀σ' ts as',ts.map Tk.pt=pts→fH as'=ls'→qH t.own σ σ' R (kK ids) T (B++bs) as' ts→Ko t.own σ σ'→Q .none σ')
  (hx:∀e,res=.error e→X e):aW Q σ X 15 (.ref 430) [.ref R.r,t.v]:=by
 induction t with
 |run rn dn l i f b=>
  refine aC8 C S fun L hL=>?_
  have S0:=S.upd (m:=.mark) hL
  refine aNQ C (R:=R) S0 (fP.kp A (.new hL)) (hk dn (List.mem_singleton.mpr rfl)) hl hT hB ho hr (fun pts bs ls' he σ' ts as' hts has N K=>?_) hx
  have hm:σ' L=some .mark:=K L .mark (aI ..) rfl (by simpa using(dS (fP.ns A) hL).symm)
  exact hq pts bs ls' he _ ts as' hts has (N.leave hL hm) (K.leave hL)
 |emit iv=>
  obtain rfl:=bE hr
  exact aA3 C S hB fun σ' S' K'=>hq [] [iv] _ rfl σ' [] as rfl rfl (.nil S') (K'.o _)
 |close=>
  have hlen:(fH as).length=as.length:=by unfold fH;simp
  by_cases h0:(fH as).length=0
  ·exact absurd hr (by rw[show mY ids (fH as) Tk.close.pt=none from if_pos h0];nofun)
  rw[show mY ids (fH as) Tk.close.pt=some (.ok ([],[.tup [.int 11]],(fH as).dropLast)) from if_neg h0] at hr
  obtain rfl:=bE hr
  rcases List.eq_nil_or_concat as with rfl|⟨as0,p,hp⟩
  ·exact absurd rfl h0
  rw[List.concat_eq_append] at hp
  subst hp
  rw[hlen,cL] at h0
  rw[cL] at hl
  exact aAC C S hB (aM (eL ..) hl) fun σ' S' K'=>hq [] [.tup [.int 11]] _ rfl σ' [] as0 rfl (by unfold fH;simp) (.nil S') (K'.o _)
 |opn iv x dx lb=>
  obtain rfl:=bE hr
  have hkk:=S.kk (dx,.ns iW (qT lb)) (fW _ (eS ..))
  exact aA7 C (R:=R) (S.subK (ks:=R.ks) fun p hp=>List.mem_append_right _ hp) hB hl A hkk.n (hk dx (List.mem_singleton.mpr rfl)) fun σ' S' K'=>hq [] [iv] _ rfl σ' [] _ rfl (by unfold fH;simp) (.nil S') (K'.o _)
end
structure aMU(n:Nat)(ls:List Lb)(q:List PT×List V×List Lb):Prop where
 n1:q.1.length≤n
 n2:q.2.1.length≤1
 n3:q.2.2.length≤ls.length+1
 ok:∀p∈q.1,xN p
theorem aHW{α β:Type}{f:α→β}{r:Except bF α}{b:β}(h:lZ f r=.ok b):∃a,r=.ok a∧f a=b:=by
 induction r with
 |error e=>exact exE h
 |ok a=>exact⟨a,rfl,Except.ok.inj h⟩
theorem sO{α β:Type}{f:α→β}{o:Option (Except bF α)}{b:β}(h:o.map (lZ f)=some (.ok b)):∃a,o=some (.ok a)∧f a=b:=by
 refine oE h fun r h1 h2=>?_
 obtain⟨a,rfl,h3⟩:=aHW h2
 exact⟨a,h1,h3⟩
theorem jL.its{l:List It}(h:jL l)(i:Nat):jL (oR l i):=by
 unfold oR
 induction hy:l[i]? with
 |none=>exact⟨cM _,gR⟩
 |some y=>
  have hg:=h.h y (iA hy)
  cases y with
  |tok=>exact⟨cM _,gR⟩
  |br=>exact hg.in
theorem jL.cut{l:List It}(h:jL l)(a n:Nat):jL ((l.drop a).take n):=
 ⟨aM (List.length_take_le' ..) (aM (rwL List.length_drop (Nat.sub_le ..)) h.z),fun x hx=>h.h x (List.mem_of_mem_drop (List.mem_of_mem_take hx))⟩
theorem fB{p:PT}{ps:List PT}(h:xN p)(hs:∀x∈ps,xN x):∀x∈p::ps,xN x:=List.forall_mem_cons.mpr ⟨h,hs⟩
theorem aHj{l:List It}{lb:Lb}{J p:Nat}{KS:List Int}{pts:List PT}(hl:jL l)(h:ifT l lb J p KS=.ok pts):pts.length≤6∧∀x∈pts,xN x:=by
 refine kZ h (fun Z=>exE) fun Z h=>?_
 induction hb:l[jV l p]? with
 |some x=>exact exE (hb▸h)
 |none=>
  rw[hb] at h
  refine Except.ok.inj h▸?_
  refine kZ (show pM l p=pM l p from rfl) (fun Z e=>?_) fun Z e=>?_
  ·exact e▸⟨bO _,fB (hl.cut _ _) (fB trivial (fB (hl.its _) (fB trivial (fB (hl.its _) (fB trivial gR)))))⟩
  ·exact e▸⟨aD rfl,fB (hl.cut _ _) (fB trivial (fB (hl.its _) (fB trivial gR)))⟩
theorem aHU{ids:List (Str×Int)}{ls:List Lb}{l:List It}{r c:Int}{q:List PT×List V×List Lb}(hl:jL l)(h:nV ids ls l r c=some (.ok q)):aMU 6 ls q:=by
 refine kZ h (fun Z=>soE) fun Z h=>?_
 induction hx:l[(0:Nat)]? with
 |none=>exact cZ (hx▸h)
 |some x=>
 rw[hx] at h
 cases x with
 |br=>exact cZ h
 |tok _ t v r0 c0=>
 refine kZ h (fun Z h=>?_) fun Z h=>kZ h (fun Z h=>oE h fun a Z h=>?_) fun Z h=>?_
 ·obtain⟨pts,h1,rfl⟩:=sO h
  refine oE h1 fun a Z h2=>?_
  exact⟨(aHj hl h2).1,cM _,Nat.le_succ _,(aHj hl h2).2⟩
 ·exact Except.ok.inj h▸⟨aD rfl,bO _,dH cL,fB hl (fB trivial gR)⟩
 ·obtain⟨pts,_,rfl⟩:=sO h
  exact⟨aD rfl,cM _,Nat.le_succ _,fB hl (fB trivial gR)⟩
theorem aJT{ls:List Lb}{b i:Nat}{l:List It}{s t:Str}{v:V}{r c:Int}{q:Nat×V×List Lb}(h:tH ls b l i s t v r c=.ok q):q.2.2.length≤ls.length+1:=by
 refine kZ h (fun Z=>exE) fun Z h=>?_
 induction hl:ls.getLast? with
 |none=>exact exE (hl▸h)
 |some lb=>
  rw[hl] at h
  refine kZ h (fun Z=>exE) fun Z h=>kZ h (fun Z h=>?_) fun Z h=>kZ h (fun Z=>exE) fun Z h=>?_
  ·exact Except.ok.inj h▸Nat.le_succ_of_le (rwL List.length_dropLast (Nat.sub_le ..))
  ·refine Except.ok.inj h▸?_
   show(ls.dropLast++_).length≤_
   rw[cL,List.length_dropLast]
   exact eP (Nat.sub_le ..) 1
theorem aEz{ids:List (Str×Int)}{ls:List Lb}{b i:Nat}{l:List It}{s t:Str}{v:V}{r c:Int}{q:Nat×V×List Lb}(h:iL ids ls b l i s t v r c=some (.ok q)):q.2.2.length≤ls.length+1:=by
 refine kZ h (fun Z h=>oE h fun p Z h=>?_) fun Z h=>kZ h (fun Z h=>aJT (bE h)) fun Z h=>oE h fun p Z h=>?_
 ·exact Except.ok.inj h▸dH cL
 ·induction p with
  |error=>exact exE h
  |ok p=>exact Except.ok.inj h▸Nat.le_succ _
theorem aFD{ids:List (Str×Int)}{ls:List Lb}{t:PT}{q:List PT×List V×List Lb}(ho:xN t)(h:mY ids ls t=some (.ok q)):aMU 7 ls q:=by
 induction t with
 |emit=>exact Except.ok.inj (bE h)▸⟨cM _,bO _,Nat.le_succ _,gR⟩
 |opn=>exact Except.ok.inj (bE h)▸⟨cM _,bO _,dH cL,gR⟩
 |close=>exact kZ h (fun Z=>cZ) fun Z h=>Except.ok.inj (bE h)▸⟨cM _,bO _,Nat.le_succ_of_le (rwL List.length_dropLast (Nat.sub_le ..)),gR⟩
 |run l i f b=>
  have hl:jL l:=ho
  change aEr ids ls l i (b.getD ls.length) f=_ at h
  refine kZ h (fun Z=>cZ) fun Z h=>kZ h (fun Z h=>?_) fun Z h=>dQ h fun x hx h=>?_
  ·exact kZ h (fun Z h=>Except.ok.inj (bE h)▸⟨cM _,cM _,Nat.le_succ _,gR⟩) fun Z h=>oE h fun Z Z=>exE
  ·have hg:=hl.h x (iA hx)
   cases x with
   |br bl r c=>
    obtain⟨q',h1,rfl⟩:=sO h
    have S:=aHU hg.in h1
    exact⟨aM (dH cL) (fM S.n1),S.n2,S.n3,fun p hp=>(gK hp).elim (S.ok p) fun z=>eR z▸hl⟩
   |tok s t v r c=>
    refine kZ h (fun Z=>soE) fun Z h=>?_
    obtain⟨q',h1,rfl⟩:=sO h
    exact⟨aD rfl,bO _,aEz h1,fB hl gR⟩
noncomputable def nT(ids:List (Str×Int)):Nat→List PT→List V→List Lb→Option (Except bF (List V))
 |0,_,_,_=>none
 |_+1,[],B,_=>some (.ok B)
 |k+1,t::ts,B,ls=>(mY ids ls t).bind fun r=>match r with
  |.error e=>some (.error e)
  |.ok q=>nT ids k (q.1++ts) (B++q.2.1) q.2.2
theorem aAa{ids:List (Str×Int)}{k:Nat}{t:PT}{ts:List PT}{B:List V}{ls:List Lb}:nT ids (k+1) (t::ts) B ls=(mY ids ls t).bind fun r=>match r with
  |.error e=>some (.error e)
  |.ok q=>nT ids k (q.1++ts) (B++q.2.1) q.2.2:=rfl
structure MT(σ:aA)(R:RA)(ts:List Tk):Prop where
 at_:∀t∈ts,t.At σ
 nd:(ts.flatMap Tk.own).Nodup
 out:∀a∈ts.flatMap Tk.own,∀p∈R.ks,p.1≠a
 ok:∀t∈ts,xN t.pt
structure MS(σ:aA)(R:RA)(ids:V)(ts:List Tk)(B:List V)(as:List (Addr×Addr×Lb)):Prop where
 S:RS as B (ts.map Tk.v).reverse ids (R.wk (ts.flatMap Tk.ks++R.ks)) σ
 M:MT σ R ts
theorem aKD{σ:aA}{t:Tk}{a:Addr}{p:Addr×dJ}(h:t.At σ)(hp:p∈t.ks)(e:p.1=a):(a∈t.own∨∃d,σ a=some (.ins 370 d))∧σ p.1=some p.2:=by
 subst e
 induction t with
 |opn iv x dx lb=>
  rcases eM hp with rfl|hp
  ·exact⟨.inr ⟨dx,h.1⟩,h.1⟩
  ·cases eR hp
   exact⟨.inl (List.mem_singleton.mpr rfl),h.2⟩
 |run=>cases hp
 |emit=>cases hp
 |close=>cases hp
theorem aHd{σ:aA}{t:Tk}{a:Addr}(h:t.At σ)(ha:a∈t.own):∃ks vs,σ a=some (.ns ks vs):=by
 induction t with
 |run=>cases eR ha;exact⟨_,_,h.2⟩
 |opn=>cases eR ha;exact⟨_,_,h.2⟩
 |emit=>cases ha
 |close=>cases ha
theorem MT.step{σ σ':aA}{R:RA}{ids:V}{t:Tk}{ts new:List Tk}{B':List V}{as':List (Addr×Addr×Lb)}(M:MT σ R (t::ts))
  (N:qH t.own σ σ' (R.wk (ts.flatMap Tk.ks++R.ks)) ids (ts.map Tk.v).reverse B' as' new) (K:Ko t.own σ σ') (ok:∀u∈new,xN u.pt):MS σ' R ids (new++ts) B' as':=by
 have nd:=M.nd
 rw[List.flatMap_cons,List.nodup_append] at nd
 have live:∀u∈ts,u.At σ:=fun u hu=>M.at_ u (fW _ hu)
 have e1:(new++ts).flatMap Tk.ks=new.flatMap Tk.ks++ts.flatMap Tk.ks:=List.flatMap_append
 refine⟨?_,fun u hu=>?_,?_,?_,fun u hu=>(gK hu).elim (ok u) fun h=>M.ok u (fW _ h)⟩
 ·refine rwL e1 ?_
  refine rwL eD ?_
  refine rwL List.reverse_append ?_
  refine rwL (eJ _ _ _) ?_
  exact N.S
 ·rcases gK hu with h|h
  ·exact N.at_ u h
  ·have hA:=live u h
   have hin:∀p∈u.ks,σ' p.1=some p.2:=fun p hp=>(N.S.kk p (List.mem_append_right _ (List.mem_append_left _ (List.mem_flatMap.mpr ⟨u,h,hp⟩)))).e
   induction u with
   |run rn dn l i f b=>
    have n:dn∉t.own:=fun q=>nd.2.2 dn q dn (List.mem_flatMap.mpr ⟨_,h,List.mem_singleton.mpr rfl⟩) rfl
    have n2:rn∉t.own:=fun q=>by
     obtain⟨_,_,e⟩:=aHd (M.at_ t (eS ..)) q
     cases e.symm.trans (fP.ins hA)
    exact⟨K rn _ (fP.ins hA) rfl n2,K dn _ (fP.ns hA) (by show(!decide (lS=iW))=true;exact rfl) n⟩
   |opn iv x dx lb=>exact⟨hin _ (eS ..),hin _ (fW _ (eS ..))⟩
   |emit=>trivial
   |close=>trivial
 ·rw[List.flatMap_append,List.nodup_append]
  refine⟨N.nd,nd.2.1,fun a ha b hb q=>?_⟩
  subst q
  rcases N.new a ha with h|h
  ·obtain⟨u,hu,hua⟩:=List.mem_flatMap.mp hb
   have hA:=live u hu
   induction u with
   |run rn dn l i f b=>
    cases eR hua
    have:=h.1 _ (fP.ns hA)
    exact absurd this (by show(!decide (lS=iW))≠false;exact zD T0)
   |opn iv x dx lb=>
    cases eR hua
    exact h.2 (_,.ns iW (qT lb)) (List.mem_append_left _ (List.mem_flatMap.mpr ⟨_,hu,fW _ (eS ..)⟩)) rfl
   |emit=>cases hua
   |close=>cases hua
  ·exact nd.2.2 a h a hb rfl
 ·intro a ha p hp
  replace ha:=List.flatMap_append▸ha
  rcases gK ha with h|h
  ·rcases N.new a h with h|h
   ·exact h.2 p (List.mem_append_right _ hp)
   ·exact M.out a (rwL List.flatMap_cons (List.mem_append_left _ h)) p hp
  ·exact M.out a (rwL List.flatMap_cons (List.mem_append_right _ h)) p hp
section
variable{md:Md}{loc:aX}{σ:aA}{X:bF→Prop}
variable{R:RA}{ids:List (Str×Int)}{T B:List V}{as:List (Addr×Addr×Lb)}
theorem MT.far{t:Tk}{ts:List Tk}(M:MT σ R (t::ts)):∀a∈t.own,∀p∈ts.flatMap Tk.ks++R.ks,p.1≠a:=fun a ha p hp e=>by
 have nd:=M.nd
 rw[List.flatMap_cons,List.nodup_append] at nd
 rcases gK hp with h|h
 ·obtain⟨u,hu,hpu⟩:=List.mem_flatMap.mp h
  rcases(aKD (M.at_ u (fW _ hu)) hpu e).1 with q|⟨d,q⟩
  ·exact nd.2.2 a ha a (List.mem_flatMap.mpr ⟨u,hu,q⟩) rfl
  ·obtain⟨_,_,q2⟩:=aHd (M.at_ t (eS ..)) ha
   cases q.symm.trans q2
 ·exact M.out a (rwL List.flatMap_cons (List.mem_append_left _ ha)) p h e
inductive RdK(R:RA)(ids:V)(res:Except bF (List V))(loc0 loc':aX)(σ':aA):Prop
 |mk (a:Ag [] loc' loc0) (B:List V) (as:List (Addr×Addr×Lb)) (S:RS as B [] ids R σ') (h:res=.ok B) (hz:B.length≤1000)
inductive RdJ(R:RA)(ids:List (Str×Int))(res:Except bF (List V))(loc0:aX)(us:List Unit)(loc':aX)(σ':aA):Prop
 |mk (a:Ag [] loc' loc0) (ts:List Tk) (B:List V) (as:List (Addr×Addr×Lb)) (M:MS σ' R (kK ids) ts B as) (h:nT ids us.length (ts.map Tk.pt) B (fH as)=some res)
  (z1:B.length+us.length≤1000) (z2:as.length+us.length≤1000) (z3:ts.length+7*us.length≤7001)
theorem sm7{a b c:Nat}(h:a≤7)(z:b+1+7*(c+1)≤7001):a+b+7*c≤7001:=by lia
theorem aMf(C:Cx G){l:List It}{res:Except bF (List V)}{k:Nat}{Q:V→aA→Prop}(S:RS [] [] [] (kK ids) R σ)(hk:k≤1000)(ho:jL l)(hr:nT ids k [.run l 0 false none] [] []=some res)
  (hq:∀B',res=.ok B'→∀σ',σ' R.b=some (.lst (B'++[.tup [.int 11]]))→(∀p∈R.ks,σ' p.1=some p.2)→Q (.ref R.b) σ') (hx:∀e,res=.error e→X e):aW Q σ X 16 (.ref 423) [.ref R.r,.lst (cN l)]:=by
 refine aZ (n:=15) (gV (ps:=["self","items"]) C rfl rfl rfl rfl (tA fun Z Z Z=>.of_eq rfl)) (zD T0) (zD T0) rfl fun L hL=>?_
 have S0:=S.upd (m:=.mark) hL
 refine cW<|bM rfl<|dX C S0 rfl rfl rfl rfl ⟨_,_,rfl,S0.tt,aY (n:=3) (lM C) (aS C rfl) rfl (aD rfl) rfl<|bL rfl<|aC<|aF<|aC<|dZ<|aE<|oW (i:=0) C fun σ1 rn dn hrn hdn g A=>⟨_,(S0.gr g).tt,cM _,?_⟩⟩
 have M1:MS (upd R.t (.lst ([]++[.tup [.str "run",.ref rn]])) σ1) R (kK ids) [.run rn dn l 0 false none] [] []:=by
  refine⟨(S0.gr g).setT _,List.forall_mem_cons.mpr ⟨⟨eW A.ins (S0.gr g).tt (by nofun),eW A.ns (S0.gr g).tt (by nofun)⟩,gR⟩,List.nodup_cons.mpr ⟨List.not_mem_nil,.nil⟩,fun a ha p hp e=>?_,List.forall_mem_cons.mpr ⟨ho,gR⟩⟩
  cases eR ha
  exact S0.ks_new hdn p hp e
 generalize upd R.t (.lst ([]++[.tup [.str "run",.ref rn]])) σ1=τ at M1 ⊢
 refine aG<|lB _ (aBy (RdJ R ids res) (RdK R (kK ids) res) ?_ ?_ (List.replicate k ()) ⟨.refl,_,_,_,M1,rwL List.length_replicate hr,by rw[List.length_replicate];simpa using hk,by rw[List.length_replicate];simpa using hk,by rw[List.length_replicate];simp;exact fV (hZ 7 hk) 1⟩)
 ·rintro loc' σ' ⟨A1,B,as,S',hB,hlen⟩
  have l1:=(A1 "self" rfl).trans rfl
  have hRL:R.b≠L:=dS S.bb hL
  refine cW<|bM rfl<|dX C S' l1 rfl rfl rfl ⟨_,_,rfl,S'.bb,aT<|aC<|bA (aJY C) rfl<|aE ⟨aD rfl,_,S'.bb,aM hlen (aD rfl),?_⟩⟩
  refine bZ<|dX C (S'.setB _) l1 rfl rfl rfl (hq B hB _ ((dP _ hRL).trans (aI ..)) fun p hp=>?_)
  exact(dP _ (dS (S.kk p hp).e hL)).trans ((S'.setB _).kk p hp).e
 ·rintro us loc' σ' ⟨A1,ts,B,as,M,h,z1,z2,z3⟩
  have l1:=(A1 "self" rfl).trans rfl
  refine aEK<|dX C M.S l1 rfl rfl rfl<|bJ<|aE ⟨aD rfl,.inl ⟨_,dA M.S.tt,rfl,?_⟩⟩
  cases us with
  |nil=>exact cZ h
  |cons u us=>
   cases ts with
   |nil=>obtain rfl:=bE h;exact bB rfl ⟨A1,B,as,M.S,rfl,aM (eL ..) z1⟩
   |cons t ts=>
    rw[eX] at z1 z2 z3
    rw[eX] at z3
    have e1:((t::ts).map Tk.v).reverse=(ts.map Tk.v).reverse++[t.v]:=by exact rwL List.map_cons (rwL List.reverse_cons rfl)
    have hTl:(ts.map Tk.v).reverse.length=ts.length:=by exact rwL List.length_reverse (rwL (bS _) rfl)
    have S3:=M.S.setT (ts.map Tk.v).reverse
    have M3:MT (upd R.t (.lst (ts.map Tk.v).reverse) σ') R (t::ts):=⟨fun u hu=>(M.M.at_ u hu).put M.S.tt,M.M.nd,M.M.out,M.M.ok⟩
    have e2:(t::ts).flatMap Tk.ks++R.ks=t.ks++(ts.flatMap Tk.ks++R.ks):=by exact rwL List.flatMap_cons (rwL (eJ _ _ _) rfl)
    rw[e2] at S3
    rw[List.map_cons,eX,aAa] at h
    refine dQ h fun r h1 h2=>?_
    refine bI (by rw[e1];simp) ⟨u,us,rfl,?_⟩
    refine cW<|cE C (fa:=430) (n:=15) M.S rfl l1 rfl (by kernel_rfl) (aS C rfl) (aD rfl)<|aC (aDy rfl<|dX C M.S l1 rfl rfl rfl ⟨R.t,(ts.map Tk.v).reverse,t.v,rfl,M.S.tt.trans (rwL e1 rfl),rwL hTl (aM (Nat.le_of_succ_le (aM (eL _ _) z3)) (aD rfl)),aE ?_⟩)
    refine aLo C (R:=R.wk (ts.flatMap Tk.ks++R.ks)) S3 (M3.at_ t (eS ..)) M3.far (aM (eL _ _) z2) (rwL hTl (aM (aM (eL _ _) z3) (aD rfl))) (aM (eL _ _) (aM z1 (aD rfl))) (M3.ok t (eS ..)) h1 (fun pts bs ls' he σ4 new as' hts has N K=>aH ?_) fun e he=>hx e (by rw[he] at h2;exact(bE h2).symm)
    rw[he] at h1 h2
    have Z:=aFD (M3.ok t (eS ..)) h1
    subst hts
    have hok:∀u∈new,xN u.pt:=fun u hu=>Z.ok _ (List.mem_map.mpr ⟨u,hu,rfl⟩)
    have n1:=Z.n1
    have n2:=Z.n2
    have n3:=Z.n3
    subst has
    dsimp only at n1 n2 n3
    rw[bS] at n1
    have e3:∀a:List (Addr×Addr×Lb),(fH a).length=a.length:=fun a=>by unfold fH;simp
    rw[e3,e3] at n3
    have Y:=M3.step N K hok
    exact⟨A1,new++ts,_,as',Y,rwL eD h2,rwL cL (aM (eP (fV n2 _) _) (aM (dH (Nat.add_right_comm _ 1 _)) z1)),aM (eP n3 _) (aM (dH (Nat.add_right_comm _ 1 _)) z2),rwL cL (sm7 n1 z3)⟩
end
noncomputable def Kd(dx:Addr)(σ σ':aA):Prop:=∀a m,σ a=some m→a≠dx→σ' a=some m
section
variable{md:Md}{loc:aX}{σ:aA}{X:bF→Prop}
theorem Kd.new{dx a:Addr}{m:dJ}(h:σ a=none):Kd dx σ (upd a m σ):=fun Z Z e Z=>bV e h
theorem Kd.put{dx:Addr}{m:dJ}:Kd dx σ (upd dx m σ):=fun Z Z e n=>(aR _ _ n).trans e
theorem Kd.trans{dx:Addr}{σ1 σ2:aA}(x:Kd dx σ σ1)(y:Kd dx σ1 σ2):Kd dx σ σ2:=fun a m e n=>y a m (x a m e n) n
theorem aAR(C:Cx G){name:Str}{p1 p2 p3 pos:Pos}{Q:gA→aX→aA→Prop}{a dx:Addr}{ks:List Str}{vs:List V}(hn:aBV.contains name=true)(hz:ks.length≤900)(hl:loc.lookup ("self":Str)=some (.val (.ref a)))(ha:σ a=some (.ins 564 dx))(hd:σ dx=some (.ns ks vs))
  (h:∀τ b,Kd dx σ τ→τ b=some (.lst [])→σ b=none→τ dx=some (.ns (lV ks name) (lP ks vs name (.ref b)))→Q .next loc τ):
  sY md (.Assign [.Attribute (.Name "self" p1) name p2] (.List [] p3) pos) loc σ Q X:=by
 refine cX C (D:=564) (own:=aBV) rfl hn hz (bJ (aE ⟨aD rfl,.inr fun b hb=>aB hl ⟨rfl,bV ha hb,bV hd hb,?_⟩⟩))
 exact h _ b ((Kd.new hb).trans .put) ((aR _ _ (dS hd hb).symm).trans (aI ..)) hb (aI ..)
theorem xS(C:Cx G){x dx:Addr}{ids:V}{ks:List (Addr×dJ)}{Q:V→aA→Prop}(hx:σ x=some (.ins 564 dx))(hd:σ dx=some (.ns [] []))(hk:∀p∈ks,σ p.1=some p.2∧p.2≠.mark∧p.1≠dx)
  (hq:∀b l t σ',RS [] [] [] ids ⟨x,dx,t,b,l,ks⟩ σ'→σ b=none→Q .none σ'):kM 1 (.ref 416) [.ref x,.none,ids] σ Q X:=by
 refine kE (n:=0) (gV (ps:=["self","spaces","local_ids"]) C rfl rfl rfl rfl (bt3 fun Z Z Z Z=>.of_eq rfl)) (zD T0) (zD T0) rfl fun L hL=>?_
 have hdL:=dS hd hL
 have hxd:x≠dx:=by rintro rfl;rw[hx] at hd;cases hd
 have x0:upd L .mark σ x=some (.ins 564 dx):=bV hx hL
 have d0:upd L .mark σ dx=some (.ns [] []):=bV hd hL
 refine aG (cX C (vs:=[]) rfl rfl (aD rfl) (aB rfl (aB rfl ⟨rfl,x0,d0,?_⟩)))
 refine aG (cX C rfl rfl (aD rfl) (aB rfl (aB rfl ⟨rfl,(aR _ _ hxd).trans x0,aI ..,?_⟩)))
 refine rwL bK ?_
 have k2:Kd dx (upd L .mark σ) (upd dx (.ns ["spaces","local_ids"] [.none,ids]) (upd L .mark σ)):=.put
 have d2:upd dx (.ns ["spaces","local_ids"] [.none,ids]) (upd L .mark σ) dx=some (.ns ["spaces","local_ids"] [.none,ids]):=aI ..
 show jC X (upd dx (.ns ["spaces","local_ids"] [.none,ids]) (upd L .mark σ)) _ _ _ _
 generalize upd dx (.ns ["spaces","local_ids"] [.none,ids]) (upd L .mark σ)=τ2 at k2 d2 ⊢
 refine aG (aAR C rfl (aD rfl) rfl (k2 x _ x0 hxd) d2 fun τ3 b k3 b3 hb d3=>?_)
 have K3:=k2.trans k3
 refine aG (aAR C rfl (aD rfl) rfl (K3 x _ x0 hxd) d3 fun τ4 l k4 l4 hl d4=>?_)
 have K4:=K3.trans k4
 have b4:=k4 b _ b3 (fun q=>by rw[q,d3] at b3;cases b3)
 refine aG (aAR C rfl (aD rfl) rfl (K4 x _ x0 hxd) d4 fun τ5 t k5 t5 ht d5=>aH ?_)
 have K5:=K4.trans k5
 have l5:=k5 l _ l4 (fun q=>by rw[q,d4] at l4;cases l4)
 have b5:=k5 b _ b4 (fun q=>by rw[q,d4] at b4;cases b4)
 have hm:τ5 L=some .mark:=K5 L _ (aI ..) hdL.symm
 have none2:∀{a},τ2 a=none→σ a=none:=fun{a} h=>by
  induction e:σ a with
  |none=>rfl
  |some m=>
   by_cases q:a=dx
   ·replace h:=q▸h
    replace h:=d2▸h
    exact cZ (Eq.symm h)
   ·replace h:=(k2 a m (bV e hL) q)▸h
    exact cZ (Eq.symm h)
 refine hq b l t _ (RS.leaveM hm ⟨K5 x _ x0 hxd,d5,t5,b5,l5,⟨(dS b3 hl),(dS b4 ht),dS l4 ht⟩,gR,.nil,fun p hp=>?_⟩) (none2 hb)
 obtain⟨q1,q2,q3⟩:=hk p hp
 have e0:=bV (mo:=.mark) q1 hL
 exact⟨K5 p.1 _ e0 q3,q2,dS (K4 p.1 _ e0 q3) ht,dS (k2 p.1 _ e0 q3) hb,dS (K3 p.1 _ e0 q3) hl,List.not_mem_nil⟩
theorem aHG(C:Cx G){l:List It}{res:Except bF (List V)}{k:Nat}{ids:List (Str×Int)}{ks:List (Addr×dJ)}{Q:V→aA→Prop}(hz:k≤1000)(ho:jL l)(hr:nT ids k [.run l 0 false none] [] []=some res)(hk:∀p∈ks,σ p.1=some p.2∧p.2≠.mark)
  (hq:∀B',res=.ok B'→∀σ' b,σ' b=some (.lst (B'++[.tup [.int 11]]))→(∀p∈ks,σ' p.1=some p.2)→Q (.ref b) σ') (hx:∀e,res=.error e→X e):aW Q σ X 17 (.ref 575) [.none,kK ids,.lst (cN l)]:=by
 refine aZ (n:=16) (gV (ps:=["spaces","local_ids","items"]) C rfl rfl rfl rfl (bt3 fun Z Z Z Z=>.of_eq rfl)) (zD T0) (zD T0) rfl fun L hL=>?_
 refine bZ<|cI rfl<|aY (n:=2) (aAu C) (lJ (aBe C)) rfl (aD rfl) rfl<|bL rfl<|aQ rfl ?_
 refine(mT (n:=1) (aBe C) fun x dx hx0 hdx hne=>xS C (ks:=ks) (aI ..) ((aR _ _ hne.symm).trans (aI ..)) (fun p hp=>?_) fun b l' t σ' S hb=>⟨rfl,?_⟩).w
 ·have e:=bV (mo:=.mark) (hk p hp).1 hL
  exact⟨bV (bV e hdx) (rwL (aR _ _ hne) hx0),(hk p hp).2,dS e hdx⟩
 refine⟨_,_,16,.own 564 _ _ 423 S.look rfl ⟨_,C.k,by kernel_rfl⟩,aS C rfl,aD rfl,aQ rfl ?_⟩
 refine aMf C S hz ho hr (fun B' hB σ2 hb2 hk2=>?_) hx
 have hbL:b≠L:=fun q=>by
  have:upd x (.ins 564 dx) (upd dx (.ns [] []) (upd L .mark σ)) L=some .mark:=bV (bV (aI ..) hdx) (rwL (aR _ _ hne) hx0)
  replace hb:=q▸hb
  replace hb:=this▸hb
  exact cZ (Eq.symm hb)
 exact hq B' hB _ _ ((dP _ hbL).trans hb2) fun p hp=>(dP _ (dS (hk p hp).1 hL)).trans (hk2 p hp)
end
noncomputable def iP(n:Int):Str:=Str.ofString (toString n)
theorem aIh(m:Nat):(iP (m:Int)).cps.toList=(Nat.toDigits 10 m).map Char.toNat:=PySem.W.KIN.signs_num m
theorem aIQ(m:Nat):(iP (-((m+1:Nat):Int))).cps.toList=45::(Nat.toDigits 10 (m+1)).map Char.toNat:=by
 show(Str.ofString (toString (Int.negSucc m))).cps.toList=_
 refine rwL (signs_ofString _) ?_
 show("-"++Nat.repr (m+1)).toList.map Char.toNat=_
 refine rwL String.toList_append ?_
 refine rwL Nat.toList_repr ?_
 rfl
theorem oJ(m:Nat):NumText.AllDigits ((Nat.toDigits 10 m).map Char.toNat):=by
 intro c hc
 obtain⟨ch,hch,e⟩:=List.mem_map.mp hc
 have r:=digit_range (Nat.isDigit_of_mem_toDigits (aD rfl) (aD rfl) hch)
 refine rwR e ?_
 exact r
theorem aAd(m:Nat):(Nat.toDigits 10 m).map Char.toNat≠[]:=fun e=>by
 have h:=toDigits_len_ge 10 m
 rw[List.map_eq_nil_iff.mp e] at h
 exact absurd h (zD T0)
theorem aB3{m:Nat}(h:m<10^20):((Nat.toDigits 10 m).map Char.toNat).length≤20:=by
 refine rwL (bS _) ?_
 exact toDigits_len_pow (aD rfl) (aD rfl) h
structure aKy(n:Int)(t:Str):Prop where
 len:t.length≤21
 fit:xW t
 read:PySem.intText? t=some n
 hd:∃c,t.cps.toList[(0:Nat)]? =some c∧(c=45∧n<0∨48≤c∧c≤57∧0≤n)
theorem zY{t:Str}(hz:t.length≤1000)(h:∀c∈t.cps.toList,c<128):xW t:=by
 refine⟨?_,aM hz (aD rfl)⟩
 unfold PyData.strOk
 rw[←Array.all_toList,List.all_eq_true]
 intro c hc
 have:=h c hc
 simp
 exact Nat.lt_of_lt_of_le ‹_› (aD rfl)
theorem mP{n:Int}(h:n.natAbs<10^20):aKy n (iP n):=by
 have len_of:∀{t:Str} {cs:List Nat},t.cps.toList=cs→t.length=cs.length:=fun e=>by exact rwR e Array.length_toList.symm
 rcases Int.lt_or_le n 0 with h0|h0
 ·obtain⟨m,rfl⟩:=Int.eq_negSucc_of_lt_zero h0
  have e:=aIQ m
  have hl:=aB3 (m:=m+1) (by simpa using h)
  have hz:(iP (-((m+1:Nat):Int))).length≤21:=by exact rwL (len_of e) (rwL eX (fM hl))
  refine⟨hz,zY (aM hz (aD rfl)) fun c hc=>?_,?_,45,?_,.inl ⟨rfl,h0⟩⟩
  ·change c∈(iP (-((m+1:Nat):Int))).cps.toList at hc
   rw[e] at hc
   rcases eM hc with rfl|hc
   ·exact aD rfl
   ·have:=oJ _ c hc;exact Nat.lt_of_le_of_lt this.2 (aD rfl)
  ·exact(intText_neg e (oJ _) (aAd _) (aM hz (aD rfl))).trans (by rw[PySem.W.KIN.val_back];rfl)
  ·exact congrArg (·[(0:Nat)]?) e
 ·obtain⟨m,rfl⟩:=Int.eq_ofNat_of_zero_le h0
  have e:=aIh m
  have hl:=aB3 (m:=m) (by simpa using h)
  have hz:(iP (m:Int)).length≤20:=by exact rwL (len_of e) hl
  refine⟨Nat.le_succ_of_le hz,zY (aM hz (aD rfl)) fun c hc=>?_,?_,?_⟩
  ·rw[e] at hc
   have:=oJ _ c hc;exact Nat.lt_of_le_of_lt this.2 (aD rfl)
  ·have:=intText_digits (x:=iP (m:Int)) (rwL e (oJ _)) (rwL e (aAd _)) (aM hz (aD rfl))
   rw[e,PySem.W.KIN.val_back] at this;exact this
  ·induction hd:(Nat.toDigits 10 m).map Char.toNat with
   |nil=>exact absurd hd (aAd m)
   |cons c cs=>
    have:=oJ m c (rwL hd (eS ..))
    exact⟨c,by rw[e,hd];rfl,.inr ⟨this.1,this.2,h0⟩⟩
inductive Tx where
 |s (t:Str)
 |l (ts:List Tx)
mutual
noncomputable def txV:Tx→V
 |.s t=>.str t
 |.l ts=>.lst (fU ts)
noncomputable def fU:List Tx→List V
 |[]=>[]
 |x::xs=>txV x::fU xs
end
theorem gG:∀l:List Tx,fU l=l.map txV
 |[]=>rfl
 |x::xs=>by rw[fU,gG xs];rfl
noncomputable def eC(t:Str):Str:=match t.cps.toList[(0:Nat)]? with
 |some c=>if kJ "-0123456789" ⟨#[c]⟩=true then "int" else if(⟨#[c]⟩:Str)="$" then "id" else "word"
 |none=>""
noncomputable def aCR(t:Str):Int:=(PySem.intText? t).getD 0
noncomputable def aEI(t:Str):V:=if eC t="int" then .int (aCR t) else .str t
noncomputable def gS(t:Str)(n:Int):It:=.tok (eC t) t (aEI t) 1 n
structure aDw(t:Str):Prop where
 len:t.length≤500
 fit:xW t
 hd:∃c,t.cps.toList[(0:Nat)]? =some c
 int:eC t="int"→PySem.intText? t=some (aCR t)
mutual
noncomputable def mkI:Tx→Int→It
 |.s t,n=>gS t (n+1)
 |.l ts,n=>.br (bN ts (n+1)) 1 (n+1)
noncomputable def bN:List Tx→Int→List It
 |[],_=>[]
 |x::xs,n=>mkI x n::bN xs (n+aAO x)
noncomputable def aAO:Tx→Int
 |.s _=>1
 |.l ts=>1+cH ts
noncomputable def cH:List Tx→Int
 |[]=>0
 |x::xs=>aAO x+cH xs
end
inductive xP:Nat→Tx→Prop
 |s {d:Nat} {t:Str} (h:aDw t):xP d (.s t)
 |l {d:Nat} {ts:List Tx} (z:ts.length≤1000) (h:∀x∈ts,xP d x):xP (d+1) (.l ts)
section
variable{md:Md}{loc:aX}{σ:aA}{X:bF→Prop}
theorem xR(C:Cx G){x dx:Addr}{a b c:V}{Q:V→aA→Prop}(hx:σ x=some (.ins 223 dx))(hd:σ dx=some (.ns [] []))(hq:Q .none (upd dx (.ns ["items","row","column"] [a,b,c]) σ)):
  kM 1 (.ref 213) [.ref x,a,b,c] σ Q X:=by
 refine kE (n:=0) (gV (ps:=["self","items","row","column"]) C rfl rfl rfl rfl (bt4 fun Z Z Z Z Z=>.of_eq rfl)) (zD T0) (zD T0) rfl fun L hL=>?_
 have hdL:=dS hd hL
 have hxd:x≠dx:=by rintro rfl;rw[hx] at hd;cases hd
 have h0:upd L .mark σ x=some (.ins 223 dx):=bV hx hL
 have up:∀{τ:aA} {m},τ x=some (.ins 223 dx)→upd dx m τ x=some (.ins 223 dx):=fun h=>by exact rwL (aR _ _ hxd) h
 refine aG (cX C (vs:=[]) rfl rfl (aD rfl) (aB rfl (aB rfl ⟨rfl,h0,bV hd hL,?_⟩)))
 refine aG (cX C rfl rfl (aD rfl) (aB rfl (aB rfl ⟨rfl,up h0,aI ..,?_⟩)))
 refine aG (cX C rfl rfl (aD rfl) (aB rfl (aB rfl ⟨rfl,up (up h0),aI ..,?_⟩)))
 refine aH ?_
 show Q .none (eZ L (upd dx (.ns ["items","row","column"] [a,b,c]) (upd dx _ (upd dx _ (upd L .mark σ)))))
 refine rwL bK ?_
 refine rwL bK ?_
 refine rwL (cF hdL) ?_
 refine rwL (aU hL) ?_
 exact hq
theorem aHn(C:Cx G){l:List It}{r c:Int}{Q:V→aA→Prop}(hq:Q (oF (.br l r c)) σ):aW Q σ X 2 (.ref 223) [.lst (cN l),.int r,.int c]:=by
 refine jQ (mT (n:=1) (aBv C) fun x dx hx hdx hne=>xR C (aI ..) ((aR _ _ hne.symm).trans (aI ..)) ⟨rfl,_,_,.obj x 223 dx _ _ ((aR _ _ hne).trans (aI ..)) (aI ..),?_⟩).w
 refine rwL (wH hne) ?_
 refine rwL (aU (by exact rwL (aR _ _ hne) hx)) ?_
 refine rwL (aU hdx) ?_
 refine rwR qU ?_
 exact hq
theorem aJb(C:Cx G){t:Str}{c:Addr}{n:Int}{Q:V→aA→Prop}(ht:aDw t)(hc:σ c=some (.lst [.int n]))(hq:Q (oF (gS t (n+1))) (upd c (.lst [.int (n+1)]) σ)):aW Q σ X 3 (.ref 589) [.str t,.ref c]:=by
 obtain⟨ch,hch⟩:=ht.hd
 refine aZ (n:=2) (gV (ps:=["text","count"]) C rfl rfl rfl rfl (tA fun Z Z Z=>.of_eq rfl)) (zD T0) (zD T0) rfl fun L hL=>?_
 have hcL:=dS hc hL
 have fin:Q (iR (eC t) t (aEI t) 1 (n+1)) (eZ L (upd c (.lst [.int (n+1)]) (upd L .mark σ))):=by exact rwL (cF hcL) (rwL (aU hL) hq)
 refine aG<|sZ<|aB rfl<|aF ⟨c,[.int n],0,n,rfl,bV hc hL,rfl,Int.le_refl _,(by show(0:Int)<1;exact zD T0),aD rfl,rfl,aF ⟨1,n+1,rfl,.add _ _,rfl,?_⟩⟩
 show jC X (upd c (.lst [.int (n+1)]) (upd L .mark σ)) _ _ _ _
 have hcc:upd c (.lst [.int (n+1)]) (upd L .mark σ) c=some (.lst [.int (n+1)]):=aI ..
 generalize upd c (.lst [.int (n+1)]) (upd L .mark σ)=τ at fin hcc ⊢
 have i0:xU τ (.ref c) (.int 0) (.int (n+1)):=.lst _ _ 0 _ (dA hcc) (zD T0) rfl
 have fin':∀s,eC t=s→Q (iR s t (if s="int" then .int (aCR t) else .str t) 1 (n+1)) (eZ L τ):=fun s e=>by exact rwR e fin
 have e0:eC t=if kJ "-0123456789" ⟨#[ch]⟩=true then("int":Str) else if(⟨#[ch]⟩:Str)="$" then("id":Str) else("word":Str):=by unfold eC;rw[hch] <;> rfl
 refine nZ<|sM<|aB rfl ⟨t,ch,rfl,hch,aN (by kernel_rfl) ⟨kJ "-0123456789" ⟨#[ch]⟩,rfl,dN (fun h1=>?_) fun h1=>aH ?_⟩⟩
 ·rw[if_pos h1] at e0
  have fin:=fin' _ e0
  rw[if_pos rfl] at fin
  refine bZ<|aY (n:=2) (pU C) (lJ (aAt C)) rfl (aD rfl) rfl<|aC<|aN (by kernel_rfl)<|bL rfl<|aC (cY (aM6 C) rfl (eI _) rfl rfl<|aQ rfl<|aCV (ht.int e0) (aM ht.len (aD rfl)) ?_)
  exact aC<|aF<|aC (bR<|aB rfl<|aF ⟨_,i0,aE<|aAf C fin⟩)
 ·rw[if_neg (nb h1)] at e0
  refine bZ<|aY (n:=2) (pU C) (lJ (aAt C)) rfl (aD rfl) rfl<|aC (bX<|aV<|sM<|aB rfl ⟨t,ch,rfl,hch,aN (by kernel_rfl) ⟨_,bG _ _,dN (fun h2=>aN (by kernel_rfl) ?_) fun h2=>aN (by kernel_rfl) ?_⟩⟩)
  ·rw[if_pos (of_decide_eq_true h2)] at e0
   have fin:=fin' _ e0
   rw[if_neg (by exact zD T0)] at fin
   exact bL rfl<|bL rfl<|aC<|aF<|aC (bR<|aB rfl<|aF ⟨_,i0,aE<|aAf C fin⟩)
  ·rw[if_neg (of_decide_eq_false h2)] at e0
   have fin:=fin' _ e0
   rw[if_neg (by exact zD T0)] at fin
   exact bL rfl<|bL rfl<|aC<|aF<|aC (bR<|aB rfl<|aF ⟨_,i0,aE<|aAf C fin⟩)
theorem aKA{σ:aA}{c D:Addr}{a a' b b':dJ}(h:c≠D):upd D b' (upd c a' (upd D b (upd c a σ)))=upd D b' (upd c a' σ):=by
 rw[kC (a:=D) (b:=c) h.symm,bK,bK]
theorem pS{α:Type}{tgt:Expr}{body:List Stmt}{Q:gA→aX→aA→Prop}(f:α→V)(J:aX→List α→aX→aA→Prop)
  (step:∀a as l' σ',J loc (a::as) l' σ'→∃loc',tZ tgt (f a) l'=some loc'∧jC X σ' loc' md (LpQ (J loc as) Q) body)
  (done:∀l' σ',J loc [] l' σ'→Q .next l' σ') (as:List α) (h:J loc as loc σ):aCH md tgt body Q X (as.map f) loc σ:=iI f (J loc) step done as loc σ h
inductive ItJ(σ1:aA)(c D:Addr)(full:List It)(fin:Int)(d:Nat)(loc0:aX)(rest:List Tx)(loc:aX)(σ':aA):Prop
 |mk (m:Int) (acc:List It) (e:σ'=upd D (.lst (cN acc)) (upd c (.lst [.int m]) σ1)) (a:Ag ["text","column"] loc loc0) (h1:acc++bN rest m=full) (h2:m+cH rest=fin) (h3:∀x∈rest,xP d x) (z:acc.length+rest.length≤1000)
theorem zG(l:List It)(x:It):cN l++[oF x]=cN (l++[x]):=by rw[gX,gX,eD];rfl
set_option tactic.hygienic true in
theorem aAo(C:Cx G)(d:Nat):∀{σ:aA} {txs:List Tx} {c:Addr} {n:Int} {Q:V→aA→Prop},(∀x∈txs,xP d x)→txs.length≤1000→σ c=some (.lst [.int n])→Q (.lst (cN (bN txs n))) (upd c (.lst [.int (n+cH txs)]) σ)→aW Q σ X (d+4) (.ref 596) [.lst (fU txs),.ref c]:=by
 induction d using Nat.strongRecOn with
 |ind d ih=>
  intro σ txs c n Q ho hz hc hq
  refine jQ (aZ (n:=d+3) (gV (ps:=["texts","count"]) C rfl rfl rfl rfl (tA fun Z Z Z=>.of_eq rfl)) (zD T0) (zD T0) rfl fun L hL=>?_)
  have hcL:=dS hc hL
  refine cG rfl<|bJ<|aE ⟨aD rfl,.inr fun D hD=>?_⟩
  have hc1:upd L .mark σ c=some (.lst [.int n]):=bV hc hL
  have hcD:=dS hc1 hD
  have hDL:D≠L:=(dS (aI ..) hD).symm
  have hDσ:σ D=none:=by rw[aR _ _ hDL] at hD;exact hD
  refine aG<|kH rfl rfl<|fE<|aB rfl ⟨_,.lst _,?_⟩
  refine rwL (gG _) ?_
  refine pS txV (ItJ (upd L .mark σ) c D (bN txs n) (n+cH txs) d) ?_ ?_ txs ⟨n,[],by rw[xA hc1];rfl,.refl,rfl,rfl,ho,by simpa using hz⟩
  ·rintro x rest loc' σ' ⟨m,acc,rfl,A,h1,h2,h3,z⟩
   replace z:=eX▸z
   refine⟨_,rfl,?_⟩
   have lf:loc'.lookup ("found":Str)=some (.val (.ref D)):=(A "found" rfl).trans rfl
   have lc:loc'.lookup ("count":Str)=some (.val (.ref c)):=(A "count" rfl).trans rfl
   have hcc:upd D (.lst (cN acc)) (upd c (.lst [.int m]) (upd L .mark σ)) c=some (.lst [.int m]):=(aR _ _ hcD).trans (aI ..)
   have hzi:(cN acc).length≤2^20:=by exact rwL (bH _) (aM (aM (eL _ _) z) (aD rfl))
   have hx:=h3 x (eS ..)
   refine qZ<|bT<|cY (fN C) rfl (aO _) rfl rfl<|bL rfl<|aC<|qN (vF C) rfl<|aE ?_
   cases x with
   |s t=>
    cases hx with
    |s ht=>
    refine yO (b:=true) rfl ⟨_,rfl,bI rfl ?_⟩
    refine cW<|bM rfl<|aB lf ⟨D,_,rfl,aI ..,aY (n:=3) (aAM C) (aS C rfl) rfl (fA ..) rfl<|bL rfl<|aQ lc<|aJb C ht hcc ⟨_,(aR _ _ hcD.symm).trans (aI ..),hzi,?_⟩⟩
    refine rwL (aKA hcD) ?_
    refine rwL (zG _ _) ?_
    exact aH<|aH ⟨m+1,acc++[gS t (m+1)],rfl,A.set rfl,rwL (eJ _ _ _) h1,by rw[←h2];show m+1+cH rest=m+(1+cH rest);rw[Int.add_assoc],fun y hy=>h3 y (fW _ hy),by rw[cL];simp;exact aM (dH (Nat.add_right_comm _ 1 _)) z⟩
   |l ts=>
    cases hx with
    |l zt ht=>
    refine yO (b:=false) rfl ⟨_,rfl,bB rfl ?_⟩
    refine aG<|sZ<|aB lc<|aF ⟨c,[.int m],0,m,rfl,hcc,rfl,Int.le_refl _,(by show(0:Int)<1;exact zD T0),aD rfl,rfl,aF ⟨1,m+1,rfl,.add _ _,rfl,?_⟩⟩
    rename_i d'
    have e1:upd c (.lst [.int (m+1)]) (upd D (.lst (cN acc)) (upd c (.lst [.int m]) (upd L .mark σ)))=upd D (.lst (cN acc)) (upd c (.lst [.int (m+1)]) (upd L .mark σ)):=by exact rwL (kC (a:=D) (b:=c) hcD.symm) (rwL bK rfl)
    show jC X (upd c (.lst [.int (m+1)]) (upd D (.lst (cN acc)) (upd c (.lst [.int m]) (upd L .mark σ)))) _ _ _ _
    refine rwL e1 ?_
    have hc2:upd D (.lst (cN acc)) (upd c (.lst [.int (m+1)]) (upd L .mark σ)) c=some (.lst [.int (m+1)]):=(aR _ _ hcD).trans (aI ..)
    refine cG rfl<|bR<|aB lc<|aF ⟨_,.lst _ _ 0 _ (dA hc2) (zD T0) rfl,?_⟩
    refine cW<|bM rfl<|aB lf ⟨D,_,rfl,aI ..,aY (n:=2) (rY C) (lJ (aBv C)) rfl (aM (aD rfl) (fA 3 _)) rfl<|aC (aY (n:=d'+4) (kS C) (aS C rfl) rfl (bO _) rfl<|bL rfl<|aQ lc<|ih d' (Nat.lt_succ_self _) ht zt hc2<|aC<|aF<|aQ rfl<|aHn C ⟨_,(aR _ _ hcD.symm).trans (aI ..),hzi,?_⟩)⟩
    refine rwL (aKA hcD) ?_
    refine rwL (zG _ _) ?_
    refine aH<|aH ⟨m+1+cH ts,acc++[.br (bN ts (m+1)) 1 (m+1)],rfl,(A.set rfl).set rfl,?_,?_,fun y hy=>h3 y (fW _ hy),by rw[cL];simp;exact aM (dH (Nat.add_right_comm _ 1 _)) z⟩
    ·refine rwL (eJ _ _ _) ?_
     refine rwL (Int.add_assoc _ _ _) ?_
     exact h1
    ·refine rwR h2 ?_
     show m+1+cH ts+cH rest=m+(1+cH ts+cH rest)
     lia
  ·rintro loc' σ' ⟨m,acc,rfl,A,h1,h2,h3,z⟩
   have e1:acc=bN txs n:=(List.append_nil acc).symm.trans h1
   have e2:m=n+cH txs:=(Int.add_zero m).symm.trans h2
   subst e1 e2
   refine bZ<|aB ((A "found" rfl).trans rfl) ⟨_,_,.lst D _ ((dP _ hDL).trans (aI ..)),?_⟩
   refine rwL (cF hDL) ?_
   refine rwL (cF hcL) ?_
   refine rwL (aU hL) ?_
   refine rwL (aU (by exact rwL (aR _ _ hcD.symm) hDσ)) ?_
   exact hq
theorem gH{a:Int}{n:Nat}(h:0<n):(a.fmod (n:Int)).toNat<n∧a.fmod (n:Int)=((a.fmod (n:Int)).toNat:Int):=by
 refine rwL (Int.fmod_eq_emod_of_nonneg a (Int.natCast_nonneg n)) ?_
 have h1:0≤a % (n:Int):=Int.emod_nonneg a (Int.natCast_ne_zero.mpr (Nat.ne_of_gt h))
 have h2:a % (n:Int)<n:=Int.emod_lt_of_pos a (Int.natCast_pos.mpr h)
 exact⟨(Int.toNat_lt h1).mpr h2,(Int.toNat_of_nonneg h1).symm⟩
noncomputable def fG(ns:List Int)(a b:Int):dJ:=.lst [.lst (ns.map V.int),.int a,.int b]
theorem xE{t:Str}:∀{l:List Str} {k:Nat},l[k]? =some t→t∉l.take k→mM l t=some k
 |[],k,h,_=>by exact cZ h
 |y::l,0,h,_=>by obtain rfl:=bE h;exact if_pos rfl
 |y::l,k+1,h,h2=>by
  replace h2:=List.take_succ_cons▸h2
  unfold mM
  refine rwL (if_neg (fun q=>h2 (by exact rwL q (eS ..)))) ?_
  refine rwL (xE (l:=l) h (fun q=>h2 (fW _ q))) ?_
  rfl
noncomputable def nU(names:List Str)(t:Str)(n:Int):Prop:=(t=iP n∧0≤n∧n<names.length+2)∨(t∈names∧t≠""∧∃k:Nat,n=k∧mM names.reverse t=some k)
theorem vK(C:Cx G){p:Addr}{ns:List Int}{a:Nat}{b:Int}{Q:V→aA→Prop}(hp:σ p=some (fG ns a b))(ha:a≤1000)(hz:ns.length≤1000)(hq:∀x,Q (.int x) (upd p (fG ns (a+1:Nat) b) σ)):aW Q σ X 1 (.ref 582) [.ref p]:=by
 refine aZ (n:=0) (gV (ps:=["pen"]) C rfl rfl rfl rfl (bt1 fun Z Z=>.of_eq rfl)) (zD T0) (zD T0) rfl fun L hL=>?_
 have hpL:=dS hp hL
 have fin:∀x,Q (.int x) (eZ L (upd p (fG ns (a+1:Nat) b) (upd L .mark σ))):=fun x=>by exact rwL (cF hpL) (rwL (aU hL) (hq x))
 have hp0:upd L .mark σ p=some (fG ns a b):=bV hp hL
 refine cG rfl<|bR<|aB rfl<|aF ⟨_,.lst _ _ 1 _ (dA hp0) (zD T0) rfl,?_⟩
 refine aG<|aCM<|aP<|aB rfl<|aF ⟨_,.add _ _,aB rfl<|aF ⟨p,_,1,rfl,hp0,rfl,zD T0,(by show(1:Int)<3;exact zD T0),aD rfl,?_⟩⟩
 have hp1:upd p (fG ns (a+1:Nat) b) (upd L .mark σ) p=some (fG ns (a+1:Nat) b):=aI ..
 show jC X (upd p (fG ns (a+1:Nat) b) (upd L .mark σ)) _ _ _ _
 generalize upd p (fG ns (a+1:Nat) b) (upd L .mark σ)=τ at fin hp1 ⊢
 have i0:xU τ (.ref p) (.int 0) (.lst (ns.map V.int)):=.lst _ _ 0 _ (dA hp1) (zD T0) rfl
 refine eB rfl<|cY (hY C) rfl (aO _) rfl rfl<|aC (bR<|aB rfl<|aF ⟨_,i0,aE<|fK (n:=ns.length) (by show some (ns.map V.int).length=_;rw[bS]) (aM hz (aD rfl)) ⟨decide ((a:Int)<(ns.length:Int)),rfl,dN (fun h=>?_) fun h=>aH ?_⟩⟩)
 ·have hlt:a<ns.length:=Int.ofNat_lt.mp (of_decide_eq_true h)
  refine bZ<|aP<|bR<|bR<|aB rfl<|aF ⟨_,i0,aB rfl ⟨.int ns[a],.lst _ (ns.map V.int) (a:Nat) _ rfl (vS (Nat.lt_of_le_of_lt ha (aD rfl))) (gI (by rw[List.getElem?_map,List.getElem?_eq_getElem hlt];rfl)),?_⟩⟩
  exact aP<|aF<|aB rfl ⟨_,.mul _ _ (aD rfl),_,.add _ _,fin _⟩
 ·exact bZ<|aP<|aF<|aB rfl ⟨_,.mul _ _ (aD rfl),fin _⟩
theorem aFB{ts:List Str}{i:Nat}{t:Str}(h:ts[i]? =some t):(ts.map V.str)[i]? =some (.str t):=by rw[List.getElem?_map,h];rfl
theorem lA{i:Int}(h:i.natAbs<2^70):i.natAbs.log2<1920:=by
 by_cases h0:i.natAbs=0
 ·refine rwL h0 ?_
  decide
 ·exact Nat.lt_of_lt_of_le ((Nat.log2_lt h0).mpr h) (aD rfl)
theorem aGG{α:Type}{l:List α}{k:Nat}(h:k≤l.length):oX l (some ((l.length:Int) - (k:Int))) none=l.drop (l.length - k):=by
 have e:((l.length:Int) - (k:Int))=((l.length - k:Nat):Int):=by exact(Int.ofNat_sub h).symm
 refine rwL e ?_
 have h1:clipAt l.length ((l.length - k:Nat):Int)=l.length - k:=(clipAt_nat l.length (l.length - k)).trans (Nat.min_eq_left (Nat.sub_le ..))
 show(l.drop (clipAt l.length ((l.length - k:Nat):Int))).take (l.length - clipAt l.length ((l.length - k:Nat):Int))=_
 refine rwL h1 ?_
 exact List.take_of_length_le (by simp)
noncomputable def pE(names:List Str)(x:Int)(k:Nat):Str:=match names.reverse[k]? with
 |some t=>if(x.fdiv 8).fmod 2=0∧t≠""∧(names.drop (names.length - k)).any (·==t)=false then t else iP (k:Nat)
 |none=>iP (k:Nat)
noncomputable def kA(names:List Str)(x:Int):Nat:=(x.fmod ((names.length:Int)+2)).toNat
noncomputable def aJU(names:List Str)(x:Int):V:=.tup [.str (pE names x (kA names x)),.int (kA names x:Nat)]
set_option tactic.hygienic true in
theorem aDQ(names:List Str)(x:Int):nU names (pE names x (kA names x)) (kA names x:Nat):=by
 have hk:kA names x<names.length+2:=(gH (a:=x) (n:=names.length+2) (Nat.zero_lt_succ _)).1
 generalize kA names x=k at hk
 have dec:nU names (iP (k:Nat)) (k:Nat):=.inl ⟨rfl,Int.natCast_nonneg k,Int.ofNat_lt.mpr hk⟩
 unfold pE
 induction ht:names.reverse[k]? with
 |none=>exact dec
 |some t=>
  dsimp only
  split
  ·rename_i h
   refine .inr ⟨List.mem_reverse.mp (iA ht),h.2.1,k,rfl,xE ht fun q=>?_⟩
   rw[List.take_reverse,List.mem_reverse] at q
   have:(names.drop (names.length - k)).any (·==t)=true:=List.any_eq_true.mpr ⟨t,q,beq_self_eq_true t⟩
   replace this:=h.2.2▸this
   exact iX this
  ·exact dec
theorem aHm(C:Cx G){x:Int}{names:List Str}{Q:V→aA→Prop}(hz:names.length≤100)(hq:Q (aJU names x) σ):aW Q σ X 1 (.ref 603) [.int x,.lst (names.map V.str)]:=by
 refine aZ (n:=0) (gV (ps:=["x","labels"]) C rfl rfl rfl rfl (tA fun Z Z Z=>.of_eq rfl)) (zD T0) (zD T0) rfl fun L hL=>?_
 have fin:Q (.tup [.str (pE names x (kA names x)),.int (kA names x:Nat)]) (eZ L (upd L .mark σ)):=by exact rwL (aU hL) hq
 have hlv:oM (upd L .mark σ) (.lst (names.map V.str))=some names.length:=by show some (names.map V.str).length=_;rw[bS]
 have hz60:names.length≤2^60:=by exact aM hz (aD rfl)
 obtain⟨k1,k2⟩:=gH (a:=x) (n:=names.length+2) (Nat.zero_lt_succ _)
 rw[show((names.length+2:Nat):Int)=(names.length:Int)+2 from rfl] at k1 k2
 refine cG rfl<|aP<|aB rfl<|aP<|cY (hY C) rfl (aO _) rfl rfl<|aQ rfl<|fK hlv hz60<|aF ⟨_,.add _ _,_,.mod _ _ (Int.ne_of_gt (Int.ofNat_lt.mpr (Nat.zero_lt_succ (names.length+1)))),?_⟩
 rw[k2]
 show jC X _ (("number",.val (.int (kA names x:Nat)))::_) _ _ _
 change kA names x<_ at k1
 generalize kA names x=k at k1 fin
 have num:∀{loc':aX} {p1 p2 p3 p4 p5 p6 c} {Q':gA→aX→aA→Prop},loc'.lookup ("number":Str)=some (.val (.int (k:Nat)))→Q' (.ret (.tup [.str (iP (k:Nat)),.int (k:Nat)])) loc' (upd L .mark σ)→
   jC X (upd L .mark σ) loc' ⟨0,none,[("x",.local),("labels",.local),("number",.local),("name",.local),("len",.globalImplicit),("str",.globalImplicit)]⟩ Q' [.Return (some (.Tuple [.Call (.Name "str" p1) [.Name "number" p2] [] p3,.Name "number" p4] c p5)) p6]:=fun h1 h2=>
  bZ<|aT<|aC (cY (vF C) rfl (eI _) rfl rfl<|aC (aB h1<|aE<|jN (lA (by show k<_;exact Nat.lt_of_lt_of_le k1 (aM (eP hz 2) (aD rfl)))) (mP (n:=(k:Nat)) (by show k<_;exact Nat.lt_of_lt_of_le k1 (aM (eP hz 2) (aD rfl)))).fit<|aC (aB h1<|aE ⟨aD rfl,h2⟩)))
 have fnum:pE names x k=iP (k:Nat)→Q (.tup [.str (iP (k:Nat)),.int (k:Nat)]) (eZ L (upd L .mark σ)):=fun h=>by rw[h] at fin;exact fin
 refine qZ<|bU<|aV<|aB rfl<|cY (hY C) rfl (aO _) rfl rfl<|aQ rfl<|fK hlv hz60 ⟨decide ((k:Int)<(names.length:Int)),rfl,dN (fun h1=>?_) fun h1=>bB rfl<|aH<|num rfl (fnum (by unfold pE;rw[List.getElem?_eq_none (rwL List.length_reverse (Nat.not_lt.mp fun q=>of_decide_eq_false h1 (Int.ofNat_lt.mpr q)))] <;> rfl))⟩
 have hk:k<names.length:=Int.ofNat_lt.mp (of_decide_eq_true h1)
 obtain⟨t,ht⟩:∃t,names.reverse[k]? =some t:=⟨_,List.getElem?_eq_getElem (by simpa using hk)⟩
 have ht2:names[names.length - 1 - k]? =some t:=(aCe hk).trans ht
 have e1:pE names x k=if(x.fdiv 8).fmod 2=0∧t≠""∧(names.drop (names.length - k)).any (·==t)=false then t else iP (k:Nat):=by unfold pE;rw[ht]
 refine bU<|aV<|aP<|aP<|aB rfl<|aF ⟨_,.fdiv _ _ (zD T0) (aD rfl),aF ⟨_,.mod _ _ (zD T0),aF ⟨_,cS _ _,dN (fun h2=>cK<|bI rfl ?_) fun h2=>bB rfl<|aH<|num rfl (fnum (e1.trans (if_neg fun q=>of_decide_eq_false h2 q.1)))⟩⟩⟩
 refine cG rfl<|bR<|aB rfl<|aP<|aP<|cY (hY C) rfl (aO _) rfl rfl<|aC (aB rfl<|aE<|fK hlv hz60<|aF ⟨_,.sub _ _,aB rfl ⟨_,.sub _ _,.str t,?_,?_⟩⟩)
 ·rw[show(names.length:Int) - 1 - (k:Int)=((names.length - 1 - k:Nat):Int) by rw[Int.ofNat_sub (Nat.le_sub_one_of_lt hk),Int.ofNat_sub (Nat.one_le_of_lt hk)];rfl]
  exact .lst _ _ _ _ rfl (vS (Nat.lt_of_le_of_lt (aM (Nat.sub_le _ _) (Nat.sub_le _ _)) (Nat.lt_of_le_of_lt hz (aD rfl)))) (gI (aFB ht2))
 refine qZ<|bU<|aV<|aB rfl<|aN (by kernel_rfl) ⟨_,iG _ _,dN (fun h3=>?_) fun h3=>bB rfl<|aH<|aH<|num rfl (fnum (e1.trans (if_neg fun q=>by rw[decide_eq_false q.2.1] at h3;exact iX (Eq.symm h3))))⟩
 refine bU<|aV<|aB rfl<|gY<|aB rfl<|aP<|cY (hY C) rfl (aO _) rfl rfl<|aC (aB rfl<|aE<|fK hlv hz60<|aB rfl ⟨_,.sub _ _,_,rfl,.inl ⟨names.map V.str,rfl,rwL (bS _) (aM hz (by exact aD rfl)),.inl ?_⟩⟩)
 have e0:oX (names.map V.str) (some ((names.length:Int) - (k:Int))) none=(names.drop (names.length - k)).map V.str:=by
  have:=aGG (l:=names.map V.str) (k:=k) (by rw[bS];exact Nat.le_of_lt ‹_›)
  rw[bS] at this
  rw[this,List.map_drop]
 rw[e0]
 refine⟨!(names.drop (names.length - k)).any (·==t),?_,dN (fun h4=>cK<|bI rfl ?_) fun h4=>bB rfl<|aH<|aH<|num rfl (fnum (e1.trans (if_neg fun q=>by rw[q.2.2] at h4;exact iX (Eq.symm h4))))⟩
 ·show((fR ((names.drop (names.length - k)).map V.str)).map _).map _=_
  rw[kP];rfl
 rw[e1,if_pos ⟨of_decide_eq_true h2,by simpa using h3,by simpa using h4⟩] at fin
 exact bZ<|aT<|bL rfl<|aQ rfl ⟨aD rfl,fin⟩
noncomputable def aKg(c:Const)(i:Int):Prop:=c=.int i
noncomputable def aKS(e:Expr)(es:List Expr):Prop:=∃k p,e=.Tuple es k p
noncomputable def aK1(e:Expr)(es:List Expr):Prop:=∃p,e=.List es p
noncomputable def unP(e:Expr)(q:UnaryOp×Expr):Prop:=∃p,e=.UnaryOp q.1 q.2 p
noncomputable def aLN(e:Expr)(q:Expr×Operator×Expr):Prop:=∃p,e=.BinOp q.1 q.2.1 q.2.2 p
noncomputable def aC9(v:V)(l:List V):Prop:=v=.lst l
noncomputable def aO0(c:Const):Option Int:=qA (p:=aKg c) (if h:c.ctorIdx=2 then Const.int.elim c h fun i=>some ⟨i,rfl⟩ else none)
noncomputable def aNI(e:Expr):Option (List Expr):=qA (p:=aKS e) (if h:e.ctorIdx=25 then Expr.Tuple.elim e h fun es k p=>some ⟨es,k,p,rfl⟩ else none)
noncomputable def aMX(e:Expr):Option (List Expr):=qA (p:=aK1 e) (if h:e.ctorIdx=24 then Expr.List.elim e h fun es p=>some ⟨es,p,rfl⟩ else none)
noncomputable def unE(e:Expr):Option (UnaryOp×Expr):=qA (p:=unP e) (if h:e.ctorIdx=3 then Expr.UnaryOp.elim e h fun o a p=>some ⟨(o,a),p,rfl⟩ else none)
noncomputable def aMv(e:Expr):Option (Expr×Operator×Expr):=qA (p:=aLN e) (if h:e.ctorIdx=2 then Expr.BinOp.elim e h fun l o r p=>some ⟨(l,o,r),p,rfl⟩ else none)
noncomputable def aGy(c:Const):Option V:=((aMR c).bind fun s=>if pV s=true then some (.str s) else none).or ((aO0 c).map .int)
noncomputable def aKs(loc:aX)(e:Expr):Option V:=(qK e).bind fun x=>if(x==("__debug__":Str))=true then none else(loc.lookup x).bind fun lv=>match lv with
 |.val v=>some v
 |.cell _=>none
noncomputable def pvs(f:Expr→Option V):List Expr→Option (List V)
 |[]=>some []
 |e::es=>if fF e=true then(f e).bind fun v=>(pvs f es).map (v::·) else none
noncomputable def aKf(v:V):Option (List V):=qA (p:=aC9 v) (if h:v.ctorIdx=5 then V.lst.elim v h fun l=>some ⟨l,rfl⟩ else none)
noncomputable def aNo(a b:V):Option V:=(aKf a).bind fun l=>(aKf b).bind fun m=>if l.length+m.length≤2^20 then some (.lst (l++m)) else none
noncomputable def pv(loc:aX):Nat→Expr→Option V
 |0,_=>none
 |k+1,e=>((aMa e).bind aGy).or<|(aKs loc e).or<|((aNI e).bind fun es=>(pvs (pv loc k) es).bind fun l=>if l.length≤1000 then some (.tup l) else none).or<|
  ((aMX e).bind fun es=>(pvs (pv loc k) es).bind fun l=>if l.length≤1000 then some (.lst l) else none).or<|
  ((unE e).bind fun q=>if q.1=.USub then(pv loc k q.2).bind fun v=>(vG v).map fun i=>.int (-i) else none).or<|
  (aMv e).bind fun q=>if q.2.1=.Add then(pv loc k q.1).bind fun a=>(pv loc k q.2.2).bind (aNo a) else none
theorem aNt{loc:aX}{k:Nat}{e:Expr}:pv loc (k+1) e=(((aMa e).bind aGy).or<|(aKs loc e).or<|((aNI e).bind fun es=>(pvs (pv loc k) es).bind fun l=>if l.length≤1000 then some (.tup l) else none).or<|
  ((aMX e).bind fun es=>(pvs (pv loc k) es).bind fun l=>if l.length≤1000 then some (.lst l) else none).or<|
  ((unE e).bind fun q=>if q.1=.USub then(pv loc k q.2).bind fun v=>(vG v).map fun i=>.int (-i) else none).or<|
  (aMv e).bind fun q=>if q.2.1=.Add then(pv loc k q.1).bind fun a=>(pv loc k q.2.2).bind (aNo a) else none):=rfl
theorem aNE{f:Expr→Option V}{e:Expr}{es:List Expr}:pvs f (e::es)=if fF e=true then(f e).bind fun v=>(pvs f es).map (v::·) else none:=rfl
theorem aG5{f:Expr→Option V}(hf:∀{e v} {Q:V→aA→Prop},f e=some v→Q v σ→cP X σ loc md Q e){es:List Expr}:∀{vs:List V} {Q:List V→aA→Prop},pvs f es=some vs→Q vs σ→nW md es loc σ Q X:=by
 induction es with
 |nil=>exact fun h hq=>aE (bE h▸hq)
 |cons e es ih=>exact @fun vs Q h hq=>ifS (aNE.symm.trans h) fun hn h=>dQ h fun v h1 h2=>oE h2 fun r h3 h4=>aC (hf h1 (ih h3 (h4▸hq:Q (v::r) _))) hn
theorem aLs(k:Nat):∀{e:Expr} {v:V} {Q:V→aA→Prop},pv loc k e=some v→Q v σ→cP X σ loc md Q e:=by
 induction k with
 |zero=>exact fun h Z=>cZ h
 |succ k ih=>
  exact fun h hq=>orE (aNt.symm.trans h) (fun h=>rdB (p:=aEp _) h fun c q h2=>aJL q fun n p q=>q▸
    orE h2 (fun h2=>rdB (p:=aGv c) h2 fun s h3 h4=>ifS h4 fun h5 h6=>h3▸aN h5 (bE h6▸hq)) fun h2=>oE h2 fun i h3 h4=>eE (p:=aKg c) h3▸aF (h4▸hq))
   fun h=>orE h (fun h=>rdB (p:=uN _) h fun x q h2=>aBB q fun p q=>q▸kZ h2 (fun Z=>cZ) fun hd h2=>dQ h2 fun lv h3 h4=>by
    induction lv with
    |val u=>exact aB h3 (bE h4▸hq) (Bool.eq_false_iff.mpr hd)
    |cell=>exact cZ h4)
   fun h=>orE h (fun h=>rdB (p:=aKS _) h fun es q h2=>aJL q fun n p q=>q▸dQ h2 fun l h3 h4=>ifS h4 fun h5 h6=>aT (aG5 ih h3 ⟨h5,bE h6▸hq⟩))
   fun h=>orE h (fun h=>rdB (p:=aK1 _) h fun es q h2=>aBB q fun p q=>q▸dQ h2 fun l h3 h4=>ifS h4 fun h5 h6=>bJ (aG5 ih h3 ⟨h5,.inl (bE h6▸hq)⟩))
   fun h=>orE h (fun h=>rdB (p:=unP _) h fun u q h2=>aBB q fun p q=>q▸ifS h2 fun ho h2=>ho▸dQ h2 fun a h3 h4=>oE h4 fun i h5 h6=>oO (ih h3 ⟨i,pC h5,h6▸hq⟩))
   fun h=>rdB (p:=aLN _) h fun u q h2=>aBB q fun p q=>q▸ifS h2 fun ho h2=>ho▸dQ h2 fun a h3 h4=>dQ h4 fun b h5 h6=>rdB (p:=aC9 a) h6 fun la h7 h8=>rdB (p:=aC9 b) h8 fun lb h9 h10=>ifS h10 fun h11 h12=>
    jG (ih h3 (ih h5 ⟨la,lb,congrArg (lk σ) h7,congrArg (lk σ) h9,h11,.inl (bE h12▸hq)⟩))
theorem aN3{k:Nat}{e:Expr}{v:V}(h:pv loc k e=some v):gN e=true:=by
 induction k with
 |zero=>exact cZ h
 |succ k=>
  exact orE (aNt.symm.trans h) (fun h=>rdB (p:=aEp _) h fun c q h2=>aJL q fun n p q=>q▸rfl)
   fun h=>orE h (fun h=>rdB (p:=uN _) h fun x q h2=>aBB q fun p q=>q▸rfl)
   fun h=>orE h (fun h=>rdB (p:=aKS _) h fun es q h2=>aJL q fun n p q=>q▸rfl)
   fun h=>orE h (fun h=>rdB (p:=aK1 _) h fun es q h2=>aBB q fun p q=>q▸rfl)
   fun h=>orE h (fun h=>rdB (p:=unP _) h fun u q h2=>aBB q fun p q=>q▸rfl)
   fun h=>rdB (p:=aLN _) h fun u q h2=>aBB q fun p q=>q▸rfl
theorem sX(k:Nat)(v:V){e:Expr}{Q:V→aA→Prop}(h:pv loc k e=some v)(hq:Q v σ):cP X σ loc md Q e:=aLs k h hq
theorem iU(k:Nat)(v:V){x:Str}{px pos:Pos}{e:Expr}{Q:gA→aX→aA→Prop}(hx:md.sc.lookup x=some .local)(h:pv loc k e=some v)(hq:Q .next ((x,.val v)::loc) σ):sY md (.Assign [.Name x px] e pos) loc σ Q X:=tL hx (sX k v h hq) (aN3 h)
noncomputable def aK3(s:Stmt):List Stmt:=if h:s.ctorIdx=12 then Stmt.If.elim s h fun Z b Z Z=>b else[]
noncomputable def sV:List (Str×Int):=[("nop",1),("unreachable",0),("return",15),("drop",26),("select",27),("i32.add",106),("i32.eqz",69),("i64.mul",126),("i64.rotr",138),("i32.wrap_i64",167),("i64.extend32_s",196),("memory.size",63),("memory.grow",64),("ref.is_null",209),("memory.copy",64522),("memory.fill",64523),("i64.ge_u",90),("i32.clz",103)]
noncomputable def yN:List (Str×Int):=[("local.get",32),("local.set",33),("local.tee",34)]
noncomputable def zX:List (Str×Int):=[("$x",3),("$y",0),("3",3),("7",7)]
noncomputable def aGa:List (Str×Int):=[("br",12),("br_if",13)]
noncomputable def wE:List (Str×Int×Int):=[("i32.load",40,2),("i64.load",41,3),("i32.load8_u",45,0),("i64.load32_s",52,2),("i32.store",54,2),("i64.store16",61,1)]
noncomputable def oZ:List (Str×Int):=[("offset=0",0),("offset=977",977),("offset=1954",1954),("offset=2931",2931),("offset=3908",3908),("offset=0x0",0),("offset=0x3d1",977),("offset=0x7a2",1954),("offset=0xb73",2931),("offset=0xf44",3908)]
noncomputable def sK:List (Str×Int):=[("align=1",0),("align=2",1),("align=4",2),("align=8",3),("align=16",4)]
noncomputable def yL:List (Str×Int):=[("func",-16),("extern",-17)]
noncomputable def sP:List (List (Str×Int)):=[[],[("i32",-1)],[("i64",-2),("i32",-1)],[("externref",-17)]]
noncomputable def aEN(b:Nat):Str:=if b=32 then "i32.const" else "i64.const"
noncomputable def aGM(b:Nat):Int:=if b=32 then 65 else 66
inductive qO(names:List Str):List Tx→List Int→Prop
 |row (r:Str×Int) (h:r∈sV):qO names [.s r.1] [r.2]
 |con (b:Nat) (n t:Int) (hb:b=32∨b=64) (h0: -(2^(b - 1))≤n) (h1:n<2^(b - 1)) (ht:t=n∨t=n.fmod (2^b)):qO names [.s (aEN b),.s (iP t)] [aGM b,n]
 |loc (r q:Str×Int) (h:r∈yN) (h2:q∈zX):qO names [.s r.1,.s q.1] [r.2,q.2]
 |br (r:Str×Int) (h:r∈aGa) (t:Str) (n:Int) (g:nU names t n):qO names [.s r.1,.s t] [r.2,n]
 |tab (gs:List (Str×Int)) (z:gs.length≤3) (z0:1≤gs.length) (g:∀p∈gs,nU names p.1 p.2):qO names (.s "br_table"::gs.map fun p=>.s p.1) (14::gs.map (·.2))
 |mem (r:Str×Int×Int) (h:r∈wE) (o a:Option (Str×Int)) (ho:∀p∈o,p∈oZ) (ha:∀p∈a,p∈sK):qO names (.s r.1::(o.toList++a.toList).map fun p=>.s p.1) [r.2.1,(a.map (·.2)).getD r.2.2,(o.map (·.2)).getD 0]
 |ref (r:Str×Int) (h:r∈yL):qO names [.s "ref.null",.s r.1] [208,r.2]
 |sel (ks:List (Str×Int)) (h:ks∈sP):qO names [.s "select",.l (.s "result"::ks.map fun p=>.s p.1)] (28::ks.map (·.2))
structure Hd(p:Prop):Prop where
 out:p
structure Cs(σ τ:aA)(L:Addr)(x:Int)(ls:V):Prop where
 x:τ (L+1)=some (.cell (.int x))
 l:τ (L+2)=some (.cell ls)
 o:∀b,b≠L→b≠L+1→b≠L+2→τ b=σ b
abbrev aAX(L:Addr):List (Str×Addr):=[("labels",L+2),("x",L+1)]
theorem Cs.set{σ τ:aA}{L:Addr}{x y:Int}{ls:V}(h:Cs σ τ L x ls):Cs σ (upd (L+1) (.cell (.int y)) τ) L y ls:=
 ⟨aI ..,(aR _ _ (Nat.ne_of_gt (Nat.lt_succ_self (L+1)))).trans h.l,fun b h0 h1 h2=>(aR _ _ h1).trans (h.o b h0 h1 h2)⟩
theorem Cs.out{σ τ:aA}{L:Addr}{x:Int}{ls:V}(h:Cs σ τ L x ls)(hL:σ L=none)(h1:σ (L+1)=none)(h2:σ (L+2)=none):sT τ L (aAX L)=σ:=by
 funext b
 unfold sT
 by_cases hb:b=L∨b∈(aAX L).map (·.2)
 ·refine rwL (if_pos hb) ?_
  simp only[aAX,List.map_cons,List.map_nil,List.mem_cons,List.not_mem_nil,or_false] at hb
  rcases hb with rfl|rfl|rfl
  ·exact hL.symm
  ·exact h2.symm
  ·exact h1.symm
 ·refine rwL (if_neg hb) ?_
  simp only[aAX,List.map_cons,List.map_nil,List.mem_cons,List.not_mem_nil,or_false,not_or] at hb
  exact h.o b hb.1 hb.2.2 hb.2.1
noncomputable def sgV(txs:List Tx)(told:List Int):V:=.tup [.lst (fU txs),.tup (told.map V.int)]
noncomputable abbrev aAD:Md:=⟨2,none,(vY (eY pB 107)).names⟩
noncomputable abbrev sgB(k:Nat):List Stmt:=aK3 (eY (zP (eY pB 107)) k)
structure SgH(σ τ:aA)(L:Addr)(x:Int)(names:List Str)(loc:aX)(Qf:gA→aX→aA→Prop):Prop where
 c:Cs σ τ L x (.lst (names.map V.str))
 lx:loc.lookup ("x":Str)=some (.cell (L+1))
 ll:loc.lookup ("labels":Str)=some (.cell (L+2))
 z:names.length≤100
 q:∀txs told,qO names txs told→∀τ y,Cs σ τ L y (.lst (names.map V.str))→∀l,Qf (.ret (sgV txs told)) l τ
end
noncomputable def aEC(r:Str×Int):V:=.tup [.str r.1,.int r.2]
theorem aCi{α:Type}{l:List α}{i n:Nat}(h:i<n)(hn:l.length=n):∃r,l[i]? =some r∧r∈l:=by
 obtain⟨r,hr⟩:∃r,l[i]? =some r:=⟨_,List.getElem?_eq_getElem (rwL hn h)⟩
 exact⟨r,hr,iA hr⟩
section
variable{md:Md}{loc:aX}{σ τ:aA}{X:bF→Prop}
theorem jY{α:Type}{l:List α}{f:α→V}{i:Nat}{r:α}{Q:V→aA→Prop}(hz:l.length≤2^20)(h:l[i]? =some r)(hp:Q (f r) σ):aJa (.lst (l.map f)) Q (.int (i:Int)) σ:=
 sD rfl (rwL (bS _) hz) (by rw[List.getElem?_map,h];rfl) hp
variable{L:Addr}{x:Int}{names:List Str}{Qf:gA→aX→aA→Prop}
theorem uR{x y:Str}{px py p0 pos:Pos}{e:Expr}{k:Nat}{Q:gA→aX→aA→Prop}(hd:md.hd=none)(hx:locals md.sc [x,y]=true)(hw:swappedStores [.Tuple [.Name x px,.Name y py] k p0] e (aAN md.sc)=pure none)(hc:gN e=true)
  (h:cP X σ loc md (fun v σ'=>∃a b,v=.tup [a,b]∧Q .next (qB [x,y] [a,b] loc) σ') e):sY md (.Assign [.Tuple [.Name x px,.Name y py] k p0] e pos) loc σ Q X:=
 bD (ns:=[x,y]) (o:=none) hd rfl hx hw (.inl rfl) (h.mono (fun v σ' ⟨a,b,h1,h2⟩=>⟨[a,b],h1,rfl,rwL (if_pos rfl) h2⟩) fun Z z=>z) hc
theorem aLX(C:Cx G)(H:SgH σ τ L x names loc Qf):Hd (jC X τ loc aAD Qf (sgB 2)):=by
 refine⟨?_⟩
 refine aG ?_
 refine iU 4 (V.lst ((sV.take 6).map aEC)) ?_ ?_ ?_
 ·rfl
 ·kernel_rfl
 refine aG ?_
 refine iU 4 (V.lst ((sV.take 10).map aEC)) ?_ ?_ ?_
 ·rfl
 ·kernel_rfl
 refine aG ?_
 refine iU 4 (V.lst ((sV.take 14).map aEC)) ?_ ?_ ?_
 ·rfl
 ·kernel_rfl
 refine aG ?_
 refine iU 4 (V.lst (sV.map aEC)) ?_ ?_ ?_
 ·rfl
 ·kernel_rfl
 refine aG<|bD (ns:=["word","code"]) (o:=none) rfl rfl rfl rfl (.inl rfl)<|bR<|aB rfl<|aP<|cV H.lx H.c.x<|cY (hY C) rfl (aO _) rfl rfl<|aQ rfl<|fK (n:=18) rfl (aD rfl) ⟨_,.mod _ _ (zD T0),?_⟩
 obtain⟨k1,k2⟩:=gH (a:=x) (n:=18) (aD rfl)
 refine rwL k2 ?_
 obtain⟨r,hr,hm⟩:=aCi (l:=sV) k1 rfl
 refine jY (aD rfl) hr ⟨_,rfl,rfl,?_⟩
 refine rwL (if_pos rfl) ?_
 exact bZ<|sX 4 (sgV [.s r.1] [r.2]) (by kernel_rfl)<|H.q _ _ (.row r hm) τ x H.c _
theorem aK6(C:Cx G)(H:SgH σ τ L x names loc Qf):Hd (jC X τ loc aAD Qf (sgB 4)):=by
 refine⟨?_⟩
 refine aG ?_
 refine uR ?_ ?_ ?_ ?_ ?_
 ·rfl
 ·rfl
 ·rfl
 ·rfl
 refine bR ?_
 refine sX 4 (V.lst (yN.map aEC)) ?_ ?_
 ·kernel_rfl
 refine aP<|cV H.lx H.c.x<|aF ⟨_,.mod _ _ (zD T0),?_⟩
 obtain⟨k1,k2⟩:=gH (a:=x) (n:=3) (aD rfl)
 refine rwL (show x.fmod 3=_ from k2) ?_
 obtain⟨r,hr,hm⟩:=aCi (l:=yN) k1 rfl
 refine jY (aD rfl) hr ⟨_,_,rfl,?_⟩
 refine aG ?_
 refine uR ?_ ?_ ?_ ?_ ?_
 ·rfl
 ·rfl
 ·rfl
 ·rfl
 refine bR ?_
 refine sX 4 (V.lst (zX.map aEC)) ?_ ?_
 ·kernel_rfl
 refine aP<|aP<|cV H.lx H.c.x<|aF ⟨_,.fdiv _ _ (zD T0) (aD rfl),aF ⟨_,.mod _ _ (zD T0),?_⟩⟩
 obtain⟨j1,j2⟩:=gH (a:=x.fdiv 3) (n:=4) (aD rfl)
 refine rwL (show(x.fdiv 3).fmod 4=_ from j2) ?_
 obtain⟨q,hq,hm2⟩:=aCi (l:=zX) j1 rfl
 refine jY (aD rfl) hq ⟨_,_,rfl,?_⟩
 exact bZ<|sX 4 (sgV [.s r.1,.s q.1] [r.2,q.2]) (by kernel_rfl)<|H.q _ _ (.loc r q hm hm2) τ x H.c _
theorem aNx(C:Cx G)(H:SgH σ τ L x names loc Qf):Hd (jC X τ loc aAD Qf (sgB 5)):=by
 refine⟨?_⟩
 refine aG<|bD (ns:=["text","number"]) (o:=none) rfl rfl rfl rfl (.inl rfl)<|aY (n:=1) (tP C) (aS C rfl) rfl (aD rfl) rfl<|aC (aP<|cV H.lx H.c.x<|aF ⟨_,.fdiv _ _ (zD T0) (aD rfl),aC<|cV H.ll H.c.l<|aE<|aHm C H.z ⟨_,rfl,rfl,?_⟩⟩)
 refine rwL (if_pos rfl) ?_
 have g:=aDQ names (x.fdiv 2)
 obtain⟨k1,k2⟩:=gH (a:=x) (n:=2) (aD rfl)
 have e2:x.fmod 2=_:=k2
 refine bZ<|aT<|aC (bJ<|aC (bX<|aV<|aP<|cV H.lx H.c.x<|aF ⟨_,.mod _ _ (zD T0),aF ⟨_,cS _ _,?_⟩⟩))
 have num:∀{p3 p4 p5 p6 p7 c1 c2},cP X τ (qB ["text","number"] [.str (pE names (x.fdiv 2) (kA names (x.fdiv 2))),.int (kA names (x.fdiv 2):Nat)] loc) aAD (IsQ (.int (12+x.fmod 2)) τ) (.BinOp (.Constant (.int 12) c1 p3) .Add (.BinOp (.Name "x" p4) .Mod (.Constant (.int 2) c2 p5) p6) p7):=fun{p3 p4 p5 p6 p7 c1 c2}=>
  aP<|aF<|aP<|cV (show loc.lookup ("x":Str)=_ from H.lx) H.c.x<|aF ⟨_,.mod _ _ (zD T0),_,.add _ _,rfl,rfl⟩
 have rest:∀r∈aGa,r.2=12+x.fmod 2→∀l,Qf (.ret (sgV [.s r.1,.s (pE names (x.fdiv 2) (kA names (x.fdiv 2)))] [12+x.fmod 2,(kA names (x.fdiv 2):Nat)])) l τ:=fun r hr h=>by
  refine rwR h ?_
  exact H.q _ _ (.br r hr _ _ g) τ x H.c
 refine dN (fun h=>?_) fun h=>?_
 ·refine aN (by kernel_rfl)<|aQ rfl ⟨aD rfl,.inl<|aC (aT<|aC (num.mono (fun v σ' ⟨h1,h2⟩=>?_) fun Z z=>z))⟩
  subst h1 h2
  exact aQ rfl ⟨aD rfl,aE ⟨aD rfl,rest ("br",12) (zD T0) (by rw[of_decide_eq_true h];rfl) _⟩⟩
 ·refine aN (by kernel_rfl)<|aQ rfl ⟨aD rfl,.inl<|aC (aT<|aC (num.mono (fun v σ' ⟨h1,h2⟩=>?_) fun Z z=>z))⟩
  subst h1 h2
  exact aQ rfl ⟨aD rfl,aE ⟨aD rfl,rest ("br_if",13) (zD T0) (by have:=of_decide_eq_false h;show(13:Int)=12+x.fmod 2;lia) _⟩⟩
end
noncomputable def aGJ(y:Int)(b:Nat):Int:=(y+2^(((b:Nat):Int) - 1).toNat).fmod (2^((b:Nat):Int).toNat) - 2^(((b:Nat):Int) - 1).toNat
theorem oB{b:Nat}(hb:b=32∨b=64){P:Prop}(k:∀H:Int,0<H→H+H≤99999999999999999999→(2:Int)^(b - 1)=H→(2:Int)^b=H+H→(2:Int)^((b:Int) - 1).toNat=H→(2:Int)^(b:Int).toNat=H+H→P):P:=by
 rcases hb with rfl|rfl
 ·exact k 2147483648 (zD T0) (zD T0) rfl rfl rfl rfl
 ·exact k 9223372036854775808 (zD T0) (zD T0) rfl rfl rfl rfl
theorem aCO{y:Int}{b:Nat}(hb:b=32∨b=64): -(2^(b - 1))≤aGJ y b∧aGJ y b<2^(b - 1):=
 oB hb fun H h0 Z e Z e1 e2=>by
  unfold aGJ
  rw[e,e1,e2]
  have h:=Int.add_pos h0 h0
  exact⟨Int.zero_sub H▸Int.sub_le_sub_right (Int.fmod_nonneg_of_pos _ h) H,Int.sub_right_lt_of_lt_add (Int.fmod_lt_of_pos _ h)⟩
theorem aNc{t:Int}{N:Int}(h1: -N≤t)(h2:t<N)(h:N≤99999999999999999999):t.natAbs<10^20:=by
 omega
theorem yH{n t:Int}{b:Nat}(hb:b=32∨b=64)(h0: -(2^(b - 1))≤n)(h1:n<2^(b - 1))(ht:t=n∨t=n.fmod (2^b)):t.natAbs<10^20:=
 oB hb fun H p hH e1 e2 Z Z=>by
  have h:=Int.add_pos p p
  rw[e1] at h0 h1
  rw[e2] at ht
  rcases ht with rfl|rfl
  ·exact aNc (Int.le_trans (Int.neg_le_neg (Int.le_add_of_nonneg_left (Int.le_of_lt p))) h0) (Int.lt_trans h1 (Int.lt_add_of_pos_left _ p)) hH
  ·exact aNc (Int.le_trans (Int.neg_nonpos_of_nonneg (Int.le_of_lt h)) (Int.fmod_nonneg_of_pos _ h)) (Int.fmod_lt_of_pos _ h) hH
theorem aIX{b:Nat}(hb:b=32∨b=64):("i":Str)++iP (b:Nat)++".const"=aEN b:=by rcases hb with rfl|rfl <;> decide+kernel
section
variable{md:Md}{loc:aX}{σ τ:aA}{X:bF→Prop}
variable{L:Addr}{x:Int}{names:List Str}{Qf:gA→aX→aA→Prop}
theorem aMi(C:Cx G)(H:SgH σ τ L x names loc Qf):Hd (jC X τ loc aAD Qf (sgB 3)):=by
 refine⟨?_⟩
 refine cG rfl<|cP.mono (Q:=fun v σ'=>∃b:Nat,v=.int b∧(b=32∨b=64)∧σ'=τ) ?_ (fun v σ' ⟨b,h1,hb,h2⟩=>?_) fun Z z=>z
 ·exact bX<|aV<|aP<|cV H.lx H.c.x<|aF ⟨_,.mod _ _ (zD T0),aF ⟨_,cS _ _,dN (fun Z=>aF ⟨32,rfl,.inl rfl,rfl⟩) fun Z=>aF ⟨64,rfl,.inr rfl,rfl⟩⟩⟩
 subst h1 h2
 refine aG<|lF H.lx rfl<|aP<|cV H.lx H.c.x<|aF ⟨_,.fdiv _ _ (zD T0) (aD rfl),?_⟩
 have c1:=H.c.set (y:=x.fdiv 2)
 generalize upd (L+1) (.cell (.int (x.fdiv 2))) σ'=τ1 at c1 ⊢
 generalize x.fdiv 2=y at c1
 have p0:(0:Int)≤(b:Int) - 1∧(b:Int) - 1≤1000000∧(0:Int)≤(b:Int)∧(b:Int)≤1000000∧(2:Int)^((b:Nat):Int).toNat≠0:=by rcases hb with rfl|rfl <;> decide+kernel
 have lx:loc.lookup ("x":Str)=some (.cell (L+1)):=H.lx
 refine cG rfl<|aP<|aP<|aP<|cV lx c1.x<|aP<|aF<|aP<|aB rfl<|aF ⟨_,.sub _ _,_,.pow _ _ p0.1 p0.2.1 (aD rfl),_,.add _ _,aP<|aF<|aB rfl ⟨_,.pow _ _ p0.2.2.1 p0.2.2.2.1 (aD rfl),_,.mod _ _ p0.2.2.2.2,aP<|aF<|aP<|aB rfl<|aF ⟨_,.sub _ _,_,.pow _ _ p0.1 p0.2.1 (aD rfl),_,.sub _ _,?_⟩⟩⟩
 show jC X τ1 (("number",.val (.int (aGJ y b)))::_) _ _ _
 obtain⟨hn0,hn1⟩:=aCO (y:=y) hb
 generalize aGJ y b=n at hn0 hn1
 refine cG rfl<|cP.mono (Q:=fun v σ'=>∃t:Int,v=.int t∧(t=n∨t=n.fmod (2^b))∧σ'=τ1) ?_ (fun v σ2 ⟨t,h1,ht,h2⟩=>?_) fun Z z=>z
 ·exact bX<|aV<|aP<|cV lx c1.x<|aF ⟨_,.mod _ _ (zD T0),aF ⟨_,cS _ _,dN (fun Z=>aP<|aB rfl<|aP<|aF<|aB rfl ⟨_,.pow _ _ p0.2.2.1 p0.2.2.2.1 (aD rfl),_,.mod _ _ p0.2.2.2.2,_,rfl,.inr rfl,rfl⟩) fun Z=>aB rfl ⟨_,rfl,.inl rfl,rfl⟩⟩⟩
 subst h1 h2
 have hts:=yH hb hn0 hn1 ht
 have d1:=mP (n:=(b:Nat)) (by rcases hb with rfl|rfl <;> exact aD rfl)
 have d2:=mP hts
 have fin:=H.q _ _ (.con b n t hb hn0 hn1 ht) σ2 y c1
 refine bZ<|aT<|aC (bJ<|aC (aP<|aP<|aN (by kernel_rfl)<|cY (vF C) rfl (eI _) rfl rfl<|aQ rfl<|jN (lA (by rcases hb with rfl|rfl <;> exact aD rfl)) d1.fit ⟨_,.cat _ _ (aM (fV d1.len _) (aD rfl)),aN (by kernel_rfl) ⟨_,.cat _ _ ?_,?_⟩⟩))
 ·refine rwL (strLen_append _ _) ?_
  exact aM (eP (fV d1.len _) _) (aD rfl)
 refine rwL (show("i":Str)++Str.ofString (toString ((b:Nat):Int))++".const"=aEN b from aIX hb) ?_
 refine aC (cY (vF C) rfl (eI _) rfl rfl<|aQ rfl<|jN (lA (Nat.lt_trans hts (aD rfl))) d2.fit<|aE ⟨aD rfl,.inl<|aC (aT<|aC (cP.mono (Q:=fun v σ'=>v=.int (aGM b)∧σ'=σ2) ?_ (fun v σ' ⟨h1,h2⟩=>?_) fun Z z=>z))⟩)
 ·exact bX<|aV<|aB rfl<|aF ⟨_,cS _ _,dN (fun h=>aF ⟨by rw[show b=32 from Int.ofNat.inj (of_decide_eq_true h)];rfl,rfl⟩) fun h=>aF ⟨by exact rwL (show aGM b=66 from if_neg fun q=>of_decide_eq_false h (by rw[q];rfl)) rfl,rfl⟩⟩
 subst h1 h2
 exact aQ rfl ⟨aD rfl,aE ⟨aD rfl,fin _⟩⟩
end
section
variable{md:Md}{loc:aX}{σ τ:aA}{X:bF→Prop}
theorem hG{n:Str}{k:NameKind}{r:List (Str×NameKind)}{loc:aX}{acc:List (Str×Addr)}(h:(k==NameKind.free)=false):nY ((n,k)::r) loc acc=nY r loc acc:=by
 show(if(k==NameKind.free)=true then _ else nY r loc acc)=_
 rw[if_neg (by rw[h];decide)]
theorem zF{n:Str}{r:List (Str×NameKind)}{loc:aX}{acc:List (Str×Addr)}{c:Addr}(h:loc.lookup n=some (.cell c)):nY ((n,.free)::r) loc acc=nY r loc ((n,c)::acc):=by
 show(match loc.lookup n with|some (.cell c)=>nY r loc ((n,c)::acc)|_=>none)=_
 rw[h]
theorem Ext.cell{σ σ':aA}{c:Addr}{v:V}(h:Ext σ σ')(e:σ c=some (.cell v)):σ' c=some (.cell v):=(h c (by rw[e];nofun)).trans e
variable{L:Addr}{x:Int}{names:List Str}{Qf:gA→aX→aA→Prop}
noncomputable def aCw(names:List Str)(x:Int)(k:Nat):Str×Int:=(pE names (x.fdiv (3^k)) (kA names (x.fdiv (3^k))),(kA names (x.fdiv (3^k)):Nat))
theorem p3(k:Nat)(h:k<3):((3:Int)^((k:Nat):Int).toNat≠0∧((3:Int)^((k:Nat):Int).toNat).natAbs<1073741824):=by
 have:∀k,k<3→((3:Int)^((k:Nat):Int).toNat≠0∧((3:Int)^((k:Nat):Int).toNat).natAbs<1073741824):=by decide+kernel
 exact this k h
theorem aKJ(C:Cx G)(H:SgH σ τ L x names loc Qf):Hd (jC X τ loc aAD Qf (sgB 6)):=by
 refine⟨?_⟩
 obtain⟨k1,k2⟩:=gH (a:=x) (n:=3) (aD rfl)
 have k2:x.fmod 3=_:=k2
 generalize (x.fmod 3).toNat=n at k1 k2
 refine aG<|oG (cl:=[("x",L+1),("labels",L+2)]) rfl rfl rfl ?_ rfl ?_
 ·exact(hG rfl).trans<|(hG rfl).trans<|(hG rfl).trans<|(zF H.ll).trans<|(zF H.lx).trans rfl
 refine fE<|cY (uO C) rfl (eI _) rfl rfl<|aC (aP<|aF<|aP<|cV H.lx H.c.x<|aF ⟨_,.mod _ _ (zD T0),_,.add _ _,?_⟩)
 refine rwL k2 ?_
 refine rwL (show(1:Int)+(n:Int)=((1+n:Nat):Int) from rfl) ?_
 have h13:1+n≤3:=aM (dH (Nat.add_comm 1 n)) k1
 refine aE<|rZ ⟨_,.rng (1+n) (aM h13 (aD rfl)),(List.range (1+n)).map fun k=>aJU names (x.fdiv (3^k)),by unfold xB;rw[bS,List.length_range];exact aM h13 (aD rfl),?_,.inl ?_⟩
 ·refine mW (fun k:Nat=>V.int k) _ fun k hk=>⟨_,rfl,fun σ2 hE=>?_⟩
  have q:=p3 k (by have:=List.mem_range.mp hk;exact Nat.lt_of_lt_of_le this h13)
  exact aY (n:=1) (tP C) (aS C rfl) rfl (aD rfl) rfl<|aC (aP<|cV rfl (hE.cell H.c.x)<|aP<|aF<|aB rfl ⟨_,.pow _ _ (Int.natCast_nonneg k) (by have:=List.mem_range.mp hk;exact Int.ofNat_le.mpr (aM (Nat.le_of_lt this) (aM h13 (aD rfl)))) (aD rfl),_,.fdiv _ _ q.1 q.2,aC (cV rfl (hE.cell H.c.l)<|aE<|aHm C H.z ⟨rfl,rfl⟩)⟩)
 have fin:=H.q _ _ (.tab ((List.range (1+n)).map (aCw names x)) (rwL (bS _) (rwL List.length_range h13)) (rwL (bS _) (rwL List.length_range (eL _ _))) fun p hp=>by
  obtain⟨k,_,rfl⟩:=List.mem_map.mp hp
  exact aDQ names _) τ x H.c
 have e:sgV (.s "br_table"::((List.range (1+n)).map (aCw names x)).map fun p=>.s p.1) (14::((List.range (1+n)).map (aCw names x)).map (·.2))=.tup [.lst ([.str "br_table"]++(List.range (1+n)).map fun k=>.str (aCw names x k).1),.tup ([.int 14]++(List.range (1+n)).map fun k=>.int (aCw names x k).2)]:=by
  unfold sgV
  refine rwL (gG _) ?_
  refine rwL List.map_cons ?_
  refine rwL List.map_cons ?_
  refine rwL List.map_map ?_
  refine rwL List.map_map ?_
  refine rwL List.map_map ?_
  refine rwL List.map_map ?_
  rfl
 replace fin:=e▸fin
 refine bZ<|aT<|aC (jG<|bJ<|aC<|aN (by kernel_rfl)<|aE ⟨aD rfl,.inl<|aAU (cl:=[]) rfl ?_ rfl<|fE<|aB rfl ⟨_,.lst _,(List.range (1+n)).map fun k=>.str (aCw names x k).1,rwL (bS _) (rwL List.length_range (aM h13 (by exact aD rfl))),?_,.inl ⟨_,_,rfl,rfl,by rw[bS,List.length_range];simp;exact aM (fV h13 1) (aD rfl),.inl ?_⟩⟩⟩)
 ·exact(hG rfl).trans<|(hG rfl).trans rfl
 ·exact mW _ _ fun k hk=>⟨_,rfl,fun σ2 hE=>bR<|aB rfl<|aF ⟨_,.tup _ 0 _ (zD T0) rfl,rfl,rfl⟩⟩
 refine aC (cY (uM C) rfl (eI _) rfl rfl<|aC (jG<|bJ<|aC<|aF<|aE ⟨aD rfl,.inl<|aAU (cl:=[]) rfl ?_ rfl<|fE<|aB rfl ⟨_,.lst _,(List.range (1+n)).map fun k=>.int (aCw names x k).2,rwL (bS _) (rwL List.length_range (aM h13 (by exact aD rfl))),?_,.inl ⟨_,_,rfl,rfl,by rw[bS,List.length_range];simp;exact aM (fV h13 1) (aD rfl),.inl ?_⟩⟩⟩))
 ·exact(hG rfl).trans<|(hG rfl).trans rfl
 ·exact mW _ _ fun k hk=>⟨_,rfl,fun σ2 hE=>bR<|aB rfl<|aF ⟨_,.tup _ 1 _ (zD T0) rfl,rfl,rfl⟩⟩
 exact aE<|rQ rfl (by rw[cL,bS,List.length_range];simp;exact aM (fV h13 1) (aD rfl))<|aE ⟨aD rfl,fin _⟩
end
noncomputable def aNL(r:Str×Int×Int):V:=.tup [.str r.1,.int r.2.1,.int r.2.2]
structure aNi(j:Nat):Prop where
 d:("offset="++iP ((j:Int)*977),(j:Int)*977)∈oZ
 h:("offset="++baseText "0x" 16 ((j:Int)*977),(j:Int)*977)∈oZ
 f:pV (baseText "0x" 16 ((j:Int)*977))=true
 z:(baseText "0x" 16 ((j:Int)*977)).length≤100
theorem aLp(j:Nat)(h:j<5):aNi j:=by
 have:∀j:Nat,j<5→(("offset=":Str)++iP ((j:Int)*977),(j:Int)*977)∈oZ∧(("offset=":Str)++baseText "0x" 16 ((j:Int)*977),(j:Int)*977)∈oZ∧pV (baseText "0x" 16 ((j:Int)*977))=true∧(baseText "0x" 16 ((j:Int)*977)).length≤100:=by decide+kernel
 obtain⟨a,b,c,d⟩:=this j h
 exact⟨a,b,c,d⟩
theorem aLn(j:Nat)(h:j<5):(("align=":Str)++iP ((2:Int)^((j:Nat):Int).toNat),(j:Int))∈sK∧((2:Int)^((j:Nat):Int).toNat).natAbs<100:=by
 have:∀j:Nat,j<5→(("align=":Str)++iP ((2:Int)^((j:Nat):Int).toNat),(j:Int))∈sK∧((2:Int)^((j:Nat):Int).toNat).natAbs<100:=by decide+kernel
 exact this j h
noncomputable def aFq(p:Str×Int):V:=.str p.1
inductive MmK(τ:aA)(D:Addr)(w:Str)(off:Int)(loc0 loc:aX)(σ':aA):Prop
 |mk (a:Ag [] loc loc0) (o:Option (Str×Int)) (ho:∀p∈o,p∈oZ) (e:(o.map (·.2)).getD 0=off) (hs:σ'=upd D (.lst (.str w::o.toList.map aFq)) τ)
inductive MmA(τ:aA)(D:Addr)(w:Str)(o:Option (Str×Int))(a0:Int)(loc0 loc:aX)(σ':aA):Prop
 |mk (a:Ag ["align"] loc loc0) (al:Option (Str×Int)) (ha:∀p∈al,p∈sK) (l:loc.lookup ("align":Str)=some (.val (.int ((al.map (·.2)).getD a0)))) (hs:σ'=upd D (.lst (.str w::(o.toList++al.toList).map aFq)) τ)
section
variable{md:Md}{loc:aX}{σ τ:aA}{X:bF→Prop}
theorem aIW{x y z:Str}{px py pz p0 pos:Pos}{e:Expr}{k:Nat}{Q:gA→aX→aA→Prop}(hd:md.hd=none)(hx:locals md.sc [x,y,z]=true)(hw:swappedStores [.Tuple [.Name x px,.Name y py,.Name z pz] k p0] e (aAN md.sc)=pure none)(hc:gN e=true)
  (h:cP X σ loc md (fun v σ'=>∃a b c,v=.tup [a,b,c]∧Q .next (qB [x,y,z] [a,b,c] loc) σ') e):sY md (.Assign [.Tuple [.Name x px,.Name y py,.Name z pz] k p0] e pos) loc σ Q X:=
 bD (ns:=[x,y,z]) (o:=none) hd rfl hx hw (.inl rfl) (h.mono (fun v σ' ⟨a,b,c,h1,h2⟩=>⟨[a,b,c],h1,rfl,rwL (if_pos rfl) h2⟩) fun Z z=>z) hc
theorem qI.mono{e:Expr}{Q Q':Bool→aA→Prop}(h:qI md e loc σ Q X)(hQ:∀b σ',Q b σ'→Q' b σ'):qI md e loc σ Q' X:=fun A env m s S=>wpAny_mono (h A env m s S) (fun b s' ⟨σ',h1,h2,h3⟩=>⟨σ',hQ _ _ h1,h2,h3⟩) fun Z Z z=>z
theorem aJ6{τ:aA}(c:Bool){e:Expr}{Q:Bool→aA→Prop}(h:qI md e loc σ (fun v σ'=>v=c∧σ'=τ) X)(k:Q c τ):qI md e loc σ Q X:=
 qI.mono h fun v σ' q=>by obtain⟨e,e2⟩:=q;subst e e2;exact k
variable{L:Addr}{x:Int}{names:List Str}{Qf:gA→aX→aA→Prop}
theorem aLv(C:Cx G)(H:SgH σ τ L x names loc Qf):Hd (jC X τ loc aAD Qf (sgB 7)):=by
 refine⟨?_⟩
 refine aG ?_
 refine iU 4 (V.lst ((wE.take 4).map aNL)) ?_ ?_ ?_
 ·rfl
 ·kernel_rfl
 refine aG ?_
 refine aIW ?_ ?_ ?_ ?_ ?_
 ·rfl
 ·rfl
 ·rfl
 ·rfl
 refine bR ?_
 refine sX 4 (V.lst (wE.map aNL)) ?_ ?_
 ·kernel_rfl
 refine aP<|cV H.lx H.c.x<|aF ⟨_,.mod _ _ (zD T0),?_⟩
 obtain⟨k1,k2⟩:=gH (a:=x) (n:=6) (aD rfl)
 refine rwL (show x.fmod 6=_ from k2) ?_
 obtain⟨r,hr,hm⟩:=aCi (l:=wE) k1 rfl
 refine jY (aD rfl) hr ⟨_,_,_,rfl,?_⟩
 refine cG rfl<|bJ<|aQ rfl ⟨aD rfl,.inr fun D hD=>?_⟩
 have hcD:L+1≠D:=dS H.c.x hD
 have lx:loc.lookup ("x":Str)=some (.cell (L+1)):=H.lx
 refine aG<|lF lx rfl<|aP<|cV lx ((aR _ _ hcD).trans H.c.x)<|aF ⟨_,.fdiv _ _ (zD T0) (aD rfl),?_⟩
 refine rwL (kC hcD.symm) ?_
 have c1:=H.c.set (y:=x.fdiv 6)
 have hD1:upd (L+1) (.cell (.int (x.fdiv 6))) τ D=none:=(aR _ _ hcD.symm).trans hD
 generalize upd (L+1) (.cell (.int (x.fdiv 6))) τ=τ1 at c1 hD1 ⊢
 generalize x.fdiv 6=y at c1
 have cx:∀{m},upd D m τ1 (L+1)=some (.cell (.int y)):=fun{m}=>(aR _ _ hcD).trans c1.x
 obtain⟨j1,j2⟩:=gH (a:=y) (n:=5) (aD rfl)
 refine cG rfl<|aP<|aP<|cV lx cx<|aF ⟨_,.mod _ _ (zD T0),aF ⟨_,.mul _ _ ?_,?_⟩⟩
 ·refine rwL (show y.fmod 5=_ from j2) ?_
  exact Nat.lt_of_lt_of_le ‹_› (aD rfl)
 refine rwL (show y.fmod 5=_ from j2) ?_
 generalize (y.fmod 5).toNat=j at j1
 have O:=aLp j j1
 have dj:=mP (n:=(j:Int)*977) ((by exact zD T0:∀j:Nat,j<5→((j:Int)*977).natAbs<10^20) j j1)
 refine nJ (MmK τ1 D r.1 ((j:Int)*977)) ?_ ?_
 ·refine gQ<|qI.mono (Q:=fun b σ'=>(b=false→j=0)∧σ'=upd D (.lst [.str r.1]) τ1) ?_ fun b σ' ⟨h1,h2⟩=>?_
  ·refine fJ<|aV<|aB rfl<|aF ⟨decide (0<(j:Int)*977),rfl,dN (fun Z=>⟨nofun,rfl⟩) fun h=>?_⟩
   refine fJ<|aV<|aP<|cV lx cx<|aF ⟨_,.mod _ _ (zD T0),aF ⟨_,cS _ _,dN (fun Z=>⟨nofun,rfl⟩) fun Z=>eO ⟨fun Z=>?_,rfl⟩⟩⟩
   have:=of_decide_eq_false h;exact(zD T0:∀j:Nat,j<5→¬0<(j:Int)*977→j=0) j j1 this
  subst h2
  refine dN (fun Z=>?_) fun h=>?_
  ·refine cW<|bM rfl<|aB rfl ⟨D,_,rfl,aI ..,cP.mono (Q:=fun v σ'=>(∃p:Str×Int,p∈oZ∧p.2=(j:Int)*977∧v=.str p.1)∧σ'=upd D (.lst [.str r.1]) τ1) ?_ (fun v σ' ⟨⟨p,hp,hp2,h1⟩,h2⟩=>?_) fun Z z=>z⟩
   ·refine aP<|aN (by kernel_rfl)<|bX<|aV<|aP<|cV lx cx<|aF ⟨_,.mod _ _ (zD T0),aF ⟨_,cS _ _,dN (fun Z=>?_) fun Z=>?_⟩⟩
    ·exact cY (vF C) rfl (eI _) rfl rfl<|aQ rfl<|jN (lA ((by exact zD T0:∀j:Nat,j<5→((j:Int)*977).natAbs<2^70) j j1)) dj.fit ⟨_,.cat _ _ (aM (fV dj.len _) (aD rfl)),⟨_,O.d,rfl,rfl⟩,rfl⟩
    ·exact cY (aNZ C) rfl (aO _) rfl rfl<|aQ rfl<|aL0 (dI O.f) ⟨_,.cat _ _ (aM (fV O.z _) (aD rfl)),⟨_,O.h,rfl,rfl⟩,rfl⟩
   subst h1 h2
   refine⟨_,aI ..,aD rfl,aH ⟨.refl,some p,fun q hq=>by obtain rfl:=bE hq;exact hp,hp2,bK⟩⟩
  ·exact aH ⟨.refl,none,nofun,by rw[h1 h];rfl,rfl⟩
 rintro loc2 σ2 ⟨A2,o,ho,e1,rfl⟩
 have lx2:loc2.lookup ("x":Str)=some (.cell (L+1)):=(A2 "x" rfl).trans lx
 obtain⟨i1,i2⟩:=gH (a:=y.fdiv 10) (n:=5) (aD rfl)
 have hz:o.toList.length≤1:=by cases o <;> simp
 refine nJ (MmA τ1 D r.1 o r.2.2) ?_ ?_
 ·refine gQ<|aV<|aP<|aP<|cV lx2 cx<|aF ⟨_,.fdiv _ _ (zD T0) (aD rfl),aF ⟨_,.mod _ _ (zD T0),aF ⟨_,cS _ _,dN (fun Z=>?_) fun Z=>?_⟩⟩⟩
  ·refine cG rfl<|aP<|aP<|cV lx2 cx<|aF ⟨_,.fdiv _ _ (zD T0) (aD rfl),aF ⟨_,.mod _ _ (zD T0),?_⟩⟩
   refine rwL (show(y.fdiv 10).fmod 5=_ from i2) ?_
   generalize ((y.fdiv 10).fmod 5).toNat=i at i1
   obtain⟨hi,hi2⟩:=aLn i i1
   have di:=mP (n:=(2:Int)^((i:Nat):Int).toNat) ((by exact zD T0:∀i:Nat,i<5→((2:Int)^(i:Int).toNat).natAbs<10^20) i i1)
   refine cW<|bM rfl<|aB ((A2 "texts" rfl).trans rfl) ⟨D,_,rfl,aI ..,aP<|aN (by kernel_rfl)<|cY (vF C) rfl (eI _) rfl rfl<|aC (aP<|aF<|aB rfl ⟨_,.pow _ _ (Int.natCast_nonneg i) (Int.ofNat_le.mpr (aM (Nat.le_of_lt i1) (aD rfl))) (aD rfl),aE<|jN (lA ((by exact zD T0:∀i:Nat,i<5→((2:Int)^(i:Int).toNat).natAbs<2^70) i i1)) di.fit ⟨_,.cat _ _ (aM (fV di.len _) (aD rfl)),?_⟩⟩)⟩
   refine⟨_,aI ..,rwL eX (rwL (bS _) (aM (fM hz) (by exact aD rfl))),aH ⟨Ag.set .refl rfl,some _,fun p hp=>by obtain rfl:=bE hp;exact hi,rfl,?_⟩⟩
   refine rwL bK ?_
   refine rwL eD ?_
   rfl
  ·exact aH ⟨.refl,none,nofun,(A2 "align" rfl).trans rfl,rwL (show(none:Option (Str×Int)).toList=[] from rfl) (rwL (List.append_nil _) rfl)⟩
 rintro loc3 σ3 ⟨A3,al,ha,la,rfl⟩
 have fin:=H.q _ _ (.mem r hm o al ho ha) τ1 y c1
 replace fin:=e1▸fin
 have e2:fU (.s r.1::(o.toList++al.toList).map fun p=>.s p.1)=.str r.1::(o.toList++al.toList).map aFq:=by rw[gG,List.map_cons,List.map_map];rfl
 unfold sgV at fin
 replace fin:=e2▸fin
 refine bZ<|aT<|aC (aHi<|aB ((A3 "texts" rfl).trans ((A2 "texts" rfl).trans rfl)) ⟨_,_,.lst D _ (aI ..),?_⟩)
 refine rwL (aU hD1) ?_
 exact aC (aT<|aC (aB ((A3 "code" rfl).trans ((A2 "code" rfl).trans rfl))<|aC (aB la<|aC (aB ((A3 "offset" rfl).trans ((A2 "offset" rfl).trans rfl))<|aE ⟨aD rfl,aE ⟨aD rfl,fin _⟩⟩))))
end
noncomputable def kdV(p:Str×Int):V:=.int p.2
noncomputable def kvL:List (Str×Int):=[("i32",-1),("i64",-2),("externref",-17)]
theorem aLh:∀p∈kvL,iY (kvL.map (·.1)) ((kvL.map (·.2)).map V.int) p.1=some (.int p.2):=by
 intro p hp
 rcases eM hp with rfl|hp
 ·rfl
 rcases eM hp with rfl|hp
 ·rfl
 rcases eM hp with rfl|hp
 ·rfl
 cases hp
section
variable{md:Md}{loc:aX}{σ τ:aA}{X:bF→Prop}
variable{L:Addr}{x:Int}{names:List Str}{Qf:gA→aX→aA→Prop}
theorem aLG(C:Cx G)(H:SgH σ τ L x names loc Qf):Hd (jC X τ loc aAD Qf (sgB 8)):=by
 refine⟨?_⟩
 have one:∀r∈yL,∀l,Qf (.ret (sgV [.s "ref.null",.s r.1] [208,r.2])) l τ:=fun r hr=>H.q _ _ (.ref r hr) τ x H.c
 have dU:∃r∈yL,(if(x.fdiv 2).fmod 2=0 then("func":Str) else("extern":Str))=r.1∧(if(x.fdiv 2).fmod 2=0 then(-16:Int) else -17)=r.2:=by
  split
  ·exact⟨("func",-16),by exact zD T0,rfl,rfl⟩
  ·exact⟨("extern",-17),by exact zD T0,rfl,rfl⟩
 obtain⟨r,hr,e1,e2⟩:=dU
 have fin:=one r hr
 rw[←e1,←e2] at fin
 refine bZ<|aT<|aC (bJ<|aC<|aN (by kernel_rfl)<|aC (bX<|aV<|aP<|aP<|cV H.lx H.c.x<|aF ⟨_,.fdiv _ _ (zD T0) (aD rfl),aF ⟨_,.mod _ _ (zD T0),aF ⟨_,cS _ _,?_⟩⟩⟩))
 by_cases h:(x.fdiv 2).fmod 2=0
 ·rw[if_pos h,if_pos h] at fin
  exact bI (decide_eq_true h)<|aN (by kernel_rfl)<|aE ⟨aD rfl,.inl<|aC (aT<|aC<|aF<|aC (bX<|aV<|aP<|aP<|cV H.lx H.c.x<|aF ⟨_,.fdiv _ _ (zD T0) (aD rfl),aF ⟨_,.mod _ _ (zD T0),aF ⟨_,cS _ _,bI (decide_eq_true h)<|oO<|aF ⟨16,rfl,aE ⟨aD rfl,aE ⟨aD rfl,fin _⟩⟩⟩⟩⟩⟩))⟩
 ·rw[if_neg h,if_neg h] at fin
  exact bB (decide_eq_false h)<|aN (by kernel_rfl)<|aE ⟨aD rfl,.inl<|aC (aT<|aC<|aF<|aC (bX<|aV<|aP<|aP<|cV H.lx H.c.x<|aF ⟨_,.fdiv _ _ (zD T0) (aD rfl),aF ⟨_,.mod _ _ (zD T0),aF ⟨_,cS _ _,bB (decide_eq_false h)<|oO<|aF ⟨17,rfl,aE ⟨aD rfl,aE ⟨aD rfl,fin _⟩⟩⟩⟩⟩⟩))⟩
theorem aMn(C:Cx G)(H:SgH σ τ L x names loc Qf):Hd (jC X τ loc aAD Qf ((zP (eY pB 107)).drop 9)):=by
 refine⟨?_⟩
 refine aG ?_
 refine tL ?_ ?_ ?_
 ·rfl
 ·refine bR ?_
  refine sX 4 (V.lst (sP.map fun l=>V.lst (l.map aFq))) ?_ ?_
  ·kernel_rfl
  refine aP<|aP<|cV H.lx H.c.x<|aF ⟨_,.fdiv _ _ (zD T0) (aD rfl),aF ⟨_,.mod _ _ (zD T0),?_⟩⟩
  obtain⟨k1,k2⟩:=gH (a:=x.fdiv 2) (n:=4) (aD rfl)
  refine rwL (show(x.fdiv 2).fmod 4=_ from k2) ?_
  obtain⟨r,hr,hm⟩:=aCi (l:=sP) k1 rfl
  refine jY (aD rfl) hr ?_
  have hks:∀p∈r,p∈kvL:=by
   have:∀r∈sP,∀p∈r,p∈kvL:=by exact zD T0
   exact this r hm
  have hz:r.length≤2:=by
   have:∀r∈sP,r.length≤2:=by exact zD T0
   exact this r hm
  have fin:=H.q _ _ (.sel r hm) τ x H.c
  have e2:sgV [.s "select",.l (.s "result"::r.map fun p=>.s p.1)] (28::r.map (·.2))=.tup [.lst [.str "select",.lst ([.str "result"]++r.map aFq)],.tup ([.int 28]++r.map kdV)]:=by
   unfold sgV
   show V.tup [.lst [.str "select",.lst (.str "result"::fU (r.map fun p=>.s p.1))],.tup (.int 28::(r.map (·.2)).map V.int)]=_
   refine rwL (gG _) ?_
   refine rwL List.map_map ?_
   refine rwL List.map_map ?_
   rfl
  replace fin:=e2▸fin
  refine aG<|oG (cl:=[]) rfl rfl rfl ((hG rfl).trans<|(hG rfl).trans rfl) rfl ?_
  refine fE<|aB rfl ⟨_,.lst _,r.map kdV,by rw[bS];exact aM ‹_› (aD rfl),?_,.inl ?_⟩
  ·refine mW aFq kdV fun p hp=>⟨_,rfl,fun σ2 hE=>?_⟩
   refine bR<|uZ (ks:=kvL.map (·.1)) (is:=kvL.map (·.2)) (.cons ⟨_,_,_⟩<|.cons ⟨_,_,_⟩<|.cons ⟨_,_,_⟩ .nil) (by exact zD T0) (fun k hk=>dI (by
    have:∀k∈kvL.map (·.1),pV k=true:=by decide+kernel
    exact this k hk)) rfl nofun (aD rfl) ⟨_,_,rfl,.neg ..,_,_,rfl,.neg ..,_,_,rfl,.neg ..,rfl⟩<|aB rfl ⟨_,.sdc _ _ _ _ ?_,rfl,rfl⟩
   exact aLh p (hks p hp)
  refine bZ<|aT<|aC (bJ<|aC<|aN (by kernel_rfl)<|aC (jG<|bJ<|aC<|aN (by kernel_rfl)<|aE ⟨aD rfl,.inl<|aB rfl ⟨_,_,rfl,rfl,by rw[bS];simp;exact aM (fV hz 1) (aD rfl),.inl<|aE ⟨aD rfl,.inl ?_⟩⟩⟩))
  refine aC (cY (uM C) rfl (eI _) rfl rfl<|aC (jG<|bJ<|aC<|aF<|aE ⟨aD rfl,.inl<|aB rfl ⟨_,_,rfl,rfl,by rw[bS];simp;exact aM (fV hz 1) (aD rfl),.inl<|aE<|rQ rfl (by rw[cL,bS];simp;exact aM (fV hz 1) (aD rfl))<|aE ⟨aD rfl,fin _⟩⟩⟩))
 ·rfl
end
section
variable{md:Md}{loc:aX}{σ τ:aA}{X:bF→Prop}
theorem aF8(C:Cx G){x:Int}{names:List Str}{Q:V→aA→Prop}(hz:names.length≤100)(hq:∀txs told,qO names txs told→Q (sgV txs told) σ):aW Q σ X 3 (.ref 608) [.int x,.lst (names.map V.str)]:=by
 refine(aFS (n:=2) (cs:=aAX) (gV (ps:=["x","labels"]) C rfl rfl rfl rfl (tA fun Z Z Z=>.of_eq rfl)) (fun L=>by rfl) (fun L x hx=>?_) (fun L=>show(["labels","x"]:List Str).Nodup by exact zD T0) (fun p hp=>?_) rfl fun L hL hc=>?_).w
 ·simp only[aAX,List.mem_cons,List.not_mem_nil,or_false] at hx
  rcases hx with rfl|rfl <;> rfl
 ·simp only[List.mem_cons,List.not_mem_nil,or_false] at hp
  rcases hp with rfl|rfl
  ·exact .inr ⟨rfl,fun L=>rfl⟩
  ·exact .inr ⟨rfl,fun L=>rfl⟩
 have c1:σ (L+1)=none:=hc ("x",L+1) (by simp)
 have c2:σ (L+2)=none:=hc ("labels",L+2) (by simp)
 have n12:L+1≠L+2:=Nat.ne_of_lt (Nat.lt_succ_self _)
 have H0:Cs σ (stC σ L (aAX L) ((["x","labels"]:List Str).zip [.int x,.lst (names.map V.str)])) L x (.lst (names.map V.str)):=
  ⟨(aR _ _ n12).trans (aI ..),aI ..,fun b h0 h1 h2=>(aR _ _ h2).trans ((aR _ _ h1).trans (aR _ _ h0))⟩
 generalize stC σ L (aAX L) ((["x","labels"]:List Str).zip [.int x,.lst (names.map V.str)])=τ at H0 ⊢
 refine cG rfl ?_
 refine aP<|cV rfl H0.x<|aF ⟨_,.mod _ _ (zD T0),?_⟩
 obtain⟨k1,k2⟩:=gH (a:=x) (n:=8) (aD rfl)
 refine rwL (show x.fmod 8=_ from k2) ?_
 generalize (x.fmod 8).toNat=k at k1
 refine aG ?_
 refine lF rfl rfl<|aP<|cV rfl H0.x<|aF ⟨_,.fdiv _ _ (zD T0) (aD rfl),?_⟩
 have H1:=H0.set (y:=x.fdiv 8)
 generalize upd (L+1) (.cell (.int (x.fdiv 8))) τ=τ1 at H1 ⊢
 have hS:∀{loc':aX} {Qf:gA→aX→aA→Prop},loc'.lookup ("x":Str)=some (.cell (L+1))→loc'.lookup ("labels":Str)=some (.cell (L+2))→(∀v l s,Q v (sT s L (aAX L))→Qf (.ret v) l s)→SgH σ τ1 L (x.fdiv 8) names loc' Qf:=fun l1 l2 h=>
  ⟨H1,l1,l2,hz,fun txs told ok τ2 y c l=>h _ _ _ (rwL (c.out hL c1 c2) (hq txs told ok))⟩
 refine eB rfl ?_
 refine aF ⟨decide ((k:Int)<2),rfl,dN (fun Z=>?_) fun Z=>aH ?_⟩
 ·refine Hd.out ?_
  exact aLX C (hS rfl rfl fun v l s q=>q)
 refine eB rfl ?_
 refine aF ⟨_,cS _ _,dN (fun Z=>?_) fun Z=>aH ?_⟩
 ·refine Hd.out ?_
  exact aMi C (hS rfl rfl fun v l s q=>q)
 refine eB rfl ?_
 refine aF ⟨_,cS _ _,dN (fun Z=>?_) fun Z=>aH ?_⟩
 ·refine Hd.out ?_
  exact aK6 C (hS rfl rfl fun v l s q=>q)
 refine eB rfl ?_
 refine aF ⟨_,cS _ _,dN (fun Z=>?_) fun Z=>aH ?_⟩
 ·refine Hd.out ?_
  exact aNx C (hS rfl rfl fun v l s q=>q)
 refine eB rfl ?_
 refine aF ⟨_,cS _ _,dN (fun Z=>?_) fun Z=>aH ?_⟩
 ·refine Hd.out ?_
  exact aKJ C (hS rfl rfl fun v l s q=>q)
 refine eB rfl ?_
 refine aF ⟨_,cS _ _,dN (fun Z=>?_) fun Z=>aH ?_⟩
 ·refine Hd.out ?_
  exact aLv C (hS rfl rfl fun v l s q=>q)
 refine qZ ?_
 refine aV<|aP<|cV rfl H1.x<|aF ⟨_,.mod _ _ (zD T0),aF ⟨_,cS _ _,dN (fun Z=>?_) fun Z=>aH ?_⟩⟩
 ·refine Hd.out ?_
  exact aLG C (hS rfl rfl fun v l s q=>q)
 refine Hd.out ?_
 exact aMn C (hS rfl rfl fun v l s q=>q)
end
inductive Nd where
 |leaf (f:Int) (txs:List Tx) (told:List Int) (kids:List Nd)
 |blk (f w kind:Int) (name:Str) (ahead:List Tx) (asked first:List Nd) (dU:Bool) (second:List Nd)
noncomputable def dR(w:Int):Str:=if w=2 then "block" else if w=3 then "loop" else "if"
noncomputable def iT(name:Str):List Tx:=if name≠"" then[.s name] else[]
noncomputable def dT(w:Int)(name:Str)(ahead:List Tx):List Tx:=[.s (dR w)]++iT name++ahead
mutual
noncomputable def ndV:Nd→V
 |.leaf f txs told kids=>.tup [.int f,.lst (fU txs),.tup (told.map V.int),.lst (jO kids),.none,.none,.str ""]
 |.blk f w kind name ahead asked first dU second=>.tup [.int f,.lst (fU (dT w name ahead)),.tup [.int w,.int kind],.lst (jO asked),.lst (jO first),if dU=true then .lst (jO second) else .none,.str name]
noncomputable def jO:List Nd→List V
 |[]=>[]
 |x::xs=>ndV x::jO xs
noncomputable def xL:Nd→Nat
 |.leaf _ _ _ kids=>1+eU kids
 |.blk _ _ _ _ _ asked first _ second=>1+eU asked+eU first+eU second
noncomputable def eU:List Nd→Nat
 |[]=>0
 |x::xs=>xL x+eU xs
end
theorem gP:∀l:List Nd,jO l=l.map ndV
 |[]=>rfl
 |x::xs=>by rw[jO,gP xs];rfl
theorem uI(l m:List Nd):eU (l++m)=eU l+eU m:=by
 induction l with
 |nil=>rw[List.nil_append,eU,Nat.zero_add]
 |cons x l ih=>rw[List.cons_append,eU,eU,ih,Nat.add_assoc]
noncomputable def fY:List (List Tx×Int):=[([],-64),([.l [.s "result",.s "i32"]],-1),([.l [.s "param"],.l [.s "result",.s "i64"]],-2),([.l [.s "result"]],-64),([.l [.s "result",.s "funcref"]],-16)]
noncomputable def iD:List Str:=["","$l","$m","$l1","$l2","$l3","$l4"]
inductive gE:Nat→List Str→Nd→Prop
 |leaf {d:Nat} {names:List Str} {f:Int} {txs:List Tx} {told:List Int} {kids:List Nd} (hf:0≤f∧f<3) (hs:qO names txs told) (hk:∀k∈kids,gE d names k):gE (d+1) names (.leaf f txs told kids)
 |blk {d:Nat} {names:List Str} {f w kind:Int} {name:Str} {ahead:List Tx} {asked first second:List Nd} {dU:Bool} (hf:0≤f∧f<3) (hw:w=2∨w=3∨w=4) (hn:name∈iD) (ha:(ahead,kind)∈fY)
   (h1:∀k∈asked,gE d names k) (h2:∀k∈first,gE d (names++[name]) k) (h3:∀k∈second,gE d (names++[name]) k) (i1:w≠4→asked=[]∧dU=false) (i2:dU=false→second=[]):gE (d+1) names (.blk f w kind name ahead asked first dU second)
section
variable{md:Md}{loc:aX}{σ:aA}{X:bF→Prop}
theorem aFR(C:Cx G){p:Addr}{l d:V}{Q:V→aA→Prop}(hq:Q (.lst []) σ):aW Q σ X 1 (.ref 622) [.ref p,l,d,.int 0]:=by
 refine jQ (aZ (n:=0) (gV (ps:=["pen","labels","depth","many"]) C rfl rfl rfl rfl (bt4 fun Z Z Z Z Z=>.of_eq rfl)) (zD T0) (zD T0) rfl fun L hL=>?_)
 refine cG rfl<|bJ<|aE ⟨aD rfl,.inr fun D hD=>?_⟩
 have hDL:D≠L:=(dS (aI ..) hD).symm
 have hDσ:σ D=none:=by rw[aR _ _ hDL] at hD;exact hD
 refine aG<|kH rfl rfl<|fE<|cY (uO C) rfl (eI _) rfl rfl<|aQ rfl<|rZ ⟨_,.rng 0 (aD rfl),?_⟩
 refine bZ<|aB rfl ⟨_,_,.lst D _ ((dP _ hDL).trans (aI ..)),?_⟩
 refine rwL (cF hDL) ?_
 refine rwL (aU hL) ?_
 refine rwL (aU hDσ) ?_
 exact hq
noncomputable def aJ9(X:bF→Prop)(d:Nat):Prop:=∀{σ:aA} {p:Addr} {ns:List Int} {a b:Nat} {names:List Str} {Q:V→aA→Prop},σ p=some (fG ns a b)→ns.length≤1000→0<b→a+4*b≤100→names.length+d≤90→
 (∀nd (a' b':Nat),gE (d+1) names nd→xL nd+b'=b→a'+4*b'≤a+4*b→Q (ndV nd) (upd p (fG ns a' b') σ))→aW Q σ X (2*d+6) (.ref 615) [.ref p,.lst (names.map V.str),.int d]
noncomputable def aCx(X:bF→Prop)(d:Nat):Prop:=∀{σ:aA} {p:Addr} {ns:List Int} {a b many:Nat} {names:List Str} {Q:V→aA→Prop},σ p=some (fG ns a b)→ns.length≤1000→a+4*b≤100→many≤4→names.length+d≤90→
 (∀nds (a' b':Nat),(∀nd∈nds,gE (d+1) names nd)→eU nds+b'=b→a'+4*b'≤a+4*b→Q (.lst (jO nds)) (upd p (fG ns a' b') σ))→aW Q σ X (2*d+7) (.ref 622) [.ref p,.lst (names.map V.str),.int d,.int many]
inductive TrJ(σ1:aA)(p D:Addr)(ns:List Int)(b0 m0:Nat)(d:Nat)(names:List Str)(loc0:aX)(rest:List Nat)(loc:aX)(σ':aA):Prop
 |mk (a b:Nat) (nds:List Nd) (e:σ'=upd D (.lst (jO nds)) (upd p (fG ns a b) σ1)) (A:Ag ["turn"] loc loc0) (h1:∀nd∈nds,gE (d+1) names nd) (h2:eU nds+b=b0) (h3:a+4*b≤m0) (z:nds.length+rest.length≤4)
theorem aEc(C:Cx G){d:Nat}(T:aJ9 X d):aCx X d:=by
 intro σ p ns a b many names Q hp hns hab hm hnm hq
 refine jQ (aZ (n:=2*d+6) (gV (ps:=["pen","labels","depth","many"]) C rfl rfl rfl rfl (bt4 fun Z Z Z Z Z=>.of_eq rfl)) (zD T0) (zD T0) rfl fun L hL=>?_)
 have hpL:=dS hp hL
 refine cG rfl<|bJ<|aE ⟨aD rfl,.inr fun D hD=>?_⟩
 have hp1:upd L .mark σ p=some (fG ns a b):=bV hp hL
 have hpD:=dS hp1 hD
 have hDL:D≠L:=(dS (aI ..) hD).symm
 have hDσ:σ D=none:=by rw[aR _ _ hDL] at hD;exact hD
 refine aG<|kH rfl rfl<|fE<|cY (uO C) rfl (eI _) rfl rfl<|aQ rfl<|rZ ⟨_,.rng many (aM hm (aD rfl)),?_⟩
 refine pS (fun k:Nat=>V.int k) (TrJ (upd L .mark σ) p D ns b (a+4*b) d names) ?_ ?_ (List.range many) ⟨a,b,[],by rw[xA hp1];rfl,.refl,gR,by rw[eU,Nat.zero_add],bO _,by rw[List.length_range];simpa using hm⟩
 ·rintro k rest loc' σ' ⟨a1,b1,nds,rfl,A,h1,h2,h3,z⟩
  replace z:=eX▸z
  refine⟨_,rfl,?_⟩
  have lp:loc'.lookup ("pen":Str)=some (.val (.ref p)):=(A "pen" rfl).trans rfl
  have hpp:upd D (.lst (jO nds)) (upd p (fG ns a1 b1) (upd L .mark σ)) p=some (fG ns a1 b1):=(aR _ _ hpD).trans (aI ..)
  refine nZ<|bR<|aB lp<|aF ⟨_,.lst _ _ 2 _ (dA hpp) (zD T0) rfl,aF ⟨decide (0<(b1:Int)),rfl,dN (fun hb=>?_) fun hb=>?_⟩⟩
  ·refine cW<|bM rfl<|aB ((A "found" rfl).trans rfl) ⟨D,_,rfl,aI ..,aY (n:=2*d+6) (aBs C) (aS C rfl) rfl (bO _) rfl<|aC (aB lp<|aC (aB ((A "labels" rfl).trans rfl)<|aC (aB ((A "depth" rfl).trans rfl)<|aE<|T hpp hns (Int.ofNat_lt.mp (of_decide_eq_true hb)) (aM h3 hab) hnm fun nd a2 b2 ho hs hab2=>⟨_,(aR _ _ hpD.symm).trans (aI ..),rwL (gP _) (rwL (bS _) (aM (eL _ _) (aM z (by exact aD rfl)))),?_⟩)))⟩
   unfold fG at hab2 ⊢
   refine rwL (aKA hpD) ?_
   exact aH<|aH ⟨a2,b2,nds++[nd],by rw[gP,gP,eD];rfl,A.set rfl,fun x hx=>(gK hx).elim (h1 x) fun q=>by cases eR q;exact ho,by rw[uI,eU,eU];lia,aM hab2 h3,by rw[cL];simp;exact aM (dH (Nat.add_right_comm _ 1 _)) z⟩
  ·exact aH<|aH ⟨a1,b1,nds,rfl,A.set rfl,h1,h2,h3,aM (Nat.le_succ _) z⟩
 ·rintro loc' σ' ⟨a1,b1,nds,rfl,A,h1,h2,h3,z⟩
  refine bZ<|aB ((A "found" rfl).trans rfl) ⟨_,_,.lst D _ ((dP _ hDL).trans (aI ..)),?_⟩
  refine rwL (cF hDL) ?_
  refine rwL (cF hpL) ?_
  refine rwL (aU hL) ?_
  refine rwL (aU (by exact rwL (aR _ _ hpD.symm) hDσ)) ?_
  exact hq nds a1 b1 h1 h2 h3
theorem aW.up{n m:Nat}{f:Value}{args:List V}{Q:V→aA→Prop}(h:aW Q σ X n f args)(hn:n≤m):aW Q σ X m f args:=fun md A env m' loc s vals h1 h2 h3 h4=>h md A env m' loc s vals (aM hn h1) h2 h3 h4
noncomputable def aLT(X:bF→Prop)(d:Nat):Prop:=∀{σ:aA} {p:Addr} {ns:List Int} {a b many:Nat} {names:List Str} {Q:V→aA→Prop},σ p=some (fG ns a b)→ns.length≤1000→a+4*b≤100→many≤4→(many≠0→1≤d)→names.length+d≤91→
 (∀nds (a' b':Nat),(∀nd∈nds,gE d names nd)→eU nds+b'=b→a'+4*b'≤a+4*b→Q (.lst (jO nds)) (upd p (fG ns a' b') σ))→aW Q σ X (2*d+5) (.ref 622) [.ref p,.lst (names.map V.str),.int ((d:Int) - 1),.int many]
theorem aJZ(C:Cx G){d:Nat}(T:∀d',d=d'+1→aCx X d'):aLT X d:=by
 intro σ p ns a b many names Q hp hns hab hm hd hnm hq
 induction d with
 |zero=>
  have h0:many=0:=Classical.byContradiction fun q=>by cases hd q
  subst h0
  refine(aFR C ?_).up (aD rfl)
  have:=hq [] a b gR (by rw[eU,Nat.zero_add]) (bO _)
  replace this:=(xA hp)▸this
  exact this
 |succ d'=>
  refine rwL (show(((d'+1:Nat):Int) - 1)=(d':Int) by exact Int.add_sub_cancel (d':Int) 1) ?_
  exact T d' rfl hp hns hab hm (Nat.le_of_succ_le_succ hnm) hq
theorem nO(C:Cx G){d:Nat}(T:aLT X d){lx:Str}{q1 q2 q3 q4 q5 q6 q7 q8 q9 q10 q11 q12:Pos}{k1 k2 m:Nat}{p:Addr}{ns:List Int}{a b:Nat}{names:List Str}{Q:V→aA→Prop}(hd:md.hd=none)(hn:2*d+5≤md.n)(hg:md.sc.lookup ("_law_trees":Str)=some .globalImplicit)(hg2:md.sc.lookup ("_law_next":Str)=some .globalImplicit)
  (l1:loc.lookup ("pen":Str)=some (.val (.ref p))) (l2:loc.lookup lx=some (.val (.lst (names.map V.str)))) (l3:loc.lookup ("depth":Str)=some (.val (.int d))) (hp:σ p=some (fG ns a b)) (hns:ns.length≤1000) (hab:a+1+4*b≤100) (hm:0<m∧m≤4) (h1:1≤d) (hnm:names.length+d≤91)
  (hq:∀nds (a' b':Nat),(∀nd∈nds,gE d names nd)→eU nds+b'=b→a'+4*b'≤a+1+4*b→Q (.lst (jO nds)) (upd p (fG ns a' b') σ)) (dx:(lx==("__debug__":Str))=false:=by exact zD T0):
  cP X σ loc md Q (.Call (.Name "_law_trees" q1) [.Name "pen" q2,.Name lx q3,.BinOp (.Name "depth" q4) .Sub (.Constant (.int 1) k1 q5) q6,.BinOp (.Call (.Name "_law_next" q7) [.Name "pen" q8] [] q9) .Mod (.Constant (.int (m:Int)) k2 q10) q11] [] q12):=by
 refine aY (n:=2*d+5) (nR C) (aS C rfl) hg hn hd<|bL l1<|aC (aB l2 (aC<|aP<|aB l3<|aF ⟨_,.sub _ _,aC (aP<|aY (n:=1) (jZ C) (aS C rfl) hg2 (aM (fA 1 _) (aM (fV (show 1≤5 by decide) _) hn)) hd<|aQ l1<|vK C hp (aM (aM (eL a (1+4*b)) (dH (Nat.add_assoc a 1 _).symm)) (aM hab (aD rfl))) hns fun x=>aF ⟨_,.mod _ _ (Int.natCast_ne_zero.mpr (Nat.ne_of_gt hm.1)),?_⟩)⟩) dx)
 obtain⟨j1,j2⟩:=gH (a:=x) hm.1
 refine rwL j2 ?_
 refine aE<|T (aI ..) hns hab (aM (Nat.le_of_lt j1) hm.2) (fun Z=>h1) hnm fun nds a' b' g1 g2 g3=>?_
 refine rwL bK ?_
 exact hq nds a' b' g1 g2 g3
noncomputable def aKX(r:List Tx×Int):V:=.tup [.lst (fU r.1),.int r.2]
theorem aFW(d:Nat)(h:1≤d∧d≤4):("$l":Str)++iP (d:Nat)∈iD:=by
 have:∀d:Nat,d<5→1≤d→("$l":Str)++iP (d:Nat)∈iD:=by decide+kernel
 exact this d (Nat.lt_succ_of_le h.2) h.1
inductive TrM(σ1:aA)(p:Addr)(ns:List Int)(b d:Nat)(names:List Str)(w:Int)(m0:Nat)(loc0 loc:aX)(σ':aA):Prop
 |mk (A:Ag ["second"] loc loc0) (a' b':Nat) (dU:Bool) (nds:List Nd) (h1:∀nd∈nds,gE d names nd) (h2:eU nds+b'=b) (h3:a'+4*b'≤m0) (hw:w≠4→dU=false) (ht:dU=false→nds=[]) (l:loc.lookup ("second":Str)=some (.val (if dU=true then .lst (jO nds) else .none))) (hs:σ'=upd p (fG ns a' b') σ1)
inductive TrA(d c m:Nat)(names:List Str)(w:Int)(nds:List Nd)(a b:Nat):Prop|mk (h1:∀nd∈nds,gE d names nd) (h2:eU nds+b=c) (h3:a+4*b≤m) (h4:w≠4→nds=[])
theorem aPg(A F S b:Nat):1+A+F+S+b=A+(F+(S+b))+1:=by exact(Nat.add_assoc _ S b).trans ((Nat.add_assoc _ F _).trans ((Nat.add_assoc 1 A _).trans (Nat.add_comm 1 _)))
theorem aHT(C:Cx G){d:Nat}(hd4:d≤4)(T:aLT X d):aJ9 X d:=by
 intro σ p ns a b names Q hp hns hb hab hnm hq
 refine aZ (n:=2*d+5) (gV (ps:=["pen","labels","depth"]) C rfl rfl rfl rfl (bt3 fun Z Z Z Z=>.of_eq rfl)) (zD T0) (zD T0) rfl fun L hL=>?_
 have hpL:=dS hp hL
 obtain⟨c,rfl⟩:∃c,b=c+1:=⟨b - 1,(Nat.sub_add_cancel hb).symm⟩
 have h96:a+4*c≤96:=Nat.le_of_add_le_add_right (show a+4*c+4≤96+4 from hab)
 have hB:a+2+4*c≤98:=Nat.add_right_comm a (4*c) 2▸eP h96 2
 have hB4:a+2+4*c+1+1≤a+4*(c+1):=Nat.add_right_comm a (4*c) 2▸bO (a+4*c+2+2)
 have hB2:a+2+4*c≤a+4*(c+1):=aM (eL _ 2) hB4
 have ha:a≤100:=aM (eL _ _) hab
 have fin:∀nd (a' b':Nat),gE (d+1) names nd→xL nd+b'=c+1→a'+4*b'≤a+4*(c+1)→Q (ndV nd) (eZ L (upd p (fG ns a' b') (upd L .mark σ))):=fun nd a' b' h1 h2 h3=>by exact rwL (cF hpL) (rwL (aU hL) (hq nd a' b' h1 h2 h3))
 have hp0:upd L .mark σ p=some (fG ns a (c+1:Nat)):=bV hp hL
 generalize upd L .mark σ=σ1 at fin hp0
 refine aG ?_
 refine sZ<|aB rfl<|aF ⟨p,_,2,(c+1:Nat),rfl,hp0,rfl,zD T0,(by show(2:Int)<3;exact zD T0),aD rfl,rfl,aF ⟨1,(c:Nat),rfl,?_,rfl,?_⟩⟩
 ·have:=aBt.sub ((c+1:Nat):Int) 1
  replace this:=(show((c+1:Nat):Int) - 1=(c:Int) by exact Int.add_sub_cancel (c:Int) 1)▸this
  exact this
 show jC X (upd p (fG ns a c) σ1) _ _ _ _
 have cons_n:∀{τ:aA},1≤2*d+5∧3≤2*d+5:=fun{τ}=>⟨fA _ _,fA _ _⟩
 refine cG rfl ?_
 refine aY (n:=1) (jZ C) (aS C rfl) rfl (by show 1≤2*d+5;exact fA _ _) rfl<|aQ rfl<|vK C (aI ..) (aM ha (aD rfl)) hns fun x=>?_
 refine rwL bK ?_
 show jC X (upd p (fG ns (a+1:Nat) c) σ1) _ _ _ _
 refine cG rfl ?_
 refine aP<|aB rfl<|aF ⟨_,.mod _ _ (zD T0),?_⟩
 obtain⟨f1,f2⟩:=gH (a:=x) (n:=3) (aD rfl)
 refine rwL (show x.fmod 3=_ from f2) ?_
 generalize (x.fmod 3).toNat=f at f1
 refine cG rfl ?_
 refine aP<|aB rfl<|aF ⟨_,.fdiv _ _ (zD T0) (aD rfl),?_⟩
 generalize x.fdiv 3=y
 have hpp:∀{a':Nat},upd p (fG ns a' c) σ1 p=some (fG ns a' c):=fun{a'}=>aI ..
 refine cG rfl ?_
 refine aDp (fun s:Nat=>V.int s) (fun Z=>upd p (fG ns (a+1:Nat) c) σ1) (fun s=>s<5∧(s≠0→1≤d)) ?_ ?_
 ·obtain⟨g1,g2⟩:=gH (a:=y) (n:=5) (aD rfl)
  refine bX<|bU<|aV<|aB rfl<|aF ⟨decide (0<(d:Int)),rfl,dN (fun h=>?_) fun h=>bB rfl<|aF ⟨0,rfl,⟨aD rfl,fun q=>absurd rfl q⟩,rfl⟩⟩
  refine bU<|aV<|bR<|aB rfl<|aF ⟨_,.lst _ _ 2 _ (dA hpp) (zD T0) rfl,aF ⟨decide (0<(c:Int)),rfl,dN (fun Z=>cK<|bI rfl<|aP<|aB rfl<|aF ⟨_,.mod _ _ (zD T0),_,congrArg V.int g2,⟨g1,fun Z=>Int.ofNat_lt.mp (of_decide_eq_true h)⟩,rfl⟩) fun h=>bB rfl<|aF ⟨0,rfl,⟨aD rfl,fun q=>absurd rfl q⟩,rfl⟩⟩⟩
 rintro s ⟨hs5,hsd⟩
 refine cG rfl ?_
 refine aP<|aB rfl<|aF ⟨_,.fdiv _ _ (zD T0) (aD rfl),?_⟩
 generalize y.fdiv 5=z
 refine eB rfl ?_
 refine aF ⟨decide ((s:Int)<2),rfl,dN (fun hs=>?_) fun hs=>aH ?_⟩
 ·refine aG ?_
  refine uR rfl rfl rfl rfl<|aY (n:=3) (xY C) (aS C rfl) rfl (by show 3≤2*d+5;exact fA _ _) rfl<|bL rfl<|aQ rfl<|aF8 C (aM (eL _ d) (aM hnm (aD rfl))) fun txs told hsg=>⟨_,_,rfl,?_⟩
  refine cG rfl ?_
  refine aDp (fun t:Nat×Nat=>V.int t.1) (fun t=>upd p (fG ns t.2 c) σ1) (fun t=>t.1<4∧(t.1≠0→1≤d)∧t.2≤a+2) ?_ ?_
  ·refine bX<|aV<|aB rfl<|aF ⟨_,cS _ _,dN (fun h=>?_) fun h=>aF ⟨(0,a+1),rfl,⟨aD rfl,fun q=>absurd rfl q,Nat.le_succ _⟩,rfl⟩⟩
   refine aP<|aY (n:=1) (jZ C) (aS C rfl) rfl (by show 1≤2*d+5;exact fA _ _) rfl<|aQ rfl<|vK C hpp (aM (fM ha) (aD rfl)) hns fun x=>aF ⟨_,.mod _ _ (zD T0),?_⟩
   obtain⟨j1,j2⟩:=gH (a:=x) (n:=4) (aD rfl)
   exact⟨(_,a+2),congrArg V.int j2,⟨j1,fun Z=>hsd fun q=>absurd (q▸Int.ofNat.inj (of_decide_eq_true h):0=1) (zD T0),bO _⟩,bK⟩
  rintro⟨m,a'⟩ ⟨hm4,hmd,ha'⟩
  refine bZ ?_
  refine aT<|bL rfl<|bL rfl<|bL rfl<|aC (aY (n:=2*d+5) (nR C) (aS C rfl) rfl (bO _) rfl<|bL rfl<|bL rfl<|aC (aP<|aB rfl<|aF ⟨_,.sub _ _,aQ rfl<|T hpp hns (aM (eP ha' _) (aM hB (aD rfl))) (Nat.le_of_lt hm4) hmd (Nat.le_succ_of_le hnm) fun nds a2 b2 h1 h2 h3=>?_⟩))
  refine rwL bK ?_
  refine aC<|bQ<|aC<|bQ<|aC<|aN (by kernel_rfl)<|aE ⟨by first|exact aD rfl|simp,fin (.leaf f txs told nds) a2 b2 (.leaf ⟨Int.natCast_nonneg _,Int.ofNat_lt.mpr f1⟩ hsg h1) (by rw[xL];rw[Nat.add_assoc,h2,Nat.add_comm]) (aM h3 (aM (eP ha' _) hB2))⟩
 have hs2:2≤s:=by have:=of_decide_eq_false hs;exact Int.ofNat_le.mp (Int.not_lt.mp this)
 have hd1:1≤d:=hsd (Nat.ne_of_gt (Nat.lt_of_lt_of_le (aD rfl) hs2))
 have dd:=mP (n:=(d:Nat)) (Nat.lt_of_le_of_lt hd4 (aD rfl))
 have hnm1:=aFW d ⟨hd1,hd4⟩
 refine cG rfl ?_
 refine bR<|bJ<|aC<|aN (by kernel_rfl)<|aC<|aN (by kernel_rfl)<|aC<|aN (by kernel_rfl)<|aC (aP<|aN (by kernel_rfl)<|cY (vF C) rfl (eI _) rfl rfl<|aQ rfl<|jN (lA (Nat.lt_of_le_of_lt hd4 (aD rfl))) dd.fit ⟨_,.cat _ _ (aM (fV dd.len _) (aD rfl)),aE ⟨by first|exact aD rfl|simp,.inl<|aP<|aB rfl<|aF ⟨_,.mod _ _ (zD T0),?_⟩⟩⟩)
 obtain⟨j1,j2⟩:=gH (a:=z) (n:=4) (aD rfl)
 refine rwL (show z.fmod 4=_ from j2) ?_
 obtain⟨name,hname,hmem⟩:=aCi (l:=(["","$l","$m",("$l":Str)++iP (d:Nat)]:List Str)) j1 rfl
 have hnok:name∈iD:=by
  rcases eM hmem with rfl|h
  ·exact zD T0
  rcases eM h with rfl|h
  ·exact zD T0
  rcases eM h with rfl|h
  ·exact zD T0
  ·cases eR h;exact hnm1
 refine jY (l:=(["","$l","$m",("$l":Str)++iP (d:Nat)]:List Str)) (f:=V.str) (aD rfl) hname ?_
 refine cG rfl ?_
 refine aP<|aB rfl<|aF ⟨_,.fdiv _ _ (zD T0) (aD rfl),?_⟩
 generalize z.fdiv 4=u
 refine aG ?_
 refine uR ?_ ?_ ?_ ?_ ?_
 ·rfl
 ·rfl
 ·rfl
 ·rfl
 refine bR ?_
 refine sX 8 (V.lst (fY.map aKX)) ?_ ?_
 ·kernel_rfl
 refine aP<|aB rfl<|aF ⟨_,.mod _ _ (zD T0),?_⟩
 obtain⟨i1,i2⟩:=gH (a:=u) (n:=5) (aD rfl)
 refine rwL (show u.fmod 5=_ from i2) ?_
 obtain⟨⟨ahead,kind⟩,hah,hamem⟩:=aCi (l:=fY) i1 rfl
 refine jY (aD rfl) hah ⟨_,_,rfl,?_⟩
 obtain⟨k,rfl⟩:∃k,s=k+2:=⟨s - 2,(Nat.sub_add_cancel hs2).symm⟩
 have hk3:k<3:=Nat.lt_of_add_lt_add_right hs5
 have hk4:((k+2:Nat):Int)=2∨((k+2:Nat):Int)=3∨((k+2:Nat):Int)=4:=(zD T0:∀k:Nat,k<3→((k+2:Nat):Int)=2∨((k+2:Nat):Int)=3∨((k+2:Nat):Int)=4) k hk3
 obtain⟨word,hword,_⟩:=aCi (l:=(["block","loop","if"]:List Str)) (i:=k) (n:=3) (hk3) rfl
 have hw:word=dR ((k+2:Nat):Int):=by
  have:∀k:Nat,k<3→(["block","loop","if"]:List Str)[k]? =some (dR ((k+2:Nat):Int)):=by exact zD T0
  have:=this k (hk3)
  replace this:=hword▸this
  exact bE this
 have hw4:decide (word="if")=decide (((k+2:Nat):Int)=4):=by
  have:∀k:Nat,k<3→decide (dR ((k+2:Nat):Int)="if")=decide (((k+2:Nat):Int)=4):=by exact zD T0
  refine rwL hw ?_
  exact this k (hk3)
 refine cG rfl ?_
 refine bR<|bJ<|aBN (ss:=["block","loop","if"]) rfl (by kernel_rfl) ⟨by first|exact aD rfl|simp,.inl<|aP<|aB rfl<|aF ⟨_,.sub _ _,?_⟩⟩
 refine rwL (show((k+2:Nat):Int) - 2=(k:Int) by exact Int.add_sub_cancel (k:Int) 2) ?_
 refine jY (aD rfl) hword ?_
 have ha2:ahead.length≤2:=by
  have:∀r∈fY,r.1.length≤2:=by
   intro r hr
   unfold fY at hr
   simp only[List.mem_cons,List.not_mem_nil,or_false] at hr
   rcases hr with rfl|rfl|rfl|rfl|rfl <;> exact aD rfl
  exact this _ hamem
 have nz:(fU (iT name)).length≤1:=by
  unfold iT;split
  ·exact bO _
  ·exact cM _
 have ehd:[V.str word]++fU (iT name)++fU ahead=fU (dT ((k+2:Nat):Int) name ahead):=by
  unfold dT
  refine rwL hw ?_
  refine rwL (gG _) ?_
  refine rwL (gG _) ?_
  refine rwL (gG _) ?_
  refine rwL eD ?_
  refine rwL eD ?_
  rfl
 refine cG rfl ?_
 refine jG<|jG<|bJ<|aQ rfl ⟨by first|exact aD rfl|simp,.inl<|yV (τ:=upd p (fG ns (a+1:Nat) c) σ1) (.lst (fU (iT name))) ?_ ?_⟩
 ·refine bX<|aV<|aB rfl<|aN (by kernel_rfl) ⟨_,iG _ _,?_⟩
  by_cases h:name=""
  ·exact bB (by simp[h])<|bJ<|aE ⟨by first|exact aD rfl|simp,.inl ⟨by rw[show iT name=[] from if_neg (by simpa using h)];rfl,rfl⟩⟩
  ·exact bI (by simp[h])<|bJ<|aQ rfl ⟨by first|exact aD rfl|simp,.inl ⟨by rw[show iT name=[.s name] from if_pos h];rfl,rfl⟩⟩
 have za:(fU ahead).length≤2:=by exact rwL (gG _) (rwL (bS _) ha2)
 refine⟨_,_,rfl,rfl,aM (fV nz _) (aD rfl),.inl<|aB rfl ⟨_,_,rfl,rfl,rwL cL (aM (cT (fV nz _) za) (aD rfl)),.inl ?_⟩⟩
 refine rwL ehd ?_
 generalize hW:((k+2:Nat):Int)=w at hw hw4 ehd
 refine cG rfl ?_
 refine aDp (fun t:List Nd×Nat×Nat=>V.lst (jO t.1)) (fun t=>upd p (fG ns t.2.1 t.2.2) σ1) (fun t=>TrA d c (a+2+4*c) names w t.1 t.2.1 t.2.2) ?_ ?_
 ·refine bX<|aV<|aB rfl<|aN (by kernel_rfl) ⟨_,bG _ _,?_⟩
  refine rwL hw4 ?_
  refine dN (fun h=>?_) fun h=>?_
  ·exact nO C T (m:=3) rfl (bO _) rfl rfl rfl rfl rfl hpp hns (aM hB (aD rfl)) (zD T0) hd1 (Nat.le_succ_of_le hnm) fun nds a' b' h1 h2 h3=>⟨(nds,a',b'),rfl,⟨h1,h2,h3,fun q=>absurd (of_decide_eq_true h) q⟩,bK⟩
  ·exact bJ<|aE ⟨by first|exact aD rfl|simp,.inl ⟨([],a+1,c),rfl,⟨gR,by rw[eU,Nat.zero_add],eP (Nat.le_succ _) _,fun Z=>rfl⟩,rfl⟩⟩
 rintro⟨as,a1,b1⟩ ⟨ho1,hs1,hb1,hw1⟩
 refine cG rfl ?_
 refine jG<|aB rfl<|bJ<|aQ rfl ⟨by first|exact aD rfl|simp,.inl ⟨_,_,rfl,rfl,by rw[bS];simp;exact aM (eL _ d) (aM hnm (aD rfl)),.inl ?_⟩⟩
 refine rwL (show names.map V.str++[V.str name]=(names++[name]).map V.str by rw[eD];rfl) ?_
 have hl1:(names++[name]).length+d≤91:=by rw[cL];simp;exact Nat.add_right_comm names.length 1 d▸fM hnm
 have e36:a1+1+4*b1≤a+2+4*c+1:=Nat.add_right_comm a1 (4*b1) 1▸fM hb1
 refine cG rfl ?_
 refine nO C T (m:=4) rfl (bO _) rfl rfl rfl rfl rfl (aI ..) hns (aM e36 (aM (fM hB) (aD rfl))) (zD T0) hd1 hl1 fun fs a2 b2 ho2 hs2 hb2=>?_
 refine rwL bK ?_
 refine cG rfl ?_
 refine bQ ?_
 have e39:a2+1+4*b2≤a1+1+4*b1+1:=Nat.add_right_comm a2 (4*b2) 1▸fM hb2
 refine nJ (TrM σ1 p ns b2 d (names++[name]) w (a2+1+4*b2)) ?_ ?_
 ·refine gQ ?_
  refine bU<|aV<|aB rfl<|aN (by kernel_rfl) ⟨_,bG _ _,?_⟩
  refine rwL hw4 ?_
  refine dN (fun h=>?_) fun h=>bB rfl<|aH ⟨.refl,a2,b2,false,[],gR,by rw[eU,Nat.zero_add],eP (Nat.le_succ _) _,fun Z=>rfl,fun Z=>rfl,rfl,rfl⟩
  refine bU<|aV<|aP<|aP<|aB rfl<|aF ⟨_,.fdiv _ _ (zD T0) (aD rfl),aF ⟨_,.mod _ _ (zD T0),aF ⟨_,cS _ _,dN (fun Z=>cK<|bI rfl ?_) fun Z=>bB rfl<|aH ⟨.refl,a2,b2,false,[],gR,by rw[eU,Nat.zero_add],eP (Nat.le_succ _) _,fun Z=>rfl,fun Z=>rfl,rfl,rfl⟩⟩⟩⟩
  refine cG rfl ?_
  refine nO C T (m:=3) rfl (bO _) rfl rfl rfl rfl rfl (aI ..) hns (aM e39 (aM (fM e36) (fM (fM hB)))) (zD T0) hd1 hl1 fun ss a3 b3 ho3 hs3 hb3=>?_
  exact aH ⟨Ag.set .refl rfl,a3,b3,true,ss,ho3,hs3,hb3,fun q=>absurd (of_decide_eq_true h) q,nofun,rfl,bK⟩
 rintro loc2 σ2 ⟨A2,a3,b3,dU,ss,ho3,hs3,hb3,hw3,ht3,ls,rfl⟩
 refine bZ ?_
 refine aT<|aC (aB ((A2 "form" rfl).trans rfl)<|aC (aB ((A2 "texts" rfl).trans rfl)<|aC (aT<|aC (aB ((A2 "sort" rfl).trans rfl)<|aC (aB ((A2 "kind" rfl).trans rfl)<|aE ⟨by first|exact aD rfl|simp,?_⟩)))))
 refine aC (aB ((A2 "asked" rfl).trans rfl)<|aC (aB ((A2 "first" rfl).trans rfl)<|aC (aB ls<|aC (aB ((A2 "name" rfl).trans rfl)<|aE ⟨by first|exact aD rfl|simp,?_⟩))))
 refine fin (.blk f w kind name ahead as fs dU ss) a3 b3 (.blk ⟨Int.natCast_nonneg _,Int.ofNat_lt.mpr f1⟩ ?_ hnok hamem ho1 ho2 ho3 (fun q=>⟨hw1 q,hw3 q⟩) ht3) (by rw[xL];rw[←hs1,←hs2,←hs3];exact aPg ..) (aM hb3 (aM e39 (aM (fM e36) hB4)))
 exact hW▸hk4
end
theorem zI{X:bF→Prop}(C:Cx G):∀d,d≤4→aCx X d
 |0,h=>aEc C (aHT C h (aJZ C fun d' e=>absurd e (Nat.succ_ne_zero d').symm))
 |d+1,h=>aEc C (aHT C h (aJZ C fun d' e=>by cases e;exact zI C d (Nat.le_of_succ_le h)))
noncomputable def uJ(ps:List (List Tx×List Tx)):List Tx:=(ps.map (·.1)).flatten
noncomputable def foT(ps:List (List Tx×List Tx)):List Tx:=(ps.map (·.2)).flatten
noncomputable def qD(fold dU:Bool)(txs:List Tx)(ps:List (List Tx×List Tx)):List Tx:=if fold=true then[.l (txs++foT ps)] else if dU=true then uJ ps.dropLast++[.l (txs++foT (ps.drop (ps.length - 1)))] else uJ ps++txs
noncomputable def gL(dU:Bool)(name:Str):List Tx:=if dU=true∧name≠"" then[.s name] else[]
noncomputable def mR(dU:Bool)(pf ps:List (List Tx×List Tx)):List Tx:=[.l ([.s "then"]++uJ pf)]++(if dU=true then[.l ([.s "else"]++uJ ps)] else[])
noncomputable def oA(dU:Bool)(ag:List Tx)(ps:List (List Tx×List Tx)):List Tx:=if dU=true then[.s "else"]++ag++uJ ps else[]
noncomputable def tE(w:Int)(txs:List Tx)(pa pf:List (List Tx×List Tx))(dU:Bool)(ps:List (List Tx×List Tx)):List Tx:=if w≠4 then[.l (txs++uJ pf)] else[.l (txs++foT pa++mR dU pf ps)]
noncomputable def aAl(ag txs:List Tx)(pa pf:List (List Tx×List Tx))(dU:Bool)(ps:List (List Tx×List Tx)):List Tx:=uJ pa++txs++uJ pf++oA dU ag ps++[.s "end"]++ag
mutual
noncomputable def txN:Nd→Bool→List Tx
 |.leaf f txs _ kids,b=>qD (b||decide (f=1)) (decide (f=2)) txs (eQ kids)
 |.blk f w _ name ahead asked first dU second,b=>if(b||decide (f=1))=true then tE w (dT w name ahead) (eQ asked) (eQ first) dU (eQ second) else aAl (gL (decide (f=2)) name) (dT w name ahead) (eQ asked) (eQ first) dU (eQ second)
noncomputable def eQ:List Nd→List (List Tx×List Tx)
 |[]=>[]
 |x::xs=>(txN x false,txN x true)::eQ xs
end
theorem uT:∀l:List Nd,(eQ l).length=l.length
 |[]=>rfl
 |x::xs=>by rw[eQ,eX,eX,uT xs]
theorem fT:∀l:List Nd,eQ l=l.map fun x=>(txN x false,txN x true)
 |[]=>rfl
 |x::xs=>by rw[eQ,fT xs];rfl
theorem aC1{names:List Str}{txs:List Tx}{told:List Int}(h:qO names txs told):txs.length≤5:=by
 induction h with
 |tab gs z _ _=>
  refine rwL eX ?_
  refine rwL (bS _) ?_
  exact Nat.lt_of_le_of_lt ‹_› (aD rfl)
 |mem r h o a _ _=>
  refine rwL eX ?_
  refine rwL (bS _) ?_
  refine rwL cL ?_
  have h1:o.toList.length≤1:=by cases o <;> simp
  have h2:a.toList.length≤1:=by cases a <;> simp
  exact aM (fM (cT h1 h2)) (aD rfl)
 |_=>exact aD rfl
theorem vP{w kind:Int}{name:Str}{ahead:List Tx}(ha:(ahead,kind)∈fY):(dT w name ahead).length≤4:=by
 unfold dT iT
 have:ahead.length≤2:=by
  unfold fY at ha
  simp only[List.mem_cons,List.not_mem_nil,or_false,Prod.mk.injEq] at ha
  rcases ha with⟨rfl,_⟩|⟨rfl,_⟩|⟨rfl,_⟩|⟨rfl,_⟩|⟨rfl,_⟩ <;> exact aD rfl
 refine rwL cL ?_
 refine rwL cL ?_
 split <;> simp <;> lia
theorem wK{α:Type}(f:α→List Tx)(g:α→Nat):∀{l:List α},(∀x∈l,(f x).length≤g x)→((l.map f).flatten).length≤(l.map g).sum
 |[],_=>bO _
 |x::xs,h=>by
  refine rwL List.map_cons ?_
  refine rwL List.flatten_cons ?_
  refine rwL cL ?_
  refine rwL List.map_cons ?_
  refine rwL List.sum_cons ?_
  exact cT (h x (eS ..)) (wK f g fun y hy=>h y (fW _ hy))
theorem aEm(l:List Nd):(l.map fun x=>12*xL x).sum=12*eU l:=by
 induction l with
 |nil=>rfl
 |cons x l ih=>rw[List.map_cons,List.sum_cons,ih,eU,Nat.mul_add]
theorem wT{l:List Nd}(h:∀x∈l,(txN x false).length≤12*xL x):(uJ (eQ l)).length≤12*eU l:=by
 unfold uJ
 refine rwL (fT _) ?_
 refine rwL List.map_map ?_
 refine rwR (aEm _) ?_
 exact wK _ _ h
theorem aKG{l:List Nd}(h:∀x∈l,(txN x true).length≤12*xL x):(foT (eQ l)).length≤12*eU l:=by
 unfold foT
 refine rwL (fT _) ?_
 refine rwL List.map_map ?_
 refine rwR (aEm _) ?_
 exact wK _ _ h
theorem aES(l:List (List Tx)):l.dropLast.flatten.length≤l.flatten.length:=by
 rcases List.eq_nil_or_concat l with rfl|⟨a,x,rfl⟩
 ·exact bO _
 ·refine rwL List.concat_eq_append ?_
  refine rwL List.dropLast_concat ?_
  refine rwL List.flatten_append ?_
  refine rwL cL ?_
  exact eL ..
theorem aJW(s:Nat):1≤12*(1+s):=aM (aD rfl:1≤12*1) (hZ 12 (eL 1 s))
theorem aEP{fold dU:Bool}{txs:List Tx}{ps:List (List Tx×List Tx)}{s:Nat}(h1:txs.length≤5)(h2:(uJ ps).length≤12*s):(qD fold dU txs ps).length≤12*(1+s):=by
 have e:12*s+12=12*(1+s):=(Nat.add_comm _ _).trans (Nat.mul_add 12 1 s).symm
 induction fold with
 |true=>exact aJW s
 |false=>
  induction dU with
  |true=>
   have h3:(uJ ps.dropLast).length≤(uJ ps).length:=by
    unfold uJ
    exact rwL List.map_dropLast (aES _)
   exact e▸rwL cL (cT (aM h3 h2) (aD rfl))
  |false=>exact e▸rwL cL (cT h2 (aM h1 (aD rfl)))
theorem aHM{dU:Bool}{ag:List Tx}{ps:List (List Tx×List Tx)}{n s:Nat}(h1:ag.length≤n)(h2:(uJ ps).length≤s):(oA dU ag ps).length≤1+n+s:=by
 induction dU with
 |true=>exact rwL cL (cT (rwL cL (fV h1 1)) h2)
 |false=>exact cM _
theorem aM5(a f s:Nat):12*a+4+12*f+(1+1+12*s)+1+1≤12*(1+a+f+s):=by lia
theorem aGC{w:Int}{txs:List Tx}{pa pf ps:List (List Tx×List Tx)}{dU:Bool}:(tE w txs pa pf dU ps).length=1:=by
 unfold tE
 split <;> rfl
theorem aGL{ag txs:List Tx}{pa pf ps:List (List Tx×List Tx)}{dU:Bool}{a f s:Nat}(ha:ag.length≤1)(ht:txs.length≤4)(h1:(uJ pa).length≤12*a)(h2:(uJ pf).length≤12*f)(h3:(uJ ps).length≤12*s):(aAl ag txs pa pf dU ps).length≤12*(1+a+f+s):=
 aM (rwL cL<|cT (rwL cL<|cT (rwL cL<|cT (rwL cL<|cT (rwL cL<|cT h1 ht) h2) (aHM ha h3)) (bO 1)) ha) (aM5 a f s)
theorem aHB{dU:Bool}{name:Str}:(gL dU name).length≤1:=by
 unfold gL
 split <;> exact aD rfl
theorem aAA{d:Nat}{names:List Str}{nd:Nd}{b:Bool}(h:gE d names nd):(txN nd b).length≤12*xL nd:=by
 revert b
 induction h with
 |leaf hf hs hk ih=>exact fun{b}=>aEP (aC1 hs) (wT fun x hx=>ih x hx)
 |@blk d names f w kind name ahead asked first second dU hf hw hn ha h1 h2 h3 i1 i2 y1 y2 y3=>
  intro b
  show(if(b||decide (f=1))=true then tE _ _ _ _ _ _ else _:List Tx).length≤12*(1+eU asked+eU first+eU second)
  cases(b||decide (f=1)) with
  |true=>exact aM (dH aGC) (aM (aJW (eU asked)) (hZ 12 (aM (eL _ _) (eL _ _))))
  |false=>exact aGL aHB (vP ha) (wT fun x hx=>y1 x hx) (wT fun x hx=>y2 x hx) (wT fun x hx=>y3 x hx)
theorem aBM(a b:List Tx):fU (a++b)=fU a++fU b:=by exact rwL (gG _) (rwL (gG _) (rwL (gG _) (rwL eD rfl)))
theorem oH(a:List Tx):(fU a).length=a.length:=by exact rwL (gG _) (rwL (bS _) rfl)
noncomputable def bP(b:Bool)(nds:List Nd):List Tx:=if b=true then foT (eQ nds) else uJ (eQ nds)
theorem aAq{b:Bool}{x:Nd}{xs:List Nd}:bP b (x::xs)=txN x b++bP b xs:=by cases b <;> rfl
theorem nB{d:Nat}{b:Bool}{nds:List Nd}(h:∀nd∈nds,∃names,gE d names nd):(bP b nds).length≤12*eU nds:=by
 induction b with
 |true=>exact aKG fun x hx=>let⟨_,q⟩:=h x hx;aAA q
 |false=>exact wT fun x hx=>let⟨_,q⟩:=h x hx;aAA q
noncomputable def aGp(X:bF→Prop)(d:Nat):Prop:=∀{σ:aA} {names:List Str} {nd:Nd} {b:Bool} {Q:V→aA→Prop},gE d names nd→xL nd≤16→Q (.lst (fU (txN nd b))) σ→aW Q σ X (2*d+2) (.ref 636) [ndV nd,.bool b]
noncomputable def aHk(X:bF→Prop)(d:Nat):Prop:=∀{σ:aA} {nds:List Nd} {b:Bool} {Q:V→aA→Prop},(∀nd∈nds,∃names,gE d names nd)→eU nds≤16→Q (.lst (fU (bP b nds))) σ→aW Q σ X (2*d+3) (.ref 629) [.lst (jO nds),.bool b]
inductive AlJ(σ1:aA)(D:Addr)(full:List Tx)(b:Bool)(d:Nat)(loc0:aX)(rest:List Nd)(loc:aX)(σ':aA):Prop
 |mk (acc:List Tx) (e:σ'=upd D (.lst (fU acc)) σ1) (A:Ag ["node"] loc loc0) (h1:acc++bP b rest=full) (h2:∀nd∈rest,∃names,gE d names nd) (h3:eU rest≤16) (z:acc.length+12*eU rest≤192)
section
variable{md:Md}{loc:aX}{σ:aA}{X:bF→Prop}
theorem aGf(C:Cx G){d:Nat}(T:aGp X d):aHk X d:=by
 intro σ nds b Q ho hz hq
 refine jQ (aZ (n:=2*d+2) (gV (ps:=["nodes","is_folded"]) C rfl rfl rfl rfl (tA fun Z Z Z=>.of_eq rfl)) (zD T0) (zD T0) rfl fun L hL=>?_)
 refine cG rfl<|bJ<|aE ⟨aD rfl,.inr fun D hD=>?_⟩
 have hDL:D≠L:=(dS (aI ..) hD).symm
 have hDσ:σ D=none:=by rw[aR _ _ hDL] at hD;exact hD
 refine aG<|kH rfl rfl<|fE<|aB rfl ⟨_,.lst _,?_⟩
 refine rwL (gP _) ?_
 refine pS ndV (AlJ (upd L .mark σ) D (bP b nds) b d) ?_ ?_ nds ⟨[],rfl,.refl,rfl,ho,hz,by simp;exact hZ 12 hz⟩
 ·rintro x rest loc' σ' ⟨acc,rfl,A,h1,h2,h3,z⟩
  refine⟨_,rfl,?_⟩
  obtain⟨names,hx⟩:=h2 x (eS ..)
  rw[eU] at h3 z
  have hl:=aAA (b:=b) hx
  refine cW<|cI rfl<|aB ((A "found" rfl).trans rfl) ⟨.builtin "list.extend",_,0,.blt "list" "list.extend" (by unfold fS;rw[dA (aI ..)]) PySem.F.plainAttrs_list PySem.F.slot_list_extend (by kernel_rfl),aO _,cM _,aC (aY (n:=2*d+2) (aAn C) (aS C rfl) rfl (bO _) rfl<|bL rfl<|aC (aB ((A "is_folded" rfl).trans rfl)<|aE<|T hx (aM (eL _ _) h3)<|aE<|kB (aI ..) rfl (by rw[oH,oH];exact aM (cT (aM (eL _ _) z) (aM hl (hZ 12 (aM (eL _ _) h3)))) (aD rfl)) ?_))⟩
  refine rwL bK ?_
  refine rwR (aBM _ _) ?_
  exact aH ⟨acc++txN x b,rfl,A.set rfl,by rw[eJ,←aAq];exact h1,fun y hy=>h2 y (fW _ hy),aM (fA _ _) h3,by rw[cL];exact aM (by rw[Nat.mul_add,←Nat.add_assoc];exact eP (fV hl _) _) z⟩
 ·rintro loc' σ' ⟨acc,rfl,A,h1,h2,h3,z⟩
  have e1:acc=bP b nds:=by
   have:bP b []=[]:=by cases b <;> rfl
   replace h1:=this▸h1
   replace h1:=(List.append_nil _)▸h1
   exact h1
  subst e1
  refine bZ<|aB ((A "found" rfl).trans rfl) ⟨_,_,.lst D _ ((dP _ hDL).trans (aI ..)),?_⟩
  refine rwL (cF hDL) ?_
  refine rwL (aU hL) ?_
  refine rwL (aU hDσ) ?_
  exact hq
theorem lC(C:Cx G){d:Nat}(A:aHk X d){x:Str}{p1 p2 p3 p4:Pos}{k:Nat}{nds:List Nd}{b:Bool}{Q:V→aA→Prop}(hd:md.hd=none)(hn:2*d+3≤md.n)(hg:md.sc.lookup ("_law_all":Str)=some .globalImplicit)(hx:loc.lookup x=some (.val (.lst (jO nds))))(ho:∀nd∈nds,∃names,gE d names nd)(hz:eU nds≤16)(hq:Q (.lst (fU (bP b nds))) σ)(dx:(x==("__debug__":Str))=false:=by exact zD T0):
  cP X σ loc md Q (.Call (.Name "_law_all" p1) [.Name x p2,.Constant (.bool b) k p3] [] p4):=
 aY (n:=2*d+3) (qR C) (aS C rfl) hg hn hd<|aC (aB hx (aC<|dZ<|aE<|A ho hz hq) dx)
inductive TxR(n:Nat)(P:List Tx→aA→Prop)(v:V)(σ:aA):Prop|mk (xs:List Tx) (e:v=.lst (fU xs)) (h:xs.length≤n) (p:P xs σ)
abbrev aPb(P:List Tx→aA→Prop)(xs:List Tx):List Tx→aA→Prop:=fun ys σ2=>P (xs++ys) σ2
abbrev aOJ(md:Md)(r:Expr)(loc:aX)(n:Nat)(P:List Tx→aA→Prop)(X:bF→Prop):List Tx→aA→Prop:=fun xs σ1=>cP X σ1 loc md (TxR n (aPb P xs)) r
theorem lI{n:Nat}{e:Expr}{Q:V→aA→Prop}(h:cP X σ loc md (TxR n fun xs σ'=>Q (.lst (fU xs)) σ') e):cP X σ loc md Q e:=h.mono (fun v σ' q=>by obtain⟨xs,e,_,p⟩:=q;exact e▸p) fun Z z=>z
theorem gF(n1 n2:Nat){l r:Expr}{pos:Pos}{P:List Tx→aA→Prop}(h:cP X σ loc md (TxR n1 (aOJ md r loc n2 P X)) l)(hn:n1+n2≤2^20:=by exact zD T0):cP X σ loc md (TxR (n1+n2) P) (.BinOp l .Add r pos):=
 jG<|h.mono (fun v σ1 q=>by
  obtain⟨xs,e,hx,p⟩:=q
  refine p.mono (fun w σ2 q=>?_) fun Z z=>z
  obtain⟨ys,e2,hy,q⟩:=q
  exact⟨fU xs,fU ys,congrArg (lk σ2) e,congrArg (lk σ2) e2,rwL (oH _) (rwL (oH _) (aM (cT hx hy) hn)),.inl ⟨xs++ys,rwL (aBM _ _) rfl,rwL cL (cT hx hy),q⟩⟩) fun Z z=>z
theorem le4{A F S:Nat}(h:1+A+F+S≤16):A≤16∧F≤16∧S≤16:=
 ⟨aM (aM (fA _ 1) (aM (eL _ F) (eL _ _))) h,aM (aM (fA _ (1+A)) (eL _ _)) h,aM (fA _ _) h⟩
theorem aBf(n:Nat):clipAt n (-1)=n - 1:=by
 unfold clipAt
 rw[if_pos (by exact zD T0)]
 induction n with
 |zero=>rfl
 |succ m=>
  rw[show(-1:Int)+((m+1:Nat):Int)=(m:Int) from(Int.add_comm _ _).trans (Int.add_neg_cancel_right (m:Int) 1),Int.min_eq_left (Int.ofNat_le.mpr (Nat.le_succ m)),Int.max_eq_right (Int.natCast_nonneg m)]
  rfl
theorem aEG{α:Type}(l:List α):oX l none (some (-1))=l.dropLast:=by
 show(l.drop 0).take (clipAt l.length (-1) - 0)=_
 rw[aBf,List.drop_zero,Nat.sub_zero,List.dropLast_eq_take]
theorem aEY{α:Type}(l:List α):oX l (some (-1)) none=l.drop (l.length - 1):=by
 show(l.drop (clipAt l.length (-1))).take (l.length - clipAt l.length (-1))=_
 rw[aBf]
 exact List.take_of_length_le (dH List.length_drop)
theorem aJx(l:List Nd)(n:Nat):eU (l.take n)≤eU l∧eU (l.drop n)≤eU l:=by
 have:=uI (l.take n) (l.drop n)
 rw[List.take_append_drop] at this
 exact⟨this▸eL _ _,this▸fA _ _⟩
theorem aAv:∀l:List Nd,l.length≤eU l
 |[]=>bO _
 |x::xs=>by
  rw[eX,eU,Nat.add_comm]
  refine cT ?_ (aAv xs)
  cases x with
  |leaf=>rw[xL];exact eL ..
  |blk=>rw[xL];exact aM (eL 1 _) (aM (eL _ _) (eL _ _))
theorem aFo(kids:List Nd):bP false kids.dropLast=uJ (eQ kids).dropLast:=by
 unfold bP
 rw[if_neg (by exact zD T0),fT,fT,List.map_dropLast]
theorem aET(kids:List Nd):bP true (kids.drop (kids.length - 1))=foT ((eQ kids).drop ((eQ kids).length - 1)):=by
 unfold bP
 rw[if_pos rfl,uT,fT,fT,List.map_drop]
theorem aAB(C:Cx G){d:Nat}(A:aHk X d){names:List Str}{f:Int}{txs:List Tx}{told:List Int}{kids:List Nd}{b:Bool}{Q:V→aA→Prop}(hs:qO names txs told)(hk:∀k∈kids,gE d names k)(hz:1+eU kids≤16)
  (hq:Q (.lst (fU (qD (b||decide (f=1)) (decide (f=2)) txs (eQ kids)))) σ):aW Q σ X (2*d+4) (.ref 636) [ndV (.leaf f txs told kids),.bool b]:=by
 refine aZ (n:=2*d+3) (gV (ps:=["node","is_folded"]) C rfl rfl rfl rfl (tA fun Z Z Z=>.of_eq rfl)) (zD T0) (zD T0) rfl fun L hL=>?_
 have fin:Q (.lst (fU (qD (b||decide (f=1)) (decide (f=2)) txs (eQ kids)))) (eZ L (upd L .mark σ)):=by exact rwL (aU hL) hq
 have hk':∀k∈kids,∃names,gE d names k:=fun k h=>⟨names,hk k h⟩
 have h5:=aC1 hs
 have k16:eU kids≤16:=aM (fA _ 1) hz
 have hsz:=aJx kids (kids.length - 1)
 have zz:∀{b:Bool} {l:List Nd},(∀k∈l,k∈kids)→eU l≤eU kids→(bP b l).length≤12*16:=fun{b l} h1 h2=>aM (nB (d:=d) fun k hk=>hk' k (h1 k hk)) (hZ 12 (aM h2 k16))
 refine aG<|bD (ns:=["form","texts","told","kids","first","second","name"]) (o:=none) rfl rfl rfl rfl (.inl rfl)<|aB rfl ⟨[.int f,.lst (fU txs),.tup (told.map V.int),.lst (jO kids),.none,.none,.str ""],rfl,rfl,?_⟩
 refine rwL (if_pos rfl) ?_
 generalize upd L .mark σ=τ at fin ⊢
 refine qZ<|aJ6 (τ:=τ) (b||decide (f=1)) ?_ ?_
 ·refine fJ<|bT<|aB rfl ⟨b,rfl,?_⟩
  induction b with
  |true=>exact bI rfl ⟨rfl,rfl⟩
  |false=>exact bB rfl<|fJ<|aV<|aB rfl<|aF ⟨_,cS _ _,dN (fun h=>⟨h.symm,rfl⟩) fun h=>eO ⟨h.symm,rfl⟩⟩
 unfold qD at fin
 refine dN (fun h=>?_) fun h=>aH ?_
 ·replace fin:=(if_pos h)▸fin
  refine eB rfl<|bQ ⟨true,rfl,bI rfl ?_⟩
  refine bZ<|bJ<|aC (lI<|gF 5 192<|aB rfl ⟨_,rfl,h5,lC C A rfl (bO _) rfl rfl hk' (k16) ⟨_,rfl,zz (fun k h=>h) (bO _),aE ⟨aD rfl,.inl fin⟩⟩⟩)
 replace fin:=(if_neg (nb h))▸fin
 refine qZ<|bU<|aV<|aB rfl<|bQ ⟨true,rfl,bI rfl<|bU<|aV<|aB rfl<|aF ⟨_,cS _ _,dN (fun h2=>cK<|bI rfl ?_) fun h2=>bB rfl<|aH ?_⟩⟩
 ·replace fin:=(if_pos h2)▸fin
  have m1:∀k∈kids.dropLast,k∈kids:=fun k h=>(List.dropLast_sublist kids).subset h
  have m2:∀k∈kids.drop (kids.length - 1),k∈kids:=fun k h=>List.mem_of_mem_drop h
  have s1:eU kids.dropLast≤eU kids:=by exact rwL List.dropLast_eq_take hsz.1
  refine bZ<|lI<|gF 192 1<|aY (n:=2*d+3) (qR C) (aS C rfl) rfl (bO _) rfl<|aC (gY<|aB rfl<|oO<|aF ⟨1,rfl,_,rfl,.inl ⟨_,rfl,by rw[gP,bS];have:=aAv kids;exact aM this (aM k16 (aD rfl)),.inl ?_⟩⟩)
  refine rwL (show oX (jO kids) none (some (-1))=jO kids.dropLast by rw[gP,gP,sU,aEG]) ?_
  refine aC<|dZ<|aE<|A (fun k h=>hk' k (m1 k h)) (aM s1 k16) ⟨_,rfl,zz m1 s1,?_⟩
  refine bJ<|aC (lI<|gF 5 192<|aB rfl ⟨_,rfl,h5,aY (n:=2*d+3) (qR C) (aS C rfl) rfl (bO _) rfl<|aC (gY<|aB rfl<|oO<|aF ⟨1,rfl,_,rfl,.inl ⟨_,rfl,by rw[gP,bS];have:=aAv kids;exact aM this (aM k16 (aD rfl)),.inl ?_⟩⟩)⟩)
  refine rwL (show oX (jO kids) (some (-1)) none=jO (kids.drop (kids.length - 1)) by rw[gP,gP,sU,aEY]) ?_
  refine aC<|dZ<|aE<|A (fun k h=>hk' k (m2 k h)) (aM hsz.2 k16) ⟨_,rfl,zz m2 hsz.2,aE ⟨aD rfl,.inl ⟨[.l (txs++bP true (kids.drop (kids.length - 1)))],rfl,bO _,?_⟩⟩⟩
  refine rwL (aFo _) ?_
  refine rwL (aET _) ?_
  exact fin
 ·replace fin:=(if_neg (nb h2))▸fin
  refine eB rfl<|bQ ⟨true,rfl,bI rfl ?_⟩
  refine bZ<|lI<|gF 192 5<|lC C A rfl (bO _) rfl rfl hk' (k16) ⟨_,rfl,zz (fun k h=>h) (bO _),aB rfl ⟨_,rfl,h5,fin⟩⟩
inductive BhK(τ:aA)(D:Addr)(txs:List Tx)(loc0 loc:aX)(σ':aA):Prop
 |mk (a:Ag [] loc loc0) (hs:σ'=upd D (.lst (fU txs)) τ)
inductive FoK(τ:aA)(txs:List Tx)(loc0 loc:aX)(σ':aA):Prop
 |mk (a:Ag ["found"] loc loc0) (l:loc.lookup ("found":Str)=some (.val (.lst (fU txs)))) (hs:σ'=τ)
theorem aB5(C:Cx G){d:Nat}(A:aHk X d){f w kind:Int}{name:Str}{ahead:List Tx}{asked first second:List Nd}{dU b:Bool}{Q:V→aA→Prop}(ha:(ahead,kind)∈fY)(k1:∀k∈asked,∃names,gE d names k)(k2:∀k∈first,∃names,gE d names k)(k3:∀k∈second,∃names,gE d names k)
  (hz:1+eU asked+eU first+eU second≤16)
  (hq:Q (.lst (fU (if(b||decide (f=1))=true then tE w (dT w name ahead) (eQ asked) (eQ first) dU (eQ second) else aAl (gL (decide (f=2)) name) (dT w name ahead) (eQ asked) (eQ first) dU (eQ second)))) σ):aW Q σ X (2*d+4) (.ref 636) [ndV (.blk f w kind name ahead asked first dU second),.bool b]:=by
 refine aZ (n:=2*d+3) (gV (ps:=["node","is_folded"]) C rfl rfl rfl rfl (tA fun Z Z Z=>.of_eq rfl)) (zD T0) (zD T0) rfl fun L hL=>?_
 have fin:Q (.lst (fU (if(b||decide (f=1))=true then tE w (dT w name ahead) (eQ asked) (eQ first) dU (eQ second) else aAl (gL (decide (f=2)) name) (dT w name ahead) (eQ asked) (eQ first) dU (eQ second)))) (eZ L (upd L .mark σ)):=by exact rwL (aU hL) hq
 have h4:=vP (w:=w) (name:=name) ha
 have s3:eU second≤16:=aM (fA _ _) hz
 have s2:eU first≤16:=aM (aM (fA _ (1+eU asked)) (eL _ _)) hz
 have s1:eU asked≤16:=aM (aM (fA _ 1) (aM (eL _ (eU first)) (eL _ _))) hz
 have t1:∀b,(bP b asked).length≤192:=fun b=>aM (nB k1) (hZ 12 s1)
 have t2:∀b,(bP b first).length≤192:=fun b=>aM (nB k2) (hZ 12 s2)
 have t3:∀b,(bP b second).length≤192:=fun b=>aM (nB k3) (hZ 12 s3)
 refine aG<|bD (ns:=["form","texts","told","kids","first","second","name"]) (o:=none) rfl rfl rfl rfl (.inl rfl)<|aB rfl ⟨[.int f,.lst (fU (dT w name ahead)),.tup [.int w,.int kind],.lst (jO asked),.lst (jO first),if dU=true then .lst (jO second) else .none,.str name],rfl,rfl,?_⟩
 refine rwL (if_pos rfl) ?_
 generalize upd L .mark σ=τ at fin ⊢
 generalize dT w name ahead=txs at fin h4 ⊢
 refine qZ<|aJ6 (τ:=τ) (b||decide (f=1)) ?_ ?_
 ·refine fJ<|bT<|aB rfl ⟨b,rfl,?_⟩
  induction b with
  |true=>exact bI rfl ⟨rfl,rfl⟩
  |false=>exact bB rfl<|fJ<|aV<|aB rfl<|aF ⟨_,cS _ _,dN (fun h=>⟨h.symm,rfl⟩) fun h=>eO ⟨h.symm,rfl⟩⟩
 refine dN (fun h=>?_) fun h=>aH ?_
 ·replace fin:=(if_pos h)▸fin
  unfold tE at fin
  refine eB rfl<|bQ ⟨false,rfl,bB rfl<|aH ?_⟩
  refine nZ<|bR<|aB rfl<|aF ⟨_,.tup _ 0 _ (zD T0) rfl,aF ⟨_,vV _ _,?_⟩⟩
  by_cases hw:w=4
  ·rw[if_neg (fun q=>q hw)] at fin
   refine bB (by simp[hw])<|aH ?_
   refine cG rfl<|bJ<|aC (lI<|gF 1 192<|bJ<|aC<|aN (by kernel_rfl)<|aE ⟨aD rfl,.inl ⟨[.s "then"],rfl,bO _,lC C A rfl (bO _) rfl rfl k2 (s2) ⟨_,rfl,t2 _,aE ⟨aD rfl,.inr fun D hD=>?_⟩⟩⟩⟩)
   refine nJ (BhK τ D (mR dU (eQ first) (eQ second))) ?_ ?_
   ·induction dU with
    |false=>exact gQ<|aV<|aB rfl<|bQ ⟨false,rfl,bB rfl<|aH ⟨.refl,rfl⟩⟩
    |true=>
     refine gQ<|aV<|aB rfl<|bQ ⟨true,rfl,bI rfl ?_⟩
     refine cW<|bM rfl<|aB rfl ⟨D,_,rfl,aI ..,lI<|gF 1 192<|bJ<|aC<|aN (by kernel_rfl)<|aE ⟨aD rfl,.inl ⟨[.s "else"],rfl,bO _,lC C A rfl (bO _) rfl rfl k3 (s3) ⟨_,rfl,t3 _,_,aI ..,aD rfl,aH ⟨.refl,bK⟩⟩⟩⟩⟩
   rintro loc2 σ2 ⟨A2,rfl⟩
   have zt:(mR dU (eQ first) (eQ second)).length≤2:=by unfold mR;split <;> simp
   refine bZ<|bJ<|aC (lI<|gF 196 2<|gF 4 192<|aB ((A2 "texts" rfl).trans rfl) ⟨_,rfl,h4,lC C A rfl (bO _) rfl ((A2 "kids" rfl).trans rfl) k1 (s1) ⟨_,rfl,t1 _,aHi<|aB ((A2 "behind" rfl).trans rfl) ⟨_,_,.lst D _ (aI ..),⟨_,rfl,zt,?_⟩⟩⟩⟩)
   refine rwL (aU hD) ?_
   exact aE ⟨aD rfl,.inl fin⟩
  ·replace fin:=(if_pos hw)▸fin
   refine bI (by simp[hw])<|bZ<|bJ<|aC (lI<|gF 4 192<|aB rfl ⟨_,rfl,h4,lC C A rfl (bO _) rfl rfl k2 (s2) ⟨_,rfl,t2 _,aE ⟨aD rfl,.inl fin⟩⟩⟩)
 replace fin:=(if_neg (nb h))▸fin
 unfold aAl at fin
 have za:(gL (decide (f=2)) name).length≤1:=by unfold gL;split <;> simp
 refine qZ<|bU<|aV<|aB rfl<|bQ ⟨false,rfl,bB rfl<|bB rfl<|aH ?_⟩
 refine eB rfl<|bQ ⟨false,rfl,bB rfl<|aH ?_⟩
 refine cG rfl<|yV (τ:=τ) (.lst (fU (gL (decide (f=2)) name))) ?_ ?_
 ·have no:¬(decide (f=2)=true∧name≠"")→V.lst []=.lst (fU (gL (decide (f=2)) name)):=fun q=>by rw[show gL (decide (f=2)) name=[] from if_neg q];rfl
  refine bX<|bU<|aV<|aB rfl<|aF ⟨_,cS _ _,dN (fun q1=>?_) fun q1=>bB rfl<|bJ<|aE ⟨aD rfl,.inl ⟨no fun q=>(by rw[q.1] at q1;exact iX (Eq.symm q1)),rfl⟩⟩⟩
  refine bU<|aV<|aB rfl<|aN (by kernel_rfl) ⟨_,iG _ _,dN (fun q2=>cK<|bI rfl ?_) fun q2=>bB rfl<|bJ<|aE ⟨aD rfl,.inl ⟨no fun q=>(by rw[show(!decide (name=""))=true from ndT q.2] at q2;exact iX (Eq.symm q2)),rfl⟩⟩⟩
  exact bJ<|aQ rfl ⟨aD rfl,.inl ⟨by rw[show gL (decide (f=2)) name=[.s name] from if_pos ⟨q1,by simpa using q2⟩];rfl,rfl⟩⟩
 generalize gL (decide (f=2)) name=ag at fin za
 refine cG rfl<|lI<|gF 196 192<|gF 192 4<|lC C A rfl (bO _) rfl rfl k1 (s1) ⟨_,rfl,t1 _,aB rfl ⟨_,rfl,h4,lC C A rfl (bO _) rfl rfl k2 (s2) ⟨_,rfl,t2 _,?_⟩⟩⟩
 change Q (.lst (fU (bP false asked++txs++bP false first++oA dU ag (eQ second)++[.s "end"]++ag))) _ at fin
 have zb:(bP false asked++txs++bP false first).length≤400:=by exact rwL cL (rwL cL (aM (cT (cT (t1 false) h4) (t2 false)) (aD rfl)))
 show jC _ _ (("found",LV.val (.lst (fU (bP false asked++txs++bP false first))))::_) _ _ _
 generalize bP false asked++txs++bP false first=base at fin zb ⊢
 refine nJ (FoK τ (base++oA dU ag (eQ second))) ?_ ?_
 ·induction dU with
  |false=>exact gQ<|aV<|aB rfl<|bQ ⟨false,rfl,bB rfl<|aH ⟨.refl,by rw[show oA false ag (eQ second)=[] from rfl,List.append_nil];rfl,rfl⟩⟩
  |true=>
   refine gQ<|aV<|aB rfl<|bQ ⟨true,rfl,bI rfl ?_⟩
   refine cG rfl<|lI<|gF 402 192<|gF 401 1<|gF 400 1<|aB rfl ⟨_,rfl,zb,bJ<|aC<|aN (by kernel_rfl)<|aE ⟨aD rfl,.inl ⟨[.s "else"],rfl,bO _,aB rfl ⟨_,rfl,za,lC C A rfl (bO _) rfl rfl k3 (s3) ⟨_,rfl,t3 _,?_⟩⟩⟩⟩⟩
   refine aH ⟨Ag.set .refl rfl,?_,rfl⟩
   refine rwL (eJ _ _ _) ?_
   refine rwL (eJ _ _ _) ?_
   refine rwR (eJ [Tx.s "else"] _ _) ?_
   rfl
 rintro loc3 σ3 ⟨A3,l3,rfl⟩
 have ze:(oA dU ag (eQ second)).length≤300:=by
  unfold oA
  split
  ·refine rwL cL ?_
   refine rwL cL ?_
   simp
   exact aM (cT (fV za 1) (t3 false)) (aD rfl)
  ·simp
 exact bZ<|lI<|gF 701 1<|gF 700 1<|aB l3 ⟨_,rfl,cL▸cT zb ze,bJ<|aC<|aN (by kernel_rfl)<|aE ⟨aD rfl,.inl ⟨[.s "end"],rfl,bO _,aB ((A3 "again" rfl).trans rfl) ⟨_,rfl,za,fin⟩⟩⟩⟩
theorem tK(C:Cx G):∀d,aGp X d
 |0=>fun h=>nomatch h
 |d+1=>by
  have A:aHk X d:=aGf C (tK C d)
  intro h hz hq
  cases h with
  |leaf hf hs hk=>exact aAB C A hs hk hz hq
  |blk hf hw hn ha h1 h2 h3 i1 i2=>exact aB5 C A ha (fun k h=>⟨_,h1 k h⟩) (fun k h=>⟨_,h2 k h⟩) (fun k h=>⟨_,h3 k h⟩) hz hq
end
noncomputable def gJ(i:List Int):V:=.tup (i.map V.int)
mutual
noncomputable def flN:Nd→List (List Int)
 |.leaf _ _ told kids=>kU kids++[told]
 |.blk _ w kind _ _ asked first dU second=>kU asked++[[w,kind]]++kU first++(if dU=true then[[5]]++kU second else[])++[[11]]
noncomputable def kU:List Nd→List (List Int)
 |[]=>[]
 |x::xs=>flN x++kU xs
end
theorem vX{nds:List Nd}(h:∀nd∈nds,(flN nd).length≤4*xL nd):(kU nds).length≤4*eU nds:=by
 induction nds with
 |nil=>exact bO _
 |cons x xs ih=>exact rwL cL (Nat.mul_add 4 _ _▸cT (h x (eS ..)) (ih fun y hy=>h y (fW _ hy)))
theorem aNg(a f s:Nat):4*a+1+4*f+(1+4*s)+1≤4*(1+a+f+s):=by lia
theorem aDs{d:Nat}{names:List Str}{nd:Nd}(h:gE d names nd):(flN nd).length≤4*xL nd:=by
 induction h with
 |leaf hf hs hk ih=>exact rwL cL (aM (cT (vX ih) (aD rfl:1≤4*1)) (dH ((Nat.add_comm _ _).trans (Nat.mul_add 4 1 _).symm)))
 |@blk d names f w kind name ahead asked first second dU hf hw hn ha h1 h2 h3 i1 i2 y1 y2 y3=>
  have e:(if dU=true then[[5]]++kU second else[]:List (List Int)).length≤1+4*eU second:=by
   induction dU with
   |true=>exact rwL cL (fV (vX y3) 1)
   |false=>exact cM _
  exact aM (rwL cL<|cT (rwL cL<|cT (rwL cL<|cT (rwL cL<|cT (vX y1) (bO 1)) (vX y2)) e) (bO 1)) (aNg _ _ _)
theorem rV{d:Nat}{nds:List Nd}(h:∀nd∈nds,∃names,gE d names nd):(kU nds).length≤4*eU nds:=vX fun x hx=>(h x hx).elim fun _ q=>aDs q
inductive FlJ(σ1:aA)(D:Addr)(full:List (List Int))(d:Nat)(loc0:aX)(rest:List Nd)(loc:aX)(σ':aA):Prop
 |mk (acc:List (List Int)) (e:σ'=upd D (.lst (acc.map gJ)) σ1) (A:Ag ["form","texts","told","kids","first","second","name"] loc loc0) (h1:acc++kU rest=full) (h2:∀nd∈rest,∃names,gE d names nd) (h3:eU rest≤16) (z:acc.length+4*eU rest≤64)
section
variable{md:Md}{loc:aX}{σ:aA}{X:bF→Prop}
noncomputable def aNX(X:bF→Prop)(d:Nat):Prop:=∀{σ:aA} {nds:List Nd} {Q:V→aA→Prop},(∀nd∈nds,∃names,gE d names nd)→eU nds≤16→Q (.lst ((kU nds).map gJ)) σ→aW Q σ X (d+1) (.ref 643) [.lst (jO nds)]
theorem jE(a b:List (List Int)):a.map gJ++b.map gJ=(a++b).map gJ:=List.map_append.symm
set_option tactic.hygienic true in
theorem aLO(C:Cx G)(d:Nat):aNX X d:=by
 induction d using Nat.strongRecOn with
 |ind d ih=>
  intro σ nds Q ho hz hq
  refine jQ (aZ (n:=d) (gV (ps:=["nodes"]) C rfl rfl rfl rfl (bt1 fun Z Z=>.of_eq rfl)) (zD T0) (zD T0) rfl fun L hL=>?_)
  refine cG rfl<|bJ<|aE ⟨aD rfl,.inr fun D hD=>?_⟩
  have hDL:D≠L:=(dS (aI ..) hD).symm
  have hDσ:σ D=none:=by rw[aR _ _ hDL] at hD;exact hD
  refine aG<|kH rfl rfl<|fE<|aB rfl ⟨_,.lst _,?_⟩
  rw[gP]
  refine pS ndV (FlJ (upd L .mark σ) D (kU nds) d) ?_ ?_ nds ⟨[],rfl,.refl,rfl,ho,hz,by simp;exact hZ 4 hz⟩
  ·rintro x rest loc' σ' ⟨acc,rfl,A,h1,h2,h3,z⟩
   obtain⟨names,hx⟩:=h2 x (eS ..)
   have lf:loc'.lookup ("found":Str)=some (.val (.ref D)):=(A "found" rfl).trans rfl
   rw[eU] at h3 z
   have za:acc.length≤64:=aM (eL _ _) z
   have next:∀{loc2:aX},Ag ["form","texts","told","kids","first","second","name"] loc2 loc'→FlJ (upd L .mark σ) D (kU nds) d _ rest loc2 (upd D (.lst ((acc++flN x).map gJ)) (upd L .mark σ)):=fun A2=>
    ⟨acc++flN x,rfl,fun y hy=>(A2 y hy).trans (A y hy),rwL (eJ _ _ _) h1,fun y hy=>h2 y (fW _ hy),aM (fA _ _) h3,by
     have:=aDs hx
     rw[cL];exact aM (by exact rwL (Nat.mul_add _ _ _) (rwR (Nat.add_assoc _ _ _) (eP (fV this _) _))) z⟩
   cases hx with
   |leaf hf hs hk=>
    rename_i d' f txs told kids
    have hk':∀k∈kids,∃names,gE d' names k:=fun k h=>⟨names,hk k h⟩
    rw[xL] at h3
    have sA:eU kids≤16:=aM (aM (fA _ 1) (eL _ _)) h3
    have la:(kU kids).length≤64:=aM (rV hk') (hZ 4 sA)
    refine⟨_,rfl,?_⟩
    refine cW<|cI rfl<|aB lf ⟨.builtin "list.extend",_,0,.blt "list" "list.extend" (by unfold fS;rw[dA (aI ..)]) PySem.F.plainAttrs_list PySem.F.slot_list_extend (by kernel_rfl),aO _,cM _,aC (aY (n:=d'+1) (jX C) (aS C rfl) rfl (bO _) rfl<|aQ rfl<|ih d' (Nat.lt_succ_self _) hk' (sA)<|aE<|kB (aI ..) rfl (rwL (bS _) (rwL (bS _) (aM (cT za la) (by exact aD rfl)))) ?_)⟩
    rw[bK,jE]
    refine cW<|bM rfl<|aB lf ⟨D,_,rfl,aI ..,aB rfl ⟨_,aI ..,rwL (bS _) (rwL cL (aM (cT za la) (by exact aD rfl))),?_⟩⟩
    rw[bK,show ∀a:List V,a++[V.tup (told.map V.int)]=a++[told].map gJ from fun Z=>rfl,jE,eJ]
    refine eB rfl<|bQ ⟨false,rfl,bB rfl<|aH<|aH<|next (((((((Ag.refl.set rfl).set rfl).set rfl).set rfl).set rfl).set rfl).set rfl)⟩
   |blk hf hw hn ha k1 k2 k3 i1 i2=>
    rename_i d' f w kind name ahead asked first second dU
    have k1':∀k∈asked,∃names,gE d' names k:=fun k h=>⟨_,k1 k h⟩
    have k2':∀k∈first,∃names,gE d' names k:=fun k h=>⟨_,k2 k h⟩
    have k3':∀k∈second,∃names,gE d' names k:=fun k h=>⟨_,k3 k h⟩
    rw[xL] at h3
    have sA:=le4 (aM (eL _ _) h3)
    have la:(kU asked).length≤64:=aM (rV k1') (hZ 4 sA.1)
    have lb:(kU first).length≤64:=aM (rV k2') (hZ 4 sA.2.1)
    have lc:(kU second).length≤64:=aM (rV k3') (hZ 4 sA.2.2)
    have set7:∀{v1 v2 v3 v4 v5 v6 v7:LV},Ag ["form","texts","told","kids","first","second","name"] (("name",v7)::("second",v6)::("first",v5)::("kids",v4)::("told",v3)::("texts",v2)::("form",v1)::loc') loc':=((((((Ag.refl.set rfl).set rfl).set rfl).set rfl).set rfl).set rfl).set rfl
    have e5:∀a:List V,a++[V.tup [.int 5]]=a++[[(5:Int)]].map gJ:=fun Z=>rfl
    have e11:∀a:List V,a++[V.tup [.int 11]]=a++[[(11:Int)]].map gJ:=fun Z=>rfl
    refine⟨_,rfl,?_⟩
    refine cW<|cI rfl<|aB lf ⟨.builtin "list.extend",_,0,.blt "list" "list.extend" (by unfold fS;rw[dA (aI ..)]) PySem.F.plainAttrs_list PySem.F.slot_list_extend (by kernel_rfl),aO _,cM _,aC (aY (n:=d'+1) (jX C) (aS C rfl) rfl (bO _) rfl<|aQ rfl<|ih d' (Nat.lt_succ_self _) k1' (sA.1)<|aE<|kB (aI ..) rfl (by rw[bS,bS];simp;exact aM (cT za la) (aD rfl)) ?_)⟩
    rw[bK,jE]
    refine cW<|bM rfl<|aB lf ⟨D,_,rfl,aI ..,aB rfl ⟨_,aI ..,rwL (bS _) (rwL cL (aM (cT za la) (by exact aD rfl))),?_⟩⟩
    rw[bK,show ∀a:List V,a++[V.tup [.int w,.int kind]]=a++[[w,kind]].map gJ from fun Z=>rfl,jE]
    refine eB rfl<|bQ ⟨true,rfl,bI rfl ?_⟩
    refine cW<|cI rfl<|aB lf ⟨.builtin "list.extend",_,0,.blt "list" "list.extend" (by unfold fS;rw[dA (aI ..)]) PySem.F.plainAttrs_list PySem.F.slot_list_extend (by kernel_rfl),aO _,cM _,aC (aY (n:=d'+1) (jX C) (aS C rfl) rfl (bO _) rfl<|aQ rfl<|ih d' (Nat.lt_succ_self _) k2' (sA.2.1)<|aE<|kB (aI ..) rfl (by rw[bS,bS];simp;exact aM (cT (cT za (eP la 1)) lb) (aD rfl)) ?_)⟩
    rw[bK,jE]
    cases dU with
    |false=>
     refine eB rfl<|bQ ⟨false,rfl,bB rfl<|aH ?_⟩
     refine cW<|bM rfl<|aB lf ⟨D,_,rfl,aI ..,aT<|aC<|aF<|aE ⟨aD rfl,_,aI ..,by rw[bS];simp;exact aM (cT za (cT la (eP lb 1))) (aD rfl),?_⟩⟩
     refine rwL bK ?_
     refine rwL (e11 _) ?_
     refine rwL (jE _ _) ?_
     refine rwL (show acc++kU asked++[[w,kind]]++kU first++[[11]]=acc++flN (.blk f w kind name ahead asked first false second) by rw[flN];simp) ?_
     exact aH<|aH<|next set7
    |true=>
     refine eB rfl<|bQ ⟨true,rfl,bI rfl ?_⟩
     refine cW<|bM rfl<|aB lf ⟨D,_,rfl,aI ..,aT<|aC<|aF<|aE ⟨aD rfl,_,aI ..,by rw[bS];simp;exact aM (cT za (cT la (eP lb 1))) (aD rfl),?_⟩⟩
     refine rwL bK ?_
     refine rwL (e5 _) ?_
     refine rwL (jE _ _) ?_
     refine cW<|cI rfl<|aB lf ⟨.builtin "list.extend",_,0,.blt "list" "list.extend" (by unfold fS;rw[dA (aI ..)]) PySem.F.plainAttrs_list PySem.F.slot_list_extend (by kernel_rfl),aO _,cM _,aC (aY (n:=d'+1) (jX C) (aS C rfl) rfl (bO _) rfl<|aQ rfl<|ih d' (Nat.lt_succ_self _) k3' (sA.2.2)<|aE<|kB (aI ..) rfl (by rw[bS,bS];simp;exact aM (cT (cT za (cT la (eP lb 2))) lc) (aD rfl)) ?_)⟩
     refine rwL bK ?_
     refine rwL (jE _ _) ?_
     refine aH<|cW<|bM rfl<|aB lf ⟨D,_,rfl,aI ..,aT<|aC<|aF<|aE ⟨aD rfl,_,aI ..,by rw[bS];simp;exact aM (cT za (cT la (eP (cT lb (eP lc 1)) 1))) (aD rfl),?_⟩⟩
     refine rwL bK ?_
     refine rwL (e11 _) ?_
     refine rwL (jE _ _) ?_
     refine rwL (show acc++kU asked++[[w,kind]]++kU first++[[5]]++kU second++[[11]]=acc++flN (.blk f w kind name ahead asked first true second) by rw[flN];simp) ?_
     exact aH<|aH<|next set7
  ·rintro loc' σ' ⟨acc,rfl,A,h1,h2,h3,z⟩
   have e1:acc=kU nds:=by rw[kU,List.append_nil] at h1;exact h1
   subst e1
   refine bZ<|aB ((A "found" rfl).trans rfl) ⟨_,_,.lst D _ ((dP _ hDL).trans (aI ..)),?_⟩
   refine rwL (cF hDL) ?_
   refine rwL (aU hL) ?_
   refine rwL (aU hDσ) ?_
   exact hq
noncomputable def eH:List (List Tx×Str×Int):=[([.s "end"],"unexpected token",0),([.s "else"],"unexpected token",0),([.s "block",.s "nop"],"unexpected token",0),([.s "if",.s "$l"],"unexpected token",0),([.s "block",.s "$l",.s "end",.s "$m"],"mismatching label",3),([.s "loop",.s "end",.s "$l"],"mismatching label",2),([.s "if",.s "else",.s "else",.s "end"],"unexpected token",2),([.s "loop",.s "else",.s "end"],"unexpected token",1),([.s "5"],"unexpected token",0),([.s "br",.s "$q"],"unknown label $q",1),([.s "local.set",.s "$q"],"unknown local $q",1),([.s "i32.nand"],"unknown operator",0),([.s "i32.load",.s "align=3"],"alignment must be a power of two",1),([.s "i64.load",.s "align=0"],"alignment must be a power of two",1),([.s "i32.load",.s "align=4",.s "offset=1"],"unexpected token",2),([.s "i32.load",.s "align=_4"],"unknown operator",1),([.s "i32.load",.s "offset=4294967296"],"i32 constant out of range",1),([.s "br",.s "-1"],"unexpected token",1),([.s "i32.const",.s "4294967296"],"constant out of range",1),([.s "ref.null",.s "i32"],"unexpected token",1),([.s "i32.const",.s "-2147483649"],"constant out of range",1),([.s "br_table"],"unexpected token",0),([.l [.s "i32.add",.s "1"]],"unexpected token",2),([.l [.s "if",.l [.s "nop"]]],"unexpected token",1),([.l []],"unexpected token",0),([.l [.s "if",.l [.s "then"],.l [.s "then"]]],"unexpected token",4),([.l [.s "block",.s "end"]],"unexpected token",2),([.s "param"],"unexpected token",0),([.l [.s "local.get",.s "0",.s "nop"]],"unexpected token",3),([.s "select",.l [.s "result",.s "i31"]],"unexpected token",3)]
noncomputable def gM(r:List Tx×Str×Int):V:=.tup [.lst (fU r.1),.str r.2.1,.int r.2.2]
theorem aJw(C:Cx G){Q:V→aA→Prop}(hq:Q (.lst (eH.map gM)) σ):aW Q σ X 1 (.ref 650) []:=by
 refine aZ (n:=0) (gV (ps:=[]) C rfl rfl rfl rfl (bt0 fun Z=>.of_eq rfl)) (zD T0) (zD T0) rfl fun L hL=>?_
 have fin:Q (.lst (eH.map gM)) (eZ L (upd L .mark σ)):=by exact rwL (aU hL) hq
 refine aG ?_
 refine iU 4 (V.str "unexpected token") ?_ ?_ ?_
 ·rfl
 ·kernel_rfl
 refine aG ?_
 refine iU 4 (V.str "alignment must be a power of two") ?_ ?_ ?_
 ·rfl
 ·kernel_rfl
 refine aG ?_
 refine iU 8 (V.lst ((eH.take 4).map gM)) ?_ ?_ ?_
 ·rfl
 ·kernel_rfl
 refine aG ?_
 refine iU 8 (V.lst ((eH.take 5).map gM)) ?_ ?_ ?_
 ·rfl
 ·kernel_rfl
 refine aG ?_
 refine iU 8 (V.lst ((eH.take 6).map gM)) ?_ ?_ ?_
 ·rfl
 ·kernel_rfl
 refine aG ?_
 refine iU 8 (V.lst ((eH.take 9).map gM)) ?_ ?_ ?_
 ·rfl
 ·kernel_rfl
 refine aG ?_
 refine iU 8 (V.lst ((eH.take 11).map gM)) ?_ ?_ ?_
 ·rfl
 ·kernel_rfl
 refine aG ?_
 refine iU 8 (V.lst ((eH.take 13).map gM)) ?_ ?_ ?_
 ·rfl
 ·kernel_rfl
 refine aG ?_
 refine iU 8 (V.lst ((eH.take 14).map gM)) ?_ ?_ ?_
 ·rfl
 ·kernel_rfl
 refine aG ?_
 refine iU 8 (V.lst ((eH.take 16).map gM)) ?_ ?_ ?_
 ·rfl
 ·kernel_rfl
 refine aG ?_
 refine iU 8 (V.lst ((eH.take 18).map gM)) ?_ ?_ ?_
 ·rfl
 ·kernel_rfl
 refine aG ?_
 refine iU 8 (V.lst ((eH.take 20).map gM)) ?_ ?_ ?_
 ·rfl
 ·kernel_rfl
 refine aG ?_
 refine iU 8 (V.lst ((eH.take 22).map gM)) ?_ ?_ ?_
 ·rfl
 ·kernel_rfl
 refine aG ?_
 refine iU 8 (V.lst ((eH.take 25).map gM)) ?_ ?_ ?_
 ·rfl
 ·kernel_rfl
 refine aG ?_
 refine iU 8 (V.lst ((eH.take 28).map gM)) ?_ ?_ ?_
 ·rfl
 ·kernel_rfl
 refine bZ ?_
 refine sX 8 (V.lst (eH.map gM)) ?_ ?_
 ·kernel_rfl
 exact fin
end
theorem aHf{n:Nat}{f:Addr}{ps:List Str}{body:List Stmt}{names:List (Str×NameKind)}{o:Obj}{fd:FuncData}{args:List V}{σ:aA}{Q:V→aA→Prop}
  (F:aBW f ps body names o fd) (hc:∀x∈names,x.2≠.cell) (hl:∀p∈ps,names.lookup p=some .local) (hn:ps.length=args.length)
  (h:∀L,σ L=none→jC (fun Z=>False) (upd L .mark σ) (ps.zip (args.map .val)) ⟨n,none,names⟩ (FnQ L Q) body):
  aGH G (n+1) (.ref f) args σ Q:=by
 intro A s vals R ok fr hha hdp hun stays bdom sim hr hR
 have hbd:=F.binds s vals (rwL hn hr.length) stays
 have hroom:A.depth<recursionLimit:=aLE hdp
 refine(codeAny_call_def hroom (stays _ _ F.1) F.2 (ok.top.nolimit.keeps stays) (F.5.keeps stays) F.3 hbd (rwL F.4 hc) (rwL F.4 (oI hl)) (fun h₀ hns hk=>?_) F.7 F.8 F.6)
 have hL:=eG s.heap
 have S1:=aB7 (n:=n) (tk:=s.toks+(ps.zip vals).length) F hl ok hha (aKK (bO _) hdp) (aK7 (bO _) hun) fr trivial (fun b hb=>nomatch hb) stays bdom sim hL hns hk hr hn
 refine wpAny_mono (h _ (rM sim hL) _ _ _ _ S1) (fun fl s' q=>?_) fun e s' q=>by obtain⟨x,hx,_⟩:=q;exact hx.elim
 have z:=aCs (er:=fun σ'=>eZ s.heap.objs.size σ') (Beg.of (σ:=σ) hL hk) (fun Z Z=>aBK) (fun Z b o e=>dP _ (oU hL b o e)) (fun Z Z Z=>aBG) q
 cases fl <;> first|exact hR _ _ z|exact z.elim
noncomputable def aLy(v:V):Prop:=∃ns:List Int,v=.tup (ns.map V.int)
theorem vN:∀ns:List Int,pK (ns.map V.int)=some (ns.map PyData.int)
 |[]=>rfl
 |n::ns=>by rw[List.map_cons,aAF,vN ns];rfl
theorem wP:∀ns:List Int,PyData.depthAll (ns.map PyData.int)=0
 |[]=>rfl
 |n::ns=>by rw[List.map_cons,PyData.depthAll,wP ns];rfl
theorem aB0:∀ns:List Int,PyData.canLayAll0 (ns.map PyData.int)=true
 |[]=>rfl
 |n::ns=>by rw[List.map_cons,PyData.canLayAll0,aB0 ns];rfl
theorem yQ:∀{B:List V},(∀v∈B,aLy v)→∃ds,pK B=some ds∧PyData.depthAll ds≤1∧PyData.canLayAll0 ds=true
 |[],_=>⟨[],rfl,aD rfl,rfl⟩
 |v::B,h=>by
  obtain⟨ds,h1,h2,h3⟩:=yQ (B:=B) fun x hx=>h x (fW _ hx)
  obtain⟨ns,rfl⟩:=h v (eS ..)
  refine⟨.tuple (ns.map PyData.int)::ds,?_,?_,?_⟩
  ·refine rwL aAF ?_
   refine rwL h1 ?_
   refine rwL aGn ?_
   refine rwL (vN _) ?_
   rfl
  ·rw[PyData.depthAll,PyData.depth,wP]
   exact Nat.max_le.mpr ⟨bO _,h2⟩
  ·rw[PyData.canLayAll0,h3,PyData.canLay0,aB0]
   rfl
theorem aKT{σ:aA}{b:Addr}{B:List V}(hB:∀v∈B,aLy v)(hb:σ b=some (.lst B)):eqV σ (.ref b) (.lst B)=some true:=by
 obtain⟨ds,h1,h2,h3⟩:=yQ hB
 have e1:aB1 σ (.ref b)=some (.list ds):=by unfold aB1;rw[dA hb];show(pK B).map _=_;rw[h1];rfl
 have e2:aB1 σ (.lst B)=some (.list ds):=by show(pK B).map _=_;rw[h1];rfl
 have hd:(PyData.list ds).depth≤64:=by rw[PyData.depth];exact Nat.lt_of_le_of_lt ‹_› (aD rfl)
 rw[aAE e1 e2 hd hd,SeqAt.eqv_refl _ (show(PyData.list ds).canLay0=true by rw[PyData.canLay0];exact h3)]
theorem aBu{A:Around}{s:Shared}{n:Int}{t u:Tok}(hu:A.units+200≤cLine):SeqAt.EqAt A.in1 s (.int n t) (.int n u) true:=by
 have h:=PySem.W.keq_at (A:=A) (s:=s) (.int n t) (.int n u) rfl rfl (by show A.units+1+64<cLine;exact Nat.lt_of_lt_of_le (Nat.add_lt_add_left (aD rfl:65<200) A.units) hu)
 rw[show PyData.eqv (.int n) (.int n)=true from beq_self_eq_true n] at h
 exact h
noncomputable def dF:List (Str×Int):=[("$x",3),("$y",0)]
section
variable{md:Md}{A:Around}{env:Env}{m:Str→Option Value}{loc:aX}{σ σ':aA}{s s':Shared}{X:bF→Prop}
inductive aPJ(s:Shared)(v:Value):Prop
 |mk (a:Addr) (t u:Tok) (e:v=.ref a) (n:(a==sysModules)=false) (d:s.heap.DictOf (PySem.strKind G.prog G.w) a [("$x",.int 3 t),("$y",.int 0 u)])
theorem aBI{v:Value}(r:bW G.P σ s.heap (kK dF) v):aPJ s v:=by
 obtain⟨a,es,n,rfl,⟨hsd,hy⟩,hod,hks,hrv⟩:=r
 have hp:=aBw rfl hks
 obtain⟨v1,vs1,e1,⟨t,rfl⟩,v2,vs2,rfl,⟨u,rfl⟩,rfl⟩:=hrv
 rw[e1] at hp
 exact⟨a,t,u,rfl,hy,_,es,n,hod,⟨rfl,rfl,rfl⟩,rfl,fun e he=>by
  obtain⟨k,t,h1,h2,_⟩:=hks.keys e (Array.mem_toList_iff.mpr he)
  exact⟨k,by rw[h1];simp[PySem.strKind,Value.isStrOf],h2⟩,hp,show(["$x","$y"]:List Str).Nodup from by exact zD T0⟩
abbrev aMK(Q:Bool→aA→Prop)(a:V):V→aA→Prop:=fun b σ2=>a=kK dF∧b=kK dF∧Q false σ2
abbrev aKM(md:Md)(r:Expr)(loc:aX)(Q:Bool→aA→Prop)(X:bF→Prop):V→aA→Prop:=fun a σ1=>cP X σ1 loc md (aMK Q a) r
theorem aEt{l r:Expr}{pos:Pos}{Q:Bool→aA→Prop}(h:cP X σ loc md (aKM md r loc Q X) l)(hm:behindInMarks .NotEq r=false:=by with_unfolding_all rfl):
  qI md (.Compare l [.NotEq] [r] pos) loc σ Q X:=fun A env m s S=>by
 refine wpAny_isTrue_Compare1 (dU S h fun a b va vb σ2 s2 q aft S2 ra rb=>?_) hm
 obtain⟨rfl,rfl,hq⟩:=q
 obtain⟨x,t,u,rfl,hx,dx⟩:=aBI ra
 obtain⟨y,t',u',rfl,hy,dy⟩:=aBI rb
 have hu:=mS S2
 exact PySem.W.keq_ne hx hy dx dy (Nat.lt_of_lt_of_le (Nat.lt_add_of_pos_right (aD rfl)) hu) (fun Z=>.hit (y:=.int 3 t') rfl (aBu hu)<|.hit (y:=.int 0 u') rfl (aBu hu) .nil) (iZ ⟨σ2,hq,aft,S2.sim⟩)
end
section
variable{md:Md}{loc:aX}{σ:aA}{X:bF→Prop}
noncomputable def wash(σ:aA):aA:=fun b=>match σ b with
 |some (.cell _)=>none
 |x=>x
set_option tactic.hygienic true in
theorem nP(σ:aA)(b:Addr):wash σ b=σ b∨(wash σ b=none∧∃v,σ b=some (.cell v)):=by
 unfold wash
 split
 ·rename_i v h;exact .inr ⟨rfl,v,h⟩
 ·exact .inl rfl
theorem aJi(σ:aA)(b:Addr)(v:V):wash σ b≠some (.cell v):=fun e=>by
 rcases nP σ b with q|⟨q,_⟩
 ·replace q:=e▸q
  unfold wash at e
  replace e:=q.symm▸e
  exact cZ e
 ·replace q:=e▸q
  exact cZ (Eq.symm q)
theorem yF{b:Addr}(h:σ b=none):wash σ b=none:=(nP σ b).elim (·.trans h) (·.1)
theorem tC{b:Addr}{m:dJ}(h:σ b=some m)(hm:∀v,m≠.cell v):wash σ b=some m:=by
 rcases nP σ b with q|⟨_,v,e⟩
 ·exact q.trans h
 ·replace e:=h▸e
  obtain rfl:=bE e
  exact(hm v rfl).elim
theorem EQ.wash{Q:V→aA→Prop}{s s':Shared}{v:Value}(hc:∀b v,σ b≠some (.cell v))(q:EQ G σ (fun v σ'=>Q v (wash σ')) s v s'):EQ G σ Q s v s':=by
 obtain⟨r,σ',hq,hr,⟨a1,a2,a3,a4⟩,sim⟩:=q
 have k:∀b o,s'.heap.get? b=some o→σ' b=none→s'.heap.get? b=some o∧Mine.wash σ' b=none:=fun b o e z=>⟨e,yF z⟩
 refine⟨r,Mine.wash σ',hq,hr.mono k,⟨a1,a2,fun b o e=>⟨fun z=>yF ((a3 b o e).1 z),fun z=>tC ((a3 b o e).2.1 z) (by nofun),fun v z=>(hc b v z).elim⟩,a4⟩,fun a m e=>?_⟩
 have e':σ' a=some m:=(nP σ' a).elim (fun q=>q.symm.trans e) fun q=>by rw[q.1] at e;exact cZ e
 obtain⟨o,ho,c⟩:=sim a m e'
 exact⟨o,ho,c.mono k⟩
theorem aCP{n:Nat}{f:Value}{args:List V}{Q:V→aA→Prop}(hc:∀b v,σ b≠some (.cell v))(h:aW (fun v σ'=>Q v (wash σ')) σ X n f args):aW Q σ X n f args:=fun md A env m loc s vals h1 h2 h3 h4=>
 wpAny_mono (h md A env m loc s vals h1 h2 h3 h4) (fun Z Z q=>q.wash hc) fun Z Z z=>z
theorem uX{a:Addr}{m:dJ}(hc:∀b v,σ b≠some (.cell v))(hm:∀v,m≠.cell v):∀b v,upd a m σ b≠some (.cell v):=fun b v e=>by
 by_cases q:b=a
 ·subst q
  replace e:=(aI _ _ _)▸e
  obtain rfl:=bE e
  exact hm v rfl
 ·replace e:=(aR _ _ q)▸e
  exact hc b v e
theorem aIi{pos tpos:Pos}{e:Expr}{h0:ExceptHandler}{hs:List ExceptHandler}{Q:gA→aX→aA→Prop}{X0:bF→Prop}(hv:rX loc=true)(hc:∀b v,σ b≠some (.cell v))
  (h:cP X0 σ loc md (fun Z σ'=>Q .next loc σ') e) (hX0:∀x,X0 x→(∃fI own,kN x.C fI own)∧aGb md loc (lT σ) Q x h0) (hn:gN e=true:=by rfl):
  sY md (.Try [.Expr e pos] (h0::hs) [] [] tpos) loc σ Q X:=fun A env m s S=>by
 refine wpAny_Try_except (wpAny_execs_cons (wpAny_Expr_any (wpAny_mono (h A env m s S) (fun v s' q=>?_) fun ev s' q=>?_) (by unfold interactive;rw[S.frm.kind];rfl) (hO hn ..)))
 ·obtain⟨r,σ',h1,h2,h3,S'⟩:=S.ev q
  refine wpAny_execs_nil (wpAny_execs_nil ?_)
  exact⟨.next,_,σ',_,h1,rfl,h3.l _,S'.ns,S'.sim,S'.loc⟩
 ·obtain⟨x,hx0,u⟩:=aKq q
  obtain⟨hE,hH⟩:=hX0 x hx0
  refine aDr rfl S.frm u fun s2 u2=>?_
  obtain⟨L,u2⟩:=u2
  refine tD S.frm u2 (by simp) fun s3 u3=>?_
  exact aHH S hv hc hE u3 hH
structure aFN(its:List It)(res:Except bF (List V)):Prop where
 good:jL its
 run:∃k,k≤1000∧nT dF k [.run its 0 false none] [] []=some res
structure aGw(nds:List Nd):Prop where
 txt:∀b,∀x∈bP b nds,xP 12 x
 run:∀b,aFN (bN (bP b nds) 0) (.ok ((kU nds).map gJ))
 bad:∀r∈eH,aFN (bN (bP false nds) 0++bN (.s "nop"::r.1) (cH (bP false nds))) (.error (rB 1 (cH (bP false nds)+2+r.2.2) r.2.1))
theorem aJq{σ:aA}(a:Str)(b c:Int):eqV σ (.lst [.str a,.int b,.int c]) (.lst [.str a,.int b,.int c])=some true:=
 (aAE (σ:=σ) (a:=.lst [.str a,.int b,.int c]) (b:=.lst [.str a,.int b,.int c]) (x:=.list [.str a,.int b,.int c]) (y:=.list [.str a,.int b,.int c]) rfl rfl (by simp[PyData.depth,PyData.depthAll]) (by simp[PyData.depth,PyData.depthAll])).trans (by simp[PyData.eqv,PyData.eqvAll])
theorem aMm{a:List (List Int)}:∀v∈a.map gJ++[V.tup [.int 11]],aLy v:=fun v h=>by
 rcases gK h with q|q
 ·obtain⟨i,_,rfl⟩:=List.mem_map.mp q;exact⟨i,rfl⟩
 ·cases eR q;exact⟨[11],rfl⟩
theorem fQ:∀(a b:List Tx) (n:Int),bN a n++bN b (n+cH a)=bN (a++b) n
 |[],b,n=>by rw[show cH []=0 from rfl,Int.add_zero];rfl
 |x::a,b,n=>by
  rw[show cH (x::a)=aAO x+cH a from rfl,←Int.add_assoc,List.cons_append]
  show mkI x n::(bN a (n+aAO x)++_)=mkI x n::bN (a++b) (n+aAO x)
  rw[fQ a b]
theorem aFz(a b:List It):cN a++cN b=cN (a++b):=by exact rwL (gX _) (rwL (gX _) (rwL (gX _) (rwL eD rfl)))
theorem aJD(C:Cx G){nds:List Nd}{p1 p2 p3 p4 p5 p6 p7:Pos}{k c:Nat}{Q:V→aA→Prop}(hd:md.hd=none)(hn:6≤md.n)(hg:md.sc.lookup ("_law_flat":Str)=some .globalImplicit)(hx:loc.lookup ("nodes":Str)=some (.val (.lst (jO nds))))(ho:∀nd∈nds,∃names,gE 5 names nd)(hz:eU nds≤16)
  (hq:Q (.lst ((kU nds).map gJ++[V.tup [.int 11]])) σ):cP X σ loc md Q (.BinOp (.Call (.Name "_law_flat" p1) [.Name "nodes" p2] [] p3) .Add (.List [.Tuple [.Constant (.int 11) k p4] c p5] p6) p7):=by
 refine jG<|aY (n:=6) (jX C) (aS C rfl) hg hn hd<|aC (aB hx<|aE<|aLO C 5 ho hz ?_)
 refine bJ<|aC<|aT<|aC<|aF<|aE ⟨aD rfl,aE ⟨aD rfl,.inl ⟨_,_,rfl,rfl,?_,.inl hq⟩⟩⟩
 have:=rV ho
 simp;exact aM this (aM (hZ 4 hz) (aD rfl))
theorem wY(C:Cx G){nds:List Nd}{its:List It}{x:Str}{ks:List (Addr×dJ)}{p0 p1 p2 p3 p4 p5 p6 p7 q1 q2 q3 q4 q5:Pos}{k k0 c:Nat}{Q:Bool→aA→Prop}(hd:md.hd=none)(hn:17≤md.n)(hg:md.sc.lookup ("_law_flat":Str)=some .globalImplicit)(hg2:md.sc.lookup ("read_body":Str)=some .globalImplicit)(hx:loc.lookup ("nodes":Str)=some (.val (.lst (jO nds))))(hi:loc.lookup ("ids":Str)=some (.val (kK dF)))(hl:loc.lookup x=some (.val (.lst (cN its))))(ho:∀nd∈nds,∃names,gE 5 names nd)(hz:eU nds≤16)
  (hc:∀b v,σ b≠some (.cell v)) (hk:∀p∈ks,σ p.1=some p.2∧p.2≠.mark∧∀v,p.2≠.cell v) (hr:aFN its (.ok ((kU nds).map gJ))) (hq:∀σ',(∀b v,σ' b≠some (.cell v))→(∀p∈ks,σ' p.1=some p.2)→Q false σ') (dx:(x==("__debug__":Str))=false:=by exact zD T0):
  qI md (.Compare (.Call (.Name "read_body" q1) [.Constant .none k0 q2,.Name "ids" q3,.Name x q4] [] q5) [.NotEq] [.BinOp (.Call (.Name "_law_flat" p1) [.Name "nodes" p2] [] p3) .Add (.List [.Tuple [.Constant (.int 11) k p4] c p5] p6) p7] p0) loc σ Q X:=by
 obtain⟨kk,hkk,hrun⟩:=hr.run
 refine aV<|aY (n:=17) (tY C) (aS C rfl) hg2 hn hd<|aC<|bQ<|aC (aB hi<|aC (aB hl (aE<|aCP hc<|aHG C (ks:=ks) hkk hr.good hrun (fun p hp=>⟨(hk p hp).1,(hk p hp).2.1⟩) (fun B' hB σ' b hb hks=>?_) nofun) dx))
 obtain rfl:=Except.ok.inj hB
 exact aJD C hd (aM (by decide) hn) hg hx ho hz ⟨false,by show(eqV _ _ _).map (!·)=_;rw[aKT aMm (tC hb nofun)];rfl,hq _ (aJi σ') fun p hp=>tC (hks p hp) (hk p hp).2.2⟩
end
noncomputable def aJs(t:Str):Bool:=decide (t.length≤500)&&pV t&&(t.cps.toList[(0:Nat)]?).isSome&&(!(eC t=="int")||(PySem.intText? t).isSome)
theorem aD9{t:Str}(h:aJs t=true):aDw t:=by
 simp only[aJs,Bool.and_eq_true,decide_eq_true_eq] at h
 obtain⟨⟨⟨h1,h2⟩,h3⟩,h4⟩:=h
 refine⟨h1,dI h2,Option.isSome_iff_exists.mp h3,fun q=>?_⟩
 replace h4:=q▸h4
 have h5:(PySem.intText? t).isSome=true:=h4
 obtain⟨i,hi⟩:=Option.isSome_iff_exists.mp h5
 unfold aCR
 refine rwL hi ?_
 rfl
mutual
noncomputable def txB:Nat→Tx→Bool
 |_,.s t=>aJs t
 |0,.l _=>false
 |d+1,.l ts=>decide (ts.length≤1000)&&aFU d ts
noncomputable def aFU:Nat→List Tx→Bool
 |_,[]=>true
 |d,x::xs=>txB d x&&aFU d xs
end
mutual
theorem aKP:∀{d:Nat} (x:Tx),txB d x=true→xP d x
 |d,.s t,h=>.s (aD9 (by rw[txB] at h;exact h))
 |0,.l ts,h=>by rw[txB] at h;exact iX h
 |d+1,.l ts,h=>by
  rw[txB,Bool.and_eq_true] at h
  exact .l (of_decide_eq_true h.1) (aAS ts h.2)
theorem aAS:∀{d:Nat} (xs:List Tx),aFU d xs=true→∀x∈xs,xP d x
 |d,[],_=>gR
 |d,y::ys,h=>fun x hx=>by
  rw[aFU,Bool.and_eq_true] at h
  rcases eM hx with q|q
  ·refine rwL q ?_
   exact aKP y h.1
  ·exact aAS ys h.2 x q
end
theorem aBY:∀r∈eH,r.1.length≤10∧∀x∈(.s "nop"::r.1),xP 12 x:=by
 have:(eH.all fun r=>decide (r.1.length≤10)&&aFU 12 (.s "nop"::r.1))=true:=by decide+kernel
 intro r hr
 have h:=eT this r hr
 rw[Bool.and_eq_true] at h
 exact⟨of_decide_eq_true h.1,aAS _ h.2⟩
section
variable{md:Md}{loc:aX}{σ:aA}{X:bF→Prop}
theorem dM:∀(l:List Tx) (n:Int),(bN l n).length=l.length
 |[],_=>rfl
 |x::xs,n=>congrArg (·+1) (dM xs _)
theorem aDi(C:Cx G){why:Str}{n at':Int}{Q:V→aA→Prop}{md:Md}{loc:aX}{k1 k2:Nat}{p1 p2 p3 p4 p5 p6 p7 p8 p9 p10 p11 p12 p13 p14 p15 p16:Pos}(hf:loc.lookup ("fault":Str)=some (.val (.xc 157 ["why","row","column"] [.str why,.int 1,.int (n+2+at')])))(hw:loc.lookup ("why":Str)=some (.val (.str why)))(ha:loc.lookup ("ahead":Str)=some (.val (.int n)))(ht:loc.lookup ("at":Str)=some (.val (.int at')))
  (hq:Q (.bool true) σ):cP X σ loc md Q (.Compare (.List [.Attribute (.Name "fault" p1) "why" p2,.Attribute (.Name "fault" p3) "row" p4,.Attribute (.Name "fault" p5) "column" p6] p7) [.Eq] [.List [.Name "why" p8,.Constant (.int 1) k1 p9,.BinOp (.BinOp (.Name "ahead" p10) .Add (.Constant (.int 2) k2 p11) p12) .Add (.Name "at" p13) p14] p15] p16):=by
 refine kI<|bJ<|aC (pL<|aB hf ⟨_,_,_,_,_,_,rfl,wR C,rfl,rfl,rfl,?_⟩)
 refine aC (pL<|aB hf ⟨_,_,_,_,_,_,rfl,wR C,rfl,rfl,rfl,?_⟩)
 refine aC (pL<|aB hf ⟨_,_,_,_,_,_,rfl,wR C,rfl,rfl,rfl,aE ⟨aD rfl,.inl ?_⟩⟩)
 exact bJ<|bL hw<|aC<|aF<|aC (aP<|aP<|aB ha<|aF ⟨_,.add _ _,aB ht ⟨_,.add _ _,aE ⟨aD rfl,.inl ⟨true,aJq (σ:=σ) _ _ _,hq⟩⟩⟩⟩)
set_option maxHeartbeats 4000000 in
theorem aML(C:Cx G){xs:List Int}{Q:V→aA→Prop}(hz:xs.length≤1000)(hc:∀b v,σ b≠some (.cell v))(hp:∀nds:List Nd,(∀nd∈nds,gE 5 [] nd)→eU nds≤16→aGw nds)(hq:∀σ',Q (.bool true) σ'):aGH G 18 (.ref 657) [.lst (xs.map V.int)] σ Q:=by
 refine aHf (n:=17) (gV (ps:=["script"]) C rfl rfl rfl rfl (bt1 fun Z Z=>.of_eq rfl)) (zD T0) (zD T0) rfl fun L hL=>?_
 have hc1:=uX (a:=L) (m:=.mark) hc (by nofun)
 show jC _ (upd L .mark σ) _ _ _ _
 generalize upd L .mark σ=σ at hc1 ⊢
 refine cG rfl<|bJ<|bL rfl<|aC<|aF<|aC<|aF<|aE ⟨aD rfl,.inr fun p hpn=>?_⟩
 refine cG rfl<|aY (n:=15) (nR C) (aS C rfl) rfl (aD rfl) rfl<|bL rfl<|aC<|bJ<|aE ⟨aD rfl,.inl<|aC<|aF<|aC (aP<|aF<|aP<|aY (n:=1) (jZ C) (aS C rfl) rfl (aD rfl) rfl<|aQ rfl<|vK C (ns:=xs) (a:=0) (b:=16) (aI ..) (aD rfl) hz fun x=>aF ⟨_,.mod _ _ (zD T0),_,.add _ _,?_⟩)⟩
 refine rwL bK ?_
 obtain⟨j1,j2⟩:=gH (a:=x) (n:=4) (aD rfl)
 rw[show((4:Nat):Int)=4 from rfl] at j1 j2
 refine rwL j2 ?_
 refine rwL (show(1:Int)+((x.fmod 4).toNat:Int)=((1+(x.fmod 4).toNat:Nat):Int) by rfl) ?_
 refine aE<|zI C 4 (bO _) (names:=[]) (ns:=xs) (a:=0+1) (b:=16) (aI ..) hz (aD rfl) (aM (dH (Nat.add_comm 1 _)) j1) (aD rfl) fun nds a b h1 h2 h3=>?_
 refine rwL bK ?_
 have hs:eU nds≤16:=by exact aM (eL _ b) (dH h2)
 have ha:a≤100:=by exact aM (eL _ _) (aM h3 (aD rfl))
 have ho:∀nd∈nds,∃names,gE 5 names nd:=fun nd h=>⟨_,h1 nd h⟩
 obtain⟨htx,hrun,hbad⟩:=hp nds h1 hs
 have hc2:=uX (a:=p) (m:=fG xs a b) hc1 (by nofun)
 have hp2:upd p (fG xs a b) σ p=some (fG xs a b):=aI ..
 generalize upd p (fG xs a b) σ=σ at hc2 hp2 ⊢
 have len:∀b,(bP b nds).length≤192:=fun b=>aM (nB ho) (hZ 12 hs)
 refine cG rfl<|bJ<|aC<|aF<|aE ⟨aD rfl,.inr fun c hcn=>?_⟩
 have hcp:=dS hp2 hcn
 refine cG rfl<|aY (n:=16) (kS C) (aS C rfl) rfl (aD rfl) rfl<|aC (lC C (aGf C (tK C 5)) rfl (aD rfl) rfl rfl ho hs<|aQ rfl<|aAo C 12 (htx false) (aM (len _) (aD rfl)) (aI ..) ?_)
 refine rwL bK ?_
 refine rwL (Int.zero_add _) ?_
 have hc3:=uX (a:=c) (m:=.lst [.int (cH (bP false nds))]) hc2 (by nofun)
 have hp3:upd c (.lst [.int (cH (bP false nds))]) σ p=some (fG xs a b):=bV hp2 hcn
 have hn3:upd c (.lst [.int (cH (bP false nds))]) σ c=some (.lst [.int (cH (bP false nds))]):=aI ..
 show jC _ (upd c (.lst [.int (cH (bP false nds))]) σ) _ _ _ _
 generalize upd c (.lst [.int (cH (bP false nds))]) σ=σ at hc3 hp3 hn3 ⊢
 refine cG rfl<|uZ (ks:=["$x","$y"]) (is:=[3,0]) (.cons ⟨_,_,_⟩<|.cons ⟨_,_,_⟩ .nil) (zD T0) (fun k hk=>dI (by
  have:∀k∈(["$x","$y"]:List Str),pV k=true:=by decide+kernel
  exact this k hk)) rfl nofun (aD rfl) ⟨_,_,rfl,.pos ..,_,_,rfl,.pos ..,rfl⟩ ?_
 have ks3:∀q∈[(p,fG xs a b),(c,dJ.lst [.int (cH (bP false nds))])],σ q.1=some q.2∧q.2≠.mark∧∀v,q.2≠.cell v:=fun q hq=>by
  rcases eM hq with e|e
  ·refine rwL e ?_
   exact⟨hp3,by nofun,by nofun⟩
  ·refine rwL (eR e) ?_
   exact⟨hn3,by nofun,by nofun⟩
 refine qZ<|wY C (its:=bN (bP false nds) 0) (ks:=[(p,fG xs a b),(c,dJ.lst [.int (cH (bP false nds))])]) rfl (aD rfl) rfl rfl rfl rfl rfl ho hs hc3 ks3 (hrun false) fun σ4 hc4 hk4=>bB rfl<|aH ?_
 have hp4:=hk4 _ (eS ..)
 have hn4:=hk4 _ (fW _ (eS ..))
 refine cG rfl<|aY (n:=16) (kS C) (aS C rfl) rfl (aD rfl) rfl<|aC (lC C (aGf C (tK C 5)) rfl (aD rfl) rfl rfl ho hs<|aC<|bJ<|aC<|aF<|aE ⟨aD rfl,.inr fun z hzn=>aE<|aAo C 12 (htx true) (aM (len _) (aD rfl)) (aI ..) ?_⟩)
 refine rwL bK ?_
 have hc5:=uX (a:=z) (m:=.lst [.int (0+cH (bP true nds))]) hc4 (by nofun)
 have hp5:upd z (.lst [.int (0+cH (bP true nds))]) σ4 p=some (fG xs a b):=bV hp4 hzn
 have hn5:upd z (.lst [.int (0+cH (bP true nds))]) σ4 c=some (.lst [.int (cH (bP false nds))]):=bV hn4 hzn
 show jC _ (upd z (.lst [.int (0+cH (bP true nds))]) σ4) _ _ _ _
 generalize upd z (.lst [.int (0+cH (bP true nds))]) σ4=σ5 at hc5 hp5 hn5 ⊢
 have ks5:∀q∈[(p,fG xs a b),(c,dJ.lst [.int (cH (bP false nds))])],σ5 q.1=some q.2∧q.2≠.mark∧∀v,q.2≠.cell v:=fun q hq=>by
  rcases eM hq with e|e
  ·refine rwL e ?_
   exact⟨hp5,by nofun,by nofun⟩
  ·refine rwL (eR e) ?_
   exact⟨hn5,by nofun,by nofun⟩
 refine qZ<|fJ<|wY C (its:=bN (bP true nds) 0) (ks:=[(p,fG xs a b),(c,dJ.lst [.int (cH (bP false nds))])]) rfl (aD rfl) rfl rfl rfl rfl rfl ho hs hc5 ks5 (hrun true) fun σ6 hc6 hk6=>bB rfl<|fJ ?_
 have hp6:=hk6 _ (eS ..)
 have hn6:=hk6 _ (fW _ (eS ..))
 refine aEt<|aB rfl<|uZ (ks:=["$x","$y"]) (is:=[3,0]) (.cons ⟨_,_,_⟩<|.cons ⟨_,_,_⟩ .nil) (zD T0) (fun k hk=>dI (by
  have:∀k∈(["$x","$y"]:List Str),pV k=true:=by decide+kernel
  exact this k hk)) rfl nofun (aD rfl) ⟨_,_,rfl,.pos ..,_,_,rfl,.pos ..,rfl⟩ ⟨rfl,rfl,bB rfl<|eO<|bB rfl<|aH ?_⟩
 refine cG rfl<|aY (n:=1) (aAr C) (aS C rfl) rfl (aD rfl) rfl<|aE<|aJw C ?_
 have wl:(eH.map gM).length=30:=by rw[bS];rfl
 refine aG<|bD (ns:=["texts","why","at"]) (o:=none) rfl rfl rfl rfl (.inl rfl)<|bR<|aB rfl<|aP<|aY (n:=1) (jZ C) (aS C rfl) rfl (aD rfl) rfl<|aQ rfl<|vK C (b:=b) hp6 (aM ha (aD rfl)) hz fun y=>cY (hY C) rfl (aO _) rfl rfl<|aQ rfl<|fK (n:=30) (by show some (eH.map gM).length=_;rw[wl]) (aD rfl) ⟨_,.mod _ _ (zD T0),?_⟩
 obtain⟨i1,i2⟩:=gH (a:=y) (n:=30) (aD rfl)
 refine rwL i2 ?_
 obtain⟨r,hr⟩:∃r,eH[(y.fmod ((30:Nat):Int)).toNat]? =some r:=⟨_,List.getElem?_eq_getElem i1⟩
 have hrm:r∈eH:=iA hr
 obtain⟨rl,rx⟩:=aBY r hrm
 obtain⟨bg,kk,hkk,brun⟩:=hbad r hrm
 refine⟨gM r,.lst _ _ _ _ rfl (vS (Nat.lt_trans i1 (aD rfl))) (gI (by rw[List.getElem?_map,hr];rfl)),⟨_,rfl,rfl,?_⟩⟩
 refine rwL (if_pos rfl) ?_
 have hn7:upd p (fG xs (a+1:Nat) b) σ6 c=some (.lst [.int (cH (bP false nds))]):=(aR _ _ hcp.symm).trans hn6
 have hc7:=uX (a:=p) (m:=fG xs (a+1:Nat) b) hc6 (by nofun)
 show jC _ (upd p (fG xs (a+1:Nat) b) σ6) _ _ _ _
 generalize upd p (fG xs (a+1:Nat) b) σ6=σ7 at hn7 hc7 ⊢
 refine cG rfl<|bR<|aB rfl<|aF ⟨_,.lst _ _ 0 _ (dA hn7) (zD T0) rfl,?_⟩
 refine aG<|aIi (X0:=fun x=>x=rB 1 (cH (bP false nds)+2+r.2.2) r.2.1) rfl hc7 ?_ fun x hx=>?_
 ·refine aY (n:=17) (tY C) (aS C rfl) rfl (aD rfl) rfl<|aC<|bQ<|bL rfl<|aC (jG<|aB rfl<|aY (n:=16) (kS C) (aS C rfl) rfl (aD rfl) rfl<|aC (jG<|bJ<|aC<|aN (by kernel_rfl)<|aE ⟨aD rfl,.inl<|aB rfl ⟨_,fU r.1,rfl,rfl,?_,.inl ?_⟩⟩))
  ·refine rwL (oH _) ?_
   simp
   exact aM (fV rl 1) (aD rfl)
  refine aQ rfl<|aAo C 12 (txs:=.s "nop"::r.1) rx (by simp;exact aM ‹_› (aD rfl)) hn7 ⟨_,_,rfl,rfl,?_,.inl ?_⟩
  ·refine rwL (bH _) ?_
   refine rwL (bH _) ?_
   refine rwL (dM _ _) ?_
   refine rwL (dM _ _) ?_
   have:=len false
   refine rwL eX ?_
   exact aM (cT (len false) (fM rl)) (aD rfl)
  refine rwL (aFz _ _) ?_
  exact aE<|aHG C (ks:=[]) hkk bg brun gR nofun fun e he=>by obtain rfl:=Except.error.inj he;rfl
 ·subst hx
  refine⟨⟨_,_,wR C⟩,157,fun hd=>bA (zJ C) rfl ⟨rfl,rfl⟩,⟨_,_,wR C⟩,⟨_,C.k,by kernel_rfl⟩,rfl,fun hd=>?_⟩
  refine bZ<|aDi C rfl rfl rfl rfl ?_
  exact⟨_,rfl,hq _⟩
end
noncomputable def Go(B:List V)(m:Nat)(ls:List Lb)(ls':List Lb)(t:List PT)(t':List PT)(B':List V):Prop:=∃c,c≤m∧∀k,nT dF (c+k) t B ls=nT dF k t' B' ls'
section
variable{m m':Nat}{t t1 t2 ts us:List PT}{B B1 B2 C:List V}{ls ls1 ls2:List Lb}{l:List It}{i j b0:Nat}{f:Bool}
theorem Go.refl:Go B m ls ls t t B:=⟨0,cM _,fun k=>by exact rwL (Nat.zero_add _) rfl⟩
theorem Go.up(x:Go B m ls ls1 t t1 B1)(h:m≤m'):Go B m' ls ls1 t t1 B1:=let⟨c,h1,h2⟩:=x;⟨c,aM h1 h,h2⟩
theorem Go.trans(x:Go B m ls ls1 t t1 B1)(y:Go B1 m' ls1 ls2 t1 t2 B2):Go B (m+m') ls ls2 t t2 B2:=
 let⟨c,h1,h2⟩:=x;let⟨d,h3,h4⟩:=y;⟨c+d,cT h1 h3,fun k=>by exact rwL (Nat.add_assoc _ _ _) (rwL (h2 _) (rwL (h4 _) rfl))⟩
theorem Go.one{p:PT}(h:mY dF ls p=some (.ok (us,C,ls1))):Go B 1 ls ls1 (p::ts) (us++ts) (B++C):=⟨1,bO _,fun k=>by rw[Nat.add_comm 1 k,aAa,h];rfl⟩
theorem Go.none(x:Go B m ls ls1 (.run l i f (some ls.length)::ts) t1 B1):Go B m ls ls1 (.run l i f .none::ts) t1 B1:=by
 obtain⟨c,h1,h2⟩:=x
 refine⟨c,h1,fun k=>?_⟩
 refine rwR (h2 k) ?_
 cases c+k <;> rfl
theorem Go.done(x:Go [] m ls ls1 t [] B):∃k,k≤m+1∧nT dF k t [] ls=some (.ok B):=
 let⟨c,h1,h2⟩:=x;⟨c+1,fM h1,h2 1⟩
theorem aGX{x:It}(h:l[i]? =some x)(hb:b0≤ls.length):mY dF ls (.run l i f (some b0))=vR dF ls l i b0 f x:=by
 have hi:=(gB h).1
 show(if ls.length<b0 then Option.none else if i=l.length then aGx ls b0 else l[i]?.bind (vR dF ls l i b0 f))=_
 refine rwL (if_neg (Nat.not_lt.mpr hb)) ?_
 refine rwL (if_neg (Nat.ne_of_lt hi)) ?_
 refine rwL h ?_
 rfl
theorem aCI{t:Str}{v iv:V}{r c:Int}(h:l[i]? =some (.tok "word" t v r c))(hb:b0≤ls.length)(hp:iL dF ls b0 l i "word" t v r c=some (.ok (j,iv,ls1))):Go B 1 ls ls1 (.run l i false (some b0)::ts) (.run l j false (some b0)::ts) (B++[iv]):=by
 refine Go.one (us:=[.run l j false (some b0)]) ((aGX h hb).trans ?_)
 rw[vR,if_neg (by simp),hp];rfl
theorem aGO{bl:List It}{r c:Int}(h:l[i]? =some (.br bl r c))(hb:b0≤ls.length)(hp:nV dF ls bl r c=some (.ok (us,C,ls1))):Go B 1 ls ls1 (.run l i f (some b0)::ts) (us++.run l (i+1) f (some b0)::ts) (B++C):=by
 have:=Go.one (ts:=ts) (B:=B) (us:=us++[.run l (i+1) f (some b0)]) ((aGX (f:=f) h hb).trans (show vR dF ls l i b0 f (.br bl r c)=some (.ok (us++[.run l (i+1) f (some b0)],C,ls1)) by rw[vR,hp];rfl))
 rw[eJ] at this;exact this
theorem aLe(h:i=l.length):Go B 1 ls ls (.run l i f (some ls.length)::ts) ts B:=by
 have:=Go.one (ts:=ts) (B:=B) (us:=[]) (C:=[]) (ls1:=ls) (p:=.run l i f (some ls.length)) (ls:=ls) (by
  show(if ls.length<ls.length then Option.none else if i=l.length then aGx ls ls.length else _)=_
  rw[if_neg (Nat.lt_irrefl _),if_pos h]
  exact if_pos rfl)
 rw[List.append_nil] at this;exact this
theorem aEa{iv:V}:Go B 1 ls ls (.emit iv::ts) ts (B++[iv]):=Go.one (us:=[]) rfl
theorem aI0{iv:V}{lb:Lb}:Go B 1 ls (ls++[lb]) (.opn iv lb::ts) ts (B++[iv]):=Go.one (us:=[]) rfl
theorem aBS{lb:Lb}:Go B 1 (ls++[lb]) ls (.close::ts) ts (B++[.tup [.int 11]]):=by
 refine Go.one (us:=[]) ?_
 refine(if_neg (by simp)).trans ?_
 rw[List.dropLast_concat]
end
noncomputable def aBi(x:It):Bool:=match x with
 |.tok s t ..=>s=="word"&& !Txt.startswith t "offset="&& !Txt.startswith t "align="
 |.br ..=> !((["result","type","param"]:List Str).any (·==dK x))
noncomputable def qY(R:List It):Prop:=∀x,R[(0:Nat)]? =some x→aBi x=true
theorem qY.nil:qY []:=nofun
theorem qY.app{a b:List It}(h1:qY a)(h2:qY b):qY (a++b):=by
 induction a with
 |nil=>exact h2
 |cons x a=>exact h1
noncomputable def xK(a:List Tx):Prop:=∀n,qY (bN a n)
theorem xK.nil:xK []:=fun Z=>.nil
theorem xK.app{a b:List Tx}(h1:xK a)(h2:xK b):xK (a++b):=fun n=>by exact rwR (fQ _ _ _) ((h1 n).app (h2 _))
noncomputable def zA(m:Nat)(a:List Tx)(C:List V)(ls ls':List Lb)(f:Bool):Prop:=
 ∀l i n R b0 ts B,l.drop i=bN a n++R→qY R→b0≤ls.length→b0≤ls'.length→Go B m ls ls' (.run l i f (some b0)::ts) (.run l (i+a.length) f (some b0)::ts) (B++C)
section
variable{m m':Nat}{a b:List Tx}{C D:List V}{ls ls1 ls2:List Lb}{f:Bool}
theorem zA.nil:zA 0 [] [] ls ls f:=fun l i n R b0 ts B h Z Z Z=>by exact rwL (List.append_nil _) .refl
theorem zA.up(x:zA m a C ls ls1 f)(h:m≤m'):zA m' a C ls ls1 f:=fun l i n R b0 ts B h1 h2 h3 h4=>(x l i n R b0 ts B h1 h2 h3 h4).up h
theorem aCp{l R:List It}{i:Nat}{a:List It}(h:l.drop i=a++R):l.drop (i+a.length)=R:=by
 rw[←List.drop_drop,h,List.drop_left]
theorem zA.app(x:zA m a C ls ls1 f)(y:zA m' b D ls1 ls2 f)(hf:xK b)(hl:ls.length≤ls1.length∨ls2.length≤ls1.length):zA (m+m') (a++b) (C++D) ls ls2 f:=fun l i n R b0 ts B h hR h1 h2=>by
 rw[←fQ,eJ] at h
 have h3:b0≤ls1.length:=hl.elim (aM h1) (aM h2)
 have g:=(x l i n _ b0 ts B h ((hf _).app hR) h1 h3).trans (y l (i+a.length) _ R b0 ts _ (by have:=aCp h;rw[dM] at this;exact this) hR h3 h2)
 rw[eJ,Nat.add_assoc,←cL] at g
 exact g
theorem dC{l R:List It}{i:Nat}{x:It}(h:l.drop i=x::R):l[i]? =some x∧l.drop (i+1)=R:=by
 have:=wX h.symm;exact⟨this.1,this.2.symm⟩
theorem zA.all{l:List It}{i:Nat}{n:Int}{ts:List PT}{B:List V}(x:zA m a C ls ls f)(h:l.drop i=bN a n)(hi:i≤l.length):Go B (m+1) ls ls (.run l i f .none::ts) ts (B++C):=by
 refine Go.none ((x l i n [] ls.length ts B (rwL (List.append_nil _) h) .nil (bO _) (bO _)).trans (aLe ?_))
 have h2:=congrArg List.length h
 rw[dM,List.length_drop] at h2
 exact(congrArg (i+·) h2.symm).trans (Nat.add_sub_cancel' hi)
end
noncomputable def aHA(c:Int):Option Str:=match lX c with
 |.str f=>some f
 |_=>none
noncomputable def wdB(t:Str):Bool:=(eC t=="word")&& !((["block","loop","if","else","end","then","result","type","param",""]:List Str).any (·==t))&& !Txt.startswith t "offset="&& !Txt.startswith t "align="
noncomputable def opB(t:Str)(code:Int)(f:Str):Bool:=wdB t&& !(t=="select")&& !owB t&&(wQ t==some code)&&(aHA code==some f)
theorem qM{t f:Str}{code:Int}(h:opB t code f=true):wdB t=true:=by
 simp only[opB,Bool.and_eq_true] at h;exact h.1.1.1.1
set_option tactic.hygienic true in
theorem qQ{t f:Str}{code:Int}(h:opB t code f=true){names:List Str}{l:List It}{i:Nat}{v:V}{r c:Int}:mH dF names l i "word" t v r c=rH dF names l i f code (.tok "word" t v r c):=by
 simp only[opB,Bool.and_eq_true,Bool.not_eq_true',beq_eq_false_iff_ne] at h
 obtain⟨⟨⟨⟨_,h1⟩,h2⟩,h3⟩,h4⟩:=h
 have e:lX code=.str f:=by
  have h4:=cJ h4
  unfold aHA at h4
  split at h4
  ·rename_i g e;obtain rfl:=bE h4;exact e
  ·exact cZ h4
 unfold mH
 rw[if_neg h1,if_neg (by rw[h2];decide),cJ h3]
 show(mU (lX code)).bind _=_
 rw[e];rfl
theorem rO{t:Str}(h:wdB t=true)(n:Int):gS t n=.tok "word" t (.str t) 1 n∧aBi (.tok "word" t (.str t) 1 n)=true:=by
 simp only[wdB,Bool.and_eq_true] at h
 obtain⟨⟨⟨h1,_⟩,h2⟩,h3⟩:=h
 have h1:=cJ h1
 refine⟨?_,?_⟩
 ·unfold gS aEI
  refine rwL h1 ?_
  rfl
 ·unfold aBi
  simp only[h2,h3,beq_self_eq_true,Bool.and_self]
inductive mX(names:List Str)(txs:List Tx)(told:List Int):Prop
 |mk (t:Str) (more:List Tx) (e:txs=.s t::more) (w:wdB t=true) (h:∀l i n R,l.drop i=bN txs n++R→qY R→mH dF names l (i+1) "word" t (.str t) 1 (n+1)=some (.ok (gJ told,i+txs.length)))
theorem aIy:sV.all (fun r=>r.1=="select"&&r.2==27||(match aHA r.2 with
  |some f=>pH.any (·==f)&&opB r.1 r.2 f
  |none=>false))=true:=by decide+kernel
theorem aKl:wdB "select"=true:=by decide+kernel
theorem aB4{R:List It}{j:Nat}{ks:List Int}{b:Bool}(h:qY R):xV R j ks b=some (ks,b,j):=by
 induction R with
 |nil=>rfl
 |cons x R=>
  rw[wD,if_neg]
  have:=h x rfl
  intro e
  cases x with
  |tok=>cases e
  |br l r c=>
   have q:aBi (.br l r c)= !((["result","type","param"]:List Str).any (·==dK (.br l r c))):=rfl
   replace this:=q▸this
   replace this:=e▸this
   exact iX this
set_option tactic.hygienic true in
theorem aIB{names:List Str}{r:Str×Int}(h:r∈sV):mX names [.s r.1] [r.2]:=by
 have h1:=eT aIy r h
 obtain⟨t,code⟩:=r
 rcases Bool.or_eq_true_iff.mp h1 with h2|h2
 ·replace h2:=(Bool.and_eq_true _ _)▸h2
  obtain rfl:=cJ h2.1
  obtain rfl:=cJ h2.2
  refine⟨"select",[],rfl,aKl,fun l i n R hd hF=>?_⟩
  have hR:l.drop (i+1)=R:=(dC hd).2
  show aEA l (i+1)=_
  unfold aEA
  refine rwL hR ?_
  refine rwL (aB4 hF) ?_
  rfl
 ·dsimp only at h2
  split at h2
  ·rename_i f hf
   replace h2:=(Bool.and_eq_true _ _)▸h2
   refine⟨t,[],rfl,qM h2.2,fun l i n R hd hF=>?_⟩
   refine rwL (qQ h2.2) ?_
   exact if_pos h2.1
  ·exact iX h2
noncomputable def aJp:List Nat:=[45,48,49,50,51,52,53,54,55,56,57]
theorem aK0:aJp.all (fun c=>kJ "-0123456789" ⟨#[c]⟩&&(kJ "+-" ⟨#[c]⟩==decide (c=45)))=true:=by decide+kernel
theorem rI{n:Int}{t:Str}(h:aKy n t):eC t="int"∧aEI t=.int n∧gO t=decide (n<0):=by
 obtain⟨c,h1,h2⟩:=h.hd
 have hm:c∈aJp:=h2.elim (fun q=>q.1▸(zD T0:45∈aJp)) fun q=>(by decide+kernel:∀c:Nat,c<58→48≤c→c∈aJp) c (Nat.lt_succ_of_le q.2.1) q.1
 have h3:=eT aK0 c hm
 rw[Bool.and_eq_true] at h3
 have e1:eC t="int":=by unfold eC;rw[h1];exact if_pos h3.1
 refine⟨e1,?_,?_⟩
 ·unfold aEI aCR
  refine rwL (if_pos e1) ?_
  refine rwL h.read ?_
  rfl
 ·unfold gO
  refine rwL h1 ?_
  show kJ "+-" ⟨#[c]⟩=_
  refine rwL (cJ h3.2) ?_
  exact decide_eq_decide.mpr (h2.elim (fun q=>⟨fun Z=>q.2,fun Z=>q.1⟩) fun q=>⟨fun e=>absurd (e▸q.1:48≤45) (zD T0),fun z=>absurd z (Int.not_lt.mpr q.2.2)⟩)
theorem aDP{n:Int}(h:n.natAbs<10^20)(c:Int):gS (iP n) c=.tok "int" (iP n) (.int n) 1 c:=by
 obtain⟨h1,h2,_⟩:=rI (mP h)
 unfold gS;rw[h1,h2]
theorem aKa:(opB "i32.const" 65 "i32"&&opB "i64.const" 66 "i64"&&opB "ref.null" 208 "refkind")=true:=by decide+kernel
theorem aBg{names:List Str}{l:List It}{i:Nat}{f:Str}{code:Int}{tk:It}(h:f="i32"∨f="i64"∨f="refkind"):rH dF names l i f code tk=some (mE code f l i tk):=by
 rcases h with rfl|rfl|rfl <;> rfl
theorem aFJ{n:Int}{m:Int}(h0:0<m)(h1: -m≤n)(h2:n<m):0≤n.fmod m∧n.fmod m<m∧(n.fmod m=n∨n.fmod m=n+m):=by
 refine rwL (Int.fmod_eq_emod_of_nonneg n (Int.le_of_lt h0)) ?_
 refine⟨Int.emod_nonneg n (Int.ne_of_gt h0),Int.emod_lt_of_pos n h0,?_⟩
 rcases Int.lt_or_le n 0 with h|h
 ·right
  refine rwR (Int.add_emod_right _ _) ?_
  exact Int.emod_eq_of_lt ((Int.add_left_neg m)▸Int.add_le_add_right h1 m) (by lia)
 ·exact .inl (Int.emod_eq_of_lt h h2)
theorem aHQ{b:Nat}{n t r c:Int}(hb:b=32∨b=64)(h0: -(2^(b - 1))≤n)(h1:n<2^(b - 1))(ht:t=n∨t=n.fmod (2^b)):t.natAbs<10^20∧nM (iP t) t b r c=.ok n:=by
 have h3:=yH hb h0 h1 ht
 refine⟨h3,?_⟩
 unfold nM
 rw[(rI (mP h3)).2.2]
 refine oB hb fun H p Z e1 e2 Z Z=>?_
 rw[e1] at h0 h1
 rw[e2] at ht
 have h:=Int.add_pos p p
 rw[e1,Int.one_mul,Int.two_mul]
 have A:(-H≤t∧t<H+H)∧(H≤t→t - (H+H)=n)∧(¬H≤t→t=n):=by
  rcases ht with rfl|ht
  ·exact⟨⟨h0,Int.lt_trans h1 (Int.lt_add_of_pos_left _ p)⟩,fun q=>absurd h1 (Int.not_lt.mpr q),fun Z=>rfl⟩
  ·obtain⟨a,b,q⟩:=aFJ h (Int.le_trans (Int.neg_le_neg (Int.le_add_of_nonneg_left (Int.le_of_lt p))) h0) (Int.lt_trans h1 (Int.lt_add_of_pos_left _ p))
   rw[←ht] at a b q
   refine⟨⟨Int.le_trans (Int.neg_nonpos_of_nonneg (Int.le_of_lt p)) a,b⟩,fun z=>?_,fun z=>?_⟩
   ·rcases q with rfl|rfl
    ·exact absurd h1 (Int.not_lt.mpr z)
    ·exact Int.add_sub_cancel ..
   ·rcases q with q|rfl
    ·exact q
    ·exact absurd (Int.add_le_add_right h0 (H+H)) fun y=>z (by rwa [Int.neg_add_cancel_left] at y)
 rw[if_neg]
 ·by_cases q:H≤t
  ·rw[if_pos q,A.2.1 q]
  ·rw[if_neg q,A.2.2 q]
 ·rw[decide_eq_true A.1.1,Bool.true_and]
  by_cases q:t<0
  ·rw[if_pos (decide_eq_true q),decide_eq_true (Int.lt_trans q p)];decide
  ·rw[if_neg (by rw[decide_eq_false q];decide),decide_eq_true A.1.2];decide
theorem aJc{names:List Str}{b:Nat}{n t:Int}(hb:b=32∨b=64)(h0: -(2^(b - 1))≤n)(h1:n<2^(b - 1))(ht:t=n∨t=n.fmod (2^b)):mX names [.s (aEN b),.s (iP t)] [aGM b,n]:=by
 have hw:=aKa
 simp only[Bool.and_eq_true] at hw
 obtain⟨f,hf,hop,hbits⟩:∃f:Str,(f="i32"∨f="i64"∨f="refkind")∧opB (aEN b) (aGM b) f=true∧f≠"refkind"∧(if f="i32" then 32 else 64)=b:=by
  rcases hb with rfl|rfl
  ·exact⟨"i32",.inl rfl,hw.1.1,zD T0,rfl⟩
  ·exact⟨"i64",.inr (.inl rfl),hw.1.2,zD T0,rfl⟩
 refine⟨aEN b,_,rfl,qM hop,fun l i n' R hd hF=>?_⟩
 obtain⟨h3,h4⟩:=aHQ (r:=1) (c:=n'+1+1) hb h0 h1 ht
 have hx:l[i+1]? =some (gS (iP t) (n'+1+1)):=(dC (dC hd).2).1
 rw[aDP h3] at hx
 refine rwL (qQ hop) ?_
 refine rwL (aBg hf) ?_
 unfold mE
 refine rwL hx ?_
 dsimp only
 refine rwL (if_neg hbits.1) ?_
 refine rwL (if_pos rfl) ?_
 refine rwL hbits.2 ?_
 refine rwL (show mD (.int t)=t from rfl) ?_
 refine rwL h4 ?_
 rfl
theorem aLu:yN.all (fun r=>opB r.1 r.2 "local")=true:=by decide+kernel
theorem aIZ:zX.all (fun q=>hiB (eC q.1)&&(match eV dF (gS q.1 0) with
  |.ok n=>n==q.2
  |.error _=>false))=true:=by decide+kernel
theorem aC0{s t:Str}{v:V}{r c d n:Int}(h:eV dF (.tok s t v r c)=.ok n):eV dF (.tok s t v r d)=.ok n:=by
 by_cases hs:s="int"
 ·have e:∀c,eV dF (.tok s t v r c)=if gO t=true then .error (rB r c "unexpected token") else if 2^32≤mD v then .error (rB r c "i32 constant out of range") else .ok (mD v):=fun c=>if_pos hs
  rw[e] at h ⊢
  by_cases h2:gO t=true
  ·replace h:=(if_pos h2)▸h
   exact exE h
  ·rw[if_neg h2] at h ⊢
   by_cases h3:2^32≤mD v
   ·replace h:=(if_pos h3)▸h
    exact exE h
   ·rw[if_neg h3] at h ⊢;exact h
 ·have e:∀c,eV dF (.tok s t v r c)=match dF.find? fun p=>p.1=t with
   |some p=>.ok p.2
   |none=>.error (rB r c (nN ("unknown local "++t) s)):=fun c=>if_neg hs
  rw[e] at h ⊢
  split at h
  ·exact h
  ·exact exE h
set_option tactic.hygienic true in
theorem aJN{names:List Str}{r q:Str×Int}(h:r∈yN)(h2:q∈zX):mX names [.s r.1,.s q.1] [r.2,q.2]:=by
 have hw:=eT aLu r h
 have hq:=eT aIZ q h2
 rw[Bool.and_eq_true] at hq
 obtain⟨hq1,hq2⟩:=hq
 obtain⟨n,hn,rfl⟩:∃n,eV dF (gS q.1 0)=.ok n∧q.2=n:=by
  split at hq2
  ·rename_i n hn;exact⟨n,hn,(cJ hq2).symm⟩
  ·exact iX hq2
 refine⟨r.1,_,rfl,qM hw,fun l i n' R hd hF=>?_⟩
 have hx:l[i+1]? =some (gS q.1 (n'+1+1)):=(dC (dC hd).2).1
 have hi:pG l (i+1)=true:=by unfold pG;rw[hx];exact hq1
 refine rwL (qQ hw) ?_
 show some (if pG l (i+1)=true then _ else _)=_
 rw[if_pos hi,hx]
 show some (lZ _ (eV dF (gS q.1 (n'+1+1))))=_
 rw[show eV dF (gS q.1 (n'+1+1))=.ok q.2 from aC0 hn]
 rfl
theorem aLc:(aGa.all (fun r=>opB r.1 r.2 "label")&&opB "br_table" 14 "labels"&& !(pH.any (·==("label":Str)))&& !(pH.any (·==("labels":Str))))=true:=by decide+kernel
theorem aHg:iD.all (fun t=>t==""||(eC t=="id"))=true:=by decide+kernel
theorem aHY{names:List Str}{t:Str}{n:Int}(g:nU names t n)(hz:names.length≤100)(hN:∀x∈names,x∈iD)(c:Int):gZ names (gS t c)=.ok n∧aAZ (gS t c)=true:=by
 rcases g with⟨rfl,h0,h1⟩|⟨hm,h0,k,rfl,hk⟩
 ·have hb:n.natAbs<10^20:=by lia
  have hs:=(rI (mP hb)).2.2
  refine rwL (aDP hb _) ?_
  refine⟨?_,by show hiB "int"=true;exact rfl⟩
  exact aBk (rwL hs (decide_eq_false (by exact Int.not_lt.mpr h0))) (Int.lt_of_lt_of_le h1 (Int.le_trans (Int.add_le_add_right (Int.ofNat_le.mpr hz) 2) (by exact zD T0)))
 ·have h1:=eT aHg t (hN t hm)
  have hs:eC t="id":=by
   rcases Bool.or_eq_true_iff.mp h1 with q|q
   ·exact absurd (cJ q) h0
   ·exact cJ q
  unfold gS
  refine rwL hs ?_
  refine⟨?_,by show hiB "id"=true;exact rfl⟩
  exact aA8 (zD T0) hk
theorem aAg{names:List Str}(hz:names.length≤100)(hN:∀x∈names,x∈iD):∀(gs:List (Str×Int)) (c:Int),(∀p∈gs,nU names p.1 p.2)→eA names (bN (gs.map fun p=>.s p.1) c)=.ok (gs.map (·.2))∧(bN (gs.map fun p=>.s p.1) c).all aAZ=true
 |[],_,_=>⟨rfl,rfl⟩
 |g::gs,c,h=>by
  obtain⟨h1,h2⟩:=aHY (h g (eS ..)) hz hN (c+1)
  obtain⟨h3,h4⟩:=aAg hz hN gs (c+1) fun p hp=>h p (fW _ hp)
  have e:bN ((g::gs).map fun p=>Tx.s p.1) c=gS g.1 (c+1)::bN (gs.map fun p=>.s p.1) (c+1):=rfl
  refine rwL e ?_
  refine⟨?_,?_⟩
  ·rw[eA,h1,h3]
   rfl
  ·refine rwL List.all_cons ?_
   refine rwL h2 ?_
   refine rwL h4 ?_
   rfl
theorem aK8{R:List It}(h:qY R):R.takeWhile aAZ=[]:=by
 induction R with
 |nil=>rfl
 |cons x R=>
  have h1:=h x rfl
  rw[List.takeWhile_cons,if_neg]
  intro e
  cases x with
  |br=>exact iX e
  |tok s t v r c=>
   have q:aBi (.tok s t v r c)=(s=="word"&& !Txt.startswith t "offset="&& !Txt.startswith t "align="):=rfl
   rw[q,Bool.and_eq_true,Bool.and_eq_true] at h1
   have e2:hiB s=true:=e
   rw[cJ h1.1.1] at e2
   exact absurd e2 (zD T0)
theorem aIn{a R:List It}(h:a.all aAZ=true)(hF:qY R):(a++R).takeWhile aAZ=a:=by
 rw[List.takeWhile_append_of_pos fun x hx=>eT h x hx,aK8 hF,List.append_nil]
theorem aB8{names:List Str}{l R:List It}{i:Nat}{a:List It}{ns:List Int}{f:Str}{code:Int}{tk:It}(hf:f="label"∧a.length=1∨f="labels")(h0:1≤a.length)(hd:l.drop i=a++R)(hF:qY R)(ha:a.all aAZ=true)(hl:eA names a=.ok ns)(hz:ns.length=a.length):
  rH dF names l i f code tk=some (.ok (.tup (.int code::ns.map V.int),i+a.length)):=by
 have hw:=aLc
 simp only[Bool.and_eq_true,Bool.not_eq_true'] at hw
 have hp:¬pH.any (·==f)=true:=by rcases hf with⟨rfl,_⟩|rfl <;> simp[hw.1.2,hw.2]
 have hr:iF l i=a:=by unfold iF;rw[hd];exact aIn ha hF
 have hg:jI f l i=a:=by
  unfold jI
  rw[hr]
  rcases hf with⟨rfl,h1⟩|rfl
  ·rw[if_neg (by exact zD T0)];exact List.take_of_length_le (dH h1)
  ·exact if_pos rfl
 have hi:pG l i=true:=by
  induction a with
  |nil=>cases h0
  |cons x a=>exact(qS hr).2.1
 unfold rH
 rw[if_neg hp,if_neg (by rcases hf with⟨rfl,_⟩|rfl <;> exact zD T0),if_pos (by rcases hf with⟨rfl,_⟩|rfl <;> simp)]
 unfold vQ
 rw[if_neg hp,if_pos hi,hg,hl]
 dsimp only
 rw[hz]
theorem aMl{names:List Str}{r:Str×Int}{t:Str}{n:Int}(h:r∈aGa)(g:nU names t n)(hz:names.length≤100)(hN:∀x∈names,x∈iD):mX names [.s r.1,.s t] [r.2,n]:=by
 have hw:=aLc
 simp only[Bool.and_eq_true] at hw
 have hw:=eT hw.1.1.1 r h
 refine⟨r.1,_,rfl,qM hw,fun l i n' R hd hF=>?_⟩
 refine rwL (qQ hw) ?_
 obtain⟨h1,h2⟩:=aAg hz hN [(t,n)] (n'+1) fun p hp=>by exact rwL (eR hp) g
 exact aB8 (a:=bN [.s t] (n'+1)) (ns:=[n]) (.inl ⟨rfl,rfl⟩) (bO _) (dC hd).2 hF h2 h1 rfl
theorem aI5{names:List Str}{gs:List (Str×Int)}(z0:1≤gs.length)(g:∀p∈gs,nU names p.1 p.2)(hz:names.length≤100)(hN:∀x∈names,x∈iD):mX names (.s "br_table"::gs.map fun p=>.s p.1) (14::gs.map (·.2)):=by
 have hw:=aLc
 simp only[Bool.and_eq_true] at hw
 have hw:=hw.1.1.2
 refine⟨"br_table",_,rfl,qM hw,fun l i n' R hd hF=>?_⟩
 refine rwL (qQ hw) ?_
 obtain⟨h1,h2⟩:=aAg hz hN gs (n'+1) g
 have e:=aB8 (code:=14) (tk:=.tok "word" "br_table" (.str "br_table") 1 (n'+1)) (names:=names) (.inr rfl) (rwL (dM _ _) (rwL (bS _) z0)) (dC hd).2 hF h2 h1 (rwL (dM _ _) (rwL (bS _) (rwL (bS _) rfl)))
 refine rwL e ?_
 refine rwL (dM _ _) ?_
 refine rwL eX ?_
 refine rwL (Nat.add_assoc _ _ _) ?_
 refine rwL (Nat.add_comm 1 _) ?_
 rfl
noncomputable def aIG:V→Option Int
 |.int n=>some n
 |_=>none
theorem aEf{v:V}{n:Int}(h:aIG v=some n):v=.int n:=by
 unfold aIG at h
 split at h
 ·obtain rfl:=bE h;rfl
 ·exact cZ h
noncomputable def aMu(code:Int):Option Int:=(aGt code).bind aIG
theorem aIu{code n:Int}(h:aMu code=some n):aGt code=some (.int n):=by
 obtain⟨v,h1,h2⟩:=Option.bind_eq_some_iff.mp h
 rw[h1,aEf h2]
noncomputable def aON(n:Int):Option Int:=(xM n 40 0).bind fun e=>if(2:Int)^e=n then some (e:Nat) else none
theorem aFX:(wE.all (fun r=>opB r.1 r.2.1 "memarg"&&(aMu r.2.1==some r.2.2))&&oZ.all (fun p=>(eC p.1=="word")&&Txt.startswith p.1 "offset="&&(oS (aCU p.1)==some (some p.2))&&decide (p.2≤4294967295))
 &&sK.all (fun p=>(eC p.1=="word")&& !Txt.startswith p.1 "offset="&&Txt.startswith p.1 "align="&&(match oS (aCY p.1) with
  |some (some n)=>decide (n≤4294967295)&&(aON n==some p.2)
  |_=>false)))=true:=by decide+kernel
theorem aEd{l:List It}{i:Nat}{t:Str}{c:Int}(hx:l[i]? =some (gS t c))(hs:eC t="word"):cB l i=t:=by
 unfold cB
 refine rwL hx ?_
 exact if_pos hs
theorem aCd{t:Str}{n:Int}{x:It}(h:oS t=some (some n))(h2:n≤4294967295):mB t x=some (.ok n):=by
 unfold mB
 refine rwL h ?_
 exact if_neg (Int.not_lt.mpr h2)
theorem aF9{p:Str×Int}(h:p∈oZ){l:List It}{i:Nat}{c:Int}(hx:l[i]? =some (gS p.1 c)):uD l i=some (.ok (p.2,i+1)):=by
 have ht:=aFX
 rw[Bool.and_eq_true,Bool.and_eq_true] at ht
 have h1:=eT ht.1.2 p h
 simp only[Bool.and_eq_true] at h1
 obtain⟨⟨⟨h1,h2⟩,h3⟩,h4⟩:=h1
 have hw:=aEd hx (cJ h1)
 unfold uD
 rw[hw,if_pos h2,aCd (cJ h3) (of_decide_eq_true h4)];rfl
set_option tactic.hygienic true in
theorem aGB{p:Str×Int}(h:p∈sK){a0:V}{l:List It}{i:Nat}{c:Int}(hx:l[i]? =some (gS p.1 c)):rR a0 l i=some (.ok (.int p.2,i+1))∧Txt.startswith (cB l i) "offset="=false:=by
 have ht:=aFX
 rw[Bool.and_eq_true,Bool.and_eq_true] at ht
 have h1:=eT ht.2 p h
 simp only[Bool.and_eq_true] at h1
 obtain⟨⟨⟨h1,h0⟩,h2⟩,h3⟩:=h1
 have hw:=aEd hx (cJ h1)
 rw[hw]
 refine⟨?_,by simpa using h0⟩
 unfold rR
 rw[hw,if_pos h2]
 split at h3
 ·rename_i n hn
  refine gU h3 fun h3 h4=>dQ (cJ h4) fun e he h5=>?_
  rw[aCd hn (of_decide_eq_true h3)]
  show(xM n 40 0).bind _=_
  rw[he]
  refine kZ h5 (fun h6 q=>?_) fun Z=>cZ
  exact(if_pos h6).trans (rwL (bE q) rfl)
 ·exact iX h3
theorem aBD{l R:List It}{i:Nat}(hd:l.drop i=R)(hF:qY R):Txt.startswith (cB l i) "offset="=false∧Txt.startswith (cB l i) "align="=false:=by
 have hx:l[i]? =R[(0:Nat)]?:=by rw[←hd,List.getElem?_drop];rfl
 unfold cB
 rw[hx]
 induction hR:R[(0:Nat)]? with
 |none=>decide+kernel
 |some x=>
  have h:=hF x hR
  cases x with
  |br=>exact(by decide+kernel:Txt.startswith "" "offset="=false∧Txt.startswith "" "align="=false)
  |tok s t v r c=>
   have q:aBi (.tok s t v r c)=(s=="word"&& !Txt.startswith t "offset="&& !Txt.startswith t "align="):=rfl
   rw[q,Bool.and_eq_true,Bool.and_eq_true] at h
   dsimp only
   rw[if_pos (cJ h.1.1)]
   exact⟨by simpa using h.1.2,by simpa using h.2⟩
theorem aGj{l:List It}{i:Nat}(h:Txt.startswith (cB l i) "offset="=false):uD l i=some (.ok (0,i)):=by
 unfold uD;rw[if_neg (by rw[h];decide)]
theorem aG0{a0:V}{l:List It}{i:Nat}(h:Txt.startswith (cB l i) "align="=false):rR a0 l i=some (.ok (a0,i)):=by
 unfold rR;rw[if_neg (by rw[h];decide)]
theorem aD8{a:Option (Str×Int)}(ha:∀p∈a,p∈sK){a0:Int}{l R:List It}{i:Nat}{c:Int}(hd:l.drop i=bN (a.toList.map fun p=>.s p.1) c++R)(hF:qY R):
  rR (.int a0) l i=some (.ok (.int ((a.map (·.2)).getD a0),i+a.toList.length))∧Txt.startswith (cB l i) "offset="=false:=by
 induction a with
 |none=>exact⟨aG0 (aBD hd hF).2,(aBD hd hF).1⟩
 |some p=>exact aGB (ha p rfl) (dC hd).1
theorem aI1{names:List Str}{r:Str×Int×Int}(h:r∈wE){o a:Option (Str×Int)}(ho:∀p∈o,p∈oZ)(ha:∀p∈a,p∈sK):mX names (.s r.1::(o.toList++a.toList).map fun p=>.s p.1) [r.2.1,(a.map (·.2)).getD r.2.2,(o.map (·.2)).getD 0]:=by
 have ht:=aFX
 rw[Bool.and_eq_true,Bool.and_eq_true] at ht
 have h1:=eT ht.1.1 r h
 rw[Bool.and_eq_true] at h1
 refine⟨r.1,_,rfl,qM h1.1,fun l i n R hd hF=>?_⟩
 refine rwL (qQ h1.1) ?_
 show aDc r.2.1 l (i+1)=_
 have hd1:=(dC hd).2
 unfold aDc
 refine rwL (aIu (cJ h1.2)) ?_
 show(uD l (i+1)).bind _=_
 induction o with
 |none=>
  obtain⟨h2,h3⟩:=aD8 ha (a0:=r.2.2) hd1 hF
  refine rwL (aGj h3) ?_
  show(rR (.int r.2.2) l (i+1)).bind _=_
  refine rwL h2 ?_
  show some _=_
  simp only[Option.toList_none,List.nil_append,eX,bS]
  refine rwL (Nat.add_assoc _ _ _) ?_
  refine rwL (Nat.add_comm 1 _) ?_
  rfl
 |some p=>
  obtain⟨h4,hd2⟩:=dC hd1
  obtain⟨h2,h3⟩:=aD8 ha (a0:=r.2.2) hd2 hF
  refine rwL (aF9 (ho p rfl) h4) ?_
  show(rR (.int r.2.2) l (i+1+1)).bind _=_
  refine rwL h2 ?_
  show some _=_
  simp only[Option.toList_some,List.cons_append,List.nil_append,eX,bS,List.map_cons]
  refine rwL (show i+1+1+a.toList.length=i+(a.toList.length+1+1) by exact rwL (Nat.add_assoc _ _ _) (rwL (Nat.add_assoc _ _ _) (rwL (Nat.add_comm 1 _) (rwL (Nat.add_assoc _ _ _) (rwL (Nat.add_comm 1 _) (rwR (Nat.add_assoc _ _ _) rfl)))))) ?_
  rfl
theorem aI7:yL.all (fun r=>(eC r.1=="word")&&(match fZ r.1 mF with
  |.int k=>k==r.2
  |_=>false))=true:=by decide+kernel
set_option tactic.hygienic true in
theorem aJM{names:List Str}{r:Str×Int}(h:r∈yL):mX names [.s "ref.null",.s r.1] [208,r.2]:=by
 have hw:=aKa
 simp only[Bool.and_eq_true] at hw
 have h1:=eT aI7 r h
 rw[Bool.and_eq_true] at h1
 obtain⟨h1,h2⟩:=h1
 refine⟨"ref.null",_,rfl,qM hw.2,fun l i n R hd hF=>?_⟩
 have hx:l[i+1]? =some (gS r.1 (n+1+1)):=(dC (dC hd).2).1
 refine rwL (qQ hw.2) ?_
 refine rwL (aBg (.inr (.inr rfl))) ?_
 unfold mE
 refine rwL hx ?_
 unfold gS
 dsimp only
 refine rwL (if_pos rfl) ?_
 refine rwL (if_pos (cJ h1)) ?_
 split at h2
 ·rename_i k hk
  first
  |(rw[hk,cJ h2];rfl)
  |(rw[cJ h2];rfl)
 ·exact iX h2
theorem aDt:sP.all (fun ks=>decide (ks.length≤8)&&ks.all fun p=>(eC p.1=="word")&& !(nE.any (·==p.1))&&(match fZ p.1 iM with
  |.int k=>k==p.2
  |_=>false))=true:=by decide+kernel
set_option tactic.hygienic true in
theorem wV:∀(ks:List (Str×Int)) (c:Int),(∀p∈ks,((eC p.1=="word")&& !(nE.any (·==p.1))&&(match fZ p.1 iM with
  |.int k=>k==p.2
  |_=>false))=true)→(bN (ks.map fun p=>.s p.1) c).all jU=true∧(bN (ks.map fun p=>.s p.1) c).map lW=ks.map (·.2)
 |[],_,_=>⟨rfl,rfl⟩
 |p::ks,c,h=>by
  obtain⟨h3,h4⟩:=wV ks (c+1) fun q hq=>h q (fW _ hq)
  have h1:=h p (eS ..)
  simp only[Bool.and_eq_true] at h1
  obtain⟨⟨h1,h2⟩,h5⟩:=h1
  have hk:mQ (gS p.1 (c+1))=.ok p.2:=by
   show(if eC p.1="word" then aG1 _ (fZ p.1 iM) else _)=_
   refine rwL (if_pos (cJ h1)) ?_
   split at h5
   ·rename_i k hk
    refine rwL hk ?_
    refine rwR (cJ h5) ?_
    rfl
   ·exact iX h5
  have e:bN ((p::ks).map fun p=>Tx.s p.1) c=gS p.1 (c+1)::bN (ks.map fun p=>.s p.1) (c+1):=rfl
  refine rwL e ?_
  refine rwL List.all_cons ?_
  refine rwL List.map_cons ?_
  refine rwL h3 ?_
  refine rwL h4 ?_
  refine⟨?_,?_⟩
  ·unfold jU
   refine rwL hk ?_
   show(!(nE.any (·==p.1))&&true&&true)=true
   refine rwL h2 ?_
   rfl
  ·unfold lW
   refine rwL hk ?_
   rfl
theorem aIR{names:List Str}{ks:List (Str×Int)}(h:ks∈sP):mX names [.s "select",.l (.s "result"::ks.map fun p=>.s p.1)] (28::ks.map (·.2)):=by
 have h1:=eT aDt ks h
 rw[Bool.and_eq_true] at h1
 obtain⟨h1,h2⟩:=h1
 have hz:ks.length≤8:=of_decide_eq_true h1
 refine⟨"select",_,rfl,aKl,fun l i n R hd hF=>?_⟩
 obtain⟨h3,h4⟩:=wV ks (n+1+1+1) fun p hp=>eT h2 p hp
 have hd1:l.drop (i+1)=.br (gS "result" (n+1+1+1)::bN (ks.map fun p=>.s p.1) (n+1+1+1)) 1 (n+1+1)::R:=(dC hd).2
 have hh:dK (.br (gS "result" (n+1+1+1)::bN (ks.map fun p=>.s p.1) (n+1+1+1)) 1 (n+1+1))="result":=by
  show(if eC "result"="word" then _ else _)=_
  exact if_pos (by decide+kernel)
 show aEA l (i+1)=_
 unfold aEA
 rw[hd1,wD,if_pos hh,if_pos ⟨h3,by
  show 0+(bN (ks.map fun p=>.s p.1) (n+1+1+1)).length≤8
  rw[dM,bS,Nat.zero_add];exact hz⟩,aB4 hF]
 show some (Except.ok (aJI ([]++(bN (ks.map fun p=>.s p.1) (n+1+1+1)).map lW) true,i+1+1))=_
 refine rwL h4 ?_
 rfl
theorem aK2{names:List Str}{txs:List Tx}{told:List Int}(h:qO names txs told)(hz:names.length≤100)(hN:∀x∈names,x∈iD):mX names txs told:=by
 induction h with
 |row r h=>exact aIB h
 |con b n t hb h0 h1 ht=>exact aJc hb h0 h1 ht
 |loc r q h h2=>exact aJN h h2
 |br r h t n g=>exact aMl h g hz hN
 |tab gs z z0 g=>exact aI5 z0 g hz hN
 |mem r h o a ho ha=>exact aI1 h ho ha
 |ref r h=>exact aJM h
 |sel ks h=>exact aIR h
theorem aL2{t:Str}(h:wdB t=true):(["block","loop","if","else","end","then","result","type","param",""]:List Str).any (·==t)=false:=by
 simp only[wdB,Bool.and_eq_true] at h
 simpa using h.1.1.2
theorem sE{t w:Str}(h:wdB t=true)(hw:w∈(["block","loop","if","else","end","then","result","type","param",""]:List Str)):t≠w:=fun e=>by
 have h1:=aL2 h
 rw[List.any_eq_false] at h1
 exact h1 w hw (rwL e (beq_self_eq_true w))
theorem aDn{t:Str}(h:wdB t=true):nS.any (·==t)=false∧(["else","end"]:List Str).any (·==t)=false:=by
 have n1:=sE h (w:="block") (zD T0)
 have n2:=sE h (w:="loop") (zD T0)
 have n3:=sE h (w:="if") (zD T0)
 have n4:=sE h (w:="else") (zD T0)
 have n5:=sE h (w:="end") (zD T0)
 refine⟨?_,?_⟩
 ·rw[List.any_eq_false]
  intro x hx
  unfold nS at hx
  simp only[List.mem_cons,List.not_mem_nil,or_false] at hx
  rw[beq_iff_eq]
  rcases hx with rfl|rfl|rfl <;> exact fun e=>by simp_all
 ·rw[List.any_eq_false]
  intro x hx
  simp only[List.mem_cons,List.not_mem_nil,or_false] at hx
  rw[beq_iff_eq]
  rcases hx with rfl|rfl <;> exact fun e=>by simp_all
section
variable{m:Nat}{names:List Str}{txs K:List Tx}{told:List Int}{C:List V}{ls:List Lb}{f:Bool}
theorem aD0{t:Str}{more:List Tx}(w:wdB t=true):xK (.s t::more):=fun n x h=>by
 have e:some (gS t (n+1))=some x:=h
 refine rwR (bE e) ?_
 refine rwL ((rO w (n+1)).1) ?_
 exact(rO w (n+1)).2
theorem aF3(h:mX names txs told):xK txs:=by
 obtain⟨t,more,rfl,w,_⟩:=h;exact aD0 w
theorem aIL(h:mX (ls.map (·.name)) txs told):zA 1 txs [gJ told] ls ls false:=fun l i n R b0 ts B hd hF hb Z=>by
 obtain⟨t,more,rfl,w,h⟩:=h
 have h0:l[i]? =some (gS t (n+1)):=(dC hd).1
 replace h0:=((rO w (n+1)).1)▸h0
 refine aCI h0 hb ?_
 unfold iL
 refine rwL (if_neg (by rw[(aDn w).1];decide)) ?_
 refine rwL (if_neg (by rw[(aDn w).2];decide)) ?_
 refine rwL (h l i n R hd hF) ?_
 rfl
theorem pR{t:Str}{v:V}{r c:Int}{l:List It}:jM (.tok "word" t v r c::l)=t:=by
 show(if("word":Str)="word" then t else "")=t
 exact if_pos rfl
theorem aCk(h:mX (ls.map (·.name)) txs told)(hK:zA m K C ls ls true)(hf:xK K):zA (m+3) [.l (txs++K)] (C++[gJ told]) ls ls f:=fun l i n R b0 ts B hd hF hb Z=>by
 obtain⟨t,more,rfl,w,h⟩:=h
 have h0:l[i]? =some (.br (bN (.s t::more++K) (n+1)) 1 (n+1)):=(dC hd).1
 have e0:bN (.s t::more++K) (n+1)=bN (.s t::more) (n+1)++bN K (n+1+cH (.s t::more)):=(fQ _ _ _).symm
 have e1:bN (.s t::more++K) (n+1)=.tok "word" t (.str t) 1 (n+1+1)::bN (more++K) (n+1+1):=by rw[←(rO w _).1];rfl
 have h1:=h (bN (.s t::more++K) (n+1)) 0 (n+1) _ (rwL List.drop_zero e0) (hf _)
 rw[Nat.zero_add] at h1
 have hfo:nV dF ls (bN (.s t::more++K) (n+1)) 1 (n+1)=some (.ok ([.run (bN (.s t::more++K) (n+1)) (0+(Tx.s t::more).length) true none,.emit (gJ told)],[],ls)):=by
  unfold nV
  rw[if_neg (by exact rwL e1 (rwL pR (sE w (by exact zD T0)))),show(bN (.s t::more++K) (n+1))[(0:Nat)]? =some (.tok "word" t (.str t) 1 (n+1+1)) by rw[e1];rfl]
  show vL dF ls _ t (.str t) 1 (n+1+1)=_
  unfold vL
  rw[if_neg (sE w (by exact zD T0)),if_neg (by rw[(aDn w).1];decide),h1]
  rfl
 have g:=aGO (f:=f) (ts:=ts) (B:=B) h0 hb hfo
 have g2:=(hK.all (l:=bN (.s t::more++K) (n+1)) (i:=0+(Tx.s t::more).length) (n:=n+1+cH (.s t::more)) (ts:=.emit (gJ told)::.run l (i+1) f (some b0)::ts) (B:=B++[]) (rwL e0 (rwL (Nat.zero_add _) (rwR (dM (.s t::more) (n+1)) (List.drop_left ..)))) (rwL (dM _ _) (rwL cL (aM (dH (Nat.zero_add _)) (eL _ _))))).trans aEa
 have g3:=g.trans g2
 rw[List.append_nil,eJ] at g3
 exact g3.up (dH (Nat.add_comm 1 _))
end
structure NdS(nd:Nd)(ls:List Lb):Prop where
 fo:∀b,xK (txN nd b)
 br:∃its,txN nd true=[.l its]∧∀n r c,dK (.br (bN its n) r c)≠"then"
 seg:∀b f,(f=true→b=true)→zA (8*xL nd) (txN nd b) ((flN nd).map gJ) ls ls f
section
variable{ls:List Lb}{b f:Bool}
theorem nC(hb:f=true→b=true):∀nds:List Nd,(∀nd∈nds,NdS nd ls)→zA (8*eU nds) (bP b nds) ((kU nds).map gJ) ls ls f∧xK (bP b nds)
 |[],_=>by
  rw[show bP b []=[] by cases b <;> rfl]
  exact⟨zA.nil.up (cM _),.nil⟩
 |x::xs,h=>by
  obtain⟨h1,h2⟩:=nC hb xs fun y hy=>h y (fW _ hy)
  have hx:=h x (eS ..)
  rw[aAq,kU,eD,eU,Nat.mul_add]
  exact⟨(hx.seg b f hb).app h1 h2 (.inl (bO _)),(hx.fo b).app h2⟩
theorem aIq(l m:List Nd):kU (l++m)=kU l++kU m:=by
 induction l with
 |nil=>rfl
 |cons x l ih=>rw[List.cons_append,kU,kU,ih,eJ]
theorem aAK{α:Type}(l:List α):l.dropLast++l.drop (l.length - 1)=l:=by exact rwL List.dropLast_eq_take (rwL (List.take_append_drop _ _) rfl)
theorem aKZ{f0:Int}{txs:List Tx}{told:List Int}{kids:List Nd}(h:mX (ls.map (·.name)) txs told)(hk:∀k∈kids,NdS k ls):NdS (.leaf f0 txs told kids) ls:=by
 have e:∀b,txN (.leaf f0 txs told kids) b=qD (b||decide (f0=1)) (decide (f0=2)) txs (eQ kids):=fun Z=>rfl
 have fb:∀K:List Tx,xK [.l (txs++K)]∧∀n r c,dK (.br (bN (txs++K) n) r c)≠"then":=fun K=>by
  obtain⟨t,more,rfl,w,_⟩:=h
  have hh:∀n r c,dK (.br (bN (.s t::more++K) n) r c)=t:=fun n r c=>by
   show jM (bN (.s t::more++K) n)=t
   rw[show bN (.s t::more++K) n=gS t (n+1)::bN (more++K) (n+1) from rfl,(rO w _).1,pR]
  refine⟨fun n x hx=>?_,fun n r c=>by exact rwL (hh _ _ _) (sE w (zD T0))⟩
  have e:some (It.br (bN (.s t::more++K) (n+1)) 1 (n+1))=some x:=hx
  rw[←bE e]
  show(!((["result","type","param"]:List Str).any (·==dK _)))=true
  rw[hh,show(["result","type","param"]:List Str).any (·==t)=false by
   rw[List.any_eq_false]
   intro x hx e
   have hm:x∈(["block","loop","if","else","end","then","result","type","param",""]:List Str):=by
    simp only[List.mem_cons,List.not_mem_nil,or_false] at hx
    rcases hx with rfl|rfl|rfl <;> exact zD T0
   exact sE w hm (cJ e).symm]
  rfl
 refine⟨fun b=>?_,⟨_,rfl,(fb _).2⟩,fun b f hb=>?_⟩
 ·rw[e]
  unfold qD
  split
  ·exact(fb _).1
  ·split
   ·exact xK.app (by
     rw[fT,←List.map_dropLast,←fT]
     exact(nC (b:=false) (f:=false) nofun kids.dropLast fun k hk'=>hk k (List.dropLast_subset _ hk')).2) (fb _).1
   ·exact(nC (b:=false) (f:=false) nofun kids hk).2.app (aF3 h)
 ·rw[e,xL,flN,eD]
  unfold qD
  by_cases h1:(b||decide (f0=1))=true
  ·rw[if_pos h1]
   obtain⟨s1,s2⟩:=nC (b:=true) (f:=true) (fun Z=>rfl) kids hk
   exact(aCk h s1 s2).up (aM (fV (aD rfl:3≤8) _) (dH ((Nat.add_comm _ _).trans (Nat.mul_add 8 1 _).symm)))
  ·rw[if_neg h1]
   have hbf:b=false:=by induction b with
    |false=>rfl
    |true=>exact absurd rfl h1
   have hff:f=false:=by induction f with
    |false=>rfl
    |true=>rw[hb rfl] at hbf;exact iX (Eq.symm hbf)
   subst hff
   split
   ·have hd:(eQ kids).dropLast=eQ kids.dropLast:=by exact rwL (fT _) (rwL (fT _) (rwL List.map_dropLast rfl))
    have hr:(eQ kids).drop ((eQ kids).length - 1)=eQ (kids.drop (kids.length - 1)):=by exact rwL (uT _) (rwL (fT _) (rwL (fT _) (rwL List.map_drop rfl)))
    rw[hd,hr]
    obtain⟨s1,s2⟩:=nC (b:=false) (f:=false) nofun kids.dropLast fun k hk'=>hk k (List.dropLast_subset _ hk')
    obtain⟨s3,s4⟩:=nC (b:=true) (f:=true) (fun Z=>rfl) (kids.drop (kids.length - 1)) fun k hk'=>hk k (List.mem_of_mem_drop hk')
    have g:=s1.app (aCk (f:=false) h s3 s4) (fb _).1 (.inl (bO _))
    rw[←eJ,←eD,←aIq,aAK] at g
    have hz:=uI kids.dropLast (kids.drop (kids.length - 1))
    rw[aAK] at hz
    exact g.up (by lia)
   ·exact((nC (b:=false) (f:=false) nofun kids hk).1.app (aIL h) (aF3 h) (.inl (bO _))).up (aM (fV (aD rfl:1≤8) _) (dH ((Nat.add_comm _ _).trans (Nat.mul_add 8 1 _).symm)))
end
theorem aDI{R:List It}{j:Nat}{ks:List Int}{b:Bool}(h:qY R):tO R j ks b=some (ks,j):=by
 induction R with
 |nil=>rfl
 |cons x R=>
  have h1:=h x rfl
  have n:dK x≠"result"∧dK x≠"type"∧dK x≠"param":=by
   cases x with
   |tok=>exact(zD T0:("":Str)≠"result"∧("":Str)≠"type"∧("":Str)≠"param")
   |br l r c=>
    have q:aBi (.br l r c)= !((["result","type","param"]:List Str).any (·==dK (.br l r c))):=rfl
    rw[q] at h1
    refine⟨fun e=>?_,fun e=>?_,fun e=>?_⟩ <;> rw[e] at h1 <;> exact iX h1
  rw[zR,if_neg n.1,if_neg n.2.1,if_neg n.2.2]
theorem aBC:((["result","param","end","else","then"]:List Str).all (fun t=>eC t=="word")&&([2,3,4]:List Int).all (fun w=>(eC (dR w)=="word")&&(aIG (kD (dR w))==some w)&&nS.any (·==dR w)))=true:=by decide+kernel
theorem kY{t:Str}(h:t∈(["result","param","end","else","then"]:List Str)):eC t="word":=by
 have h1:=aBC
 rw[Bool.and_eq_true] at h1
 exact cJ (eT h1.1 t h)
theorem pI{t:Str}(h:eC t="word")(n:Int):gS t n=.tok "word" t (.str t) 1 n:=by unfold gS aEI;rw[h];rfl
theorem tJ{t:Str}(h:eC t="word"){more:List Tx}{n r c:Int}:dK (.br (bN (.s t::more) n) r c)=t:=by
 show jM (bN (.s t::more) n)=t
 rw[show bN (.s t::more) n=gS t (n+1)::bN more (n+1) from rfl,pI h,pR]
theorem pN{ks:List (Str×Int)}{R:List It}{n:Int}{j:Nat}(hz:ks.length≤1)(hk:∀p∈ks,((eC p.1=="word")&& !(nE.any (·==p.1))&&(match fZ p.1 iM with
  |.int k=>k==p.2
  |_=>false))=true) (hF:qY R):tO (mkI (.l (.s "result"::ks.map fun p=>.s p.1)) n::R) j [] false=some (ks.map (·.2),j+1):=by
 obtain⟨h3,h4⟩:=wV ks (n+1+1) hk
 refine rwL zR ?_
 refine rwL (if_pos (show dK (mkI (.l (.s "result"::ks.map fun p=>.s p.1)) n)="result" from tJ (kY (by exact zD T0)))) ?_
 show(if(bN (ks.map fun p=>.s p.1) (n+1+1)).all jU=true∧0+(bN (ks.map fun p=>.s p.1) (n+1+1)).length≤1 then tO R (j+1) ([]++(bN (ks.map fun p=>.s p.1) (n+1+1)).map lW) true else none)=_
 refine rwL (if_pos ⟨h3,rwL (dM _ _) (rwL (bS _) (rwL (Nat.zero_add _) hz))⟩) ?_
 refine rwL h4 ?_
 refine rwL (aDI hF) ?_
 rfl
theorem aHF{R:List It}{n:Int}{j:Nat}:tO (mkI (.l [.s "param"]) n::R) j [] false=tO R (j+1) [] false:=by
 have h:dK (mkI (.l [.s "param"]) n)="param":=tJ (kY (by exact zD T0))
 refine rwL zR ?_
 refine rwL (if_neg (by rw[h];decide)) ?_
 refine rwL (if_neg (by rw[h];decide)) ?_
 refine rwL (if_pos h) ?_
 refine rwL (if_neg (by exact zD T0)) ?_
 exact if_pos (bO 1)
theorem aIT:(([("i32",-1),("i64",-2),("funcref",-16)]:List (Str×Int)).all fun p=>(eC p.1=="word")&& !(nE.any (·==p.1))&&(match fZ p.1 iM with
  |.int k=>k==p.2
  |_=>false))=true:=by decide+kernel
theorem aB6{ahead:List Tx}{kind:Int}(h:(ahead,kind)∈fY){R:List It}(hF:qY R)(n:Int)(j:Nat):∃KS,tO (bN ahead n++R) j [] false=some (KS,j+ahead.length)∧lY KS=kind:=by
 have kt:∀q∈([("i32",-1),("i64",-2),("funcref",-16)]:List (Str×Int)),∀p∈[q],((eC p.1=="word")&& !(nE.any (·==p.1))&&(match fZ p.1 iM with
  |.int k=>k==p.2
  |_=>false))=true:=fun q hq p hp=>by exact rwL (eR hp) (eT aIT q hq)
 unfold fY at h
 simp only[List.mem_cons,List.not_mem_nil,or_false,Prod.mk.injEq] at h
 rcases h with⟨rfl,rfl⟩|⟨rfl,rfl⟩|⟨rfl,rfl⟩|⟨rfl,rfl⟩|⟨rfl,rfl⟩
 ·exact⟨[],aDI hF,rfl⟩
 ·exact⟨[-1],pN (ks:=[("i32",-1)]) (aD rfl) (kt _ (zD T0)) hF,rfl⟩
 ·exact⟨[-2],aHF.trans (pN (ks:=[("i64",-2)]) (aD rfl) (kt _ (zD T0)) hF),rfl⟩
 ·exact⟨[],pN (ks:=[]) (aD rfl) gR hF,rfl⟩
 ·exact⟨[-16],pN (ks:=[("funcref",-16)]) (aD rfl) (kt _ (zD T0)) hF,rfl⟩
theorem aH4{l R:List It}{j:Nat}(hd:l.drop j=R)(hF:qY R):dW l j=none:=by
 have hx:l[j]? =R[(0:Nat)]?:=by rw[←hd,List.getElem?_drop];rfl
 unfold dW
 refine rwL hx ?_
 induction hR:R[(0:Nat)]? with
 |none=>rfl
 |some x=>
  cases x with
  |br=>rfl
  |tok s t v r c=>
   have h:=hF _ hR
   have q:aBi (.tok s t v r c)=(s=="word"&& !Txt.startswith t "offset="&& !Txt.startswith t "align="):=rfl
   replace h:=q▸h
   replace h:=(Bool.and_eq_true _ _)▸h
   replace h:=(Bool.and_eq_true _ _)▸h
   have e:=cJ h.1.1
   subst e
   exact if_neg (by exact zD T0)
theorem aHh{ahead:List Tx}{kind:Int}(h:(ahead,kind)∈fY){l R:List It}{j:Nat}{n:Int}(hd:l.drop j=bN ahead n++R)(hF:qY R):dW l j=none:=by
 unfold fY at h
 simp only[List.mem_cons,List.not_mem_nil,or_false,Prod.mk.injEq] at h
 rcases h with⟨rfl,_⟩|h
 ·exact aH4 hd hF
 ·have hb:∃ts more,ahead=.l ts::more:=by rcases h with⟨rfl,_⟩|⟨rfl,_⟩|⟨rfl,_⟩|⟨rfl,_⟩ <;> exact⟨_,_,rfl⟩
  obtain⟨ts,more,rfl⟩:=hb
  have h0:l[j]? =some (mkI (.l ts) n):=(dC hd).1
  unfold dW
  refine rwL h0 ?_
  rfl
theorem aIr{name:Str}(hN:name∈iD)(h:name≠""):eC name="id":=by
 rcases Bool.or_eq_true_iff.mp (eT aHg name hN) with q|q
 ·exact absurd (cJ q) h
 ·exact cJ q
theorem aKj{name:Str}(hN:name∈iD)(h:name≠""){l R:List It}{j:Nat}{n:Int}(hd:l.drop j=gS name n::R):dW l j=some name:=by
 unfold dW
 refine rwL ((dC hd).1) ?_
 show(if eC name="id" then some name else none)=_
 exact if_pos (aIr hN h)
theorem aDO{name:Str}{ahead:List Tx}{kind:Int}(hN:name∈iD)(h:(ahead,kind)∈fY){l R:List It}{j:Nat}{n:Int}(hd:l.drop j=bN (iT name++ahead) n++R)(hF:qY R):
  (dW l j).getD ""=name∧∃KS,tO (l.drop (j+(if(dW l j).isSome=true then 1 else 0))) (j+(if(dW l j).isSome=true then 1 else 0)) [] false=some (KS,j+(iT name++ahead).length)∧lY KS=kind:=by
 by_cases h0:name=""
 ·subst h0
  have hd:l.drop j=bN ahead n++R:=hd
  refine rwL (aHh h hd hF) ?_
  refine⟨rfl,?_⟩
  obtain⟨KS,h1,h2⟩:=aB6 h hF n j
  exact⟨KS,by show tO (l.drop j) j [] false=_;rw[hd,h1];rfl,h2⟩
 ·have e:iT name=[.s name]:=if_pos h0
  rw[e] at hd ⊢
  refine rwL (aKj hN h0 hd) ?_
  refine⟨rfl,?_⟩
  obtain⟨KS,h1,h2⟩:=aB6 h hF (n+1) (j+1)
  exact⟨KS,by show tO (l.drop (j+1)) (j+1) [] false=_;rw[show l.drop (j+1)=bN ahead (n+1)++R from(dC hd).2,h1,cL,Nat.add_assoc];rfl,h2⟩
theorem aCK{w:Int}(hw:w=2∨w=3∨w=4):eC (dR w)="word"∧kD (dR w)=.int w∧nS.any (·==dR w)=true:=by
 have h1:=aBC
 rw[Bool.and_eq_true] at h1
 have h2:=eT h1.2 w (by simpa using hw)
 simp only[Bool.and_eq_true] at h2
 exact⟨cJ h2.1.1,aEf (cJ h2.1.2),h2.2⟩
section
variable{ls:List Lb}{lb:Lb}{l R:List It}{i b0:Nat}{n:Int}{ts:List PT}{B:List V}
theorem aMe{w kind:Int}{name:Str}{ahead:List Tx}(hw:w=2∨w=3∨w=4)(hN:name∈iD)(ha:(ahead,kind)∈fY)(hd:l.drop i=bN (dT w name ahead) n++R)(hF:qY R)(hb:b0≤ls.length):
  ∃lb:Lb,lb.name=name∧lb.word=dR w∧lb.els=false∧∀ts B,Go B 1 ls (ls++[lb]) (.run l i false (some b0)::ts) (.run l (i+(dT w name ahead).length) false (some b0)::ts) (B++[gJ [w,kind]]):=by
 obtain⟨h1,h2,h3⟩:=aCK hw
 have hd:l.drop i=gS (dR w) (n+1)::(bN (iT name++ahead) (n+1)++R):=hd
 obtain⟨h4,h5⟩:=dC hd
 rw[pI h1] at h4
 obtain⟨h6,KS,h7,h8⟩:=aDO hN ha h5 hF
 refine⟨⟨name,dR w,.tok "word" (dR w) (.str (dR w)) 1 (n+1),false⟩,rfl,rfl,rfl,fun ts B=>aCI h4 hb ?_⟩
 unfold iL
 refine rwL (if_pos h3) ?_
 refine rwL h7 ?_
 refine rwL h6 ?_
 refine rwL h2 ?_
 refine rwR h8 ?_
 show some (Except.ok (i+1+(iT name++ahead).length,_,_))=some (.ok (i+(dT w name ahead).length,_,_))
 refine rwL (show(dT w name ahead).length=1+(iT name++ahead).length from Nat.add_comm _ _) ?_
 refine rwL (Nat.add_assoc _ _ _) ?_
 rfl
noncomputable def aCm(ag:List Tx)(lb:Lb):Prop:=ag=[]∨(ag=[.s lb.name]∧lb.name∈iD∧lb.name≠"")
theorem aMI{ag:List Tx}(h:aCm ag lb){j:Nat}(hd:l.drop j=bN ag n++R)(hF:qY R):(dW l j).any (fun n=> !decide (n=lb.name))=false∧(if(dW l j).isSome=true then 1 else 0)=ag.length:=by
 rcases h with rfl|⟨rfl,h1,h2⟩
 ·refine rwL (aH4 hd hF) ?_
  exact⟨rfl,rfl⟩
 ·refine rwL (aKj h1 h2 hd) ?_
  refine⟨?_,rfl⟩
  show(!decide (lb.name=lb.name))=false
  refine rwL (decide_eq_true rfl) ?_
  rfl
theorem aDV{t:Str}{v:V}{r c:Int}{j:Nat}{ag:List Tx}(hb:b0≤ls.length)(h:aCm ag lb)(hd:l.drop j=bN ag n++R)(hF:qY R):tH (ls++[lb]) b0 l j "word" t v r c=if t="end" then .ok (j+ag.length,.tup [.int 11],ls)
  else if lb.word≠"if"∨lb.els=true then .error (iC "unexpected token" (.tok "word" t v r c)) else .ok (j+ag.length,.tup [.int 5],ls++[{lb with els:=true}]):=by
 obtain⟨h1,h2⟩:=aMI h hd hF
 unfold tH
 rw[if_neg (by exact rwL cL (Nat.ne_of_gt (Nat.lt_of_le_of_lt hb (Nat.lt_succ_self _)))),List.getLast?_concat]
 dsimp only
 rw[if_neg (by rw[h1];decide),h2,List.dropLast_concat]
theorem aD7{t:Str}{ag:List Tx}{iv:V}{ls':List Lb}(ht:t="end"∨t="else")(hb:b0≤ls.length)(h:aCm ag lb)(hd:l.drop i=bN (.s t::ag) n++R)(hF:qY R)
  (he:∀v r c,tH (ls++[lb]) b0 l (i+1) "word" t v r c=.ok (i+1+ag.length,iv,ls')):Go B 1 (ls++[lb]) ls' (.run l i false (some b0)::ts) (.run l (i+(.s t::ag:List Tx).length) false (some b0)::ts) (B++[iv]):=by
 have h0:l[i]? =some (gS t (n+1)):=(dC hd).1
 rw[pI (kY (by rcases ht with rfl|rfl <;> exact zD T0))] at h0
 refine aCI h0 (rwL cL (Nat.le_succ_of_le hb)) ?_
 unfold iL
 refine rwL (if_neg (by rcases ht with rfl|rfl <;> exact zD T0)) ?_
 refine rwL (if_pos (by rcases ht with rfl|rfl <;> exact rfl)) ?_
 refine rwL (he _ _ _) ?_
 refine rwL (Nat.add_assoc _ _ _) ?_
 refine rwL (Nat.add_comm 1 _) ?_
 rfl
theorem aKW{ag:List Tx}(hb:b0≤ls.length)(h:aCm ag lb)(hd:l.drop i=bN (.s "end"::ag) n++R)(hF:qY R):Go B 1 (ls++[lb]) ls (.run l i false (some b0)::ts) (.run l (i+(.s "end"::ag:List Tx).length) false (some b0)::ts) (B++[gJ [11]]):=
 aD7 (.inl rfl) hb h hd hF fun v r c=>(aDV hb h (dC hd).2 hF).trans (if_pos rfl)
theorem aII{ag:List Tx}(hb:b0≤ls.length)(h:aCm ag lb)(hd:l.drop i=bN (.s "else"::ag) n++R)(hF:qY R)(h1:lb.word="if")(h2:lb.els=false):Go B 1 (ls++[lb]) (ls++[{lb with els:=true}]) (.run l i false (some b0)::ts) (.run l (i+(.s "else"::ag:List Tx).length) false (some b0)::ts) (B++[gJ [5]]):=
 aD7 (.inr rfl) hb h hd hF fun v r c=>(aDV hb h (dC hd).2 hF).trans ((if_neg (by exact zD T0)).trans (if_neg (by rw[h1,h2];decide)))
end
theorem aEn:(["block","loop","if","else","end"]:List Str).all (fun t=>(eC t=="word")&& !Txt.startswith t "offset="&& !Txt.startswith t "align=")=true:=by decide+kernel
theorem aAP{t:Str}{more:List Tx}(h:t∈(["block","loop","if","else","end"]:List Str)):xK (.s t::more):=fun n x hx=>by
 have h1:=eT aEn t h
 have e:some (gS t (n+1))=some x:=hx
 simp only[Bool.and_eq_true] at h1
 refine rwR (bE e) ?_
 refine rwL (pI (cJ h1.1.1) _) ?_
 show((("word":Str)=="word")&& !Txt.startswith t "offset="&& !Txt.startswith t "align=")=true
 refine rwL (beq_self_eq_true _) ?_
 refine rwL h1.1.2 ?_
 refine rwL h1.2 ?_
 rfl
theorem nD{w:Int}(hw:w=2∨w=3∨w=4):dR w∈(["block","loop","if","else","end"]:List Str):=by rcases hw with rfl|rfl|rfl <;> exact zD T0
theorem aLH{w:Int}{name:Str}{ahead:List Tx}(hw:w=2∨w=3∨w=4):xK (dT w name ahead):=aAP (more:=iT name++ahead) (nD hw)
set_option tactic.hygienic true in
theorem aNk{dU:Bool}{name:Str}{lb:Lb}(hN:name∈iD)(h:lb.name=name):aCm (gL dU name) lb:=by
 unfold gL
 split
 ·rename_i q;exact .inr ⟨rwL h rfl,rwL h hN,rwL h q.2⟩
 ·exact .inl rfl
theorem jT{l R:List It}{i:Nat}{a:List Tx}{n:Int}(h:l.drop i=bN a n++R):l.drop (i+a.length)=R:=by
 have:=aCp h;rw[dM] at this;exact this
section
variable{ls:List Lb}{w kind:Int}{name:Str}{ahead:List Tx}{asked first second:List Nd}{dU:Bool}
theorem aIz{lb:Lb}{ag:List Tx}(hl:lb.name=name)(hi:dU=true→lb.word="if")(he:lb.els=false)(hA:∀lb:Lb,lb.name=name→aCm ag lb)(h3:∀lb:Lb,lb.name=name→∀k∈second,NdS k (ls++[lb]))
  {l R:List It} {i b0:Nat} {n:Int} {ts:List PT} {B:List V} (hb:b0≤ls.length) (hd:l.drop i=bN (oA dU ag (eQ second)) n++R) (hF:qY R):
  ∃lb':Lb,lb'.name=name∧Go B (1+8*eU second) (ls++[lb]) (ls++[lb']) (.run l i false (some b0)::ts) (.run l (i+(oA dU ag (eQ second)).length) false (some b0)::ts) (B++(if dU=true then[[5]]++kU second else[]).map gJ):=by
 induction dU with
 |false=>exact⟨lb,hl,rwL (if_neg (by exact zD T0)) (rwL List.map_nil (rwL (List.append_nil _) .refl))⟩
 |true=>
  have e:oA true ag (eQ second)=(.s "else"::ag)++bP false second:=rfl
  rw[e] at hd ⊢
  rw[←fQ,eJ] at hd
  have hl2:({lb with els:=true}:Lb).name=name:=hl
  obtain⟨s1,s2⟩:=nC (b:=false) (f:=false) nofun second (h3 _ hl2)
  have g1:=aII (ts:=ts) (B:=B) hb (hA lb hl) hd ((s2 _).app hF) (hi rfl) he
  have hl3:b0≤(ls++[{lb with els:=true}]).length:=by exact rwL cL (Nat.le_succ_of_le hb)
  have g2:=g1.trans (s1 l _ _ R b0 ts _ (jT hd) hF hl3 hl3)
  refine⟨{lb with els:=true},hl2,?_⟩
  rw[if_pos rfl,cL]
  rw[eJ,Nat.add_assoc] at g2
  exact g2
theorem aE8{ag:List Tx}(hw:w=2∨w=3∨w=4)(hN:name∈iD)(ha:(ahead,kind)∈fY)(h1:∀k∈asked,NdS k ls)(h2:∀lb:Lb,lb.name=name→∀k∈first,NdS k (ls++[lb]))(h3:∀lb:Lb,lb.name=name→∀k∈second,NdS k (ls++[lb]))(i1:w≠4→asked=[]∧dU=false)(hA:∀lb:Lb,lb.name=name→aCm ag lb):
  zA (8*(1+eU asked+eU first+eU second)) (aAl ag (dT w name ahead) (eQ asked) (eQ first) dU (eQ second)) ((kU asked++[[w,kind]]++kU first++(if dU=true then[[5]]++kU second else[])++[[11]]).map gJ) ls ls false:=fun l i n R b0 ts B hd hF hb Z=>by
 have e:aAl ag (dT w name ahead) (eQ asked) (eQ first) dU (eQ second)=bP false asked++(dT w name ahead++(bP false first++(oA dU ag (eQ second)++(.s "end"::ag)))):=by
  show bP false asked++dT w name ahead++bP false first++oA dU ag (eQ second)++[.s "end"]++ag=_
  simp only[eJ,List.cons_append,List.nil_append]
 rw[e] at hd ⊢
 rw[←fQ,←fQ,←fQ,←fQ,eJ,eJ,eJ,eJ] at hd
 have f5:xK (.s "end"::ag):=aAP (zD T0)
 have f4:xK (oA dU ag (eQ second)):=by
  unfold oA
  split
  ·exact aAP (more:=ag++uJ (eQ second)) (zD T0)
  ·exact .nil
 obtain⟨s1,s2⟩:=nC (b:=false) (f:=false) nofun asked h1
 have d1:=jT hd
 have d2:=jT d1
 have d3:=jT d2
 have d4:=jT d3
 have r4:=(f5 (n+cH (bP false asked)+cH (dT w name ahead)+cH (bP false first)+cH (oA dU ag (eQ second)))).app hF
 have r3:=(f4 (n+cH (bP false asked)+cH (dT w name ahead)+cH (bP false first))).app r4
 have fp:xK (bP false first):=(nC (ls:=ls++[⟨name,"",.br [] 0 0,false⟩]) (b:=false) (f:=false) nofun first (h2 _ rfl)).2
 have r2:=(fp (n+cH (bP false asked)+cH (dT w name ahead))).app r3
 have g1:=s1 l i n _ b0 ts B hd (((aLH hw) _).app r2) hb hb
 obtain⟨lb,b1,b2,b3,go⟩:=aMe hw hN ha d1 r2 hb
 have hb1:∀lb:Lb,b0≤(ls++[lb]).length:=fun lb=>by exact rwL cL (Nat.le_succ_of_le hb)
 have g2:=g1.trans (go ts _)
 have g3:=g2.trans ((nC (b:=false) (f:=false) nofun first (h2 lb b1)).1 l _ _ _ b0 ts _ d2 r3 (hb1 lb) (hb1 lb))
 obtain⟨lb',b4,g4⟩:=aIz (dU:=dU) (second:=second) (ts:=ts) (B:=((B++(kU asked).map gJ)++[gJ [w,kind]])++(kU first).map gJ) b1 (fun q=>by
  refine rwL b2 ?_
  have:w=4:=Classical.byContradiction fun z=>by rw[(i1 z).2] at q;exact iX q
  rw[this];decide) b3 hA h3 hb d3 r4
 have g5:=(g3.trans g4).trans (aKW hb (hA lb' b4) d4 hF)
 have g6:=g5.up (m':=8*(1+eU asked+eU first+eU second)) (by lia)
 simp only[cL,eD,eJ,Nat.add_assoc] at g6 ⊢
 exact g6
end
section
variable{ls:List Lb}{w kind:Int}{name:Str}{ahead:List Tx}{asked first second:List Nd}{dU f:Bool}
theorem zB(hw:w=2∨w=3∨w=4)(hN:name∈iD)(ha:(ahead,kind)∈fY){K:List Tx}{n:Int}(hK:∀n,qY (bN K n)):∃lb:Lb,lb.name=name∧∃KS,lY KS=kind∧∃n',
  (bN (dT w name ahead++K) n).drop (dT w name ahead).length=bN K n'∧nV dF ls (bN (dT w name ahead++K) n) 1 n=vL dF ls (bN (dT w name ahead++K) n) (dR w) (.str (dR w)) 1 (n+1)∧
  tU (bN (dT w name ahead++K) n) 1 (dR w) (.tok "word" (dR w) (.str (dR w)) 1 (n+1))=lb∧tO ((bN (dT w name ahead++K) n).drop (rJ (bN (dT w name ahead++K) n) 1)) (rJ (bN (dT w name ahead++K) n) 1) [] false=some (KS,(dT w name ahead).length):=by
 obtain⟨h1,h2,h3⟩:=aCK hw
 have e0:bN (dT w name ahead++K) n=gS (dR w) (n+1)::(bN (iT name++ahead) (n+1)++bN K (n+1+cH (iT name++ahead))):=by
  rw[fQ]
  rfl
 have e1:(bN (dT w name ahead++K) n).drop 0=bN (dT w name ahead) n++bN K (n+cH (dT w name ahead)):=(fQ _ _ _).symm
 have hd:=jT e1
 rw[Nat.zero_add] at hd
 obtain⟨h6,KS,h7,h8⟩:=aDO (l:=bN (dT w name ahead++K) n) (j:=1) hN ha (by rw[e0];rfl) (hK _)
 refine⟨_,h6,KS,h8,_,hd,?_,rfl,?_⟩
 ·unfold nV
  rw[pI h1] at e0
  rw[if_neg (by rw[e0,pR];rcases hw with rfl|rfl|rfl <;> exact zD T0),show(bN (dT w name ahead++K) n)[(0:Nat)]? =some (.tok "word" (dR w) (.str (dR w)) 1 (n+1)) by rw[e0];rfl]
 ·refine rwL (show(dT w name ahead).length=1+(iT name++ahead).length from Nat.add_comm _ _) ?_
  exact h7
theorem aGF(hw:w=2∨w=3)(hN:name∈iD)(ha:(ahead,kind)∈fY)(h2:∀lb:Lb,lb.name=name→∀k∈first,NdS k (ls++[lb])):
  zA (8*(1+eU first)) [.l (dT w name ahead++uJ (eQ first))] (([[w,kind]]++kU first++[[11]]).map gJ) ls ls f:=fun l i n R b0 ts B hd hF hb Z=>by
 have hw':w=2∨w=3∨w=4:=hw.elim .inl fun h=>.inr (.inl h)
 have fp:xK (bP false first):=(nC (ls:=ls++[⟨name,"",.br [] 0 0,false⟩]) (b:=false) (f:=false) nofun first (h2 _ rfl)).2
 have h0:l[i]? =some (.br (bN (dT w name ahead++bP false first) (n+1)) 1 (n+1)):=(dC hd).1
 obtain⟨lb,b1,KS,b2,n',b3,b4,b5,b6⟩:=zB (ls:=ls) (K:=bP false first) (n:=n+1) hw' hN ha fp
 obtain⟨_,c2,c3⟩:=aCK hw'
 have hfo:nV dF ls (bN (dT w name ahead++bP false first) (n+1)) 1 (n+1)=some (.ok ([.run (bN (dT w name ahead++bP false first) (n+1)) (dT w name ahead).length false none,.close],[gJ [w,kind]],ls++[lb])):=by
  refine rwL b4 ?_
  unfold vL
  refine rwL (if_neg (by rcases hw with rfl|rfl <;> exact zD T0)) ?_
  refine rwL (if_pos c3) ?_
  refine rwL b6 ?_
  refine rwL b5 ?_
  refine rwL c2 ?_
  refine rwR b2 ?_
  rfl
 have g:=aGO (f:=f) (ts:=ts) (B:=B) h0 hb hfo
 have g2:=g.trans (((nC (b:=false) (f:=false) nofun first (h2 lb b1)).1.all b3 (by rw[dM,cL];exact eL _ _)).trans aBS)
 have g3:=g2.up (m':=8*(1+eU first)) (aM (dH (Nat.add_comm 1 _)) (aM (fV (aD rfl:3≤8) _) (dH ((Nat.add_comm _ _).trans (Nat.mul_add 8 1 _).symm))))
 simp only[eD,eJ] at g3 ⊢
 exact g3
theorem aD1{ls:List Lb}:∀(nds:List Nd) (n:Int) (j:Nat) (R:List It),(∀k∈nds,NdS k ls)→kO (bN (bP true nds) n++R) j=kO R (j+nds.length)∧(bP true nds).length=nds.length
 |[],n,j,R,_=>⟨rfl,rfl⟩
 |x::xs,n,j,R,h=>by
  obtain⟨its,e,h1⟩:=(h x (eS ..)).br
  have ih:=fun n j=>aD1 xs n j R fun k hk=>h k (fW _ hk)
  rw[aAq,e]
  refine⟨?_,rwL cL (rwL ((ih 0 0).2) (Nat.add_comm _ _))⟩
  show kO (.br (bN its (n+1)) 1 (n+1)::(bN (bP true xs) (n+aAO (.l its))++R)) j=_
  rw[uK,if_neg (h1 _ _ _),(ih _ _).1,eX,Nat.add_assoc,Nat.add_comm 1]
theorem aKb{t:Str}{more:List Tx}{l R:List It}{j:Nat}{n:Int}(h:t∈(["result","param","end","else","then"]:List Str))(hd:l.drop j=mkI (.l (.s t::more)) n::R):lH l j=t∧oR l j=bN (.s t::more) (n+1):=by
 have h0:=(dC hd).1
 unfold lH oR
 refine rwL h0 ?_
 exact⟨tJ (kY h),rfl⟩
theorem aJu(hN:name∈iD)(ha:(ahead,kind)∈fY)(h1:∀k∈asked,NdS k ls)(h2:∀lb:Lb,lb.name=name→∀k∈first,NdS k (ls++[lb]))(h3:∀lb:Lb,lb.name=name→∀k∈second,NdS k (ls++[lb])):
  zA (8*(1+eU asked+eU first+eU second)) [.l (dT 4 name ahead++foT (eQ asked)++mR dU (eQ first) (eQ second))] ((kU asked++[[4,kind]]++kU first++(if dU=true then[[5]]++kU second else[])++[[11]]).map gJ) ls ls f:=fun l i n R b0 ts B hd hF hb Z=>by
 have hw:(4:Int)=2∨(4:Int)=3∨(4:Int)=4:=.inr (.inr rfl)
 obtain⟨s1,s2⟩:=nC (ls:=ls) (b:=true) (f:=true) (fun Z=>rfl) asked h1
 rw[eJ] at hd
 have e:foT (eQ asked)=bP true asked:=rfl
 rw[e] at hd ⊢
 have hFK:∀n,qY (bN (bP true asked++mR dU (eQ first) (eQ second)) n):=fun n=>by
  rw[←fQ]
  refine(s2 n).app fun x hx=>?_
  have q:∃ts c,x=.br (bN (.s "then"::ts) (c+1)) 1 (c+1):=by
   unfold mR at hx
   split at hx <;> exact⟨_,_,(bE hx).symm⟩
  obtain⟨ts,c,rfl⟩:=q
  show(!((["result","type","param"]:List Str).any (·==dK _)))=true
  rw[tJ (kY (by exact zD T0))]
  rfl
 have h0:l[i]? =some (.br (bN (dT 4 name ahead++(bP true asked++mR dU (eQ first) (eQ second))) (n+1)) 1 (n+1)):=(dC hd).1
 obtain⟨lb,b1,KS,b2,n',b3,b4,b5,b6⟩:=zB (ls:=ls) (K:=bP true asked++mR dU (eQ first) (eQ second)) (n:=n+1) hw hN ha hFK
 generalize hbl:bN (dT 4 name ahead++(bP true asked++mR dU (eQ first) (eQ second))) (n+1)=bl at h0 b3 b4 b5 b6
 generalize (dT 4 name ahead).length=J at b3 b6
 rw[←fQ] at b3
 obtain⟨t1,t2⟩:=aD1 (ls:=ls) asked n' J (bN (mR dU (eQ first) (eQ second)) (n'+cH (bP true asked))) h1
 have d1:=jT b3
 rw[t2] at d1
 generalize n'+cH (bP true asked)=n2 at b3 d1 t1
 have d1':bl.drop (J+asked.length)=mkI (.l (.s "then"::bP false first)) n2::bN (if dU=true then[.l (.s "else"::bP false second)] else[]) (n2+aAO (.l (.s "then"::bP false first))):=d1
 have hth:kO (bl.drop J) J=J+asked.length:=by
  rw[b3,t1]
  show kO (mkI (.l (.s "then"::bP false first)) n2::_) (J+asked.length)=_
  exact if_pos (show dK (mkI (.l (.s "then"::bP false first)) n2)="then" from tJ (kY (by exact zD T0)))
 obtain⟨a1,a2⟩:=aKb (by exact zD T0) d1'
 obtain⟨a3,a4⟩:=dC d1'
 have hlt:=(gB a3).1
 generalize n2+aAO (.l (.s "then"::bP false first))=n3 at a4
 have tail:bl[jV bl (J+asked.length)]? =none∧∀ts B,Go B (8*eU second+2) (ls++[lb]) (ls++[lb]) (pM bl (J+asked.length)++ts) ts (B++(if dU=true then[[5]]++kU second else[]).map gJ):=by
  induction dU with
  |false=>
   have a5:bl.drop (J+asked.length+1)=[]:=a4
   have a6:bl[J+asked.length+1]? =none:=List.getElem?_eq_none (List.drop_eq_nil_iff.mp a5)
   have a7:lH bl (J+asked.length+1)≠"else":=by unfold lH;rw[a6];decide
   refine⟨by unfold jV;rw[if_neg a7];exact a6,fun ts B=>?_⟩
   unfold pM
   rw[if_neg a7,if_neg (by exact zD T0),List.map_nil,List.append_nil]
   exact .refl
  |true=>
   have a5:bl.drop (J+asked.length+1)=mkI (.l (.s "else"::bP false second)) n3::[]:=a4
   obtain⟨a6,a7⟩:=aKb (by exact zD T0) a5
   refine⟨by unfold jV;rw[if_pos a6];exact List.getElem?_eq_none (List.drop_eq_nil_iff.mp (dC a5).2),fun ts B=>?_⟩
   unfold pM
   refine rwL (if_pos a6) ?_
   refine rwL a7 ?_
   refine rwL (if_pos rfl) ?_
   refine rwL eD ?_
   refine rwR (eJ _ _ _) ?_
   have g:=(aEa (iv:=gJ [5]) (ls:=ls++[lb]) (B:=B) (ts:=.run (bN (.s "else"::bP false second) (n3+1)) 1 false none::ts)).trans ((nC (b:=false) (f:=false) nofun second (h3 lb b1)).1.all (l:=bN (.s "else"::bP false second) (n3+1)) (i:=1) (n:=n3+1+1) rfl (rwL (dM _ _) (fM (cM _))))
   exact g.up (dH (Nat.add_comm 1 _))
 obtain⟨e1,e2⟩:=tail
 have hfo:nV dF ls bl 1 (n+1)=some (.ok ([.run (bN (bP true asked) n') 0 true none,.opn (gJ [4,kind]) lb,.run (bN (.s "then"::bP false first) (n2+1)) 1 false none]++pM bl (J+asked.length)++[.close],[],ls)):=by
  refine rwL b4 ?_
  unfold vL
  refine rwL (if_pos rfl) ?_
  unfold ifR
  refine rwL b6 ?_
  show some (lZ _ (ifT bl (tU bl 1 (dR 4) (.tok "word" (dR 4) (.str (dR 4)) 1 (n+1+1))) J (kO (bl.drop J) J) KS))=_
  refine rwL b5 ?_
  refine rwL hth ?_
  unfold ifT
  refine rwL (if_neg (Nat.ne_of_lt hlt)) ?_
  refine rwL e1 ?_
  unfold aLw
  refine rwL a2 ?_
  refine rwL (Nat.add_sub_cancel_left _ _) ?_
  refine rwL b3 ?_
  refine rwL (List.take_left' (rwL (dM _ _) (rwL t2 rfl))) ?_
  refine rwL b2 ?_
  rfl
 have g0:=aGO (f:=f) (ts:=ts) (B:=B) h0 hb hfo
 have g1:=g0.trans (s1.all (l:=bN (bP true asked) n') (i:=0) (n:=n') rfl (cM _))
 have g2:=g1.trans aI0
 have g3:=g2.trans ((nC (b:=false) (f:=false) nofun first (h2 lb b1)).1.all (l:=bN (.s "then"::bP false first) (n2+1)) (i:=1) (n:=n2+1+1) rfl (rwL (dM _ _) (fM (cM _))))
 have g4:=(g3.trans (by have:=e2 (.close::.run l (i+1) f (some b0)::ts) ((((B++[])++(kU asked).map gJ)++[gJ [4,kind]])++(kU first).map gJ);rw[←List.singleton_append (l:=.run l (i+1) f (some b0)::ts),←eJ] at this;exact this)).trans aBS
 have g5:=g4.up (m':=8*(1+eU asked+eU first+eU second)) (by lia)
 simp only[eD,eJ,List.append_nil,List.nil_append] at g5 ⊢
 exact g5
theorem aJ5{t:Str}{more:List Tx}(h:t∈(["block","loop","if","else","end"]:List Str)):xK [.l (.s t::more)]∧∀n r c,dK (.br (bN (.s t::more) n) r c)≠"then":=by
 have h1:=eT aEn t h
 simp only[Bool.and_eq_true] at h1
 have hs:=cJ h1.1.1
 have hh:∀n r c,dK (.br (bN (.s t::more) n) r c)=t:=fun n r c=>tJ hs
 refine⟨fun n x hx=>?_,fun n r c=>?_⟩
 ·have e:some (It.br (bN (.s t::more) (n+1)) 1 (n+1))=some x:=hx
  refine rwR (bE e) ?_
  show(!((["result","type","param"]:List Str).any (·==dK _)))=true
  refine rwL (hh _ _ _) ?_
  simp only[List.mem_cons,List.not_mem_nil,or_false] at h
  rcases h with rfl|rfl|rfl|rfl|rfl <;> exact rfl
 ·refine rwL (hh _ _ _) ?_
  simp only[List.mem_cons,List.not_mem_nil,or_false] at h
  rcases h with rfl|rfl|rfl|rfl|rfl <;> exact zD T0
theorem aNK{f0:Int}(hw:w=2∨w=3∨w=4)(hN:name∈iD)(ha:(ahead,kind)∈fY)(h1:∀k∈asked,NdS k ls)(h2:∀lb:Lb,lb.name=name→∀k∈first,NdS k (ls++[lb]))(h3:∀lb:Lb,lb.name=name→∀k∈second,NdS k (ls++[lb]))(i1:w≠4→asked=[]∧dU=false)(i2:dU=false→second=[]):
  NdS (.blk f0 w kind name ahead asked first dU second) ls:=by
 have e:∀b,txN (.blk f0 w kind name ahead asked first dU second) b=if(b||decide (f0=1))=true then tE w (dT w name ahead) (eQ asked) (eQ first) dU (eQ second) else aAl (gL (decide (f0=2)) name) (dT w name ahead) (eQ asked) (eQ first) dU (eQ second):=fun Z=>rfl
 have hF:∃more,tE w (dT w name ahead) (eQ asked) (eQ first) dU (eQ second)=[.l (.s (dR w)::more)]:=by
  unfold tE
  split <;> exact⟨_,rfl⟩
 obtain⟨more,hF⟩:=hF
 refine⟨fun b=>?_,⟨_,hF,(aJ5 (nD hw)).2⟩,fun b f hb=>?_⟩
 ·refine rwL (e _) ?_
  split
  ·refine rwL hF ?_
   exact(aJ5 (nD hw)).1
  ·have s2:=(nC (b:=false) (f:=false) nofun asked h1).2
   generalize gL (decide (f0=2)) name=ag
   show xK (bP false asked++dT w name ahead++uJ (eQ first)++oA dU ag (eQ second)++[.s "end"]++ag)
   simp only[eJ]
   exact s2.app (aAP (t:=dR w) (more:=iT name++ahead++(uJ (eQ first)++(oA dU ag (eQ second)++([.s "end"]++ag)))) (nD hw))
 ·rw[e,xL,flN]
  by_cases h0:(b||decide (f0=1))=true
  ·refine rwL (if_pos h0) ?_
   unfold tE
   by_cases hw4:w=4
   ·subst hw4
    refine rwL (if_neg (by exact zD T0)) ?_
    exact aJu hN ha h1 h2 h3
   ·refine rwL (if_pos hw4) ?_
    obtain⟨rfl,rfl⟩:=i1 hw4
    cases i2 rfl
    refine rwL (if_neg (by exact zD T0)) ?_
    refine rwL (show kU []=[] from rfl) ?_
    refine rwL (List.nil_append _) ?_
    refine rwL (List.append_nil _) ?_
    refine rwL (show eU []=0 from rfl) ?_
    exact aGF (hw.elim .inl fun q=>q.elim .inr fun q=>absurd q hw4) hN ha h2
  ·refine rwL (if_neg h0) ?_
   have hbf:b=false:=by induction b with
    |false=>rfl
    |true=>exact absurd rfl h0
   have hff:f=false:=by induction f with
    |false=>rfl
    |true=>
     replace hbf:=(hb rfl)▸hbf
     exact iX (Eq.symm hbf)
   subst hff
   exact aE8 hw hN ha h1 h2 h3 i1 fun lb hl=>aNk hN hl
end
theorem aG2{d:Nat}{names:List Str}{nd:Nd}(h:gE d names nd):∀{ls:List Lb},ls.map (·.name)=names→(∀x∈names,x∈iD)→names.length+d≤100→NdS nd ls:=by
 induction h with
 |leaf hf hs hk ih=>exact fun hl hN hz=>aKZ (rwL hl (aK2 hs (aM (eL _ _) hz) hN)) fun k hk'=>ih k hk' hl hN (aM (fV (Nat.le_succ _) _) hz)
 |@blk d names f w kind name ahead asked first second dU hf hw hn ha h1 h2 h3 i1 i2 y1 y2 y3=>
  intro ls hl hN hz
  have hz2:(names++[name]).length+d≤100:=by rw[cL];show names.length+1+d≤100;exact aM (dH (Nat.add_right_comm names.length 1 d)) hz
  have hN2:∀x∈names++[name],x∈iD:=fun x hx=>(gK hx).elim (hN x) fun q=>eR q▸hn
  have hl2:∀lb:Lb,lb.name=name→(ls++[lb]).map (·.name)=names++[name]:=fun lb e=>by rw[eD,hl,List.map_cons,e];rfl
  exact aNK hw hn ha (fun k hk=>y1 k hk hl hN (aM (fV (Nat.le_succ _) _) hz)) (fun lb e k hk=>y2 k hk (hl2 lb e) hN2 hz2) (fun lb e k hk=>y3 k hk (hl2 lb e) hN2 hz2) i1 i2
theorem aI6{nds:List Nd}(h:∀nd∈nds,gE 5 [] nd)(hz:eU nds≤16)(b:Bool):∃k,k≤1000∧nT dF k [.run (bN (bP b nds) 0) 0 false none] [] []=some (.ok ((kU nds).map gJ)):=by
 have hb:(false:Bool)=true→b=true:=nofun
 have s:=(nC (ls:=[]) hb nds fun nd hn=>aG2 (h nd hn) rfl gR (aD rfl)).1
 obtain⟨k,h1,h2⟩:=(s.all (l:=bN (bP b nds) 0) (i:=0) (n:=0) (ts:=[]) (B:=[]) rfl (cM _)).done
 exact⟨k,by lia,h2⟩
inductive kW:Nat→Tx→Prop
 |s {d:Nat} {t:Str} (h:aDw t) (m:eC t="word"→sQ t=true):kW d (.s t)
 |l {d:Nat} {ts:List Tx} (z:ts.length≤1000) (h:∀x∈ts,kW d x):kW (d+1) (.l ts)
theorem kW.up{d d':Nat}{x:Tx}(h:kW d x)(hd:d≤d'):kW d' x:=by
 induction h generalizing d' with
 |s h m=>exact .s h m
 |l z h ih=>
  induction d' with
  |zero=>cases hd
  |succ d'=>exact .l z fun x hx=>ih x hx (Nat.le_of_succ_le_succ hd)
theorem kW.ok{d:Nat}{x:Tx}(h:kW d x):xP d x:=by
 induction h with
 |s h m=>exact .s h
 |l z h ih=>exact .l z ih
theorem wJ{P:It→Prop}:∀{ts:List Tx} {n:Int},(∀x∈ts,∀n,P (mkI x n))→∀y∈bN ts n,P y
 |[],_,_=>gR
 |t::ts,n,h=>fun y hy=>by
  rcases eM (show y∈mkI t n::bN ts (n+aAO t) from hy) with q|q
  ·refine rwL q ?_
   exact h t (eS ..) n
  ·exact wJ (fun x hx=>h x (fW _ hx)) y q
set_option tactic.hygienic true in
theorem kW.good{d:Nat}{x:Tx}(h:kW d x):∀n,rK (mkI x n):=by
 induction h with
 |s h m=>
  rename_i t
  refine fun n=>.tok ⟨aM h.len (aD rfl),fun e=>?_⟩ m
  obtain⟨c,hc⟩:=h.hd
  exact⟨aCR t,c,if_pos e,hc⟩
 |l z h ih=>exact fun n=>.br (rwL (dM _ _) (aM z (by exact aD rfl))) (wJ ih)
theorem aHe{d:Nat}{ts:List Tx}(h:∀x∈ts,kW d x)(z:ts.length≤2^19)(n:Int):jL (bN ts n):=⟨rwL (dM _ _) z,wJ fun x hx=>(h x hx).good⟩
noncomputable def aJK(t:Str):Bool:=aJs t&&(!(eC t=="word")||sQ t)
theorem aDJ{d:Nat}{t:Str}(h:aJK t=true):kW d (.s t):=by
 unfold aJK at h
 rw[Bool.and_eq_true] at h
 exact .s (aD9 h.1) fun e=>by simpa [e] using h.2
theorem aEo{d:Nat}{n:Int}(h:n.natAbs<10^20):kW d (.s (iP n)):=by
 have k:=mP h
 have hs:=(rI k).1
 obtain⟨c,hc,_⟩:=k.hd
 exact .s ⟨aM k.len (aD rfl),k.fit,⟨c,hc⟩,fun Z=>by unfold aCR;rw[k.read];rfl⟩ fun e=>by rw[hs] at e;exact absurd e (zD T0)
noncomputable def aDv:List Str:=sV.map (·.1)++yN.map (·.1)++zX.map (·.1)++aGa.map (·.1)++wE.map (·.1)++oZ.map (·.1)++sK.map (·.1)++yL.map (·.1)++(sP.flatMap id).map (·.1)++(iD.drop 1)++(["i32.const","i64.const","br_table","ref.null","select","result","param","block","loop","if","then","else","end","i32","i64","funcref","nop"]:List Str)
theorem aLQ:aDv.all aJK=true:=by decide+kernel
theorem aNY{d:Nat}{t:Str}(h:t∈aDv):kW d (.s t):=aDJ (eT aLQ t h)
theorem jJ{t:Str}{L:List Str}(h:t∈L)(hL:(L.all fun x=>aDv.any (·==x))=true){d:Nat}:kW d (.s t):=by
 have h1:=List.any_eq_true.mp (eT hL t h)
 obtain⟨x,hx,e⟩:=h1
 refine rwR (cJ e) ?_
 exact aNY hx
theorem nG{β:Type}{r:Str×β}{L:List (Str×β)}(h:r∈L):r.1∈L.map (·.1):=List.mem_map_of_mem h
theorem aEH{a b x:Tx}{P:Tx→Prop}(h1:P a)(h2:P b):x∈[a,b]→P x:=fun h=>by
 rcases eM h with q|q
 ·refine rwL q ?_
  exact h1
 ·refine rwL (eR q) ?_
  exact h2
theorem uU{names:List Str}{t:Str}{n:Int}(g:nU names t n)(hz:names.length≤100)(hN:∀x∈names,x∈iD){d:Nat}:kW d (.s t):=by
 rcases g with⟨rfl,h0,h1⟩|⟨hm,h0,_⟩
 ·exact aEo (by lia)
 ·refine jJ (L:=iD.drop 1) ?_ (by decide+kernel)
  have h:=hN t hm
  unfold iD at h ⊢
  rcases eM h with q|q
  ·exact absurd q h0
  ·exact q
theorem aMQ{names:List Str}{txs:List Tx}{told:List Int}(h:qO names txs told)(hz:names.length≤100)(hN:∀x∈names,x∈iD):∀x∈txs,kW 1 x:=by
 induction h with
 |row r h=>exact fun x hx=>by exact rwL (eR hx) (jJ (nG h) (by decide+kernel))
 |con b n t hb h0 h1 ht=>
  refine fun x=>aEH ?_ (aEo (aHQ (r:=0) (c:=0) hb h0 h1 ht).1)
  rcases hb with rfl|rfl
  ·exact jJ (L:=["i32.const"]) (eS ..) (by decide+kernel)
  ·exact jJ (L:=["i64.const"]) (eS ..) (by decide+kernel)
 |loc r q h h2=>exact fun x=>aEH (jJ (nG h) (by decide+kernel)) (jJ (nG h2) (by decide+kernel))
 |br r h t n g=>exact fun x=>aEH (jJ (nG h) (by decide+kernel)) (uU g hz hN)
 |tab gs z z0 g=>
  intro x hx
  rcases eM hx with q|q
  ·refine rwL q ?_
   exact jJ (L:=["br_table"]) (eS ..) (by decide+kernel)
  ·obtain⟨p,hp,rfl⟩:=List.mem_map.mp q
   exact uU (g p hp) hz hN
 |mem r h o a ho ha=>
  intro x hx
  rcases eM hx with q|q
  ·refine rwL q ?_
   exact jJ (nG h) (by decide+kernel)
  ·obtain⟨p,hp,rfl⟩:=List.mem_map.mp q
   rcases gK hp with q|q
   ·exact jJ (nG (ho p (Option.mem_toList.mp q))) (by decide+kernel)
   ·exact jJ (nG (ha p (Option.mem_toList.mp q))) (by decide+kernel)
 |ref r h=>exact fun x=>aEH (jJ (L:=["ref.null"]) (eS ..) (by decide+kernel)) (jJ (nG h) (by decide+kernel))
 |sel ks h=>
  have h1:=eT aDt ks h
  replace h1:=(Bool.and_eq_true _ _)▸h1
  refine fun x=>aEH (jJ (L:=["select"]) (eS ..) (by decide+kernel)) (.l ?_ fun y hy=>?_)
  ·refine rwL eX ?_
   refine rwL (bS _) ?_
   have:=of_decide_eq_true h1.1
   exact Nat.lt_of_le_of_lt ‹_› (aD rfl)
  ·rcases eM hy with q|q
   ·refine rwL q ?_
    exact jJ (L:=["result"]) (eS ..) (by decide+kernel)
   ·obtain⟨p,hp,rfl⟩:=List.mem_map.mp q
    exact jJ (L:=(sP.flatMap id).map (·.1)) (nG (List.mem_flatMap.mpr ⟨ks,h,hp⟩)) (by decide+kernel)
set_option tactic.hygienic true in
theorem aMb{w kind:Int}{name:Str}{ahead:List Tx}(hw:w=2∨w=3∨w=4)(hN:name∈iD)(ha:(ahead,kind)∈fY):∀x∈dT w name ahead,kW 1 x:=by
 intro x hx
 unfold dT iT at hx
 rcases gK hx with q|q
 ·rcases gK q with q|q
  ·refine rwL (eR q) ?_
   exact jJ (L:=["block","loop","if"]) (by rcases hw with rfl|rfl|rfl <;> exact zD T0) (by decide+kernel)
  ·split at q
   ·rename_i h0
    refine rwL (eR q) ?_
    exact uU (names:=[name]) (n:=0) (.inr ⟨List.mem_singleton.mpr rfl,h0,0,rfl,if_pos rfl⟩) (aD rfl) fun x hx=>by exact rwL (eR hx) hN
   ·cases q
 ·have h2:∀ts:List Str,ts.length≤1000→(ts.all fun x=>aDv.any (·==x))=true→kW 1 (.l (ts.map .s)):=fun ts hz h=>.l (rwL (bS _) hz) fun y hy=>by
   obtain⟨t,ht,rfl⟩:=List.mem_map.mp hy
   exact jJ ht h
  unfold fY at ha
  simp only[List.mem_cons,List.not_mem_nil,or_false,Prod.mk.injEq] at ha
  rcases ha with⟨rfl,_⟩|⟨rfl,_⟩|⟨rfl,_⟩|⟨rfl,_⟩|⟨rfl,_⟩
  ·cases q
  ·refine rwL (eR q) ?_
   exact h2 ["result","i32"] (aD rfl) (by decide+kernel)
  ·exact aEH (h2 ["param"] (aD rfl) (by decide+kernel)) (h2 ["result","i64"] (aD rfl) (by decide+kernel)) q
  ·refine rwL (eR q) ?_
   exact h2 ["result"] (aD rfl) (by decide+kernel)
  ·refine rwL (eR q) ?_
   exact h2 ["result","funcref"] (aD rfl) (by decide+kernel)
theorem aCE{b:Bool}{x:Tx}:∀{nds:List Nd},x∈bP b nds→∃nd∈nds,x∈txN nd b
 |[],h=>by rw[show bP b []=[] by cases b <;> rfl] at h;cases h
 |nd::nds,h=>by
  rw[aAq] at h
  rcases gK h with q|q
  ·exact⟨nd,eS ..,q⟩
  ·obtain⟨k,h1,h2⟩:=aCE q
   exact⟨k,fW _ h1,h2⟩
theorem iE{d:Nat}{a b:List Tx}(h1:∀x∈a,kW d x)(h2:∀x∈b,kW d x):∀x∈a++b,kW d x:=fun x hx=>(gK hx).elim (h1 x) (h2 x)
theorem qV{d:Nat}{y:Tx}(h:kW d y):∀x∈[y],kW d x:=fun x hx=>by exact rwL (eR hx) h
theorem aCD{d:Nat}{t:Str}(h:t∈(["then","else","end"]:List Str)):∀x∈[Tx.s t],kW d x:=qV (jJ h (by decide+kernel))
theorem aCG{nd:Nd}:∀{nds:List Nd},nd∈nds→xL nd≤eU nds
 |y::ys,h=>by
  rw[eU]
  rcases eM h with q|q
  ·refine rwL q ?_
   exact eL ..
  ·exact aM (aCG q) (fA ..)
theorem aIP(kids:List Nd):eU kids.dropLast≤eU kids∧eU (kids.drop (kids.length - 1))≤eU kids:=by
 have h:=uI kids.dropLast (kids.drop (kids.length - 1))
 rw[aAK] at h
 rw[h];exact⟨eL _ _,fA _ _⟩
theorem tI{d:Nat}{ns:List Str}{nds:List Nd}(hk:∀k∈nds,gE d ns k)(ih:∀k∈nds,(∀x∈ns,x∈iD)→ns.length+d≤100→xL k≤16→∀b,∀x∈txN k b,kW (2*d+1) x)(hn:∀x∈ns,x∈iD)(hl:ns.length+d≤100)(hz:eU nds≤16)(b:Bool):
  (∀x∈bP b nds,kW (2*d+1) x)∧(bP b nds).length≤192:=⟨fun x hx=>by
 obtain⟨k,h1,h2⟩:=aCE hx
 exact ih k h1 hn hl (aM (aCG h1) hz) b x h2,aM (nB fun k hk'=>⟨_,hk k hk'⟩) (hZ 12 hz)⟩
theorem aNW{d:Nat}{names:List Str}{nd:Nd}(h:gE d names nd):(∀x∈names,x∈iD)→names.length+d≤100→xL nd≤16→∀b,∀x∈txN nd b,kW (2*d+1) x:=by
 induction h with
 |@leaf d names f txs told kids hf hsg hk ih=>
  intro hN hz hs
  have up:∀{x:Tx},kW 1 x→kW (2*d+1) x:=fun h=>h.up (fA _ _)
  have up2:∀{x:Tx},kW (2*d+1) x→kW (2*(d+1)+1) x:=fun h=>h.up (eP (hZ 2 (Nat.le_succ d)) 1)
  have up3:∀{x:Tx},kW (2*d+1+1) x→kW (2*(d+1)+1) x:=fun h=>h.up (Nat.le_succ (2*d+2))
  have htx:=aMQ hsg (aM (eL _ _) hz) hN
  have hl:=aC1 hsg
  have fo:∀nds:List Nd,(∀k∈nds,k∈kids)→eU nds≤16→∀x∈[Tx.l (txs++bP true nds)],kW (2*(d+1)+1) x:=fun nds h hz'=>by
   obtain⟨a1,a2⟩:=tI (fun k q=>hk k (h k q)) (fun k q=>ih k (h k q)) hN (aM (fV (Nat.le_succ d) _) hz) hz' true
   exact qV (up3 (.l (rwL cL (aM (cT hl a2) (by exact aD rfl))) (iE (fun x hx=>up (htx x hx)) a1)))
  have pl:∀nds:List Nd,(∀k∈nds,k∈kids)→eU nds≤16→∀x∈bP false nds,kW (2*(d+1)+1) x:=fun nds h hz' x hx=>up2 ((tI (fun k q=>hk k (h k q)) (fun k q=>ih k (h k q)) hN (aM (fV (Nat.le_succ d) _) hz) hz' false).1 x hx)
  intro b
  show ∀x∈qD (b||decide (f=1)) (decide (f=2)) txs (eQ kids),_
  unfold qD
  split
  ·exact fo kids (fun k h=>h) (aM (fA _ 1) hs)
  ·split
   ·refine rwL (show(eQ kids).dropLast=eQ kids.dropLast by exact rwL (fT _) (rwL (fT _) (rwL List.map_dropLast rfl))) ?_
    refine rwL (show(eQ kids).drop ((eQ kids).length - 1)=eQ (kids.drop (kids.length - 1)) by exact rwL (uT _) (rwL (fT _) (rwL (fT _) (rwL List.map_drop rfl)))) ?_
    obtain⟨z1,z2⟩:=aIP kids
    exact iE (pl kids.dropLast (fun k hk'=>List.dropLast_subset _ hk') (aM z1 (aM (fA _ 1) hs))) (fo (kids.drop (kids.length - 1)) (fun k hk'=>List.mem_of_mem_drop hk') (aM z2 (aM (fA _ 1) hs)))
   ·exact iE (pl kids (fun k h=>h) (aM (fA _ 1) hs)) fun x hx=>(htx x hx).up (fA _ _)
 |@blk d names f w kind name ahead asked first second dU hf hw hn ha h1 h2 h3 i1 i2 y1 y2 y3=>
  intro hN hz hs
  have up:∀{x:Tx},kW 1 x→kW (2*d+1) x:=fun h=>h.up (fA _ _)
  have up2:∀{x:Tx},kW (2*d+1) x→kW (2*(d+1)+1) x:=fun h=>h.up (eP (hZ 2 (Nat.le_succ d)) 1)
  have up3:∀{x:Tx},kW (2*d+1+1) x→kW (2*(d+1)+1) x:=fun h=>h.up (Nat.le_succ (2*d+2))
  have hN2:∀x∈names++[name],x∈iD:=fun x hx=>(gK hx).elim (hN x) fun q=>by exact rwL (eR q) hn
  have hz2:(names++[name]).length+d≤100:=by rw[cL];show names.length+1+d≤100;exact aM (dH (Nat.add_right_comm names.length 1 d)) hz
  have hb:=aMb hw hn ha
  have hbl:=vP (w:=w) (name:=name) ha
  obtain⟨a1,a2⟩:=tI h1 y1 hN (aM (fV (Nat.le_succ d) _) hz) ((le4 hs).1) false
  obtain⟨a3,a4⟩:=tI h1 y1 hN (aM (fV (Nat.le_succ d) _) hz) ((le4 hs).1) true
  obtain⟨b1,b2⟩:=tI h2 y2 hN2 hz2 ((le4 hs).2.1) false
  obtain⟨c1,c2⟩:=tI h3 y3 hN2 hz2 ((le4 hs).2.2) false
  have kt:∀{t:Str} {L:List Tx},t∈(["then","else","end"]:List Str)→(∀x∈L,kW (2*d+1) x)→L.length≤192→kW (2*d+2) (.l ([.s t]++L)):=fun ht hL hl=>.l (by rw[cL];show 1+_≤1000;exact aM (fV hl 1) (aD rfl)) (iE (aCD ht) hL)
  intro b
  show ∀x∈(if(b||decide (f=1))=true then tE w (dT w name ahead) (eQ asked) (eQ first) dU (eQ second) else aAl (gL (decide (f=2)) name) (dT w name ahead) (eQ asked) (eQ first) dU (eQ second)),_
  split
  ·unfold tE
   split
   ·exact qV (up3 (.l (rwL cL (aM (cT hbl b2) (by exact aD rfl))) (iE (fun x hx=>up (hb x hx)) b1)))
   ·refine qV (.l ?_ (iE (iE (fun x hx=>(hb x hx).up (aM (aD rfl) (fA 2 (2*d)))) fun x hx=>(a3 x hx).up (Nat.le_succ (2*d+1))) (iE (qV (kt (zD T0) b1 b2)) ?_)))
    ·have:(mR dU (eQ first) (eQ second)).length≤2:=by unfold mR;split <;> exact aD rfl
     refine rwL cL ?_
     refine rwL cL ?_
     have e:(foT (eQ asked)).length≤192:=a4
     exact aM (cT (cT hbl e) this) (aD rfl)
    ·split
     ·exact qV (kt (zD T0) c1 c2)
     ·exact gR
  ·generalize hg:gL (decide (f=2)) name=ag
   have hag:∀x∈ag,kW (2*(d+1)+1) x:=by
    refine rwR hg ?_
    unfold gL
    split
    ·rename_i q
     exact qV (uU (names:=[name]) (n:=0) (.inr ⟨List.mem_singleton.mpr rfl,q.2,0,rfl,if_pos rfl⟩) (aD rfl) fun x hx=>by exact rwL (eR hx) hn)
    ·exact gR
   refine iE (iE (iE (iE (iE (fun x hx=>up2 (a1 x hx)) fun x hx=>(hb x hx).up (fA _ _)) fun x hx=>up2 (b1 x hx)) ?_) (aCD (zD T0))) hag
   unfold oA
   split
   ·exact iE (iE (aCD (zD T0)) hag) fun x hx=>up2 (c1 x hx)
   ·exact gR
section
variable{P S:List It}{j:Nat}
theorem pF:(P++S)[P.length+j]? =S[j]?:=by exact rwL (List.getElem?_append_right (eL ..)) (rwL (Nat.add_sub_cancel_left _ _) rfl)
theorem aGD:(P++S).drop (P.length+j)=S.drop j:=by exact rwR List.drop_drop (rwL List.drop_left rfl)
theorem aKp:dW (P++S) (P.length+j)=dW S j:=by unfold dW;rw[pF]
theorem aKt:pG (P++S) (P.length+j)=pG S j:=by unfold pG;rw[pF]
theorem aJ3:cB (P++S) (P.length+j)=cB S j:=by unfold cB;rw[pF]
theorem aM3{f:Str}:jI f (P++S) (P.length+j)=jI f S j:=by unfold jI iF;rw[aGD]
noncomputable def mv{α:Type}(p:Nat):Except bF (α×Nat)→Except bF (α×Nat):=lZ fun q=>(q.1,p+q.2)
theorem aLI:uD (P++S) (P.length+j)=(uD S j).map (mv P.length):=by
 unfold uD
 rw[aJ3,pF]
 by_cases h:Txt.startswith (cB S j) "offset="=true
 case neg=>rw[if_neg h,if_neg h];rfl
 rw[if_pos h,if_pos h]
 induction mB (aCU (cB S j)) (S[j]?.getD (.br [] 0 0)) with
 |none=>rfl
 |some r=>cases r <;> rfl
theorem aK4{a0:V}:rR a0 (P++S) (P.length+j)=(rR a0 S j).map (mv P.length):=by
 unfold rR
 rw[aJ3,pF]
 by_cases h:Txt.startswith (cB S j) "align="=true
 case neg=>rw[if_neg h,if_neg h];rfl
 rw[if_pos h,if_pos h]
 induction mB (aCY (cB S j)) (S[j]?.getD (.br [] 0 0)) with
 |none=>rfl
 |some r=>
  induction r with
  |error e=>rfl
  |ok n=>
   show(xM n 40 0).bind _=((xM n 40 0).bind _).map _
   induction xM n 40 0 with
   |none=>rfl
   |some e=>
    show(if(2:Int)^e=n then _ else _)=Option.map _ (if(2:Int)^e=n then _ else _)
    by_cases h:(2:Int)^e=n
    ·rw[if_pos h,if_pos h];rfl
    ·rw[if_neg h,if_neg h];rfl
theorem aLF{code:Int}:aDc code (P++S) (P.length+j)=(aDc code S j).map (mv P.length):=by
 unfold aDc
 induction aGt code with
 |none=>rfl
 |some a0=>
  show(uD (P++S) (P.length+j)).bind _=((uD S j).bind _).map _
  rw[aLI]
  induction uD S j with
  |none=>rfl
  |some r=>
   induction r with
   |error e=>rfl
   |ok q=>
    show(rR a0 (P++S) (P.length+q.2)).bind _=((rR a0 S q.2).bind _).map _
    rw[aK4]
    induction rR a0 S q.2 with
    |none=>rfl
    |some r=>cases r <;> rfl
theorem aIa{code:Int}{f:Str}{tk:It}:mE code f (P++S) (P.length+j) tk=mv P.length (mE code f S j tk):=by
 unfold mE
 refine rwL pF ?_
 induction S[j]? with
 |none=>rfl
 |some x=>
  cases x with
  |br=>rfl
  |tok s t v r c=>
   dsimp only
   split
   ·cases fZ (if s="word" then t else "") mF <;> rfl
   ·split
    ·cases nM t (mD v) (if f="i32" then 32 else 64) r c <;> rfl
    ·rfl
theorem aJy{names:List Str}{f:Str}{code:Int}{tk:It}:vQ names (P++S) (P.length+j) f code tk=mv P.length (vQ names S j f code tk):=by
 unfold vQ
 refine rwL aKt ?_
 refine rwL aM3 ?_
 refine rwL pF ?_
 split
 ·rfl
 ·split
  ·induction eA names (jI f S j) with
   |error e=>rfl
   |ok ns=>show Except.ok (_,P.length+j+ns.length)=_;rw[Nat.add_assoc];rfl
  ·rfl
theorem aAj{α β:Type}{c:Prop}[Decidable c]{a b:β}{a' b':α}(f:α→β)(h1:a=f a')(h2:b=f b'):(if c then a else b)=f (if c then a' else b'):=by
 by_cases h:c
 ·rw[if_pos h,if_pos h];exact h1
 ·rw[if_neg h,if_neg h];exact h2
theorem aKB{code:Int}{tk:It}:aAJ dF (P++S) (P.length+j) code tk=mv P.length (aAJ dF S j code tk):=by
 unfold aAJ
 rw[aKt,pF]
 refine aAj (mv P.length) ?_ rfl
 induction S[j]? with
 |none=>rfl
 |some x=>
  show lZ _ (eV dF x)=mv _ (lZ _ (eV dF x))
  cases eV dF x <;> rfl
theorem aIt{names:List Str}{f:Str}{code:Int}{tk:It}:rH dF names (P++S) (P.length+j) f code tk=(rH dF names S j f code tk).map (mv P.length):=by
 unfold rH
 rw[aKB,aJy,aLF,aIa]
 exact aAj (Option.map (mv P.length)) rfl<|aAj (Option.map (mv P.length)) rfl<|aAj (Option.map (mv P.length)) rfl<|aAj (Option.map (mv P.length)) rfl<|aAj (Option.map (mv P.length)) rfl rfl
theorem aIc(p:Nat):∀{xs:List It} {j:Nat} {ks:List Int} {b:Bool},xV xs (p+j) ks b=(xV xs j ks b).map fun q=>(q.1,q.2.1,p+q.2.2)
 |[],_,_,_=>rfl
 |x::xs,j,ks,b=>by
  refine rwL wD ?_
  refine rwL wD ?_
  split
  ·split
   ·exact aIc p (j:=j+1)
   ·rfl
  ·rfl
theorem aH5(p:Nat):∀{xs:List It} {j:Nat} {ks:List Int} {b:Bool},tO xs (p+j) ks b=(tO xs j ks b).map fun q=>(q.1,p+q.2)
 |[],_,_,_=>rfl
 |x::xs,j,ks,b=>by
  refine rwL zR ?_
  refine rwL zR ?_
  split
  ·split
   ·exact aH5 p (j:=j+1)
   ·rfl
  ·split
   ·rfl
   ·split
    ·split
     ·rfl
     ·split
      ·exact aH5 p (j:=j+1)
      ·rfl
    ·rfl
theorem aIU:aBp (P++S) (P.length+j)=aBp S j:=by unfold aBp;rw[pF]
theorem aGV{names:List Str}{s t:Str}{v:V}{r c:Int}:mH dF names (P++S) (P.length+j) s t v r c=(mH dF names S j s t v r c).map (mv P.length):=by
 refine aAj (Option.map (mv P.length)) ?_<|aAj (Option.map (mv P.length)) rfl ?_
 ·unfold aEA
  rw[aGD,aIc,aIU]
  induction xV (S.drop j) j [] false with
  |none=>
   show(aBp S j).map _=((aBp S j).map _).map _
   cases aBp S j <;> rfl
  |some q=>rfl
 ·induction wQ t with
  |none=>exact congrArg some (aAj (mv P.length) rfl rfl)
  |some code=>
   show(mU (lX code)).bind _=((mU (lX code)).bind _).map _
   induction mU (lX code) with
   |none=>rfl
   |some f=>exact aIt
end
section
variable{P S:List It}{j:Nat}{ls:List Lb}
theorem aKY{b:Nat}{s t:Str}{v:V}{r c:Int}:tH ls b (P++S) (P.length+j) s t v r c=lZ (fun q=>(P.length+q.1,q.2)) (tH ls b S j s t v r c):=by
 unfold tH
 refine rwL aKp ?_
 refine rwL pF ?_
 split
 ·rfl
 ·induction ls.getLast? with
  |none=>rfl
  |some lb=>
   dsimp only
   split
   ·rfl
   ·split
    ·refine rwL (Nat.add_assoc _ _ _) ?_
     rfl
    ·split
     ·rfl
     ·refine rwL (Nat.add_assoc _ _ _) ?_
      rfl
theorem aHZ{b:Nat}{s t:Str}{v:V}{r c:Int}:iL dF ls b (P++S) (P.length+j) s t v r c=(iL dF ls b S j s t v r c).map (lZ fun q=>(P.length+q.1,q.2)):=by
 unfold iL
 refine rwL (Nat.add_assoc P.length j 1) ?_
 refine rwL aKp ?_
 refine rwL aKY ?_
 refine rwL aGV ?_
 split
 ·refine rwL (Nat.add_assoc P.length _ _) ?_
  refine rwL aGD ?_
  refine rwL (aH5 _) ?_
  cases tO (S.drop (j+1+(if(dW S (j+1)).isSome=true then 1 else 0))) (j+1+(if(dW S (j+1)).isSome=true then 1 else 0)) [] false <;> rfl
 ·split
  ·rfl
  ·induction mH dF (ls.map (·.name)) S (j+1) s t v r c with
   |none=>rfl
   |some r=>cases r <;> rfl
inductive ShR(P S:List It)(f:Bool):Option (Except bF (List PT×List V×List Lb))→Option (Except bF (List PT×List V×List Lb))→Prop
 |none {o}:ShR P S f none o
 |err (e:bF):ShR P S f (some (.error e)) (some (.error e))
 |ok (us:List PT) (j':Nat) (b:Option Nat) (q:List V×List Lb):ShR P S f (some (.ok (us++[.run S j' f b],q))) (some (.ok (us++[.run (P++S) (P.length+j') f b],q)))
 |fin (q:List V×List Lb) {o}:ShR P S f (some (.ok ([],q))) o
theorem aJt{f:Bool}{b:Option Nat}:ShR P S f (mY dF ls (.run S j f b)) (mY dF ls (.run (P++S) (P.length+j) f b)):=by
 show ShR P S f (aEr dF ls S j (b.getD ls.length) f) (aEr dF ls (P++S) (P.length+j) (b.getD ls.length) f)
 generalize b.getD ls.length=b0
 unfold aEr
 by_cases h1:ls.length<b0
 ·refine rwL (if_pos h1) ?_
  exact .none
 ·refine rwL (if_neg h1) ?_
  refine rwL (if_neg h1) ?_
  have hl:(P.length+j=(P++S).length)↔j=S.length:=by exact rwL cL Nat.add_left_cancel_iff
  by_cases h2:j=S.length
  ·refine rwL (if_pos h2) ?_
   refine rwL (if_pos (hl.mpr h2)) ?_
   unfold aGx
   split
   ·exact .fin _
   ·induction ls.getLast? with
    |none=>exact .none
    |some lb=>exact .err _
  ·refine rwL (if_neg h2) ?_
   refine rwL (if_neg fun q=>h2 (hl.mp q)) ?_
   refine rwL pF ?_
   induction S[j]? with
   |none=>exact .none
   |some x=>
    show ShR P S f (vR dF ls S j b0 f x) (vR dF ls (P++S) (P.length+j) b0 f x)
    cases x with
    |br bl r c=>
     unfold vR
     dsimp only
     induction nV dF ls bl r c with
     |none=>exact .none
     |some r=>
      induction r with
      |error e=>exact .err e
      |ok q=>exact .ok q.1 (j+1) (some b0) q.2
    |tok s t v r c=>
     unfold vR
     dsimp only
     split
     ·exact .err _
     ·rw[aHZ]
      induction iL dF ls b0 S j s t v r c with
      |none=>exact .none
      |some r=>
       induction r with
       |error e=>exact .err e
       |ok q=>exact .ok [] q.1 (some b0) ([q.2.1],q.2.2)
theorem aI8:∀(k:Nat) {ts:List PT} {j:Nat} {f:Bool} {b:Option Nat} {B B':List V} {ls:List Lb} {e:bF},nT dF k (ts++[.run S j f b]) B ls=some (.error e)→nT dF k (ts++[.run (P++S) (P.length+j) f b]) B' ls=some (.error e):=by
 intro k
 induction k with
 |zero=>intro ts j f b B B' ls e h;exact cZ h
 |succ k ih=>
  intro ts j f b B B' ls e h
  induction ts with
  |nil=>
   rw[List.nil_append,aAa] at h ⊢
   have s:=aJt (P:=P) (S:=S) (j:=j) (ls:=ls) (f:=f) (b:=b)
   revert s h
   generalize mY dF ls (.run S j f b)=o1
   generalize mY dF ls (.run (P++S) (P.length+j) f b)=o2
   intro h s
   induction s with
   |none=>exact cZ h
   |err e=>exact h
   |ok us j' b' q=>
    have h:nT dF k ((us++[.run S j' f b'])++[]) (B++q.1) q.2=some (.error e):=h
    replace h:=(List.append_nil _)▸h
    show nT dF k ((us++[.run (P++S) (P.length+j') f b'])++[]) (B'++q.1) q.2=some (.error e)
    refine rwL (List.append_nil _) ?_
    exact ih h
   |fin q=>
    have h:nT dF k [] (B++q.1) q.2=some (.error e):=h
    cases k <;> cases h
  |cons t ts=>
   rw[List.cons_append,aAa] at h ⊢
   induction hs:mY dF ls t with
   |none=>
    replace h:=hs▸h
    exact cZ h
   |some r=>
    replace h:=hs▸h
    induction r with
    |error e=>exact h
    |ok q=>
     have h:nT dF k (q.1++(ts++[.run S j f b])) (B++q.2.1) q.2.2=some (.error e):=h
     show nT dF k (q.1++(ts++[.run (P++S) (P.length+j) f b])) (B'++q.2.1) q.2.2=some (.error e)
     rw[←eJ] at h ⊢
     exact ih h
end
noncomputable def aJA(r:List Tx×Str×Int):Prop:=∀n:Int,∃c,nT dF 12 [.run (bN (.s "nop"::r.1) n) 0 false (some 0)] [] []=some (.error (rB 1 c r.2.1))∧c=n+2+r.2.2
theorem dO{r:List Tx×Str×Int}{L:List (List Tx×Str×Int)}(h:aJA r)(hs:∀x∈L,aJA x):∀x∈r::L,aJA x:=List.forall_mem_cons.mpr ⟨h,hs⟩
theorem q0(n:Int):n+1+1=n+2+0:=(Int.add_assoc n 1 1).trans (Int.add_zero _).symm
theorem q1(n:Int):n+1+1+1=n+2+1:=congrArg (·+1) (Int.add_assoc n 1 1)
theorem q2(n:Int):n+1+1+1+1=n+2+2:=(Int.add_assoc (n+1+1) 1 1).trans (congrArg (·+2) (Int.add_assoc n 1 1))
theorem q3(n:Int):n+1+1+1+1+1=n+2+3:=((Int.add_assoc (n+1+1+1) 1 1).trans (Int.add_assoc (n+1+1) 1 2)).trans (congrArg (·+3) (Int.add_assoc n 1 1))
theorem q4(n:Int):n+1+1+1+2+1=n+2+4:=((Int.add_assoc (n+1+1+1) 2 1).trans (Int.add_assoc (n+1+1) 1 3)).trans (congrArg (·+4) (Int.add_assoc n 1 1))
theorem aLJ:∀r∈eH,aJA r:=by
 unfold eH
 refine dO (fun n=>⟨n+1+1,by kernel_rfl,q0 n⟩) ?_
 refine dO (fun n=>⟨n+1+1,by kernel_rfl,q0 n⟩) ?_
 refine dO (fun n=>⟨n+1+1,by kernel_rfl,q0 n⟩) ?_
 refine dO (fun n=>⟨n+1+1,by kernel_rfl,q0 n⟩) ?_
 refine dO (fun n=>⟨n+1+1+1+1+1,by kernel_rfl,q3 n⟩) ?_
 refine dO (fun n=>⟨n+1+1+1+1,by kernel_rfl,q2 n⟩) ?_
 refine dO (fun n=>⟨n+1+1+1+1,by kernel_rfl,q2 n⟩) ?_
 refine dO (fun n=>⟨n+1+1+1,by kernel_rfl,q1 n⟩) ?_
 refine dO (fun n=>⟨n+1+1,by kernel_rfl,q0 n⟩) ?_
 refine dO (fun n=>⟨n+1+1+1,by kernel_rfl,q1 n⟩) ?_
 refine dO (fun n=>⟨n+1+1+1,by kernel_rfl,q1 n⟩) ?_
 refine dO (fun n=>⟨n+1+1,by kernel_rfl,q0 n⟩) ?_
 refine dO (fun n=>⟨n+1+1+1,by kernel_rfl,q1 n⟩) ?_
 refine dO (fun n=>⟨n+1+1+1,by kernel_rfl,q1 n⟩) ?_
 refine dO (fun n=>⟨n+1+1+1+1,by kernel_rfl,q2 n⟩) ?_
 refine dO (fun n=>⟨n+1+1+1,by kernel_rfl,q1 n⟩) ?_
 refine dO (fun n=>⟨n+1+1+1,by kernel_rfl,q1 n⟩) ?_
 refine dO (fun n=>⟨n+1+1+1,by kernel_rfl,q1 n⟩) ?_
 refine dO (fun n=>⟨n+1+1+1,by kernel_rfl,q1 n⟩) ?_
 refine dO (fun n=>⟨n+1+1+1,by kernel_rfl,q1 n⟩) ?_
 refine dO (fun n=>⟨n+1+1+1,by kernel_rfl,q1 n⟩) ?_
 refine dO (fun n=>⟨n+1+1,by kernel_rfl,q0 n⟩) ?_
 refine dO (fun n=>⟨n+1+1+1+1,by kernel_rfl,q2 n⟩) ?_
 refine dO (fun n=>⟨n+1+1+1,by kernel_rfl,q1 n⟩) ?_
 refine dO (fun n=>⟨n+1+1,by kernel_rfl,q0 n⟩) ?_
 refine dO (fun n=>⟨n+1+1+1+2+1,by kernel_rfl,q4 n⟩) ?_
 refine dO (fun n=>⟨n+1+1+1+1,by kernel_rfl,q2 n⟩) ?_
 refine dO (fun n=>⟨n+1+1,by kernel_rfl,q0 n⟩) ?_
 refine dO (fun n=>⟨n+1+1+1+1+1,by kernel_rfl,q3 n⟩) ?_
 refine dO (fun n=>⟨n+1+1+1+1+1,by kernel_rfl,q3 n⟩) ?_
 exact gR
mutual
noncomputable def aHD:Nat→Tx→Bool
 |_,.s t=>aJK t
 |0,.l _=>false
 |d+1,.l ts=>decide (ts.length≤1000)&&aCc d ts
noncomputable def aCc:Nat→List Tx→Bool
 |_,[]=>true
 |d,x::xs=>aHD d x&&aCc d xs
end
mutual
theorem aIJ:∀{d:Nat} (x:Tx),aHD d x=true→kW d x
 |d,.s t,h=>aDJ (by rw[aHD] at h;exact h)
 |0,.l ts,h=>by rw[aHD] at h;exact iX h
 |d+1,.l ts,h=>by
  rw[aHD,Bool.and_eq_true] at h
  exact .l (of_decide_eq_true h.1) (vM ts h.2)
theorem vM:∀{d:Nat} (xs:List Tx),aCc d xs=true→∀x∈xs,kW d x
 |d,[],_=>gR
 |d,y::ys,h=>fun x hx=>by
  rw[aCc,Bool.and_eq_true] at h
  rcases eM hx with q|q
  ·refine rwL q ?_
   exact aIJ y h.1
  ·exact vM ys h.2 x q
end
theorem aG7:∀r∈eH,∀x∈(.s "nop"::r.1),kW 12 x:=by
 have:(eH.all fun r=>aCc 12 (.s "nop"::r.1))=true:=by decide+kernel
 exact fun r hr=>vM _ (eT this r hr)
theorem aNf:wdB "nop"=true:=by decide+kernel
theorem aGY(nds:List Nd)(h:∀nd∈nds,gE 5 [] nd)(hz:eU nds≤16):aGw nds:=by
 have tx:∀b,∀x∈bP b nds,kW 12 x:=fun b x hx=>by
  obtain⟨k,h1,h2⟩:=aCE hx
  exact(aNW (h k h1) gR (aD rfl) (aM (aCG h1) hz) b x h2).up (aD rfl)
 have len:∀b,(bP b nds).length≤192:=fun b=>aM (nB fun k hk=>⟨_,h k hk⟩) (hZ 12 hz)
 refine⟨fun b x hx=>(tx b x hx).ok,fun b=>⟨aHe (tx b) (aM (len b) (aD rfl)) 0,aI6 h hz b⟩,fun r hr=>?_⟩
 have wl:=(aBY r hr).1
 refine⟨?_,?_⟩
 ·have e:=fQ (bP false nds) (.s "nop"::r.1) 0
  rw[Int.zero_add] at e
  rw[e]
  refine aHe (d:=12) (iE (tx false) (aG7 r hr)) ?_ 0
  have:=len false
  rw[cL,eX];exact aM (cT this (fM wl)) (aD rfl)
 ·obtain⟨c,h1,rfl⟩:=aLJ r hr (cH (bP false nds))
  have s:=(nC (ls:=[]) (b:=false) (f:=false) nofun nds fun nd hn=>aG2 (h nd hn) rfl gR (aD rfl)).1
  have g:=s (bN (bP false nds) 0++bN (.s "nop"::r.1) (cH (bP false nds))) 0 0 _ 0 [] [] rfl (aD0 aNf _) (bO _) (bO _)
  obtain⟨m,m1,m2⟩:=Go.none (ls:=[]) g
  refine⟨m+12,aM (eP (aM m1 (hZ 8 hz)) 12) (aD rfl),?_⟩
  rw[m2 12]
  have e:=aI8 (P:=bN (bP false nds) 0) (B':=[]++(kU nds).map gJ) 12 (ts:=[]) h1
  rw[dM,Nat.add_comm _ 0] at e
  exact e
theorem aE6(P:Params):(aID.all fun x=>aDK (KK P) x.1 x.2)=true:=by kernel_rfl
set_option tactic.hygienic true in
theorem lookup_mem{α β:Type}[BEq α][LawfulBEq α]{k:α}{v:β}:∀{l:List (α×β)},l.lookup k=some v→(k,v)∈l
 |[],h=>by exact cZ h
 |(a,b)::l,h=>by
  rw[List.lookup_cons] at h
  split at h
  ·rename_i e
   obtain rfl:=bE h
   refine rwL (cJ e) ?_
   exact eS ..
  ·exact fW _ (lookup_mem h)
theorem aCA{P:Params}{σ:aA}{h:Heap}{ns:List Int}:∀{vs:List Value},WellAll P h vs (ns.map fun n=>WData.int n)→bC P σ h (ns.map V.int) vs:=by
 induction ns with
 |nil=>intro vs w;cases w;rfl
 |cons n ns ih=>
  intro vs w
  cases w with
  |cons w1 w2=>cases w1;exact⟨_,_,rfl,⟨_,rfl⟩,ih w2⟩
theorem yZ:∀ns:List Int,ofPys (ns.map PyData.int)=ns.map fun n=>WData.int n
 |[]=>rfl
 |n::ns=>by rw[List.map_cons,ofPys,yZ ns];rfl
theorem aLk(g:Gd):zQ g:=aFi (fun C xs Q hz hq=>aML C (σ:=sH) hz (fun b v e=>by exact cZ e) aGY hq) g
theorem run_top{prog:Program}{w:World}{s:Shared}{p:Program}{loose:List Str}{mg mb:Str→Option Value}(T:TopRead p loose mg mb s.heap)(KX:(KK w.params).In s.heap){fa a:Addr}(hmg:mg "law"=some (.ref fa)){ns:List Int}(hns:ns.length≤1000)
  (w0:Well w.params s.heap (.ref a) (ofPy (PyData.list (ns.map PyData.int)))) {R:Result→Shared→Prop} (hR:∀s',(∀b o,s.heap.get? b=some o→s'.heap.get? b=some o)→s'.os=s.os→s'.gens=s.gens→R (.ok (.ret (.bool true))) s'):
  codeAny (model prog w) callerA (.call (.ref fa) ⟨[.ref a],[]⟩) R s:=by
 have w1:Well w.params s.heap (.ref a) (.list (ns.map fun n=>WData.int n)):=by rw[ofPy,yZ] at w0;exact w0
 let G:Gd:=⟨prog,w,s.heap,p,loose,mg,mb,aID⟩
 have ok:G.Ok:=⟨T,fun C own h=>⟨KK w.params,KX,eT (aE6 w.params) (C,own) (lookup_mem h)⟩⟩
 have C:Cx G:=⟨ok,KX,rfl⟩
 have hfa:fa=657:=by
  have:=mg_of KX T.g (n:="law") (e:=(by kernel_rfl:nsIn (KK w.params) mainGlobals "law"=some (some (.ref 657))))
  replace this:=hmg▸this
  cases this
  rfl
 subst hfa
 have hr:bC G.P sH s.heap [.lst (ns.map V.int)] [.ref a]:=by
  cases w1 with
  |list h1 h2=>exact .cons ⟨a,_,_,rfl,rfl,h1,by simpa using aCA h2⟩ .nil
 refine aLk G C ns (fun v Z=>v=.bool true) hns (fun Z=>rfl) callerA s [.ref a] R ok rfl rfl (by exact aD rfl) (by exact aD rfl) (fun b o e=>e) (fun Z Z Z=>rfl) (fun b m e=>by exact cZ e) hr ?_
 rintro v s' ⟨r,σ',rfl,h2,h3,h4⟩
 subst h2
 obtain⟨⟨h',tk,rfl⟩,k,d,l⟩:=h3
 exact hR _ (fun b o e=>(k b o e).1 rfl) rfl rfl
end Mine
end
namespace Mine.top
abbrev aJ:=True
theorem aK:aJ:=⟨⟩
theorem tw17542608870123051758:aJ:=aK
theorem tw3976154599441133093:aJ:=aK
theorem tw14466935161476858967:aJ:=aK
theorem tw9326722878772556681:aJ:=aK
theorem tw16878204669230926818:aJ:=aK
theorem tw11760055953109336660:aJ:=aK
theorem tw3212257547815787779:aJ:=aK
theorem tw4213018616267185653:aJ:=aK
theorem tw4547018644641229820:aJ:=aK
theorem tw1971433849790844608:aJ:=aK
theorem tw13305523845174962083:aJ:=aK
theorem tw12519573946865146793:aJ:=aK
theorem tw17788931634197215145:aJ:=aK
theorem tw16885616592811714743:aJ:=aK
theorem tw4047667213573674445:aJ:=aK
theorem tw2464713573024523455:aJ:=aK
theorem tw13994475860397038760:aJ:=aK
theorem tw9227057690007400460:aJ:=aK
theorem tw352232786441526191:aJ:=aK
theorem tw4046864289407762814:aJ:=aK
theorem tw7059692629156357883:aJ:=aK
theorem tw14632489290957082403:aJ:=aK
theorem tw14823308797102314842:aJ:=aK
theorem tw5667650583090716360:aJ:=aK
theorem tw7008692893051332821:aJ:=aK
theorem tw1040915598704419856:aJ:=aK
theorem tw18177719399980262173:aJ:=aK
theorem tw18034075008235765660:aJ:=aK
theorem tw283044589724301:aJ:=aK
theorem tw9366391650621772374:aJ:=aK
theorem tw427269002284569659:aJ:=aK
theorem tw4796303294375832693:aJ:=aK
theorem tw2506305409684761478:aJ:=aK
theorem tw12638030207367898728:aJ:=aK
theorem tw6127594578889010139:aJ:=aK
theorem tw11159431927160009238:aJ:=aK
theorem tw13802547742096326172:aJ:=aK
theorem tw11133666699803404755:aJ:=aK
theorem tw11334350811105764591:aJ:=aK
theorem tw2665807947273092163:aJ:=aK
theorem tw5244899138074338376:aJ:=aK
theorem tw880935087679569431:aJ:=aK
theorem tw1869187583165140508:aJ:=aK
theorem tw3730354652608582461:aJ:=aK
theorem tw908825868028484722:aJ:=aK
theorem tw15786856763048480637:aJ:=aK
theorem tw15484318188022702764:aJ:=aK
theorem tw104434173382791472:aJ:=aK
theorem tw1814787853859245837:aJ:=aK
theorem tw7527032243904285869:aJ:=aK
theorem tw17576949682797635024:aJ:=aK
theorem tw13985988839938425345:aJ:=aK
theorem tw1754339480302792767:aJ:=aK
theorem tw16719718919923625709:aJ:=aK
theorem tw5507162329139097715:aJ:=aK
theorem tw453181688931711583:aJ:=aK
theorem tw16123964013534891561:aJ:=aK
theorem tw13261893007816960818:aJ:=aK
theorem tw17594962761535629368:aJ:=aK
theorem tw4383139521930768336:aJ:=aK
theorem tw13044034144603486326:aJ:=aK
theorem tw13500427573557490136:aJ:=aK
theorem tw13369591340354186047:aJ:=aK
theorem tw3019106374644219109:aJ:=aK
theorem tw16439428074185983240:aJ:=aK
theorem tw16415559393655328363:aJ:=aK
theorem tw8321918168302905379:aJ:=aK
theorem tw17176029603704830031:aJ:=aK
theorem tw11858546649754279707:aJ:=aK
theorem tw47109162367338493:aJ:=aK
theorem tw14371913498598963198:aJ:=aK
theorem tw6292954644110606532:aJ:=aK
theorem tw9233335307524088747:aJ:=aK
theorem tw16058212318047004132:aJ:=aK
theorem tw1195175773429642966:aJ:=aK
theorem tw9990226795618131978:aJ:=aK
theorem tw5225153198818245361:aJ:=aK
theorem tw1124271682379634556:aJ:=aK
theorem tw2968346561183084112:aJ:=aK
theorem tw4597200072644226624:aJ:=aK
theorem tw8735323631387419056:aJ:=aK
theorem tw7204998973626084599:aJ:=aK
theorem tw8645369167282567922:aJ:=aK
theorem tw3874152929960365753:aJ:=aK
theorem tw1284575025550258836:aJ:=aK
theorem tw953821971998124167:aJ:=aK
theorem tw6694047246710070196:aJ:=aK
theorem tw8817415213059835157:aJ:=aK
theorem tw7313339093194340965:aJ:=aK
theorem tw8729362747519067210:aJ:=aK
theorem tw7681529838311687354:aJ:=aK
theorem tw5609151216138764652:aJ:=aK
theorem tw17964300760807480141:aJ:=aK
theorem tw15229573370884232203:aJ:=aK
theorem tw13272337422414781067:aJ:=aK
theorem tw8212240652046128837:aJ:=aK
theorem tw84136930442132756:aJ:=aK
theorem tw6659320528611288953:aJ:=aK
theorem tw2580922434103091657:aJ:=aK
theorem tw17346259052997144950:aJ:=aK
theorem tw11762496359356365647:aJ:=aK
theorem tw602653604445443664:aJ:=aK
theorem tw1068965626710143233:aJ:=aK
theorem tw17981982808018919739:aJ:=aK
theorem tw7845129631348957993:aJ:=aK
theorem tw7250933059871147345:aJ:=aK
theorem tw10362775142378211054:aJ:=aK
theorem tw2985252069258134486:aJ:=aK
theorem tw11584198869435930015:aJ:=aK
theorem tw13370750898655102155:aJ:=aK
theorem tw8435561252592420358:aJ:=aK
theorem tw8139039716903228087:aJ:=aK
theorem tw12425085872883035938:aJ:=aK
theorem tw14317375437502057738:aJ:=aK
theorem tw5088376156974544275:aJ:=aK
theorem tw1149218181149386328:aJ:=aK
theorem tw18064794426631996164:aJ:=aK
theorem tw5915399644114372684:aJ:=aK
theorem tw9851269098105209369:aJ:=aK
theorem tw7325726471975496349:aJ:=aK
theorem tw3820434133910038737:aJ:=aK
theorem tw7847650389618582240:aJ:=aK
theorem tw14453841093610474573:aJ:=aK
theorem tw4392038535549328194:aJ:=aK
theorem tw14901070454687303710:aJ:=aK
theorem tw2377541652452675900:aJ:=aK
theorem tw3331421620988305804:aJ:=aK
theorem tw10006222313960134694:aJ:=aK
theorem tw4835499133494076262:aJ:=aK
theorem tw10783980745131425670:aJ:=aK
theorem tw7160873610591055699:aJ:=aK
theorem tw3479634599624807885:aJ:=aK
theorem tw8999917154711486175:aJ:=aK
theorem tw956089473029861405:aJ:=aK
theorem tw16068562728529669930:aJ:=aK
theorem tw10936122117785486979:aJ:=aK
theorem tw14826035006057030972:aJ:=aK
theorem tw5839659824258004927:aJ:=aK
theorem tw1697544655201012999:aJ:=aK
theorem tw1843344800811705456:aJ:=aK
theorem tw4058662728301269685:aJ:=aK
theorem tw9961057766049560675:aJ:=aK
theorem tw9854310039474760501:aJ:=aK
theorem tw16759092144687519636:aJ:=aK
theorem tw13710211086531791108:aJ:=aK
theorem tw15092371282622821202:aJ:=aK
theorem tw1676862907878916244:aJ:=aK
theorem tw14263998999751124003:aJ:=aK
theorem tw15286249088069653756:aJ:=aK
theorem tw661290744650703789:aJ:=aK
theorem tw12483720753089274532:aJ:=aK
theorem tw12887107875299966611:aJ:=aK
theorem tw4551080515912023512:aJ:=aK
theorem tw4695670854781333657:aJ:=aK
theorem tw6431110157172167083:aJ:=aK
theorem tw2126296398998916975:aJ:=aK
theorem tw4736427724481360342:aJ:=aK
theorem tw17342085116792181814:aJ:=aK
theorem tw6919701780365589675:aJ:=aK
theorem tw3739144386018749749:aJ:=aK
theorem tw15976228082101565994:aJ:=aK
theorem tw860223938195835975:aJ:=aK
theorem tw11582926029173025856:aJ:=aK
theorem tw8491752309750770931:aJ:=aK
theorem tw12819366960792805191:aJ:=aK
theorem tw18063644159110109576:aJ:=aK
theorem tw13385244156195431271:aJ:=aK
theorem tw14724332232928298890:aJ:=aK
theorem tw216529984938456764:aJ:=aK
theorem tw13187519465064655849:aJ:=aK
theorem tw10414433010598505635:aJ:=aK
theorem tw17810072253543177317:aJ:=aK
theorem tw6906291655842520137:aJ:=aK
theorem tw4555866861457887817:aJ:=aK
theorem tw17620759639134147866:aJ:=aK
theorem tw13928562000808390012:aJ:=aK
theorem tw7717162694582976202:aJ:=aK
theorem tw13090165191389475591:aJ:=aK
theorem tw15349318334595610263:aJ:=aK
theorem tw10562855833978642645:aJ:=aK
theorem tw8622502720953521162:aJ:=aK
theorem tw1486479319815781832:aJ:=aK
theorem tw12287887523310495049:aJ:=aK
theorem tw8369368087495890639:aJ:=aK
theorem tw18121752080927795069:aJ:=aK
theorem tw1584292188352093569:aJ:=aK
theorem tw11072019736110318841:aJ:=aK
theorem tw4526881389914513428:aJ:=aK
theorem tw501154541418245514:aJ:=aK
theorem tw11240886729373846589:aJ:=aK
theorem tw13420762306968818387:aJ:=aK
theorem tw8148004212497801138:aJ:=aK
theorem tw4713442408853163898:aJ:=aK
theorem tw11116745826364501430:aJ:=aK
theorem tw3788076851680717271:aJ:=aK
theorem tw13307591127769906961:aJ:=aK
theorem tw14142502885225118848:aJ:=aK
theorem tw9673933992889287130:aJ:=aK
theorem tw8265191368974092141:aJ:=aK
theorem tw13134186033006778460:aJ:=aK
theorem tw2822501910515967889:aJ:=aK
theorem tw16414630628198896168:aJ:=aK
theorem tw1585457916280141200:aJ:=aK
theorem tw2731995056826638727:aJ:=aK
theorem tw3207569582813703071:aJ:=aK
theorem tw7830913209206220567:aJ:=aK
theorem tw15058813355848621054:aJ:=aK
theorem tw708234853630380328:aJ:=aK
theorem tw7671549972530922468:aJ:=aK
theorem tw9913501989792142831:aJ:=aK
theorem tw18326957874037197240:aJ:=aK
theorem tw9063741608606530840:aJ:=aK
theorem tw6908635100366463001:aJ:=aK
theorem tw13968125046926948103:aJ:=aK
theorem tw6438537300738474071:aJ:=aK
theorem tw14168018189251442112:aJ:=aK
theorem tw2417791160451022400:aJ:=aK
theorem tw15503665604740900718:aJ:=aK
theorem tw3767615275625035234:aJ:=aK
theorem tw8311017846404947139:aJ:=aK
theorem tw1297684725254868899:aJ:=aK
theorem tw6662652255960138227:aJ:=aK
theorem tw5581607755468803823:aJ:=aK
theorem tw6664487174759623829:aJ:=aK
theorem tw7847352863974893604:aJ:=aK
theorem tw4671429814451907529:aJ:=aK
theorem tw16453443671601555132:aJ:=aK
theorem tw13799840507378627052:aJ:=aK
theorem tw11982747722937265360:aJ:=aK
theorem tw2835187731363253809:aJ:=aK
theorem tw14789260269991461300:aJ:=aK
theorem tw1212798325632107971:aJ:=aK
theorem tw11613256710310857696:aJ:=aK
theorem tw6624316729101989866:aJ:=aK
theorem tw11459358961799972967:aJ:=aK
theorem tw8637452081102412489:aJ:=aK
theorem tw15508944514630427714:aJ:=aK
theorem tw9382581127745807760:aJ:=aK
theorem tw17022078359063049780:aJ:=aK
theorem tw8184561461823581802:aJ:=aK
theorem tw9149571693438533347:aJ:=aK
theorem tw11423202765487971197:aJ:=aK
theorem tw2462062305354472974:aJ:=aK
theorem tw15874363893724204672:aJ:=aK
theorem tw1988063486488863061:aJ:=aK
theorem tw5398424786039705171:aJ:=aK
theorem tw7587601194962177611:aJ:=aK
theorem tw11960245374511038805:aJ:=aK
theorem tw14349089067433371257:aJ:=aK
theorem tw13890846271309207196:aJ:=aK
theorem tw9059672392935016618:aJ:=aK
theorem tw4655869559712951663:aJ:=aK
theorem tw6203543418390704334:aJ:=aK
theorem tw7429413206186439793:aJ:=aK
theorem tw16155163154822807229:aJ:=aK
theorem tw6930518751129746686:aJ:=aK
theorem tw14983691940233647259:aJ:=aK
theorem tw9601329371697537090:aJ:=aK
theorem tw16782997733028217545:aJ:=aK
theorem tw10399464001100048223:aJ:=aK
theorem tw8800459187187324500:aJ:=aK
theorem tw10579768621468169598:aJ:=aK
theorem tw7990429038631628895:aJ:=aK
theorem tw72247145696351765:aJ:=aK
theorem tw1321871150748368714:aJ:=aK
theorem tw6786057226368545225:aJ:=aK
theorem tw5118827330378232414:aJ:=aK
theorem tw17103177528636943170:aJ:=aK
theorem tw2267912224990424062:aJ:=aK
theorem tw15877122091014420850:aJ:=aK
theorem tw12599067730712567776:aJ:=aK
theorem tw2967798162736962236:aJ:=aK
theorem tw12783364522390391256:aJ:=aK
theorem tw14235281626263879747:aJ:=aK
theorem tw6373618934457957371:aJ:=aK
theorem tw9648294306425612132:aJ:=aK
theorem tw12427389293880184781:aJ:=aK
theorem tw6520327441239513222:aJ:=aK
theorem tw17828378304095215089:aJ:=aK
theorem tw14450715343900746980:aJ:=aK
theorem tw17565814175750979855:aJ:=aK
theorem tw12357524464438376042:aJ:=aK
theorem tw18237780215024852062:aJ:=aK
theorem tw14671331368771545958:aJ:=aK
theorem tw16900427199656544559:aJ:=aK
theorem tw8694864300669457046:aJ:=aK
theorem tw17795014544551873601:aJ:=aK
theorem tw3664424711883983056:aJ:=aK
theorem tw2057334267981633021:aJ:=aK
theorem tw9016798869158615873:aJ:=aK
theorem tw146815374380898660:aJ:=aK
theorem tw1886144042066472794:aJ:=aK
theorem tw2847958352784047137:aJ:=aK
theorem tw620129878449983639:aJ:=aK
theorem tw15687709949711836451:aJ:=aK
theorem tw9614876229902214918:aJ:=aK
theorem tw6381231289166406305:aJ:=aK
theorem tw7657828476027519975:aJ:=aK
theorem tw381845443943030031:aJ:=aK
theorem tw2619622883677149074:aJ:=aK
theorem tw6286779285267259847:aJ:=aK
theorem tw5766051744304087583:aJ:=aK
theorem tw3254097082911018636:aJ:=aK
theorem tw10404823597219466188:aJ:=aK
theorem tw18008055252877512497:aJ:=aK
theorem tw7743179893348639699:aJ:=aK
theorem tw1108800333578037850:aJ:=aK
theorem tw9227541089923242437:aJ:=aK
theorem tw53344730913325255:aJ:=aK
theorem tw15451780782824253742:aJ:=aK
theorem tw4859757453598101857:aJ:=aK
theorem tw12392516345856041104:aJ:=aK
theorem tw13852830345959847167:aJ:=aK
theorem tw5105846836358774362:aJ:=aK
theorem tw6893477703608230032:aJ:=aK
theorem tw2730760306732684819:aJ:=aK
theorem tw9800703332001039478:aJ:=aK
theorem tw14608685727046917156:aJ:=aK
theorem tw15985961358823992270:aJ:=aK
theorem tw705360758644809490:aJ:=aK
theorem tw5597187220613765494:aJ:=aK
theorem tw3871027444623705763:aJ:=aK
theorem tw10090393231696489298:aJ:=aK
theorem tw4791253341166991637:aJ:=aK
theorem tw6451443466077778170:aJ:=aK
theorem tw13223034962123697568:aJ:=aK
theorem tw12764151676501842404:aJ:=aK
theorem tw17046948494117081484:aJ:=aK
theorem tw17953984050398360512:aJ:=aK
theorem tw2732273902793177162:aJ:=aK
theorem tw4468942710605802240:aJ:=aK
theorem tw4076138812419527698:aJ:=aK
theorem tw3669314199184481253:aJ:=aK
theorem tw5728218623943512802:aJ:=aK
theorem tw12209182163369298222:aJ:=aK
theorem tw1803303928475200142:aJ:=aK
theorem tw10773188271377071773:aJ:=aK
theorem tw4186445540838780016:aJ:=aK
theorem tw2727672472851901052:aJ:=aK
theorem tw13001836021917841797:aJ:=aK
theorem tw18164388396756303480:aJ:=aK
theorem tw2249405535684624136:aJ:=aK
theorem tw2812155379371279736:aJ:=aK
theorem tw10001883323181062329:aJ:=aK
theorem tw3995942328266245912:aJ:=aK
theorem tw6749217079512962374:aJ:=aK
theorem tw7717422617530326040:aJ:=aK
theorem tw1717825165581474212:aJ:=aK
theorem tw1123975283337734383:aJ:=aK
theorem tw6505410396798821541:aJ:=aK
theorem tw3796891538752321733:aJ:=aK
theorem tw13501252493785611398:aJ:=aK
theorem tw6885214360128481674:aJ:=aK
theorem tw1732150942055357024:aJ:=aK
theorem tw15212760480394562756:aJ:=aK
theorem tw2809488002615124206:aJ:=aK
theorem tw16174758807025615021:aJ:=aK
theorem tw6912233166142098652:aJ:=aK
theorem tw10195997230039290492:aJ:=aK
theorem tw11199532085631943738:aJ:=aK
theorem tw8265311939077410998:aJ:=aK
theorem tw6187478851450931391:aJ:=aK
theorem tw15878805988109762761:aJ:=aK
theorem tw5552270689369575618:aJ:=aK
theorem tw4916261283513009128:aJ:=aK
theorem tw9335426496214029073:aJ:=aK
theorem tw2972514686349903234:aJ:=aK
theorem tw18086089286151905521:aJ:=aK
theorem tw6240723676877644813:aJ:=aK
theorem tw350670483859837877:aJ:=aK
theorem tw18394268562011335289:aJ:=aK
theorem tw8410488445778877200:aJ:=aK
theorem tw1394568958698188020:aJ:=aK
theorem tw2926424126403749041:aJ:=aK
theorem tw2722852734226103192:aJ:=aK
theorem tw5155950481276406077:aJ:=aK
theorem tw7292864349241787824:aJ:=aK
theorem tw9259421805112917234:aJ:=aK
theorem tw16795567611416646642:aJ:=aK
theorem tw1147548669246485465:aJ:=aK
theorem tw2218668502564051296:aJ:=aK
theorem tw16541100652227675460:aJ:=aK
theorem tw11457754044182789617:aJ:=aK
theorem tw15254643099363442306:aJ:=aK
theorem tw11279390925490393535:aJ:=aK
theorem tw15740088241188596515:aJ:=aK
theorem tw17886615442053742456:aJ:=aK
theorem tw15722756333993289495:aJ:=aK
theorem tw6430265229019958763:aJ:=aK
theorem tw5278709424875269971:aJ:=aK
theorem tw17103585973383926153:aJ:=aK
theorem tw3561193834555079511:aJ:=aK
theorem tw17355269125676882429:aJ:=aK
theorem tw11546936639936008217:aJ:=aK
theorem tw18289109515434150305:aJ:=aK
theorem tw4940147422707163885:aJ:=aK
theorem tw8560541052185303311:aJ:=aK
theorem tw10915162052029792233:aJ:=aK
theorem tw14796646475526232899:aJ:=aK
theorem tw5245862010334584759:aJ:=aK
theorem tw8327351992414209593:aJ:=aK
theorem tw6491118196486620199:aJ:=aK
theorem tw105208000716104510:aJ:=aK
theorem tw5692499903750754813:aJ:=aK
theorem tw3140898538269762758:aJ:=aK
theorem tw1492452104121835379:aJ:=aK
theorem tw9378254376102152143:aJ:=aK
theorem tw9320219208065434974:aJ:=aK
theorem tw6265701101103706036:aJ:=aK
theorem tw10548783162686979305:aJ:=aK
theorem tw6859976401760118174:aJ:=aK
theorem tw4773702212245658779:aJ:=aK
theorem tw10341860258655708415:aJ:=aK
theorem tw8968299171318014206:aJ:=aK
theorem tw11466170419677230873:aJ:=aK
theorem tw17470836177267949868:aJ:=aK
theorem tw10956490626425055710:aJ:=aK
theorem tw1112988674713690477:aJ:=aK
theorem tw1139600151236580504:aJ:=aK
theorem tw15095372191486117680:aJ:=aK
theorem tw8025738503920905074:aJ:=aK
theorem tw13983857475226248213:aJ:=aK
theorem tw13303987763403120937:aJ:=aK
theorem tw13889484949932952446:aJ:=aK
theorem tw7485681525954075278:aJ:=aK
theorem tw12197428465977751366:aJ:=aK
theorem tw12622177474791663080:aJ:=aK
theorem tw4909286810050342244:aJ:=aK
theorem tw3831216023754155268:aJ:=aK
theorem tw18371284783138465269:aJ:=aK
theorem tw17085176360113175178:aJ:=aK
theorem tw8892184565913893157:aJ:=aK
theorem tw4656485037274611717:aJ:=aK
theorem tw17545328352263074274:aJ:=aK
theorem tw6042063481754889096:aJ:=aK
theorem tw16196420915677631385:aJ:=aK
theorem tw5983031951866500094:aJ:=aK
theorem tw10574840078274726829:aJ:=aK
theorem tw16273406610938067001:aJ:=aK
theorem tw9759319705405543751:aJ:=aK
theorem tw2446451932059125521:aJ:=aK
theorem tw17582957951858275007:aJ:=aK
theorem tw1868085287545692973:aJ:=aK
theorem tw2770239361232196585:aJ:=aK
theorem tw8281120267493503204:aJ:=aK
theorem tw3337584539547039419:aJ:=aK
theorem tw13370185576492129568:aJ:=aK
theorem tw12643491718579748851:aJ:=aK
theorem tw11053662475850362967:aJ:=aK
theorem tw1016984595167383106:aJ:=aK
theorem tw6572447435987645144:aJ:=aK
theorem tw1047907039808853306:aJ:=aK
theorem tw9685713192446186341:aJ:=aK
theorem tw5702910450625016506:aJ:=aK
theorem tw2544169868661182894:aJ:=aK
theorem tw6898770573198911631:aJ:=aK
theorem tw4299629679881509495:aJ:=aK
theorem tw15860264024139754761:aJ:=aK
theorem tw17089494485692210459:aJ:=aK
theorem tw12166907935582030026:aJ:=aK
theorem tw16054190913257422852:aJ:=aK
theorem tw13864677062968915208:aJ:=aK
theorem tw2365566498512967660:aJ:=aK
theorem tw14502225709538309166:aJ:=aK
theorem tw3484022092364678248:aJ:=aK
theorem tw12317137736924338119:aJ:=aK
theorem tw10567129059001840431:aJ:=aK
theorem tw4807692442873511580:aJ:=aK
theorem tw11045010717311733409:aJ:=aK
theorem tw1245559373397905713:aJ:=aK
theorem tw12376051458212225564:aJ:=aK
theorem tw16420938139371093754:aJ:=aK
theorem tw10996937224433265937:aJ:=aK
theorem tw4840481374290595910:aJ:=aK
theorem tw6674990990233134667:aJ:=aK
theorem tw6973401727384321114:aJ:=aK
theorem tw6864213589057432999:aJ:=aK
theorem tw2770563814800254177:aJ:=aK
theorem tw2228507204995602602:aJ:=aK
theorem tw6883741973766446791:aJ:=aK
theorem tw14851680436948445374:aJ:=aK
theorem tw10194810499950245846:aJ:=aK
theorem tw13167462122316868159:aJ:=aK
theorem tw18186074749648716422:aJ:=aK
theorem tw14747140909534839006:aJ:=aK
theorem tw1655259298481077034:aJ:=aK
theorem tw8657480035899644758:aJ:=aK
theorem tw828460304391194870:aJ:=aK
theorem tw6124053682588569230:aJ:=aK
theorem tw5648408011753718230:aJ:=aK
theorem tw8693662901424576113:aJ:=aK
theorem tw788273225186049534:aJ:=aK
theorem tw5240762971458559404:aJ:=aK
theorem tw12318557346453588183:aJ:=aK
theorem tw3486219094355674750:aJ:=aK
theorem tw6503730183909636620:aJ:=aK
theorem tw16325430554902658873:aJ:=aK
theorem tw11199710921928265848:aJ:=aK
theorem tw2443449257678562572:aJ:=aK
theorem tw4134505453457115739:aJ:=aK
theorem tw4331257952254489624:aJ:=aK
theorem tw15361541807878343388:aJ:=aK
theorem tw13975414291046593716:aJ:=aK
theorem tw11443710868159068359:aJ:=aK
theorem tw7715697345341360870:aJ:=aK
theorem tw9739860059890490050:aJ:=aK
theorem tw8043003576528973991:aJ:=aK
theorem tw6290528152511584693:aJ:=aK
theorem tw2867133514656366558:aJ:=aK
theorem tw6176384092110617959:aJ:=aK
theorem tw5938664839603501006:aJ:=aK
theorem tw3969286963782609292:aJ:=aK
theorem tw7297446738713254254:aJ:=aK
theorem tw1833847959688406909:aJ:=aK
theorem tw9165953624949470791:aJ:=aK
theorem tw16104615914030681952:aJ:=aK
theorem tw15299407806266782574:aJ:=aK
theorem tw9178861053002065721:aJ:=aK
theorem tw17492772389151264855:aJ:=aK
theorem tw14597223018079223185:aJ:=aK
theorem tw16734371015571099844:aJ:=aK
theorem tw9233715247699887402:aJ:=aK
theorem tw2220570432770164149:aJ:=aK
theorem tw6746510453823603384:aJ:=aK
theorem tw9631074621892390191:aJ:=aK
theorem tw1088946173253831356:aJ:=aK
theorem tw17428532607074087071:aJ:=aK
theorem tw342308947776675178:aJ:=aK
theorem tw2907113945770861938:aJ:=aK
theorem tw2596539476470345881:aJ:=aK
theorem tw995497684801637723:aJ:=aK
theorem tw2617719716777270872:aJ:=aK
theorem tw297971269722091814:aJ:=aK
theorem tw6383614241601562808:aJ:=aK
theorem tw4205137553216949640:aJ:=aK
theorem tw1601500998369573665:aJ:=aK
theorem tw14282377253939248939:aJ:=aK
theorem tw9059832203979395877:aJ:=aK
theorem tw956942650209027819:aJ:=aK
theorem tw9516688046558066552:aJ:=aK
theorem tw10079171474624433434:aJ:=aK
theorem tw18257218023933744409:aJ:=aK
theorem tw7273676953221729872:aJ:=aK
theorem tw9590735534726013551:aJ:=aK
theorem tw15240379268576122478:aJ:=aK
theorem tw6572522305180300745:aJ:=aK
theorem tw12958664272152378060:aJ:=aK
theorem tw7381879191629600215:aJ:=aK
theorem tw8363718466572441477:aJ:=aK
theorem tw17469865338272021226:aJ:=aK
theorem tw5596365628329696591:aJ:=aK
theorem tw12787338502077490372:aJ:=aK
theorem tw5860347150701562758:aJ:=aK
theorem tw8523463495250067690:aJ:=aK
theorem tw10187724287525710026:aJ:=aK
theorem tw15169761463676818070:aJ:=aK
theorem tw3120133295221510679:aJ:=aK
theorem tw11593399256984752444:aJ:=aK
theorem tw11845233108574324481:aJ:=aK
theorem tw12094960947251128927:aJ:=aK
theorem tw427420600052151026:aJ:=aK
theorem tw6756868429301003459:aJ:=aK
theorem tw2707679213066786127:aJ:=aK
theorem tw10617020205504526918:aJ:=aK
theorem tw15638586536077026902:aJ:=aK
theorem tw9305691244287143441:aJ:=aK
theorem tw4699463449715708850:aJ:=aK
theorem tw15744752440731449612:aJ:=aK
theorem tw17555251805378815213:aJ:=aK
theorem tw46980244435833615:aJ:=aK
theorem tw14537839394382259888:aJ:=aK
theorem tw10296497611174029103:aJ:=aK
theorem tw8810280945414196856:aJ:=aK
theorem tw13822267516522204269:aJ:=aK
theorem tw4784893810139332661:aJ:=aK
theorem tw14657780768301432306:aJ:=aK
theorem tw10864713392326063847:aJ:=aK
theorem tw9589608677651300831:aJ:=aK
theorem tw11203750815551599093:aJ:=aK
theorem tw370947364307004932:aJ:=aK
theorem tw13264354339760550358:aJ:=aK
theorem tw1522322319653140107:aJ:=aK
theorem tw3548060758652744671:aJ:=aK
theorem tw987869383939708018:aJ:=aK
theorem tw15918733279669447828:aJ:=aK
theorem tw12958502747184954254:aJ:=aK
theorem tw15646934709686841381:aJ:=aK
theorem tw3712731000106771831:aJ:=aK
theorem tw795583310449317561:aJ:=aK
theorem tw9229161468869434483:aJ:=aK
theorem tw1400011881503588481:aJ:=aK
theorem tw5889316905344633881:aJ:=aK
theorem tw5513142621748847562:aJ:=aK
theorem tw18245740138792012028:aJ:=aK
theorem tw3584897518013459382:aJ:=aK
theorem tw11542710104232473196:aJ:=aK
theorem tw2782073688633401757:aJ:=aK
theorem tw8107780213005350392:aJ:=aK
theorem tw13549259019975226677:aJ:=aK
theorem tw8443935842833279946:aJ:=aK
theorem tw9503340733035011235:aJ:=aK
theorem tw11189890337720088615:aJ:=aK
theorem tw8140125068956082859:aJ:=aK
theorem tw2741389259953327712:aJ:=aK
theorem tw16597617366809209970:aJ:=aK
theorem tw8874702517807110003:aJ:=aK
theorem tw9442318146202087700:aJ:=aK
theorem tw8472579005086612782:aJ:=aK
theorem tw16204670001084760307:aJ:=aK
theorem tw339143206060000330:aJ:=aK
theorem tw13889309363888878346:aJ:=aK
theorem tw17741875731164886585:aJ:=aK
theorem tw7414872774492366064:aJ:=aK
theorem tw4166218997396506358:aJ:=aK
theorem tw14697636140705633519:aJ:=aK
theorem tw7458633546980236471:aJ:=aK
theorem tw14390669486469195807:aJ:=aK
theorem tw887695700811335699:aJ:=aK
theorem tw3195968871104189447:aJ:=aK
theorem tw12216891806147817523:aJ:=aK
theorem tw9843447840031818808:aJ:=aK
theorem tw10448899703829047738:aJ:=aK
theorem tw12117888159696746259:aJ:=aK
theorem tw2683898200743741643:aJ:=aK
theorem tw196536941598035525:aJ:=aK
theorem tw401921906979044612:aJ:=aK
theorem tw2617181576586992344:aJ:=aK
theorem tw12385144161495827662:aJ:=aK
theorem tw6448850889433096767:aJ:=aK
theorem tw4828031223510198475:aJ:=aK
theorem tw5369755611852500808:aJ:=aK
theorem tw10008474027749305400:aJ:=aK
theorem tw14762295962024373759:aJ:=aK
theorem tw10017263926548143515:aJ:=aK
theorem tw3855276242980373810:aJ:=aK
theorem tw11334415319851112604:aJ:=aK
theorem tw13160728816969591200:aJ:=aK
theorem tw93012567124736588:aJ:=aK
theorem tw2007660962349395123:aJ:=aK
theorem tw1209819496270969543:aJ:=aK
theorem tw2988451766255067171:aJ:=aK
theorem tw17474498911051797155:aJ:=aK
theorem tw12379415707883124570:aJ:=aK
theorem tw12545222027267286695:aJ:=aK
theorem tw16713831800681072344:aJ:=aK
theorem tw4951766788466123468:aJ:=aK
theorem tw17219337458794519322:aJ:=aK
theorem tw12018453282940300196:aJ:=aK
theorem tw575894324575664597:aJ:=aK
theorem tw10906321828192756331:aJ:=aK
theorem tw1381835654847214879:aJ:=aK
theorem tw15362295582089109014:aJ:=aK
theorem tw13068111086705522682:aJ:=aK
theorem tw18185382058313985135:aJ:=aK
theorem tw4010397242664982755:aJ:=aK
theorem tw5868845118606482295:aJ:=aK
theorem tw7386116660499605909:aJ:=aK
theorem tw9195894827357321740:aJ:=aK
theorem tw83393220934416808:aJ:=aK
theorem tw13706816188851595723:aJ:=aK
theorem tw7500321290955264641:aJ:=aK
theorem tw7913636548009798097:aJ:=aK
theorem tw7855079511596107753:aJ:=aK
theorem tw15177526630643400193:aJ:=aK
theorem tw3477822673542525157:aJ:=aK
theorem tw7204493036743257322:aJ:=aK
theorem tw864819663365544661:aJ:=aK
theorem tw13633771914396775234:aJ:=aK
theorem tw3776753064480771068:aJ:=aK
theorem tw1706793611546318481:aJ:=aK
theorem tw81815255157605957:aJ:=aK
theorem tw11487705115161347191:aJ:=aK
theorem tw15542334942015070624:aJ:=aK
theorem tw9666326922614434849:aJ:=aK
theorem tw8420165910927482534:aJ:=aK
theorem tw10797620697341660853:aJ:=aK
theorem tw9166809390415177425:aJ:=aK
theorem tw10987319290404115282:aJ:=aK
theorem tw17781115878593249900:aJ:=aK
theorem tw9962302188120564619:aJ:=aK
theorem tw2103985501979894447:aJ:=aK
theorem tw4321519831107876412:aJ:=aK
theorem tw14526540143163920134:aJ:=aK
theorem tw15271675978053873483:aJ:=aK
theorem tw9768079942903668216:aJ:=aK
theorem tw2685012915969955173:aJ:=aK
theorem tw6370870915552960936:aJ:=aK
theorem tw2502181453436431679:aJ:=aK
theorem tw9108098604805947806:aJ:=aK
theorem tw9951221954081769418:aJ:=aK
theorem tw16821654228018055803:aJ:=aK
theorem tw18374746225686918389:aJ:=aK
theorem tw12256363837256957063:aJ:=aK
theorem tw3474246075231452896:aJ:=aK
theorem tw13326734554550294991:aJ:=aK
theorem tw17486766287000646611:aJ:=aK
theorem tw4177254973167742082:aJ:=aK
theorem tw14145802354927516647:aJ:=aK
theorem tw1186331607622873149:aJ:=aK
theorem tw17030962893124633753:aJ:=aK
theorem tw672699306608606093:aJ:=aK
theorem tw10657950659306570408:aJ:=aK
theorem tw10361075674979980167:aJ:=aK
theorem tw13713866747541496747:aJ:=aK
end Mine.top
theorem Mine.good_end{c:ClaimW}{cl:Str→Option Addr}{mean:ExcName→Option Value}{args:List WData}{s₁ s':Shared}(hn:∀cls,c.raises args cls=false)(hp:c.post args (.bool true) args=true)
  (k:∀b o,s₁.heap.get? b=some o→s'.heap.get? b=some o) (hos:s'.os=s₁.os) (hg:s'.gens=#[]):GoodW c cl mean args s₁ (.ok (.ret (.bool true))) s':=
 ⟨.inl ⟨_,_,[],rfl,hn,.bool true,hp,unshared_nil⟩,k,hos,hg⟩
theorem Mine.post_true{r:RowW}{args:List WData}(h1:r.returns=.bool)(h2:r.post=.eq .res (.lit (.bool true))):r.claim.post args (.bool true) args=true:=by
 refine postW_of (X:=true) (by rw[h1];rfl) ?_ rfl
 rw[h2]
 simp[WTm.value]
 first|rfl|(simp[same];done)|(simp[W.same];done)|decide
theorem Mine.sub_in{K K':Frag}{b:Heap}(h:K'.In b)(e:(K.map fun p=>K'.lookup p.1)=K.map fun p=>some p.2):K.In b:=fun a o hl=>
 h a o (List.map_inj_left.mp e (a,o) (Mine.lookup_mem hl))
set_option Elab.async true in
set_option maxHeartbeats 0 in
theorem Mine.top:PySem.Challenge.rw_nm0158_01.Holds:=by
 w_on;o_law;k_head
 (case hw=>w_witness2)
 w_strict (
  k_fill
  intro w s₀ s₁ mg mb G Y fa o pm cd doc dV kV ho hd hcd hD hmg hg args vals as hpre hlay hrd hwl hlo
  have KX:=Mine.sub_in (K:=Mine.KK w.params) (kIn_of Y) (by kernel_rfl)
  have T:=G.T
  wrow_args hpre hlay hrd hwl hlo
  clear G Y ho hd hcd hD
  rename (Well _ _ _ _)=>w1
  refine enter_call ?_
  refine Mine.run_top (topRead_of T) KX hmg ?_ w1 fun s' k hos hgs=>GoodW.toG (Mine.good_end ?_ ?_ k hos (hgs.trans hg))
  ·omega
  ·intro cls;rfl
  ·exact Mine.post_true rfl rfl)
theorem PySem.Challenge.cw_nm0158_01_holds : PySem.Challenge.rw_nm0158_01.Holds :=
 Mine.top
