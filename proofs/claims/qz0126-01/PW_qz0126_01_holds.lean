import PyProof.Rows.All
import Wide.All
import OpenK.AllK
import Wide.FinOn
import KE.KIsAll
import KE.KTryMore
import PyProof.InstEq
import KE.KNest
import PyProof.ExcArgs
import PyProof.ExcInit
import PyProof.ExcBaseAll.Exception
import KE.KDictSum
import PyProof.ExcClass3
import Lean
import PySem.Challenge.RW_qz0126_01
set_option maxRecDepth 100000
set_option maxHeartbeats 8000000
set_option Elab.async false
set_option autoImplicit false
set_option genSizeOf false
set_option genInjectivity false
set_option tactic.hygienic false
set_option genCtorIdx false
set_option bootstrap.genMatcherCode false
set_option linter.all false
noncomputable section
namespace Mine
open PySem PySem.W PySem.Calls PyProof.Rows
section
variable {kz:Nat}
@[elab_as_elim] theorem rt{α:Sort _}{a b:α}{M:α->Prop}(e:a=b)(h:M b):M a:=e▸h
@[elab_as_elim] theorem rl{α:Sort _}{a b:α}{M:α->Prop}(e:a=b)(h:M a):M b:=e▸h
set_option genCtorIdx true in
inductive Bi where
 |len|Ul|sorted|ni
 deriving DecidableEq,Inhabited
noncomputable def Bi.nm:Bi->String
 |.len=>"len"
 |.Ul=>"isinstance"
 |.sorted=>"sorted"
 |.ni=>"ord"
set_option genCtorIdx true in
inductive Ty where
 |str|list|range|Wc
 deriving DecidableEq,Inhabited
noncomputable def Ty.nm:Ty->String
 |.str=>"str"
 |.list=>"list"
 |.range=>"range"
 |.Wc=>"Exception"
inductive SV where
 |no|nn|bo (b:Bool)|it (i:Int)|st (s:Str)|bu (s:Bi)|ty (s:Ty)
 |tp (a:Addr)|rg (n:Int)|ob (n:Nat)|tu (l:List SV)|fl (l:List SV)|cs (x:SV)|rw(v:Value)
 deriving Inhabited
noncomputable def SV.ctorIdx(x:SV):Nat:=x.casesOn 0 1 (λ_=>2) (λ_=>3) (λ_=>4) (λ_=>5) (λ_=>6) (λ_=>7) (λ_=>8) (λ_=>9) (λ_=>10) (λ_=>11) (λ_=>12) (λ_=>13)
structure vn where
 params:List Str
 body:List Stmt
 scope:Scope
 deriving Inhabited
mutual
noncomputable def Ia:SV->Bool
 |.ob _=>false
 |.tu l=>clos l
 |.fl l=>clos l
 |_=>true
noncomputable def clos:List SV->Bool
 |[]=>true
 |x::l=>Ia x&&clos l
end
inductive AO where
 |ta
 |bc (c:Addr) (d:Nat)
 |ns (fs:List (Str×SV))
 |Ha (l:List SV)
 |di (es:List (Int×SV))
 |dp (k:List Str) (e:Option SV)
 |cell (v:Option SV)
 |jb (c:Addr) (d:Nat) (tb:Bool)
 |Fh (c:Addr)
 |si (x:Str) (i:Nat)
 |fn (b:vn) (cells:List (Str×Nat))
 |ct (P:Addr)
 |ls (pre:List Value) (L l:List SV)
 |dz (fs:List (Int×Int))
 |dq (k:List Str) (x:SV)
 |li (x:SV) (i:Nat)
 |ri (a n:Int)
 |op (o:AO)
 deriving Inhabited
noncomputable def AO.ctorIdx(x:AO):Nat:=x.casesOn 0 (λ_ _=>1) (λ_=>2) (λ_=>3) (λ_=>4) (λ_ _=>5) (λ_=>6) (λ_ _ _=>7) (λ_=>8) (λ_ _=>9) (λ_ _=>10) (λ_=>11) (λ_ _ _=>12) (λ_=>13) (λ_ _=>14) (λ_ _=>15) (λ_ _=>16) (λ_=>17)
noncomputable def AO.Gd:AO->Option AO
 |.op x=>some x
 |_=>none
noncomputable abbrev St:=List AO
noncomputable def nEq:List Nat->List Nat->Bool
 |[],[]=>true
 |a::l,b::r=>match Nat.beq a b with
  |true=>nEq l r
  |false=>false
 |_,_=>false
theorem Ic{b:Bool}{α:Type}{x y z:α}{P:Prop}(e:cond b x y=z)(t:b=true->x=z->P)(f:y=z->P):P:=by
 rcases b with _|_
 ·exact f e
 exact t rfl e
theorem nEq_self:∀{a:List Nat},nEq a a=true
 |[]=>rfl
 |x::l=>by
  refine(?_:cond (Nat.beq x x) (nEq l l) false=true)
  exact rt (Nat.beq_refl x) nEq_self
theorem nEq_is:∀{a b:List Nat},nEq a b=true->a=b
 |[],[],_=>rfl
 |[],_::_,h=>(Bool.false_ne_true h).elim
 |_::_,[],h=>(Bool.false_ne_true h).elim
 |x::l,y::r,h=>Ic (b:=Nat.beq x y) (x:=nEq l r) (y:=false) h (λh q=>rt (Nat.eq_of_beq_eq_true h) (congrArg (y::·) (nEq_is q))) λh=>(Bool.false_ne_true h).elim
theorem tD{a b:List Nat}:nEq a b=true<->a=b:=⟨nEq_is,λh=>rt h nEq_self⟩
noncomputable def Oa(a b:Str):Bool:=nEq a.cps.toList b.cps.toList
theorem Je{a b:Str}:Oa a b=true<->a=b:=by
 unfold Oa
 rw[tD]
 constructor
 ·intro h;obtain⟨⟨x⟩⟩:=a;obtain⟨⟨y⟩⟩:=b;simp_all
 ·intro h;exact rt h rfl
noncomputable def Jc{K V:Type}(eq:K->K->Bool)(x:K):List (K×V)->Option V
 |[]=>none
 |p::r=>cond (eq p.1 x) (some p.2) (Jc eq x r)
noncomputable def Uf{K V:Type}(eq:K->K->Bool)(x:K)(v:V):List (K×V)->List (K×V)
 |[]=>[(x,v)]
 |p::r=>cond (eq p.1 x) ((p.1,v)::r) (p::Uf eq x v r)
noncomputable abbrev lk(x:Str)(l:List (Str×SV)):Option SV:=Jc Oa x l
noncomputable abbrev pt(x:Str)(v:SV)(l:List (Str×SV)):List (Str×SV):=Uf Oa x v l
structure Wd where
 prog:Program
 w:World
 K:Frag
 n:Nat
 fd:List Addr
 qn:Nat->Str
 mv:Nat->Bool
def Wd.out(W:Wd)(ad:List Addr)(a:Addr):Prop:=a∉ad/\a∉W.fd
inductive fb(h:Heap)(out:Addr->Prop)(T:String)(P:List Value->Prop):Value->Prop
 |mk (a:Addr) (vs:List Value) (n:Nat) (e:h.get? a=some ⟨.type T,none,.seq (List.toArray vs) n,#[]⟩) (q:P vs) (m:out a):fb h out T P (.ref a)
inductive Rg(h:Heap)(out:Addr->Prop)(n:Int):Value->Prop
 |mk (a:Addr) (t u w:Tok) (e:h.get? a=some ⟨.type "range",none,.fields #[.int 0 t,.int n u,.int 1 w],#[]⟩) (m:out a):Rg h out n (.ref a)
inductive Ta(P:Value->Prop)(Q:List Value->Prop):List Value->Prop
 |mk (v:Value) (r:List Value) (q:P v) (z:Q r):Ta P Q (v::r)
noncomputable def Db(mv:Nat->Bool)(ad:List Addr)(n:Nat):Option Addr:=cond (mv n) none ad[n]?
section
variable {mv:Nat->Bool}{ad:List Addr}{n:Nat}{a:Addr}
theorem Hb(e:Db mv ad n=some a):ad[n]?=some a:=by
 revert e
 refine(?_:cond (mv n) _ _=_->_)
 induction mv n using Bool.casesOn<;>first|exact id|exact nofun
theorem yc(q:mv n=false)(e:ad[n]?=some a):Db mv ad n=some a:=by unfold Db;refine q.symm▸?_;exact e
theorem Gh(e:Db mv ad n=some a):mv n=false:=by
 revert e
 refine(?_:cond (mv n) _ _=_->_)
 induction mv n using Bool.casesOn<;>first|exact λuu=>rfl|exact nofun
theorem kq{ia:List Addr}(g:∀(n:Nat) a,ad[n]?=some a->ia[n]?=some a)(n:Nat)(a:Addr)(e:Db mv ad n=some a):Db mv ia n=some a:=yc (Gh e) (g n a (Hb e))
end
section
variable (W:Wd)(ad:List Addr)(h:Heap)
mutual
noncomputable def V:SV->Value->Prop
 |.no,_=>False
 |.nn,v=>v=.none
 |.bo b,v=>v=.bool b
 |.it i,v=>∃t,v=.int i t
 |.st s,v=>∃t,v=.str s t
 |.bu s,v=>v=.builtin s.nm/\handedIn v=true
 |.ty s,v=>v=.type s.nm
 |.tp a,v=>v=.ref a
 |.rg n,v=>Rg h (W.out ad) n v
 |.ob n,v=>∃a,Db W.mv ad n=some a/\v=.ref a
 |.tu l,v=>fb h (W.out ad) "tuple" (Vs l) v
 |.fl l,v=>fb h (W.out ad) "list" (Vs l) v
 |.cs x,v=>Ia x=true/\V x v
 |.rw x,v=>v=x/\handedIn x=true
noncomputable def Vs:List SV->List Value->Prop
 |[],vs=>vs=[]
 |x::l,vs=>Ta (V x) (Vs l) vs
end
inductive Ed{K:Type}(kv:K->Tok->Value)(hs:K->Int):List (K×SV)->List DictEntry->Prop
 |nil:Ed kv hs [] []
 |cons {p:K×SV} {l:List (K×SV)} {e:DictEntry} {r:List DictEntry} (t:Tok) (k:e.key=kv p.1 t) (c:e.hash=hs p.1) (v:V W ad h p.2 e.val) (q:Ed kv hs l r):Ed kv hs (p::l) (e::r)
end
noncomputable abbrev Es(W:Wd)(ad:List Addr)(h:Heap)(hs:Str->Int):=Ed W ad h Value.str hs
noncomputable abbrev Ei(W:Wd)(ad:List Addr)(h:Heap)(hs:Int->Int):=Ed W ad h Value.int hs
def Sm(o o':Obj):Prop:=o'=o\/(o.cls=.type "frame"/\∃sl,o'={o with slots:=sl})
theorem Sm.refl(o:Obj):Sm o o:=.inl rfl
theorem Sm.cls{o o':Obj}(x:Sm o o'):o'.cls=o.cls:=by
 rcases x with rfl|⟨_,sl,rfl⟩<;>rfl
theorem Sm.data{o o':Obj}(x:Sm o o'):o'.data=o.data:=by
 rcases x with rfl|⟨_,sl,rfl⟩<;>rfl
theorem Sm.trans{o o' Cj:Obj}(x:Sm o o')(y:Sm o' Cj):Sm o Cj:=by
 rcases x with rfl|⟨c,sl,rfl⟩
 ·exact y
 ·rcases y with rfl|⟨_,pV,rfl⟩
  ·exact .inr ⟨c,sl,rfl⟩
  ·exact .inr ⟨c,pV,rfl⟩
theorem Sm.eq{o o':Obj}(x:Sm o o')(hc:o.cls≠.type "frame"):o'=o:=x.elim id λy=>absurd y.1 hc
structure xb(kz:Nat)(ad:List Addr)(L:Addr->Prop)(h h':Heap):Prop where
 size:h.objs.size<=h'.objs.size
 keep:∀a o,h.get? a=some o->a∉ad->¬L a->o.cls≠.type "traceback"->∃o',h'.get? a=some o'/\Sm o o'
 old:∀a o,a<kz->h.get? a=some o->a∉ad->¬L a->h'.get? a=some o
 own:∀a o,L a->h.get? a=some o->∃o',h'.get? a=some o'/\o'.cls=o.cls/\((∃es n,o.data=.dict es n)->∃es n,o'.data=.dict es n)
 tb:∀T o ts fl,h.get? T=some o->T∉ad->¬L T->o.cls=.type "traceback"->o.data=.fields ts->ts[3]?=some fl->∃o' Qc Vd,h'.get? T=some o'/\o'.cls=.type "traceback"/\o'.data=.fields Qc/\Qc[3]?=some Vd
def xg(L:Addr->Prop)(h:Heap):Prop:=∀a o,L a->h.get? a=some o->∃es n,o.data=.dict es n
theorem xb.refl{ad:List Addr}{L:Addr->Prop}{h:Heap}:xb kz ad L h h:=⟨Nat.le_refl _,λuu o e uu uu uu=>⟨o,e,.refl o⟩,λuu uu uu e uu uu=>e,λuu o uu e=>⟨o,e,rfl,id⟩,λuu o ts fl e uu uu h1 h2 h3=>⟨o,ts,fl,e,h1,h2,h3⟩⟩
structure vd(mv:Nat->Bool)(ad:List Addr)(h:Heap)(ia:List Addr):Prop where
 get:∀{n:Nat} {a:Addr},Db mv ad n=some a->Db mv ia n=some a
 new:∀a∈ia,a∈ad\/h.objs.size<=a
structure zf(ad:List Addr)(h:Heap)(ia:List Addr):Prop where
 get:∀(n:Nat) a,ad[n]?=some a->ia[n]?=some a
 new:∀a∈ia,a∈ad\/h.objs.size<=a
section
variable {mv:Nat->Bool}{ad ia Ix:List Addr}{h h':Heap}
theorem zf.w(g:zf ad h ia):vd mv ad h ia:=⟨kq g.get _ _,g.new⟩
theorem zf.refl:zf ad h ad:=⟨λuu uu=>id,λuu=>.inl⟩
theorem vd.refl:vd mv ad h ad:=zf.refl.w
theorem zf.bK{t:List Addr}(n:∀a∈t,h.objs.size<=a):zf ad h (ad++t):=⟨λuu uu e=>(List.getElem?_append_left (List.getElem?_eq_some_iff.mp e).1).trans e,λa m=>(List.mem_append.mp m).imp id (n a)⟩
theorem vd.not(g:vd mv ad h ia){a:Addr}{o:Obj}(e:h.get? a=some o)(n:a∉ad):a∉ia:=λm=>
 (g.new a m).elim n λq=>absurd (Heap.lt_size e) (Nat.not_lt.mpr q)
theorem vd.trans(g:vd mv ad h ia)(g':vd mv ia h' Ix)(le:h.objs.size<=h'.objs.size):vd mv ad h Ix:=
 ⟨λe=>g'.get (g.get e),λa m=>(g'.new a m).elim (g.new a) λq=>.inr (Nat.le_trans le q)⟩
theorem zf.len(g:zf ad h ia):ad.length<=ia.length:=Nat.not_lt.mp λq=>by
 have:=g.get _ _ (List.getElem?_eq_getElem q)
 replace this:=(List.getElem?_eq_none (Nat.le_refl _) ..)▸this
 contradiction
theorem zf.trans(g:zf ad h ia)(g':zf ia h' Ix)(le:h.objs.size<=h'.objs.size):zf ad h Ix:=
 ⟨λn a e=>g'.get n a (g.get n a e),λa m=>(g'.new a m).elim (g.new a) λq=>.inr (Nat.le_trans le q)⟩
end
theorem xb.trans{mv:Nat->Bool}{ad ia:List Addr}{L:Addr->Prop}{h h' dn:Heap}(g:vd mv ad h ia)(x:xb kz ad L h h')(y:xb kz ia L h' dn):xb kz ad L h dn:=
 ⟨Nat.le_trans x.size y.size,λa o e n1 n2 n4=>by
  obtain⟨o',e',s'⟩:=x.keep a o e n1 n2 n4
  obtain⟨Cj,As,uk⟩:=y.keep a o' e' (g.not e n1) n2 (s'.cls▸n4)
  exact⟨Cj,As,s'.trans uk⟩,λa o q e n1 n2=>y.old a o q (x.old a o q e n1 n2) (g.not e n1) n2,λa o q e=>by
  obtain⟨o',e',c',d'⟩:=x.own a o q e
  obtain⟨Cj,As,qV,rV⟩:=y.own a o' q e'
  exact⟨Cj,As,qV.trans c',λz=>rV (d' z)⟩,λT o ts fl e n1 n2 h1 h2 h3=>by
  obtain⟨o',Qc,Vd,e',k1,k2,k3⟩:=x.tb T o ts fl e n1 n2 h1 h2 h3
  exact y.tb T o' Qc Vd e' (g.not e n1) n2 k1 k2 k3⟩
structure Pl(o:Obj):Prop where
 t:o.cls≠.type "traceback"
 f:o.cls≠.type "frame"
 d:∀es n,o.data≠.dict es n
noncomputable def oi:Value->Bool
 |.type s=>!(s=="traceback"||s=="frame")
 |_=>true
noncomputable def yt:Data->Bool
 |.dict _ _=>true
 |_=>false
theorem tf{c:Value}(h:oi c=true):c≠.type "traceback"/\c≠.type "frame":=⟨λe=>by replace h:=e▸h;exact absurd h (by decide),λe=>by replace h:=e▸h;exact absurd h (by decide)⟩
theorem Pl.of{o:Obj}(h:oi o.cls=true)(d:yt o.data=false):Pl o:=⟨(tf h).1,(tf h).2,λes n e=>by replace d:=e▸d;contradiction⟩
structure Tr(h:Heap)(out:Addr->Prop)(h':Heap)(vg:Addr->Prop):Prop where
 p:∀a o,h.get? a=some o->out a->Pl o->h'.get? a=some o/\vg a
 t:∀T o ts fl,h.get? T=some o->out T->o.cls=.type "traceback"->o.data=.fields ts->ts[3]?=some fl->vg T/\∃o' Qc Vd,h'.get? T=some o'/\o'.cls=.type "traceback"/\o'.data=.fields Qc/\Qc[3]?=some Vd
section
variable {W W':Wd}{mv:Nat->Bool}{ad ia:List Addr}{L:Addr->Prop}{h h':Heap}{out vg:Addr->Prop}
theorem xb.tr(g:vd mv ad h ia)(k:xb kz ad L h h')(d:xg L h):Tr h (W.out ad) h' (W.out ia):=
 ⟨λa o e m q=>by
  obtain⟨o',e',s⟩:=k.keep a o e m.1 (λz=>let⟨_,_,y⟩:=d a o z e;q.d _ _ y) q.t
  replace e':=(s.eq q.f ..)▸e'
  exact⟨e',g.not e m.1,m.2⟩,λT o ts fl e m h1 h2 h3=>⟨⟨g.not e m.1,m.2⟩,k.tb T o ts fl e m.1 (λz=>by obtain⟨_,_,y⟩:=d T o z e;replace y:=h2▸y;contradiction) h1 h2 h3⟩⟩
theorem fb.imp{T:String}{P Q:List Value->Prop}{v:Value}(x:Tr h out h' vg)(hT:oi (.type T)=true)(f:∀vs,P vs->Q vs)(q:fb h out T P v):fb h' vg T Q v:=by
 refine fb.casesOn q λa vs n e q m=>?_
 exact have z:=x.p a _ e m (.of hT rfl);⟨a,vs,n,z.1,f vs q,z.2⟩
theorem Rg.imp{n:Int}{v:Value}(x:Tr h out h' vg)(q:Rg h out n v):Rg h' vg n v:=by
 refine Rg.casesOn q λa t u w e m=>?_
 exact have z:=x.p a _ e m (.of rfl rfl);⟨a,t,u,w,z.1,z.2⟩
theorem Ta.imp{P P':Value->Prop}{Q Q':List Value->Prop}{vs:List Value}(f:∀v,P v->P' v)(g:∀vs,Q vs->Q' vs)(q:Ta P Q vs):Ta P' Q' vs:=by
 refine Ta.casesOn q λv r q z=>?_
 exact⟨v,r,f v q,g r z⟩
theorem V.tr(x:Tr h (W.out ad) h' (W'.out ia))(g:∀(n:Nat) a,Db W.mv ad n=some a->Db W'.mv ia n=some a){y:SV}:∀v,V W ad h y v->V W' ia h' y v:=by
 induction y using SV.rec (motive_2:=λl=>∀vs,Vs W ad h l vs->Vs W' ia h' l vs) with
 |rg n=>exact λuu=>Rg.imp x
 |ob n=>exact λv ⟨a,q,r⟩=>⟨a,g n a q,r⟩
 |tu l ih=>exact λuu=>fb.imp x rfl ih
 |fl l ih=>exact λuu=>fb.imp x rfl ih
 |cs y ih=>exact λuu q=>⟨q.1,ih _ q.2⟩
 |cons y l ih il=>exact Ta.imp ih il ‹_›
 |nil=>assumption
 |_=>exact λuu=>id
theorem Vs.tr(x:Tr h (W.out ad) h' (W'.out ia))(g:∀(n:Nat) a,Db W.mv ad n=some a->Db W'.mv ia n=some a){l:List SV}:∀vs,Vs W ad h l vs->Vs W' ia h' l vs:=by
 induction l with
 |nil=>exact λuu=>id
 |cons y l il=>exact λuu=>Ta.imp (V.tr x g) il
theorem Ed.imp{K:Type}{kv:K->Tok->Value}{hs:K->Int}(f:∀x v,V W ad h x v->V W' ia h' x v){l:List (K×SV)}{es:List DictEntry}(q:Ed W ad h kv hs l es):Ed W' ia h' kv hs l es:=by
 induction q with
 |nil=>exact .nil
 |cons t k c v _ ih=>exact .cons t k c (f _ _ v) ih
theorem V.Ba(g:vd W.mv ad h ia)(k:xb kz ad L h h')(d:xg L h){x:SV}{v:Value}(q:V W ad h x v):V W ia h' x v:=V.tr (k.tr g d) (λuu uu=>g.get) v q
theorem Vs.Ba(g:vd W.mv ad h ia)(k:xb kz ad L h h')(d:xg L h){l:List SV}{vs:List Value}(q:Vs W ad h l vs):Vs W ia h' l vs:=Vs.tr (k.tr g d) (λuu uu=>g.get) vs q
end
noncomputable abbrev Wd.m(W:Wd):Model:=model W.prog W.w
noncomputable abbrev Wd.hs(W:Wd):Str->Int:=(PySem.strKind W.prog W.w).hash
noncomputable abbrev Wd.hi(W:Wd):Int->Int:=(intKind W.prog W.w).hash
def Wd.fr(W:Wd)(a:Addr):Prop:=W.K.lookup a=none
def Wd.ff(W:Wd)(a:Addr):Prop:=∀o,W.K.lookup a=some o->o.cls≠.type "tuple"
theorem Wd.fr.ff{W:Wd}{a:Addr}(x:W.fr a):W.ff a:=λo e=>by replace e:=(show W.K.lookup a=none from x)▸e;contradiction
structure Wd.Ok(W:Wd):Prop where
 plain:∀a o,W.K.lookup a=some o->o.cls≠.type "traceback"/\o.cls≠.type "frame"
 sm:∃o,W.K.lookup sysModules=some o
 nl:∀h,W.K.In h->h.NoLimit
noncomputable def Cr(mv:Nat->Bool)(ad:List Addr):List (Str×Nat)->List (Str×Addr)->Prop
 |[],ca=>ca=[]
 |p::l,ca=>∃q r,ca=q::r/\q.1=p.1/\Db mv ad p.2=some q.2/\Cr mv ad l r
structure Wx(q:Str)(o:Obj):Prop where
 c:o.cls=.type "code"
 d:∃vs t,o.data=.fields vs/\vs[1]?=some (.str q t)
def dj(h:Heap)(c:Addr)(q:Str):Prop:=∃o,h.get? c=some o/\Wx q o
section
variable (W:Wd)(ad:List Addr)(h:Heap)
inductive fe:Value->Prop
 |mk (T:Addr) (oT:Obj) (ts:Array Value) (fl:Value) (k:W.n<=T) (m:W.out ad T) (e:h.get? T=some oT) (c:oT.cls=.type "traceback") (d:oT.data=.fields ts) (f:ts[3]?=some fl):fe (.ref T)
def wn(vs:Array Value)(tb:Bool):Prop:=vs[2]?=some .none/\∃x,vs[1]?=some x/\cond tb (fe W ad h x) (x=.none)
inductive xe(b:vn)(cl:List (Str×Nat)):Obj->Prop
 |mk (name qual:Str) (as:List Arg) (kwd:List (Option Expr)) (ca:List (Str×Addr)) (kV doc pm:Value) (an:Option Addr) (c:Addr) (ct:Value) (m:W.out ad c) (k:dj h c qual) (z:Cr W.mv ad cl ca) (p:as.map (·.arg)=b.params) (nd:b.params.Nodup) (co:b.scope.isCoroutine=false) (ge:b.scope.isGenerator=false):
  xe b cl {cls:=.type "function",data:=.func (fnX name qual ⟨[],as,none,[],kwd,none,[]⟩ b.body b.scope ca .none kV doc pm an (.ref c) ct)}
end
section
variable (W:Wd)(ad:List Addr)(h:Heap)
noncomputable abbrev Wd.tk(W:Wd):=tupleKind (PySem.strKind W.prog W.w)
inductive Rc(k:List Str)(P:Value->Prop):Obj->Prop
 |mk (ep:Nat) (ka:Addr) (v:Value) (q:IsTupleKey (PySem.strKind W.prog W.w) h k ka) (m:W.out ad ka) (z:P v):Rc k P (dictOf [entryOfKey W.tk (k,ka,v)] ep)
def rc{K:Type}(kv:K->Tok->Value)(hs:K->Int)(fs:List (K×SV))(o:Obj):Prop:=∃es n,o=dictOf es n/\Ed W ad h kv hs fs es/\(fs.map (·.1)).Nodup
def Vf(P:List Value->Prop)(o:Obj):Prop:=∃vs n,o=⟨.type "list",none,.seq (List.toArray vs) n,#[]⟩/\P vs
inductive Ac(pre:List Value)(P Q:List Value->Prop):List Value->Prop
 |mk (v1 v2:List Value) (q:P v1) (z:Q v2):Ac pre P Q (pre++v1++v2)
def Fj(o:Obj):Prop:=∃ps,o=tabObj ps/\TriplesOk ps.toList/\∀pos cv,codeAmong pos ps.toList=some cv->∃c,cv=.ref c/\W.out ad c/\dj h c (W.qn pos.line)
def gc(a:Addr)(o:Obj):AO->Prop
 |.ta=>oi o.cls=true
 |.bc c d=>∃da,ad[d]?=some da/\o=instObj c da
 |.ns fs=>rc W ad h Value.str W.hs fs o
 |.Ha l=>Vf (Vs W ad h l) o
 |.di fs=>rc W ad h Value.int W.hi fs o
 |.dp _ none=>∃ep,o=dictOf [] ep
 |.dp k (some v)=>Rc W ad h k (V W ad h v) o
 |.cell (some v)=>∃x,o=⟨.type "cell",none,.cell (some x),#[]⟩/\V W ad h v x
 |.cell none=>o=⟨.type "cell",none,.cell none,#[]⟩
 |.jb c d tb=>∃da vs,ad[d]?=some da/\o=⟨.ref c,some da,.fields vs,#[]⟩/\wn W ad h vs tb
 |.Fh c=>∃vs,o=⟨.ref c,none,.fields vs,#[]⟩/\vs.size=6/\vs[1]?=some .none/\vs[2]?=some .none
 |.si x i=>o.cls=.type "str_ascii_iterator"/\∃t,o.data=.fields #[.str x t,.int i 0]
 |.fn b cl=>xe W ad h b cl o
 |.ct P=>a=P/\Fj W ad h o
 |.ls pre L l=>clos L=true/\(∀v∈pre,handedIn v=true)/\Vf (Ac pre (Vs W ad h L) (Vs W ad h l)) o
 |.dz fs=>rc W ad h Value.int W.hi (fs.map λp=>(p.1,SV.it p.2)) o
 |.dq k x=>((∃ep,o=dictOf [] ep)/\V W ad h x .none)\/Rc W ad h k (V W ad h x) o
 |.li x i=>∃l,V W ad h x (.ref l)/\o.cls=.type "list_iterator"/\o.data=.fields #[.ref l,.int i 0]
 |.ri x n=>o={cls:=.type "range_iterator",dict:=none,data:=.fields #[rawInt x,rawInt n,rawInt 1],slots:=#[]}
 |.op _=>False
noncomputable abbrev Wd.fi(W:Wd):Wd:={W with mv:=λuu=>false}
def Oc(a:Addr)(o:Obj)(x:AO):Prop:=x.Gd.elim (gc W ad h a o x) (gc W.fi ad h a o)
def Ob(a:Addr):AO->Prop
 |.ta=>True
 |ao=>∃o,h.get? a=some o/\Oc W ad h a o ao
structure R(st:St):Prop where
 len:ad.length=st.length
 nd:ad.Nodup
 lt:∀a∈ad,W.fr a/\a<h.objs.size
 lf:∀a∈W.fd,W.ff a/\a<h.objs.size
 ob:∀(i:Nat) (a:Addr) (o:AO),ad[i]?=some a->st[i]?=some o->Ob W ad h a o
 hi:∀n,ad.length<=n->W.mv n=false
def Lo(L:Addr)(loc:List (Str×SV)):Prop:=∃m,h.Ns L m/\∀x,match lk x loc with
 |some sv=>∃v,m x=some v/\V W ad h sv v
 |none=>True
def FF(l:List Env):Prop:=∀env∈l,env.scope.kind≠.module/\∃F o,env.frame=some F/\W.n<=F/\F∉ad/\h.get? F=some o/\o.cls=.type "frame"/\∃es n,o.data=.dict es n
end
inductive Hn where
 |no|nn|fo|nm (n:Nat)
 deriving Inhabited
noncomputable def Hn.ctorIdx(x:Hn):Nat:=x.casesOn 0 1 2 (λ_=>3)
noncomputable def Hn.ok:Hn->Bool
 |.nn=>true
 |.fo=>true
 |_=>false
noncomputable def Hn.isNone:Hn->Bool
 |.nn=>true
 |_=>false
def xn(h:Heap)(e:Addr):Prop:=∃C d vs,h.get? e=some ⟨.ref C,d,.fields vs,#[]⟩/\vs[2]?=some .none
def ie(mv:Nat->Bool)(x:Hn)(A:Around)(ad:List Addr)(h:Heap):Prop:=match x with
 |.no=>True
 |.nn=>A.handled=none
 |.fo=>∃e,A.handled=some (.ref e)/\e∉ad/\xn h e
 |.nm n=>∃a,Db mv ad n=some a/\A.handled=some (.ref a)
structure Cx where
 scope:Scope
 cells:List (Str×Nat)
 hn:Hn
 fn:Bool
 me:Option (Addr×Str)
structure Cx.At(mv:Nat->Bool)(c:Cx)(ad:List Addr)(env:Env):Prop where
 scope:env.scope=c.scope
 globals:env.globals=mainGlobals
 builtins:env.builtins=builtinsNs
 cells:∀x n,(c.cells.lookup x=some n->∃a,Db mv ad n=some a/\env.cells.lookup x=some a)
 me:∀p,c.me=some p->env.code=.ref p.1/\env.qual=p.2
noncomputable abbrev yn:Nat:=950
noncomputable abbrev Gj:Nat:=9000
structure Th where
 W:Wd
 c:Cx
 D:Nat
structure Bk where
 A:Around
 env:Env
 Ma:List Env
def Bk.L(Γ:Bk):Addr->Prop:=(·=Γ.env.locals)
inductive Fl where
 |next|brk|cont|ret (v:SV)
 deriving Inhabited
noncomputable def Fl.ctorIdx(x:Fl):Nat:=x.casesOn 0 1 2 (λ_=>3)
noncomputable abbrev Lc:=List (Str×SV)
inductive Hd where
 |Ca (b:Bool)
 |Id (init:List SV) (x:SV)
 |item (x:SV)
 |list (l:List SV)
 |df (x:Option SV)
 |same
 |out (o:Except Nat SV) (st:St)
 |mq (o:Except Nat Fl) (loc:Lc) (st:St)
noncomputable def Hd.ctorIdx(x:Hd):Nat:=x.casesOn (λ_=>0) (λ_ _=>1) (λ_=>2) (λ_=>3) (λ_=>4) 5 (λ_ _=>6) (λ_ _ _=>7)
structure Jd where
 l:Nat
 k:Nat
 e:Nat
 d:Hd
structure Sx where
 loc:Lc
 st:St
 hs:List Jd
structure Ms(θ:Th)(Γ:Bk)(ad:List Addr)(sx:Sx)(s:Shared):Prop where
 ib:θ.W.K.In s.heap
 r:R θ.W ad s.heap sx.st
 lo:Lo θ.W ad s.heap Γ.env.locals sx.loc
 nL:Γ.env.locals∉ad
 lL:θ.W.n<=Γ.env.locals/\θ.W.fr Γ.env.locals
 lT:∀o,s.heap.get? Γ.env.locals=some o->o.cls=.type "frame"\/o.cls=.type "dict"
 Yg:θ.c.fn=true->∃rest,Γ.Ma=Γ.env::rest/\Γ.env.frame=some Γ.env.locals
 env:Cx.At θ.W.mv θ.c ad Γ.env
 fr:Γ.A.frames=some Γ.Ma
 ff:FF θ.W ad s.heap Γ.Ma
 je:Γ.A.depth+θ.D<=yn
 un:Γ.A.units+8 * θ.D<=Gj
 hn:ie θ.W.mv θ.c.hn Γ.A ad s.heap
structure pb(W:Wd)(L:Addr->Prop)(ad:List Addr)(s:Shared)(ia:List Addr)(s':Shared):Prop where
 g:vd W.mv ad s.heap ia
 k:xb W.n ad L s.heap s'.heap
 e:s'={s with heap:=s'.heap,toks:=s'.toks}
noncomputable abbrev Hp:=List Addr->Heap->Prop
inductive Po(θ:Th)(Γ:Bk)(ad:List Addr)(s:Shared)(sx:Sx)(X:Hp)(s':Shared):Prop
 |mk (ia:List Addr) (r:pb θ.W Γ.L ad s ia s') (M:Ms θ Γ ia sx s') (x:X ia s'.heap)
end
section
variable {kz:Nat}
theorem sj{α:Type}{x:Option α}{a b:α}(e:x=some a)(e':x=some b):a=b:=Option.some.inj (e.symm.trans e')
theorem Fa{α:Type}{a:α}{G:Prop}(e:none=some a):G:=nomatch e
theorem obs{α β:Type}{o:Option α}{f:α->Option β}{b:β}{G:Prop}(e:o.bind f=some b)(K:∀a,o=some a->f a=some b->G):G:=by
 rcases o with _|a
 ·exact Fa e
 exact K a rfl e
theorem ft{G:Prop}(e:false=true):G:=nomatch e
theorem Wd.fresh{W:Wd}{h:Heap}{a:Addr}(x:W.K.In h)(q:h.objs.size<=a):W.fr a:=by
 refine(?_:W.K.lookup a=none)
 rcases e:W.K.lookup a with _|o
 ·rfl
 exact absurd (Heap.lt_size (x a o e)) (Nat.not_lt.mpr q)
theorem zk(h:Heap):h.get? h.objs.size=none:=by
 rcases e:h.get? h.objs.size with _|o
 ·rfl
 exact absurd (Heap.lt_size e) (Nat.lt_irrefl _)
section
variable {W:Wd}{mv:Nat->Bool}{ad ia:List Addr}{L:Addr->Prop}{h h':Heap}
theorem Wd.Ok.ib(ok:W.Ok)(x:W.K.In h)(gf:∀a∈ad,W.fr a)(lL:∀a,L a->W.K.lookup a=none)(k:xb kz ad L h h'):W.K.In h':=λa o e=>by
 have p:=ok.plain a o e
 have no:∀{b},W.K.lookup b=none->¬b=a:=λz q=>by replace z:=e▸q▸z;contradiction
 obtain⟨o',e',s'⟩:=k.keep a o (x a o e) (λq=>no (gf a q) rfl) (λq=>no (lL a q) rfl) p.1
 exact(e' ..).symm▸(s'.eq p.2 ..).symm▸rfl
theorem Lo.obj{loc:Lc}{l:Addr}(x:Lo W ad h l loc):∃o es n,h.get? l=some o/\o.data=.dict es n:=
 x.elim λuu x=>x.1.imp λuu x=>x.imp λuu x=>x.imp λuu x=>⟨x.1,x.2.1⟩
theorem FF.next{l:List PySem.Env}(x:FF W ad h l)(g:vd mv ad h ia)(k:xb kz ad L h h'):FF W ia h' l:=λe m=>by
 refine⟨(x e m).1,(x e m).2.elim λF z=>z.elim λo z=>⟨F,?_⟩⟩
 have f:=z.2.2
 by_cases q:L F
 ·exact(k.own F o q f.2.1).elim λo' y=>⟨o',z.1,z.2.1,g.not f.2.1 f.1,y.1,y.2.1.trans f.2.2.1,y.2.2 f.2.2.2⟩
 ·exact(k.keep F o f.2.1 f.1 q (by refine rt f.2.2.1 ?_;exact λe=>nomatch e)).elim λo' y=>⟨o',z.1,z.2.1,g.not f.2.1 f.1,y.1,y.2.cls.trans f.2.2.1,f.2.2.2.imp λuu d=>d.imp λuu d=>y.2.data.trans d⟩
theorem xn.keep{e:Addr}(x:xn h e)(n:e∉ad)(k:xb kz ad L h h')(d:xg L h):xn h' e:=by
 obtain⟨C,dd,vs,h1,h2⟩:=x
 obtain⟨o',e',s'⟩:=k.keep _ _ h1 n (λq=>let⟨_,_,z⟩:=d _ _ q h1;nomatch z) (by simp)
 exact⟨C,dd,vs,by exact(e' ..).symm▸(s'.eq (by simp) ..).symm▸rfl,h2⟩
theorem ie.next{hn:Hn}{A:Around}(x:ie mv hn A ad h)(g:vd mv ad h ia)(k:xb kz ad L h h')(d:xg L h):ie mv hn A ia h':=by
 induction hn using Hn.casesOn with
 |no=>trivial
 |nn=>exact x
 |fo=>
  obtain⟨e,h1,h2,h3⟩:=x
  exact⟨e,h1,let⟨_,_,_,q,_⟩:=h3;g.not q h2,h3.keep h2 k d⟩
 |nm n=>exact let⟨a,h1,h2⟩:=x;⟨a,g.get h1,h2⟩
theorem Cx.At.next{c:Cx}{env:PySem.Env}(x:c.At mv ad env)(g:vd mv ad h ia):c.At mv ia env:=
 ⟨x.scope,x.globals,x.builtins,λy n e=>let⟨a,p,q⟩:=x.cells y n e;⟨a,g.get p,q⟩,x.me⟩
end
section
variable {W:Wd}{L:Addr->Prop}{ad ja ya:List Addr}{s s1 s2:Shared}
theorem pb.refl:pb W L ad s ad s:=⟨.refl,.refl,rfl⟩
theorem pb.toks(t:Nat):pb W L ad s ad {s with toks:=t}:=⟨.refl,.refl,rfl⟩
theorem pb.trans(a:pb W L ad s ja s1)(b:pb W L ja s1 ya s2):pb W L ad s ya s2:=
 ⟨a.g.trans b.g a.k.size,a.k.trans a.g b.k,by exact(b.e ..).symm▸(a.e ..).symm▸rfl⟩
end
section
variable {θ:Th}{Γ:Bk}{ad ja ya:List Addr}{sx sx1:Sx}{s s1 s2:Shared}{X Y:Hp}
theorem Ms.ke(M:Ms θ Γ ad sx s):xg Γ.L s.heap:=by
 rintro a o rfl e
 exact M.lo.obj.elim λo' z=>z.elim λes z=>z.elim λn z=>sj z.1 e▸⟨es,n,z.2⟩
theorem Ms.next(ok:θ.W.Ok)(M:Ms θ Γ ad sx s)(c:pb θ.W Γ.L ad s ja s1)(r:R θ.W ja s1.heap sx1.st)(lo:Lo θ.W ja s1.heap Γ.env.locals sx1.loc):Ms θ Γ ja sx1 s1:=by
 obtain⟨o,es,n,e,d⟩:=M.lo.obj
 refine⟨ok.ib M.ib (λa m=>(M.r.lt a m).1) (λa q=>by refine(show a=Γ.env.locals from q).symm▸?_;exact M.lL.2) c.k,r,lo,c.g.not e M.nL,M.lL,λo' e'=>?_,M.Yg,M.env.next c.g,M.fr,M.ff.next c.g c.k,M.je,M.un,M.hn.next c.g c.k M.ke⟩
 exact(c.k.own _ o rfl e).elim λo2 z=>by refine rt (sj e' z.1 ..) (rt (z.2.1 ..) ?_);exact M.lT o e
theorem Ms.as(M:Ms θ Γ ad sx s)(h1:sx1.loc=sx.loc)(h2:sx1.st=sx.st):Ms θ Γ ad sx1 s:={M with r:=h2▸M.r,lo:=h1▸M.lo}
theorem Ms.toks(M:Ms θ Γ ad sx s)(t:Nat):Ms θ Γ ad sx {s with toks:=t}:={M with}
theorem Po.here(M:Ms θ Γ ad sx s)(x:X ad s.heap):Po θ Γ ad s sx X s:=⟨ad,.refl,M,x⟩
theorem Po.same(M:Ms θ Γ ad sx s)(x:X ad s.heap)(t:Nat):Po θ Γ ad s sx X {s with toks:=t}:=⟨ad,.toks t,M.toks t,x⟩
theorem Po.Pa{s2:Shared}(c:pb θ.W Γ.L ad s ja s1)(p:Po θ Γ ja s1 sx X s2):Po θ Γ ad s sx X s2:=let⟨ia,r,M,x⟩:=p;⟨ia,c.trans r,M,x⟩
theorem Po.Ba(p:Po θ Γ ad s sx X s1)(f:∀a h,X a h->Y a h):Po θ Γ ad s sx Y s1:=let⟨ia,r,M,x⟩:=p;⟨ia,r,M,f _ _ x⟩
end
def Da(mv:Nat->Bool)(X:Hp):Prop:=∀(kz:Nat) ad h ia h' L,vd mv ad h ia->xb kz ad L h h'->xg L h->X ad h->X ia h'
theorem Da.true{mv:Nat->Bool}:Da mv λuu uu=>True:=λuu uu uu uu uu uu uu uu uu uu=>trivial
theorem Da.and{mv:Nat->Bool}{X Y:Hp}(x:Da mv X)(y:Da mv Y):Da mv λa h=>X a h/\Y a h:=λuu uu uu uu uu uu g k d z=>⟨x _ _ _ _ _ _ g k d z.1,y _ _ _ _ _ _ g k d z.2⟩
theorem Da.V(W:Wd)(x:SV)(v:Value):Da W.mv λa h=>V W a h x v:=λuu uu uu uu uu uu g k d z=>z.Ba g k d
theorem Da.Vs(W:Wd)(x:List SV)(v:List Value):Da W.mv λa h=>Vs W a h x v:=λuu uu uu uu uu uu g k d z=>z.Ba g k d
theorem pb.Ba{θ:Th}{Γ:Bk}{ad ja:List Addr}{sx:Sx}{s s1:Shared}(c:pb θ.W Γ.L ad s ja s1)(M:Ms θ Γ ad sx s){X:Hp}(hX:Da θ.W.mv X)(x:X ad s.heap):X ja s1.heap:=hX _ _ _ _ _ _ c.g c.k M.ke x
theorem pb.v{θ:Th}{Γ:Bk}{ad ja:List Addr}{sx:Sx}{s s1:Shared}(c:pb θ.W Γ.L ad s ja s1)(M:Ms θ Γ ad sx s){x:SV}{v:Value}(q:V θ.W ad s.heap x v):V θ.W ja s1.heap x v:=q.Ba c.g c.k M.ke
theorem pb.vs{θ:Th}{Γ:Bk}{ad ja:List Addr}{sx:Sx}{s s1:Shared}(c:pb θ.W Γ.L ad s ja s1)(M:Ms θ Γ ad sx s){x:List SV}{v:List Value}(q:Vs θ.W ad s.heap x v):Vs θ.W ja s1.heap x v:=q.Ba c.g c.k M.ke
noncomputable abbrev An(α:Type):=Option (Except Nat α×Sx×List Prop)
def Rn(α:Type):=Sx->An α
def aa{β:Type}(x:An β)(K:Except Nat β->Sx->Prop):Prop:=match x with
 |none=>True
 |some q=>(∀p∈q.2.2,p)->K q.1 q.2.1
namespace Rn
noncomputable def pure{α:Type}(a:α):Rn α:=λs=>some (.ok a,s,[])
noncomputable def bind{α β:Type}(m:Rn α)(f:α->Rn β):Rn β:=λs=>match m s with
 |none=>none
 |some r=>match r.1 with
  |.error n=>some (.error n,r.2)
  |.ok a=>match f a r.2.1 with
   |none=>none
   |some q=>match r.2.2 with
    |[]=>some q
    |l=>some (q.1,q.2.1,l++q.2.2)
noncomputable def qa{α:Type}:Rn α:=λuu=>none
noncomputable instance:Monad Rn where
 pure:=pure
 bind:=bind
noncomputable def Ea{α:Type}(o:Option α):Rn α:=λs=>o.bind λa=>some (.ok a,s,[])
noncomputable def hint(p:Pos):Rn (Option Hd):=λs=>match s.hs with
 |[]=>some (.ok none,s,[])
 |h::r=>cond (Nat.beq h.l p.line) (cond (Nat.beq h.k p.col) (cond (Nat.beq h.e p.endCol) (some (.ok (some h.d),{s with hs:=r},[])) (some (.ok none,s,[]))) (some (.ok none,s,[]))) (some (.ok none,s,[]))
noncomputable def ask(p:Prop):Rn Unit:=λs=>some (.ok (),s,[p])
end Rn
section
variable {α β γ δ:Type}{K K':Except Nat β->Sx->Prop}{sx sx1:Sx}
theorem aa.Ba{x:An β}(f:∀o sx,K o sx->K' o sx)(H:aa x K):aa x K':=by
 rcases x with _|q
 ·trivial
 exact λhl=>f _ _ (H hl)
theorem aa.bind{m:Rn α}{f:α->Rn β}(H:aa (m sx) λo sx1=>match o with
  |.error n=>K (.error n) sx1
  |.ok b=>aa (f b sx1) K):aa ((m>>=f) sx) K:=by
 refine(?_:aa (Rn.bind m f sx) K)
 unfold Rn.bind
 revert H
 rcases m sx with _|q
 ·exact λuu=>trivial
 obtain⟨o,xa,l⟩:=q
 rcases o with n|b
 ·exact id
 dsimp only
 intro H
 have H:(∀p∈l,p)->aa (f b xa) K:=H
 revert H
 rcases f b xa with _|q2
 ·exact λuu=>trivial
 intro H
 rcases l with _|⟨p,l⟩
 ·exact H λuu m=>nomatch m
 exact λh=>H (λp m=>h p (List.mem_append_left _ m)) λp m=>h p (List.mem_append_right _ m)
theorem aa.Ea{o:Option α}{f:α->An β}(H:∀a,o=some a->aa (f a) K):aa (o.bind f) K:=by
 rcases o with _|a
 ·trivial
 exact H a rfl
theorem aa.cond{b:Bool}{x y:An β}(H:b=true->aa x K)(H':b=false->aa y K):aa (cond b x y) K:=by
 rcases b with _|_
 ·exact H' rfl
 exact H rfl
theorem aa.zn{b:Bool}{m m':Rn β}(H:b=true->aa (m sx) K)(H':b=false->aa (m' sx) K):aa ((_root_.cond b m m') sx) K:=by
 rcases b with _|_
 ·exact H' rfl
 exact H rfl
theorem aa.yb{b:Bool}{x:An β}(H:b=true->aa x K):aa (_root_.cond b x none) K:=aa.cond H λuu=>trivial
theorem aa.step{m:Rn α}{f:α->Rn β}{b:α}(e:m sx=some (.ok b,sx1,[]))(H:aa (f b sx1) K):aa ((m>>=f) sx) K:=aa.bind (by refine rt e ?_;exact λuu=>H)
theorem aa.asked{p:Prop}{f:Unit->Rn β}(H:p->aa (f () sx) K):aa ((Rn.ask p>>=f) sx) K:=aa.bind λh=>H (h p (List.mem_singleton.mpr rfl))
theorem aa.hint{p:Pos}{f:Option Hd->Rn β}(H:∀d hs,aa (f d {sx with hs:=hs}) K):aa ((Rn.hint p>>=f) sx) K:=aa.bind (by
 have n:=λ(_:∀p∈([]:List Prop),p)=>H none sx.hs
 unfold Rn.hint
 rcases sx.hs with _|⟨h,r⟩
 ·exact n
 exact aa.cond (λuu=>aa.cond (λuu=>aa.cond (λuu uu=>H _ r) λuu=>n) λuu=>n) λuu=>n)
theorem aa.Ua{o:Except Nat β}{p:Prop}(H:p->K o sx):aa (some (o,sx,[p])) K:=λh=>H (h p (List.mem_singleton.mpr rfl))
theorem aa.ok{o:Except Nat β}(H:K o sx):aa (some (o,sx,[])) K:=λuu=>H
end
section
variable {α β γ δ:Type}
def Qo(θ:Th)(Γ:Bk)(ad:List Addr)(s:Shared)(rep:β->α->Hp)(o:Except Nat β)(sx:Sx)(v:α)(s':Shared):Prop:=∃b,o=.ok b/\Po θ Γ ad s sx (rep b v) s'
def Eo(θ:Th)(Γ:Bk)(ad:List Addr)(s:Shared)(o:Except Nat β)(sx:Sx)(v:Value)(s':Shared):Prop:=∃n,o=.error n/\Po θ Γ ad s sx (λa uu=>∃z,v=.ref z/\Db θ.W.mv a n=some z) s'
noncomputable abbrev Gl(θ:Th)(Γ:Bk)(ad:List Addr)(s:Shared)(rep:β->α->Hp)(x:An β)(t:Sem α)(s1:Shared):Prop:=aa x λo sx=>wpAny θ.W.m Γ.A t (Qo θ Γ ad s rep o sx) (Eo θ Γ ad s o sx) s1
def So(θ:Th)(X:Hp)(rep:β->α->Hp)(m:Rn β)(t:PySem.Env->Sem α):Prop:=∀Γ ad sx s,Ms θ Γ ad sx s->X ad s.heap->Gl θ Γ ad s rep (m sx) (t Γ.env) s
def Ev(θ:Th)(X:Hp)(rep:β->α->Hp)(t:PySem.Env->Sem α)(sx:Sx)(o:Except Nat β)(ra:Sx):Prop:=
 ∀Γ ad s,Ms θ Γ ad sx s->X ad s.heap->wpAny θ.W.m Γ.A (t Γ.env) (Qo θ Γ ad s rep o ra) (Eo θ Γ ad s o ra) s
variable {θ:Th}{Γ:Bk}{ad ja:List Addr}{s s1:Shared}{rep:β->α->Hp}{Ol:δ->γ->Hp}{X Y:Hp}{sx sx1:Sx}
theorem Qo.Wf{n:Nat}{v:α}{G:Prop}(h:Qo θ Γ ad s rep (.error n) sx v s1):G:=let⟨_,z,_⟩:=h;nomatch z
theorem Eo.ok{b:β}{v:Value}{G:Prop}(h:Eo θ Γ ad s (.ok b) sx v s1):G:=let⟨_,z,_⟩:=h;nomatch z
theorem Qo.po{b:β}{v:α}(h:Qo θ Γ ad s rep (.ok b) sx v s1):Po θ Γ ad s sx (rep b v) s1:=by
 obtain⟨_,z,p⟩:=h
 cases z
 exact p
theorem Eo.po{n:Nat}{v:Value}(h:Eo θ Γ ad s (.error n:Except Nat β) sx v s1):Po θ Γ ad s sx (λa uu=>∃z,v=.ref z/\Db θ.W.mv a n=some z) s1:=by
 obtain⟨_,z,p⟩:=h
 cases z
 exact p
theorem Eo.Pa{n:Nat}{v:Value}{s2:Shared}(c:pb θ.W Γ.L ad s ja s1)(h:Eo θ Γ ja s1 (.error n:Except Nat β) sx v s2):Eo θ Γ ad s (.error n:Except Nat δ) sx v s2:=⟨n,rfl,h.po.Pa c⟩
theorem Gl.map{x:An β}{t t':Sem α}{s2:Shared}(f:∀Q E,wpAny θ.W.m Γ.A t Q E s1->wpAny θ.W.m Γ.A t' Q E s2)(H:Gl θ Γ ad s rep x t s1):Gl θ Γ ad s rep x t' s2:=H.Ba λuu uu=>f _ _
theorem Gl.use{m:Rn β}{f:β->Rn δ}{t:Sem α}{Q:Except Nat δ->Sx->α->Shared->Prop}(H:Gl θ Γ ja s1 rep (m sx) t s1)(c:pb θ.W Γ.L ad s ja s1)
  (K:∀b xa v ya s2,pb θ.W Γ.L ad s ya s2->pb θ.W Γ.L ja s1 ya s2->Ms θ Γ ya xa s2->rep b v ya s2.heap->aa (f b xa) λo ra=>Q o ra v s2):aa ((m>>=f) sx) λo ra=>wpAny θ.W.m Γ.A t (Q o ra) (Eo θ Γ ad s o ra) s1:=
 aa.bind (H.Ba λo xa h=>by
  rcases o with n|b
  ·exact wpAny_mono h (λuu uu z=>z.Wf) λuu uu z=>z.Pa c
  revert K
  refine λK=>?_
  refine(?_:aa (f b xa) _)
  have K:=K b xa
  revert K
  rcases f b xa with _|q
  ·exact λuu=>trivial
  exact λK hl=>wpAny_mono h (λv s' z=>let⟨ia,r,M,x⟩:=z.po;K v ia s' (c.trans r) r M x hl) λuu uu z=>z.ok)
theorem Gl.bind{m:Rn β}{f:β->Rn δ}{t:Sem α}{k:α->Sem γ}(H:Gl θ Γ ja s1 rep (m sx) t s1)(c:pb θ.W Γ.L ad s ja s1)
  (K:∀b xa v ya s2,pb θ.W Γ.L ad s ya s2->pb θ.W Γ.L ja s1 ya s2->Ms θ Γ ya xa s2->rep b v ya s2.heap->Gl θ Γ ad s Ol (f b xa) (k v) s2):Gl θ Γ ad s Ol ((m>>=f) sx) (t>>=k) s1:=
 (Gl.use H c K).Ba λuu uu h=>wpAny_bind h
theorem Gl.Va{x:An β}{t:Sem α}(H:Gl θ Γ ja s1 rep x t s1)(c:pb θ.W Γ.L ad s ja s1):Gl θ Γ ad s rep x t s1:=
 H.Ba λuu uu h=>wpAny_mono h (λuu uu ⟨b,z,p⟩=>⟨b,z,p.Pa c⟩) λuu uu ⟨b,z,p⟩=>⟨b,z,p.Pa c⟩
theorem Gl.done{b:β}{v:α}{l:List Prop}(p:Po θ Γ ad s sx1 (rep b v) s1):Gl θ Γ ad s rep (some (.ok b,sx1,l)) (Pure.pure v) s1:=λuu=>wpAny_pure ⟨b,rfl,p⟩
variable {m:Rn β}{f:β->Rn δ}{t u:PySem.Env->Sem α}{k:PySem.Env->α->Sem γ}
theorem So.bind(hX:Da θ.W.mv X)(H:So θ X rep m t)(K:∀b v,So θ (λa h=>X a h/\rep b v a h) Ol (f b) (λenv=>k env v)):So θ X Ol (m>>=f) (λenv=>t env>>=λv=>k env v):=λΓ ad sx s M x=>
 Gl.bind (H Γ ad sx s M x) .refl λb xa v ya s2 c uu M2 q=>(K b v Γ ya xa s2 M2 ⟨c.Ba M hX x,q⟩).Va c
theorem So.map(H:So θ X rep m t)(f:∀(Γ:Bk) Q E s,wpAny θ.W.m Γ.A (t Γ.env) Q E s->wpAny θ.W.m Γ.A (u Γ.env) Q E s):So θ X rep m u:=λΓ ad sx s M x=>Gl.map (λuu uu=>f Γ _ _ _) (H Γ ad sx s M x)
theorem So.holding{vs:List Value}(H:So θ X rep m t):So θ X rep m (λenv=>holding vs (t env)):=H.map λuu uu uu uu=>wpAny_holding
theorem So.Jb{p:Pos}(H:So θ X rep m t):So θ X rep m (λenv=>standAt p>>=λuu=>t env):=H.map λuu uu uu uu h=>wpAny_bind (wpAny_standAt h)
theorem So.dK{p:String}(H:So θ X rep m t):So θ X rep m (λenv=>PySem.rule p>>=λuu=>t env):=H.map λuu uu uu uu h=>wpAny_bind (wpAny_rule h)
theorem eK{M:Model}{A:Around}{E:Value->Shared->Prop}{s:Shared}{vs:List Value}{m:Sem Value}{Q:Value->Shared->Prop}(h:wpAny M A m Q E s):wpAny M A (operate vs m) Q E s:=
 λΓ p hΓ=>by refine rt (Sem.wp_operate ..) ?_;exact h Γ p hΓ
theorem uD{M:Model}{A:Around}{E:Value->Shared->Prop}{s:Shared}{vs l:List Value}{Q:Unit->Shared->Prop}(h:Q () s):wpAny M A (release vs l) Q E s:=
 λΓ p hΓ=>by refine rt (Sem.wp_release ..) ?_;exact h
theorem So.operate{rep:δ->Value->Hp}{m:Rn δ}{t:PySem.Env->Sem Value}{vs:List Value}(H:So θ X rep m t):So θ X rep m (λenv=>PySem.operate vs (t env)):=H.map λuu uu uu uu=>eK
theorem So.ye{P:Prop}(hX:∀a h,X a h->P)(K:P->So θ X rep m t):So θ X rep m t:=λΓ ad sx s M x=>K (hX _ _ x) Γ ad sx s M x
theorem So.Xx(H:So θ X rep m t)(f:∀a h,Y a h->X a h):So θ Y rep m t:=λΓ ad sx s M x=>H Γ ad sx s M (f _ _ x)
theorem So.nq(hX:Da θ.W.mv X){m:Rn α}{f:α->Rn δ}(H:So θ X (λb v uu uu=>b=v) m t)(K:∀b,So θ X Ol (f b) (λenv=>k env b)):So θ X Ol (m>>=f) (λenv=>t env>>=λv=>k env v):=
 So.bind hX H λb v=>So.ye (P:=b=v) (λuu uu x=>x.2) λe=>by
  subst e
  exact(K b).Xx λuu uu x=>x.1
theorem So.pure{b:β}{v:α}(x:∀a h,X a h->rep b v a h):So θ X rep (Pure.pure b) (λuu=>Pure.pure v):=λuu uu uu uu M y=>Gl.done (.here M (x _ _ y))
theorem So.zt(H:So θ X rep m t)(e:∀env,θ.c.scope=env.scope->u env=t env):So θ X rep m u:=λΓ ad sx s M x=>by
 refine rt (e Γ.env M.env.scope.symm ..) ?_
 exact H Γ ad sx s M x
theorem So.Nb(e:∀env,u env=t env)(H:So θ X rep m t):So θ X rep m u:=H.zt λenv uu=>e env
theorem So.Ea{o:Option δ}{f:δ->Rn β}(K:∀d,o=some d->So θ X rep (f d) t):So θ X rep (Rn.Ea o>>=f) t:=λΓ ad sx s M x=>aa.bind (aa.Ea λd e uu=>K d e Γ ad sx s M x)
theorem So.qa:So θ X rep Rn.qa t:=λuu uu uu uu uu uu=>trivial
theorem So.yb{b:Bool}(K:b=true->So θ X rep m t):So θ X rep (cond b m Rn.qa) t:=by
 rcases b with _|_
 ·exact So.qa
 exact K rfl
theorem So.ask{p:Prop}(K:p->So θ X rep m t):So θ X rep (Rn.ask p>>=λuu=>m) t:=λΓ ad sx s M x=>aa.asked λh=>K h Γ ad sx s M x
theorem So.hint{p:Pos}{f:Option Hd->Rn β}(K:∀d,So θ X rep (f d) t):So θ X rep (Rn.hint p>>=f) t:=λΓ ad sx s M x=>aa.hint λd hs=>K d Γ ad {sx with hs:=hs} s (M.as rfl rfl) x
theorem So.Cc{b:β}(H:∀Γ ad sx s,Ms θ Γ ad sx s->X ad s.heap->∀Q E,(∀v,rep b v ad s.heap->∀t,Q v {s with toks:=t})->wpAny θ.W.m Γ.A (t Γ.env) Q E s):So θ X rep (Pure.pure b) t:=λΓ ad sx s M x uu=>
 H Γ ad sx s M x _ _ λuu z t=>⟨b,rfl,.same M z t⟩
end
end
section
variable {kz:Nat}
noncomputable abbrev Wd.on(W:Wd)(fd:List Addr):Wd:={W with fd:=fd}
noncomputable abbrev Wd.at(W:Wd)(fd:List Addr)(m:Nat->Bool):Wd:={W with fd:=fd,mv:=m}
section
variable {h h':Heap}{out vg:Addr->Prop}
theorem Wx.pl{q:Str}{o:Obj}(x:Wx q o):Pl o:=.of (by refine rt (x.c ..) ?_;rfl) (x.d.elim λuu d=>d.elim λuu d=>by refine rt d.1 ?_;rfl)
theorem Tr.code(x:Tr h out h' vg){c:Addr}{q:Str}(m:out c)(k:dj h c q):vg c/\dj h' c q:=let⟨o,e,z⟩:=k;have y:=x.p c o e m z.pl;⟨y.2,o,y.1,z⟩
theorem Tr.key(x:Tr h out h' vg){prog:Program}{w:World}{K:Type}[DecidableEq K]{knd:PySem.KeyKind prog w K}{k:List K}{a:Addr}(m:out a)(q:IsTupleKey knd h k a):vg a/\IsTupleKey knd h' k a:=by
 obtain⟨o,it,n,e,c,d,z⟩:=q
 have y:=x.p a o e m (.of (by refine rt c ?_;rfl) (by refine rt d ?_;rfl))
 exact⟨y.2,o,it,n,y.1,c,d,z⟩
theorem Cr.Bn{mv m:Nat->Bool}{ad ia:List Addr}(g:∀(n:Nat) a,Db mv ad n=some a->Db m ia n=some a):∀{l:List (Str×Nat)} {ca:List (Str×Addr)},Cr mv ad l ca->Cr m ia l ca
 |[],_,q=>q
 |_::_,_,⟨q,r,e,n,z,w⟩=>⟨q,r,e,n,g _ _ z,Cr.Bn g w⟩
end
section
variable {W:Wd}{fd:List Addr}{m:Nat->Bool}{ad ia:List Addr}{h h':Heap}
structure Vw(W:Wd)(ad:List Addr)(h:Heap)(W':Wd)(ia:List Addr)(h':Heap)(f:SV->SV):Prop where
 x:Tr h (W.out ad) h' (W'.out ia)
 v:∀y v,V W ad h y v->V W' ia h' (f y) v
theorem Rc.imp{P P':Value->Prop}(x:Tr h (W.out ad) h' ((W.at fd m).out ia))(f:∀v,P v->P' v){k:List Str}{o:Obj}(q:Rc W ad h k P o):Rc (W.at fd m) ia h' k P' o:=by
 refine Rc.casesOn q λep ka v q m z=>?_
 exact have y:=x.key m q;⟨ep,ka,v,y.2,y.1,f v z⟩
theorem Vf.imp{P P':List Value->Prop}(f:∀v,P v->P' v){o:Obj}(q:Vf P o):Vf P' o:=let⟨vs,n,e,z⟩:=q;⟨vs,n,e,f vs z⟩
theorem Ac.imp{pre:List Value}{P P' Q Q':List Value->Prop}(f:∀v,P v->P' v)(g:∀v,Q v->Q' v){vs:List Value}(q:Ac pre P Q vs):Ac pre P' Q' vs:=by
 refine Ac.casesOn q λv1 v2 q z=>?_
 exact⟨v1,v2,f _ q,g _ z⟩
theorem rc.imp{K:Type}{kv:K->Tok->Value}{hs:K->Int}(f:∀x v,V W ad h x v->V (W.at fd m) ia h' x v){l:List (K×SV)}{o:Obj}(q:rc W ad h kv hs l o):rc (W.at fd m) ia h' kv hs l o:=let⟨es,n,e,z,nd⟩:=q;⟨es,n,e,z.imp f,nd⟩
theorem Fj.imp(x:Tr h (W.out ad) h' ((W.at fd m).out ia)){o:Obj}(q:Fj W ad h o):Fj (W.at fd m) ia h' o:=let⟨ps,e,t,k⟩:=q;⟨ps,e,t,λpos cv e=>let⟨c,z,m,y⟩:=k pos cv e;⟨c,z,x.code m y⟩⟩
theorem xe.imp(x:Tr h (W.out ad) h' ((W.at fd m).out ia)){b:vn}{cl Ds:List (Str×Nat)}(g:∀ca,Cr W.mv ad cl ca->Cr m ia Ds ca){o:Obj}(q:xe W ad h b cl o):xe (W.at fd m) ia h' b Ds o:=by
 refine xe.casesOn q λname qual as kwd ca kV doc pm an c ct m k z p nd co ge=>?_
 exact have y:=x.code m k;⟨name,qual,as,kwd,ca,kV,doc,pm,an,c,ct,y.1,y.2,g ca z,p,nd,co,ge⟩
theorem wn.imp(x:Tr h (W.out ad) h' ((W.at fd m).out ia)){vs:Array Value}{tb:Bool}(q:wn W ad h vs tb):wn (W.at fd m) ia h' vs tb:=by
 obtain⟨q1,y,e,z⟩:=q
 refine⟨q1,y,e,?_⟩
 rcases tb with _|_
 ·exact z
 refine fe.casesOn z λT oT ts fl k m e9 c d f=>?_
 exact let⟨m',o',Qc,Vd,e',c',d',f'⟩:=x.t T oT ts fl e9 m c d f;.mk T o' Qc Vd k m' e' c' d' f'
noncomputable def AO.oq:AO->Option Nat
 |.bc _ d=>some d
 |.jb _ d _=>some d
 |_=>none
noncomputable def yg(mv:Nat->Bool)(o:AO):Bool:=o.Gd.elim (o.oq.elim true λd=>!mv d) λuu=>false
theorem gc.tr(x:Tr h (W.out ad) h' ((W.at fd m).out ia))(gm:∀(n:Nat) a,Db W.mv ad n=some a->Db m ia n=some a){a:Addr}{o:Obj}{ao:AO}(g:∀d a,ao.oq=some d->ad[d]?=some a->ia[d]?=some a)(q:gc W ad h a o ao):gc (W.at fd m) ia h' a o ao:=by
 have v:∀{y} v,V W ad h y v->V (W.at fd m) ia h' y v:=V.tr x gm
 have vs:∀{y} v,Vs W ad h y v->Vs (W.at fd m) ia h' y v:=Vs.tr x gm
 induction ao using AO.casesOn with
 |bc c d=>exact let⟨da,e,r⟩:=q;⟨da,g _ _ rfl e,r⟩
 |ns fs=>exact rc.imp (λuu=>v) q
 |Ha l=>exact Vf.imp vs q
 |di fs=>exact rc.imp (λuu=>v) q
 |dp k e=>
  rcases e with _|y
  ·exact q
  exact Rc.imp x v q
 |cell y=>
  rcases y with _|y
  ·exact q
  exact let⟨z,e,r⟩:=q;⟨z,e,v _ r⟩
 |jb c d tb=>exact let⟨da,vs,e,r,z⟩:=q;⟨da,vs,g _ _ rfl e,r,z.imp x⟩
 |fn b cl=>exact xe.imp x (λuu=>Cr.Bn gm) q
 |ct P=>exact⟨q.1,Fj.imp x q.2⟩
 |ls pre L l=>exact⟨q.1,q.2.1,Vf.imp (λuu=>Ac.imp vs vs) q.2.2⟩
 |dz fs=>exact rc.imp (λuu=>v) q
 |dq k y=>exact q.elim (λz=>.inl ⟨z.1,v _ z.2⟩) λz=>.inr (Rc.imp x v z)
 |li y i=>exact let⟨l,z,r⟩:=q;⟨l,v _ z,r⟩
 |_=>exact q
def vD(mv:Nat->Bool)(ad ia:List Addr)(ao:AO):Prop:=(∀(n:Nat) a,ad[n]?=some a->ia[n]?=some a)\/((∀(n:Nat) a,Db mv ad n=some a->Db mv ia n=some a)/\yg mv ao=true)
theorem Oc.tr(x:Tr h (W.out ad) h' ((W.on fd).out ia)){a:Addr}{o:Obj}{ao:AO}(g:vD W.mv ad ia ao)(q:Oc W ad h a o ao):Oc (W.on fd) ia h' a o ao:=by
 revert q
 rcases g with g|⟨g,b⟩<;>unfold Oc
 ·rcases ao.Gd with _|ao
  ·exact gc.tr (m:=W.mv) x (kq g) λd a uu=>g d a
  exact gc.tr (W:=W.fi) (m:=W.fi.mv) x (kq g) λd a uu=>g d a
 ·revert b
  unfold yg
  rcases ao.Gd with _|ao
  ·refine λb=>gc.tr (m:=W.mv) x g λd a e q=>Hb (g d a (yc ?_ q))
   have b:(ao.oq.elim true λd=>!W.mv d)=true:=b
   replace b:=e▸b
   exact Bool.not_eq_true' _|>.mp b
  exact λe=>nomatch e
theorem gc.cls{a:Addr}{o:Obj}{ao:AO}(q:gc W ad h a o ao):oi o.cls=true:=by
 have lit:∀{o':Obj},o=o'->oi o'.cls=true->oi o.cls=true:=λe z=>e▸z
 have seq:∀{P},Vf P o->oi o.cls=true:=λq=>q.elim λuu q=>q.elim λuu q=>lit q.1 rfl
 have Fs:∀{K:Type} {kv:K->Tok->Value} {hs fs},rc W ad h kv hs fs o->oi o.cls=true:=λq=>q.elim λuu q=>q.elim λuu q=>lit q.1 rfl
 have dp:∀{k P},Rc W ad h k P o->oi o.cls=true:=λq=>by induction q using Rc.casesOn;rfl
 induction ao using AO.casesOn with
 |ta=>exact q
 |bc c d=>exact q.elim λuu q=>lit q.2 rfl
 |ns fs=>exact Fs q
 |Ha l=>exact seq q
 |di fs=>exact Fs q
 |dp k e=>
  rcases e with _|y
  ·exact q.elim λuu q=>lit q rfl
  exact dp q
 |cell y=>
  rcases y with _|y
  ·exact lit q rfl
  exact q.elim λuu q=>lit q.1 rfl
 |jb c d tb=>exact q.elim λuu q=>q.elim λuu q=>lit q.2.1 rfl
 |Fh c=>exact q.elim λuu q=>lit q.1 rfl
 |si x i=>refine rt q.1 ?_;rfl
 |fn b cl=>induction(q:xe ..) using xe.casesOn;rfl
 |ct P=>exact q.2.elim λuu q=>lit q.1 rfl
 |ls pre L l=>exact seq q.2.2
 |dz fs=>exact Fs q
 |dq k y=>exact q.elim (λq=>q.1.elim λuu q=>lit q rfl) dp
 |li y i=>exact q.elim λuu q=>by refine rt q.2.1 ?_;rfl
 |ri x n=>exact lit q rfl
 |op _=>exact q.elim
theorem Oc.cls{a:Addr}{o:Obj}{ao:AO}(q:Oc W ad h a o ao):oi o.cls=true:=by
 revert q
 unfold Oc
 rcases ao.Gd with _|ao
 ·exact gc.cls
 exact gc.cls (W:=W.fi)
theorem Ob.mk{a:Addr}{o:Obj}{ao:AO}(e:h.get? a=some o)(q:Oc W ad h a o ao):Ob W ad h a ao:=by
 induction ao using AO.casesOn<;>first|exact⟨o,e,q⟩|exact trivial
theorem Ob.at{a:Addr}{ao:AO}(q:Ob W ad h a ao)(hd:ao≠.ta):∃o,h.get? a=some o/\Oc W ad h a o ao:=by
 induction ao using AO.casesOn<;>first|exact q|exact absurd rfl hd
theorem Ob.tr(x:Tr h (W.out ad) h' ((W.on fd).out ia)){a:Addr}(own:∀o,h.get? a=some o->o.cls≠.type "traceback"->o.cls≠.type "frame"->h'.get? a=some o){ao:AO}(g:vD W.mv ad ia ao)(q:Ob W ad h a ao):Ob (W.on fd) ia h' a ao:=by
 by_cases hd:ao=.ta
 ·subst hd;trivial
 ·obtain⟨o,e,q⟩:=q.at hd
  have c:=q.cls
  exact .mk (own o e (tf c).1 (tf c).2) (q.tr x g)
theorem R.next{L:Addr->Prop}{st db:St}(r:R W ad h st)(g:zf ad h ia)(k:xb kz ad L h h')(d:xg L h)(len:ia.length=db.length)(nd:ia.Nodup)(lt:∀a∈ia,a∉ad->W.fr a/\a<h'.objs.size)
  (H:∀(i:Nat) a o,ia[i]?=some a->db[i]?=some o->Ob W ia h' a o\/(ad[i]?=some a/\st[i]?=some o/\∀o',h.get? a=some o'->o'.cls≠.type "traceback"->o'.cls≠.type "frame"->h'.get? a=some o')):R W ia h' db:=
 ⟨len,nd,λa m=>by
  by_cases q:a∈ad
  ·exact⟨(r.lt a q).1,Nat.lt_of_lt_of_le (r.lt a q).2 k.size⟩
  ·exact lt a m q,λa m=>⟨(r.lf a m).1,Nat.lt_of_lt_of_le (r.lf a m).2 k.size⟩,λi a o e1 e2=>(H i a o e1 e2).elim id λz=>(r.ob i a o z.1 z.2.1).tr (fd:=W.fd) (k.tr g.w (mv:=W.mv) d) z.2.2 (.inl g.get),λn q=>r.hi n (Nat.le_trans g.len q)⟩
end
end
section
variable {kz:Nat}
structure Fx(a:Addr)(h h':Heap):Prop where
 size:h.objs.size<=h'.objs.size
 keep:∀b o,b≠a->h.get? b=some o->h'.get? b=some o
theorem Fx.ze{a:Addr}{h h':Heap}(x:Heap.SameBut a h h'):Fx a h h':=⟨Nat.le_of_eq x.1.symm,λb uu n e=>(x.2 b n).trans e⟩
theorem Fx.update(a:Addr)(h:Heap)(f:Obj->Obj):Fx a h (h.update a f):=.ze (.update ..)
theorem Fx.push(a:Addr)(h:Heap)(o:Obj):Fx a h (h.push o):=⟨by refine rt (Heap.size_push ..) ?_;exact Nat.le_succ _,λuu uu uu e=>Heap.get?_push_of_some o e⟩
section
variable {W:Wd}{ad ia:List Addr}{L:Addr->Prop}{h h':Heap}{a:Addr}
theorem Fx.kept(x:Fx a h h')(m:∀b o,h.get? b=some o->(b∉ad->¬L b->b≠a)/\(L b->b≠a)):xb kz ad L h h':=
 ⟨x.size,λb o e q l uu=>⟨o,x.keep b o ((m b o e).1 q l) e,.refl o⟩,λb o uu e q l=>x.keep b o ((m b o e).1 q l) e,λb o l e=>⟨o,x.keep b o ((m b o e).2 l) e,rfl,id⟩,λT o ts fl e q l h1 h2 h3=>⟨o,ts,fl,x.keep T o ((m T o e).1 q l) e,h1,h2,h3⟩⟩
theorem Fx.fK(x:Fx a h h')(m:a∈ad)(n:¬L a):xb kz ad L h h':=x.kept λuu uu uu=>⟨λq uu z=>q (z▸m),λl z=>n (z▸l)⟩
theorem Fx.Vl(x:Fx a h h')(m:h.get? a=none):xb kz ad L h h':=x.kept λb uu e=>have z:b≠a:=λz=>by(replace e:=m▸z▸e;contradiction)
 ⟨λuu uu=>z,λuu=>z⟩
theorem wD{l:List Addr}(nd:l.Nodup){i j:Nat}{b:Addr}(e:l[i]?=some b)(f:l[j]?=some b):i=j:=
 (List.getElem?_inj (List.getElem?_eq_some_iff.mp e).1 nd).mp (e.trans f.symm)
theorem Ct{α:Type}(l:List α)(x:α):(l++[x])[l.length]?=some x:=by refine rt (List.getElem?_append_right (Nat.le_refl _) ..) (rt (Nat.sub_self ..) ?_);rfl
theorem gK{α:Type}{l:List α}{x y:α}{i:Nat}(e:(l++[x])[i]?=some y):l[i]?=some y\/(i=l.length/\x=y):=by
 rcases Nat.lt_or_ge i l.length with q|q
 ·replace e:=(List.getElem?_append_left q ..)▸e;exact .inl e
 ·replace e:=(List.getElem?_append_right q ..)▸e
  induction w:i - l.length using Nat.casesOn with
  |zero=>replace e:=w▸e;cases e;exact .inr ⟨Nat.le_antisymm (Nat.le_of_sub_eq_zero w) q,rfl⟩
  |succ k=>replace e:=w▸e;contradiction
theorem R.set{st:St}{i:Nat}{ao:AO}(r:R W ad h st)(ei:ad[i]?=some a)(x:Fx a h h')(k:xb kz ad L h h')(d:xg L h)(q:Ob W ad h' a ao):R W ad h' (st.set i ao):=
 r.next .refl k d (by refine rt (List.length_set ..) ?_;exact r.len) r.nd (λuu m n=>absurd m n) λj b o e1 e2=>by
  by_cases z:i=j
  ·subst z
   replace e1:=ei▸e1
   replace e1:=Option.some.inj e1;subst e1
   replace e2:=(List.getElem?_set_self (r.len▸(List.getElem?_eq_some_iff.mp ei).1) ..)▸e2
   replace e2:=Option.some.inj e2;subst e2
   exact .inl q
  ·replace e2:=(List.getElem?_set_ne z ..)▸e2
   exact .inr ⟨e1,e2,λo' e uu uu=>x.keep _ _ (λy=>z (wD r.nd ei (y▸e1))) e⟩
theorem R.Ae{st:St}(r:R W ad h st)(x:Fx a h h')(q:a∉ad)(k:xb kz ad L h h')(d:xg L h):R W ad h' st:=
 r.next .refl k d r.len r.nd (λuu m n=>absurd m n) λuu uu uu e1 e2=>.inr ⟨e1,e2,λuu e uu uu=>x.keep _ _ (λz=>q (z▸List.mem_of_getElem? e1)) e⟩
theorem rq(n2:h.objs.size<=a):zf ad h (ad++[a]):=.bK λb m=>by refine rt (List.mem_singleton.mp m ..) ?_;exact n2
theorem R.name{st:St}{ao:AO}(r:R W ad h st)(n1:W.fr a)(n2:h.objs.size<=a)(n3:a<h'.objs.size)(x:Fx a h h')(k:xb kz ad L h h')(d:xg L h)(q:Ob W (ad++[a]) h' a ao):R W (ad++[a]) h' (st++[ao]):=by
 have hm:a∉ad:=λm=>absurd (r.lt a m).2 (Nat.not_lt.mpr n2)
 refine r.next (rq n2) k d (by refine(List.length_append ..).symm▸(List.length_append ..).symm▸(r.len ..).symm▸?_;rfl) (List.nodup_append.mpr ⟨r.nd,List.nodup_cons.mpr ⟨List.not_mem_nil,.nil⟩,λb hb c hc e=>hm (List.mem_singleton.mp hc▸e▸hb)⟩)
  (λb m n=>by rcases List.mem_append.mp m with m|m<;>first|exact absurd m n|(refine rt (List.mem_singleton.mp m ..) ?_;exact⟨n1,n3⟩)) λj b o e1 e2=>?_
 rcases gK e2 with z|⟨z,rfl⟩
 ·replace e1:=(List.getElem?_append_left (r.len▸(List.getElem?_eq_some_iff.mp z).1) ..)▸e1
  exact .inr ⟨e1,z,λuu e uu uu=>x.keep _ _ (λy=>hm (y▸List.mem_of_getElem? e1)) e⟩
 ·replace e1:=(Ct ..)▸(r.len ..).symm▸(z ..)▸e1
  replace e1:=Option.some.inj e1;subst e1
  exact .inl q
theorem Lo.Ba{loc:Lc}{l:Addr}(g:vd W.mv ad h ia)(k:xb kz ad L h h')(d:xg L h)(e:∀m,h.Ns l m->h'.Ns l m)(x:Lo W ad h l loc):Lo W ia h' l loc:=by
 obtain⟨m,n,q⟩:=x
 refine⟨m,e m n,λy=>?_⟩
 have:=q y
 revert this
 rcases lk y loc with _|sv
 ·exact id
 exact λz=>z.elim λv z=>⟨v,z.1,z.2.Ba g k d⟩
theorem Sm.ns{h h':Heap}{L:Addr}{m:Str->Option Value}{o o':Obj}(e:h.get? L=some o)(e':h'.get? L=some o')(x:Sm o o')(q:h.Ns L m):h'.Ns L m:=by
 obtain⟨oo,es,ep,ho,hd,r⟩:=q
 replace ho:=e▸ho;replace ho:=Option.some.inj ho;subst ho
 exact⟨o',es,ep,e',x.data.trans hd,r⟩
theorem R.get{st:St}{i:Nat}{o:AO}(r:R W ad h st)(e:st[i]?=some o):∃a,ad[i]?=some a/\Ob W ad h a o:=
 have ac:i<ad.length:=r.len▸(List.getElem?_eq_some_iff.mp e).1
 ⟨ad[i],List.getElem?_eq_getElem ac,r.ob i _ _ (List.getElem?_eq_getElem ac) e⟩
theorem R.at{st:St}{i:Nat}{o:AO}{v:Value}(r:R W ad h st)(e:st[i]?=some o)(hd:o≠.ta)(q:V W ad h (.ob i) v):∃a,v=.ref a/\ad[i]?=some a/\∃ob,h.get? a=some ob/\Oc W ad h a ob o:=by
 obtain⟨a,e1,rfl⟩:=q
 have e1:=Hb e1
 obtain⟨a',e2,z⟩:=r.get e
 replace e2:=e1▸e2;replace e2:=Option.some.inj e2;subst e2
 exact⟨a,rfl,e1,z.at hd⟩
end
section
variable {θ:Th}{Γ:Bk}{ad:List Addr}{sx:Sx}{s:Shared}{Y:Hp}
theorem Ms.gf(M:Ms θ Γ ad sx s):θ.W.n<=s.heap.objs.size:=by
 obtain⟨o,es,n,e,_⟩:=M.lo.obj
 exact Nat.le_of_lt (Nat.lt_of_le_of_lt M.lL.1 (Heap.lt_size e))
theorem Ms.fresh(M:Ms θ Γ ad sx s){a:Addr}(h:s.heap.objs.size<=a):θ.W.out ad a:=⟨λm=>absurd (M.r.lt _ m).2 (Nat.not_lt.mpr h),λm=>absurd (M.r.lf _ m).2 (Nat.not_lt.mpr h)⟩
theorem Ms.Yx(M:Ms θ Γ ad sx s){a:Addr}{h':Heap}(x:Fx a s.heap h')(n:Γ.env.locals≠a):∀m,s.heap.Ns Γ.env.locals m->h'.Ns Γ.env.locals m:=λuu q=>by
 obtain⟨o,es,ep,ho,r⟩:=q
 exact⟨o,es,ep,x.keep _ _ n ho,r⟩
theorem Ms.Dt(M:Ms θ Γ ad sx s){n:Nat}{a:Addr}(en:ad[n]?=some a):Γ.env.locals≠a:=λz=>M.nL (z▸List.mem_of_getElem? en)
theorem Ms.xD(M:Ms θ Γ ad sx s):Γ.env.locals≠s.heap.objs.size:=by
 obtain⟨o,es,n,e,_⟩:=M.lo.obj
 exact Nat.ne_of_lt (Heap.lt_size e)
theorem Ms.rt(M:Ms θ Γ ad sx s){n:Nat}{a:Addr}(en:ad[n]?=some a){h':Heap}(fx:Fx a s.heap h')(t:Nat):pb θ.W Γ.L ad s ad {s with heap:=h',toks:=t}:=⟨.refl,fx.fK (List.mem_of_getElem? en) λz=>M.Dt en z.symm,rfl⟩
theorem Ms.Rb(ok:θ.W.Ok)(M:Ms θ Γ ad sx s){n:Nat}{a:Addr}(en:ad[n]?=some a){h':Heap}(fx:Fx a s.heap h'){ao:AO}(t:Nat)(q:Ob θ.W ad h' a ao)(y:Y ad h'):Po θ Γ ad s ⟨sx.loc,sx.st.set n ao,sx.hs⟩ Y {s with heap:=h',toks:=t}:=
 have c:=M.rt en fx t
 ⟨ad,c,M.next ok c (M.r.set en fx c.k M.ke q) (M.lo.Ba .refl c.k M.ke (M.Yx fx (M.Dt en))),y⟩
theorem Ms.rb(M:Ms θ Γ ad sx s){h':Heap}(fx:Fx s.heap.objs.size s.heap h')(t:Nat):pb θ.W Γ.L ad s ad {s with heap:=h',toks:=t}:=⟨.refl,fx.Vl (zk _),rfl⟩
theorem Ms.Et(ok:θ.W.Ok)(M:Ms θ Γ ad sx s){h':Heap}(fx:Fx s.heap.objs.size s.heap h')(t:Nat)(y:Y ad h'):Po θ Γ ad s sx Y {s with heap:=h',toks:=t}:=
 have c:=M.rb fx t
 ⟨ad,c,M.next ok c (M.r.Ae fx (M.fresh (Nat.le_refl _)).1 c.k M.ke) (M.lo.Ba .refl c.k M.ke (M.Yx fx M.xD)),y⟩
theorem Ms.Ae(ok:θ.W.Ok)(M:Ms θ Γ ad sx s)(o:Obj)(t:Nat)(y:Y ad (s.heap.push o)):Po θ Γ ad s sx Y {s with heap:=s.heap.push o,toks:=t}:=M.Et ok (.push ..) t y
theorem Ms.ro(M:Ms θ Γ ad sx s)(o:Obj)(t:Nat):pb θ.W Γ.L ad s (ad++[s.heap.objs.size]) {s with heap:=s.heap.push o,toks:=t}:=⟨(rq (Nat.le_refl _)).w,(Fx.push s.heap.objs.size s.heap o).Vl (zk _),rfl⟩
theorem R.nm{W:Wd}{h:Heap}{st:St}(r:R W ad h st)(a:Addr):Db W.mv (ad++[a]) st.length=some a:=r.len▸yc (r.hi _ (Nat.le_refl _)) (Ct ..)
theorem Ms.nm(M:Ms θ Γ ad sx s)(a:Addr):Db θ.W.mv (ad++[a]) sx.st.length=some a:=M.r.nm a
theorem Ms.own(ok:θ.W.Ok)(M:Ms θ Γ ad sx s){o:Obj}(t:Nat){ao:AO}(hf:o.isFreed=false)(q:Oc θ.W (ad++[s.heap.objs.size]) (s.heap.push o) s.heap.objs.size o ao)(y:Y (ad++[s.heap.objs.size]) (s.heap.push o)):Po θ Γ ad s ⟨sx.loc,sx.st++[ao],sx.hs⟩ Y {s with heap:=s.heap.push o,toks:=t}:=
 have c:=M.ro o t
 have fx:=Fx.push s.heap.objs.size s.heap o
 ⟨_,c,M.next ok c (M.r.name (Wd.fresh M.ib (Nat.le_refl _)) (Nat.le_refl _) (by refine(Heap.size_push ..).symm▸?_;exact Nat.lt_succ_self _) fx c.k M.ke (.mk (Heap.get?_push_size _ hf) q)) (M.lo.Ba c.g c.k M.ke (M.Yx fx M.xD)),y⟩
end
end
section
variable {kz:Nat}
theorem sq(x:Str):Oa x x=true:=Je.mpr rfl
theorem Zx{x y:Str}(h:x≠y):Oa x y=false:=by
 rcases q:Oa x y with _|_
 ·rfl
 exact absurd (Je.mp q) h
def Hh{K:Type}(eq:K->K->Bool):Prop:=∀a b,eq a b=true<->a=b
theorem Zg:Hh Oa:=λuu uu=>Je
theorem Hh.ne{K:Type}{eq:K->K->Bool}(he:Hh eq){a b:K}(h:a≠b):eq a b=false:=by
 rcases q:eq a b with _|_
 ·rfl
 exact absurd ((he a b).mp q) h
theorem Hh.Ca{K:Type}[DecidableEq K]{eq:K->K->Bool}(he:Hh eq)(a b:K):eq a b=decide (a=b):=by
 by_cases h:a=b
 ·refine rt (decide_eq_true h ..) ?_;exact(he a b).mpr h
 ·refine rt (decide_eq_false h ..) ?_;exact he.ne h
section
variable {K V:Type}[DecidableEq K]{eq:K->K->Bool}(he:Hh eq)
include he
theorem yD(x:K)(v:V):∀l:List (K×V),(Uf eq x v l).map (·.1)=if x∈l.map (·.1) then l.map (·.1) else l.map (·.1)++[x]
 |[]=>rfl
 |p::r=>by
  refine(?_:List.map (·.1) (cond (eq p.1 x) ((p.1,v)::r) (p::Uf eq x v r))=_)
  refine rt (he.Ca ..) ?_
  by_cases h:p.1=x
  ·refine rt (decide_eq_true h ..) (rl (h ..) ?_)
   exact(if_pos (List.mem_cons_self ..)).symm
  ·refine rt (decide_eq_false h ..) ?_
   refine(?_:p.1::(Uf eq x v r).map (·.1)=_)
   refine rt (yD x v r ..) (rt (List.map_cons ..) ?_)
   by_cases q:x∈r.map (·.1)
   ·exact(if_pos q ..).symm▸(if_pos (List.mem_cons_of_mem _ q) ..).symm▸rfl
   ·refine rt (if_neg q ..) (rt (if_neg λz=>(List.mem_cons.mp z).elim (λe=>h e.symm) q ..) ?_);rfl
theorem zD(x:K)(v:V){l:List (K×V)}(h:(l.map (·.1)).Nodup):((Uf eq x v l).map (·.1)).Nodup:=by
 refine rt (yD he ..) ?_
 by_cases q:x∈l.map (·.1)
 ·refine rt (if_pos q ..) ?_;exact h
 ·refine rt (if_neg q ..) ?_
  exact List.nodup_append.mpr ⟨h,List.nodup_cons.mpr ⟨List.not_mem_nil,.nil⟩,λa ha b hb e=>q (List.mem_singleton.mp hb▸e▸ha)⟩
theorem Ft(x:K)(v:V)(y:K):∀l:List (K×V),Jc eq y (Uf eq x v l)=if y=x then some v else Jc eq y l
 |[]=>by
  refine(?_:cond (eq x y) (some v) none=_)
  refine rt (he.Ca ..) ?_
  by_cases h:y=x
  ·refine rt (if_pos h ..) (rt (decide_eq_true h.symm ..) ?_);rfl
  ·rw[if_neg h,decide_eq_false λz=>h z.symm];rfl
 |p::r=>by
  refine(?_:Jc eq y (cond (eq p.1 x) ((p.1,v)::r) (p::Uf eq x v r))=_)
  refine rt (he.Ca p.1 x ..) ?_
  by_cases hp:p.1=x
  ·refine rt (decide_eq_true hp ..) ?_
   refine(?_:cond (eq p.1 y) (some v) (Jc eq y r)=if y=x then some v else cond (eq p.1 y) (some p.2) (Jc eq y r))
   refine rt (he.Ca ..) (rt (hp ..) ?_)
   by_cases h:y=x
   ·refine rt (if_pos h ..) (rt (decide_eq_true h.symm ..) ?_);rfl
   ·rw[if_neg h,decide_eq_false λz=>h z.symm];rfl
  ·refine rt (decide_eq_false hp ..) ?_
   refine(?_:cond (eq p.1 y) (some p.2) (Jc eq y (Uf eq x v r))=if y=x then some v else cond (eq p.1 y) (some p.2) (Jc eq y r))
   refine rt (Ft x v y r ..) (rt (he.Ca ..) ?_)
   by_cases hy:p.1=y
   ·refine rt (decide_eq_true hy ..) ?_;exact(if_neg λz=>hp (hy.trans z)).symm
   ·refine rt (decide_eq_false hy ..) ?_;rfl
end
theorem ay{V:Type}(x:Str):∀l:List (Str×V),Jc Oa x l=l.lookup x
 |[]=>rfl
 |p::r=>by
  refine(?_:cond (Oa p.1 x) (some p.2) (Jc Oa x r)=_)
  rw[List.lookup_cons,ay x r,show(x==p.1)=Oa p.1 x from by rw[Zg.Ca];exact decide_eq_decide.mpr ⟨Eq.symm,Eq.symm⟩]
  induction Oa p.1 x using Bool.casesOn<;>rfl
noncomputable abbrev kd(x:Str)(l:List (Str×NameKind)):Option NameKind:=Jc Oa x l
noncomputable abbrev tq(x:Str)(l:List (Str×Nat)):Option Nat:=Jc Oa x l
theorem uq(x:Str)(l):kd x l=l.lookup x:=ay x l
theorem cy(x:Str)(l):tq x l=l.lookup x:=ay x l
theorem jK(x:Str)(v:SV)(y:Str)(l):lk y (pt x v l)=if y=x then some v else lk y l:=Ft Zg x v y l
theorem dy(M:Model)(Γ:Ctx)(E:Value->Pos->Shared->Prop)(p:Pos)(s:Shared){a:Addr}{m:Str->Option Value}(hn:s.heap.Ns a m)(name:Str)(v:Value)(Q:Unit->Pos->Shared->Prop):
  Sem.wp M Γ (nsSet a name v) Q E p s=Q () p {s with heap:=s.heap.update a (Obj.putName name (if name.cps.isEmpty=true then 0 else reduceHash (M.w.params.strHash name.cps)) (.str name s.toks) v),toks:=s.toks+1}:=by
 obtain⟨o,es,ep,ho,hd,hk,hm⟩:=hn
 simp only [nsSet,strHash,Sem.wp_bind',Sem.wp_cmd_ask,Sem.wp_pure',Sem.wp_cmd_mkText]
 refine rt (Sem.wp_loadPart_of M Γ E p {s with toks:=s.toks+1} (o:=o) _ ho ..) ?_
 have NC:es.any (·.refKey)=false:=by
  rw[Array.any_eq_false'];intro e he;obtain⟨n,t,h⟩:=hk e he;simp [DictEntry.refKey,h]
 simp only [hd,aRefKeyMayBeTheName_eq,aRefKeyMayBeTheNameByArray,NC,Bool.and_false,Bool.false_eq_true,if_false,Sem.wp_cmd_updatePart]
 simp [ho]
theorem kK(name:Str)(gn:Int)(key v:Value)(o:Obj):(Obj.putName name gn key v o).cls=o.cls:=by
 refine rt (Obj.putName_eq ..) ?_
 unfold Obj.putNameByArray
 obtain⟨c,d,dt,sl⟩:=o
 induction dt using Data.casesOn<;>simp<;>(try split)<;>rfl
theorem lK{M:Model}{A:Around}{E:Value->Shared->Prop}{s:Shared}{a:Addr}{m:Str->Option Value}{name:Str}{v:Value}{Q:Unit->Shared->Prop}(hn:s.heap.Ns a m)
  (h:∀h',h'.Ns a (λx=>if x=name then some v else m x)->Heap.SameBut a s.heap h'->(∀o,s.heap.get? a=some o->∃o',h'.get? a=some o'/\o'.cls=o.cls)->Q () {s with heap:=h',toks:=s.toks+1}):
  wpAny M A (nsSet a name v) Q E s:=λΓ p uu=>by
 refine rt (dy M Γ _ p s hn ..) ?_
 have z:=Sem.wp_nsSet M Γ (λuu uu uu=>True) p s hn name v (λuu uu s'=>s'.heap.Ns a (λx=>if x=name then some v else m x)) (λh' q uu=>q)
 replace z:=(dy M Γ _ p s hn ..)▸z
 refine h _ z (.update ..) λo ho=>?_
 obtain⟨o',es,n,e,r⟩:=z
 obtain⟨oo,CX,n0,e0,d0,_⟩:=hn
 replace e0:=ho▸e0
 replace e0:=Option.some.inj e0;subst e0
 refine⟨o',e,?_⟩
 have:=Heap.get?_update_self (Obj.putName name (if name.cps.isEmpty=true then 0 else reduceHash (M.w.params.strHash name.cps)) (.str name s.toks) v) ho (by
  refine rt (Obj.putName_eq ..) ?_;unfold Obj.putNameByArray;obtain⟨c,d,dt,sl⟩:=o;cases d0;dsimp only;split<;>rfl)
 replace e:=this▸e
 replace e:=Option.some.inj e;subst e
 exact kK ..
noncomputable abbrev It:Str:=Str.mk #[95,95,100,101,98,117,103,95,95]
theorem mK:("__debug__":Str)=It:=by decide+kernel
theorem nK{x:Str}(h:Oa x It=false):(x==("__debug__":Str))=false:=by
 refine rt mK ?_
 refine beq_eq_false_iff_ne.mpr λe=>?_
 replace h:=(sq ..)▸(e ..)▸h
 contradiction
def GV(W:Wd)(g:SV)(v:Value):Prop:=∀ad h,W.K.In h->(∀a∈ad,W.fr a)->(∀a∈W.fd,W.ff a)->V W ad h g v
noncomputable abbrev AD:Str:=Str.mk #[95,95,99,108,97,115,115,100,105,99,116,95,95]
noncomputable abbrev Rv(W:Wd):SV->Value->Hp:=λb v a h=>V W a h b v
noncomputable abbrev Uv:Unit->Unit->Hp:=λuu uu uu uu=>True
structure Jt(W:Wd)(x:Str)(g:SV):Prop where
 at_:∃v,(nsIn W.K mainGlobals x=some (some v)\/(nsIn W.K mainGlobals x=some none/\nsIn W.K builtinsNs x=some (some v)))/\GV W g v
structure ah where
 qual:Str
 params:List Str
 Xf:List SV
 body:List Stmt
 scope:Scope
 code:Option Addr
 deriving Inhabited
noncomputable def ah.me(fi:ah):Option (Addr×Str):=fi.code.map λc=>(c,fi.qual++Str.ofString ".<locals>.")
structure Tb where
 jf:Addr->Str->Bool
 kf:Addr->Str->Bool
 gl:Str->Option SV
 fn:Addr->Option ah
 me:Addr->Str->Option Addr
 zg:Addr->Option Addr
 cf:Addr->Str->Option Addr
 sd:Addr->Str->Option SV
 kp:Addr->Bool
 We:Addr->SV->Option Bool
 Ih:Nat->SV->Option Bool
 xm:Addr->SV->Option Bool
 pe:Addr->Option Addr
 cp:Addr->Bool
 xr:Addr->Bool
 ka:Addr->Str->Option SV
 cq:SV->Prop
 ct:Addr->Option Addr
noncomputable def AO.BD:AO->Option SV
 |.cell (some v)=>some v
 |_=>none
noncomputable def AO.oK:AO->Bool
 |.cell _=>true
 |_=>false
noncomputable def bh:ScopeKind->Bool
 |.function=>true
 |_=>false
namespace Rn
noncomputable def get{α:Type}(o:Sx->Option α):Rn α:=λs=>(o s).bind λa=>some (.ok a,s,[])
noncomputable def Kt:Const->Rn SV
 |.none=>Pure.pure .nn
 |.bool b=>Pure.pure (.bo b)
 |.int i=>Pure.pure (.it i)
 |.str s=>Pure.pure (.st s)
 |_=>qa
noncomputable def Cn(c:Cx)(x:Str):Rn SV:=get λs=>cond (Oa x AD) none ((tq x c.cells).bind λn=>(s.st[n]?).bind AO.BD)
noncomputable def pK(T:Tb)(c:Cx)(x:Str):NameKind->Rn SV
 |.local=>get λs=>lk x s.loc
 |.cell=>Cn c x
 |.free=>Cn c x
 |.globalImplicit=>get λuu=>T.gl x
 |_=>qa
noncomputable def Jh{α:Type}(c:Cx)(x:Str)(f:NameKind->Rn α):Rn α:=λs=>cond (bh c.scope.kind) ((kd x c.scope.names).bind λk=>f k s) none
noncomputable def loadName(T:Tb)(c:Cx)(x:Str):Rn SV:=Jh c x (pK T c x)
noncomputable def name(T:Tb)(c:Cx)(x:Str):Rn SV:=cond (Oa x It) qa (loadName T c x)
noncomputable def Xl(c:Cx)(x:Str)(v:SV):Rn Unit:=λs=>(tq x c.cells).bind λn=>(s.st[n]?).bind λo=>cond o.oK (some (.ok (),{s with st:=s.st.set n (.cell (some v))},[])) none
noncomputable def CD(c:Cx)(x:Str)(v:SV):NameKind->Rn Unit
 |.local=>λs=>some (.ok (),{s with loc:=pt x v s.loc},[])
 |.cell=>Xl c x v
 |.free=>Xl c x v
 |_=>qa
noncomputable def Kd(c:Cx)(x:Str)(v:SV):Rn Unit:=Jh c x (CD c x v)
end Rn
theorem AO.rK{o:AO}{v:SV}(e:o.BD=some v):o=.cell (some v):=by
 induction o using AO.casesOn with
 |cell x=>
  rcases x with _|x
  ·exact Fa e
  exact congrArg (AO.cell<|some ·) (Option.some.inj e)
 |_=>exact Fa e
theorem Ob.DD{W:Wd}{ad:List Addr}{h:Heap}{a:Addr}{o:AO}{y:SV}{G:Prop}(q:Ob W ad h a o)(e:o=.cell (some y))(f:∀v,h.get? a=some ⟨.type "cell",none,.cell (some v),#[]⟩->V W ad h y v->G):G:=by
 subst e
 exact q.elim λuu q=>q.2.elim λv z=>f v (z.1▸q.1) z.2
section
variable {θ:Th}{X:Hp}{T:Tb}{α β:Type}{rep:β->α->Hp}{t:PySem.Env->Sem α}
theorem So.get{o:Sx->Option β}(H:∀Γ ad sx s b,Ms θ Γ ad sx s->X ad s.heap->o sx=some b->∀Q E,(∀v,rep b v ad s.heap->∀t,Q v {s with toks:=t})->wpAny θ.W.m Γ.A (t Γ.env) Q E s):So θ X rep (Rn.get o) t:=λΓ ad sx s M x=>
 aa.Ea λb e uu=>H Γ ad sx s b M x e _ _ λuu z t=>⟨b,rfl,.same M z t⟩
theorem So.Kt{k:Const}{u:Nat}{p:Pos}:So θ X (Rv θ.W) (Rn.Kt k) (λenv=>eval (.Constant k u p) env):=by
 induction k using Const.casesOn with
 |none=>exact So.Cc λuu uu uu s uu uu uu uu f=>wpAny_pure (f .none rfl s.toks)
 |bool b=>exact So.Cc λuu uu uu s uu uu uu uu f=>wpAny_pure (f (.bool b) rfl s.toks)
 |int i=>exact So.Cc λuu uu uu s uu uu uu uu f=>wpAny_Constant_int (f _ ⟨_,rfl⟩ _)
 |str x=>exact So.Cc λuu uu uu s uu uu uu uu f=>Constant_str (f _ ⟨_,rfl⟩ _)
 |_=>exact So.qa
theorem wk{Γ:Bk}{ad:List Addr}{sx:Sx}{s:Shared}(M:Ms θ Γ ad sx s){x:Str}{k:NameKind}(hk:bh θ.c.scope.kind=true)(hx:kd x θ.c.scope.names=some k):Γ.env.scope.kind=.function/\Γ.env.kindOf x=some k:=
 ⟨by(refine rt (M.env.scope ..) ?_;revert hk;induction θ.c.scope.kind using ScopeKind.casesOn<;>first|exact λuu=>rfl|exact λh=>nomatch h),by unfold Env.kindOf;refine rt (M.env.scope ..) (rl (uq ..) ?_);exact hx⟩
theorem So.Jh{x:Str}{f:NameKind->Rn β}(H:∀k,bh θ.c.scope.kind=true->kd x θ.c.scope.names=some k->So θ X rep (f k) t):So θ X rep (Rn.Jh θ.c x f) t:=λΓ ad sx s M z=>
 aa.yb λh=>aa.Ea λk e=>H k h e Γ ad sx s M z
theorem Ms.gv{Γ:Bk}{ad:List Addr}{sx:Sx}{s:Shared}(M:Ms θ Γ ad sx s){g:SV}{v:Value}(z:GV θ.W g v):V θ.W ad s.heap g v:=z ad _ M.ib (λa m=>(M.r.lt a m).1) λa m=>(M.r.lf a m).1
theorem So.Cn{x:Str}{k:NameKind}(hk:bh θ.c.scope.kind=true)(OC:k=.cell\/k=.free)(hx:kd x θ.c.scope.names=some k):So θ X (Rv θ.W) (Rn.Cn θ.c x) (λenv=>PySem.loadName env x):=So.get λΓ ad sx s b M uu e Q E f=>by
 have w:=wk M hk hx
 revert e
 rcases hd:Oa x AD with _|_
 ·intro e
  refine(Option.bind_eq_some_iff.mp e).elim λn e=>(Option.bind_eq_some_iff.mp e.2).elim λo e2=>?_
  refine(M.env.cells x n (by refine(cy ..)▸?_;exact e.1)).elim λa ea=>?_
  refine(M.r.ob n a _ (Hb ea.1) e2.1).DD (AO.rK e2.2) λv g z=>?_
  have fin:=f v z s.toks
  rcases OC with rfl|rfl
  ·exact wpAny_loadName_cell w.1 w.2 ea.2 ⟨_,g,rfl⟩ fin
  ·exact wpAny_loadName_free w.1 w.2 ea.2 ⟨_,g,rfl⟩ fin (beq_eq_false_iff_ne.mpr λe=>by replace hd:=e▸hd;exact absurd hd (by decide+kernel))
 exact λe=>nomatch e
theorem So.loadName(hT:∀x g,T.gl x=some g->Jt θ.W x g){x:Str}:So θ X (Rv θ.W) (Rn.loadName T θ.c x) (λenv=>PySem.loadName env x):=So.Jh λk hk hx=>by
 induction k using NameKind.casesOn with
 |«local»=>
  exact So.get λΓ ad sx s b M uu e Q E f=>by
   have w:=wk M hk hx
   obtain⟨m,hn,q⟩:=M.lo
   have:=q x
   replace this:=e▸this
   obtain⟨v,e,z⟩:=this
   exact wpAny_loadName_local w.1 w.2 hn e (f v z s.toks)
 |cell=>exact So.Cn hk (.inl rfl) hx
 |free=>exact So.Cn hk (.inr rfl) hx
 |globalImplicit=>
  exact So.get λΓ ad sx s g M uu e Q E f=>by
   have w:=wk M hk hx
   obtain⟨v,z,gv⟩:=(hT x g e).at_
   have fin:=f v (M.gv gv) s.toks
   refine(?_:wpAny _ _ (PySem.loadName Γ.env x) _ _ _)
   refine rt (loadName_read w.1 w.2 ..) ?_
   unfold loadGlobal
   refine rt (M.env.globals ..) (rt (M.env.builtins ..) ?_)
   rcases z with z|⟨z0,z⟩
   ·exact wpAny_bind ((looks_nsIn M.ib z).here (wpAny_pure fin))
   ·exact wpAny_bind ((looks_nsIn M.ib z0).here (wpAny_bind ((looks_nsIn M.ib z).here (wpAny_pure fin))))
 |globalExplicit=>exact So.qa
theorem So.name(hT:∀x g,T.gl x=some g->Jt θ.W x g){x:Str}{p:Pos}:So θ X (Rv θ.W) (Rn.name T θ.c x) (λenv=>eval (.Name x p) env):=by
 unfold Rn.name
 rcases hd:Oa x It with _|_
 ·exact(So.loadName hT).map λΓ Q E s h=>wpAny_Name h (nK hd)
 exact So.qa
theorem Fx.ED{ad:List Addr}{L:Addr->Prop}{h h':Heap}{a:Addr}{o o':Obj}(x:Fx a h h')(q:L a)(e:h.get? a=some o)(e':h'.get? a=some o')(c:o'.cls=o.cls)(d:∃es n,o'.data=.dict es n):xb kz ad L h h':=
 ⟨x.size,λb o2 e2 uu n2 uu=>⟨o2,x.keep b o2 (λz=>n2 (z▸q)) e2,.refl o2⟩,λb o2 uu e2 uu n2=>x.keep b o2 (λz=>n2 (z▸q)) e2,λb o2 q2 e2=>by
  by_cases z:b=a
  ·subst z
   replace e2:=e▸e2
   replace e2:=Option.some.inj e2;subst e2
   exact⟨o',e',c,λuu=>d⟩
  ·exact⟨o2,x.keep b o2 z e2,rfl,id⟩,λT o ts fl e uu q2 h1 h2 h3=>⟨o,ts,fl,x.keep T o (λz=>q2 (z▸q)) e,h1,h2,h3⟩⟩
theorem So.Dn(ok:θ.W.Ok){x:Str}{v:SV}{w:Value}(hk:bh θ.c.scope.kind=true)(hx:kd x θ.c.scope.names=some .local)(hX:∀a h,X a h->V θ.W a h v w):So θ X Uv (Rn.CD θ.c x v .local) (λenv=>PySem.storeName env x w):=λΓ ad sx s M q=>aa.ok<|by
 refine(?_:wpAny _ _ (PySem.storeName Γ.env x w) _ _ s)
 obtain⟨m,hn,lo⟩:=M.lo
 have z:=wk M hk hx
 refine(storeName_local z.2 (by rw[z.1];rfl) ..).symm▸?_
 refine lK hn λh' hn' sb hc=>?_
 have fx:=Fx.ze sb
 obtain⟨o,es,n,ho,hd⟩:=Lo.obj M.lo
 obtain⟨o',Vg,af⟩:=hc o ho
 have c:pb θ.W Γ.L ad s ad {s with heap:=h',toks:=s.toks+1}:=⟨.refl,fx.ED rfl ho Vg af (hn'.elim λo2 y=>y.elim λjn y=>y.elim λn2 y=>sj y.1 Vg▸⟨jn,n2,y.2.1⟩),rfl⟩
 refine⟨(),rfl,ad,c,M.next ok c (M.r.Ae fx M.nL c.k M.ke) ⟨_,hn',λy=>?_⟩,trivial⟩
 refine(?_:match lk y (pt x v sx.loc) with|some sv=>_|none=>_)
 refine rt (jK ..) ?_
 have:=lo y
 by_cases hy:y=x
 ·refine rt (if_pos hy ..) (rt (if_pos hy ..) ?_)
  exact⟨w,rfl,c.v M (hX _ _ q)⟩
 ·refine rt (if_neg hy ..) ?_
  simp only [if_neg hy]
  revert this
  rcases lk y sx.loc with _|sv
  ·exact id
  exact λz=>z.elim λv z=>⟨v,z.1,c.v M z.2⟩
theorem So.Xl(ok:θ.W.Ok){x:Str}{v:SV}{w:Value}{k:NameKind}(hk:bh θ.c.scope.kind=true)(OC:k=.cell\/k=.free)(hx:kd x θ.c.scope.names=some k)(hX:∀a h,X a h->V θ.W a h v w):So θ X Uv (Rn.Xl θ.c x v) (λenv=>PySem.storeName env x w):=λΓ ad sx s M q=>
 aa.Ea λn e1=>aa.Ea λo ho=>aa.yb λhc uu=>by
  replace e1:=(cy ..)▸e1
  obtain⟨a,ea,ec⟩:=M.env.cells x n e1
  have ea:=Hb ea
  have z:=wk M hk hx
  have oo:=M.r.ob n a _ ea ho
  have:∃ov,s.heap.get? a=some ⟨.type "cell",none,.cell ov,#[]⟩:=by
   induction o using AO.casesOn with
   |cell y=>
    rcases y with _|y
    ·exact oo.elim λuu y=>⟨_,y.2▸y.1⟩
    exact oo.DD rfl λv g uu=>⟨_,g⟩
   |_=>exact ft hc
  refine this.elim λov oe=>?_
  have fx:Fx a s.heap (s.heap.update a λo=>{o with data:=.cell (some w)}):=Fx.update ..
  have fin:=M.Rb ok ea fx (ao:=.cell (some v)) (Y:=λuu uu=>True) s.toks (.mk (Heap.get?_update_self _ oe rfl) ⟨w,rfl,(M.rt ea fx s.toks).v M (hX _ _ q)⟩) trivial
  have go:∀{E},wpAny θ.W.m Γ.A (cellOf Γ.env x>>=λc=>cellSet c (some w)) (Qo θ Γ ad s Uv (.ok ()) _) E s:=wpAny_bind (wpAny_cellOf ec (wpAny_bind (wpAny_load oe (wpAny_update oe ⟨(),rfl,fin⟩))))
  refine(?_:wpAny _ _ (PySem.storeName Γ.env x w) _ _ _)
  unfold PySem.storeName
  rcases OC with rfl|rfl<;>(refine rt (z.1 ..) (rt (z.2 ..) ?_);exact go)
theorem So.storeName(ok:θ.W.Ok){x:Str}{v:SV}{w:Value}(hX:∀a h,X a h->V θ.W a h v w):So θ X Uv (Rn.Kd θ.c x v) (λenv=>PySem.storeName env x w):=So.Jh λk hk hx=>by
 induction k using NameKind.casesOn with
 |«local»=>exact So.Dn ok hk hx hX
 |cell=>exact So.Xl ok hk (.inl rfl) hx hX
 |free=>exact So.Xl ok hk (.inr rfl) hx hX
 |globalImplicit=>exact So.qa
 |globalExplicit=>exact So.qa
theorem So.bindName(ok:θ.W.Ok){x:Str}{v:SV}{w:Value}(hX:∀a h,X a h->V θ.W a h v w):So θ X Uv (Rn.Kd θ.c x v) (λenv=>PySem.bindName env x w):=(So.storeName ok hX).map λuu uu uu uu=>wpAny_bindName
end
end
section
variable {kz:Nat}
theorem V.iy{W:Wd}{ad:List Addr}{h:Heap}{x:SV}:∀{v},V W ad h x v->handedIn v=true:=by
 induction x using SV.rec (motive_2:=λuu=>True) with
 |no=>exact λq=>q.elim
 |bu s=>exact λq=>q.2
 |it i=>exact λq=>q.elim λuu q=>q▸rfl
 |st i=>exact λq=>q.elim λuu q=>q▸rfl
 |rg n=>exact λq=>by induction q using Rg.casesOn;rfl
 |ob i=>exact λq=>q.elim λuu q=>q.2▸rfl
 |tu l=>exact λq=>by induction q using fb.casesOn;rfl
 |fl l=>exact λq=>by induction q using fb.casesOn;rfl
 |cs x ih=>exact λq=>ih q.2
 |rw x=>exact λq=>q.1▸q.2
 |nil=>trivial
 |cons=>trivial
 |_=>exact λq=>q▸rfl
theorem FD(x y:Str)(t:Tok):(Value.str x t).isStr y=Oa x y:=by
 refine(?_:(x==y)=Oa x y)
 by_cases h:x=y
 ·subst h;simp [sq]
 ·refine rt (Zx h ..) ?_;exact beq_eq_false_iff_ne.mpr h
section
variable {W:Wd}{ad:List Addr}{h:Heap}{hs:Str->Int}{fs:List (Str×SV)}{es:List DictEntry}
theorem Ed.Ag(q:Es W ad h hs fs es):es.any (·.refKey)=false:=by
 induction q with
 |nil=>rfl
 |cons t k _ _ _ ih=>refine rt (List.any_cons ..) (rt (ih ..) ?_);simp [DictEntry.refKey,k]
theorem Ed.tK(q:Es W ad h hs fs es):∀e∈es,∃n t,e.key=.str n t:=by
 induction q with
 |nil=>exact λuu m=>nomatch m
 |cons t k _ _ _ ih=>exact λe m=>(List.mem_cons.mp m).elim (λz=>⟨_,t,z▸k⟩) (ih e)
theorem Ed.length{K:Type}{kv:K->Tok->Value}{hs:K->Int}{fs:List (K×SV)}(q:Ed W ad h kv hs fs es):es.length=fs.length:=by
 induction q with
 |nil=>rfl
 |cons _ _ _ _ _ ih=>exact(List.length_cons ..).symm▸(List.length_cons ..).symm▸(ih ..).symm▸rfl
theorem Ed.get{name:Str}(q:Es W ad h hs fs es):match lk name fs with
  |some sv=>∃v,getL name es=some (some v)/\V W ad h sv v
  |none=>getL name es=some none:=by
 have ky:=q.Ag
 have:match lk name fs with
  |some sv=>∃e,es.find? (·.key.isStr name)=some e/\V W ad h sv e.val
  |none=>es.find? (·.key.isStr name)=none:=by
  clear ky
  induction q with
  |nil=>exact rfl
  |@cons p l e r t k _ v _ ih=>
   refine rt (List.find?_cons ..) (rt (k ..) (rt (FD ..) ?_))
   refine(?_:match cond (Oa p.1 name) (some p.2) (lk name l) with|some sv=>_|none=>_)
   rcases Oa p.1 name with _|_
   ·exact ih
   exact⟨e,rfl,v⟩
 revert this
 unfold getL
 rcases lk name fs with _|sv
 ·exact λe=>by refine rt e (rt ky ?_);rfl
 exact λz=>z.elim λe z=>⟨_,by exact z.1.symm▸rfl,z.2⟩
theorem Ed.dh{name:Str}{sv:SV}{v:Value}(t:Tok)(x:V W ad h sv v)(q:Es W ad h hs fs es):Es W ad h hs (pt name sv fs) (putL name (hs name) (.str name t) v es):=by
 induction q with
 |nil=>exact .cons t rfl rfl x .nil
 |@cons p l e r u k c w z ih=>
  refine(?_:Ed _ _ _ _ _ (cond (Oa p.1 name) ((p.1,sv)::l) (p::pt name sv l)) (if e.key.isStr name=true then _ else _))
  refine rt (k ..) (rt (FD ..) ?_)
  rcases Oa p.1 name with _|_
  ·exact .cons u k c w ih
  exact .cons u rfl c x z
end
theorem jy(name:Str)(gn:Int)(key v:Value):∀es:List DictEntry,(putL name gn key v es).length<=es.length+1
 |[]=>Nat.le_refl _
 |e::r=>by
  unfold putL
  split
  ·simp
  ·have:=jy name gn key v r
   simp only [List.length_cons]
   lia
theorem GD{M:Model}{A:Around}{E:Value->Shared->Prop}{s:Shared}{a:Addr}{m:Str->Option Value}{name:Str}{v:Value}{Q:Unit->Shared->Prop}(hn:s.heap.Ns a m)
  (h:Q () {s with heap:=s.heap.update a (Obj.putName name (if name.cps.isEmpty=true then 0 else reduceHash (M.w.params.strHash name.cps)) (.str name s.toks) v),toks:=s.toks+1}):wpAny M A (nsSet a name v) Q E s:=λΓ p uu=>by
 refine rt (dy M Γ _ p s hn ..) ?_
 exact h
theorem HD{h:Heap}{a:Addr}{es:List DictEntry}{n:Nat}(e:h.get? a=some (dictOf es n))(k:∀e∈es,∃n t,e.key=.str n t):h.Ns a (nsFind es.toArray):=
 ⟨_,es.toArray,n,e,rfl,λe m=>k e (by simpa using m),λuu=>rfl⟩
noncomputable def Mt(s:String):Value->Bool
 |.type a=>a==s
 |_=>false
noncomputable def ly:Value->Bool
 |.ref _=>true
 |_=>false
noncomputable def ID:List Value->Bool
 |a::b::c::r=>Mt "Exception" a&&(Mt "BaseException" b&&(Mt "object" c&&r.isEmpty))
 |_=>false
noncomputable def exOver:List Value->Bool
 |[]=>false
 |v::r=>cond (ly v) (exOver r) (ID (v::r))
theorem ny{s:String}{v:Value}(h:Mt s v=true):v=.type s:=by
 induction v using Value.casesOn<;>first|exact congrArg Value.type (beq_iff_eq.mp h)|exact ft h
theorem uK{v:Value}(h:ly v=true):∃a,v=.ref a:=by
 induction v using Value.casesOn<;>first|exact⟨_,rfl⟩|exact ft h
theorem vK{l:List Value}(h:ID l=true):l=[.type "Exception",.type "BaseException",.type "object"]:=by
 rcases l with _|⟨a,l⟩
 ·exact ft h
 rcases l with _|⟨b,l⟩
 ·exact ft h
 rcases l with _|⟨c,l⟩
 ·exact ft h
 have h:=Bool.and_eq_true_iff.mp h
 have h2:=Bool.and_eq_true_iff.mp h.2
 have h3:=Bool.and_eq_true_iff.mp h2.2
 exact(ny h.1 ..).symm▸(ny h2.1 ..).symm▸(ny h3.1 ..).symm▸(List.isEmpty_iff.mp h3.2 ..).symm▸rfl
theorem oy:∀{l:List Value},exOver l=true->∃as:List Addr,l=as.map Value.ref++[.type "Exception",.type "BaseException",.type "object"]
 |[],h=>ft h
 |v::r,h=>by
  unfold exOver at h
  rcases hv:ly v with _|_
  ·exact⟨[],vK (by replace h:=hv▸h;exact h)⟩
  replace h:=hv▸h
  exact(uK hv).elim λa e=>(oy h).elim λas e'=>⟨a::as,by refine rt e (rt e' ?_);rfl⟩
theorem JD(self:Value):∀as:List Addr,refuseLoop self "__setattr__" (as.map Value.ref++[.type "Exception",.type "BaseException",.type "object"])=Pure.pure ()
 |[]=>PySem.F.store_Exception.passes self
 |c::as=>by
  refine(?_:refuseLoop self "__setattr__" (.ref c::(as.map Value.ref++_))=_)
  refine rt (refuseLoop_ref ..) ?_;exact JD self as
section
variable {prog:Program}{w:World}{A:Around}{s:Shared}{K:Frag}{x C:Addr}{R:Result->Shared->Prop}
open PySem.Builtin PySem.Builtin.ObjectAttr in
theorem LD{ox:Obj}{od:Option Obj}{name:Str}{tk:Tok}{v:Value}{r:Option Value}(X:K.In s.heap)(I:InstAt s.heap x ox C od)(hp:(clsIn K C).any (λcd=>onlyObject cd.mro||exOver cd.mro)=true)(ht:takerIn K C name=some r)
  (h:∀b,wpAny (model prog w) A.in1 (match r with|some a=>setByDescriptor a (.ref x) v|none=>storeInOwnDict (.ref x) (.ref C) (.str name tk) name v b)
   (λfin s'=>match fin with|.done f=>R (.ok f) s'|.again c'=>c'.quiet=true/\codeAny (model prog w) A c' R s') (λe s'=>R (.error e) s') s):
  codeAny (model prog w) A (.call (.builtin "object.__setattr__") ⟨[.ref x,.str name tk,v],[]⟩) R s:=by
 obtain⟨cd,hc,ho⟩:=any_some hp
 have pass:refuseLoop (.ref x) "__setattr__" cd.mro=Pure.pure ():=(Bool.or_eq_true_iff.mp ho).elim (refuse_only _) λz=>(oy z).elim λas e=>by refine rt e ?_;exact JD _ as
 have has:cd.mro.contains (.type "object")=true:=(Bool.or_eq_true_iff.mp ho).elim only_has λz=>(oy z).elim λas e=>by rw[e,List.contains_iff_mem];exact List.mem_append_right _ (.tail _ (.tail _ (.head _)))
 have ne:cd.mro.isEmpty=false:=by induction q:cd.mro using List.casesOn with|nil=>replace has:=q▸has;contradiction|cons _ _=>rfl
 have SF:=PySem.F.store_object
 have sV:Looks (model prog w) s.heap (mroOf (.ref C)) cd.mro:=(looks_clsIn X hc).andThen .now
 have isObj:Looks (model prog w) s.heap (isInstance (.ref x) (.type "object")) true:=I.type.andThen (looks_mroIn X (by unfold mroIn;rw[hc,Option.bind_some,if_neg (by refine rt ne ?_;decide),has]))
 obtain⟨pi,ha,hr⟩:=Option.bind_eq_some_iff.mp ht
 have tV:Looks (model prog w) s.heap (storeTaker? pi) r:=by
  rcases pi with _|a
  ·cases hr;exact .now
  obtain⟨b,hb,rfl⟩:=Option.map_eq_some_iff.mp hr
  exact(looks_takesIn X hb).andThen (by induction b using Bool.casesOn<;>exact .now)
 refine codeAny_call_builtin SF.slot.plain SF.entry (@check_slot (model prog w) _ _ s "object.__setattr__" "object" "__setattr__" (.ref x) [.str name tk,v] [] _ SF.kind SF.split isObj (SF.args (.ref x) (.str name tk) v) ?_)
 refine rt (osa_eq ..) (rt (refuse_eq ..) ?_)
 refine wpAny_bind (wpAny_bind (I.type.here (wpAny_bind (sV.here ?_))))
 refine rt pass ?_
 exact wpAny_pure (wpAny_bind (I.type.here (wpAny_bind ((looks_findIn X ha).here (wpAny_bind (tV.here (h _)))))))
end
noncomputable abbrev Yl:String:="BaseException.__getattribute__"
theorem wK:builtinKind Yl=some .slot:=by decide+kernel
theorem yK:splitId Yl=some ("BaseException","__getattribute__"):=by kernel_rfl
section
open PySem.Builtin PySem.Builtin.ObjectAttr
variable {prog:Program}{w:World}{A:Around}{E:Value->Shared->Prop}{s:Shared}{K:Frag}{x C:Addr}{ox:Obj}{od:Option Obj}{name:Str}{expr:Bool}{Q:Value->Shared->Prop}
theorem zK{v:Value}{hk:Option Value}(X:K.In s.heap)(I:InstAt s.heap x ox C od)(uV:findIn K (.ref C) "__getattribute__"=some (some (.builtin Yl)))(PC:findIn K (.ref C) "__getattr__"=some hk)(vV:mroIn K C (.type "BaseException")=some true)
  (hf:findObj K C od name=some (.value v)) (hh:handedIn v=true) (h:Q v {s with toks:=s.toks+1}):wpAny (model prog w) A (getAttr (.ref x) name expr) Q E s:=by
 obtain⟨hp,g,d,t,os⟩:=s
 have L0:=I.type (M:=model prog w)
 have L1:=looks_findIn (M:=model prog w) X uV
 have L2:=looks_findIn (M:=model prog w) X PC
 have L3:=looks_find (M:=model prog w) X I hf
 unfold getAttr getAttrBy
 refine wpAny_bind (wpAny_mkText (wpAny_holding (wpAny_bind (L0.at (wpAny_bind (L1.at ?_))))))
 refine(?_:wpAny _ _ (getAttrByItsOwn _ _ _ _ _ _) _ _ _)
 unfold getAttrByItsOwn hookBefore
 refine wpAny_bind ?_
 refine rt (if_pos (show onTheHeap (.ref C)=true from rfl) ..) ?_
 refine L2.at (wpAny_bind (wpAny_attempt (wpAny_holding ?_)))
 unfold callGetattribute boundAndCalled
 rw[show(expr&&onTheHeap (Value.builtin Yl))=false from by induction expr using Bool.casesOn<;>rfl,if_neg (by decide)]
 refine wpAny_bind (wpAny_of_eq (PySem.F.excAttr_ValueError.ga.bind (.ref x)) ?_)
 have wV:Looks (model prog w) hp (isInstance (.ref x) (.type "BaseException")) true:=L0.andThen (looks_mroIn X vV)
 refine wpAny_call (codeAny_call_builtin PySem.F.excAttr_ValueError.ga.plain PySem.F.entry_bexc_ga (@check_slot (model prog w) _ _ ⟨hp,g,d,t+1,os⟩ Yl "BaseException" "__getattribute__" (.ref x) [.str name t] [] _ wK yK wV (PySem.F.args_bexc_ga (.ref x) (.str name t)) ?_))
 have tp:Looks (model prog w) hp (typeOf (.ref x)) (.ref C):=L0
 refine(?_:wpAny _ _ (typeOf (.ref x)>>=_) _ _ _)
 refine wpAny_bind (tp.at (wpAny_bind (L3.at ?_)))
 refine wpAny_pure ?_
 refine(?_:wpAny _ _ (handedOut v) _ _ _)
 refine rt (handedOut_of hh ..) ?_;exact wpAny_pure h
end
structure vq(W:Wd)(C:Addr)(name:Str):Prop where
 pg:plainGet W.K C name=true\/(findIn W.K (.ref C) "__getattribute__"=some (some (.builtin Yl))/\(∃hk,findIn W.K (.ref C) "__getattr__"=some hk)/\mroIn W.K C (.type "BaseException")=some true)
 hd:hasDictIn W.K C=true
 ng:∃pi,findIn W.K (.ref C) name=some pi/\noGet W.K pi=true
structure Gn(W:Wd)(C:Addr)(name:Str):Prop where
 sa:findIn W.K (.ref C) "__setattr__"=some (some (.builtin "object.__setattr__"))
 po:(clsIn W.K C).any (λcd=>onlyObject cd.mro||exOver cd.mro)=true
 tk:takerIn W.K C name=some none
 hd:hasDictIn W.K C=true
section
variable {W:Wd}{A:Around}{s:Shared}{x dx C:Addr}{es:List DictEntry}{n:Nat}{name:Str}{v:Value}{E:Value->Shared->Prop}
theorem AK{h:Heap}{ox:Obj}(hx:h.get? x=some ox)(hc:ox.cls=.ref C)(hd:ox.dict=some dx)(hn:notCls ox=true)(e:h.get? dx=some (dictOf es n)):InstAt h x ox C (some (dictOf es n)):=⟨hx,hc,hn,by refine rt hd ?_;exact e⟩
theorem MD{expr:Bool}{Q:Value->Shared->Prop}(f:vq W C name)(K:W.K.In s.heap){ox:Obj}(I:InstAt s.heap x ox C (some (dictOf es n)))(g:getL name es=some (some v))(hv:handedIn v=true)
  (h:Q v {s with toks:=s.toks+1}):wpAny W.m A (getAttr (.ref x) name expr) Q E s:=by
 obtain⟨pi,a,b⟩:=f.ng
 rcases f.pg with pg|⟨p1,⟨hk,p2⟩,p3⟩
 ·exact get_value K I (plainGet_of pg).1 (findObj_own f.hd a b g) hv h
 ·exact zK K I p1 p2 p3 (findObj_own f.hd a b g) hv h
theorem BK{Q:Unit->Shared->Prop}(f:Gn W C name)(K:W.K.In s.heap){ox:Obj}(I:InstAt s.heap x ox C (some (dictOf es n)))(hd:ox.dict=some dx)(k:∀e∈es,∃n t,e.key=.str n t)(hz:es.length<=1000)
  (h:∀t,Q () {s with heap:=s.heap.update dx (Obj.putName name (W.hs name) (.str name t) v),toks:=s.toks+2}):wpAny W.m A (setAttr (.ref x) name v) Q E s:=by
 refine set_plain K I f.sa (LD (s:={s with toks:=s.toks+1}) K I f.po f.tk λb=>?_)
 obtain⟨cd,hc,Ie⟩:=any_some (show(clsIn W.K C).any (·.hasDict)=true from f.hd)
 have D:s.heap.get? dx=some (dictOf es n):=by have:=I.dict;replace this:=hd▸this;exact this
 have hn:=HD D k
 obtain⟨hx,af,DX,-⟩:=I
 obtain⟨oc,EX,FX,GX⟩:=ox
 dsimp only at af hd
 subst af hd
 refine wpAny_bind (wpAny_pure (wpAny_bind (wpAny_bind (wpAny_loadPart hx (wpAny_bind ((looks_clsIn (h:=s.heap) K hc).at ?_))))))
 refine rt Ie ?_
 refine wpAny_pure (a:=some dx) (wpAny_bind (wpAny_pure (wpAny_bind ?_)))
 have hh:W.hs name=(if name.cps.isEmpty=true then 0 else reduceHash (W.w.params.strHash name.cps)):=rfl
 refine GD (s:={s with toks:=s.toks+1}) hn ?_
 have D':=Heap.get?_update_self (Obj.putName name (W.hs name) (.str name (s.toks+1)) v) D (by refine rt (putName_dict ..) ?_;rfl)
 replace D':=(putName_dict ..)▸D'
 refine wpAny_bind (wpAny_lookBehind (o:=dictOf (putL name (W.hs name) (.str name (s.toks+1)) v es) (putN name es n)) D' (pastItsLine_dict (by
  refine rt List.size_toArray (rt sizeLine_eq ?_)
  have:(putL name (W.hs name) (.str name (s.toks+1)) v es).length<=es.length+1:=jy ..
  lia)) (wpAny_pure (h _)))
end
section
variable {W:Wd}{A:Around}{s:Shared}{x C:Addr}{name:Str}{v:Value}{E:Value->Shared->Prop}
theorem CK{Q:Unit->Shared->Prop}{vs:Array Value}(f:Gn W C name)(K:W.K.In s.heap)(hx:s.heap.get? x=some ⟨.ref C,none,.fields vs,#[]⟩)
  (h:∀t,Q () {s with heap:=((s.heap.push emptyDict).update x (λo=>{o with dict:=some s.heap.objs.size})).update s.heap.objs.size (Obj.putName name (W.hs name) (.str name t) v),toks:=s.toks+2}):wpAny W.m A (setAttr (.ref x) name v) Q E s:=by
 have I:InstAt s.heap x ⟨.ref C,none,.fields vs,#[]⟩ C none:=⟨hx,rfl,rfl,trivial⟩
 refine set_plain K I f.sa (LD (s:={s with toks:=s.toks+1}) K I f.po f.tk λb=>?_)
 obtain⟨cd,hc,Ie⟩:=any_some (show(clsIn W.K C).any (·.hasDict)=true from f.hd)
 refine wpAny_bind (wpAny_pure (wpAny_bind (wpAny_bind (wpAny_loadPart hx (wpAny_bind ((looks_clsIn (h:=s.heap) K hc).at ?_))))))
 refine rt Ie ?_
 have xV:(s.heap.push emptyDict).get? x=some ⟨.ref C,none,.fields vs,#[]⟩:=Heap.get?_push_of_some _ hx
 have Sp:x≠s.heap.objs.size:=Nat.ne_of_lt (Heap.lt_size hx)
 refine wpAny_bind (wpAny_alloc' ?_)
 refine wpAny_bind (wpAny_update' xV ?_)
 refine wpAny_pure ?_
 have hJ:((s.heap.push emptyDict).update x λo=>{o with dict:=some s.heap.objs.size}).get? s.heap.objs.size=some (dictOf [] 0):=(Heap.get?_update_ne _ _ _ _ Sp.symm).trans (Heap.get?_push_at rfl rfl)
 have hn:=HD (es:=[]) hJ (λe m=>by simp at m)
 refine(?_:wpAny _ _ (PySem.Builtin.ObjectAttr.storeInDict s.heap.objs.size (.str name _) name v) _ _ _)
 refine wpAny_bind (wpAny_pure (wpAny_bind ?_))
 refine GD (s:={s with toks:=s.toks+1,heap:=(s.heap.push emptyDict).update x λo=>{o with dict:=some s.heap.objs.size}}) hn ?_
 have D':=Heap.get?_update_self (Obj.putName name (W.hs name) (.str name (s.toks+1)) v) hJ (by refine rt (putName_dict ..) ?_;rfl)
 replace D':=(putName_dict ..)▸D'
 refine wpAny_bind (wpAny_lookBehind (o:=dictOf (putL name (W.hs name) (.str name (s.toks+1)) v []) (putN name [] 0)) D' (pastItsLine_dict (by
  refine rt List.size_toArray (rt sizeLine_eq ?_)
  have:(putL name (W.hs name) (.str name (s.toks+1)) v []).length<=([]:List DictEntry).length+1:=jy ..
  simp at this
  lia)) (wpAny_pure (h _)))
end
noncomputable def AO.wq:AO->Option (Addr×Nat)
 |.bc C d=>some (C,d)
 |.jb C d _=>some (C,d)
 |_=>none
noncomputable def AO.py:AO->Option (List (Str×SV))
 |.ns fs=>some fs
 |_=>none
noncomputable def AO.ND:AO->Option Addr
 |.Fh C=>some C
 |_=>none
noncomputable def SV.mf:SV->Option Nat
 |.ob n=>some n
 |_=>none
theorem AO.OD{o:AO}{fs:List (Str×SV)}(e:o.py=some fs):o=.ns fs:=by
 induction o using AO.casesOn<;>first|exact congrArg AO.ns (Option.some.inj e)|exact Fa e
theorem AO.PD{o:AO}{C:Addr}(e:o.ND=some C):o=.Fh C:=by
 induction o using AO.casesOn<;>first|exact congrArg AO.Fh (Option.some.inj e)|exact Fa e
theorem SV.Bg{o:SV}{n:Nat}(e:o.mf=some n):o=.ob n:=by
 induction o using SV.casesOn<;>first|exact congrArg SV.ob (Option.some.inj e)|exact Fa e
namespace Rn
noncomputable def xq(st:St)(x:SV):Option (Addr×Nat):=x.mf.bind λi=>(st[i]?).bind AO.wq
noncomputable def Jn(st:St)(d:Nat):Option (List (Str×SV)):=(st[d]?).bind AO.py
noncomputable def getAttr(T:Tb)(x:SV)(name:Str):Rn SV:=get λs=>(xq s.st x).bind λp=>(Jn s.st p.2).bind λfs=>cond (T.jf p.1 name) (lk name fs) none
noncomputable def yq(st:St)(x:SV):Option (Addr×Nat):=x.mf.bind λi=>(st[i]?).bind λo=>o.ND.bind λC=>some (C,i)
noncomputable def qy(T:Tb)(name:Str)(v:SV)(p:Addr×Nat):Rn Unit:=λs=>cond (T.kf p.1 name) (some (.ok (),{s with st:=((s.st++[AO.ns []]).set p.2 (.jb p.1 s.st.length false)).set s.st.length (.ns [(name,v)])},[])) none
noncomputable def QD(T:Tb)(x:SV)(name:Str)(v:SV):Rn Unit:=λs=>(xq s.st x).bind λp=>(Jn s.st p.2).bind λfs=>cond (T.kf p.1 name&&Nat.ble fs.length 900) (some (.ok (),{s with st:=s.st.set p.2 (.ns (pt name v fs))},[])) none
noncomputable def setAttr(T:Tb)(x:SV)(name:Str)(v:SV):Rn Unit:=λs=>match yq s.st x with
 |some p=>qy T name v p s
 |none=>QD T x name v s
end Rn
section
variable {θ:Th}{Γ:Bk}{X:Hp}{T:Tb}{ad:List Addr}{sx:Sx}{s:Shared}
theorem Ms.ins(M:Ms θ Γ ad sx s){x:SV}{p:Addr×Nat}{fs:List (Str×SV)}{v:Value}{G:Prop}(e:Rn.xq sx.st x=some p)(e':Rn.Jn sx.st p.2=some fs)(q:V θ.W ad s.heap x v)
  (K:∀a da ox es n,v=.ref a->ad[p.2]?=some da->InstAt s.heap a ox p.1 (some (dictOf es n))->ox.dict=some da->s.heap.get? da=some (dictOf es n)->Es θ.W ad s.heap θ.W.hs fs es->(fs.map (·.1)).Nodup->G):G:=
 obs e λi e1 e=>obs e λo e2 e3=>obs e' λo' e4 e5=>by
  replace q:=(SV.Bg e1 ..)▸q
  replace e4:=(AO.OD e5 ..)▸e4
  refine(M.r.get e4).elim λda z=>z.2.elim λuu y=>y.2.elim λes w=>w.elim λn w=>?_
  have eo:s.heap.get? da=some (dictOf es n):=w.1▸y.1
  have go:∀{a ob dt},v=Value.ref a->s.heap.get? a=some ob->ob=⟨.ref p.1,some da,dt,#[]⟩->notCls ⟨.ref p.1,some da,dt,#[]⟩=true->G:=λhv g ho nc=>K _ da _ es n hv z.1 ⟨ho▸g,rfl,nc,eo⟩ rfl eo w.2.1 w.2.2
  have at_:=λhd=>M.r.at e2 hd q
  induction o using AO.casesOn with
  |bc C d=>cases e3;exact(at_ λz=>nomatch z).elim λa y=>y.2.2.elim λob u=>u.2.elim λuu w=>go y.1 u.1 (sj z.1 w.1▸w.2) rfl
  |jb C d tb=>cases e3;exact(at_ λz=>nomatch z).elim λa y=>y.2.2.elim λob u=>u.2.elim λuu w=>w.elim λuu w=>go y.1 u.1 (sj z.1 w.1▸w.2.1) rfl
  |_=>exact Fa e3
theorem So.getAttr(hT:∀C n,T.jf C n=true->vq θ.W C n){x:SV}{v:Value}{name:Str}{ex:Bool}(hX:∀a h,X a h->V θ.W a h x v):
  So θ X (Rv θ.W) (Rn.getAttr T x name) (λuu=>PySem.getAttr v name ex):=So.get λΓ ad sx s b M q e Q E f=>
 obs e λp e1 e=>obs e λfs e2 e=>M.ins e1 e2 (hX _ _ q) λa da ox es n hv ed I hd eo hE uu=>by
  revert e
  rcases hf:T.jf p.1 name with _|_
  ·exact Fa
  intro e
  have:=hE.get (name:=name)
  replace this:=(show lk name fs=some b from e)▸this
  refine rt hv ?_
  exact this.elim λw z=>MD (hT _ _ hf) M.ib I z.1 z.2.iy (f w z.2 _)
theorem RD{W:Wd}{h:Heap}{d:Addr}{es:List DictEntry}{n:Nat}{name:Str}{w:Value}(t:Tok)(e:h.get? d=some (dictOf es n)):(h.update d (Obj.putName name (W.hs name) (.str name t) w)).get? d=some (dictOf (putL name (W.hs name) (.str name t) w es) (putN name es n)):=by
 have:=Heap.get?_update_self (Obj.putName name (W.hs name) (.str name t) w) e (by refine rt (putName_dict ..) ?_;rfl)
 replace this:=(putName_dict ..)▸this
 exact this
theorem DK(ok:θ.W.Ok)(hT:∀C n,T.kf C n=true->Gn θ.W C n){p:Addr×Nat}{sv:SV}{v w:Value}{name:Str}(M:Ms θ Γ ad sx s)(es:sx.st[p.2]?=some (.Fh p.1))(q1:V θ.W ad s.heap (.ob p.2) v)(q2:V θ.W ad s.heap sv w):
  Gl θ Γ ad s Uv (Rn.qy T name sv p sx) (PySem.setAttr v name w) s:=aa.yb λhf=>aa.ok<|by
 refine(M.r.at es (λz=>nomatch z) q1).elim λa z=>z.2.2.elim λob y=>y.2.elim λvs u=>?_
 have g:=u.1▸y.1
 refine rt z.1 ?_
 refine CK (hT _ _ hf) M.ib g λt=>?_
 obtain⟨_,c1,M1,rfl⟩:=M.own ok (o:=emptyDict) (ao:=.ns []) (Y:=λa uu=>a=ad++[s.heap.objs.size]) s.toks rfl ⟨[],0,rfl,.nil,List.nodup_nil⟩ rfl
 have ed:=Hb (M.nm s.heap.objs.size)
 obtain⟨_,c2,M2,rfl⟩:=M1.Rb ok ((rq (h:=s.heap) (Nat.le_refl _)).get _ _ z.2.1) (Fx.update a _ λo=>{o with dict:=some s.heap.objs.size}) (ao:=.jb p.1 sx.st.length false) (Y:=λa uu=>a=ad++[s.heap.objs.size]) s.toks
  (.mk (Heap.get?_update_self _ (Heap.get?_push_of_some _ g) rfl) ⟨s.heap.objs.size,vs,ed,rfl,u.2.2.2,_,u.2.2.1,rfl⟩) rfl
 have c:=c1.trans c2
 have fy:=Fx.update s.heap.objs.size ((s.heap.push emptyDict).update a λo=>{o with dict:=some s.heap.objs.size}) (Obj.putName name (θ.W.hs name) (.str name t) w)
 exact⟨(),rfl,(M2.Rb ok ed fy (ao:=.ns [(name,sv)]) (s.toks+2) (.mk (RD t ((Heap.get?_update_other _ _ (Nat.ne_of_lt (Heap.lt_size g))).trans (Heap.get?_push_size _ rfl))) ⟨_,_,rfl,.cons t rfl rfl ((c.trans (M2.rt ed fy (s.toks+2))).v M q2) .nil,List.nodup_cons.mpr ⟨List.not_mem_nil,List.nodup_nil⟩⟩) trivial).Pa c⟩
theorem So.setAttr(ok:θ.W.Ok)(hT:∀C n,T.kf C n=true->Gn θ.W C n){x sv:SV}{v w:Value}{name:Str}(hX:∀a h,X a h->V θ.W a h x v/\V θ.W a h sv w):
  So θ X Uv (Rn.setAttr T x name sv) (λuu=>PySem.setAttr v name w):=λΓ ad sx s M q=>by
 refine(?_:aa (match Rn.yq sx.st x with|some p=>Rn.qy T name sv p sx|none=>Rn.QD T x name sv sx) _)
 have q:=hX _ _ q
 rcases hp:Rn.yq sx.st x with _|p
 ·exact aa.Ea λp e1=>aa.Ea λfs e2=>aa.yb λhf=>aa.ok<|M.ins e1 e2 q.1 λa da ox es n hv ed I hd eo hE hN=>by
   have hf:=Bool.and_eq_true_iff.mp hf
   refine rt hv ?_
   refine BK (hT _ _ hf.1) M.ib I hd hE.tK (by refine(hE.length ..).symm▸?_;exact Nat.le_trans (Nat.le_of_ble_eq_true hf.2) (by decide)) λt=>?_
   have fx:=Fx.update da s.heap (Obj.putName name (θ.W.hs name) (.str name t) w)
   have c:=M.rt ed fx (s.toks+2)
   exact⟨(),rfl,M.Rb ok ed fx _ (.mk (RD t eo) ⟨_,_,rfl,(hE.imp λuu uu=>c.v M).dh t (c.v M q.2),zD Zg name sv hN⟩) trivial⟩
 exact obs hp λi e1 e=>obs e λo es e=>obs e λC e3 e=>by
  replace q:=(SV.Bg e1 ..)▸q
  replace es:=(AO.PD e3 ..)▸es
  replace e:=Option.some.inj e;subst e
  exact DK ok hT M es q.1 q.2
end
end
section
variable {kz:Nat}
theorem Vs.length{W:Wd}{ad:List Addr}{h:Heap}:∀{l:List SV} {vs:List Value},Vs W ad h l vs->vs.length=l.length
 |[],_,q=>by refine rt (show _=[] from q) ?_;rfl
 |_::_,_,q=>by induction(q:Ta ..) using Ta.casesOn with|mk v r _ z=>exact(List.length_cons ..).symm▸(List.length_cons ..).symm▸(Vs.length z ..).symm▸rfl
noncomputable def SV.Kc:SV->Option Int
 |.it i=>some i
 |_=>none
noncomputable def SV.ti:SV->Option Str
 |.st i=>some i
 |_=>none
theorem SV.Zf{o:SV}{n:Int}(e:o.Kc=some n):o=.it n:=by
 induction o using SV.casesOn<;>first|exact congrArg SV.it (Option.some.inj e)|exact Fa e
theorem SV.Zl{o:SV}{n:Str}(e:o.ti=some n):o=.st n:=by
 induction o using SV.casesOn<;>first|exact congrArg SV.st (Option.some.inj e)|exact Fa e
namespace Rn
noncomputable def ry(n k:Nat){α:Type}(m:Rn α):Rn α:=λs=>cond (Nat.ble n k) (m s) none
noncomputable def newTuple(l:List SV):Rn SV:=ry l.length 1000 (Pure.pure (.tu l))
noncomputable def Ot(l:List SV):Rn SV:=ry l.length 1000 (Pure.pure (.fl l))
noncomputable def own(o:AO):Rn SV:=λs=>some (.ok (.ob s.st.length),{s with st:=s.st++[o]},[])
noncomputable def Kn(l:List SV):Rn SV:=ry l.length 1000 (own (.Ha l))
end Rn
section
variable {θ:Th}{Γ:Bk}{X:Hp}{ad:List Addr}{sx:Sx}{s:Shared}
theorem eh{n:Nat}{k:Nat}(h:k<=n)(h':n<=200000):k<=sizeLine:=by refine rt sizeLine_eq ?_;lia
theorem Vs.fits{W:Wd}{ad:List Addr}{h:Heap}{l:List SV}{vs:List Value}(z:Vs W ad h l vs)(hl:Nat.ble l.length 1000=true):vs.toArray.size<=sizeLine:=by
 refine rt (List.size_toArray ..) (rt (z.length ..) ?_)
 exact eh (Nat.le_of_ble_eq_true hl) (by decide)
theorem Ms.zq(ok:θ.W.Ok)(M:Ms θ Γ ad sx s){T:String}{l:List SV}{vs:List Value}{t:Nat}(z:Vs θ.W ad s.heap l vs):
  Po θ Γ ad s sx (λa h=>fb h (θ.W.out a) T (Vs θ.W a h l) (.ref s.heap.objs.size)) {s with heap:=s.heap.push ⟨.type T,none,.seq (List.toArray vs) 0,#[]⟩,toks:=t}:=
 M.Ae ok _ t ⟨_,vs,0,Heap.get?_push_size _ rfl,(M.rb (Fx.push s.heap.objs.size s.heap ⟨.type T,none,.seq (List.toArray vs) 0,#[]⟩) t).vs M z,M.fresh (Nat.le_refl _)⟩
theorem So.newTuple(ok:θ.W.Ok){l:List SV}{vs:List Value}(hX:∀a h,X a h->Vs θ.W a h l vs):So θ X (Rv θ.W) (Rn.newTuple l) (λuu=>PySem.newTuple vs):=λΓ ad sx s M q=>aa.yb λhl=>aa.ok<|
 wpAny_newObj_type ⟨_,rfl,M.zq ok (hX _ _ q)⟩ ((hX _ _ q).fits hl)
theorem So.Ot(ok:θ.W.Ok){l:List SV}{vs:List Value}(hX:∀a h,X a h->Vs θ.W a h l vs):So θ X (Rv θ.W) (Rn.Ot l) (λuu=>PySem.newList vs):=λΓ ad sx s M q=>aa.yb λhl=>aa.ok<|
 wpAny_newObj_type ⟨_,rfl,M.zq ok (hX _ _ q)⟩ ((hX _ _ q).fits hl)
theorem So.Kn(ok:θ.W.Ok){l:List SV}{vs:List Value}(hX:∀a h,X a h->Vs θ.W a h l vs):So θ X (Rv θ.W) (Rn.Kn l) (λuu=>PySem.newList vs):=λΓ ad sx s M q=>aa.yb λhl=>aa.ok<|
 wpAny_newObj_type ⟨_,rfl,M.own ok _ rfl ⟨vs,0,rfl,(M.ro _ s.toks).vs M (hX _ _ q)⟩ ⟨_,M.nm _,rfl⟩⟩ ((hX _ _ q).fits hl)
end
namespace Rn
noncomputable def EK(x y:Int):Operator->Rn SV
 |.Add=>Pure.pure (.it (x+y))
 |.Sub=>Pure.pure (.it (x - y))
 |.Mult=>ask (IntMulOk x y)>>=λuu=>Pure.pure (.it (x * y))
 |.Mod=>ask (y≠0)>>=λuu=>Pure.pure (.it (x.fmod y))
 |.FloorDiv=>ask (y≠0/\y.natAbs<1073741824)>>=λuu=>Pure.pure (.it (x.fdiv y))
 |_=>qa
noncomputable def FK(x y:Str):Operator->Rn SV
 |.Add=>ask (x.length+y.length<=100000)>>=λuu=>Pure.pure (.st (x++y))
 |_=>qa
noncomputable def GK(x y:Int):Operator->Rn SV
 |.Add=>Pure.pure (.it (x+y))
 |.Sub=>Pure.pure (.it (x - y))
 |.FloorDiv=>ask (y≠0/\y.natAbs<1073741824)>>=λuu=>Pure.pure (.it (x.fdiv y))
 |_=>qa
noncomputable def am(a b:SV)(f:Int->Int->Rn SV):Rn SV:=λs=>a.Kc.bind λx=>b.Kc.bind λy=>f x y s
noncomputable def Qt(a b:SV)(f:Str->Str->Rn SV):Rn SV:=λs=>a.ti.bind λx=>b.ti.bind λy=>f x y s
noncomputable def SD:SV->Bool
 |.it _=>true
 |_=>false
noncomputable def Cg(op:Operator)(a b:SV):Rn SV:=cond (SD a) (am a b λx y=>EK x y op) (Qt a b λx y=>FK x y op)
noncomputable def Ak(op:Operator)(a b:SV):Rn SV:=am a b λx y=>GK x y op
noncomputable def Ca(p:Pos)(b:Bool):Rn SV:=hint p>>=λd=>match d with
 |none=>Pure.pure (.bo b)
 |some (.Ca d)=>ask (b=d)>>=λuu=>Pure.pure (.bo d)
 |some _=>qa
noncomputable def Aq(op:CmpOp)(x y:Int):Option Bool:=match op with
 |.Lt=>some (decide (x<y))
 |.LtE=>some (decide (x<=y))
 |.Gt=>some (decide (x>y))
 |.GtE=>some (decide (x≥y))
 |_=>none
noncomputable def cm:SV->Bool
 |.nn=>true
 |.cs x=>cm x
 |.rw v=>v==.none
 |_=>false
end Rn
section
variable {θ:Th}{X Y:Hp}
theorem So.am{a b:SV}{f:Int->Int->Rn SV}{g:Value->Value->Sem Value}{v w:Value}(hX:∀z h,X z h->V θ.W z h a v/\V θ.W z h b w)(H:∀x y t u,So θ X (Rv θ.W) (f x y) (λuu=>g (.int x t) (.int y u))):So θ X (Rv θ.W) (Rn.am a b f) (λuu=>g v w):=λΓ ad sx s M q=>
 aa.Ea λx ex=>aa.Ea λy ey=>by
  have z:=hX _ _ q
  replace z:=(SV.Zf ey ..)▸(SV.Zf ex ..)▸z
  exact z.1.elim λt e1=>z.2.elim λu e2=>by refine rt e1 (rt e2 ?_);exact H x y t u Γ ad sx s M q
theorem So.Qt{a b:SV}{f:Str->Str->Rn SV}{g:Value->Value->Sem Value}{v w:Value}(hX:∀z h,X z h->V θ.W z h a v/\V θ.W z h b w)(H:∀x y t u,So θ X (Rv θ.W) (f x y) (λuu=>g (.str x t) (.str y u))):So θ X (Rv θ.W) (Rn.Qt a b f) (λuu=>g v w):=λΓ ad sx s M q=>
 aa.Ea λx ex=>aa.Ea λy ey=>by
  have z:=hX _ _ q
  replace z:=(SV.Zl ey ..)▸(SV.Zl ex ..)▸z
  exact z.1.elim λt e1=>z.2.elim λu e2=>by refine rt e1 (rt e2 ?_);exact H x y t u Γ ad sx s M q
theorem So.Cg{op:Operator}{a b:SV}{v w:Value}(hX:∀z h,X z h->V θ.W z h a v/\V θ.W z h b w):So θ X (Rv θ.W) (Rn.Cg op a b) (λuu=>binaryOp op v w):=by
 unfold Rn.Cg
 rcases Rn.SD a with _|_
 ·exact So.Qt (g:=binaryOp op) hX λx y t u=>by
   induction op using Operator.casesOn with
   |Add=>exact So.ask λhm=>So.Cc λuu uu uu uu uu uu uu uu k=>PyProof.Rows.add_str (λt' tk=>k _ ⟨_,rfl⟩ tk) (eh hm (by decide))
   |_=>exact So.qa
 exact So.am (g:=binaryOp op) hX λx y t u=>by
  induction op using Operator.casesOn with
  |Add=>exact So.Cc λuu uu uu uu uu uu uu uu k=>add_int (k _ ⟨_,rfl⟩ _)
  |Sub=>exact So.Cc λuu uu uu uu uu uu uu uu k=>sub_int (k _ ⟨_,rfl⟩ _)
  |Mult=>exact So.ask λhm=>So.Cc λuu uu uu uu uu uu uu uu k=>mul_int (k _ ⟨_,rfl⟩ _) hm
  |Mod=>exact So.ask λhm=>So.Cc λuu uu uu uu uu uu uu uu k=>mod_int' hm (k _ ⟨_,rfl⟩ _)
  |FloorDiv=>exact So.ask λhm=>So.Cc λuu uu uu uu uu uu uu uu k=>floordiv_int hm.1 (k _ ⟨_,rfl⟩ _) (.inl (PyProof.noPylong_small hm.2))
  |_=>exact So.qa
theorem So.Ak{op:Operator}{a b:SV}{v w:Value}(hX:∀z h,X z h->V θ.W z h a v/\V θ.W z h b w):So θ X (Rv θ.W) (Rn.Ak op a b) (λuu=>inplaceOp op v w):=So.am (g:=inplaceOp op) hX λx y t u=>by
 induction op using Operator.casesOn with
 |Add=>exact So.Cc λuu uu uu uu uu uu uu uu k=>iadd_int (k _ ⟨_,rfl⟩ _)
 |Sub=>exact So.Cc λuu uu uu uu uu uu uu uu k=>isub_int (k _ ⟨_,rfl⟩ _)
 |FloorDiv=>exact So.ask λhm=>So.Cc λuu uu uu uu uu uu uu uu k=>ifloordiv_int hm.1 (k _ ⟨_,rfl⟩ _) (.inl (PyProof.noPylong_small hm.2))
 |_=>exact So.qa
theorem So.Ca{p:Pos}{b:Bool}{t:PySem.Env->Sem Value}(K:So θ X (Rv θ.W) (Pure.pure (SV.bo b)) t):So θ X (Rv θ.W) (Rn.Ca p b) t:=So.hint λd=>by
 rcases d with _|d
 ·exact K
 induction d using Hd.casesOn with
  |Ca d=>exact So.ask λe=>e▸K
  |_=>exact So.qa
theorem So.Aq{op:CmpOp}{x y:Int}{b:Bool}{v w:Value}(e:Rn.Aq op x y=some b)(hX:∀z h,X z h->V θ.W z h (.it x) v/\V θ.W z h (.it y) w):So θ X (Rv θ.W) (Pure.pure (.bo b)) (λuu=>compareOp op v w):=So.Cc λuu ad uu s uu q Q E k=>by
 refine(hX _ _ q).1.elim λt e1=>(hX _ _ q).2.elim λu e2=>?_
 refine rt e1 (rt e2 ?_)
 have k:=k (.bool b) rfl s.toks
 induction op using CmpOp.casesOn with
 |Lt=>exact lt_int (Option.some.inj e▸k)
 |LtE=>exact le_int (Option.some.inj e▸k)
 |Gt=>exact gt_int (Option.some.inj e▸k)
 |GtE=>exact ge_int (Option.some.inj e▸k)
 |_=>exact Fa e
theorem V.cm{W:Wd}{ad:List Addr}{h:Heap}{x:SV}:∀{v},V W ad h x v->(v==.none)=Rn.cm x:=by
 induction x using SV.rec (motive_2:=λuu=>True) with
 |no=>exact λq=>q.elim
 |bu s=>exact λq=>q.1▸rfl
 |it i=>exact λq=>q.elim λuu q=>q▸rfl
 |st i=>exact λq=>q.elim λuu q=>q▸rfl
 |rg n=>exact λq=>by induction q using Rg.casesOn;rfl
 |ob i=>exact λq=>q.elim λuu q=>q.2▸rfl
 |tu l=>exact λq=>by induction q using fb.casesOn;rfl
 |fl l=>exact λq=>by induction q using fb.casesOn;rfl
 |cs x ih=>exact λq=>ih q.2
 |rw x=>exact λq=>q.1▸rfl
 |nil=>trivial
 |cons=>trivial
 |_=>exact λq=>by subst q;rfl
end
end
section
variable {kz:Nat}
open PySem.SeqAt
noncomputable def AO.sy:AO->Option (List SV)
 |.Ha l=>some l
 |.ls [] L l=>some (L++l)
 |_=>none
noncomputable def SV.Hj:SV->SV
 |.cs x=>x
 |x=>x
namespace Rn
noncomputable def Dk(st:St)(x:SV):SV:=match x.mf with
 |some n=>match(st[n]?).bind AO.sy with
  |some l=>.fl l
  |none=>x
 |none=>x.Hj
noncomputable def Ij(f:SV->SV->Option Bool):List SV->List SV->Option Bool
 |[],[]=>some true
 |x::l,y::r=>(f x y).bind λa=>(Ij f l r).bind λb=>some (a&&b)
 |[],_::_=>none
 |_::_,[]=>none
noncomputable def HK:SV->Option Bool
 |.nn=>some true
 |.it _=>some false
 |.st _=>some false
 |.tu _=>some false
 |_=>none
noncomputable def IK(x:Int):SV->Option Bool
 |.it y=>some (x==y)
 |.nn=>some false
 |.st _=>some false
 |_=>none
noncomputable def JK(x:Str):SV->Option Bool
 |.st y=>some (Oa x y)
 |.nn=>some false
 |.it _=>some false
 |_=>none
noncomputable def KK(x:Bool):SV->Option Bool
 |.bo y=>some (x==y)
 |_=>none
noncomputable def MK(f:List SV->Option Bool):SV->Option Bool
 |.tu y=>f y
 |.nn=>some false
 |_=>none
noncomputable def NK(n:Nat)(f:List SV->Option Bool):SV->Option Bool
 |.fl y=>cond (Nat.beq n y.length) (f y) (some false)
 |_=>none
noncomputable def TD(f:List SV->List SV->Option Bool)(x y:SV):Option Bool:=match x with
 |.nn=>HK y
 |.it x=>IK x y
 |.st x=>JK x y
 |.bo x=>KK x y
 |.tu x=>MK (f x) y
 |.fl x=>NK x.length (f x) y
 |_=>none
noncomputable def Zc(st:St):Nat->SV->SV->Option Bool
 |0,_,_=>none
 |n+1,x,y=>TD (Ij (Zc st n)) (Dk st x) (Dk st y)
end Rn
theorem UD(x y:Str):(x==y)=Oa x y:=by
 by_cases h:x=y
 ·subst h;simp [sq]
 ·refine rt (Zx h ..) ?_;exact beq_eq_false_iff_ne.mpr h
structure Qk(A:Around)(s:Shared)(v w:Value)(b:Bool):Prop where
 e:EqAt A s v w b
 r:RcAt A s v w b
 n:RcNeAt A s v w (!b)
section
variable {W:Wd}{ad:List Addr}{st:St}{h:Heap}
theorem Vs.append:∀{l:List SV} {vs:List Value},Vs W ad h l vs->∀{l':List SV} {Hs:List Value},Vs W ad h l' Hs->Vs W ad h (l++l') (vs++Hs)
 |[],_,q,_,_,q'=>by refine rt (show _=[] from q) ?_;exact q'
 |_::_,_,q,_,_,q'=>by induction(q:Ta ..) using Ta.casesOn with|mk v r q z=>exact⟨v,_,q,z.append q'⟩
inductive Ek(h:Heap)(P:List Value->Prop):Value->Prop
 |mk (a:Addr) (vs:List Value) (e:h.IsList a (List.toArray vs)) (q:P vs):Ek h P (.ref a)
def Sn(W:Wd)(ad:List Addr)(h:Heap):SV->Value->Prop
 |.fl l,v=>Ek h (Vs W ad h l) v
 |x,v=>V W ad h x v
theorem AO.RK{o:AO}{l:List SV}{ob:Obj}{a:Addr}(e:o.sy=some l)(q:Oc W ad h a ob o)(g:h.get? a=some ob):Ek h (Vs W ad h l) (.ref a):=by
 have go:∀{P:List Value->Prop},(∀vs,P vs->Vs W ad h l vs)->Vf P ob->Ek h (Vs W ad h l) (.ref a):=λf q=>q.elim λvs q=>q.elim λn q=>⟨a,vs,⟨_,g,by exact q.1.symm▸rfl,n,by exact rt q.1 rfl⟩,f _ q.2⟩
 induction o using AO.casesOn with
 |Ha l'=>exact go (λuu z=>Option.some.inj e▸z) q
 |ls pre L l'=>
  rcases pre with _|⟨_,_⟩
  ·exact go (λuu z=>by induction z using Ac.casesOn with|mk v1 v2 p z=>exact Option.some.inj e▸p.append z) q.2.2
  exact Fa e
 |_=>exact Fa e
theorem V.sn{x:SV}{v:Value}(q:V W ad h x v):Sn W ad h x v:=by
 induction x using SV.casesOn<;>first|exact q|(induction(q:fb ..) using fb.casesOn with|mk a vs n e q m=>exact⟨a,vs,⟨_,e,rfl,n,rfl⟩,q⟩)
theorem V.Hj{x:SV}{v:Value}(r:R W ad h st)(q:V W ad h x v):Sn W ad h (Rn.Dk st x) v:=by
 unfold Rn.Dk
 rcases e:x.mf with _|n
 ·refine V.sn ?_
  induction x using SV.casesOn<;>first|exact q|exact q.2
 dsimp only
 rcases e2:(st[n]?).bind AO.sy with _|l
 ·exact q.sn
 refine obs e2 λo e3 e4=>?_
 replace q:=(SV.Bg e ..)▸q
 exact(r.at e3 (λz=>by replace e4:=z▸e4;exact Fa e4) q).elim λa z=>z.2.2.elim λob y=>z.1▸AO.RK e4 y.2 y.1
theorem Vs.at:∀{l:List SV} {vs:List Value},Vs W ad h l vs->∀i (hi:i<vs.length),∃x,l[i]?=some x/\V W ad h x vs[i]
 |[],_,q=>by refine rt (show _=[] from q) ?_;intro i hi;exact absurd hi (Nat.not_lt_zero _)
 |x::l,_,q=>by
  refine Ta.casesOn (q:Ta ..) λv r q z=>?_
  intro i hi
  induction i using Nat.casesOn with
  |zero=>exact⟨x,rfl,q⟩
  |succ i=>exact Vs.at z i (Nat.lt_of_succ_lt_succ hi)
theorem VD{f:SV->SV->Option Bool}:∀{l r:List SV} {b:Bool},Rn.Ij f l r=some b->l.length=r.length/\∃e:Nat->Bool,(∀i x y,l[i]?=some x->r[i]?=some y->f x y=some (e i))/\(List.range l.length).all e=b
 |[],[],b,e=>⟨rfl,λuu=>true,λi x y q=>Fa q,Option.some.inj e⟩
 |x::l,y::r,b,e=>obs e λa e1 e=>obs e λb' e2 e3=>by
  obtain⟨h,g,g1,g2⟩:=VD e2
  refine⟨congrArg Nat.succ h,λi=>match i with|0=>a|i+1=>g i,λi u w q1 q2=>?_,?_⟩
  ·induction i using Nat.casesOn with
   |zero=>cases q1;cases q2;exact e1
   |succ i=>exact g1 i u w q1 q2
  ·refine rt (List.length_cons ..) (rt (List.range_succ_eq_map ..) (rt (List.all_cons ..) (rt (List.all_map ..) (rl (Option.some.inj e3 ..) (rl (g2 ..) ?_)))))
   rfl
 |[],_::_,_,e=>Fa e
 |_::_,[],_,e=>Fa e
theorem fh{a:Addr}{vs:List Value}{n:Nat}(e:h.get? a=some ⟨.type "tuple",none,.seq (List.toArray vs) n,#[]⟩):h.IsTuple a vs.toArray:=⟨_,e,rfl,n,rfl⟩
theorem dm{a:Addr}{vs:List Value}{n:Nat}(e:h.get? a=some ⟨.type "list",none,.seq (List.toArray vs) n,#[]⟩):h.IsList a vs.toArray:=⟨_,e,rfl,n,rfl⟩
theorem WD{o:Obj}{vs ws:List Value}{n m:Nat}(e:o.data=.seq (List.toArray vs) n)(e':o.data=.seq (List.toArray ws) m):vs=ws:=by
 replace e':=e▸e'
 injection e' with e'
 simpa using e'
theorem SK{s:Shared}(r:R W ad s.heap st):∀n x y v w b A,A.units+n<cLine->V W ad s.heap x v->V W ad s.heap y w->Rn.Zc st n x y=some b->Qk A s v w b/\(v=w->b=true):=by
 intro n
 induction n with
 |zero=>intro x y v w b A _ _ _ e;exact Fa e
 |succ n ih=>
  intro x y v w b A hu p q e
  have p:=p.Hj r
  have q:=q.Hj r
  have ji:A.units<cLine:=Nat.lt_of_le_of_lt (Nat.le_add_right ..) hu
  have iJ:∀{l1 l2:List SV} {vs ws:List Value},Vs W ad s.heap l1 vs->Vs W ad s.heap l2 ws->Rn.Ij (Rn.Zc st n) l1 l2=some b->
    (∃g:Nat->Bool,(∀j (h1:j<vs.toArray.size) (h2:j<ws.toArray.size),EqAt A.in1 s vs.toArray[j] ws.toArray[j] (g j))/\vs.length=ws.length/\(List.range vs.length).all g=b)/\(vs=ws->b=true):=by
   intro l1 l2 vs ws h1 h2 e
   obtain⟨hl,g,g1,g2⟩:=VD e
   have at_:∀j (j1:j<vs.length) (j2:j<ws.length),Qk A.in1 s vs[j] ws[j] (g j)/\(vs[j]=ws[j]->g j=true):=λj j1 j2=>
    (h1.at j j1).elim λu u1=>(h2.at j j2).elim λz z1=>ih u z _ _ _ A.in1 (by refine(?_:A.units+1+n<cLine);lia) u1.2 z1.2 (g1 j u z u1.1 z1.1)
   refine⟨⟨g,λj j1 j2=>?_,by exact(h1.length ..).symm▸(h2.length ..).symm▸(hl ..).symm▸rfl,by refine(h1.length ..).symm▸?_;exact g2⟩,λhv=>?_⟩
   ·have:=(at_ j (by simpa using j1) (by simpa using j2)).1.e
    simpa using this
   ·rw[<-g2,List.all_eq_true,<-h1.length]
    subst hv
    exact λi hi=>(at_ i (List.mem_range.mp hi) (List.mem_range.mp hi)).2 rfl
  have e:Rn.TD (Rn.Ij (Rn.Zc st n)) (Rn.Dk st x) (Rn.Dk st y)=some b:=e
  revert e p q
  generalize Rn.Dk st x=x'
  generalize Rn.Dk st y=y'
  intro p q e
  have no:∀{v w:Value},v≠w->v=w->b=true:=λh e=>absurd e h
  induction x' using SV.casesOn with
  |nn=>
   cases(show v=.none from p)
   induction y' using SV.casesOn with
   |nn=>cases(show w=.none from q);exact Option.some.inj e▸⟨⟨.same _,.none_none,.none_none⟩,λuu=>rfl⟩
   |it y=>exact q.elim λt q=>by refine rt q ?_;exact⟨Option.some.inj e▸⟨.none_int _ _,.none_int _ _,.none_int _ _⟩,no λe=>nomatch e⟩
   |st y=>exact q.elim λt q=>by refine rt q ?_;exact⟨Option.some.inj e▸⟨.none_str _ _,.none_str _ _,.none_str _ _⟩,no λe=>nomatch e⟩
   |tu y=>induction(q:fb ..) using fb.casesOn with|mk a vs m g q _=>exact⟨Option.some.inj e▸⟨.none_tuple (fh g) ji,.none_tuple (fh g) ji,.none_tuple (fh g) ji⟩,no λe=>nomatch e⟩
   |_=>exact Fa e
  |it x=>
   refine p.elim λt p=>?_
   refine rt p ?_
   induction y' using SV.casesOn with
   |it y=>exact q.elim λu q=>by refine rt q ?_;exact Option.some.inj e▸⟨⟨.int_int _ _ _ _,.int_int _ _ _ _,.int_int _ _ _ _⟩,λe=>by cases e;exact beq_self_eq_true x⟩
   |nn=>cases(show w=.none from q);exact⟨Option.some.inj e▸⟨.int_none _ _,.int_none _ _,.int_none _ _⟩,no λe=>nomatch e⟩
   |st y=>exact q.elim λu q=>by refine rt q ?_;exact⟨Option.some.inj e▸⟨.int_str _ _ _ _,.int_str _ _ _ _,.int_str _ _ _ _⟩,no λe=>nomatch e⟩
   |_=>exact Fa e
  |st x=>
   refine p.elim λt p=>?_
   refine rt p ?_
   induction y' using SV.casesOn with
   |st y=>exact q.elim λu q=>by refine rt q ?_;exact Option.some.inj e▸⟨by refine rl (UD ..) ?_;exact⟨.str_str _ _ _ _,.str_str _ _ _ _,.str_str _ _ _ _⟩,λe=>by cases e;exact sq x⟩
   |nn=>cases(show w=.none from q);exact⟨Option.some.inj e▸⟨.str_none _ _,.str_none _ _,.str_none _ _⟩,no λe=>nomatch e⟩
   |it y=>exact q.elim λu q=>by refine rt q ?_;exact⟨Option.some.inj e▸⟨.str_int _ _ _ _,.str_int _ _ _ _,.str_int _ _ _ _⟩,no λe=>nomatch e⟩
   |_=>exact Fa e
  |bo x=>
   cases(show v=_ from p)
   induction y' using SV.casesOn with
   |bo y=>cases(show w=_ from q);exact Option.some.inj e▸⟨⟨.bool_bool _ _,.bool_bool _ _,.bool_bool _ _⟩,λe=>by cases e;exact beq_self_eq_true x⟩
   |_=>exact Fa e
  |tu x=>
   refine fb.casesOn (p:fb ..) λa vs n1 p1 p2 uu=>?_
   induction y' using SV.casesOn with
   |nn=>cases(show w=.none from q);exact⟨Option.some.inj e▸⟨.tuple_none (fh p1) ji,.tuple_none (fh p1) ji,.tuple_none (fh p1) ji⟩,no λe=>nomatch e⟩
   |tu y=>
    refine fb.casesOn (q:fb ..) λa' ws n2 q1 q2 uu=>?_
    have⟨⟨g,g1,g2,g3⟩,sm⟩:=iJ p2 q2 e
    have z1:=RcAt.tuples (e:=g) (fh p1) (fh q1) ji g1
    have z2:=RcNeAt.tuples (e:=g) (fh p1) (fh q1) ji g1
    have hb:((List.range (min vs.toArray.size ws.toArray.size)).all g&&vs.toArray.size==ws.toArray.size)=b:=by
     rw[List.size_toArray,List.size_toArray,<-g2,Nat.min_self,g3,beq_self_eq_true,Bool.and_true]
    rw[hb] at z1 z2
    have sm:a=a'->b=true:=λha=>sm (WD (o:=⟨.type "tuple",none,.seq (List.toArray vs) n1,#[]⟩) rfl (by replace p1:=q1▸ha▸p1;rw[<-Option.some.inj p1]))
    refine⟨⟨?_,z1,z2⟩,λe=>by cases e;exact sm rfl⟩
    by_cases ha:a=a'
    ·refine rt (sm ha ..) (rt (ha ..) ?_);exact .same _
    ·exact .of_refs ha z1
   |_=>exact Fa e
  |fl x=>
   refine Ek.casesOn (p:Ek ..) λa vs p1 p2=>?_
   induction y' using SV.casesOn with
   |fl y=>
    refine Ek.casesOn (q:Ek ..) λa' ws q1 q2=>?_
    have hv:a=a'->vs=ws:=λha=>p1.elim λo1 p=>q1.elim λo2 q=>p.2.2.elim λn1 pd=>q.2.2.elim λn2 qd=>WD pd ((sj (x:=s.heap.get? a) (ha▸q.1) p.1)▸qd)
    have fin:RcAt A s (.ref a) (.ref a') b/\RcNeAt A s (.ref a) (.ref a') (!b)->(vs=ws->b=true)->Qk A s (.ref a) (.ref a') b/\(Value.ref a=.ref a'->b=true):=λrr sm=>by
     refine⟨⟨?_,rr.1,rr.2⟩,λe=>by cases e;exact sm (hv rfl)⟩
     by_cases ha:a=a'
     ·refine rt (sm (hv ha) ..) (rt (ha ..) ?_);exact .same _
     ·exact .of_refs ha rr.1
    have e:cond (Nat.beq x.length y.length) (Rn.Ij (Rn.Zc st n) x y) (some false)=some b:=e
    revert e
    rcases hl:Nat.beq x.length y.length with _|_
    ·intro e
     have ne:=Nat.ne_of_beq_eq_false hl
     have hs:(vs.toArray.size !=ws.toArray.size)=true:=by
      refine rt (List.size_toArray ..) (rt (List.size_toArray ..) (rt (p2.length ..) (rt (q2.length ..) ?_)))
      simpa using ne
     exact fin (Option.some.inj e▸⟨.lists_lengths p1 q1 hs ji,.lists_lengths p1 q1 hs ji⟩) λe=>absurd (by exact(p2.length ..)▸(q2.length ..)▸(e ..).symm▸rfl) ne
    intro e
    have⟨⟨g,g1,g2,g3⟩,sm⟩:=iJ p2 q2 e
    have z1:=RcAt.lists (e:=g) p1 q1 (by simpa using g2) ji g1
    have z2:=RcNeAt.lists (e:=g) p1 q1 (by simpa using g2) ji g1
    rw[List.size_toArray,g3] at z1 z2
    exact fin ⟨z1,z2⟩ sm
   |_=>exact Fa e
  |_=>exact Fa e
end
namespace Rn
noncomputable def Mn(d:Option Hd)(neg:Bool)(a b:SV):Rn SV:=match d with
 |none=>get λs=>(Zc s.st 60 a b).bind λr=>some (.bo (xor r neg))
 |some (.Ca r)=>λs=>some (.ok (.bo r),s,[Zc s.st 60 a b=some (xor r neg)])
 |some _=>qa
noncomputable def SV.Kh:SV->Bool
 |.nn=>true
 |_=>false
noncomputable def ui(p:Pos)(op:CmpOp)(a b:SV):Rn SV:=match op with
 |.Is=>cond (SV.Kh b) (Pure.pure (.bo (cm a))) qa
 |.IsNot=>cond (SV.Kh b) (Pure.pure (.bo (!cm a))) qa
 |.Eq=>hint p>>=λd=>Mn d false a b
 |.NotEq=>hint p>>=λd=>Mn d true a b
 |.In=>qa
 |.NotIn=>qa
 |op=>λs=>a.Kc.bind λx=>b.Kc.bind λy=>(Ea (Aq op x y)>>=λb=>Ca p b) s
end Rn
section
variable {θ:Th}{X Y:Hp}
theorem uy(a b:Bool):xor (xor a b) b=a:=by induction a using Bool.casesOn<;>induction b using Bool.casesOn<;>rfl
theorem XD{Γ:Bk}{ad:List Addr}{sx:Sx}{s:Shared}(M:Ms θ Γ ad sx s){a b:SV}{v w:Value}(q1:V θ.W ad s.heap a v)(q2:V θ.W ad s.heap b w){r neg:Bool}(e:Rn.Zc sx.st 60 a b=some (xor r neg)){Q E:Value->Shared->Prop}(k:Q (.bool r) s):wpAny θ.W.m Γ.A (compareOp (if neg then .NotEq else .Eq) v w) Q E s:=by
 have:=(SK M.r 60 a b v w _ Γ.A (by have:=M.un;unfold Gj at this;refine(?_:_<9900);lia) q1 q2 e).1
 rcases neg with _|_
 ·exact this.r _ _ _ _ (by refine rt (Bool.xor_false ..) ?_;exact k)
 exact this.n _ _ _ _ (by induction r using Bool.casesOn<;>exact k)
theorem So.Mn{d:Option Hd}{neg:Bool}{a b:SV}{v w:Value}(hX:∀z h,X z h->V θ.W z h a v/\V θ.W z h b w):So θ X (Rv θ.W) (Rn.Mn d neg a b) (λuu=>compareOp (if neg then .NotEq else .Eq) v w):=by
 rcases d with _|d
 ·exact So.get λΓ ad sx s x M q e Q E k=>obs e λr e1 e2=>by
   replace e2:=Option.some.inj e2;subst e2
   exact XD M (hX _ _ q).1 (hX _ _ q).2 (by refine rt (uy ..) ?_;exact e1) (k (.bool (xor r neg)) rfl s.toks)
 induction d using Hd.casesOn with
  |Ca r=>exact λΓ ad sx s M q=>aa.Ua λe=>XD M (hX _ _ q).1 (hX _ _ q).2 e ⟨_,rfl,.here M rfl⟩
  |_=>exact So.qa
theorem So.ui{p:Pos}{op:CmpOp}{a b:SV}{v w:Value}(hX:∀z h,X z h->V θ.W z h a v/\V θ.W z h b w):So θ X (Rv θ.W) (Rn.ui p op a b) (λuu=>compareOp op v w):=by
 have nn:∀{z h},X z h->Rn.SV.Kh b=true->w=.none:=λx e=>by
  have:=(hX _ _ x).2
  induction b using SV.casesOn<;>first|exact this|exact ft e
 have io:∀op,So θ X (Rv θ.W) (λs=>a.Kc.bind λx=>b.Kc.bind λy=>(Rn.Ea (Rn.Aq op x y)>>=λb=>Rn.Ca p b) s) (λuu=>compareOp op v w):=λop Γ ad sx s M q=>
  aa.Ea λx ex=>aa.Ea λy ey=>So.Ea (λb e=>So.Ca (So.Aq e λz h q=>by refine rl (SV.Zf ex ..) (rl (SV.Zf ey ..) ?_);exact hX z h q)) Γ ad sx s M q
 induction op using CmpOp.casesOn with
 |Is=>
  exact So.yb λe=>So.Cc λuu uu uu s uu q Q E k=>by
   refine rt (nn q e ..) ?_
   exact is_none ((hX _ _ q).1.cm▸k _ rfl s.toks)
 |IsNot=>
  exact So.yb λe=>So.Cc λuu uu uu s uu q Q E k=>by
   refine rt (nn q e ..) ?_
   exact isNot_none ((hX _ _ q).1.cm▸k _ rfl s.toks)
 |Eq=>exact So.hint λd=>So.Mn (neg:=false) hX
 |NotEq=>exact So.hint λd=>So.Mn (neg:=true) hX
 |In=>exact So.qa
 |NotIn=>exact So.qa
 |_=>exact io _
end
end
section
variable {kz:Nat}
theorem R.on{W:Wd}{ad:List Addr}{h:Heap}{st:St}{i:Nat}{o:AO}{v:Value}{G:Prop}(r:R W ad h st)(e:st[i]?=some o)(hd:o≠.ta)(q:V W ad h (.ob i) v)(K:∀a ob,v=.ref a->ad[i]?=some a->h.get? a=some ob->Oc W ad h a ob o->G):G:=
 (r.at e hd q).elim λa z=>z.2.2.elim λob y=>K a ob z.1 z.2.1 y.1 y.2
noncomputable abbrev uc(a b:Int):Bool:=decide (a=b)
theorem Xe:Hh uc:=λuu uu=>decide_eq_true_iff
noncomputable abbrev Be(x:Int)(l:List (Int×SV)):Option SV:=Jc uc x l
noncomputable abbrev yi(x:Int)(v:SV)(l:List (Int×SV)):List (Int×SV):=Uf uc x v l
inductive Kv(W:Wd)(ad:List Addr)(h:Heap){K:Type}:List (K×SV)->List (K×Value)->Prop
 |nil:Kv W ad h [] []
 |cons {p:K×SV} {l:List (K×SV)} {v:Value} {r:List (K×Value)} (q:V W ad h p.2 v) (z:Kv W ad h l r):Kv W ad h (p::l) ((p.1,v)::r)
structure Nn(W:Wd)(K:Type)[DecidableEq K] where
 kv:K->Tok->Value
 knd:PySem.KeyKind W.prog W.w K
 is:∀k t,knd.is k (kv k t)=true
 sh:∀{k v},knd.is k v=true->∃t,v=kv k t
noncomputable def sK(W:Wd):Nn W Str:=⟨Value.str,PySem.strKind W.prog W.w,λk t=>by simp [PySem.strKind,Value.isStrOf],Value.isStrOf_shape⟩
noncomputable def iK(W:Wd):Nn W Int:=⟨Value.int,PySem.intKind W.prog W.w,λk t=>by simp [PySem.intKind,Value.isInt],Value.isInt_shape⟩
section
variable {W W':Wd}{ad ia:List Addr}{h h':Heap}{K:Type}{fs:List (K×SV)}{kvs:List (K×Value)}
theorem Kv.Ag(q:Kv W ad h fs kvs):kvs.map (·.1)=fs.map (·.1):=by
 induction q with
 |nil=>rfl
 |cons _ _ ih=>exact(List.map_cons ..).symm▸(List.map_cons ..).symm▸(ih ..).symm▸rfl
theorem Kv.length(q:Kv W ad h fs kvs):kvs.length=fs.length:=by rw[<-List.length_map (·.1),q.Ag,List.length_map]
theorem Kv.imp(f:∀x v,V W ad h x v->V W' ia h' x v)(q:Kv W ad h fs kvs):Kv W' ia h' fs kvs:=by
 induction q with
 |nil=>exact .nil
 |cons v _ ih=>exact .cons (f _ _ v) ih
def Lk(W:Wd)(ad:List Addr)(h:Heap)(r:Option SV)(ov:Option Value):Prop:=match r with
 |some x=>∃v,ov=some v/\V W ad h x v
 |none=>ov=none
variable [DecidableEq K]{eq:K->K->Bool}(he:Hh eq)
include he
theorem Kv.df(q:Kv W ad h fs kvs)(x:K):Lk W ad h (Jc eq x fs) (valueAt kvs x):=by
 induction q with
 |nil=>rfl
 |@cons p l v r q _ ih=>
  refine(?_:Lk W ad h (cond (eq p.1 x) (some p.2) (Jc eq x l)) (((p.1,v)::r).find? _|>.map (·.2)))
  refine rt (List.find?_cons ..) (rt (he.Ca ..) ?_)
  by_cases hx:p.1=x
  ·refine rt (decide_eq_true hx ..) ?_;exact⟨v,rfl,q⟩
  ·refine rt (decide_eq_false hx ..) ?_;exact ih
theorem Kv.dh{x:K}{sv:SV}{v:Value}(hv:V W ad h sv v)(q:Kv W ad h fs kvs)(nd:(fs.map (·.1)).Nodup):Kv W ad h (Uf eq x sv fs) (stored kvs x v):=by
 induction q with
 |nil=>exact .cons (p:=(x,sv)) hv .nil
 |@cons p l u r q z ih=>
  rw[List.map_cons,List.nodup_cons] at nd
  refine(?_:Kv W ad h (cond (eq p.1 x) ((p.1,sv)::l) (p::Uf eq x sv l)) (stored ((p.1,u)::r) x v))
  have ih:=ih nd.2
  unfold stored at ih ⊢
  refine rt (List.any_cons ..) (rt (List.map_cons ..) (rt (he.Ca ..) ?_))
  by_cases hx:p.1=x
  ·refine(decide_eq_true hx ..).symm▸(Bool.true_or ..).symm▸(if_pos rfl ..).symm▸(if_pos hx ..).symm▸(map_store_of_not_mem r x v (by rw[z.Ag,<-hx];exact nd.1) ..).symm▸?_
   exact rl hx (.cons (p:=(p.1,sv)) hv z)
  ·refine rt (decide_eq_false hx ..) (rt (Bool.false_or ..) (rt (if_neg hx ..) ?_))
   by_cases hz:(r.any λkv=>decide (kv.1=x))=true
   ·rw[if_pos hz] at ih ⊢;exact .cons q ih
   ·rw[if_neg hz] at ih ⊢;exact .cons q ih
end
section
variable {W:Wd}{ad:List Addr}{h:Heap}{K:Type}[DecidableEq K](S:Nn W K){fs:List (K×SV)}{es:List DictEntry}{kvs:List (K×Value)}
theorem Ed.kv(q:Ed W ad h S.kv S.knd.hash fs es):∃kvs,Pairs S.knd es kvs/\Kv W ad h fs kvs/\∀e∈es,∃k,S.knd.is k e.key=true/\e.hash=S.knd.hash k:=by
 induction q with
 |nil=>exact⟨[],.nil,.nil,λuu m=>nomatch m⟩
 |@cons p l e r t k c v _ ih=>
  have hk:S.knd.is p.1 e.key=true:=k▸S.is p.1 t
  exact ih.elim λkvs z=>⟨(p.1,e.val)::kvs,.cons hk rfl z.1,.cons v z.2.1,λe' m=>(List.mem_cons.mp m).elim (λq=>q▸⟨p.1,hk,c⟩) (z.2.2 e')⟩
theorem Ed.TK(q:Kv W ad h fs kvs):∀{es},Pairs S.knd es kvs->(∀e∈es,∃k,S.knd.is k e.key=true/\e.hash=S.knd.hash k)->Ed W ad h S.kv S.knd.hash fs es:=by
 induction q with
 |nil=>intro es z _;cases z;exact .nil
 |cons v _ ih=>
  intro es z f
  cases z with
  |@cons e _ QC _ a b cc=>
   refine(f e (List.mem_cons_self ..)).elim λk k1=>(S.sh a).elim λt ht=>.cons t ht ?_ (b▸v) (ih cc λe' m=>f e' (List.mem_cons_of_mem _ m))
   exact(k1.2 ..).symm▸(S.knd.inj _ _ _ k1.1 a ..).symm▸rfl
theorem rc.dict{a:Addr}{o:Obj}{G:Prop}(g:h.get? a=some o)(q:rc W ad h S.kv S.knd.hash fs o)(K:∀kvs,h.DictOf S.knd a kvs->Kv W ad h fs kvs->(fs.map (·.1)).Nodup->G):G:=
 q.elim λes q=>q.elim λn q=>(q.2.1.kv S).elim λkvs z=>K kvs ⟨_,es.toArray,n,q.1▸g,⟨rfl,rfl,rfl⟩,rfl,λe m=>z.2.2 e (by simpa using m),z.1,by refine rt (z.2.1.Ag ..) ?_;exact q.2.2⟩ z.2.1 q.2.2
theorem rc.of{a:Addr}(e:h.DictOf S.knd a kvs)(q:Kv W ad h fs kvs):∃o,h.get? a=some o/\rc W ad h S.kv S.knd.hash fs o:=by
 obtain⟨⟨c,d,dt,sl⟩,es,ep,ho,⟨hc,hd,hs⟩,Js,hk,hp,hn⟩:=e
 dsimp only at hc hd hs Js
 subst hc hd hs Js
 exact⟨_,ho,es.toList,ep,rfl,Ed.TK S q hp (λe' m=>hk e' (by simpa using m)),by refine rl (q.Ag ..) ?_;exact hn⟩
theorem rc.nil{a:Addr}{o:Obj}{hs:Str->Int}(g:h.get? a=some o)(q:rc W ad h Value.str hs [] o):h.DictOf S.knd a []:=by
 refine q.elim λes q=>q.elim λn q=>?_
 cases q.2.1
 exact⟨_,#[],n,q.1▸g,⟨rfl,rfl,rfl⟩,rfl,λe m=>absurd m (by simp),.nil,List.nodup_nil⟩
end
structure Fk(W:Wd)(a:Addr)(k:Str)(g:SV):Prop where
 at_:∃kvs v,(∀h,W.K.In h->h.DictOf (PySem.strKind W.prog W.w) a kvs)/\valueAt kvs k=some v/\GV W g v
namespace Rn
noncomputable def Ce(l:List SV)(i:Int):Option SV:=cond (Nat.ble l.length 1000000) (match i with
 |.ofNat n=>l[n]?
 |.negSucc n=>cond (Nat.blt n l.length) (l[l.length - (n+1)]?) none) none
noncomputable def vy(s:Str)(i:Int):Option SV:=cond (Nat.ble s.length 1000000) (cond (decide (-(s.length:Int)<=i)&&decide (i<s.length)) (some (.st (Txt.item s i))) none) none
noncomputable def Rt(l:List SV)(i:SV):Option SV:=i.Kc.bind (Ce l)
noncomputable def UK(i:SV):AO->Option SV
 |.Ha l=>Rt l i
 |.ns fs=>i.ti.bind λk=>lk k fs
 |.di fs=>i.Kc.bind λk=>Be k fs
 |.dz fs=>i.Kc.bind λk=>Be k (fs.map λp=>(p.1,SV.it p.2))
 |.ls pre L l=>Rt (pre.map SV.rw++L++l) i
 |_=>none
noncomputable def wy(T:Tb)(st:St)(o i:SV):Option SV:=match o with
 |.tu l=>Rt l i
 |.fl l=>Rt l i
 |.st s=>i.Kc.bind (vy s)
 |.tp a=>i.ti.bind (T.sd a)
 |.ob n=>(st[n]?).bind (UK i)
 |_=>none
noncomputable def Ib(p:Pos)(f:St->Option SV):Rn SV:=hint p>>=λd=>match d with
 |none=>get λs=>f s.st
 |some (.item x)=>λs=>some (.ok x,s,[f s.st=some x])
 |some _=>qa
noncomputable def item(T:Tb)(p:Pos)(o i:SV):Rn SV:=Ib p λst=>wy T st o i
end Rn
section
variable {θ:Th}{Γ:Bk}{X:Hp}{T:Tb}{ad:List Addr}{sx:Sx}{s:Shared}{Q E:Value->Shared->Prop}
theorem So.Ib{p:Pos}{f:St->Option SV}{t:Sem Value}(H:∀Γ ad sx s x,Ms θ Γ ad sx s->X ad s.heap->f sx.st=some x->∀Q E,(∀v,V θ.W ad s.heap x v->∀t,Q v {s with toks:=t})->wpAny θ.W.m Γ.A t Q E s):So θ X (Rv θ.W) (Rn.Ib p f) (λuu=>t):=So.hint λd=>by
 rcases d with _|d
 ·exact So.get H
 induction d using Hd.casesOn with
  |item x=>exact λΓ ad sx s M q=>aa.Ua λe=>H Γ ad sx s x M q e _ _ λuu z t=>⟨x,rfl,.same M z t⟩
  |_=>exact So.qa
theorem Vs.get{W:Wd}{h:Heap}:∀{l:List SV} {vs:List Value},Vs W ad h l vs->∀{i:Nat} {x:SV},l[i]?=some x->∃v,vs[i]?=some v/\V W ad h x v
 |[],_,_,_,_,e=>Fa e
 |y::l,_,q,i,x,e'=>by
  refine Ta.casesOn (q:Ta ..) λv r q z=>?_
  induction i using Nat.casesOn with
  |zero=>cases e';exact⟨v,rfl,q⟩
  |succ i=>exact Vs.get z e'
theorem YD{W:Wd}{h:Heap}{l:List SV}{vs:List Value}{i:Int}{x:SV}{G:Prop}(q:Vs W ad h l vs)(e:Rn.Ce l i=some x)
  (k:vs.toArray.size<=1000000->∀v,V W ad h x v->((0<=i/\i<vs.toArray.size/\vs.toArray[i.toNat]?=some v)\/(i<0/\-(vs.toArray.size:Int)<=i/\vs.toArray[(i+vs.toArray.size).toNat]?=some v))->G):G:=by
 unfold Rn.Ce at e
 have hs:vs.toArray.size=l.length:=by exact(List.size_toArray ..).symm▸(q.length ..).symm▸rfl
 rcases hl:Nat.ble l.length 1000000 with _|_
 ·replace e:=hl▸e;exact Fa e
 replace e:=hl▸e
 have k:=k (hs▸Nat.le_of_ble_eq_true hl)
 replace k:=hs▸k
 induction i using Int.casesOn with
 |ofNat n=>
  have hn:n<l.length:=(List.getElem?_eq_some_iff.mp e).1
  exact(q.get e).elim λv z=>k v z.2 (.inl ⟨Int.natCast_nonneg n,Int.ofNat_lt.mpr hn,by refine rt (List.getElem?_toArray ..) ?_;exact z.1⟩)
 |negSucc n=>
  dsimp only at e
  rcases hn:Nat.blt n l.length with _|_
  ·replace e:=hn▸e;exact Fa e
  replace e:=hn▸e
  have hn:n<l.length:=by replace hn:=(Nat.blt_eq ..)▸hn;exact hn
  have:(Int.negSucc n+(l.length:Int)).toNat=l.length - (n+1):=by lia
  exact(q.get e).elim λv z=>k v z.2 (.inr ⟨Int.negSucc_lt_zero n,by lia,by refine rt (this ..) (rt (List.getElem?_toArray ..) ?_);exact z.1⟩)
theorem xy{l:List SV}{vs:List Value}{a:Addr}{i:Int}{t:Tok}{x:SV}(hl:s.heap.IsList a vs.toArray)(q:Vs θ.W ad s.heap l vs)(e:Rn.Ce l i=some x)(k:∀v,V θ.W ad s.heap x v->∀t,Q v {s with toks:=t}):
  wpAny θ.W.m Γ.A (getItem (.ref a) (.int i t)) Q E s:=
 YD q e λhz v z y=>y.elim (λy=>wpAny_getItem_list hl y.1 (by lia) y.2.2 (k v z s.toks)) λy=>wpAny_getItem_list_neg hl y.1 y.2.1 (by lia) y.2.2 (k v z s.toks)
theorem VK{l:List SV}{vs:List Value}{a:Addr}{i:Int}{t:Tok}{x:SV}{n:Nat}(hl:IsT s.heap a vs.toArray n)(q:Vs θ.W ad s.heap l vs)(e:Rn.Ce l i=some x)(k:∀v,V θ.W ad s.heap x v->∀t,Q v {s with toks:=t}):
  wpAny θ.W.m Γ.A (getItem (.ref a) (.int i t)) Q E s:=
 YD q e λhz v z y=>y.elim (λy=>P.getItem_tuple hl (by lia) (by lia) (seqIndex_of y.1 y.2.1) y.2.2 (k v z s.toks)) λy=>P.getItem_tuple hl (by lia) (by lia) (seqIndex_neg y.1 y.2.1) y.2.2 (k v z s.toks)
def Gi(s:Shared)(v:Value):Prop:=∃T id,typeLookup (.type T) "__getitem__"=pure (some (.builtin id))/\s.TypeIs v T
theorem yy{K:Type}[DecidableEq K](S:Nn θ.W K){eq:K->K->Bool}(he:Hh eq){a:Addr}{fs:List (K×SV)}{k:K}{t:Tok}{x:SV}{o:Obj}(g:s.heap.get? a=some o)(q:rc θ.W ad s.heap S.kv S.knd.hash fs o)(e:Jc eq k fs=some x)(f:∀v,V θ.W ad s.heap x v->∀t,Q v {s with toks:=t}):
  Gi s (.ref a)/\wpAny θ.W.m Γ.A (getItem (.ref a) (S.kv k t)) Q E s:=q.dict S g λkvs d1 d2 uu=>by
 have z:=d2.df he k
 replace z:=e▸z
 exact⟨⟨"dict",_,slot_dict_getitem.lookup,d1.typeIs⟩,z.elim λv z=>wpAny_getItem_of (S.is k t) d1.mapOf z.1 (f _ z.2 _)⟩
theorem ZD{W:Wd}{ad:List Addr}{h:Heap}:∀{pre:List Value},(∀v∈pre,handedIn v=true)->Vs W ad h (pre.map SV.rw) pre
 |[],_=>rfl
 |v::r,p=>⟨v,r,⟨rfl,p v (.head _)⟩,ZD λu m=>p u (.tail _ m)⟩
theorem aE(hT:∀a k g,T.sd a k=some g->Fk θ.W a k g){o i x:SV}{v w:Value}(M:Ms θ Γ ad sx s)(q1:V θ.W ad s.heap o v)(q2:V θ.W ad s.heap i w)(e:Rn.wy T sx.st o i=some x)(k:∀v,V θ.W ad s.heap x v->∀t,Q v {s with toks:=t}):
  Gi s v/\wpAny θ.W.m Γ.A (getItem v w) Q E s:=by
 have it:∀{α:Type} {f:Int->Option α} {b:α} {G:Prop},i.Kc.bind f=some b->(∀n t,w=.int n t->f n=some b->G)->G:=λe K=>obs e λn e1 e2=>by
  replace q2:=(SV.Zf e1 ..)▸q2
  exact q2.elim λt z=>K n t z e2
 have st:∀{α:Type} {f:Str->Option α} {b:α} {G:Prop},i.ti.bind f=some b->(∀n t,w=.str n t->f n=some b->G)->G:=λe K=>obs e λn e1 e2=>by
  replace q2:=(SV.Zl e1 ..)▸q2
  exact q2.elim λt z=>K n t z e2
 induction o using SV.casesOn with
 |tu l=>induction(q1:fb ..) using fb.casesOn with|mk a vs n g q _=>exact it e λn t hw e=>by refine rt hw ?_;exact⟨⟨"tuple",_,F.slot_tuple_getitem.lookup,_,g,rfl⟩,VK g q e k⟩
 |fl l=>induction(q1:fb ..) using fb.casesOn with|mk a vs n g q _=>exact it e λn t hw e=>by refine rt hw ?_;exact⟨⟨"list",_,slot_list_getitem.lookup,_,g,rfl⟩,xy (dm g) q e k⟩
 |st x=>
  refine it e λn u hw e=>q1.elim λt hv=>?_
  refine rt hv (rt hw ?_)
  unfold Rn.vy at e
  rcases hz:Nat.ble x.length 1000000 with _|_
  ·replace e:=hz▸e;exact Fa e
  replace e:=hz▸e
  have hz:=Nat.le_of_ble_eq_true hz
  rcases hb:(decide (-(x.length:Int)<=n)&&decide (n<x.length)) with _|_
  ·replace e:=hb▸e;exact Fa e
  replace e:=hb▸e
  cases e
  have hb:=Bool.and_eq_true_iff.mp hb
  have h1:=of_decide_eq_true hb.1
  have h2:=of_decide_eq_true hb.2
  exact⟨⟨"str",_,F.slot_str_getitem.lookup,typeIs_str _ _ _⟩,SB.getItem (by simp [fitsSsize];lia) (charAt_isSome h1 h2) (k _ ⟨_,rfl⟩ _)⟩
 |tp a=>
  exact st e λn t hw e=>by
   cases(show v=.ref a from q1)
   refine rt hw ?_
   exact(hT _ _ _ e).at_.elim λkvs z=>z.elim λy z=>have d:=z.1 _ M.ib;⟨⟨"dict",_,slot_dict_getitem.lookup,d.typeIs⟩,wpAny_getItem_of (knd:=PySem.strKind θ.W.prog θ.W.w) ((sK θ.W).is n t) d.mapOf z.2.1 (k _ (M.gv z.2.2) _)⟩
 |ob n=>
  exact obs e λo es e=>by
   have at_:=λhd=>M.r.at es hd q1
   induction o using AO.casesOn with
   |Ha l=>
    exact it e λn t hw e=>M.r.on es (λz=>nomatch z) q1 λa ob hv uu g z=>z.elim λvs z=>z.elim λm z=>by
     refine rt hv (rt hw ?_)
     have hl:=dm (z.1▸g)
     exact⟨⟨"list",_,slot_list_getitem.lookup,hl.typeIs⟩,xy hl z.2 e k⟩
   |ns fs=>
    exact st e λn t hw e=>M.r.on es (λz=>nomatch z) q1 λa ob hv uu g z=>by
     refine rt hv (rt hw ?_)
     exact yy (sK θ.W) Zg g z e k
   |di fs=>
    exact it e λn t hw e=>M.r.on es (λz=>nomatch z) q1 λa ob hv uu g z=>by
     refine rt hv (rt hw ?_)
     exact yy (iK θ.W) Xe g z e k
   |dz fs=>
    exact it e λn t hw e=>M.r.on es (λz=>nomatch z) q1 λa ob hv uu g z=>by
     refine rt hv (rt hw ?_)
     exact yy (iK θ.W) Xe g z e k
   |ls pre L l=>
    exact it e λn t hw e=>M.r.on es (λz=>nomatch z) q1 λa ob hv uu g z=>z.2.2.elim λvs y=>y.elim λm y=>by
     refine rt hv (rt hw ?_)
     have hl:=dm (y.1▸g)
     refine⟨⟨"list",_,slot_list_getitem.lookup,hl.typeIs⟩,xy hl ?_ e k⟩
     refine Ac.casesOn y.2 λv1 v2 r1 r2=>?_
     exact((ZD z.2.1).append r1).append r2
   |_=>exact Fa e
 |_=>exact Fa e
theorem zy{A:Around}{prog:Program}{w:World}{T id:String}{value slice:PySem.Expr}{o i:Value}(hT:s.TypeIs o T)(hl:typeLookup (.type T) "__getitem__"=pure (some (.builtin id)))(h:wpAny (model prog w) A (getItem o i) Q E s):
  wpAny (model prog w) A (do
   let r <-subscripted slice (<-getitemInPython o) o i
   letTemporaryGo value o r
   pure r) Q E s:=by
 refine wpAny_bind ?_
 refine rt (getitemInPython_of_ne hT.not_modules ..) ?_
 refine wpAny_bind (wpAny_specialOf hT hl ?_)
 have hs:∃Xa,subscripted slice false o i=operate Xa (getItem o i):=by
  induction slice using PySem.Expr.casesOn with
  |Slice _ _ c _=>rcases c with _|_<;>exact⟨_,rfl⟩
  |_=>exact⟨_,rfl⟩
 have fin:wpAny (model prog w) A (subscripted slice false o i) (λr s₃=>wpAny (model prog w) A (letTemporaryGo value o r>>=λuu=>pure r) Q E s₃) E s:=by
  obtain⟨Xa,hs⟩:=hs
  refine rt hs ?_
  exact wpAny_operating (wpAny_mono h (λr s₃ h₃=>wpAny_bind (wpAny_letTemporaryGo (wpAny_pure h₃))) λuu uu x=>x)
 exact wpAny_pure (wpAny_bind fin)
theorem So.item(hT:∀a k g,T.sd a k=some g->Fk θ.W a k g){p:Pos}{o i:SV}{v w:Value}{value slice:PySem.Expr}(hX:∀a h,X a h->V θ.W a h o v/\V θ.W a h i w):
  So θ X (Rv θ.W) (Rn.item T p o i) (λuu=>do
   let r <-subscripted slice (<-getitemInPython v) v w
   letTemporaryGo value v r
   Pure.pure r):=So.Ib λΓ ad sx s x M q e Q E k=>
 have z:=aE hT M (hX _ _ q).1 (hX _ _ q).2 e k
 z.1.elim λT y=>y.elim λid y=>zy y.2 y.1 z.2
theorem So.getItem(hT:∀a k g,T.sd a k=some g->Fk θ.W a k g){p:Pos}{o i:SV}{v w:Value}(hX:∀a h,X a h->V θ.W a h o v/\V θ.W a h i w):
  So θ X (Rv θ.W) (Rn.item T p o i) (λuu=>PySem.getItem v w):=So.Ib λΓ ad sx s x M q e Q E k=>(aE hT M (hX _ _ q).1 (hX _ _ q).2 e k).2
end
end
section
variable {kz:Nat}
noncomputable def SV.On:SV->Option (List SV)
 |.tu l=>some l
 |_=>none
theorem SV.Cq{o:SV}{n:List SV}(e:o.On=some n):o=.tu n:=by
 induction o using SV.casesOn<;>first|exact congrArg SV.tu (Option.some.inj e)|exact Fa e
noncomputable def Sx.set(s:Sx)(n:Nat)(o:AO):Sx:=⟨s.loc,s.st.set n o,s.hs⟩
set_option maxRecDepth 512 in
theorem WK{prog:Program}{w:World}{A:Around}{E:Value->Shared->Prop}{s:Shared}{l:Addr}{items:Array Value}{j:Nat}{k:Int}{t:Tok}{v:Value}{Q:Unit->Shared->Prop}(hl:s.heap.PlainList l items)(hk:k=.ofNat j)
  (jJ:Builtin.List.listFitsIndex k=true) (hn:j<items.size) (hQ:∀h',h'.PlainList l (items.setIfInBounds j v)->Heap.SameBut l s.heap h'->Q () {s with heap:=h'}):wpAny (model prog w) A (PySem.setItem (.ref l) (.int k t) v) Q E s:=by
 obtain⟨n,ho⟩:=hl
 have hT:s.TypeIs (.ref l) "list":=⟨_,ho,rfl⟩
 unfold PySem.setItem
 try with_reducible refine wpAny_holding ?_
 refine wpAny_bind (wpAny_sequenceKey hT (by decide) ?_)
 refine wpAny_bind ?_
 refine wpAny_callSpecial?_slot (name:=Str.ofString "__setitem__") hT slot_list_setitem ?_
 refine wpAny_call_entry slot_list_setitem hT entry_list_setitem ?_ (args_list_setitem _ _ _)
 refine(?_:wpAny _ _ (Builtin.List.listSubscript? (.int k t)>>=_) _ _ s)
 refine wpAny_bind (wpAny_listSubscript_int jJ ?_)
 clear jJ
 subst hk
 refine(?_:wpAny _ _ ((seqItemAt l j>>=λr=>Pure.pure (r.map (j,·)))>>=_) _ _ s)
 refine wpAny_bind (wpAny_bind (wpAny_seqItemAt ho rfl (wpAny_pure ?_)))
 refine rt (Array.getElem?_eq_getElem hn ..) ?_
 refine(?_:wpAny _ _ (setSeqItemAt l j v>>=_) _ _ s)
 obtain⟨n',Ie⟩:=Obj.data_mapSeq (o:={cls:=.type "list",data:=.seq items n}) rfl (·.setIfInBounds j v)
 have hm:Obj.mapSeq (·.setIfInBounds j v) {cls:=.type "list",data:=.seq items n}=({cls:=.type "list",data:=.seq (items.setIfInBounds j v) n'}:Obj):=by
  unfold Obj.mapSeq at Ie ⊢
  dsimp only at Ie ⊢
  injection Ie with _ h2
  exact rl h2 rfl
 refine wpAny_bind (wpAny_setSeqItemAt ho rfl ?_)
 have fin:=hQ (s.heap.update l (Obj.mapSeq (·.setIfInBounds j v))) ⟨n',by rw[Heap.get?_update_self _ ho (by refine rt hm ?_;rfl),hm]⟩ (Heap.SameBut.update ..)
 first
  |exact wpAny_bind (wpAny_pure (wpAny_pure ⟨.none,rfl,wpAny_pure fin⟩))
  |exact wpAny_pure ⟨.none,rfl,wpAny_pure fin⟩
noncomputable def ag(x:Int)(l:List (Int×Int)):Option Int:=Jc uc x l
noncomputable def Yb(x v:Int)(l:List (Int×Int)):List (Int×Int):=Uf uc x v l
noncomputable abbrev gh(fs:List (Int×Int)):List (Int×SV):=fs.map λp=>(p.1,SV.it p.2)
theorem Pn(x:Int):∀fs,Be x (gh fs)=(ag x fs).map SV.it
 |[]=>rfl
 |p::r=>by
  refine(?_:cond (uc p.1 x) (some (SV.it p.2)) (Be x (gh r))=(cond (uc p.1 x) (some p.2) (ag x r)).map SV.it)
  refine rt (Pn x r ..) ?_
  induction uc p.1 x using Bool.casesOn<;>rfl
theorem bE(x v:Int):∀fs,yi x (.it v) (gh fs)=gh (Yb x v fs)
 |[]=>rfl
 |p::r=>by
  refine(?_:cond (uc p.1 x) ((p.1,SV.it v)::gh r) ((p.1,SV.it p.2)::yi x (.it v) (gh r))=gh (cond (uc p.1 x) ((p.1,v)::r) (p::Yb x v r)))
  refine rt (bE x v r ..) ?_
  induction uc p.1 x using Bool.casesOn<;>rfl
theorem XK(x v:Int):∀fs,(Yb x v fs).length<=fs.length+1
 |[]=>Nat.le_refl _
 |p::r=>by
  refine(?_:(cond (uc p.1 x) ((p.1,v)::r) (p::Yb x v r)).length<=_)
  rcases uc p.1 x with _|_
  ·exact Nat.succ_le_succ (XK x v r)
  exact Nat.le_succ _
namespace Rn
noncomputable def im:List SV->Option (List Str)
 |[]=>some []
 |x::l=>x.ti.bind λx=>(im l).bind λr=>some (x::r)
noncomputable def fj:List Str->List Str->Bool
 |[],[]=>true
 |x::l,y::r=>cond (Oa x y) (fj l r) false
 |_,_=>false
noncomputable def Qn{α:Type}(i:SV)(f:List Str->Option α):Option α:=i.On.bind λks=>(im ks).bind f
noncomputable def cE:Int->Option Nat
 |.ofNat k=>some k
 |_=>none
noncomputable def dh(n:Nat)(o:AO)(l:List Prop):Rn Unit:=λs=>some (.ok (),s.set n o,l)
noncomputable def YK(n:Nat)(fs:List (Str×SV))(v:SV):SV->Rn Unit
 |.st k=>λs=>cond (Nat.ble fs.length 900) (dh n (.ns (pt k v fs)) [] s) none
 |.it k=>λs=>cond fs.isEmpty (dh n (.di [(k,v)]) [] s) none
 |.tu ks=>λs=>cond fs.isEmpty ((im ks).bind λk=>dh n (.dp k (some v)) [] s) none
 |_=>qa
noncomputable def ZK(n:Nat)(i v:SV):AO->Rn Unit
 |.Ha l=>λs=>(i.Kc.bind cE).bind λk=>cond (Nat.blt k l.length&&Nat.ble l.length 1000000) (dh n (.Ha (l.set k v)) [] s) none
 |.ns fs=>YK n fs v i
 |.di fs=>λs=>i.Kc.bind λk=>dh n (.di (yi k v fs)) [fs.length<=100000] s
 |.dp kk _=>λs=>Qn i λk=>cond (fj kk k) (dh n (.dp kk (some v)) [] s) none
 |.dz fs=>λs=>i.Kc.bind λk=>v.Kc.bind λv=>dh n (.dz (Yb k v fs)) [fs.length<=100000] s
 |.dq kk _=>λs=>Qn i λk=>cond (fj kk k) (dh n (.dq kk v) [] s) none
 |_=>qa
noncomputable def bg{α:Type}(o:SV)(f:Nat->AO->Rn α):Rn α:=λs=>o.mf.bind λn=>(s.st[n]?).bind λa=>f n a s
noncomputable def Un(o i v:SV):Rn Unit:=bg o λn a=>ZK n i v a
end Rn
theorem Dq:∀{a b:List Str},Rn.fj a b=true->a=b
 |[],[],_=>rfl
 |x::l,y::r,e=>by
  have e:cond (Oa x y) (Rn.fj l r) false=true:=e
  rcases h:Oa x y with _|_
  ·replace e:=h▸e;exact ft e
  replace e:=h▸e;exact(Je.mp h ..).symm▸(Dq e ..).symm▸rfl
 |[],_::_,e=>ft e
 |_::_,[],e=>ft e
section
variable {θ:Th}{Γ:Bk}{X:Hp}{T:Tb}{ad:List Addr}{sx:Sx}{s:Shared}{W:Wd}{h:Heap}
theorem Vs.set:∀{l:List SV} {vs:List Value},Vs W ad h l vs->∀{x:SV} {v:Value},V W ad h x v->∀k,Vs W ad h (l.set k x) (vs.set k v)
 |[],_,q,_,_,_,_=>by refine rt (show _=[] from q) ?_;exact rfl
 |y::l,_,q,x,v,w,k=>by
  refine Ta.casesOn (q:Ta ..) λu r q z=>?_
  induction k using Nat.casesOn with
   |zero=>exact⟨v,r,w,z⟩
   |succ k=>exact⟨u,_,q,Vs.set z w k⟩
theorem dE{l:List SV}:∀{ks:List Str} {vs:List Value},Rn.im l=some ks->Vs W ad h l vs->ItemsAre (PySem.strKind W.prog W.w) ks vs:=by
 induction l with
 |nil=>intro ks vs e q;cases e;refine rt (show _=[] from q) ?_;exact .nil
 |cons x l ih=>
  intro ks vs e q
  refine obs e λy e1 e=>obs e λr e2 e3=>?_
  refine Ta.casesOn (q:Ta ..) λv r q z=>?_
  replace q:=(SV.Zl e1 ..)▸q
  exact q.elim λt q=>Option.some.inj e3▸.cons (q▸(sK W).is y t) (ih e2 z)
theorem Fq{l:List SV}{ks:List Str}{w:Value}{G:Prop}(e:Rn.im l=some ks)(q:V W ad h (.tu l) w)(K:∀ka,w=.ref ka->IsTupleKey (PySem.strKind W.prog W.w) h ks ka->W.out ad ka->G):G:=by
 induction(q:fb ..) using fb.casesOn with
 |mk a vs n g q m=>exact K a rfl ⟨_,vs.toArray,n,g,rfl,rfl,dE e q⟩ m
theorem eE{α:Type}{i:SV}{f:List Str->Option α}{b:α}{w:Value}{G:Prop}(e:Rn.Qn i f=some b)(q:V W ad h i w)(K:∀ks ka,f ks=some b->w=.ref ka->IsTupleKey (PySem.strKind W.prog W.w) h ks ka->W.out ad ka->G):G:=
 obs e λl e1 e=>obs e λks e2 e3=>by
  replace q:=(SV.Cq e1 ..)▸q
  exact Fq e2 q λka a b c=>K ks ka e3 a b c
theorem aa.bg{α:Type}{o:SV}{f:Nat->AO->Rn α}{K:Except Nat α->Sx->Prop}{v:Value}(q:V W ad h o v)(r:R W ad h sx.st)
  (H:∀n a ao,v=.ref a->ad[n]?=some a->sx.st[n]?=some ao->(∀G:Prop,ao≠.ta->(∀ob,h.get? a=some ob->Oc W ad h a ob ao->G)->G)->aa (f n ao sx) K):aa (Rn.bg o f sx) K:=
 aa.Ea λn e1=>aa.Ea λao e2=>by
  replace q:=(SV.Bg e1 ..)▸q
  exact q.elim λa z=>H n a ao z.2 (Hb z.1) e2 λG hd f=>r.on e2 hd ⟨a,z⟩ λa' ob e uu g o=>by cases z.2.symm.trans e;exact f ob g o
theorem nd{o:AO}(h:(match o with|.ta=>true|_=>false)=false):o≠.ta:=λe=>by replace h:=e▸h;contradiction
theorem Ut(ok:θ.W.Ok)(M:Ms θ Γ ad sx s){K:Type}[DecidableEq K](S:Nn θ.W K){eq:K->K->Bool}(he:Hh eq){n:Nat}{a:Addr}{kvs:List (K×Value)}{fs:List (K×SV)}{x:SV}{u:Value}{k:K}{t:Tok}{ao:AO}(ea:ad[n]?=some a)(d1:s.heap.DictOf S.knd a kvs)(d2:Kv θ.W ad s.heap fs kvs)(nd:(fs.map (·.1)).Nodup)(sz:fs.length<=100000)(q:V θ.W ad s.heap x u)
  (f:∀h,(∃o,h.get? a=some o/\rc θ.W ad h S.kv S.knd.hash (Uf eq k x fs) o)->Ob θ.W ad h a ao) {l:List Prop}:wpAny θ.W.m Γ.A (PySem.setItem (.ref a) (S.kv k t) u) (Qo θ Γ ad s Uv (.ok ()) (sx.set n ao)) (Eo θ Γ ad s (.ok ():Except Nat Unit) (sx.set n ao)) s:=
 wpAny_setItem_pairs (S.is k t) d1 (λh' Ie sb=>⟨(),rfl,have c:=M.rt ea (.ze sb) (s.toks+1);M.Rb ok ea (.ze sb) _ (f h' (rc.of S Ie (Kv.dh he (c.v M q) (d2.imp λuu uu=>c.v M) nd))) trivial⟩) (by refine rt (d2.length ..) ?_;exact eh sz (by decide))
theorem fE(ok:θ.W.Ok)(M:Ms θ Γ ad sx s){n:Nat}{a ka:Addr}{xs:List (List Str×Addr×Value)}{x:SV}{u:Value}{k:List Str}{ao:AO}(ea:ad[n]?=some a)(q4:IsTupleKey (PySem.strKind θ.W.prog θ.W.w) s.heap k ka)(m:θ.W.out ad ka)(d:s.heap.DictOfH θ.W.tk a xs)(hx:xs=[]\/∃kb y,xs=[(k,kb,y)]/\θ.W.out ad kb)(q:V θ.W ad s.heap x u)
  (f:∀h o,h.get? a=some o->Rc θ.W ad h k (V θ.W ad h x) o->Ob θ.W ad h a ao):wpAny θ.W.m Γ.A (PySem.setItem (.ref a) (.ref ka) u) (Qo θ Γ ad s Uv (.ok ()) (sx.set n ao)) (Eo θ Γ ad s (.ok ():Except Nat Unit) (sx.set n ao)) s:=by
 refine wpAny_setItem_heap (by have:=M.un;refine(?_:Γ.A.units+1<9900);unfold Gj at this;lia) q4 d (λh' Ie sb=>⟨(),rfl,?_⟩) (by rcases hx with rfl|⟨_,_,rfl,_⟩<;>simp [sizeLine_eq])
 have c:=M.rt ea (.ze sb) (s.toks+θ.W.tk.draws k)
 refine M.Rb ok ea (.ze sb) _ ?_ trivial
 have:∃kb,storedH xs k ka u=[(k,kb,u)]/\θ.W.out ad kb:=by
  rcases hx with rfl|⟨kb,y,rfl,mb⟩
  ·exact⟨ka,rfl,m⟩
  ·exact⟨kb,by simp [storedH,atKey,putAt],mb⟩
 refine this.elim λkb z=>?_
 replace Ie:=z.1▸Ie
 obtain⟨⟨cl,d,dt,sl⟩,es,ep,ho,⟨hc,hd,hs⟩,Js,he,hi,_⟩:=Ie
 dsimp only at hc hd hs Js
 subst hc hd hs Js
 have he:es=(([(k,kb,u)]:List (List Str×Addr×Value)).map (entryOfKey θ.W.tk)).toArray:=Array.toList_inj.mp (by exact rt he rfl)
 exact f h' _ ho (by refine rt he ?_;exact⟨ep,kb,u,hi _ (.head _),z.2,c.v M q⟩)
theorem Rc.at{k:List Str}{P:Value->Prop}{o:Obj}{a:Addr}(g:h.get? a=some o)(q:Rc W ad h k P o):∃ka v,h.DictOfH W.tk a [(k,ka,v)]/\W.out ad ka/\P v:=by
 induction q using Rc.casesOn with
 |mk ep ka v q m z=>exact⟨ka,v,⟨_,_,ep,g,⟨rfl,rfl,rfl⟩,rfl,rfl,λx m=>by refine rt (List.mem_singleton.mp m ..) ?_;exact q,List.nodup_cons.mpr ⟨List.not_mem_nil,.nil⟩⟩,m,z⟩
theorem gE{o:Obj}{a:Addr}(g:h.get? a=some o)(e:∃ep,o=dictOf [] ep):h.DictOfH W.tk a []:=e.elim λep e=>⟨_,_,ep,e▸g,⟨rfl,rfl,rfl⟩,rfl,rfl,λe m=>absurd m List.not_mem_nil,List.nodup_nil⟩
theorem Vt{o:Obj}{hs:Str->Int}(q:rc W ad h Value.str hs [] o):∃ep,o=dictOf [] ep:=q.elim λes q=>q.elim λn q=>by
 cases q.2.1
 exact⟨n,q.1⟩
theorem So.Un(ok:θ.W.Ok){o i x:SV}{v w u:Value}(hX:∀a h,X a h->V θ.W a h o v/\V θ.W a h i w/\V θ.W a h x u):So θ X Uv (Rn.Un o i x) (λuu=>PySem.setItem v w u):=λΓ ad sx s M q=>by
 have q:=hX _ _ q
 refine aa.bg q.1 M.r λn a ao hv ea es at_=>?_
 refine rt hv ?_
 have tk:∀{k ka e0} (xf:AO),ao≠.ta->w=.ref ka->IsTupleKey (PySem.strKind θ.W.prog θ.W.w) s.heap k ka->θ.W.out ad ka->(∀ob,Oc θ.W ad s.heap a ob ao->(∃ep,ob=dictOf [] ep)\/Rc θ.W ad s.heap k e0 ob)->(∀h o,h.get? a=some o->Rc θ.W ad h k (V θ.W ad h x) o->Ob θ.W ad h a xf)->wpAny θ.W.m Γ.A (PySem.setItem (.ref a) w u) (Qo θ Γ ad s Uv (.ok ()) (sx.set n xf)) (Eo θ Γ ad s (.ok ():Except Nat Unit) (sx.set n xf)) s:=λxf hd hw q4 m h1 f=>at_ _ hd λob g z=>by
  refine rt hw ?_
  rcases h1 ob z with z|z
  ·exact fE ok M ea q4 m (gE g z) (.inl rfl) q.2.2 f
  ·exact(z.at g).elim λkb z=>z.elim λy z=>fE ok M ea q4 m z.1 (.inr ⟨kb,y,rfl,z.2.1⟩) q.2.2 f
 induction ao using AO.casesOn with
 |Ha l=>
  refine aa.Ea λk e1=>aa.yb λhk=>aa.ok<|obs e1 λy e1 e2=>at_ _ (λz=>nomatch z) λob g z=>z.elim λvs z=>z.elim λm z=>?_
  have qi:=q.2.1
  replace qi:=(SV.Zf e1 ..)▸qi
  have hk:=Bool.and_eq_true_iff.mp hk
  have k2:=Nat.le_of_ble_eq_true hk.2
  have k1:k<l.length:=by have:=hk.1;replace this:=(Nat.blt_eq ..)▸this;exact this
  have ey:y=.ofNat k:=by induction y using Int.casesOn<;>first|exact congrArg Int.ofNat (Option.some.inj e2)|exact Fa e2
  have hl:=z.2.length
  refine qi.elim λt e3=>?_
  refine rt e3 ?_
  refine WK ⟨m,z.1▸g⟩ ey (ey▸fitsIndex_of (Int.natCast_nonneg k) (by simp;lia)) (by simpa [hl] using k1) λh' Xd sb=>⟨(),rfl,?_⟩
  have c:=M.rt ea (.ze sb) s.toks
  exact M.Rb ok ea (.ze sb) (ao:=.Ha (l.set k x)) s.toks (Xd.elim λm' g'=>.mk g' ⟨vs.set k u,m',by simp,(c.vs M z.2).set (c.v M q.2.2) k⟩) trivial
 |ns fs=>
  induction i using SV.casesOn with
  |st k=>
   exact aa.yb λhk=>aa.ok<|at_ _ (λz=>nomatch z) λob g z=>q.2.1.elim λt e=>by
    refine rt e ?_
    exact z.dict (sK θ.W) g λkvs d1 d2 nd=>Ut ok M (sK θ.W) Zg (ao:=.ns (pt k x fs)) (l:=[]) ea d1 d2 nd (Nat.le_trans (Nat.le_of_ble_eq_true hk) (by decide)) q.2.2 λuu z=>z
  |it k=>
   exact aa.yb λhk=>aa.ok<|at_ _ (λz=>nomatch z) λob g z=>q.2.1.elim λt e=>by
    refine rt e ?_
    rcases fs with _|⟨_,_⟩
    ·exact Ut ok M (iK θ.W) Xe (ao:=.di [(k,x)]) (l:=[]) (fs:=[]) ea (z.nil (iK θ.W) g) .nil List.nodup_nil (by decide) q.2.2 λuu z=>z
    exact ft hk
  |tu ks=>
   exact aa.yb λhk=>aa.Ea λk e1=>aa.ok<|Fq e1 q.2.1 λka hw q4 m=>by
    rcases fs with _|⟨_,_⟩
    ·exact tk (e0:=λuu=>True) (.dp k (some x)) (λz=>nomatch z) hw q4 m (λob z=>.inl (Vt z)) λuu o g z=>⟨o,g,z⟩
    exact ft hk
  |_=>trivial
 |di fs=>
  refine aa.Ea λk e1=>aa.Ua λhz=>at_ _ (λz=>nomatch z) λob g z=>?_
  have qi:=q.2.1
  replace qi:=(SV.Zf e1 ..)▸qi
  refine qi.elim λt e=>?_
  refine rt e ?_
  exact z.dict (iK θ.W) g λkvs d1 d2 nd=>Ut ok M (iK θ.W) Xe (ao:=.di (yi k x fs)) (l:=[]) ea d1 d2 nd hz q.2.2 λuu z=>z
 |dz fs=>
  refine aa.Ea λk e1=>aa.Ea λy e2=>aa.Ua λhz=>at_ _ (λz=>nomatch z) λob g z=>?_
  have qi:=q.2.1
  replace qi:=(SV.Zf e1 ..)▸qi
  refine qi.elim λt e=>?_
  refine rt e ?_
  exact rc.dict (iK θ.W) g z λkvs d1 d2 nd=>Ut ok M (iK θ.W) Xe (ao:=.dz (Yb k y fs)) (l:=[]) ea d1 d2 nd (by refine rt (List.length_map ..) ?_;exact hz) q.2.2 λh z=>by replace z:=(show Uf uc k (SV.it y) _=_ from bE k y fs)▸(SV.Zf e2 ..)▸z;exact z
 |dp kk old=>
  refine aa.Ea λks e1=>aa.Ea λk e2=>aa.yb λhk=>aa.ok<|?_
  have qi:=q.2.1
  replace qi:=(SV.Cq e1 ..)▸qi
  have hk:=Dq hk
  subst hk
  refine Fq e2 qi λka hw q4 m=>?_
  rcases old with _|y
  ·exact tk (e0:=λuu=>True) (.dp kk (some x)) (λz=>nomatch z) hw q4 m (λob z=>.inl z) λuu o g z=>⟨o,g,z⟩
  exact tk (.dp kk (some x)) (λz=>nomatch z) hw q4 m (λob z=>.inr z) λuu o g z=>⟨o,g,z⟩
 |dq kk old=>
  refine aa.Ea λks e1=>aa.Ea λk e2=>aa.yb λhk=>aa.ok<|?_
  have qi:=q.2.1
  replace qi:=(SV.Cq e1 ..)▸qi
  have hk:=Dq hk
  subst hk
  exact Fq e2 qi λka hw q4 m=>tk (.dq kk x) (λz=>nomatch z) hw q4 m (λob z=>z.imp And.left id) λuu o g z=>⟨o,g,.inr z⟩
 |_=>trivial
end
end
section
variable {kz:Nat}
set_option genCtorIdx true in
inductive Mb where
 |append|Id|Gk|Wt|Xt
 deriving DecidableEq,Inhabited
noncomputable def Mb.id:Mb->String
 |.append=>"list.append"
 |.Id=>"list.pop"
 |.Gk=>"list.extend"
 |.Wt=>"dict.get"
 |.Xt=>"dict.pop"
noncomputable def AO.iE:AO->Option (List SV)
 |.Ha l=>some l
 |_=>none
theorem AO.aL{o:AO}{n:List SV}(e:o.iE=some n):o=.Ha n:=by
 induction o using AO.casesOn<;>first|exact congrArg AO.Ha (Option.some.inj e)|exact Fa e
namespace Rn
noncomputable def lastOf:List SV->Option (List SV×SV)
 |[]=>none
 |x::l=>match lastOf l with
  |some p=>some (x::p.1,p.2)
  |none=>some ([],x)
noncomputable def Hk(st:St):SV->Option (List SV)
 |.fl l=>some l
 |.ob n=>(st[n]?).bind AO.iE
 |_=>none
noncomputable def out(n:Nat)(o:AO)(r:SV)(l:List Prop):Rn SV:=λs=>some (.ok r,s.set n o,l)
noncomputable def Yt(n:Nat)(x:SV):AO->Rn SV
 |.Ha l=>out n (.Ha (l++[x])) .nn [l.length<=100000]
 |.ls pre L l=>cond (l.isEmpty&&Ia x) (out n (.ls pre (L++[x]) []) .nn [pre.length+L.length<=100000]) (out n (.ls pre L (l++[x])) .nn [pre.length+L.length+l.length<=100000])
 |_=>qa
noncomputable def Zt:SV->Option (List SV)
 |.fl l=>some l
 |_=>none
noncomputable def au(n:Nat)(x:SV):AO->Rn SV
 |.Ha l=>λs=>(Zt x).bind λr=>out n (.Ha (l++r)) .nn [l.length+r.length<=100000] s
 |_=>qa
noncomputable def bL(n:Nat)(l:List SV):Option Hd->Rn SV
 |none=>λs=>(lastOf l).bind λr=>out n (.Ha r.1) r.2 [l.length<=100000] s
 |some (.Id i x)=>out n (.Ha i) x [l=i++[x],l.length<=100000]
 |_=>qa
noncomputable def fL(n:Nat)(pre:List Value)(L l:List SV):Option Hd->Rn SV
 |some (.Id i x)=>out n (.ls pre i []) x [l=[]/\L=i++[x],pre.length+L.length<=100000]
 |_=>qa
noncomputable def cu(p:Pos)(n:Nat):AO->Rn SV
 |.Ha l=>hint p>>=bL n l
 |.ls pre L l=>match lastOf l with
  |some r=>out n (.ls pre L r.1) r.2 [pre.length+L.length+l.length<=100000]
  |none=>hint p>>=fL n pre L l
 |_=>qa
noncomputable def Kh:SV->Bool
 |.nn=>true
 |_=>false
noncomputable def nsGet(fs:List (Str×SV))(d:SV):SV->Option SV
 |.st x=>some ((lk x fs).getD d)
 |.it _=>cond fs.isEmpty (some d) none
 |.tu ks=>cond fs.isEmpty ((im ks).bind λuu=>some d) none
 |_=>none
noncomputable def jE(k d:SV):AO->Option SV
 |.ns fs=>nsGet fs d k
 |.di fs=>k.Kc.bind λx=>some ((Be x fs).getD d)
 |.dp kk e=>Qn k λk=>cond (fj kk k) (some (e.getD d)) none
 |.dq kk x=>cond (Kh d) (Qn k λk=>cond (fj kk k) (some x) none) none
 |.dz fs=>k.Kc.bind λi=>some (((ag i fs).map SV.it).getD d)
 |_=>none
noncomputable def Gq(st:St)(n:SV)(k d:SV):Option SV:=n.mf.bind λn=>(st[n]?).bind (jE k d)
noncomputable def kE(k d:SV):AO->Option SV
 |.ns fs=>k.Kc.bind λuu=>cond fs.isEmpty (some d) none
 |.di fs=>k.Kc.bind λi=>cond (Be i fs).isNone (some d) none
 |_=>none
noncomputable def Ua(args:List SV)(f:SV->Rn SV):Rn SV:=match args with
 |[x]=>f x
 |_=>qa
noncomputable def Ld(args:List SV)(f:SV->SV->Rn SV):Rn SV:=match args with
 |[x,y]=>f x y
 |_=>qa
noncomputable def du(p:Pos)(m:Mb)(self:SV)(args:List SV):Rn SV:=match m with
 |.append=>Ua args λx=>bg self λn=>Yt n x
 |.Gk=>Ua args λx=>bg self λn=>au n x
 |.Id=>cond args.isEmpty (bg self λn=>cu p n) qa
 |.Wt=>match args with
  |[k]=>Ib p λst=>Gq st self k .nn
  |args=>Ld args λk d=>Ib p λst=>Gq st self k d
 |.Xt=>Ld args λk d=>get λs=>self.mf.bind λn=>(s.st[n]?).bind (kE k d)
noncomputable def jL(n:Nat):AO->Rn SV
 |.Ha l=>λs=>some (.ok (.it l.length),s,[l.length<=1000000])
 |.ls pre L l=>λs=>some (.ok (.it ((pre.length+L.length+l.length:Nat):Int)),s,[pre.length+L.length+l.length<=1000000])
 |_=>qa
noncomputable def fu(x:SV):Rn SV:=match Zt x with
 |some l=>λs=>some (.ok (.it l.length),s,[l.length<=1000000])
 |none=>bg x jL
end Rn
theorem Ay:∀{l:List SV} {r:List SV×SV},Rn.lastOf l=some r->l=r.1++[r.2]
 |[],_,e=>Fa e
 |x::l,r,e=>by
  have e:(match Rn.lastOf l with|some p=>some (x::p.1,p.2)|none=>some ([],x))=some r:=e
  rcases h:Rn.lastOf l with _|p
  ·replace e:=h▸e
   refine rl (Option.some.inj e ..) ?_
   rcases l with _|⟨y,l⟩
   ·rfl
   have h:(match Rn.lastOf l with|some p=>some (y::p.1,p.2)|none=>some ([],y))=none:=h;induction h2:Rn.lastOf l using Option.casesOn<;>(replace h:=h2▸h;contradiction)
  replace e:=h▸e;refine rt (Ay h ..) (rl (Option.some.inj e ..) ?_);rfl
section
variable {prog:Program}{w:World}{K:Type}[DecidableEq K]{knd:PySem.KeyKind prog w K}{d:Addr}{k:K}{key:Value}
theorem pL(yV:knd.is k key=true)(hd:(d==sysModules)=false)(Xf:Value)(zV:(keyPart key).isSome=true):
  MeetsIn prog w (Builtin.«dict.pop» ⟨[.ref d,key,Xf],[]⟩) (λuu R s=>∃kvs,s.heap.DictOf knd d kvs/\valueAt kvs k=none/\R (.ok (.ret Xf)) {s with toks:=s.toks+1}):=
 .of_wp λA R s ⟨kvs,hm,hv,h⟩=>by
  unfold Builtin.«dict.pop»
  refine wpAny_bind ?_
  unfold Builtin.Dict.keyAndDefault
  refine wpAny_bind (wpAny_notOrdered_dict hm.typeIs ?_)
  refine(?_:wpAny _ _ (Pure.pure (d,key,some Xf)) _ _ s)
  refine wpAny_pure ?_
  simp only [zV,if_true]
  refine wpAny_bind (wpAny_pure ?_)
  simp only [Bool.false_eq_true,if_false]
  refine wpAny_bind (wpAny_takeOut_pairs_none yV hm hv ?_)
  simp only [Option.isNone_none,if_true]
  refine wpAny_bind (wpAny_missedRemoval_other hd ?_)
  exact wpAny_bind (wpAny_rule (wpAny_pure ⟨Xf,rfl,h⟩))
end
section
variable {θ:Th}{Γ:Bk}{X:Hp}{T:Tb}{ad:List Addr}{sx:Sx}{s:Shared}{W:Wd}{h:Heap}
theorem Wd.Ok.gu{st:St}(ok:W.Ok)(r:R W ad h st){n:Nat}{a:Addr}(e:ad[n]?=some a):(a==sysModules)=false:=
 ok.sm.elim λo eo=>beq_eq_false_iff_ne.mpr λq=>by
  replace eo:=(show W.K.lookup a=none from(r.lt a (List.mem_of_getElem? e)).1)▸(q ..).symm▸eo;contradiction
theorem lE:∀{l r:List SV},clos l=true->clos r=true->clos (l++r)=true
 |[],_,_,q=>q
 |x::l,r,c,q=>have c:=Bool.and_eq_true_iff.mp c;Bool.and_eq_true_iff.mpr ⟨c.1,lE c.2 q⟩
theorem mE:∀{l r:List SV},clos (l++r)=true->clos l=true
 |[],_,_=>rfl
 |x::l,r,c=>have c:=Bool.and_eq_true_iff.mp (show(Ia x&&clos (l++r))=true from c);Bool.and_eq_true_iff.mpr ⟨c.1,mE c.2⟩
theorem Vs.Ua{x:SV}{v:Value}(q:V W ad h x v):Vs W ad h [x] [v]:=⟨v,[],q,rfl⟩
theorem Ac.len{pre:List Value}{L l:List SV}{vs:List Value}(q:Ac pre (Vs W ad h L) (Vs W ad h l) vs):vs.length=pre.length+L.length+l.length:=by
 induction q using Ac.casesOn with|mk v1 v2 q z=>exact(List.length_append ..).symm▸(List.length_append ..).symm▸(q.length ..).symm▸(z.length ..).symm▸rfl
theorem By(ok:θ.W.Ok)(M:Ms θ Γ ad sx s){n:Nat}{a:Addr}{ob:Obj}{P:List Value->Prop}{u:Value}{ao:AO}(ea:ad[n]?=some a)(g:s.heap.get? a=some ob)(z:Vf P ob)(hz:∀vs,P vs->vs.length<=100000)
  (f:∀vs,P vs->∀h n,pb θ.W Γ.L ad s ad {s with heap:=h,toks:=s.toks}->h.get? a=some ⟨.type "list",none,.seq (List.toArray (vs++[u])) n,#[]⟩->Ob θ.W ad h a ao):wpAny θ.W.m Γ.A (call (.builtin "list.append") [.ref a,u]) (Qo θ Γ ad s (Rv θ.W) (.ok .nn) (sx.set n ao)) (Eo θ Γ ad s (.ok .nn:Except Nat SV) (sx.set n ao)) s:=
 z.elim λvs z=>z.elim λm z=>wpAny_list_append_plain ⟨m,z.1▸g⟩ (λh' Xd sb=>⟨_,rfl,M.Rb ok ea (.ze sb) s.toks (Xd.elim λm' g'=>f vs z.2 h' m' (M.rt ea (.ze sb) s.toks) (by exact(g' ..).symm▸(List.push_toArray ..).symm▸rfl)) rfl⟩) (by refine rt (List.size_toArray ..) ?_;exact eh (hz vs z.2) (by decide))
theorem So.Yt(ok:θ.W.Ok){n:Nat}{a:Addr}{ao:AO}{x:SV}{u:Value}(M:Ms θ Γ ad sx s)(ea:ad[n]?=some a)(at_:∀G:Prop,ao≠.ta->(∀ob,s.heap.get? a=some ob->Oc θ.W ad s.heap a ob ao->G)->G)(q:V θ.W ad s.heap x u):Gl θ Γ ad s (Rv θ.W) (Rn.Yt n x ao sx) (call (.builtin "list.append") [.ref a,u]) s:=by
 induction ao with
 |Ha l=>exact aa.Ua λhz=>at_ _ (λz=>nomatch z) λob g z=>By (ao:=.Ha (l++[x])) ok M ea g z (λvs q=>by refine rt (q.length ..) ?_;exact hz) λvs z h m c g=>⟨_,g,_,m,rfl,(c.vs M z).append (.Ua (c.v M q))⟩
 |ls pre L l=>
  refine aa.zn (λhc=>?_) λuu=>?_
  ·refine aa.Ua λhz=>at_ _ (λz=>nomatch z) λob g z=>?_
   have hc:=Bool.and_eq_true_iff.mp hc
   replace z:=(List.isEmpty_iff.mp hc.1 ..)▸z
   refine By (ao:=.ls pre (L++[x]) []) ok M ea g z.2.2 (λvs q=>by refine(q.len ..).symm▸?_;exact hz) λvs y h m c g=>⟨_,g,lE z.1 (Bool.and_eq_true_iff.mpr ⟨hc.2,rfl⟩),z.2.1,_,m,rfl,?_⟩
   refine Ac.casesOn y λv1 v2 q1 z1=>?_
   cases(show v2=[] from z1)
   refine rt (List.append_nil ..) (rt (List.append_assoc ..) ?_)
   have:=Ac.mk (pre:=pre) (P:=Vs θ.W ad h (L++[x])) (Q:=Vs θ.W ad h []) (v1++[u]) [] ((c.vs M q1).append (.Ua (c.v M q))) rfl
   replace this:=(List.append_nil ..)▸this
   exact this
  ·refine aa.Ua λhz=>at_ _ (λz=>nomatch z) λob g z=>By (ao:=.ls pre L (l++[x])) ok M ea g z.2.2 (λvs q=>by refine(q.len ..).symm▸?_;exact hz) λvs y h m c g=>⟨_,g,z.1,z.2.1,_,m,rfl,?_⟩
   refine Ac.casesOn y λv1 v2 q1 z1=>?_
   refine rt (List.append_assoc ..) ?_;exact⟨v1,v2++[u],c.vs M q1,(c.vs M z1).append (.Ua (c.v M q))⟩
 |_=>trivial
theorem qL{vs ws:Array Value}{n:Nat}{f:Array Value->Array Value}(e:f vs=ws):∃n',Obj.mapSeq f {cls:=.type "list",data:=.seq vs n}=({cls:=.type "list",data:=.seq ws n'}:Obj):=by
 obtain⟨n',Ie⟩:=Obj.data_mapSeq (o:={cls:=.type "list",data:=.seq vs n}) rfl f
 refine⟨n',?_⟩
 unfold Obj.mapSeq at Ie ⊢
 dsimp only at Ie ⊢
 injection Ie with _ h2
 exact h2▸e.symm▸rfl
theorem nE{a:Addr}{vs ws:Array Value}{n:Nat}{f:Array Value->Array Value}(g:h.get? a=some {cls:=.type "list",data:=.seq vs n})(e:f vs=ws):∃n',(h.update a (Obj.mapSeq f)).get? a=some {cls:=.type "list",data:=.seq ws n'}:=
 (qL e).elim λn' z=>⟨n',by rw[Heap.get?_update_self _ g (by refine rt z ?_;rfl),z]⟩
theorem So.au(ok:θ.W.Ok){n:Nat}{a:Addr}{ao:AO}{x:SV}{u:Value}(M:Ms θ Γ ad sx s)(ea:ad[n]?=some a)(at_:∀G:Prop,ao≠.ta->(∀ob,s.heap.get? a=some ob->Oc θ.W ad s.heap a ob ao->G)->G)(q:V θ.W ad s.heap x u):Gl θ Γ ad s (Rv θ.W) (Rn.au n x ao sx) (call (.builtin "list.extend") [.ref a,u]) s:=by
 induction ao with
 |Ha l=>
  refine aa.Ea λr er=>aa.Ua λhz=>at_ _ (λz=>nomatch z) λob g z=>z.elim λvs z=>z.elim λm z=>?_
  have g:=z.1▸g
  have l1:=z.2.length
  have er:x=.fl r:=by induction x using SV.casesOn<;>first|exact congrArg SV.fl (Option.some.inj er)|exact Fa er
  subst er
  refine fb.casesOn (q:fb ..) λb ws k g2 q2 uu=>?_
  have l2:=q2.length
  refine call_meets F.slot_list_extend ⟨_,g,rfl⟩ F.entry_list_extend (F.args_list_extend_2 _ _) (AutoSeq1.list_extend_list_list_0 a vs.toArray m b ws.toArray k (by simp [Builtin.List.listTooLong,sizeLine_eq];lia) (by simp [sizeLine_eq];lia) (by simp [sizeLine_eq];lia)) ⟨g,g2,?_⟩
  have fx:Fx a s.heap (s.heap.update a (Obj.mapSeq λx=>x++ws.toArray)):=Fx.update ..
  have c:=M.rt ea fx s.toks
  exact⟨.nn,rfl,M.Rb ok ea fx _ ((nE g (ws:=(vs++ws).toArray) (by simp)).elim λn' g'=>⟨_,g',_,n',rfl,(c.vs M z.2).append (c.vs M q2)⟩) rfl⟩
 |_=>trivial
theorem Vs.iu:∀{i:List SV} {x:SV} {vs:List Value},Vs W ad h (i++[x]) vs->∃vi v,vs=vi++[v]/\Vs W ad h i vi/\V W ad h x v
 |[],x,vs,q=>by
  refine Ta.casesOn (q:Ta ..) λv r q z=>?_
  cases(show r=[] from z);exact⟨[],v,rfl,rfl,q⟩
 |y::i,x,vs,q=>by
  refine Ta.casesOn (q:Ta ..) λv r q z=>?_
  exact(Vs.iu z).elim λvi z=>z.elim λu z=>⟨v::vi,u,by refine rt z.1 ?_;rfl,⟨v,vi,q,z.2.1⟩,z.2.2⟩
theorem oE(ok:θ.W.Ok)(M:Ms θ Γ ad sx s){n m:Nat}{a:Addr}{vi:List Value}{v:Value}{x:SV}{ao:AO}(ea:ad[n]?=some a)(g:s.heap.get? a=some ⟨.type "list",none,.seq (List.toArray (vi++[v])) m,#[]⟩)(hz:vi.length<100000)(qx:V θ.W ad s.heap x v)
  (f:∀h n,pb θ.W Γ.L ad s ad {s with heap:=h,toks:=s.toks}->h.get? a=some ⟨.type "list",none,.seq (List.toArray vi) n,#[]⟩->Ob θ.W ad h a ao):wpAny θ.W.m Γ.A (call (.builtin "list.pop") [.ref a]) (Qo θ Γ ad s (Rv θ.W) (.ok x) (sx.set n ao)) (Eo θ Γ ad s (.ok x:Except Nat SV) (sx.set n ao)) s:=by
 have hs:(vi++[v]).toArray.size=vi.length+1:=by simp
 refine call_meets F.slot_list_pop ⟨_,g,rfl⟩ F.entry_list_pop (F.args_list_pop_1 _) (MeetsSeq.list_pop_last a (vi++[v]).toArray m v (by simp) (by refine hs.symm▸sizeLine_eq.symm▸?_;lia)) ⟨g,x,rfl,?_⟩
 have fx:Fx a s.heap (s.heap.update a (Obj.mapSeq λxs=>xs.eraseIdxIfInBounds ((vi++[v]).toArray.size - 1))):=Fx.update ..
 have c:=M.rt ea fx s.toks
 exact M.Rb ok ea fx _ ((nE g (ws:=vi.toArray) (by refine rt (hs ..) (rt (Nat.add_sub_cancel ..) ?_);simp [Array.eraseIdxIfInBounds,List.eraseIdx_append_of_length_le])).elim λn' g'=>f _ n' c g') (c.v M qx)
theorem So.cu(ok:θ.W.Ok){n:Nat}{a:Addr}{ao:AO}{p:Pos}(M:Ms θ Γ ad sx s)(ea:ad[n]?=some a)(at_:∀G:Prop,ao≠.ta->(∀ob,s.heap.get? a=some ob->Oc θ.W ad s.heap a ob ao->G)->G):Gl θ Γ ad s (Rv θ.W) (Rn.cu p n ao sx) (call (.builtin "list.pop") [.ref a]) s:=by
 have ml:∀{hs l i x},ao=.Ha l->l=i++[x]->l.length<=100000->wpAny θ.W.m Γ.A (call (.builtin "list.pop") [.ref a]) (Qo θ Γ ad s (Rv θ.W) (.ok x) (Sx.set {sx with hs:=hs} n (.Ha i))) (Eo θ Γ ad s (.ok x:Except Nat SV) (Sx.set {sx with hs:=hs} n (.Ha i))) s:=λ{hs l i x} e1 e2 hz=>by
  subst e1 e2
  exact at_ _ (λz=>nomatch z) λob g z=>z.elim λvs z=>z.elim λm z=>(Vs.iu z.2).elim λvi y=>y.elim λv y=>
   oE ok (M.as (sx1:={sx with hs:=hs}) rfl rfl) ea (y.1▸z.1▸g) (by replace hz:=(List.length_append ..)▸hz;refine rt (y.2.1.length ..) ?_;exact hz) y.2.2 λh k c g=>⟨_,g,vi,k,rfl,c.vs M y.2.1⟩
 have mc:∀{hs pre L l L' l' x},ao=.ls pre L l->(∀h vs,Ac pre (Vs θ.W ad h L) (Vs θ.W ad h l) vs->∃vi v,vs=vi++[v]/\Ac pre (Vs θ.W ad h L') (Vs θ.W ad h l') vi/\V θ.W ad h x v)->(clos L=true->clos L'=true)->pre.length+L.length+l.length<=100000->wpAny θ.W.m Γ.A (call (.builtin "list.pop") [.ref a]) (Qo θ Γ ad s (Rv θ.W) (.ok x) (Sx.set {sx with hs:=hs} n (.ls pre L' l'))) (Eo θ Γ ad s (.ok x:Except Nat SV) (Sx.set {sx with hs:=hs} n (.ls pre L' l'))) s:=λ{hs pre L l L' l' x} e1 f fc hz=>by
  subst e1
  exact at_ _ (λz=>nomatch z) λob g z=>z.2.2.elim λvs y=>y.elim λm y=>(f _ _ y.2).elim λvi u=>u.elim λv u=>
   oE ok (M.as (sx1:={sx with hs:=hs}) rfl rfl) ea (u.1▸y.1▸g) (by have:=y.2.len;replace this:=(List.length_append ..)▸(u.1 ..)▸this;replace hz:=this.symm▸hz;exact hz) u.2.2 λh k c g=>⟨_,g,fc z.1,z.2.1,vi,k,rfl,u.2.1.imp (λuu=>c.vs M) λuu=>c.vs M⟩
 induction ao with
 |Ha l=>
  refine aa.hint λd hs=>?_
  rcases d with _|d
  ·exact aa.Ea λr er=>aa.Ua λhz=>ml rfl (Ay er) hz
  induction d using Hd.casesOn with
   |Id i x=>exact λz=>ml rfl (z _ (.head _)) (z _ (.tail _ (.head _)))
   |_=>trivial
 |ls pre L l=>
  refine(?_:aa ((match Rn.lastOf l with|some r=>_|none=>_:Rn SV) sx) _)
  rcases er:Rn.lastOf l with _|r
  ·refine aa.hint λd hs=>?_
   rcases d with _|d
   ·trivial
   induction d using Hd.casesOn with
    |Id i x=>
     intro z
     have z1:=z _ (.head _)
     refine mc rfl (λh vs q=>?_) (λc=>mE (z1.2▸c)) (by refine z1.1.symm▸?_;exact z _ (.tail _ (.head _)))
     ·replace q:=z1.2▸z1.1▸q
      refine Ac.casesOn q λv1 v2 q z=>?_
      cases(show v2=[] from z)
      refine(Vs.iu q).elim λvi z=>z.elim λv z=>⟨pre++vi,v,by exact(z.1 ..).symm▸(List.append_nil ..).symm▸(List.append_assoc ..)▸rfl,?_,z.2.2⟩
      have:=Ac.mk (pre:=pre) (P:=Vs θ.W ad h i) (Q:=Vs θ.W ad h []) vi [] z.2.1 rfl
      replace this:=(List.append_nil ..)▸this
      exact this
    |_=>trivial
  have e:=Ay er
  refine aa.Ua λhz=>mc (hs:=sx.hs) rfl (λh vs q=>?_) id hz
  replace q:=e▸q
  refine Ac.casesOn q λv1 v2 q z=>?_
  exact(Vs.iu z).elim λvi z=>z.elim λv z=>⟨pre++v1++vi,v,by exact(z.1 ..).symm▸(List.append_assoc ..)▸rfl,⟨v1,vi,q,z.2.1⟩,z.2.2⟩
 |_=>trivial
end
end
section
variable {kz:Nat}
open PySem.SeqAt
section
variable {θ:Th}{Γ:Bk}{X:Hp}{T:Tb}{ad:List Addr}{sx:Sx}{s:Shared}{W:Wd}{h:Heap}{Q E:Value->Shared->Prop}
structure Gt(θ:Th)(Γ:Bk)(s:Shared)(a:Addr)(w dv:Value)(Q E:Value->Shared->Prop):Prop where
 g3:wpAny θ.W.m Γ.A (call (.builtin "dict.get") [.ref a,w,dv]) Q E s
 g2:dv=.none->wpAny θ.W.m Γ.A (call (.builtin "dict.get") [.ref a,w]) Q E s
theorem Lk.get{r:Option SV}{ov:Option Value}{d:SV}{dv:Value}(q:Lk W ad h r ov)(qd:V W ad h d dv):V W ad h (r.getD d) (ov.getD dv):=by
 rcases r with _|x
 ·refine rt (show ov=none from q) ?_;exact qd
 exact q.elim λv z=>z.1▸z.2
theorem ju{K:Type}[DecidableEq K](S:Nn θ.W K){eq:K->K->Bool}(he:Hh eq){a:Addr}{fs:List (K×SV)}{k:K}{t:Tok}{ob:Obj}{d:SV}{dv:Value}(hd:(a==sysModules)=false)(g:s.heap.get? a=some ob)(z:rc θ.W ad s.heap S.kv S.knd.hash fs ob)(qd:V θ.W ad s.heap d dv)
  (f:∀v,V θ.W ad s.heap ((Jc eq k fs).getD d) v->∀t,Q v {s with toks:=t}):Gt θ Γ s a (S.kv k t) dv Q E:=z.dict S g λkvs d1 d2 uu=>
 have z:=f _ ((d2.df he k).get qd)
 ⟨call_meetsIn F.slot_dict_get d1.typeIs F.entry_dict_get (F.args_dict_get_3 _ _ _) (meets_dict_get_default S.knd a (S.is k t) hd dv) ⟨_,d1.mapOf,z _⟩,
  λe=>call_meetsIn F.slot_dict_get d1.typeIs F.entry_dict_get (F.args_dict_get_2 _ _) (meets_dict_get S.knd a (S.is k t) hd) ⟨_,d1.mapOf,e▸z _⟩⟩
theorem pE(M:Ms θ Γ ad sx s){a ka:Addr}{k:List Str}{xs:List (List Str×Addr×Value)}{dv v:Value}(hd:(a==sysModules)=false)(d:s.heap.DictOfH θ.W.tk a xs)(q4:IsTupleKey (PySem.strKind θ.W.prog θ.W.w) s.heap k ka)(e:((atKey xs k).map (·.2)).getD dv=v)(f:∀t,Q v {s with toks:=t}):Gt θ Γ s a (.ref ka) dv Q E:=by
 have hu:θ.W.tk.room Γ.A.in1:=by have:=M.un;refine(?_:Γ.A.units+1<9900);unfold Gj at this;lia
 subst e
 exact⟨call_meetsIn F.slot_dict_get d.typeIs F.entry_dict_get (F.args_dict_get_3 _ _ _) (meetsH_dict_get_default _ a ka hd dv) ⟨hu,k,xs,q4,d,f _⟩,
  λe=>call_meetsIn F.slot_dict_get d.typeIs F.entry_dict_get (F.args_dict_get_2 _ _) (meetsH_dict_get _ a ka hd) ⟨hu,k,xs,q4,d,e▸f _⟩⟩
theorem tL(ok:θ.W.Ok)(M:Ms θ Γ ad sx s){n:Nat}{a:Addr}{ao:AO}{k d x:SV}{w dv:Value}(ea:ad[n]?=some a)(at_:∀G:Prop,ao≠.ta->(∀ob,s.heap.get? a=some ob->Oc θ.W ad s.heap a ob ao->G)->G)(qk:V θ.W ad s.heap k w)(qd:V θ.W ad s.heap d dv)(e:Rn.jE k d ao=some x)
  (f:∀v,V θ.W ad s.heap x v->∀t,Q v {s with toks:=t}):Gt θ Γ s a w dv Q E:=by
 have hd:=ok.gu M.r ea
 have it:∀{f:Int->Option SV} {G:Prop},k.Kc.bind f=some x->(∀n t,w=.int n t->f n=some x->G)->G:=λe K=>obs e λn e1 e2=>by
  replace qk:=(SV.Zf e1 ..)▸qk
  exact qk.elim λt z=>K n t z e2
 have Ua:∀{ks ka kb y ob},s.heap.get? a=some ob->Rc θ.W ad s.heap kb (V θ.W ad s.heap y) ob->kb=ks->w=.ref ka->IsTupleKey (PySem.strKind θ.W.prog θ.W.w) s.heap ks ka->x=y->Gt θ Γ s a w dv Q E:=λg z e hw q4 ex=>by
  subst e hw
  exact(z.at g).elim λHX z=>z.elim λx0 z=>pE M hd z.1 q4 (by simp [atKey]) (f x0 (ex▸z.2.2))
 have nil:∀{ks ka ob},s.heap.get? a=some ob->(∃ep,ob=dictOf [] ep)->w=.ref ka->IsTupleKey (PySem.strKind θ.W.prog θ.W.w) s.heap ks ka->V θ.W ad s.heap x dv->Gt θ Γ s a w dv Q E:=λg z hw q4 qx=>by
  subst hw
  exact pE M hd (gE g z) q4 rfl (f dv qx)
 induction ao with
 |ns fs=>
  refine at_ _ (λz=>nomatch z) λob g z=>?_
  induction k using SV.casesOn with
  |st k=>
   exact qk.elim λt hw=>by
    refine rt hw ?_
    exact ju (sK θ.W) Zg hd g z qd (Option.some.inj e▸f)
  |it k=>
   induction fs with
   |nil=>
    exact qk.elim λt hw=>by
     refine rt hw ?_
     refine(Vt z).elim λep y=>ju (iK θ.W) Xe (fs:=[]) hd g ⟨[],ep,y,.nil,.nil⟩ qd (Option.some.inj e▸f)
   |cons _ _=>exact Fa e
  |tu ks=>
   induction fs with
   |nil=>exact obs e λk' e1 e2=>Fq e1 qk λka hw q4 uu=>nil g (Vt z) hw q4 (Option.some.inj e2▸qd)
   |cons _ _=>exact Fa e
  |_=>exact Fa e
 |di fs=>
  exact it e λn t hw e=>at_ _ (λz=>nomatch z) λob g z=>by
   refine rt hw ?_
   exact ju (iK θ.W) Xe hd g z qd (Option.some.inj e▸f)
 |dz fs=>
  exact it e λn t hw e=>at_ _ (λz=>nomatch z) λob g z=>by
   refine rt hw ?_
   refine ju (iK θ.W) Xe (fs:=gh fs) hd g z qd ?_
   refine rt (show Jc uc n (gh fs)=_ from Pn n fs) ?_
   exact Option.some.inj e▸f
 |dp kk old=>
  exact eE e qk λks ka e1 hw q4 uu=>at_ _ (λz=>nomatch z) λob g z=>by
   rcases hk:Rn.fj kk ks with _|_
   ·replace e1:=hk▸e1;exact Fa e1
   replace e1:=hk▸e1
   induction old with
   |none=>exact nil g z hw q4 (Option.some.inj e1▸qd)
   |some y=>exact Ua g z (Dq hk) hw q4 (Option.some.inj e1).symm
 |dq kk y=>
  have e:cond (Rn.Kh d) (Rn.Qn k λk=>cond (Rn.fj kk k) (some y) none) none=some x:=e
  rcases hn:Rn.Kh d with _|_
  ·replace e:=hn▸e;exact Fa e
  replace e:=hn▸e
  have AV:dv=.none:=by induction d using SV.casesOn<;>first|exact qd|exact ft hn
  exact eE e qk λks ka e1 hw q4 uu=>at_ _ (λz=>nomatch z) λob g z=>by
   rcases hk:Rn.fj kk ks with _|_
   ·replace e1:=hk▸e1;exact Fa e1
   replace e1:=hk▸e1
   have ex:x=y:=(Option.some.inj e1).symm
   rcases z with z|z
   ·exact nil g z.1 hw q4 (ex▸AV▸z.2)
   ·exact Ua g z (Dq hk) hw q4 ex
 |_=>exact Fa e
theorem rE(ok:θ.W.Ok)(M:Ms θ Γ ad sx s){o k d x:SV}{v w dv:Value}(qo:V θ.W ad s.heap o v)(qk:V θ.W ad s.heap k w)(qd:V θ.W ad s.heap d dv)(e:Rn.Gq sx.st o k d=some x)(f:∀v,V θ.W ad s.heap x v->∀t,Q v {s with toks:=t}):∃a,v=.ref a/\Gt θ Γ s a w dv Q E:=
 obs e λn e1 e=>obs e λao e2 e=>by
  replace qo:=(SV.Bg e1 ..)▸qo
  exact qo.elim λa z=>⟨a,z.2,tL ok M (Hb z.1) (λG hd f=>M.r.on e2 hd ⟨a,z⟩ λa' ob e uu g o=>by cases z.2.symm.trans e;exact f ob g o) qk qd e f⟩
theorem uL(ok:θ.W.Ok)(M:Ms θ Γ ad sx s){o k d x:SV}{v w dv:Value}(qo:V θ.W ad s.heap o v)(qk:V θ.W ad s.heap k w)(qd:V θ.W ad s.heap d dv)(e:(o.mf.bind λn=>(sx.st[n]?).bind (Rn.kE k d))=some x)(f:∀v,V θ.W ad s.heap x v->∀t,Q v {s with toks:=t}):wpAny θ.W.m Γ.A (call (.builtin "dict.pop") [v,w,dv]) Q E s:=
 obs e λn e1 e=>obs e λao e2 e=>by
  replace qo:=(SV.Bg e1 ..)▸qo
  have go:∀{a ob fs},v=.ref a->ad[n]?=some a->s.heap.get? a=some ob->rc θ.W ad s.heap (iK θ.W).kv (iK θ.W).knd.hash fs ob->∀i,k.Kc=some i->Be i fs=none->x=d->wpAny θ.W.m Γ.A (call (.builtin "dict.pop") [v,w,dv]) Q E s:=λhv ea g z i ei el ex=>by
   replace qk:=(SV.Zf ei ..)▸qk
   refine qk.elim λt hw=>rc.dict (iK θ.W) g z λkvs d1 d2 uu=>?_
   have y:=d2.df Xe i
   replace y:=(show Jc uc i _=none from el)▸y
   refine rt hv (rt hw ?_)
   exact call_meetsIn F.slot_dict_pop d1.typeIs F.entry_dict_pop (F.args_dict_pop_3 _ _ _) (pL ((iK θ.W).is i t) (ok.gu M.r ea) dv rfl) ⟨_,d1,y,f dv (ex▸qd) _⟩
  induction ao with
  |ns fs=>
   exact obs e λi ei e=>M.r.on e2 (λz=>nomatch z) qo λa ob hv ea g z=>by
    induction fs with
    |nil=>exact(Vt z).elim λep y=>go (fs:=[]) hv ea g ⟨[],ep,y,.nil,.nil⟩ i ei rfl (Option.some.inj e).symm
    |cons _ _=>exact Fa e
  |di fs=>
   exact obs e λi ei e=>M.r.on e2 (λz=>nomatch z) qo λa ob hv ea g z=>by
    rcases hl:Be i fs with _|y
    ·replace e:=hl▸e;exact go hv ea g z i ei hl (Option.some.inj e).symm
    replace e:=hl▸e;exact Fa e
  |_=>exact Fa e
theorem So.Ua{α:Type}{rep:SV->α->Hp}{f:SV->Rn SV}{args:List SV}{ws:List Value}{t:PySem.Env->Sem α}(hX:∀a h,X a h->Vs θ.W a h args ws)(H:∀x w,ws=[w]->(∀a h,X a h->V θ.W a h x w)->So θ X rep (f x) t):So θ X rep (Rn.Ua args f) t:=by
 rcases args with _|⟨x,r⟩
 ·exact So.qa
 rcases r with _|⟨_,_⟩
 ·refine So.ye (P:=∃w,ws=[w]) (λa h q=>by induction(hX a h q:Ta ..) using Ta.casesOn with|mk v r q z=>exact⟨v,by exact rt (show r=[] from z) rfl⟩) λ⟨w,e⟩=>H x w e λa h q=>?_
  have:=hX a h q
  replace this:=e▸this
  cases(this:Ta ..) with|mk v r q z=>exact q
 exact So.qa
theorem So.Ld{α:Type}{rep:SV->α->Hp}{f:SV->SV->Rn SV}{args:List SV}{ws:List Value}{t:PySem.Env->Sem α}(hX:∀a h,X a h->Vs θ.W a h args ws)(H:∀x y w u,ws=[w,u]->(∀a h,X a h->V θ.W a h x w/\V θ.W a h y u)->So θ X rep (f x y) t):So θ X rep (Rn.Ld args f) t:=by
 rcases args with _|⟨x,r⟩
 ·exact So.qa
 rcases r with _|⟨y,r⟩
 ·exact So.qa
 rcases r with _|⟨_,_⟩
 ·refine So.ye (P:=∃w u,ws=[w,u]) (λa h q=>by induction(hX a h q:Ta ..) using Ta.casesOn with|mk v r q z=>induction(z:Ta ..) using Ta.casesOn with|mk v' r q z=>exact⟨v,v',by exact rt (show r=[] from z) rfl⟩) λ⟨w,u,e⟩=>H x y w u e λa h q=>?_
  have:=hX a h q
  replace this:=e▸this
  cases(this:Ta ..) with|mk v r q z=>cases(z:Ta ..) with|mk v' r q' z=>exact⟨q,q'⟩
 exact So.qa
theorem So.bg{o:SV}{f:Nat->AO->Rn SV}{v:Value}{t:Value->Sem Value}(hX:∀a h,X a h->V θ.W a h o v)(H:∀Γ ad sx s n a ao,Ms θ Γ ad sx s->X ad s.heap->ad[n]?=some a->(∀G:Prop,ao≠.ta->(∀ob,s.heap.get? a=some ob->Oc θ.W ad s.heap a ob ao->G)->G)->Gl θ Γ ad s (Rv θ.W) (f n ao sx) (t (.ref a)) s):So θ X (Rv θ.W) (Rn.bg o f) (λuu=>t v):=λΓ ad sx s M q=>
 aa.bg (hX _ _ q) M.r λn a ao hv ea es at_=>by
  refine rt hv ?_
  exact H Γ ad sx s n a ao M q ea at_
theorem So.du(ok:θ.W.Ok){p:Pos}{m:Mb}{self:SV}{args:List SV}{v:Value}{ws:List Value}(hX:∀a h,X a h->V θ.W a h self v/\Vs θ.W a h args ws):So θ X (Rv θ.W) (Rn.du p m self args) (λuu=>call (.builtin m.id) (v::ws)):=by
 have h1:=λa h q=>(hX a h q).1
 have h2:=λa h q=>(hX a h q).2
 have tw:∀{l:List SV},(∀a h,X a h->Vs θ.W a h l ws)->So θ X (Rv θ.W) (Rn.Ld l λk d=>Rn.Ib p λst=>Rn.Gq st self k d) (λuu=>call (.builtin "dict.get") (v::ws)):=λh2=>So.Ld h2 λx y w u e hx=>by
  refine rt e ?_
  exact So.Ib λΓ ad sx s x M q e Q E f=>(rE ok M (h1 _ _ q) (hx _ _ q).1 (hx _ _ q).2 e f).elim λa z=>by refine rt z.1 ?_;exact z.2.g3
 induction m with
 |append=>
  exact So.Ua h2 λx w e hx=>by
   refine rt e ?_
   exact So.bg (t:=λv=>call (.builtin "list.append") [v,w]) h1 λΓ ad sx s n a ao M q ea at_=>So.Yt ok M ea at_ (hx _ _ q)
 |Gk=>
  exact So.Ua h2 λx w e hx=>by
   refine rt e ?_
   exact So.bg (t:=λv=>call (.builtin "list.extend") [v,w]) h1 λΓ ad sx s n a ao M q ea at_=>So.au ok M ea at_ (hx _ _ q)
 |Id=>
  exact So.yb λha=>So.ye (P:=ws=[]) (λa h q=>by have:=h2 a h q;replace this:=(List.isEmpty_iff.mp ha ..)▸this;exact this) λe=>by
   refine rt e ?_
   exact So.bg (t:=λv=>call (.builtin "list.pop") [v]) h1 λΓ ad sx s n a ao M q ea at_=>So.cu ok M ea at_
 |Wt=>
  rcases args with _|⟨k,r⟩
  ·exact So.qa
  rcases r with _|⟨d,r⟩
  ·exact So.Ua (f:=λk=>Rn.Ib p λst=>Rn.Gq st self k .nn) h2 λx w e hx=>by
    refine rt e ?_
    exact So.Ib λΓ ad sx s x M q e Q E f=>(rE ok M (h1 _ _ q) (hx _ _ q) (show V θ.W ad s.heap .nn .none from rfl) e f).elim λa z=>by refine rt z.1 ?_;exact z.2.g2 rfl
  exact tw h2
 |Xt=>
  exact So.Ld h2 λx y w u e hx=>by
   refine rt e ?_
   exact So.get λΓ ad sx s x M q e Q E f=>uL ok M (h1 _ _ q) (hx _ _ q).1 (hx _ _ q).2 e f
theorem So.fu{x:SV}{v:Value}(hX:∀z h,X z h->V θ.W z h x v):So θ X (Rv θ.W) (Rn.fu x) (λuu=>call (.builtin "len") [v]):=by
 have go:∀{Γ:Bk} {ad:List Addr} {sx:Sx} {s:Shared} {a:Addr} {vs:List Value} {n k:Nat},Ms θ Γ ad sx s->s.heap.get? a=some ⟨.type "list",none,.seq (List.toArray vs) n,#[]⟩->vs.length=k->k<=1000000->wpAny θ.W.m Γ.A (call (.builtin "len") [.ref a]) (Qo θ Γ ad s (Rv θ.W) (.ok (.it k)) sx) (Eo θ Γ ad s (.ok (.it k):Except Nat SV) sx) s:=λM g e hk=>by
  subst e
  exact len_list (dm g) (by refine rt (List.size_toArray ..) ?_;lia) ⟨_,rfl,.same M (by refine rt (List.size_toArray ..) ?_;exact⟨_,rfl⟩) _⟩
 refine(?_:So θ X (Rv θ.W) (match Rn.Zt x with|some l=>_|none=>_) _)
 rcases e:Rn.Zt x with _|l
 ·exact So.bg (t:=λv=>call (.builtin "len") [v]) hX λΓ ad sx s n a ao M q ea at_=>by
   induction ao with
   |Ha l=>exact aa.Ua λhz=>at_ _ (λz=>nomatch z) λob g z=>z.elim λvs z=>z.elim λm z=>go M (z.1▸g) z.2.length hz
   |ls pre L l=>exact aa.Ua λhz=>at_ _ (λz=>nomatch z) λob g z=>z.2.2.elim λvs z=>z.elim λm z=>go M (z.1▸g) z.2.len hz
   |_=>trivial
 exact λΓ ad sx s M q=>aa.Ua λhz=>by
  have q:=hX _ _ q
  have e:x=.fl l:=by induction x using SV.casesOn<;>first|exact congrArg SV.fl (Option.some.inj e)|exact Fa e
  subst e
  induction(q:fb ..) using fb.casesOn with|mk a vs n g q _=>exact go M g q.length hz
end
end
section
variable {kz:Nat}
open PySem.SeqAt
noncomputable abbrev Sc:Addr->Prop:=λuu=>False
theorem jh{h:Heap}:xg Sc h:=λuu uu q=>q.elim
structure Cs(W:Wd)(D:Nat)(A:Around)(Ma:List PySem.Env)(ad:List Addr)(st:St)(s:Shared):Prop where
 ib:W.K.In s.heap
 r:R W ad s.heap st
 fr:A.frames=some Ma
 ff:FF W ad s.heap Ma
 je:A.depth+D<=yn
 un:A.units+8 * D<=Gj
 gf:W.n<=s.heap.objs.size
inductive Pc(W:Wd)(ad:List Addr)(s:Shared)(st:St)(X:Hp)(s':Shared):Prop
 |mk (ia:List Addr) (c:pb W Sc ad s ia s') (r:R W ia s'.heap st) (x:X ia s'.heap)
def Dy(W:Wd)(A:Around)(ad:List Addr)(s:Shared)(st:St)(o:Except Nat SV)(v:Value)(ws:List Value):Prop:=∀R:Result->Shared->Prop,
  (∀b,o=.ok b->∀r s',Pc W ad s st (λa h=>V W a h b r) s'->R (.ok (.ret r)) s')->(∀n,o=.error n->∀r s',Pc W ad s st (λia uu=>∃a,r=.ref a/\Db W.mv ia n=some a) s'->R (.error r) s')->codeAny W.m A (.call v ⟨ws,[]⟩) R s
def ba(W:Wd)(hn:Hn)(D:Nat)(fv:SV)(vs:List SV)(st:St)(o:Except Nat SV)(db:St):Prop:=
 ∀A Ma ad s v ws,Cs W D A Ma ad st s->ie W.mv hn A ad s.heap->V W ad s.heap fv v->Vs W ad s.heap vs ws->Dy W A ad s db o v ws
structure Ka where
 ev:Cx->Nat->PySem.Expr->Rn SV
 ts:Cx->Nat->PySem.Expr->Rn Bool
 ex:Cx->Nat->List Stmt->Rn Fl
 ca:Hn->Nat->Pos->SV->List SV->Rn SV
def Fv(W:Wd):Fl->Flow->Hp:=λf w a h=>match f with
 |.next=>w=.next
 |.brk=>w=.brk
 |.cont=>w=.cont
 |.ret x=>∃v,w=.ret v/\V W a h x v
noncomputable abbrev Bv:Bool->Bool->Hp:=λa b uu uu=>a=b
noncomputable abbrev Lv(W:Wd):List SV->List Value->Hp:=λl vs a h=>Vs W a h l vs
structure Ka.Ok(W:Wd)(o:Ka):Prop where
 ev:∀c D X e,Da W.mv X->So ⟨W,c,D⟩ X (Rv W) (o.ev c D e) (λenv=>eval e env)
 ts:∀c D X e,Da W.mv X->So ⟨W,c,D⟩ X Bv (o.ts c D e) (λenv=>isTrue e env (eval e env))
 ex:∀c D X l,Da W.mv X->So ⟨W,c,D⟩ X (Fv W) (o.ex c D l) (λenv=>execs l env)
 ca:∀hn D p f vs sx,aa (o.ca hn D p f vs sx) λr ra=>ra.loc=sx.loc/\ba W hn D f vs sx.st r ra.st
namespace Rn
noncomputable def gj(e:PySem.Expr):Bool:=Nat.beq e.ctorIdx 22
noncomputable def Ke(o:Ka)(c:Cx)(D:Nat):List PySem.Expr->Rn (List SV)
 |[]=>Pure.pure []
 |e::r=>cond (gj e) qa (o.ev c D e>>=λv=>Ke o c D r>>=λl=>Pure.pure (v::l))
noncomputable def kh:SV->Rn Bool
 |.bo b=>Pure.pure b
 |_=>qa
noncomputable def jm(o:Ka)(c:Cx)(D:Nat)(op:BoolOp):List PySem.Expr->Rn SV
 |[]=>qa
 |[e]=>o.ev c D e
 |e::r=>o.ev c D e>>=λv=>kh v>>=λt=>match op with
  |.And=>cond t (jm o c D op r) (Pure.pure v)
  |.Or=>cond t (Pure.pure v) (jm o c D op r)
noncomputable def km(o:Ka)(c:Cx)(D:Nat)(op:BoolOp):List PySem.Expr->Rn Bool
 |[]=>Pure.pure (match op with|.And=>true|.Or=>false)
 |e::r=>o.ts c D e>>=λt=>match op with
  |.And=>cond t (km o c D op r) (Pure.pure false)
  |.Or=>cond t (Pure.pure true) (km o c D op r)
noncomputable def un(op:UnaryOp)(x:SV):Rn SV:=match op with
 |.USub=>λs=>x.Kc.bind λi=>some (.ok (.it (-i)),s,[])
 |.Not=>match x with
  |.bo b=>Pure.pure (.bo (!b))
  |_=>qa
 |_=>qa
noncomputable def Ik(x:Str):List Str->Bool
 |[]=>false
 |y::l=>cond (Oa y x) true (Ik x l)
noncomputable def vL(x:Str):AO->Option Bool
 |.ns fs=>some (lk x fs).isSome
 |_=>none
noncomputable def wL(st:St)(b:SV)(x:Str):Option Bool:=match b with
 |.ob n=>(st[n]?).bind (vL x)
 |.tu ks=>(im ks).bind λl=>some (Ik x l)
 |_=>none
noncomputable def holds(st:St)(a b:SV):Option Bool:=a.ti.bind (wL st b)
noncomputable def contains(p:Pos)(neg:Bool)(a b:SV):Rn SV:=hint p>>=λd=>match d with
 |none=>get λs=>(holds s.st a b).bind λr=>some (.bo (xor r neg))
 |some (.Ca r)=>λs=>some (.ok (.bo r),s,[holds s.st a b=some (xor r neg)])
 |some _=>qa
noncomputable def Iq(p:Pos)(op:CmpOp)(a b:SV):Rn SV:=match op with
 |.In=>contains p false a b
 |.NotIn=>contains p true a b
 |op=>ui p op a b
noncomputable def ku(a b:SV):Rn SV:=λs=>(Hk s.st a).bind λl=>(Hk s.st b).bind λr=>some (.ok (.fl (l++r)),s,[l.length+r.length<=100000])
noncomputable def xL(l r:List SV):Rn SV:=cond (l.isEmpty||(r.isEmpty||!Nat.ble (l.length+r.length) 1002)) qa (Pure.pure (.tu (l++r)))
noncomputable def Ey:SV->Bool
 |.fl _=>true
 |.ob _=>true
 |_=>false
noncomputable def yL(a b:SV):Rn SV:=cond (Ey a) (ku a b) (match a with
 |.tu l=>λs=>b.On.bind λr=>xL l r s
 |_=>Cg .Add a b)
noncomputable def zL(a b:SV):Rn SV:=match a with
 |.fl l=>match l with
  |[x]=>match b with
   |.it n=>ask (0<=n/\n<=1000)>>=λuu=>Pure.pure (.fl (List.replicate n.toNat x))
   |_=>Cg .Mult a b
  |_=>Cg .Mult a b
 |_=>Cg .Mult a b
noncomputable def lu(op:Operator)(a b:SV):Rn SV:=match op with
 |.Add=>yL a b
 |.Mult=>zL a b
 |op=>Cg op a b
noncomputable def ni(x:SV):Rn SV:=match x with
 |.st s=>ask (s.length=1)>>=λuu=>Pure.pure (.it (s.cps.getD 0 0:Nat))
 |_=>qa
end Rn
section
variable {θ:Th}{X Y:Hp}{T:Tb}{o:Ka}{W:Wd}{ad:List Addr}{h:Heap}
theorem Ka.Ok.Sb(H:o.Ok θ.W)(e:PySem.Expr)(hX:Da θ.W.mv X):So θ X (Rv θ.W) (o.ev θ.c θ.D e) (λenv=>eval e env):=H.ev θ.c θ.D X e hX
theorem Ka.Ok.lm(H:o.Ok θ.W)(l:List Stmt)(hX:Da θ.W.mv X):So θ X (Fv θ.W) (o.ex θ.c θ.D l) (λenv=>execs l env):=H.ex θ.c θ.D X l hX
theorem Ka.Ok.Vn(H:o.Ok θ.W)(e:PySem.Expr)(hX:Da θ.W.mv X):So θ X Bv (o.ts θ.c θ.D e) (λenv=>isTrue e env (eval e env)):=H.ts θ.c θ.D X e hX
theorem sE{e:PySem.Expr}(h:Rn.gj e=false)(r:List PySem.Expr)(env:PySem.Env):starEach (e::r) env=(false,eval e env)::starEach r env:=by
 induction e using Expr.casesOn<;>first|rfl|exact ft h.symm
theorem Da.V'{x:SV}{v:Value}(hX:Da W.mv X):Da W.mv λa h=>X a h/\Rv W x v a h:=hX.and (Da.V W x v)
theorem So.Ke(H:o.Ok θ.W){p:Pos}:∀{l:List PySem.Expr} {X:Hp},Da θ.W.mv X->So θ X (Lv θ.W) (Rn.Ke o θ.c θ.D l) (λenv=>spliced (backTo p (starEach l env)))
 |[],X,hX=>So.pure (b:=[]) (v:=([]:List Value)) λa h x=>(rfl:[]=[])
 |e::r,X,hX=>by
  refine(?_:So θ X (Lv θ.W) (cond (Rn.gj e) Rn.qa _) _)
  rcases hs:Rn.gj e with _|_
  ·have e1:∀env,spliced (backTo p (starEach (e::r) env))=(eval e env>>=λv=>PySem.holding [v] (spliced (backTo p (starEach r env)))>>=λvs=>(Pure.pure (v::vs):Sem (List Value))):=λenv=>by
    refine rt (sE hs ..) ?_;rfl
   exact So.Nb e1 (So.bind hX (H.Sb e hX) λb v=>So.bind hX.V' (So.holding (So.Ke H hX.V')) λl vs=>So.pure λa h x=>Ta.mk v vs x.1.2 x.2)
  exact So.qa
theorem So.kh{x:SV}{v:Value}(hX:∀a h,X a h->V θ.W a h x v):So θ X Bv (Rn.kh x) (λuu=>truthy v):=by
 induction x using SV.casesOn<;>first|exact So.qa|exact So.Cc λuu uu uu s uu q uu uu f=>by cases hX _ _ q;exact wpAny_truthy_bool (f _ rfl s.toks)
theorem So.un{op:UnaryOp}{x:SV}{v:Value}(hX:∀a h,X a h->V θ.W a h x v):So θ X (Rv θ.W) (Rn.un op x) (λuu=>unaryOp op v):=by
 induction op with
 |USub=>
  exact λΓ ad sx s M q=>aa.Ea λi e=>aa.ok<|by
   have q:=hX _ _ q
   replace q:=(SV.Zf e ..)▸q
   refine q.elim λt q=>?_
   refine rt q ?_
   exact neg_int ⟨_,rfl,.same M (X:=Rv θ.W (.it (-i)) (.int (-i) _)) ⟨_,rfl⟩ _⟩
 |Not=>induction x using SV.casesOn<;>first|exact So.qa|exact So.Cc λuu uu uu s uu q uu uu f=>by cases hX _ _ q;exact not_of (wpAny_truthy_bool (f _ rfl s.toks))
 |_=>exact So.qa
theorem So.jm(H:o.Ok θ.W){p:Pos}{op:BoolOp}:∀{l:List PySem.Expr} {X:Hp},Da θ.W.mv X->So θ X (Rv θ.W) (Rn.jm o θ.c θ.D op l) (λenv=>boolOp p op (evalEach l env))
 |[],_,_=>So.qa
 |[e],X,hX=>H.Sb e hX
 |e::e'::r,X,hX=>by
  have e1:∀env,boolOp p op (evalEach (e::e'::r) env)=(eval e env>>=λv=>standAt p>>=λuu=>PySem.holding [v] (truthy v)>>=λt=>match op,t with
   |.And,false|.Or,true=>(Pure.pure v:Sem Value)
   |_,_=>boolOp p op (evalEach (e'::r) env)):=λuu=>rfl
  refine So.Nb e1 (So.bind hX (H.Sb e hX) λb v=>So.Jb (So.nq hX.V' (So.holding (So.kh λa h x=>x.2)) λt=>?_))
  induction op using BoolOp.casesOn<;>induction t using Bool.casesOn<;>first|exact So.pure λa h x=>x.2|exact So.jm H hX.V'
theorem So.km(H:o.Ok θ.W){op:BoolOp}:∀{l:List PySem.Expr} {X:Hp},Da θ.W.mv X->So θ X Bv (Rn.km o θ.c θ.D op l) (λenv=>allTrue op l env)
 |[],_,_=>by induction op using BoolOp.casesOn<;>exact So.pure λa h x=>rfl
 |e::r,X,hX=>by
  have e1:∀env,allTrue op (e::r) env=(isTrue e env (eval e env)>>=λt=>match op,t with
   |.And,false=>(Pure.pure false:Sem Bool)
   |.Or,true=>Pure.pure true
   |_,_=>allTrue op r env):=λuu=>rfl
  refine So.Nb e1 (So.nq hX (H.Vn e hX) λt=>?_)
  induction op using BoolOp.casesOn<;>induction t using Bool.casesOn<;>first|exact So.pure λa h x=>rfl|exact So.km H hX
theorem AL{M:Model}{A:Around}{α β:Type}{m:Sem α}{f:α->β}{Q:β->Shared->Prop}{E:Value->Shared->Prop}{s:Shared}(h:wpAny M A (m>>=λb=>Pure.pure (f b)) Q E s):wpAny M A m (λb=>Q (f b)) E s:=λΓ p hΓ=>by
 have:=h Γ p hΓ
 replace this:=(Sem.wp_bind' ..)▸this
 exact this
theorem Fy(x:Str):∀l:List Str,Rn.Ik x l=l.any λy=>Oa y x
 |[]=>rfl
 |y::l=>by
  refine(?_:cond (Oa y x) true (Rn.Ik x l)=_)
  refine rt (List.any_cons ..) (rt (Fy x l ..) ?_)
  induction Oa y x using Bool.casesOn<;>rfl
noncomputable def Gy(x:Str)(y:Value):Bool:=match y with|.str z _=>Oa z x|_=>false
theorem BL(x:Str){l:List Str}{vs:List Value}(hi:ItemsAre (PySem.strKind W.prog W.w) l vs):vs.any (Gy x)=Rn.Ik x l/\∀y∈vs,∃z u,y=.str z u:=by
 refine rt (Fy ..) ?_
 induction hi with
 |nil=>exact⟨rfl,λuu m=>nomatch m⟩
 |cons h _ ih=>
  refine(Value.isStrOf_shape h).elim λu e=>?_
  subst e
  exact⟨by refine rt (List.any_cons ..) (rt (List.any_cons ..) (rt (ih.1 ..) ?_));rfl,λy m=>(List.mem_cons.mp m).elim (λe=>⟨_,u,e⟩) (ih.2 y)⟩
theorem tE(ok:θ.W.Ok){Γ:Bk}{sx:Sx}{s:Shared}(M:Ms θ Γ ad sx s){a b:SV}{v w:Value}{r neg:Bool}(q1:V θ.W ad s.heap a v)(q2:V θ.W ad s.heap b w)(e:Rn.holds sx.st a b=some (xor r neg))
  {Q E:Value->Shared->Prop} (k:∀t',Q (.bool r) {s with toks:=t'}):wpAny θ.W.m Γ.A (compareOp (if neg then .NotIn else .In) v w) Q E s:=obs e λx ex e=>by
 replace q1:=(SV.Zl ex ..)▸q1
 refine q1.elim λt hv=>?_
 refine rt hv ?_
 have fin:∀r0,r0=xor r neg->r=xor r0 neg:=λr0 e=>by exact(e ..).symm▸(uy ..).symm▸rfl
 induction b using SV.casesOn with
 |ob n=>
  exact obs e λao es e=>by
   induction ao with
   |ns fs=>
    exact M.r.on es (λz=>nomatch z) q2 λa ob hw ea g z=>z.dict (sK θ.W) g λkvs d1 d2 uu=>by
     refine rt hw ?_
     have z:=d2.df Zg x
     have hb:(valueAt kvs x).isSome=xor r neg:=by
      refine rl (Option.some.inj e ..) ?_
      revert z
      refine(?_:Lk _ _ _ (lk x fs) _->_=(lk x fs).isSome)
      rcases lk x fs with _|y
      ·exact λz=>by refine rt (show valueAt kvs x=none from z) ?_;rfl
      exact λz=>z.elim λv z=>by refine rt z.1 ?_;rfl
     have hi:∀Q':Value->Shared->Prop,(∀t',Q' (.bool (xor r neg)) {s with toks:=t'})->wpAny θ.W.m Γ.A (compareOp .In (.str x t) (.ref a)) Q' E s:=λQ' f=>
      wpAny_in_of ((sK θ.W).is x t) (ok.gu M.r ea) d1.mapOf (hb▸f _)
     rcases neg with _|_
     ·exact hi Q (by refine rt (Bool.xor_false ..) ?_;exact k)
     have h1:=hi (λv s'=>v=.bool (xor r true)/\∃t',s'={s with toks:=t'}) λt'=>⟨rfl,t',rfl⟩
     refine(?_:wpAny θ.W.m Γ.A (PySem.contains (.ref a) (.str x t)>>=λb=>Pure.pure (Value.bool (!b))) Q E s)
     refine wpAny_bind (wpAny_mono (AL (f:=Value.bool) h1) (λb s' h=>h.2.elim λt' h2=>?_) λuu uu z=>z)
     cases h.1
     refine rt h2 ?_
     exact wpAny_pure (by have:=k t';induction r using Bool.casesOn<;>exact this)
   |_=>exact Fa e
 |tu ks=>
  exact obs e λl e1 e2=>by
   refine fb.casesOn (q2:fb ..) λa vs n g q uu=>?_
   have hi:=BL x (dE e1 q)
   have he:∀y,y∈vs.toArray->EqAt Γ.A.in1 s y (.str x t) (Gy x y):=λy hy=>(hi.2 y (by simpa using hy)).elim λz h=>h.elim λu h=>by
    refine rt h ?_
    refine(?_:EqAt _ _ _ _ (Oa z x))
    refine rl (UD ..) ?_
    exact EqAt.str_str _ _ _ _
   have ha:vs.toArray.any (Gy x)=xor r neg:=by refine rt (List.any_toArray ..) (rt (hi.1 ..) ?_);exact Option.some.inj e2
   rcases neg with _|_
   ·exact in_tupleAt _ (fh g) he (by refine rt (ha ..) (rt (Bool.xor_false ..) ?_);exact k s.toks)
   exact notIn_tupleAt _ (fh g) he (by refine rt ha ?_;have:=k s.toks;induction r using Bool.casesOn<;>exact this)
 |_=>exact Fa e
theorem So.contains(ok:θ.W.Ok){p:Pos}{neg:Bool}{a b:SV}{v w:Value}(hX:∀z h,X z h->V θ.W z h a v/\V θ.W z h b w):So θ X (Rv θ.W) (Rn.contains p neg a b) (λuu=>compareOp (if neg then .NotIn else .In) v w):=So.hint λd=>by
 rcases d with _|d
 ·exact So.get λΓ ad sx s x M q e Q E k=>obs e λr e1 e2=>by
   replace e2:=Option.some.inj e2;subst e2
   exact tE ok M (hX _ _ q).1 (hX _ _ q).2 (by refine rt (uy ..) ?_;exact e1) (k (.bool (xor r neg)) rfl)
 induction d using Hd.casesOn with
  |Ca r=>exact λΓ ad sx s M q=>aa.Ua λe=>tE ok M (hX _ _ q).1 (hX _ _ q).2 e λt=>⟨.bo r,rfl,.same M rfl t⟩
  |_=>exact So.qa
theorem So.Iq(ok:θ.W.Ok){p:Pos}{op:CmpOp}{a b:SV}{v w:Value}(hX:∀z h,X z h->V θ.W z h a v/\V θ.W z h b w):So θ X (Rv θ.W) (Rn.Iq p op a b) (λuu=>compareOp op v w):=by
 induction op with
 |In=>exact So.contains (neg:=false) ok hX
 |NotIn=>exact So.contains (neg:=true) ok hX
 |Eq=>exact So.ui (p:=p) (op:=.Eq) hX
 |NotEq=>exact So.ui (p:=p) (op:=.NotEq) hX
 |Lt=>exact So.ui (p:=p) (op:=.Lt) hX
 |LtE=>exact So.ui (p:=p) (op:=.LtE) hX
 |Gt=>exact So.ui (p:=p) (op:=.Gt) hX
 |GtE=>exact So.ui (p:=p) (op:=.GtE) hX
 |Is=>exact So.ui (p:=p) (op:=.Is) hX
 |IsNot=>exact So.ui (p:=p) (op:=.IsNot) hX
theorem Wn{st:St}(r:R W ad h st){x:SV}{v:Value}{l:List SV}{G:Prop}(q:V W ad h x v)(e:Rn.Hk st x=some l)(K:∀a vs n,v=.ref a->h.get? a=some ⟨.type "list",none,.seq (List.toArray vs) n,#[]⟩->Vs W ad h l vs->G):G:=by
 induction x using SV.casesOn with
 |fl l'=>induction(q:fb ..) using fb.casesOn with|mk a vs n g q _=>exact K a vs n rfl g (Option.some.inj e▸q)
 |ob n=>
  exact obs e λao e1 e2=>by
   replace e1:=(AO.aL e2 ..)▸e1
   exact r.on e1 (λz=>nomatch z) q λa ob hv uu g z=>z.elim λvs z=>z.elim λm z=>K a vs m hv (z.1▸g) z.2
 |_=>exact Fa e
theorem So.ku(ok:θ.W.Ok){a b:SV}{v w:Value}(hX:∀z h,X z h->V θ.W z h a v/\V θ.W z h b w):So θ X (Rv θ.W) (Rn.ku a b) (λuu=>binaryOp .Add v w):=λΓ ad sx s M q=>
 aa.Ea λx e1=>aa.Ea λy e2=>aa.Ua λhz=>Wn M.r (hX _ _ q).1 e1 λa1 vs n1 hv p1 v1=>Wn M.r (hX _ _ q).2 e2 λa2 ws n2 hw p2 v2=>by
  refine rt hv (rt hw ?_)
  refine PySem.P.add_list p1 p2 ?_ (by refine(List.size_toArray ..).symm▸(List.size_toArray ..).symm▸(v1.length ..).symm▸(v2.length ..).symm▸?_;exact eh hz (by decide))
  refine rt (List.append_toArray ..) ?_
  exact⟨_,rfl,M.zq ok (v1.append v2)⟩
theorem uE{x:SV}{v:Value}(q:V W ad h x v):∀n,Vs W ad h (List.replicate n x) (List.replicate n v)
 |0=>rfl
 |n+1=>⟨v,_,q,uE q n⟩
theorem vE(v:Value):∀(n:Nat) (acc:Array Value),List.foldl (λx1 x2=>x1++x2) acc (List.replicate n #[v])=acc++(List.replicate n v).toArray
 |0,acc=>by simp
 |n+1,acc=>by
  refine rt (List.replicate_succ ..) (rt (List.foldl_cons ..) (rt (vE v n ..) (rt (List.replicate_succ ..) ?_)))
  exact Array.toList_inj.mp (by simp)
theorem So.lu(ok:θ.W.Ok){op:Operator}{a b:SV}{v w:Value}(hX:∀z h,X z h->V θ.W z h a v/\V θ.W z h b w):So θ X (Rv θ.W) (Rn.lu op a b) (λuu=>binaryOp op v w):=by
 induction op with
 |Add=>
  refine(?_:So θ X (Rv θ.W) (cond (Rn.Ey a) _ _) _)
  rcases Rn.Ey a with _|_
  ·induction a using SV.casesOn with
   |tu l=>
    exact λΓ ad sx s M q=>aa.Ea λr er=>by
     have q:=hX _ _ q
     replace q:=(SV.Cq er ..)▸q
     have q1:=q.1
     have q2:=q.2
     refine(?_:aa ((cond (l.isEmpty||(r.isEmpty||!Nat.ble (l.length+r.length) 1002)) Rn.qa (Pure.pure (.tu (l++r))):Rn SV) sx) _)
     refine aa.zn (λuu=>trivial) λhc=>aa.ok ?_
     have hc:=Bool.or_eq_false_iff.mp hc
     have Dh:=Bool.or_eq_false_iff.mp hc.2
     have hl:=Nat.le_of_ble_eq_true (by simpa using Dh.2)
     refine fb.casesOn (q1:fb ..) λa1 vs n1 p1 v1 uu=>?_
     refine fb.casesOn (q2:fb ..) λa2 ws n2 p2 v2 uu=>?_
     have l1:=v1.length
     have l2:=v2.length
     have ne:∀{l:List SV} {vs:List Value},l.isEmpty=false->vs.length=l.length->¬vs.toArray.isEmpty=true:=λ{l vs} h e z=>by
      rcases vs with _|⟨_,_⟩
      ·replace h:=(List.length_eq_zero_iff.mp e.symm ..)▸h;contradiction
      contradiction
     refine PySem.P.add_tuple p1 p2 (ne hc.1 l1) (ne Dh.1 l2) ?_ (by refine(List.size_toArray ..).symm▸(List.size_toArray ..).symm▸(l1 ..).symm▸(l2 ..).symm▸?_;exact eh hl (by decide))
     refine rt (List.append_toArray ..) ?_
     exact⟨_,rfl,M.zq ok (v1.append v2)⟩
   |_=>exact So.Cg hX
  exact So.ku ok hX
 |Mult=>
  induction a using SV.casesOn with
  |fl l=>induction l using List.casesOn with
   |nil=>exact So.Cg hX
   |cons x l=>
    rcases l with _|⟨_,_⟩
    ·induction b using SV.casesOn with
      |it n=>
       exact So.ask λhn=>λΓ ad sx s M q=>aa.ok<|(hX _ _ q).2.elim λt hw=>by
        have q1:=(hX _ _ q).1
        refine rt hw ?_
        refine fb.casesOn (q1:fb ..) λa1 vs n1 p1 v1 uu=>?_
        induction(v1:Ta ..) using Ta.casesOn with
         |mk u r v1 v2=>
          cases(show r=[] from v2)
          have hi:Builtin.List.listFitsIndex n=true:=fitsIndex_of hn.1 (by lia)
          refine wpAny_binaryOp_repeat_ref (T:="list") (U:="int") (by decide) ⟨_,p1,rfl⟩ (λs'=>typeIs_int s' n t) noFill_list_mul F.fills_int_mul F.slot_int_rmul repeat_list F.slot_int_index.lookup
           (call_meets F.slot_int_rmul (typeIs_int s n t) F.entry_int_rmul (F.args_int_rmul_2 _ _) (int___rmul___int_list n t a1 [u].toArray n1)
            ⟨p1,rfl,⟨_,p1,rfl⟩,call_meets F.slot_list_mul ⟨_,p1,rfl⟩ F.entry_list_mul (F.args_list_mul_2 _ _)
             (AutoListH.list___mul___list_int_3 a1 [u].toArray n1 n t (by refine rt hi ?_;decide) (by simp;lia) (by simp [Builtin.List.listTooLong,sizeLine_eq];lia))
             ⟨p1,?_⟩⟩)
          rw[if_neg (by simp),vE,List.append_toArray]
          exact⟨_,rfl,M.zq ok (uE v1 n.toNat)⟩
      |_=>exact So.Cg hX
    exact So.Cg hX
  |_=>exact So.Cg hX
 |_=>exact So.Cg hX
theorem So.ni{x:SV}{v:Value}(hX:∀z h,X z h->V θ.W z h x v):So θ X (Rv θ.W) (Rn.ni x) (λuu=>call (.builtin "ord") [v]):=by
 induction x using SV.casesOn<;>first|exact So.qa|exact So.ask λh1=>So.Cc λuu uu uu s uu q uu uu k=>(hX _ _ q).elim λt e=>by refine rt e ?_;exact ord_of_one h1 (k _ ⟨_,rfl⟩ _)
end
end
section
variable {kz:Nat}
structure TS(kz:Nat)(e:Addr)(h h':Heap):Prop where
 old:∀b o,b<kz->b≠e->h.get? b=some o->h'.get? b=some o
 size:h.objs.size<=h'.objs.size
 keep:∀b o,b≠e->h.get? b=some o->o.cls≠.type "traceback"->∃o',h'.get? b=some o'/\Sm o o'
 tb:∀T o ts fl,T≠e->h.get? T=some o->o.cls=.type "traceback"->o.data=.fields ts->ts[3]?=some fl->∃o' Qc Vd,h'.get? T=some o'/\o'.cls=.type "traceback"/\o'.data=.fields Qc/\Qc[3]?=some Vd
theorem TS.refl(e:Addr)(h:Heap):TS kz e h h:=⟨λuu uu uu uu q=>q,Nat.le_refl _,λuu o uu q uu=>⟨o,q,.refl o⟩,λuu o ts fl uu q h1 h2 h3=>⟨o,ts,fl,q,h1,h2,h3⟩⟩
theorem TS.trans{e:Addr}{h h' dn:Heap}(x:TS kz e h h')(y:TS kz e h' dn):TS kz e h dn:=
 ⟨λb o l n q=>y.old b o l n (x.old b o l n q),Nat.le_trans x.size y.size,λb o n q c=>by
  obtain⟨o',q',s⟩:=x.keep b o n q c
  obtain⟨Cj,BV,s'⟩:=y.keep b o' n q' (s.cls▸c)
  exact⟨Cj,BV,s.trans s'⟩,λT o ts fl n q h1 h2 h3=>by
  obtain⟨o',Qc,Vd,q',k1,k2,k3⟩:=x.tb T o ts fl n q h1 h2 h3
  exact y.tb T o' Qc Vd n q' k1 k2 k3⟩
theorem TS.all{e:Addr}{h h':Heap}(s:h.objs.size<=h'.objs.size)(k:∀b o,b≠e->h.get? b=some o->h'.get? b=some o):TS kz e h h':=
 ⟨λb o uu n q=>k b o n q,s,λb o n q uu=>⟨o,k b o n q,.refl o⟩,λT o ts fl n q h1 h2 h3=>⟨o,ts,fl,k T o n q,h1,h2,h3⟩⟩
section
variable {W:Wd}{ad:List Addr}{L:Addr->Prop}{h h':Heap}{e:Addr}
theorem TS.kept(x:TS kz e h h')(m:e∈ad)(nl:¬L e)(lt:∀a o,L a->h.get? a=some o->o.cls≠.type "traceback"):xb kz ad L h h':=
 ⟨x.size,λb o q n1 uu c=>x.keep b o (λz=>n1 (z▸m)) q c,λb o l q n1 uu=>x.old b o l (λz=>n1 (z▸m)) q,λb o q z=>
  (x.keep b o (λw=>nl (w▸q)) z (lt b o q z)).elim λo' y=>⟨o',y.1,y.2.cls,λw=>y.2.data▸w⟩,λT o ts fl q n1 uu h1 h2 h3=>x.tb T o ts fl (λz=>n1 (z▸m)) q h1 h2 h3⟩
theorem R.ts{st:St}{n:Nat}{ao:AO}(r:R W ad h st)(x:TS kz e h h')(en:ad[n]?=some e)(k:xb kz ad L h h')(d:xg L h)(q:Ob W ad h' e ao):R W ad h' (st.set n ao):=
 r.next .refl k d (by refine rt (List.length_set ..) ?_;exact r.len) r.nd (λuu m n=>absurd m n) λj b o e1 e2=>by
  by_cases z:n=j
  ·subst z
   replace e1:=en▸e1
   replace e1:=Option.some.inj e1;subst e1
   replace e2:=(List.getElem?_set_self (r.len▸(List.getElem?_eq_some_iff.mp en).1) ..)▸e2
   replace e2:=Option.some.inj e2;subst e2
   exact .inl q
  ·replace e2:=(List.getElem?_set_ne z ..)▸e2
   exact .inr ⟨e1,e2,λo' e c1 c2=>(x.keep b o' (λy=>z (wD r.nd en (y▸e1))) e c1).elim λo2 y=>y.2.eq c2▸y.1⟩
def Xo(W:Wd)(ad:List Addr)(h:Heap)(e C:Addr)(d:Nat)(tb:Bool):Prop:=Ob W ad h e (.jb C d tb)
theorem Xo.at{C:Addr}{d:Nat}{tb:Bool}(x:Xo W ad h e C d tb){G:Prop}(K:∀da vs,ad[d]?=some da->h.get? e=some ⟨.ref C,some da,.fields vs,#[]⟩->vs[2]?=some .none->∀y,vs[1]?=some y->cond tb (fe W ad h y) (y=.none)->G):G:=
 Exists.elim x λo z=>z.2.elim λda y=>y.elim λvs y=>y.2.2.2.elim λv w=>K da vs y.1 (y.2.1▸z.1) y.2.2.1 v w.1 w.2
end
def Fz(kz:Nat)(h:Heap)(l:List PySem.Env):Prop:=h.FunFrames {} l/\∀b∈l.filterMap (·.frame),kz<=b/\∀o,h.get? b=some o->o.cls=.type "frame"
theorem CL(a:Addr):({}:Heap).get? a=none:=Heap.get?_none_of_le (Nat.zero_le a)
theorem FF.gf{W:Wd}{ad:List Addr}{h:Heap}{env:PySem.Env}{l:List PySem.Env}(x:FF W ad h (env::l)):W.n<=h.objs.size:=by
 obtain⟨_,F,o,f1,f2,f3,f4,_⟩:=x env (List.mem_cons_self ..)
 exact Nat.le_of_lt (Nat.lt_of_le_of_lt f2 (Heap.lt_size f4))
theorem Fz.wE{W:Wd}{ad:List Addr}{h:Heap}:∀{l:List PySem.Env},FF W ad h l->Fz W.n h l
 |[],_=>⟨trivial,λb m=>nomatch m⟩
 |env::l,x=>by
  obtain⟨k1,F,o,f1,f2,f3,f4,f5,es,n,f6⟩:=x env (List.mem_cons_self ..)
  obtain⟨z1,z2⟩:=Fz.wE (l:=l) λe m=>x e (List.mem_cons_of_mem _ m)
  refine⟨⟨k1,⟨F,o,f1,CL F,f4,λvs q=>by replace q:=f6▸q;contradiction⟩,z1⟩,λb m=>?_⟩
  replace m:=(f1 ..)▸(List.filterMap_cons ..)▸m
  rcases List.mem_cons.mp m with rfl|m
  ·exact⟨f2,λo' e=>by replace e:=f4▸e;replace e:=Option.some.inj e;subst e;exact f5⟩
  ·exact z2 b m
section
variable {W:Wd}{A:Around}{E:Value->Shared->Prop}{s:Shared}{ad:List Addr}{e C:Addr}{d:Nat}{tb:Bool}{env:PySem.Env}{Ma:List PySem.Env}{F:Addr}{Q:Unit->Shared->Prop}
theorem xE{h:Heap}{T:Addr}(CV:kz<=T){oT:Obj}{ts:Array Value}{fl x:Value}(hT:h.get? T=some oT)(hc:oT.cls=.type "traceback")(hd:oT.data=.fields ts)(h3:ts[3]?=some fl):TS kz e h (h.update T (Obj.mapFields (·.setIfInBounds 3 x)))/\
  ∃o' Qc Vd,(h.update T (Obj.mapFields (·.setIfInBounds 3 x))).get? T=some o'/\o'.cls=.type "traceback"/\o'.data=.fields Qc/\Qc[3]?=some Vd:=by
 have hu:(h.update T (Obj.mapFields (·.setIfInBounds 3 x))).get? T=some (oT.mapFields (·.setIfInBounds 3 x)):=Heap.get?_update_self _ hT (Obj.isFreed_of_fields (Obj.data_mapFields hd _))
 have self:=(⟨_,_,x,hu,by refine rt (Obj.cls_mapFields ..) ?_;exact hc,Obj.data_mapFields hd _,by exact rt (Array.getElem?_setIfInBounds_self_of_lt (Array.getElem?_eq_some_iff.mp h3).1 ..) rfl⟩:∃o' Qc Vd,(h.update T (Obj.mapFields (·.setIfInBounds 3 x))).get? T=some o'/\o'.cls=.type "traceback"/\o'.data=.fields Qc/\Qc[3]?=some Vd)
 refine⟨⟨λb o l uu q=>(Heap.get?_update_other _ _ λz=>absurd l (Nat.not_lt.mpr (by refine z▸?_;exact CV))).trans q,Nat.le_of_eq (Heap.size_after_update ..).symm,λb o uu q c=>⟨o,(Heap.get?_update_other _ _ λz=>by subst z;exact c (sj hT q▸hc)).trans q,.refl o⟩,λT' o Qc Vd uu q h1 h2 h4=>?_⟩,self⟩
 by_cases z:T=T'
 ·subst z;exact self
 ·exact⟨o,Qc,Vd,(Heap.get?_update_other _ _ z).trans q,h1,h2,h4⟩
theorem DL{fr:Option Addr}(en:e∈ad)(hX:Xo W ad s.heap e C d tb)(hQ:∀h',TS W.n e s.heap h'->Xo W ad h' e C d tb->Q () {s with heap:=h'}):wpAny W.m A (setFlight (.ref e) fr) Q E s:=hX.at λda vs ed he zc y hy z=>by
 unfold setFlight
 induction tb with
 |false=>
  subst z
  refine wpAny_bind (wpAny_field he rfl hy ?_)
  rw[if_neg (by decide)]
  exact wpAny_pure (hQ _ (.refl ..) hX)
 |true=>
  induction(z:fe ..) using fe.casesOn with
  |mk T oT ts fl k m g c dd f=>
   refine wpAny_bind (wpAny_field he rfl hy ?_)
   refine rt (if_pos (show(Value.ref T !=Value.none)=true from by simp) ..) ?_
   have t:=xE (kz:=W.n) (e:=e) (x:=(fr.elim .none λf=>rawInt f)) k g c dd f
   have RC:T≠e:=λq=>m.1 (q▸en)
   exact wpAny_setField g dd (Array.getElem?_eq_some_iff.mp f).1 (hQ _ t.1 ⟨_,(Heap.get?_update_other _ _ RC).trans he,da,vs,ed,rfl,zc,_,hy,t.2.elim λo' y=>y.elim λQc y=>y.elim λVd y=>.mk T o' Qc Vd k m y.1 y.2.1 y.2.2.1 y.2.2.2⟩)
theorem yE{head:Value}{DV:Bool}(Jx:A.frames=some (env::Ma))(hz:Fz W.n s.heap (env::Ma))(Ql:W.n<=s.heap.objs.size)(hf:env.frame=some F)(en:e∈ad)(ac:∀a∈ad,a<s.heap.objs.size)(Kx:∀a∈W.fd,a<s.heap.objs.size){da:Addr}{vs:Array Value}(ed:ad[d]?=some da)
  (he:s.heap.get? e=some ⟨.ref C,some da,.fields vs,#[]⟩) (h1:1<vs.size) (hc:vs[2]?=some .none) (hQ:∀h',TS W.n e s.heap h'->Xo W ad h' e C d true->Q () {s with heap:=h'}):
  wpAny W.m A (do let a <-frameOf env;let pl <-entryPlaceOf F DV;let b <-EntryCells.newEntry head a .none (rawInt F) .none pl;setField (.ref e) 1 b) Q E s:=by
 refine wpAny_bind (wpAny_frameOf_fun Jx hz.1 hf λh₁ hs=>?_)
 refine wpAny_bind (wpAny_entryPlaceOf λpl EV=>?_)
 unfold EntryCells.newEntry newFields
 refine wpAny_bind (wpAny_newObj_type ?_ (EV.sizeOk5 _ _ _ _ _))
 have Sp:e∉(env::Ma).filterMap (·.frame):=λhm=>by have:=(hz.2 e hm).2 _ he;contradiction
 have kJ:h₁.get? e=some _:=(hs.2.1 e Sp).trans he
 generalize ho:({cls:=.type "traceback",dict:=none,data:=.fields ([head,.ref F,.none,rawInt F,.none]++(if pl.isEmpty then List.replicate 6 Value.none else pl)).toArray}:Obj)=oT
 have Lx:=Heap.get?_push_of_some (h:=h₁) oT kJ
 have t1:TS W.n e s.heap h₁:=⟨λb o l uu q=>(hs.2.1 b λm=>absurd l (Nat.not_lt.mpr (hz.2 b m).1)).trans q,Nat.le_of_eq hs.1.symm,λb o uu q uu=>by
  by_cases m:b∈(env::Ma).filterMap (·.frame)
  ·exact(hs.2.2 b o q).elim λsl q'=>⟨_,q',.inr ⟨(hz.2 b m).2 o q,sl,rfl⟩⟩
  ·exact⟨o,(hs.2.1 b m).trans q,.refl o⟩,λT o ts fl uu q c1 c2 c3=>(hs.2.2 T o q).elim λsl q'=>⟨_,ts,fl,q',c1,c2,c3⟩⟩
 have t2:TS W.n e h₁ (h₁.push oT):=.all (by refine rt (Heap.size_push ..) ?_;exact Nat.le_succ _) λb o uu q=>Heap.get?_push_of_some _ q
 have hT:h₁.objs.size≠e:=Nat.ne_of_gt (Heap.lt_size kJ)
 have out:W.out ad h₁.objs.size:=by refine rt hs.1 ?_;exact⟨λm=>absurd (ac _ m) (Nat.lt_irrefl _),λm=>absurd (Kx _ m) (Nat.lt_irrefl _)⟩
 refine wpAny_setField Lx rfl h1 (hQ _ ((t1.trans t2).trans (.all (Nat.le_of_eq (Heap.size_after_update ..).symm) λb o n q=>(Heap.get?_update_other _ _ (Ne.symm n)).trans q)) ⟨_,Heap.get?_update_self _ Lx (Obj.isFreed_of_fields (Obj.data_mapFields rfl _)),da,_,ed,rfl,?_,.ref h₁.objs.size,?_,?_⟩)
 ·refine(?_:(vs.setIfInBounds 1 _)[2]?=_)
  rw[Array.getElem?_setIfInBounds_ne (by decide)];exact hc
 ·refine(?_:(vs.setIfInBounds 1 (.ref h₁.objs.size))[1]?=_)
  exact rt (Array.getElem?_setIfInBounds_self_of_lt h1 ..) rfl
 ·subst ho
  exact .mk h₁.objs.size _ _ (rawInt F) (by refine rt hs.1 ?_;exact Ql) out ((Heap.get?_update_other _ _ (Ne.symm hT)).trans (Heap.get?_push_size h₁ rfl)) rfl rfl (by simp)
theorem EL(Jx:A.frames=some (env::Ma))(hz:Fz W.n s.heap (env::Ma))(Ql:W.n<=s.heap.objs.size)(hf:env.frame=some F)(en:e∈ad)(ac:∀a∈ad,a<s.heap.objs.size)(Kx:∀a∈W.fd,a<s.heap.objs.size)(hX:Xo W ad s.heap e C d tb)
  (hQ:∀h',TS W.n e s.heap h'->Xo W ad h' e C d true->Q () {s with heap:=h'}):wpAny W.m A (noteFrame (.ref e) env) Q E s:=hX.at λda vs ed he zc y hy z=>by
 unfold noteFrame
 refine rt hf ?_
 have h1:1<vs.size:=(Array.getElem?_eq_some_iff.mp hy).1
 induction tb with
 |false=>
  subst z
  refine wpAny_bind (wpAny_field he rfl hy ?_)
  rw[if_neg (by decide)]
  exact yE Jx hz Ql hf en ac Kx ed he h1 zc hQ
 |true=>
  induction(z:fe ..) using fe.casesOn with
  |mk T oT ts fl k m g c dd f=>
   refine wpAny_bind (wpAny_field he rfl hy ?_)
   refine rt (if_pos (show(Value.ref T !=Value.none)=true from by simp) ..) ?_
   refine wpAny_bind (wpAny_field g dd f ?_)
   by_cases lJ:(fl==rawInt F)=true
   ·refine rt (if_pos lJ ..) ?_
    exact wpAny_pure (hQ _ (.refl ..) hX)
   ·refine rt (if_neg lJ ..) ?_
    have RC:T≠e:=λq=>m.1 (q▸en)
    have t:=(xE (kz:=W.n) (e:=e) (x:=Value.none) k g c dd f).1
    refine wpAny_bind (wpAny_setField g dd (Array.getElem?_eq_some_iff.mp f).1 ?_)
    have other:∀b,b≠T->(s.heap.update T (Obj.mapFields (·.setIfInBounds 3 Value.none))).get? b=s.heap.get? b:=λb hb=>Heap.get?_update_other _ _ (Ne.symm hb)
    have Mx:Fz W.n (s.heap.update T (Obj.mapFields (·.setIfInBounds 3 Value.none))) (env::Ma):=⟨hz.1.of_keeps λb o hb hn=>⟨o,(other b λq=>by replace hb:=g▸q▸hb;replace hb:=Option.some.inj hb;subst hb;exact hn _ dd).trans hb,rfl⟩,λb mm=>⟨(hz.2 b mm).1,λo hb=>by
     by_cases q:b=T
     ·subst q
      have:=(hz.2 b mm).2 _ g
      replace this:=c▸this;exact nomatch this
     ·exact(hz.2 b mm).2 o ((other b q).symm.trans hb)⟩⟩
    exact yE (s:={s with heap:=s.heap.update T (Obj.mapFields (·.setIfInBounds 3 Value.none))}) Jx Mx (by refine(?_:_<=(Heap.update ..).objs.size);refine rt (Heap.size_after_update ..) ?_;exact Ql) hf en (λa m=>by refine rt (Heap.size_after_update ..) ?_;exact ac a m) (λa m=>by refine rt (Heap.size_after_update ..) ?_;exact Kx a m) ed ((other e (Ne.symm RC)).trans he) h1 zc λh' t' x'=>hQ h' (t.trans t') x'
end
noncomputable def Dg(st:St)(n:Nat):Option St:=(st[n]?).bind λo=>match o with
 |.jb c d _=>some (st.set n (.jb c d true))
 |_=>none
theorem zE{st qc:St}{n:Nat}{G:Prop}(e:Dg st n=some qc)(K:∀C d tb,st[n]?=some (.jb C d tb)->qc=st.set n (.jb C d true)->G):G:=obs e λo e1 e2=>by
 induction o using AO.casesOn with
 |jb C d tb=>exact K C d tb e1 (Option.some.inj e2).symm
 |_=>exact Fa e2
theorem Jq{st qc:St}{n:Nat}(e:Dg st n=some qc):∃C d,qc[n]?=some (.jb C d true):=zE e λC d tb es e3=>⟨C,d,by refine rt e3 ?_;exact List.getElem?_set_self (List.getElem?_eq_some_iff.mp es).1⟩
section
variable {θ:Th}{Γ:Bk}{ad:List Addr}{sx sx1:Sx}{s s1:Shared}{Y:Hp}
theorem Ms.cs(M:Ms θ Γ ad sx s):Cs θ.W θ.D Γ.A Γ.Ma ad sx.st s:=⟨M.ib,M.r,M.fr,M.ff,M.je,M.un,M.gf⟩
theorem Ms.ts(ok:θ.W.Ok)(M:Ms θ Γ ad sx s){n:Nat}{a:Addr}{h':Heap}{ao:AO}(en:ad[n]?=some a)(t:TS θ.W.n a s.heap h')(q:Ob θ.W ad h' a ao)(t':Nat)(y:Y ad h'):Po θ Γ ad s (sx.set n ao) Y {s with heap:=h',toks:=t'}:=by
 have lt:∀b o,Γ.L b->s.heap.get? b=some o->o.cls≠.type "traceback":=λb o e eo=>by
  subst e
  rcases M.lT o eo with q|q<;>refine q.symm▸?_<;>exact λe=>nomatch e
 have c:pb θ.W Γ.L ad s ad {s with heap:=h',toks:=t'}:=⟨.refl,t.kept (List.mem_of_getElem? en) (λz=>M.Dt en z.symm) lt,rfl⟩
 refine⟨ad,c,M.next ok c (M.r.ts t en c.k M.ke q) (M.lo.Ba .refl c.k M.ke λm hn=>?_),y⟩
 exact M.lo.obj.elim λo z=>z.elim λes z=>z.elim λj z=>(t.keep _ o (M.Dt en) z.1 (lt _ o rfl z.1)).elim λo' y=>y.2.ns z.1 y.1 hn
noncomputable abbrev Xr(mv:Nat->Bool)(n:Nat)(x:Value):Hp:=λia uu=>∃a,x=.ref a/\Db mv ia n=some a
theorem Ms.Jk(ok:θ.W.Ok)(M:Ms θ Γ ad sx s)(hf:θ.c.fn=true){n:Nat}{qc:St}{x:Value}{E:Value->Shared->Prop}{Q:Unit->Shared->Prop}(q:Xr θ.W.mv n x ad s.heap)(e3:Dg sx.st n=some qc)(hQ:∀s',Po θ Γ ad s ⟨sx.loc,qc,sx.hs⟩ (Xr θ.W.mv n x) s'->Q () s'):wpAny θ.W.m Γ.A (noteFrame x Γ.env) Q E s:=
 q.elim λa q=>(M.Yg hf).elim λrest ho=>zE e3 λC d tb es e3=>by
  refine q.1.symm▸?_
  replace hQ:=e3▸hQ
  have ff:=M.ff
  replace ff:=ho.1▸ff
  exact EL (ho.1▸M.fr) (Fz.wE ff) ff.gf ho.2 (List.mem_of_getElem? (Hb q.2)) (λb q=>(M.r.lt b q).2) (λb q=>(M.r.lf b q).2) (M.r.ob n a _ (Hb q.2) es:Xo _ _ _ _ _ _ _) λdn tt xx=>hQ _ (q.1▸M.ts ok (Hb q.2) tt xx s.toks ⟨a,rfl,q.2⟩)
theorem Ms.zi(ok:θ.W.Ok)(M:Ms θ Γ ad sx s){fr:Option Addr}{n:Nat}{C:Addr}{d:Nat}{tb:Bool}{x:Value}{E:Value->Shared->Prop}{Q:Unit->Shared->Prop}(q:Xr θ.W.mv n x ad s.heap)(e3:sx.st[n]?=some (.jb C d tb))(hQ:∀s',Po θ Γ ad s sx (Xr θ.W.mv n x) s'->Q () s'):wpAny θ.W.m Γ.A (setFlight x fr) Q E s:=
 q.elim λa q=>by
  refine q.1.symm▸?_
  refine DL (List.mem_of_getElem? (Hb q.2)) (M.r.ob n a _ (Hb q.2) e3:Xo _ _ _ _ _ _ _) λdn tt xx=>hQ _ ?_
  have:=M.ts (Y:=Xr θ.W.mv n x) ok (Hb q.2) tt xx s.toks ⟨a,q.1,q.2⟩
  have es:sx.st.set n (.jb C d tb)=sx.st:=by
   have z:=List.getElem?_eq_some_iff.mp e3
   exact z.elim λhl he=>by refine rl he ?_;exact List.set_getElem_self hl
  unfold Sx.set at this
  replace this:=es▸this
  exact this
theorem Ms.Pa(ok:θ.W.Ok)(M:Ms θ Γ ad sx s)(hf:θ.c.fn=true){n:Nat}{qc:St}{x:Value}{E:Value->Shared->Prop}(q:Xr θ.W.mv n x ad s.heap)(e3:Dg sx.st n=some qc)(hE:∀s',Po θ Γ ad s ⟨sx.loc,qc,sx.hs⟩ (Xr θ.W.mv n x) s'->E x s'):notedBy θ.W.m Γ.A Γ.env (λx s'=>cameBackBy θ.W.m Γ.A Γ.env E x s') x s:=by
 refine M.Jk ok hf q e3 λs2 p=>?_
 obtain⟨ya,c,M2,q2⟩:=p
 refine(Jq e3).elim λC z=>z.elim λd es=>q2.elim λa y=>?_
 have X:Xo θ.W ya s2.heap a C d true:=M2.r.ob n a _ (Hb y.2) es
 refine X.at λda vs ed he uu v hv z=>?_
 induction(z:fe ..) using fe.casesOn with
 |mk T oT ts fl k m g c1 dd f=>
  unfold cameBackBy
  refine y.1.symm▸?_
  refine wpAny_bind (wpAny_field he rfl hv ?_)
  rw[if_neg (by simp)]
  exact M2.zi ok ⟨a,rfl,y.2⟩ es λs3 p3=>y.1▸hE s3 (y.1▸p3.Pa c)
end
end
section
variable {kz:Nat}
noncomputable def om:List (Str×NameKind)->List (Str×Nat)->Nat->List (Str×Nat)
 |[],acc,_=>acc
 |p::r,acc,n=>cond (p.2==.cell) (om r ((p.1,n)::acc) (n+1)) (om r acc n)
noncomputable def ij:List (Str×NameKind)->St
 |[]=>[]
 |p::r=>cond (p.2==.cell) (.cell none::ij r) (ij r)
theorem Cr.df{mv:Nat->Bool}{ad:List Addr}{x:Str}:∀{l:List (Str×Nat)} {ca:List (Str×Addr)},Cr mv ad l ca->∀n,l.lookup x=some n->∃a,Db mv ad n=some a/\ca.lookup x=some a
 |[],_,_,_,e=>Fa e
 |p::l,_,z,n,f=>z.elim λq z=>z.elim λr z=>by
  refine rt z.1 ?_
  rw[List.lookup_cons] at f ⊢
  refine rt z.2.1 ?_
  revert f
  rcases x==p.1 with _|_
  ·exact λf=>Cr.df z.2.2.2 n f
  exact λf=>⟨q.2,Option.some.inj f▸z.2.2.1,rfl⟩
section
variable {W:Wd}
theorem Hy:∀(names:List (Str×NameKind)) {ad:List Addr} {h:Heap} {st:St} {acc:List (Str×Nat)} {ca:List (Str×Addr)},R W ad h st->(∀a,h.objs.size<=a->W.fr a)->Cr W.mv ad acc ca->
  ∃ia,zf ad h ia/\R W ia (pushCells h names) (st++ij names)/\xb W.n ad Sc h (pushCells h names)/\(∀b o,h.get? b=some o->(pushCells h names).get? b=some o)/\Cr W.mv ia (om names acc ad.length) (cellsFrom h.objs.size names ca)
 |[],ad,h,st,acc,ca,r,_,z=>⟨ad,.refl,by refine rt (show st++ij []=st from List.append_nil st) ?_;exact r,.refl,λuu uu e=>e,z⟩
 |p::names,ad,h,st,acc,ca,r,lo,z=>by
  refine(?_:∃ia,_/\R W ia (if p.2==.cell then _ else _) (st++cond (p.2==.cell) (.cell none::ij names) (ij names))/\xb W.n ad Sc h (if p.2==.cell then _ else _)/\(∀b o,_->Heap.get? (if p.2==.cell then _ else _) b=some o)/\Cr W.mv ia (cond (p.2==.cell) _ _) (if p.2==.cell then _ else _))
  rcases p.2==.cell with _|_
  ·exact Hy names r lo z
  have fx:=Fx.push h.objs.size h ({cls:=.type "cell",data:=.cell none}:Obj)
  have g:=rq (ad:=ad) (h:=h) (Nat.le_refl h.objs.size)
  have k1:xb W.n ad Sc h (h.push {cls:=.type "cell",data:=.cell none}):=fx.Vl (zk _)
  have r1:=R.name (ao:=.cell none) r (lo _ (Nat.le_refl _)) (Nat.le_refl _) (by refine rt (Heap.size_push ..) ?_;exact Nat.lt_succ_self _) fx k1 jh ⟨_,Heap.get?_push_size _ rfl,rfl⟩
  have z1:Cr W.mv (ad++[h.objs.size]) ((p.1,ad.length)::acc) ((p.1,h.objs.size)::ca):=⟨_,_,rfl,rfl,yc (r.hi _ (Nat.le_refl _)) (Ct ..),z.Bn (kq g.get)⟩
  refine(Hy names r1 (λa q=>lo a (by replace q:=(Heap.size_push ..)▸q;exact Nat.le_of_succ_le q)) z1).imp λia y=>⟨g.trans y.1 k1.size,?_,k1.trans g.w (mv:=W.mv) y.2.2.1,λb o e=>y.2.2.2.1 b o (Heap.get?_push_of_some _ e),?_⟩
  ·have:=y.2.1;replace this:=(List.append_assoc ..)▸this;exact this
  ·have:=y.2.2.2.2;replace this:=(Heap.size_push ..)▸(List.length_append ..)▸this;exact this
end
namespace Rn
noncomputable def Ai(c:Cx):List (Str×SV)->Rn Unit
 |[]=>Pure.pure ()
 |p::r=>Kd c p.1 p.2>>=λuu=>Ai c r
end Rn
noncomputable def mu(binds:List (Str×Value))(env:PySem.Env):Sem PUnit:=forIn binds PUnit.unit λx uu=>do storeName env x.1 x.2;Pure.pure (ForInStep.yield PUnit.unit)
theorem xb.Jj{mv:Nat->Bool}{ad ja:List Addr}{h h1 h2:Heap}{L:Addr}(g:vd mv ad h ja)(k1:xb kz ad Sc h h1)(k2:xb kz ja (·=L) h1 h2)(hL:h.objs.size<=L):xb kz ad Sc h h2:=by
 have nl:∀{b:Addr} {o:Obj},h.get? b=some o->¬b=L:=λe q=>absurd (Heap.lt_size e) (Nat.not_lt.mpr (q▸hL))
 refine⟨Nat.le_trans k1.size k2.size,λb o e n1 n2 n4=>?_,λb o l e n1 n2=>k2.old b o l (k1.old b o l e n1 n2) (g.not e n1) (nl e),λb o q=>q.elim,λT o ts fl e n1 n2 FV HV h3=>?_⟩
 ·obtain⟨o',e',s'⟩:=k1.keep b o e n1 n2 n4
  obtain⟨Cj,As,uk⟩:=k2.keep b o' e' (g.not e n1) (nl e) (s'.cls▸n4)
  exact⟨Cj,As,s'.trans uk⟩
 ·obtain⟨o',Qc,Vd,e',a1,a2,a3⟩:=k1.tb T o ts fl e n1 n2 FV HV h3
  exact k2.tb T o' Qc Vd e' (g.not e n1) (nl e) a1 a2 a3
section
variable {θ:Th}{Γ:Bk}{W:Wd}{c:Cx}{D:Nat}{X:Hp}{A:Around}{Ma:List PySem.Env}{ad:List Addr}{st:St}{s:Shared}
theorem So.Ai(ok:θ.W.Ok):∀{bs:List (Str×SV)} {binds:List (Str×Value)} {X:Hp},Da θ.W.mv X->(∀a h,X a h->Kv θ.W a h bs binds)->So θ X (λ(uu:Unit) (uu:PUnit) uu uu=>True) (Rn.Ai θ.c bs) (λenv=>mu binds env)
 |[],binds,X,hX,q=>So.ye (P:=binds=[]) (λa h x=>by cases q a h x;rfl) λe=>by
  refine rt e ?_
  exact So.pure (v:=PUnit.unit) λuu uu uu=>trivial
 |p::bs,binds,X,hX,q=>So.ye (P:=∃v r,binds=(p.1,v)::r) (λa h x=>by cases q a h x with|@cons _ _ v r=>
  exact⟨v,r,rfl⟩) λe=>e.elim λv e=>e.elim λr e=>by
  subst e
  have e2:∀env,mu ((p.1,v)::r) env=(PySem.storeName env p.1 v>>=λuu=>mu r env):=λenv=>by
   unfold mu
   rw[List.forIn_cons]
   simp only [bind_assoc,pure_bind]
  refine So.Nb e2 (So.bind hX (So.storeName ok λa h x=>?_) λuu uu=>So.Ai ok (hX.and Da.true) λa h x=>?_)
  ·cases q a h x with|cons q z=>exact q
  ·cases q a h x.1 with|cons q z=>exact z
theorem AE(c:Cx)(b:Bool):∀bs:List (Str×SV),Rn.Ai {c with fn:=b} bs=Rn.Ai c bs
 |[]=>rfl
 |p::r=>congrArg (λf=>Rn.Kd c p.1 p.2>>=λuu=>f) (AE c b r)
structure Iy(h:Heap)(f:Addr)(sc:Scope)(ca:List (Str×Addr))(body:List Stmt)(fd:FuncData):Prop where
 at_:∃o,h.get? f=some o/\o.data=.func fd
 scope:fd.scope=sc
 Ia:fd.closure=ca
 body:fd.body=.stmts body
 gl:fd.globals=mainGlobals
 bi:fd.builtins=builtinsNs
 cd:h.CodeRec fd.code fd.qualname
 co:sc.isCoroutine=false
 gen:sc.isGenerator=false
theorem FL(ok:W.Ok)(C:Cs W (D+1) A Ma ad st s){scope:Scope}{cl:List (Str×Nat)}{ca:List (Str×Addr)}{bs:List (Str×SV)}{binds:List (Str×Value)}{qual:Str}{func:Option Addr}{code:Value}
  (hc:c.scope=scope) (hk:bh scope.kind=true) (Os:c.fn=true) (SC:c.cells=om scope.names cl st.length) (af:Cr W.mv ad cl ca) (hb:Kv W ad s.heap bs binds) (hh:ie W.mv c.hn A ad s.heap) (Sf:∀p,c.me=some p->code=.ref p.1/\qual=p.2)
  {ra:Sx} {l:List Prop} (e:Rn.Ai c bs ⟨[],st++ij scope.names,[]⟩=some (.ok (),ra,l)) (hl:∀p∈l,p) {Q:PySem.Env->Shared->Prop} {E:Value->Shared->Prop}
  (hQ:∀env ya s2,Ms ⟨W,c,D⟩ ⟨A.deeper env,env,env::Ma⟩ ya ra s2->pb W Sc ad s ya s2->s.heap.objs.size<=env.locals->Q env s2):wpAny W.m A.in1 (newFunctionEnv scope mainGlobals ca binds qual func code none builtinsNs) Q E s:=by
 simp only [newFunctionEnv,Option.isSome_none,Bool.false_eq_true,if_false]
 refine wpAny_bind (wpAny_alloc ?_)
 refine wpAny_bind (wpAny_layCells _ (λname kind cells=>by induction IV:kind==NameKind.cell using Bool.casesOn<;>simp [IV]) _ _ _ _ ?_)
 generalize ho:({cls:=.type "frame",data:=.dict #[]}:Obj)=o0
 have fx:=Fx.push s.heap.objs.size s.heap o0
 have k0:xb W.n ad Sc s.heap (s.heap.push o0):=fx.Vl (zk _)
 have mJ:s.heap.objs.size∉ad:=λm=>absurd (C.r.lt _ m).2 (Nat.lt_irrefl _)
 obtain⟨ja,g1,r1,k1,p1,z1⟩:=Hy (W:=W) scope.names (C.r.Ae fx mJ k0 jh) (λa q=>Wd.fresh C.ib (by replace q:=(Heap.size_push ..)▸q;exact Nat.le_of_succ_le q)) af
 have JV:=p1 _ _ (Heap.get?_push_size s.heap (o:=o0) (by subst ho;rfl))
 have gg:vd W.mv ad s.heap ja:=⟨kq g1.get _ _,λa m=>(g1.new a m).imp id λq=>by replace q:=(Heap.size_push ..)▸q;exact Nat.le_of_succ_le q⟩
 have kk:xb W.n ad Sc s.heap (pushCells (s.heap.push o0) scope.names):=k0.trans (mv:=W.mv) .refl k1
 have nL:s.heap.objs.size∉ja:=λm=>(g1.new _ m).elim mJ λq=>by replace q:=(Heap.size_push ..)▸q;exact absurd q (Nat.not_succ_le_self _)
 generalize UC:({scope:=scope,locals:=s.heap.objs.size,globals:=mainGlobals,cells:=cellsFrom (s.heap.push o0).objs.size scope.names ca,qual:=qual,func:=func,code:=code,frame:=some s.heap.objs.size,builtins:=builtinsNs}:PySem.Env)=env
 have ki:c.At W.mv ja env:=by
  subst UC
  exact⟨hc.symm,rfl,rfl,λx n ex=>by replace ex:=(C.r.len ..).symm▸(SC ..)▸ex;exact z1.df n ex,Sf⟩
 have eL:env.locals=s.heap.objs.size:=by exact rl UC rfl
 have eF:env.frame=some env.locals:=by exact rl UC rfl
 have c1:pb W Sc ad s ja {s with heap:=pushCells (s.heap.push o0) scope.names}:=⟨gg,kk,rfl⟩
 have nJ:(pushCells (s.heap.push o0) scope.names).get? env.locals=some o0:=eL▸JV
 have M:Ms ⟨W,{c with fn:=false},D⟩ ⟨A.in1,env,Ma⟩ ja ⟨[],st++ij scope.names,[]⟩ {s with heap:=pushCells (s.heap.push o0) scope.names}:=by
  refine⟨ok.ib C.ib (λa m=>(C.r.lt a m).1) (λa q=>q.elim) kk,r1,⟨λuu=>none,?_,λx=>trivial⟩,?_,?_,λo q=>?_,(λq=>nomatch q),⟨ki.scope,ki.globals,ki.builtins,ki.cells,ki.me⟩,C.fr,C.ff.next gg kk,?_,?_,hh.next gg kk jh⟩
  ·refine rt eL (rl ho ?_)
   subst ho
   exact(Heap.Ns.new s.heap (.type "frame")).keeps p1
  ·refine(?_:env.locals∉ja)
   refine rt eL ?_;exact nL
  ·refine(?_:W.n<=env.locals/\W.fr env.locals)
   refine rt eL ?_;exact⟨C.gf,Wd.fresh C.ib (Nat.le_refl _)⟩
  ·exact .inl (sj q nJ▸ho▸rfl)
  ·have:=C.je;refine(?_:A.depth+D<=yn);lia
  ·have:=C.un;refine(?_:A.units+1+8 * D<=Gj);lia
 have run:=So.Ai (θ:=⟨W,{c with fn:=false},D⟩) ok (X:=λa h=>Kv W a h bs binds) (λuu uu uu uu uu uu g k d z=>z.imp λuu uu q=>q.Ba g k d) (λuu uu x=>x) ⟨A.in1,env,Ma⟩ ja _ _ M (hb.imp λuu uu q=>q.Ba gg kk jh)
 replace run:=(show Rn.Ai {c with fn:=false} bs _=_ from(congrFun (AE c false bs) _).trans e)▸run
 refine wpAny_bind (wpAny_mono (run hl) (λuu s2 h=>?_) λx s2 h=>h.ok)
 obtain⟨ya,c2,M2,_⟩:=h.po
 have kc:xb W.n ad Sc s.heap s2.heap:=xb.Jj gg kk (L:=env.locals) c2.k (by refine rt eL ?_;exact Nat.le_refl _)
 refine wpAny_pure (hQ env ya _ ⟨M2.ib,M2.r,M2.lo,M2.nL,M2.lL,M2.lT,λuu=>⟨Ma,rfl,eF⟩,ki.next c2.g,Around.frames_deeper C.fr,λoJ hm=>?_,?_,?_,hh.next (gg.trans c2.g kk.size) kc jh⟩ ⟨gg.trans c2.g kk.size,kc,by exact(c2.e ..).symm▸rfl⟩ (by refine eL.symm▸?_;exact Nat.le_refl _))
 ·rcases List.mem_cons.mp hm with rfl|hm
  ·exact(c2.k.own _ o0 rfl nJ).elim λo' y=>M2.lo.obj.elim λo2 w=>w.elim λes w=>w.elim λn w=>⟨λq=>by replace q:=(hc ..)▸(ki.scope ..)▸q;replace hk:=q▸hk;exact ft hk,oJ.locals,o',eF,M2.lL.1,M2.nL,y.1,y.2.1.trans (ho▸rfl),es,n,sj w.1 y.1▸w.2⟩
  ·exact M2.ff oJ hm
 ·have:=C.je;refine(?_:A.depth+1+D<=yn);lia
 ·have:=C.un;refine(?_:A.units+3+8 * D<=Gj);lia
end
end
section
variable {kz:Nat}
theorem xb.Jy{ad:List Addr}{h h':Heap}{L:Addr}(k:xb kz ad Sc h h')(nL:L∉ad)(c:∀o,h.get? L=some o->o.cls=.type "frame"\/o.cls=.type "dict"):xb kz ad (·=L) h h':=
 ⟨k.size,λa o e n1 uu n4=>k.keep a o e n1 id n4,λa o l e n1 uu=>k.old a o l e n1 id,λa o q e=>by
  cases(show a=L from q)
  exact(k.keep _ o e nL id (by rcases c o e with q|q<;>refine rt q ?_<;>exact λe=>nomatch e)).elim λo' y=>⟨o',y.1,y.2.cls,λw=>y.2.data▸w⟩,λT o ts fl e n1 uu=>k.tb T o ts fl e n1 id⟩
noncomputable def Fl.val:Fl->SV
 |.ret v=>v
 |_=>.nn
section
variable {θ:Th}{Γ:Bk}{ad:List Addr}{sx sx1:Sx}{s s1:Shared}{X Y:Hp}
theorem Ms.pc(ok:θ.W.Ok)(M:Ms θ Γ ad sx s){db:St}{hs:List Jd}(x:Pc θ.W ad s db X s1):Po θ Γ ad s ⟨sx.loc,db,hs⟩ X s1:=by
 refine Pc.casesOn x λia c r x=>?_
 have k:=c.k.Jy M.nL M.lT
 have c2:pb θ.W Γ.L ad s ia s1:=⟨c.g,k,c.e⟩
 refine⟨ia,c2,M.next ok c2 r (M.lo.Ba c.g k M.ke λm hn=>?_),x⟩
 exact M.lo.obj.elim λo z=>z.elim λes z=>z.elim λn z=>(c.k.keep _ o z.1 M.nL id (by rcases M.lT o z.1 with q|q<;>refine q.symm▸?_<;>exact λe=>nomatch e)).elim λo' y=>y.2.ns z.1 y.1 hn
theorem Ms.leave(ok:θ.W.Ok)(M:Ms θ Γ ad sx s)(hf:θ.c.fn=true){n:Nat}{qc:St}{x:Value}{E:Value->Shared->Prop}{Q:Unit->Shared->Prop}(q:Xr θ.W.mv n x ad s.heap)(e3:Dg sx.st n=some qc)(hQ:∀s',Po θ Γ ad s ⟨sx.loc,qc,sx.hs⟩ (Xr θ.W.mv n x) s'->Q () s'):wpAny θ.W.m Γ.A (leaving Γ.env x) Q E s:=by
 unfold leaving
 refine wpAny_bind (M.Jk ok hf q e3 λs2 p=>?_)
 refine Po.casesOn p λya c M2 q2=>?_
 exact(Jq e3).elim λC z=>z.elim λd es=>M2.zi ok q2 es λs3 p3=>hQ s3 (p3.Pa c)
end
noncomputable def fin(st:St):Except Nat Fl->Option (Except Nat SV×St)
 |.ok fl=>some (.ok fl.val,st)
 |.error n=>(Dg st n).bind λqc=>some (.error n,qc)
section
variable {W:Wd}{c:Cx}{D:Nat}{X:Hp}{A:Around}{Ma:List PySem.Env}{ad:List Addr}{st:St}{s:Shared}{T:Tb}{o:Ka}
theorem GL(ok:W.Ok)(C:Cs W (D+1) A Ma ad st s){f:Addr}{scope:Scope}{cl:List (Str×Nat)}{ca:List (Str×Addr)}{body:List Stmt}{fd:FuncData}(hF:Iy s.heap f scope ca body fd)
  {bs:List (Str×SV)} {binds:List (Str×Value)} {args:List Value} (VC:BindsTo s fd ⟨args,[]⟩ binds)
  (hc:c.scope=scope) (hk:bh scope.kind=true) (Os:c.fn=true) (SC:c.cells=om scope.names cl st.length) (af:Cr W.mv ad cl ca) (hb:Kv W ad s.heap bs binds) (hh:ie W.mv c.hn A ad s.heap) (Sf:∀p,c.me=some p->fd.code=.ref p.1/\fd.qualname++Str.ofString ".<locals>."=p.2)
  {sx1 xa:Sx} {l:List Prop} (e:Rn.Ai c bs ⟨[],st++ij scope.names,[]⟩=some (.ok (),sx1,l)) (hl:∀p∈l,p)
  {hs:List Jd} {o:Except Nat Fl} (H:Ev ⟨W,c,D⟩ (λuu uu=>True) (Fv W) (λenv=>execs body env) ⟨sx1.loc,sx1.st,hs⟩ o xa) {r:Except Nat SV} {db:St} (hr:fin xa.st o=some (r,db)):Dy W A ad s db r (.ref f) args:=λR hQ hE=>hF.at_.elim λfo ho=>by
 refine codeAny_call_function (by have:=C.je;refine(?_:A.depth<1000);unfold yn at this;lia) ho.1 ho.2 (by refine rt (hF.scope ..) ?_;exact hF.co) (by refine rt (hF.scope ..) ?_;exact hF.gen) hF.body hF.cd (VC _ _ _ _ ?_)
 refine rt (hF.scope ..) (rt (hF.Ia ..) (rt (hF.gl ..) (rt (hF.bi ..) ?_)))
 refine FL ok C hc hk Os SC af hb hh Sf e hl λenv ya s2 M c2 hn=>?_
 refine⟨ok.nl _ M.ib,codeAny_func ?_⟩
 have M:Ms ⟨W,c,D⟩ ⟨A.deeper env,env,env::Ma⟩ ya ⟨sx1.loc,sx1.st,hs⟩ s2:=M.as rfl rfl
 have out:∀{sx:Sx} {s':Shared} {X:Hp},Po ⟨W,c,D⟩ ⟨A.deeper env,env,env::Ma⟩ ya s2 sx X s'->Pc W ad s sx.st X s':=λp=>by
  refine Po.casesOn p λic c3 M3 x=>?_
  exact⟨ic,⟨c2.g.trans c3.g c2.k.size,xb.Jj c2.g c2.k (L:=env.locals) c3.k hn,by exact(c3.e ..).symm▸(c2.e ..).symm▸rfl⟩,M3.r,x⟩
 refine wpAny_mono (H _ _ _ M trivial) (λw s' z=>?_) λx s' z=>?_
 ·rcases o with n|fl
  ·exact z.Wf
  cases hr
  refine hQ _ rfl _ s' (out (z.po.Ba λa h q=>?_))
  induction fl using Fl.casesOn with
  |ret x=>exact Exists.elim q λv q=>by refine rt q.1 ?_;exact q.2
  |_=>refine rt (show w=_ from q) ?_;exact rfl
 ·rcases o with n|fl
  ·refine obs hr λqc e3 hr=>?_
   cases hr
   refine Po.casesOn z.po λic c3 M3 q=>?_
   exact M3.leave ok Os q e3 λs4 p4=>hE n rfl _ _ (out (p4.Pa c3))
  exact z.ok
noncomputable def ah.bind(fi:ah)(vs:List SV):Option (List (Str×SV)):=cond (Nat.ble vs.length fi.params.length&&Nat.ble fi.params.length (vs.length+fi.Xf.length)) (some (fi.params.zip (vs++fi.Xf.drop (vs.length+fi.Xf.length - fi.params.length)))) none
structure Kk(W:Wd)(f:Addr)(fi:ah):Prop where
 at_:∀h,W.K.In h->∃fd,Iy h f fi.scope [] fi.body fd/\(∀p,fi.me=some p->fd.code=.ref p.1/\fd.qualname++Str.ofString ".<locals>."=p.2)/\∀(s:Shared) ad vs ws bs,s.heap=h->fi.bind vs=some bs->Vs W ad h vs ws->(∀a∈ad,W.fr a)->(∀a∈W.fd,W.ff a)->∃binds,BindsTo s fd ⟨ws,[]⟩ binds/\Kv W ad h bs binds
noncomputable def BE(st l:St):St:=cond l.isEmpty st (st++l)
theorem HL(st l:St):BE st l=st++l:=by
 rcases l with _|⟨x,r⟩
 ·exact(List.append_nil st).symm
 rfl
namespace Rn
noncomputable def body(o:Ka)(D:Nat)(c:Cx)(body:List Stmt)(bs:List (Str×SV))(names:List (Str×NameKind)):Rn SV:=λs=>(Ai c bs ⟨[],BE s.st (ij names),[]⟩).bind λq=>match q.1 with
 |.error _=>none
 |.ok _=>(o.ex c D body ⟨q.2.1.loc,q.2.1.st,s.hs⟩).bind λr=>(fin r.2.1.st r.1).bind λy=>some (y.1,⟨s.loc,y.2,r.2.1.hs⟩,q.2.2++r.2.2)
noncomputable def Ky(o:Ka)(hn:Hn)(D:Nat)(me:Option (Addr×Str))(scope:Scope)(b:List Stmt)(cl:List (Str×Nat))(bs:List (Str×SV)):Rn SV:=match D with
 |0=>qa
 |D+1=>cond (bh scope.kind) (λs=>body o D ⟨scope,om scope.names cl s.st.length,hn,true,me⟩ b bs scope.names s) qa
noncomputable def cg(T:Tb)(o:Ka)(hn:Hn)(D:Nat)(f:Addr)(vs:List SV):Rn SV:=λs=>(T.fn f).bind λfi=>(fi.bind vs).bind λbs=>Ky o hn D fi.me fi.scope fi.body [] bs s
end Rn
theorem DE(ok:W.Ok)(H:o.Ok W){hn:Hn}{me:Option (Addr×Str)}{scope:Scope}{body:List Stmt}{cl:List (Str×Nat)}{bs:List (Str×SV)}{sx:Sx}:aa (Rn.Ky o hn D me scope body cl bs sx) λr ra=>
  ra.loc=sx.loc/\∀A Ma ad s f ca fd binds args,Cs W D A Ma ad sx.st s->ie W.mv hn A ad s.heap->Iy s.heap f scope ca body fd->(∀p,me=some p->fd.code=.ref p.1/\fd.qualname++Str.ofString ".<locals>."=p.2)->Cr W.mv ad cl ca->BindsTo s fd ⟨args,[]⟩ binds->Kv W ad s.heap bs binds->Dy W A ad s ra.st r (.ref f) args:=by
 induction D using Nat.casesOn with
 |zero=>trivial
 |succ D=>
  refine aa.zn (λhk=>?_) λuu=>trivial
  unfold Rn.body
  refine rt (HL ..) ?_
  refine aa.Ea λq e1=>?_
  obtain⟨u,sx1,l1⟩:=q
  rcases u with n|u
  ·trivial
  refine aa.Ea λr e2=>aa.Ea λy e3 hl=>⟨rfl,λA Ma ad s f ca fd binds args C hh hF Sf af KV hb=>?_⟩
  refine GL ok C hF KV rfl hk rfl rfl af hb hh Sf e1 (λp m=>hl p (List.mem_append_left _ m)) (hs:=sx.hs) (λΓ ad s M x=>?_) e3
  have z:=H.ex _ D _ body Da.true Γ ad ⟨sx1.loc,sx1.st,sx.hs⟩ s M x
  unfold Gl at z
  replace z:=e2▸z
  exact z λp m=>hl p (List.mem_append_right _ m)
theorem Ly(ok:W.Ok)(H:o.Ok W)(hT:∀f fi,T.fn f=some fi->Kk W f fi){hn:Hn}{f:Addr}{vs:List SV}{sx:Sx}:aa (Rn.cg T o hn D f vs sx) λr ra=>ra.loc=sx.loc/\ba W hn D (.tp f) vs sx.st r ra.st:=
 aa.Ea λfi hf=>aa.Ea λbs hb=>(DE ok H).Ba λr ra z=>⟨z.1,λA Ma ad s v ws C hh q1 q2=>by
  subst q1
  exact((hT f fi hf).at_ _ C.ib).elim λfd F=>(F.2.2 s ad vs ws bs rfl hb q2 (λa m=>(C.r.lt a m).1) λa m=>(C.r.lf a m).1).elim λbinds B=>z.2 A Ma ad s f [] fd binds ws C hh F.1 F.2.1 rfl B.1 B.2⟩
end
section
variable {θ:Th}{X:Hp}{T:Tb}
theorem So.call(ok:θ.W.Ok){m:Rn SV}{f:SV}{vs:List SV}{v:Value}{ws:List Value}(H:∀sx,aa (m sx) λr ra=>ra.loc=sx.loc/\ba θ.W θ.c.hn θ.D f vs sx.st r ra.st)(hX:∀a h,X a h->V θ.W a h f v/\Vs θ.W a h vs ws):
  So θ X (Rv θ.W) m (λuu=>call v ws):=λΓ ad sx s M q=>(H sx).Ba λr ra h=>
 have f:∀{X:Hp} {s'},Pc θ.W ad s ra.st X s'->Po θ Γ ad s ra X s':=λp=>by
  have:=M.pc (hs:=ra.hs) ok p
  replace this:=h.1.symm▸this
  exact this
 wpAny_call (h.2 Γ.A Γ.Ma ad s v ws M.cs M.hn (hX _ _ q).1 (hX _ _ q).2 _ (λb eb uu uu p=>⟨b,eb,f p⟩) λn en uu uu p=>⟨n,en,f p⟩)
end
end
section
variable {kz:Nat}
structure nu(W:Wd)(C f:Addr):Prop where
 cl:∃(nm q:Str) (N:Addr) (bs bm:List Value) (vk:Bool) (sn:List Str) (sub:List Value) (ab:Bool) (col:Option Bool) (dd:Option Addr) (k0 k1 k2 k3 k5:Option Value),
  W.K.lookup C=some (excClassObj nm q C N bs bm vk sn sub ab col dd k0 k1 k2 k3 k5 "Exception.__new__")/\bm.contains (.type "Exception")=true/\bm.contains (.type "AttributeError")=false/\bm.contains (.type "NameError")=false
 My:findIn W.K (.ref C) "__init__"=some (some (.ref f))
 fn:∃oI,W.K.lookup f=some oI/\oI.cls=.type "function"
namespace Rn
noncomputable def ou(T:Tb)(x:SV)(rest:List SV):Rn SV:=λs=>(yq s.st x).bind λp=>(T.pe p.1).bind λuu=>cond (Nat.ble rest.length 1000) (some (.ok .nn,{s with st:=s.st.set p.2 (.Fh p.1)},[])) none
end Rn
noncomputable abbrev Kq:String:="Exception.__init__"
section
variable {W:Wd}
theorem IL{A:Around}{s:Shared}{pl:Sem Bool}{E:Value->Shared->Prop}{Q:Value×List Value->Shared->Prop}(K:W.K.In s.heap)(h:Q (.builtin Kq,[]) {s with toks:=s.toks+1}):
  wpAny W.m A (getMethod (.type "Exception") (Str.mk #[95,95,105,110,105,116,95,95]) pl) Q E s:=by
 have L0:Looks W.m s.heap (typeOf (.type "Exception")) (.type "type"):=Looks.of_pure (by first|rfl|kernel_rfl)
 have hg:findIn W.K (.type "type") "__getattribute__"=some (some (.builtin "type.__getattribute__")):=type_tga
 have LO:Looks W.m s.heap (opaqueClassAbove (.type "Exception")) none:=Looks.of_pure (by
  unfold opaqueClassAbove
  dsimp only
  refine rt (show Manifest.isStub "Exception"=false from by decide+kernel) ?_;rfl)
 unfold getMethod specialOf
 refine wpAny_bind (wpAny_bind (L0.here ((looks_findIn K hg).here ?_)))
 dsimp only
 refine rt (if_pos canon_tga ..) ?_
 refine wpAny_bind (wpAny_mono (Q:=λv=>Q (v,[])) (E:=E) ?_ (λuu uu z=>wpAny_pure z) λuu uu z=>z)
 refine cls_open K LO L0 hg (looks_hook K (r:=none) (by rfl)) (by refine(?_:subIn W.K _ _=_);rfl) (r:=.val (.builtin Kq)) (by kernel_rfl) (wpAny_pure ?_)
 refine(?_:wpAny _ _ (handedOut (.builtin Kq)) _ _ _)
 rw[handedOut_of (by decide+kernel)]
 exact wpAny_pure h
variable {prog:Program}{w:World}{A:Around}{h:Heap}{g:Array GenState}{d:Drawn}{t:Nat}{os:OsState}
variable {nm q:Str}{C N:Addr}{bs bm Ps:List Value}{vk:Bool}{sn:List Str}{sub:List Value}{ab:Bool}{col:Option Bool}{dd:Option Addr}{k0 k1 k2 k3 k5:Option Value}{B newId LV Tp:String}
theorem JL(F:ExcBaseFacts B LV Tp Ps)(hB:bm.contains (.type B)=true){M:Model}{e:Addr}{oe:Obj}{rest:List Value}{E:Value->Shared->Prop}{Q:Unit->Shared->Prop}
  (hC:h.get? C=some (excClassObj nm q C N bs bm vk sn sub ab col dd k0 k1 k2 k3 k5 newId)) (he:h.get? e=some oe) (WC:oe.cls=.ref C) (hq:Q () ⟨h,g,d,t,os⟩):
  wpAny M A (checkBuiltinCall Tp ⟨.ref e::rest,[]⟩) Q E ⟨h,g,d,t,os⟩:=by
 have XC:(Value.ref C::bm).contains (.type B)=true:=by rw[List.contains_cons,hB,Bool.or_true]
 have IX:=F.noStar
 simp only [checkBuiltinCall,F.initKind,F.initSplit,F.initRow]
 repeat (first|(with_reducible refine wpAny_loadPart_at he ?_;refine rt WC ?_)|with_reducible refine wpAny_loadPart_at hC ?_|(with_reducible refine wpAny_isSubtype_exc hC ?_;refine rt XC ?_)|wp_step)
 refine wpAny_onRaise ?_
 have any:∀(a b:String) (n:Nat),Bind.check ⟨.positional,"*",B,.self,[⟨"args",.varPos,false⟩]⟩ a b n []=pure ():=λa b n=>check_star_args _ _ _ _ _ _
 refine(?_:wpAny _ _ (Bind.check _ _ _ _ []) _ _ _)
 refine rt (any ..) ?_
 exact wpAny_pure hq
end
section
variable {θ:Th}{X:Hp}{T:Tb}
theorem KL{st:St}{x:SV}{p:Addr×Nat}{G:Prop}(e:Rn.yq st x=some p)(K:x=.ob p.2->st[p.2]?=some (.Fh p.1)->G):G:=obs e λi e1 e=>obs e λo e2 e=>obs e λC e3 e=>by
 replace e:=Option.some.inj e;subst e
 exact K (SV.Bg e1) (AO.PD e3▸e2)
theorem LL{M:Model}{A:Around}{s:Shared}{E:Value->Shared->Prop}{Q:PySem.Fin->Shared->Prop}{a:Addr}{C:Value}{vs:Array Value}{ws:List Value}(g:s.heap.get? a=some ⟨C,none,.fields vs,#[]⟩)(hz:vs.size=6)(hlen:ws.length<=1000)
  (k:Q (.done (.ret .none)) {s with heap:=(s.heap.push {cls:=.type "tuple",data:=.seq ws.toArray}).update a (Obj.mapFields (·.setIfInBounds 0 (.ref s.heap.objs.size)))}):wpAny M A (Builtin.«BaseException.__init__» ⟨.ref a::ws,[]⟩) Q E s:=by
 unfold Builtin.«BaseException.__init__»
 dsimp only
 rw[if_neg (by simp)]
 unfold PySem.newTuple Builtin.BaseException.bexcPut
 have g1:=Heap.get?_push_of_some (h:=s.heap) {cls:=.type "tuple",data:=.seq ws.toArray} g
 refine wpAny_bind (wpAny_newObj_type (wpAny_bind (wpAny_bind (wpAny_field g1 rfl (Array.getElem?_eq_getElem (by lia)) (wpAny_bind (wpAny_setField g1 rfl (by lia) ?_))))) (by refine(?_:ws.toArray.size<=sizeLine);refine rt (List.size_toArray ..) (rt (sizeLine_eq ..) ?_);lia))
 split
 ·exact wpAny_letGo (wpAny_pure k)
 ·exact wpAny_pure (wpAny_pure k)
theorem So.ou(ok:θ.W.Ok)(hT:∀C f,T.pe C=some f->nu θ.W C f){x:SV}{rest:List SV}{v:Value}{ws:List Value}(hX:∀a h,X a h->V θ.W a h x v/\Vs θ.W a h rest ws):
  So θ X (Rv θ.W) (Rn.ou T x rest) (λuu=>PySem.call (.builtin Kq) (v::ws)):=λΓ ad sx s M q=>aa.Ea λp hp=>aa.Ea λf hf=>aa.yb λhl=>aa.ok<|by
 refine KL hp λex es=>?_
 have q1:=(hX _ _ q).1
 have q2:=(hX _ _ q).2
 replace q1:=ex▸q1
 refine M.r.on es (λz=>nomatch z) q1 λa ob hv ea g zz=>zz.elim λvs z=>?_
 refine rt hv ?_
 replace g:=z.1▸g
 obtain⟨nm,q,N,bs,bm,vk,sn,sub,ab,col,dd,k0,k1,k2,k3,k5,y1,y2,y3,y4⟩:=(hT _ _ hf).cl
 have hlen:ws.length<=1000:=by refine rt (q2.length ..) ?_;exact Nat.le_of_ble_eq_true hl
 obtain⟨hp,gs,YC,t,os⟩:=s
 refine wpAny_call (codeAny_call_builtin PySem.F.excBase_Exception.init.plain PySem.F.excBase_Exception.initEntry (JL PySem.F.excBase_Exception y2 (M.ib _ _ y1) g rfl (LL g z.2.1 hlen ?_)))
 refine Po.casesOn (M.Ae ok {cls:=.type "tuple",data:=.seq ws.toArray} t (Y:=λad h=>ad[p.2]?=some a/\h.get? a=some ⟨.ref p.1,none,.fields vs,#[]⟩) ⟨ea,Heap.get?_push_of_some _ g⟩) λja c1 M1 y=>?_
 refine⟨.nn,rfl,(M1.Rb ok y.1 (.update ..) t (ao:=.Fh p.1) ⟨_,Heap.get?_update_self _ y.2 rfl,_,rfl,?_,?_,?_⟩ rfl).Pa c1⟩
 ·exact(Array.size_setIfInBounds).trans z.2.1
 ·exact(Array.getElem?_setIfInBounds_ne (by decide)).trans z.2.2.1
 ·exact(Array.getElem?_setIfInBounds_ne (by decide)).trans z.2.2.2
end
end
section
variable {kz:Nat}
structure EE(W:Wd)(C:Addr)(name:Str)(f:Addr):Prop where
 ga:findIn W.K (.ref C) "__getattribute__"=some (some (.builtin "object.__getattribute__"))
 gg:findIn W.K (.ref C) "__getattr__"=some none
 fd:findIn W.K (.ref C) name=some (some (.ref f))
 ty:typeIn W.K (.ref f)=some (.type "function")
 kp:keepIn W.K (.ref f)=true
structure FE(W:Wd)(C:Addr)(name:Str)(f:Addr):Prop where
 sp:specialIn W.K (.ref C) "__getattribute__"=some (some (.builtin "type.__getattribute__"))
 rd:∃mc,readsIn W.K C mc=true/\findCls W.K (.ref C) mc name=some (.val (.ref f))
 kp:keepIn W.K (.ref f)=true
theorem ML:("append":Str)=Str.mk #[97,112,112,101,110,100]:=by decide+kernel
theorem GE:("pop":Str)=Str.mk #[112,111,112]:=by decide+kernel
theorem NL:("extend":Str)=Str.mk #[101,120,116,101,110,100]:=by decide+kernel
theorem OL:("get":Str)=Str.mk #[103,101,116]:=by decide+kernel
noncomputable def Xn:SV->Value
 |.tp a=>.ref a
 |.ty t=>.type t.nm
 |_=>.none
noncomputable def Ci:Nat->String
 |0=>"int"
 |1=>"str"
 |_=>"NoneType"
structure HE(W:Wd)(C:Addr)(c:SV)(b:Bool):Prop where
 pg:plainGet W.K C "__class__"=true
 hd:hasDictIn W.K C=true
 fc:findIn W.K (.ref C) "__class__"=some (some (.builtin "object.__class__"))
 gd:specialIn W.K (.builtin "object.__class__") "__get__"=some (some (.builtin "getset_descriptor.__get__"))
 tk:takesIn W.K (.builtin "object.__class__")=some true
 mo:mroIn W.K C (.type "object")=some true
 an:kitOne W.K (.ref C) (Xn c)=some b
structure Ny(W:Wd)(C f:Addr):Prop where
 PL:makesIn W.K C=true
 My:findIn W.K (.ref C) "__init__"=some (some (.ref f))
 kp:keepIn W.K (.ref f)=true
 fn:isFn W.K (.ref f)=true
structure ru(W:Wd)(C:Addr):Prop where
 at_:∀h x d,W.K.In h->h.get? x=some (instObj C d)->h.CmpInst x C [.type "object"]
structure Oy(W:Wd)(C:Addr):Prop where
 be:mroIn W.K C (.type "BaseException")=some true
 ty:typeIn W.K (.ref C)=some (.type "type")
structure Py(W:Wd)(c P:Addr):Prop where
 at_:∀h,W.K.In h->CodeHd h c P/\∃mg,h.Ns mainGlobals mg/\h.BuiltinsAt mg P
 ne:mainGlobals≠P
structure Qy(W:Wd)(a:Addr)(n:Str)(x:SV):Prop where
 at_:∃w,GV W x w/\∀(A:Around) (s:Shared) (Q E:Value->Shared->Prop) (ex:Bool),W.K.In s.heap->(∀t,Q w {s with toks:=t})->wpAny W.m A (PySem.getAttr (.ref a) n ex) Q E s
def IE(W:Wd)(x:SV):Prop:=x=.nn\/∃a C,x=.tp a/\∀h,W.K.In h->h.CmpInst a C [.type "object"]
structure lb(W:Wd)(T:Tb):Prop where
 jf:∀C n,T.jf C n=true->vq W C n
 kf:∀C n,T.kf C n=true->Gn W C n
 gl:∀x g,T.gl x=some g->Jt W x g
 fn:∀f fi,T.fn f=some fi->Kk W f fi
 me:∀C n f,T.me C n=some f->EE W C n f
 cf:∀C n f,T.cf C n=some f->FE W C n f
 sd:∀a k g,T.sd a k=some g->Fk W a k g
 kp:∀a,T.kp a=true->keepIn W.K (.ref a)=true
 We:∀C c b,T.We C c=some b->HE W C c b
 Ih:∀k c b,T.Ih k c=some b->kitOne W.K (.type (Ci k)) (Xn c)=some b
 xm:∀C c b,T.xm C c=some b->exmOne W.K (.ref C) (Xn c)=some b
 zg:∀C f,T.zg C=some f->Ny W C f
 pe:∀C f,T.pe C=some f->nu W C f
 cp:∀C,T.cp C=true->ru W C
 xr:∀C,T.xr C=true->Oy W C
 ct:∀c P,T.ct c=some P->Py W c P
 ka:∀a n x,T.ka a n=some x->Qy W a n x
 cq:∀x,T.cq x->IE W x
namespace Rn
noncomputable def JE(e:PySem.Expr):Bool:=!Nat.beq e.ctorIdx 16
noncomputable def Ry:List (Str×Mb):=[(Str.mk #[97,112,112,101,110,100],.append),(Str.mk #[112,111,112],.Id),(Str.mk #[101,120,116,101,110,100],.Gk)]
noncomputable def Sy:List (Str×Mb):=[(Str.mk #[103,101,116],.Wt),(Str.mk #[112,111,112],.Xt)]
noncomputable def su(o:AO):Bool:=Nat.beq o.ctorIdx 3||Nat.beq o.ctorIdx 12
noncomputable def vu(o:AO):Bool:=Nat.beq o.ctorIdx 2||(Nat.beq o.ctorIdx 4||(Nat.beq o.ctorIdx 5||(Nat.beq o.ctorIdx 13||Nat.beq o.ctorIdx 14)))
noncomputable def KE(name:Str)(o:AO):Option Mb:=cond (su o) (Jc Oa name Ry) (cond (vu o) (Jc Oa name Sy) none)
inductive Mq where
 |fn (f:Addr) (self:Bool)
 |mb (m:Mb)
 |xi
noncomputable def QL(T:Tb)(name:Str)(st:St)(o:AO):Option Mq:=match o.wq with
 |some p=>(Jn st p.2).bind λfs=>cond (lk name fs).isSome none ((T.me p.1 name).bind λf=>some (.fn f true))
 |none=>(KE name o).bind λm=>some (.mb m)
noncomputable def calleeOf(T:Tb)(x:SV)(name:Str):Rn Mq:=get λs=>match x with
 |.tp C=>(T.cf C name).bind λf=>some (.fn f false)
 |.ty t=>cond (decide (t=.Wc)&&Oa name (Str.mk #[95,95,105,110,105,116,95,95])) (some .xi) none
 |.ob n=>(s.st[n]?).bind (QL T name s.st)
 |_=>none
noncomputable def Di:List PySem.Expr->Bool
 |[]=>true
 |e::r=>cond (gj e) false (Di r)
noncomputable def RL(o:Ka)(T:Tb)(c:Cx)(D:Nat)(pos:Pos)(args:List PySem.Expr)(x:SV):Mq->Rn SV
 |.fn f b=>Ke o c D args>>=λvs=>o.ca c.hn D pos (.tp f) (cond b (x::vs) vs)
 |.mb m=>Ke o c D args>>=du pos m x
 |.xi=>Ke o c D args>>=λvs=>match vs with
  |y::rest=>ou T y rest
  |[]=>qa
noncomputable def wu(o:Ka)(T:Tb)(c:Cx)(D:Nat)(ob:PySem.Expr)(name:Str)(apos pos:Pos)(args:List PySem.Expr):Rn SV:=
 cond (JE ob&&(Nat.beq apos.endLine pos.line&&(Nat.blt args.length 29&&Di args))) (o.ev c D ob>>=λx=>calleeOf T x name>>=RL o T c D pos args x) qa
end Rn
theorem Uy{K V:Type}{eq:K->K->Bool}(he:Hh eq){x:K}{v:V}:∀{l:List (K×V)},Jc eq x l=some v->(x,v)∈l
 |[],e=>Fa e
 |p::r,e=>by
  have e:cond (eq p.1 x) (some p.2) (Jc eq x r)=some v:=e
  revert e
  rcases h:eq p.1 x with _|_
  ·exact λe=>List.mem_cons_of_mem _ (Uy he e)
  exact λe=>by refine rl (Option.some.inj e ..) (rl ((he _ _).mp h ..) ?_);exact List.mem_cons_self ..
def LE(T:String)(p:Str×Mb):Prop:=Slot T p.1 p.2.id/\typeOf (.builtin p.2.id)=Pure.pure (.type "method_descriptor")
theorem SL{p:Str×Mb}(m:p∈Rn.Ry):LE "list" p:=by
 cases m with
 |head=>exact⟨ML▸F.slot_list_append,F.type_list_append⟩
 |tail _ m=>cases m with
  |head=>exact⟨GE▸F.slot_list_pop,F.type_list_pop⟩
  |tail _ m=>cases m with
   |head=>exact⟨NL▸F.slot_list_extend,F.type_list_extend⟩
   |tail _ m=>exact nomatch m
theorem UL{p:Str×Mb}(m:p∈Rn.Sy):LE "dict" p:=by
 cases m with
 |head=>exact⟨OL▸F.slot_dict_get,F.type_dict_get⟩
 |tail _ m=>cases m with
  |head=>exact⟨GE▸F.slot_dict_pop,F.type_dict_pop⟩
  |tail _ m=>exact nomatch m
theorem Oc.dm{W:Wd}{ad:List Addr}{h:Heap}{a:Addr}{o:Obj}{ao:AO}(hd:Rn.su ao=true)(q:Oc W ad h a o ao):o.dict=none/\o.cls=.type "list":=by
 have f:∀{P},Vf P o->o.dict=none/\o.cls=.type "list":=λq=>q.elim λuu q=>q.elim λuu q=>q.1▸⟨rfl,rfl⟩
 induction ao using AO.casesOn<;>first|exact ft hd|exact f q|exact f q.2.2
theorem Oc.yt{W:Wd}{ad:List Addr}{h:Heap}{a:Addr}{o:Obj}{ao:AO}(hd:Rn.vu ao=true)(q:Oc W ad h a o ao):o.dict=none/\o.cls=.type "dict":=by
 have Fs:∀{K:Type} {kv:K->Tok->Value} {hs fs},rc W ad h kv hs fs o->o.dict=none/\o.cls=.type "dict":=λq=>q.elim λuu q=>q.elim λuu q=>q.1▸⟨rfl,rfl⟩
 have dp:∀{k P},Rc W ad h k P o->o.dict=none/\o.cls=.type "dict":=λq=>by induction q using Rc.casesOn;exact⟨rfl,rfl⟩
 have d0:(∃ep,o=dictOf [] ep)->o.dict=none/\o.cls=.type "dict":=λq=>q.elim λuu q=>q▸⟨rfl,rfl⟩
 induction ao using AO.casesOn with
 |dp k e=>
  rcases e with _|y
  ·exact d0 q
  exact dp q
 |dq k y=>exact q.elim (λq=>d0 q.1) dp
 |_=>first|exact ft hd|exact Fs q
section
variable {θ:Th}{X:Hp}{T:Tb}{o:Ka}
def ME(W:Wd)(ov:Value):Rn.Mq->Value×List Value->Hp:=λNx p uu uu=>match Nx with
 |.fn f b=>p=(.ref f,cond b [ov] [])/\keepIn W.K (.ref f)=true
 |.mb m=>p=(.builtin m.id,[ov])
 |.xi=>p=(.builtin Kq,[])
theorem VL{A:Around}{s:Shared}{E:Value->Shared->Prop}{Q:Value×List Value->Shared->Prop}{name:Str}{a:Addr}{ob:Obj}{ao:AO}{m:Mb}{pl:Sem Bool}{ad:List Addr}(g:s.heap.get? a=some ob)(z:Oc θ.W ad s.heap a ob ao)(e:Rn.KE name ao=some m)(k:Q (.builtin m.id,[.ref a]) s):wpAny θ.W.m A (getMethod (.ref a) name pl) Q E s:=by
 have e:cond (Rn.su ao) (Jc Oa name Rn.Ry) (cond (Rn.vu ao) (Jc Oa name Rn.Sy) none)=some m:=e
 revert e
 rcases h:Rn.su ao with _|_
 ·rcases h:Rn.vu ao with _|_
  ·exact Fa
  exact λe=>have y:=UL (Uy Zg e);getMethod_builtin (T:="dict") ⟨ob,g,(z.yt h).2⟩ F.plainAttrs_dict y.1 y.2 (λb e=>by cases e;exact⟨ob,g,(z.yt h).1⟩) k
 exact λe=>have y:=SL (Uy Zg e);getMethod_builtin (T:="list") ⟨ob,g,(z.dm h).2⟩ F.plainAttrs_list y.1 y.2 (λb e=>by cases e;exact⟨ob,g,(z.dm h).1⟩) k
theorem So.calleeOf(hT:lb θ.W T){x:SV}{name:Str}{ov:Value}{pl:PySem.Env->Sem Bool}(hX:∀a h,X a h->V θ.W a h x ov):So θ X (ME θ.W ov) (Rn.calleeOf T x name) (λenv=>getMethod ov name (pl env)):=So.get λΓ ad sx s b M q e Q E k=>by
 have q:=hX _ _ q
 induction x using SV.casesOn with
 |tp C=>
  exact obs e λf e1 e2=>by
   subst q
   replace e2:=Option.some.inj e2;subst e2
   have z:=hT.cf _ _ _ e1
   exact z.rd.elim λmc z1=>method_cls M.ib z.sp (cls_value M.ib z1.1 z1.2 rfl (k _ ⟨rfl,z.kp⟩ _))
 |ty t=>
  have e:cond (decide (t=.Wc)&&Oa name _) _ none=some b:=e
  revert e
  rcases hn:decide (t=.Wc)&&Oa name (Str.mk #[95,95,105,110,105,116,95,95]) with _|_
  ·exact Fa
  intro e
  have hn:=(Bool.and_eq_true _ _).mp hn
  cases e
  refine rt (show ov=_ from q) (rt (of_decide_eq_true hn.1 ..) (rt (Je.mp hn.2 ..) ?_))
  exact IL M.ib (k _ rfl _)
 |ob n=>
  refine obs e λo eo e=>?_
  have e:(match o.wq with|some p=>_|none=>_)=some b:=e
  revert e
  rcases hi:o.wq with _|p
  ·refine λe=>obs e λm e1 e2=>M.r.on eo (λz=>by replace e1:=z▸e1;exact Fa e1) q λa ob hv uu g z=>?_
   subst hv
   exact VL g z e1 (k _ (by replace e2:=Option.some.inj e2;subst e2;exact rfl) s.toks)
  refine λe=>obs e λfs ef e=>?_
  revert e
  rcases hn:lk name fs with _|_
  ·exact λe=>obs e λf e1 e2=>M.ins (x:=.ob n) (show(sx.st[n]?).bind AO.wq=some p by refine rt eo ?_;exact hi) ef q λa da ox es n hv ed I hd JX hE uu=>by
    replace e2:=Option.some.inj e2;subst e2
    have z:=hT.me _ _ _ e1
    refine rt hv ?_
    refine method_fn M.ib I z.ga z.gg z.fd z.ty ?_ (k _ ⟨by refine hv.symm▸?_;rfl,z.kp⟩ s.toks)
    unfold shadowIn
    dsimp only
    have:=hE.get (name:=name)
    replace this:=hn▸this
    refine rt (lookIn_dict ..) (rt (this ..) ?_)
    rfl
  exact Fa
 |_=>exact Fa e
theorem xu:∀{l:List PySem.Expr} (_:Rn.Di l=true) {p:Pos} {env:PySem.Env},(backTo p (starEach l env)).any (·.1)=false
 |[],_,_,_=>rfl
 |e::r,h,p,env=>by
  have h:cond (Rn.gj e) false (Rn.Di r)=true:=h
  revert h
  rcases hs:Rn.gj e with _|_
  ·exact λh=>by refine rt (sE hs ..) ?_;exact xu (l:=r) h
  exact ft
theorem WL{M:Model}{A:Around}{E:Value->Shared->Prop}{s:Shared}{f:Value}{l:List (Bool×Sem Value)}{Q:Args->Shared->Prop}(hl:l.any (·.1)=false)(h:wpAny M A (spliced l) (λvs s'=>Q ⟨vs,[]⟩ s') E s):wpAny M A (evalArgs f true l []) Q E s:=by
 rcases l with _|⟨x,r⟩
 ·unfold evalArgs
  refine wpAny_bind (m:=spliced []) (wpAny_mono h (λvs s' h'=>?_) λuu uu x=>x)
  exact wpAny_bind (wpAny_pure (wpAny_holding (wpAny_bind (wpAny_pure (wpAny_bind (wpAny_pure (wpAny_pure h')))))))
 obtain⟨b,t⟩:=x
 rcases b with _|_
 ·exact evalArgs_plain h
 exact nomatch hl
theorem So.yu(H:o.Ok θ.W)(hX:Da θ.W.mv X){f:Value}{first:List Value}{pos:Pos}{args:List PySem.Expr}(hp:Rn.Di args=true){P:Heap->Prop}(hk:∀h,P h->∃k,(k=Keeper.frame\/k=Keeper.machine\/k=Keeper.boundFrame)/\Looks θ.W.m h (keeperOf f) k)
  {m:List SV->Rn SV} (K:∀vs ws Γ ad sx s,Ms θ Γ ad sx s->X ad s.heap/\Vs θ.W ad s.heap vs ws->aa (m vs sx) λo ra=>P s.heap/\wpAny θ.W.m Γ.A (PySem.call f (first++ws)) (Qo θ Γ ad s (Rv θ.W) o ra) (Eo θ Γ ad s o ra) s):
  So θ X (Rv θ.W) (Rn.Ke o θ.c θ.D args>>=m) (λenv=>PySem.callWith pos f first (backTo pos (starEach args env)) []):=λΓ ad sx s M x=>
 (Gl.use (So.Ke H (p:=pos) hX Γ ad sx s M x) .refl (Q:=λo ra vs s'=>P s'.heap/\wpAny θ.W.m Γ.A (PySem.call f (first++vs)) (Qo θ Γ ad s (Rv θ.W) o ra) (Eo θ Γ ad s o ra) s') λvs xa ws ya s2 c uu M2 q=>
  (K vs ws Γ ya xa s2 M2 ⟨c.Ba M hX x,q⟩).Ba λuu uu h=>⟨h.1,wpAny_mono h.2 (λuu uu ⟨b,z,p⟩=>⟨b,z,p.Pa c⟩) λuu uu ⟨b,z,p⟩=>⟨b,z,p.Pa c⟩⟩).Ba λuu uu h=>callWith_of (by refine rt (xu hp ..) ?_;rfl) hk (WL (xu hp) h)
theorem So.callWith(H:o.Ok θ.W)(hX:Da θ.W.mv X){f:Value}{first:List Value}{pos:Pos}{args:List PySem.Expr}(hp:Rn.Di args=true)(hk:keepIn θ.W.K f=true)
  {m:List SV->Rn SV} (K:∀vs ws,So θ (λa h=>X a h/\Vs θ.W a h vs ws) (Rv θ.W) (m vs) (λuu=>PySem.call f (first++ws))):
  So θ X (Rv θ.W) (Rn.Ke o θ.c θ.D args>>=m) (λenv=>PySem.callWith pos f first (backTo pos (starEach args env)) []):=So.yu H hX hp (P:=θ.W.K.In) (keeps_K hk) λvs ws Γ ad sx s M x=>(K vs ws Γ ad sx s M x).Ba λuu uu h=>⟨M.ib,h⟩
theorem So.Vy(H:o.Ok θ.W)(hX:Da θ.W.mv X){f:String}{first:List Value}{pos:Pos}{args:List PySem.Expr}(hp:Rn.Di args=true)
  {m:List SV->Rn SV} (K:∀vs ws,So θ (λa h=>X a h/\Vs θ.W a h vs ws) (Rv θ.W) (m vs) (λuu=>PySem.call (.builtin f) (first++ws))):
  So θ X (Rv θ.W) (Rn.Ke o θ.c θ.D args>>=m) (λenv=>PySem.callWith pos (.builtin f) first (backTo pos (starEach args env)) []):=So.yu H hX hp (P:=λuu=>True) (λuu uu=>⟨.machine,.inr (.inl rfl),.now⟩) λvs ws Γ ad sx s M x=>(K vs ws Γ ad sx s M x).Ba λuu uu h=>⟨trivial,h⟩
theorem YL{l:List PySem.Expr}(h:Rn.Di l=true){p:Pos}{env:PySem.Env}:(backTo p (starEach l env)).all (!·.1)=true:=by
 refine rl (List.not_any_eq_all_not ..) (rt (xu h ..) ?_);rfl
theorem ZL{ob:PySem.Expr}{name:Str}{apos pos:Pos}{args:List PySem.Expr}(h1:Rn.JE ob=true)(h2:Nat.beq apos.endLine pos.line=true)(h3:Nat.blt args.length 29=true)(h4:Rn.Di args=true)(env:PySem.Env):
  eval (.Call (.Attribute ob name apos) args [] pos) env=(do
   let ov <-eval ob env
   standAt apos.atName
   let(f,first) <-PySem.holding [ov] (getMethod ov name (do return(<-importBound ob env).getD true))
   PySem.callWith pos f first (backTo pos (starEach args env)) []):=by
 have h2:(apos.endLine==pos.line)=true:=by refine rt (Nat.eq_of_beq_eq_true h2 ..) ?_;exact beq_self_eq_true _
 have hb:attributeBase ob name env (eval ob env)=eval ob env:=by
  induction ob using Expr.casesOn<;>first|rfl|exact ft h1
 have hf:methodCallForm (args.length+([]:List Keyword).length) (backTo pos (starEach args env)) (backToKw pos (keywordEach [] env))=true:=by
  refine(?_:((backTo pos (starEach args env)).all (!·.1)&&true&&decide (args.length+0+0<30))=true)
  refine rt (YL h4 ..) ?_
  exact decide_eq_true (Nat.lt_succ_of_lt (Nat.le_of_ble_eq_true h3))
 have hq:methodCallPos true ob env apos pos=Pure.pure pos:=if_pos h2
 refine rt (arm_eval_Call ..) (rt (hb ..) ?_)
 unfold methodCall
 refine rt hf (rt hq ?_)
 rfl
theorem So.wu(ok:θ.W.Ok)(hT:lb θ.W T)(H:o.Ok θ.W)(hX:Da θ.W.mv X){ob:PySem.Expr}{name:Str}{apos pos:Pos}{args:List PySem.Expr}:So θ X (Rv θ.W) (Rn.wu o T θ.c θ.D ob name apos pos args) (λenv=>eval (.Call (.Attribute ob name apos) args [] pos) env):=So.yb λhc=>by
 have c1:=(Bool.and_eq_true _ _).mp hc
 have c2:=(Bool.and_eq_true _ _).mp c1.2
 have c3:=(Bool.and_eq_true _ _).mp c2.2
 have hp:=c3.2
 refine So.Nb (ZL c1.1 c2.1 c3.1 hp) (So.bind hX (H.Sb ob hX) λx ov=>So.Jb ?_)
 have hY:Da θ.W.mv λa h=>X a h/\Rv θ.W x ov a h:=hX.V'
 refine So.bind hY (So.holding (So.calleeOf hT λa h z=>z.2)) λNx p=>So.ye (P:=ME θ.W ov Nx p [] {}) (λa h z=>z.2) λz1=>So.Xx ?_ λa h z=>z.1
 induction Nx using Rn.Mq.casesOn with
 |fn f b=>
  refine rt z1.1 ?_
  exact So.callWith H hY hp z1.2 λvs ws=>So.call ok (λsx=>H.ca θ.c.hn θ.D pos (.tp f) (cond b (x::vs) vs) sx) λa h z=>⟨rfl,by induction b using Bool.casesOn with
   |true=>exact⟨ov,ws,z.1.2,z.2⟩
   |false=>exact z.2⟩
 |mb m=>
  refine rt (show p=_ from z1) ?_
  exact So.Vy H hY hp λvs ws=>So.du ok λa h z=>⟨z.1.2,z.2⟩
 |xi=>
  refine rt (show p=_ from z1) ?_
  refine So.Vy H hY hp λvs ws=>?_
  rcases vs with _|⟨y,rest⟩
  ·exact So.qa
  refine So.ye (P:=∃v r,ws=v::r) (λa h z=>by induction(z.2:Ta ..) using Ta.casesOn with|mk v r _ _=>exact⟨v,r,rfl⟩) λe=>e.elim λv e=>e.elim λr e=>?_
  refine rt e ?_
  exact So.ou ok hT.pe λa h z=>by cases(z.2:Ta ..) with|mk v r q1 q2=>exact⟨q1,q2⟩
end
end
section
variable {kz:Nat}
inductive Tg where
 |name (x:Str)
 |pi (ob:PySem.Expr) (a:Str) (p:Pos)
 |sub (ob i:PySem.Expr) (p:Pos)
noncomputable def Tg.ctorIdx(x:Tg):Nat:=x.casesOn (λ_=>0) (λ_ _ _=>1) (λ_ _ _=>2)
noncomputable def tg:PySem.Expr->Option Tg
 |.Name x _=>some (.name x)
 |.Attribute ob a p=>some (.pi ob a p)
 |.Subscript ob i p=>some (.sub ob i p)
 |_=>none
theorem Nq{P:PySem.Expr->Tg->Prop}{t:PySem.Expr}{g:Tg}(e:tg t=some g)(h1:∀x p,P (.Name x p) (.name x))(h2:∀ob a p,P (.Attribute ob a p) (.pi ob a p))(h3:∀ob i p,P (.Subscript ob i p) (.sub ob i p)):P t g:=by
 induction t using PySem.Expr.casesOn with
 |Name x p=>cases e;exact h1 x p
 |Attribute ob a p=>cases e;exact h2 ob a p
 |Subscript ob i p=>cases e;exact h3 ob i p
 |_=>exact Fa e
namespace Rn
noncomputable def qm(e:PySem.Expr):Bool:=Nat.blt 7 e.ctorIdx&&Nat.blt e.ctorIdx 11
noncomputable def aM(e:PySem.Expr):Bool:=Nat.beq e.ctorIdx 26
noncomputable def Ye(o:Ka)(c:Cx)(D:Nat)(e:PySem.Expr):Rn Fl:=cond (bh c.scope.kind&&!qm e) (o.ev c D e>>=λuu=>Pure.pure .next) qa
noncomputable def zu(o:Ka)(c:Cx)(D:Nat):Option PySem.Expr->Rn Fl
 |none=>Pure.pure (.ret .nn)
 |some e=>o.ev c D e>>=λv=>Pure.pure (.ret v)
noncomputable def Tc(o:Ka)(c:Cx)(D:Nat)(t:PySem.Expr)(b r:List Stmt):Rn Fl:=o.ts c D t>>=λq=>cond q (o.ex c D b) (o.ex c D r)
noncomputable def rm(o:Ka)(T:Tb)(c:Cx)(D:Nat)(v:SV):Tg->Rn Unit
 |.name x=>Kd c x v
 |.pi ob a _=>o.ev c D ob>>=λx=>setAttr T x a v
 |.sub ob i _=>o.ev c D ob>>=λx=>o.ev c D i>>=λk=>Un x k v
noncomputable def tm(o:Ka)(T:Tb)(c:Cx)(D:Nat)(t:PySem.Expr)(v:SV):Rn Unit:=Ea (tg t)>>=rm o T c D v
noncomputable def Oq(t:PySem.Expr):Bool:=(tg t).isSome
noncomputable def Yn(o:Ka)(T:Tb)(c:Cx)(D:Nat)(t v:PySem.Expr):Rn Fl:=cond (qm v) qa (Ea (tg t)>>=λg=>o.ev c D v>>=λx=>rm o T c D x g>>=λuu=>Pure.pure .next)
noncomputable def NE(o:Ka)(T:Tb)(c:Cx)(D:Nat)(op:Operator)(v:PySem.Expr):Tg->Rn Fl
 |.name x=>loadName T c x>>=λa=>o.ev c D v>>=λb=>Ak op a b>>=λr=>Kd c x r>>=λuu=>Pure.pure .next
 |.pi ob at_ _=>o.ev c D ob>>=λx=>(getAttr T x at_>>=λa=>o.ev c D v>>=λb=>Ak op a b)>>=λr=>setAttr T x at_ r>>=λuu=>Pure.pure .next
 |.sub ob i p=>cond (aM i) qa (o.ev c D ob>>=λx=>o.ev c D i>>=λk=>(item T p x k>>=λa=>o.ev c D v>>=λb=>Ak op a b)>>=λr=>Un x k r>>=λuu=>Pure.pure .next)
noncomputable def Au(o:Ka)(T:Tb)(c:Cx)(D:Nat)(t:PySem.Expr)(op:Operator)(v:PySem.Expr):Rn Fl:=Ea (tg t)>>=NE o T c D op v
end Rn
section
variable {θ:Th}{X Y:Hp}{T:Tb}{o:Ka}{A:Around}{s:Shared}{E:Value->Shared->Prop}
theorem Xy{v:PySem.Expr}(h:Rn.qm v=false)(t:Option PySem.Expr)(l:Nat)(env:PySem.Env):swapsWith v t l env=Pure.pure false:=by
 induction v using Expr.casesOn<;>first|rfl|exact ft h.symm
theorem So.next:So θ X (Fv θ.W) (Pure.pure Fl.next) (λuu=>Pure.pure Flow.next):=So.pure λuu uu uu=>rfl
theorem So.then{α β γ:Type}{rep:β->α->Hp}{Ol:γ->Unit->Hp}(hX:Da θ.W.mv X){m:Rn γ}{k:Rn β}{t:PySem.Env->Sem Unit}{u:PySem.Env->Sem α}(H:So θ X Ol m t)(K:So θ X rep k u):So θ X rep (m>>=λuu=>k) (λenv=>t env>>=λuu=>u env):=
 So.bind hX H λuu uu=>K.Xx λuu uu x=>x.1
theorem So.OE{vs l:List Value}{m:Rn Unit}{t:PySem.Env->Sem Unit}(H:So θ X Uv m t):So θ X Uv m (λenv=>t env>>=λuu=>release vs l):=λΓ ad sx s M x=>(H Γ ad sx s M x).Ba λo ra h=>wpAny_bind (wpAny_mono h (λuu uu z=>uD z) λuu uu z=>z)
theorem So.Zn{α:Type}{vs l:List Value}(hX:Da θ.W.mv X){rep:Unit->α->Hp}{m:Rn Unit}{t:PySem.Env->Sem α}(H:So θ X rep m t):So θ X (Fv θ.W) (m>>=λuu=>Pure.pure Fl.next) (λenv=>t env>>=λuu=>release vs l>>=λuu=>Pure.pure Flow.next):=
 So.bind hX H λuu uu=>So.Cc λΓ ad sx s M q Q E k=>wpAny_bind (uD (wpAny_pure (k _ rfl s.toks)))
theorem Yy{α β:Type}{rep:β->α->Hp}{t:PySem.Env->Sem α}{b:Bool}{m:Rn β}(K:b=false->So θ X rep m t):So θ X rep (cond b Rn.qa m) t:=by
 rcases b with _|_
 ·exact K rfl
 exact So.qa
theorem So.Ye(H:o.Ok θ.W)(hX:Da θ.W.mv X){e:PySem.Expr}{p:Pos}:So θ X (Fv θ.W) (Rn.Ye o θ.c θ.D e) (λenv=>exec (.Expr e p) env):=So.yb λhc=>by
 have hc:=(Bool.and_eq_true _ _).mp hc
 refine So.zt (t:=λenv=>standAt p>>=λuu=>eval e env>>=λv=>dropValue e p v) (So.Jb (So.bind hX (H.Sb e hX) λb v=>So.Cc λΓ ad sx s M q Q E k=>wpAny_dropValue (k .next rfl s.toks))) λenv he=>?_
 have hn:Rn.qm e=false:=by simpa using hc.2
 have hi:interactive env=false:=by
  unfold interactive
  refine rl he ?_
  induction hk:θ.c.scope.kind using ScopeKind.casesOn<;>first|rfl|exact ft (by replace hc:=hk▸hc;exact hc.1)
 refine rt (arm_exec_Expr ..) (rt (Xy hn ..) (rt (hi ..) ?_))
 rfl
theorem So.zu(H:o.Ok θ.W)(hX:Da θ.W.mv X){e:Option PySem.Expr}{p:Pos}:So θ X (Fv θ.W) (Rn.zu o θ.c θ.D e) (λenv=>exec (.Return e p) env):=by
 rcases e with _|e
 ·exact So.Nb (λenv=>arm_exec_Return none p env) (So.Jb (So.pure (b:=Fl.ret .nn) (v:=Flow.ret .none) λa h x=>⟨_,rfl,rfl⟩))
 exact So.Nb (λenv=>arm_exec_Return (some e) p env) (So.Jb (So.bind hX (H.Sb e hX) λb v=>So.pure (b:=Fl.ret b) (v:=Flow.ret v) λa h x=>⟨_,rfl,x.2⟩))
theorem So.Tc(H:o.Ok θ.W)(hX:Da θ.W.mv X){t:PySem.Expr}{b r:List Stmt}{p:Pos}:So θ X (Fv θ.W) (Rn.Tc o θ.c θ.D t b r) (λenv=>exec (.If t b r p) env):=
 So.Nb (λenv=>arm_exec_If t b r p env) (So.Jb (So.nq hX (H.Vn t hX) λq=>by
  induction q using Bool.casesOn with
  |true=>exact H.lm b hX
  |false=>exact H.lm r hX))
theorem So.rm(ok:θ.W.Ok)(hT:lb θ.W T)(H:o.Ok θ.W)(hX:Da θ.W.mv X){t:PySem.Expr}{g:Tg}(e:tg t=some g){v:SV}{w:Value}(q:∀a h,X a h->V θ.W a h v w):So θ X Uv (Rn.rm o T θ.c θ.D v g) (λenv=>assign t env w):=by
 refine Nq (P:=λt g=>So θ X Uv (Rn.rm o T θ.c θ.D v g) (λenv=>assign t env w)) e (λx p=>?_) (λob a p=>?_) λob i p=>?_
 ·exact So.Nb (λenv=>arm_assign_Name _ _ env w) (So.Jb (So.bindName ok q))
 ·exact So.Nb (λenv=>arm_assign_Attribute _ _ _ env w) (So.bind hX (So.holding (H.Sb ob hX)) λx ov=>So.Jb (So.OE (So.holding (So.setAttr ok hT.kf λa h z=>⟨z.2,q _ _ z.1⟩))))
 ·exact So.Nb (λenv=>arm_assign_Subscript _ _ _ env w) (So.bind hX (So.holding (H.Sb ob hX)) λx ov=>So.bind hX.V' (So.holding (H.Sb i hX.V')) λk kv=>So.Jb (So.OE (So.holding (So.Un ok λa h z=>⟨z.1.2,z.2,q _ _ z.1.1⟩))))
theorem So.tm(ok:θ.W.Ok)(hT:lb θ.W T)(H:o.Ok θ.W)(hX:Da θ.W.mv X){t:PySem.Expr}{v:SV}{w:Value}(q:∀a h,X a h->V θ.W a h v w):So θ X Uv (Rn.tm o T θ.c θ.D t v) (λenv=>assign t env w):=So.Ea λuu e=>So.rm ok hT H hX e q
theorem So.Yn(ok:θ.W.Ok)(hT:lb θ.W T)(H:o.Ok θ.W)(hX:Da θ.W.mv X){t v:PySem.Expr}{p:Pos}:So θ X (Fv θ.W) (Rn.Yn o T θ.c θ.D t v) (λenv=>exec (.Assign [t] v p) env):=by
 unfold Rn.Yn
 rcases hc:Rn.qm v with _|_
 ·refine So.Ea λg eg=>So.Nb (t:=λenv=>standAt p>>=λuu=>eval v env>>=λw=>assign t env w>>=λuu=>Pure.pure Flow.next) (λenv=>?_) (So.Jb (So.bind hX (H.Sb v hX) λb w=>So.then hX.V' (So.rm ok hT H hX.V' eg λa h z=>z.2) So.next))
  refine rt (arm_exec_Assign ..) (rt (show swapsWithSole [t] v p.line env=Pure.pure false from Xy hc _ _ _) ?_)
  have h:swappedStores [t] v env=Pure.pure none/\(assignEach [t] env).map (·.2)=[assign t env]:=Nq (P:=λt uu=>swappedStores [t] v env=Pure.pure none/\(assignEach [t] env).map (·.2)=[assign t env]) eg (λuu uu=>⟨rfl,rfl⟩) (λuu uu uu=>⟨rfl,rfl⟩) λuu uu uu=>⟨rfl,rfl⟩
  refine rt h.1 (rt h.2 ?_)
  rfl
 exact So.qa
theorem So.Au(ok:θ.W.Ok)(hT:lb θ.W T)(H:o.Ok θ.W)(hX:Da θ.W.mv X){t:PySem.Expr}{op:Operator}{v:PySem.Expr}{p:Pos}:So θ X (Fv θ.W) (Rn.Au o T θ.c θ.D t op v) (λenv=>exec (.AugAssign t op v p) env):=So.Ea λg e=>by
 refine Nq (P:=λt g=>So θ X (Fv θ.W) (Rn.NE o T θ.c θ.D op v g) (λenv=>exec (.AugAssign t op v p) env)) e (λx np=>?_) (λob at_ tp=>?_) λob i sp=>?_
 ·exact So.Nb (λenv=>arm_exec_AugAssign x np op v p env) (So.Jb (So.bind hX (So.loadName hT.gl) λa av=>So.bind hX.V' (So.holding (H.Sb v hX.V')) λb bv=>So.Jb (So.bind hX.V'.V' (So.operate (So.Ak λuu uu z=>⟨z.1.2,z.2⟩)) λr rv=>So.Jb (So.then hX.V'.V'.V' (So.bindName ok λuu uu z=>z.2) So.next))))
 ·have e1:∀env,exec (.AugAssign (.Attribute ob at_ tp) op v p) env=(standAt p>>=λuu=>eval ob env>>=λov=>PySem.holding [ov] (standAt tp.atName>>=λuu=>PySem.getAttr ov at_ true>>=λold=>PySem.holding [old] (eval v env)>>=λw=>standAt p>>=λuu=>PySem.operate [old,w] (inplaceOp op old w))>>=λnew=>
    standAt tp.atName>>=λuu=>PySem.holding [new,ov] (PySem.setAttr ov at_ new)>>=λuu=>PySem.release [new,ov] []>>=λuu=>Pure.pure Flow.next):=λenv=>arm_exec_AugAssign_2 ob at_ tp op v p env
  exact So.Nb e1 (So.Jb (So.bind hX (H.Sb ob hX) λx ov=>So.bind hX.V' (So.holding (So.Jb (So.bind hX.V' (So.getAttr hT.jf λuu uu z=>z.2) λa av=>So.bind hX.V'.V' (So.holding (H.Sb v hX.V'.V')) λb bv=>So.Jb (So.operate (So.Ak λuu uu z=>⟨z.1.2,z.2⟩))))) λr rv=>So.Jb
   (So.Zn hX.V'.V' (So.holding (So.setAttr ok hT.kf λuu uu z=>⟨z.1.2,z.2⟩)))))
 ·refine Yy λhs=>?_
  have e2:∀(ov iv new:Value),augStore i ov iv new=(PySem.holding [new,ov,iv] (PySem.setItem ov iv new)>>=λuu=>PySem.release [new,ov,iv] []>>=λuu=>Pure.pure Flow.next):=λov iv new=>by
   induction i using Expr.casesOn<;>first|rfl|exact ft hs.symm
  have e1:∀env,exec (.AugAssign (.Subscript ob i sp) op v p) env=(standAt p>>=λuu=>eval ob env>>=λov=>PySem.holding [ov] (eval i env)>>=λiv=>PySem.holding [ov,iv] (standAt sp>>=λuu=>PySem.getItem ov iv>>=λold=>PySem.holding [old] (eval v env)>>=λw=>standAt p>>=λuu=>PySem.operate [old,w] (inplaceOp op old w))>>=λnew=>
    standAt sp>>=λuu=>PySem.holding [new,ov,iv] (PySem.setItem ov iv new)>>=λuu=>PySem.release [new,ov,iv] []>>=λuu=>Pure.pure Flow.next):=λenv=>by
   refine rt (arm_exec_AugAssign_3 ..) ?_
   simp only [e2]
  exact So.Nb e1 (So.Jb (So.bind hX (H.Sb ob hX) λx ov=>So.bind hX.V' (So.holding (H.Sb i hX.V')) λk kv=>So.bind hX.V'.V' (So.holding (So.Jb (So.bind hX.V'.V' (So.getItem hT.sd λuu uu z=>⟨z.1.2,z.2⟩) λa av=>So.bind hX.V'.V'.V' (So.holding (H.Sb v hX.V'.V'.V')) λb bv=>So.Jb (So.operate (So.Ak λuu uu z=>⟨z.1.2,z.2⟩))))) λr rv=>So.Jb
   (So.Zn hX.V'.V'.V' (So.holding (So.Un ok λuu uu z=>⟨z.1.1.2,z.1.2,z.2⟩)))))
end
end
section
variable {kz:Nat}
def Hq(A:Around)(h:Heap):Prop:=A.handled=none\/∃e,A.handled=some (.ref e)/\xn h e
theorem Hq.keeps{A:Around}{h h':Heap}(x:Hq A h)(k:∀b o,h.get? b=some o->h'.get? b=some o):Hq A h':=x.imp id λ⟨e,h1,C,d,vs,h2,h3⟩=>⟨e,h1,C,d,vs,k _ _ h2,h3⟩
theorem Hq.Zy{A:Around}{h h':Heap}(x:Hq A h){it:Addr}{o:Obj}(ho:h.get? it=some o)(hc:∀C,o.cls≠.ref C)(k:∀b o,b≠it->h.get? b=some o->h'.get? b=some o):Hq A h':=
 x.imp id λ⟨e,h1,C,d,vs,h2,h3⟩=>⟨e,h1,C,d,vs,k _ _ (λq=>by replace h2:=ho▸q▸h2;replace h2:=Option.some.inj h2;subst h2;exact hc C rfl) h2,h3⟩
theorem ie.hq{mv:Nat->Bool}{hn:Hn}{A:Around}{ad:List Addr}{h:Heap}(x:ie mv hn A ad h)(ok:hn.ok=true):Hq A h:=by
 induction hn using Hn.casesOn with
 |nn=>exact .inl x
 |fo=>obtain⟨e,h1,_,h3⟩:=x;exact .inr ⟨e,h1,h3⟩
 |no=>contradiction
 |nm n=>contradiction
theorem bM:entryFor table "proto.unchain"=some Builtin.«proto.unchain»:=entryFor_of_fast (by kernel_rfl)
section
variable {prog:Program}{w:World}{A:Around}{E:Value->Shared->Prop}{s:Shared}
theorem cM{α:Type}{a e:Addr}{oa:Obj}{va:Array Value}{Q:α->Shared->Prop}(hh:A.handled=some (.ref e))(x:xn s.heap e)(ho:s.heap.get? a=some oa)(hd:oa.data=.fields va)(hi:2<va.size)
  (h:E (.ref a) {s with heap:=s.heap.update a (Obj.mapFields (·.setIfInBounds 2 (.ref e)))}/\E (.ref a) s):wpAny (model prog w) A (raiseNew (.ref a):Sem α) Q E s:=by
 obtain⟨C,d,vs,h1,h2⟩:=x
 unfold raiseNew
 refine wpAny_bind (wpAny_handled ?_)
 refine rt hh ?_
 dsimp only
 by_cases q:(Value.ref e !=Value.ref a)=true
 ·refine rt (if_pos q ..) ?_
  refine wpAny_bind (wpAny_holding (wpAny_runValue (codeAny_builtin bM ?_)))
  refine(?_:wpAny _ _ (field (.ref e) 2>>=_) _ _ s)
  refine wpAny_bind (wpAny_field h1 rfl h2 ?_)
  refine(?_:wpAny _ _ (if(Value.none==Value.none)=true then _ else _) _ _ s)
  rw[if_pos (by decide)]
  refine(?_:wpAny _ _ (ret .none) _ _ s)
  refine wpAny_pure ?_
  dsimp only
  simp only [updateField]
  refine wpAny_bind (wpAny_bind (wpAny_load ho ?_))
  refine rt hd ?_
  dsimp only
  refine rt (if_pos hi ..) ?_
  exact wpAny_update ho (wpAny_throw h.1)
 ·refine rt (if_neg q ..) ?_
  exact wpAny_bind (wpAny_pure (wpAny_throw h.2))
theorem Cu{α:Type}(hh:Hq A s.heap){Q:α->Shared->Prop}(h:∀h' e,(∀b o,s.heap.get? b=some o->h'.get? b=some o)->s.heap.objs.size<=h'.objs.size->Shared.TypeIs {s with heap:=h'} (.ref e) "StopIteration"->E (.ref e) {s with heap:=h'}):
  wpAny (model prog w) A (newExc (.type "StopIteration") []>>=λe=>(raiseNew e:Sem α)) Q E s:=by
 refine wpAny_bind ?_
 unfold newExc PySem.newTuple
 refine wpAny_bind (wpAny_newObj_type ?_ (by size_fits))
 refine wpAny_bind (m:=firstArgMember _ _) (wpAny_of_eq (a:=Value.none) (by first|rfl|(simp only [firstArgMember];rfl)) ?_)
 refine wpAny_newObj_type ?_ (by size_fits)
 rcases hh with hh|⟨e,hh,x⟩
 ·unfold raiseNew
  refine wpAny_bind (wpAny_handled ?_)
  refine rt hh ?_
  refine wpAny_bind (wpAny_pure (wpAny_throw (h _ _ (λb o e=>Heap.get?_push_of_some _ (Heap.get?_push_of_some _ e)) ?_ ⟨_,Heap.get?_push_size _ rfl,rfl⟩)))
  refine rt (Heap.size_push ..) (rt (Heap.size_push ..) ?_)
  lia
 ·obtain⟨C,d,vs,h1,h2⟩:=x
  refine cM hh ⟨C,d,vs,Heap.get?_push_of_some _ (Heap.get?_push_of_some _ h1),h2⟩ (Heap.get?_push_size _ rfl) rfl (by simp;lia) ⟨?_,?_⟩
  ·refine h _ _ (λb o e=>(Heap.get?_update_other _ _ ?_).trans (Heap.get?_push_of_some _ (Heap.get?_push_of_some _ e))) ?_ ⟨_,Heap.get?_update_self _ (Heap.get?_push_size _ rfl) rfl,rfl⟩
   ·have:=Heap.lt_size e
    refine rt (Heap.size_push ..) ?_
    exact Nat.ne_of_gt (Nat.lt_succ_of_lt this)
   ·rw[Heap.size_after_update,Heap.size_push,Heap.size_push]
    lia
  ·refine h _ _ (λb o e=>Heap.get?_push_of_some _ (Heap.get?_push_of_some _ e)) ?_ ⟨_,Heap.get?_push_size _ rfl,rfl⟩
   rw[Heap.size_push,Heap.size_push]
   lia
theorem dM{it l:Addr}{i:Nat}{items:Array Value}{Q:Option Value->Shared->Prop}(hh:Hq A s.heap)(qb:s.heap.IsListIter it l i)(hl:s.heap.IsList l items)(hx:items[i]?=none)
  (hQ:∀h',Heap.ExtBut it s.heap h'->s.heap.objs.size<=h'.objs.size->Q none {s with heap:=h'}):wpAny (model prog w) A (pyNext (.ref it)) Q E s:=by
 obtain⟨o,ho,hc,hd⟩:=id qb
 obtain⟨ol,ZC,_,nl,aD⟩:=hl
 unfold pyNext
 refine wpAny_bind (wpAny_attempt (wpAny_callSpecial?_slot (name:=Str.ofString "__next__") qb.typeIs slot_listiter_next (wpAny_call_entry slot_listiter_next qb.typeIs entry_listiter_next ?_ (args_listiter_next _))))
 refine(?_:wpAny _ _ (field (.ref it) 0>>=_) _ _ s)
 refine wpAny_bind (wpAny_field ho hd (x:=.ref l) rfl ?_)
 refine(?_:wpAny _ _ (if(Value.ref l==Value.none)=true then _ else _) _ _ s)
 refine rt (if_neg (show ¬((Value.ref l==Value.none)=true) from Bool.false_ne_true) ..) ?_
 refine(?_:wpAny _ _ (field (.ref it) 1>>=_) _ _ s)
 refine wpAny_bind (wpAny_field ho hd (x:=.int i 0) rfl ?_)
 refine(?_:wpAny _ _ (seqItems? (.ref l)>>=_) _ _ s)
 refine wpAny_bind (wpAny_seqItems ZC aD ?_)
 simp only [Int.toNat_natCast,hx]
 refine wpAny_bind (wpAny_rule (wpAny_bind (wpAny_setField ho hd (by simp) ?_)))
 refine(?_:wpAny _ _ (newExc (.type "StopIteration") []>>=λe=>raiseNew e) _ _ _)
 refine Cu (A:=A.in1) (Hq.Zy (A:=A.in1) hh ho (by refine hc.symm▸?_;simp) λb o n q=>(Heap.get?_update_other _ _ (Ne.symm n)).trans q) λh' e k sz ty=>?_
 refine wpAny_bind (wpAny_isInstance (T:="StopIteration") (b:=true) ty isSubtype_stop ?_)
 refine wpAny_pure (hQ h' (λb o n q=>k b o ((Heap.get?_update_other _ _ (Ne.symm n)).trans q)) ?_)
 have:s.heap.objs.size<=h'.objs.size:=by
  have z:=sz
  simp only [Heap.size_after_update] at z
  exact z
 exact this
theorem eM{it:Addr}{x left step:Int}{Q:Option Value->Shared->Prop}(hh:Hq A s.heap)(qb:IsRangeIter s.heap it x left step)(OV:left<=0)
  (hQ:∀h',Heap.ExtBut it s.heap h'->s.heap.objs.size<=h'.objs.size->Q none {s with heap:=h'}):wpAny (model prog w) A (pyNext (.ref it)) Q E s:=by
 have hT:s.TypeIs (.ref it) "range_iterator":=⟨_,qb,rfl⟩
 unfold pyNext
 refine wpAny_bind (wpAny_attempt (wpAny_callSpecial?_slot (name:=Str.ofString "__next__") hT F.slot_range_iterator_next (wpAny_call_entry F.slot_range_iterator_next hT F.entry_range_iterator_next ?_ (F.args_range_iterator_next_1 _))))
 refine(?_:wpAny _ _ (field (.ref it) 0>>=_) _ _ s)
 refine wpAny_bind (wpAny_field qb rfl (x:=rawInt x) rfl ?_)
 refine(?_:wpAny _ _ (field (.ref it) 1>>=_) _ _ s)
 refine wpAny_bind (wpAny_field qb rfl (x:=rawInt left) rfl ?_)
 refine(?_:wpAny _ _ (field (.ref it) 2>>=_) _ _ s)
 refine wpAny_bind (wpAny_field qb rfl (x:=rawInt step) rfl ?_)
 refine(?_:wpAny _ _ (if left<=0 then _ else _) _ _ s)
 refine rt (if_pos OV ..) ?_
 refine wpAny_bind (wpAny_rule ?_)
 refine wpAny_bind ?_
 refine(?_:wpAny _ _ (newExc (.type "StopIteration") []>>=λe=>raiseNew e) _ _ _)
 refine Cu (A:=A.in1) hh λh' e k sz ty=>?_
 refine wpAny_bind (wpAny_isInstance (T:="StopIteration") (b:=true) ty isSubtype_stop ?_)
 exact wpAny_pure (hQ h' (λb o uu q=>k b o q) sz)
theorem fM{it:Addr}{x:Str}{t:Tok}{i:Nat}{Q:Option Value->Shared->Prop}(hh:Hq A s.heap)(qb:s.heap.IsStrIter it "str_ascii_iterator" x t i)(hx:x.cps[i]?=none)
  (hQ:∀h',Heap.ExtBut it s.heap h'->s.heap.objs.size<=h'.objs.size->Q none {s with heap:=h'}):wpAny (model prog w) A (pyNext (.ref it)) Q E s:=by
 obtain⟨o,ho,hc,hd⟩:=id qb
 unfold pyNext
 refine wpAny_bind (wpAny_attempt (wpAny_callSpecial?_slot (name:=Str.ofString "__next__") qb.typeIs F.slot_str_ascii_iterator_next
  (wpAny_call_entry F.slot_str_ascii_iterator_next qb.typeIs F.entry_str_ascii_iterator_next ?_ (F.args_str_ascii_iterator_next_1 _))))
 refine(?_:wpAny _ _ (field (.ref it) 0>>=_) _ _ s)
 refine wpAny_bind (wpAny_field ho hd (x:=.str x t) rfl ?_)
 refine(?_:wpAny _ _ (field (.ref it) 1>>=_) _ _ s)
 refine wpAny_bind (wpAny_field ho hd (x:=.int i 0) rfl ?_)
 simp only [Int.toNat_natCast,hx]
 refine wpAny_bind (wpAny_rule (wpAny_bind (wpAny_setField ho hd (by simp) (wpAny_bind (wpAny_letGo ?_)))))
 refine(?_:wpAny _ _ (newExc (.type "StopIteration") []>>=λe=>raiseNew e) _ _ _)
 refine Cu (A:=A.in1) (Hq.Zy (A:=A.in1) hh ho (by refine hc.symm▸?_;simp) λb o n q=>(Heap.get?_update_other _ _ (Ne.symm n)).trans q) λh' e k sz ty=>?_
 refine wpAny_bind (wpAny_isInstance (T:="StopIteration") (b:=true) ty isSubtype_stop ?_)
 refine wpAny_pure (hQ h' (λb o n q=>k b o ((Heap.get?_update_other _ _ (Ne.symm n)).trans q)) ?_)
 have:s.heap.objs.size<=h'.objs.size:=by
  have z:=sz
  simp only [Heap.size_after_update] at z
  exact z
 exact this
theorem gM{it t:Addr}{i:Nat}{items:Array Value}{Q:Option Value->Shared->Prop}(hh:Hq A s.heap)(qb:s.heap.IsTupleIter it t i)(hl:s.heap.IsTuple t items)(hx:items[i]?=none)
  (hQ:∀h',Heap.ExtBut it s.heap h'->s.heap.objs.size<=h'.objs.size->Q none {s with heap:=h'}):wpAny (model prog w) A (pyNext (.ref it)) Q E s:=by
 obtain⟨o,ho,hc,hd⟩:=id qb
 obtain⟨ol,ZC,_,nl,aD⟩:=hl
 unfold pyNext
 refine wpAny_bind (wpAny_attempt (wpAny_callSpecial?_slot (name:=Str.ofString "__next__") qb.typeIs F.slot_tuple_iterator_next (wpAny_call_entry F.slot_tuple_iterator_next qb.typeIs F.entry_tuple_iterator_next ?_ (F.args_tuple_iterator_next_1 _))))
 refine(?_:wpAny _ _ (field (.ref it) 0>>=_) _ _ s)
 refine wpAny_bind (wpAny_field ho hd (x:=.ref t) rfl ?_)
 refine(?_:wpAny _ _ (if(Value.ref t==Value.none)=true then _ else _) _ _ s)
 refine rt (if_neg (show ¬((Value.ref t==Value.none)=true) from Bool.false_ne_true) ..) ?_
 refine(?_:wpAny _ _ (field (.ref it) 1>>=_) _ _ s)
 refine wpAny_bind (wpAny_field ho hd (x:=.int i 0) rfl ?_)
 refine(?_:wpAny _ _ (seqItems? (.ref t)>>=_) _ _ s)
 refine wpAny_bind (wpAny_seqItems ZC aD ?_)
 simp only [Int.toNat_natCast,hx]
 refine wpAny_bind (wpAny_rule (wpAny_bind (wpAny_setField ho hd (by simp) ?_)))
 refine(?_:wpAny _ _ (newExc (.type "StopIteration") []>>=λe=>raiseNew e) _ _ _)
 refine Cu (A:=A.in1) (Hq.Zy (A:=A.in1) hh ho (by refine hc.symm▸?_;simp) λb o n q=>(Heap.get?_update_other _ _ (Ne.symm n)).trans q) λh' e k sz ty=>?_
 refine wpAny_bind (wpAny_isInstance (T:="StopIteration") (b:=true) ty isSubtype_stop ?_)
 refine wpAny_pure (hQ h' (λb o n q=>k b o ((Heap.get?_update_other _ _ (Ne.symm n)).trans q)) ?_)
 have:s.heap.objs.size<=h'.objs.size:=by
  have z:=sz
  simp only [Heap.size_after_update] at z
  exact z
 exact this
theorem iM{t:Addr}{items:Array Value}{n:Nat}{Q:List Value->Shared->Prop}(hh:Hq A s.heap)(ht:s.heap.IsTuple t items)(hn:n=items.size)
  (hQ:∀h',Heap.ExtBut s.heap.objs.size s.heap h'->s.heap.objs.size<=h'.objs.size->Q items.toList {s with heap:=h'}):wpAny (model prog w) A (unpackItems (.ref t) n none) Q E s:=by
 subst hn
 have Sp:t≠s.heap.objs.size:=by obtain⟨o,ho,_⟩:=ht;exact Nat.ne_of_lt (Heap.lt_size ho)
 unfold unpackItems notIterableAtAll
 refine wpAny_bind (wpAny_bind (wpAny_specialOf ht.typeIs F.slot_tuple_iter.lookup (wpAny_pure ?_)))
 rw[if_neg (by decide)]
 refine wpAny_bind (wpAny_holding (wpAny_pyIter_tuple ht (wpAny_bind (wpAny_holding (wpAny_draw_tuple Sp items.size 0 _ _ ⟨_,Heap.get?_push_size _ rfl,rfl,rfl⟩ (ht.push _) (by lia) λh₁ PV Ox=>?_)))))
 have QV:List.take items.size (List.drop 0 items.toList)=items.toList:=by
  refine rt (List.drop_zero ..) ?_;exact List.take_of_length_le (by simp)
 rw[QV,if_neg (by simp)]
 refine wpAny_bind (wpAny_holding (gM (hh.keeps λb o e=>Ox.extBut b o (λq=>by replace e:=(zk ..)▸(q ..)▸e;contradiction) (Heap.get?_push_of_some _ e)) PV ((ht.push _).extBut Ox.extBut Sp) (by simp) λh₂ Lx sz=>?_))
 rw[if_neg (by decide)]
 refine wpAny_pure (hQ h₂ (λb o hb e=>Lx b o hb (Ox.extBut b o hb (Heap.get?_push_of_some _ e))) ?_)
 have h1:=Ox.1
 rw[Heap.size_push] at h1
 have h2:h₁.objs.size<=h₂.objs.size:=sz
 lia
end
namespace Rn
noncomputable def Du:List PySem.Expr->Bool
 |[]=>true
 |t::r=>cond (Oq t) (Du r) false
noncomputable def um(o:Ka)(T:Tb)(c:Cx)(D:Nat):List PySem.Expr->List SV->Rn Unit
 |[],[]=>Pure.pure ()
 |t::ts,x::xs=>tm o T c D t x>>=λuu=>um o T c D ts xs
 |_,_=>qa
noncomputable def jo(hn:Hn)(n:Nat)(v:SV):Rn (List SV):=λs=>v.On.bind λl=>cond (hn.ok&&Nat.beq n l.length) (some (.ok l,s,[])) none
noncomputable def so(o:Ka)(T:Tb)(c:Cx)(D:Nat)(ts:List PySem.Expr)(v:SV):Rn Unit:=cond (Du ts) (jo c.hn ts.length v>>=um o T c D ts) qa
noncomputable def Pq:PySem.Expr->Option (List PySem.Expr)
 |.Tuple ts _ _=>some ts
 |_=>none
noncomputable def uo(t:PySem.Expr):Bool:=(Pq t).isSome||Oq t
noncomputable def vm(o:Ka)(T:Tb)(c:Cx)(D:Nat)(t:PySem.Expr)(v:SV):Rn Unit:=match Pq t with
 |some ts=>so o T c D ts v
 |none=>tm o T c D t v
noncomputable def Eu(c:Cx)(N:Nat):Rn (Option SV):=λs=>cond c.hn.ok (some (.ok none,s.set N .ta,[])) none
noncomputable def jM(c:Cx)(N:Nat):AO->Rn (Option SV)
 |.li x i=>λs=>(Hk s.st x).bind λl=>match l[i]? with
  |some v=>some (.ok (some v),s.set N (.li x (i+1)),[])
  |none=>Eu c N s
 |.ri a n=>λs=>(cE n).bind λk=>match k with
  |0=>Eu c N s
  |k+1=>some (.ok (some (.it a)),s.set N (.ri (a+1) (.ofNat k)),[])
 |.si x i=>λs=>match x.cps.toList[i]? with
  |some k=>some (.ok (some (.st ⟨#[k]⟩)),s.set N (.si x (i+1)),[])
  |none=>Eu c N s
 |_=>qa
noncomputable def lh(c:Cx)(N:Nat):Rn (Option SV):=λs=>(s.st[N]?).bind λo=>jM c N o s
noncomputable def Fu:List Nat->Bool
 |[]=>true
 |k::r=>Nat.blt k 128&&Fu r
noncomputable def Kj(x:SV):Rn SV:=match x with
 |.rg n=>ask (0<=n/\n<=1000000)>>=λuu=>own (.ri 0 n)
 |.st x=>cond (Fu x.cps.toList) (own (.si x 0)) qa
 |x=>λs=>(Hk s.st x).bind λuu=>own (.li x 0) s
end Rn
theorem kM{n:Int}(h0:0<=n)(h1:n<=1000000):Builtin.Range.small 0 n 1=true/\Builtin.Range.rangeSize 0 n 1=n:=by
 have hs:Builtin.Range.rangeSize 0 n 1=n:=by
  unfold Builtin.Range.rangeSize
  rw[if_pos (by decide)]
  by_cases q:(0:Int)<n
  ·refine rt (if_pos q ..) ?_;simp
  ·refine rt (if_neg q ..) ?_;lia
 have hf:∀i:Int,0<=i->i<=1000000->Builtin.Range.rangeFitsLong i=true:=λi a b=>by
  unfold Builtin.Range.rangeFitsLong
  simp only [Bool.and_eq_true,decide_eq_true_eq]
  lia
 refine⟨?_,hs⟩
 unfold Builtin.Range.small
 rw[hs,hf 0 (by lia) (by lia),hf n h0 h1,hf 1 (by lia) (by lia),if_pos (by decide),show n+(1 - 1)=n from by lia,hf n h0 h1]
 simp
section
variable {θ:Th}{X:Hp}{T:Tb}{o:Ka}
theorem PE:∀{ts:List PySem.Expr} (_:Rn.Du ts=true) {env:PySem.Env},(assignEach ts env)=ts.map λt=>(false,assign t env)
 |[],_,_=>rfl
 |t::r,h,env=>by
  have h:cond (tg t).isSome (Rn.Du r) false=true:=h
  revert h
  rcases ht:tg t with _|g
  ·exact ft
  intro h
  have:assignEach (t::r) env=(false,assign t env)::assignEach r env:=Nq (P:=λt uu=>assignEach (t::r) env=(false,assign t env)::assignEach r env) ht (λuu uu=>rfl) (λuu uu uu=>rfl) λuu uu uu=>rfl
  refine rt (this ..) (rt (PE h ..) ?_)
  rfl
theorem So.um(ok:θ.W.Ok)(hT:lb θ.W T)(H:o.Ok θ.W):∀{ts:List PySem.Expr} {l:List SV} {vs:List Value} {X:Hp},Da θ.W.mv X->(∀a h,X a h->Vs θ.W a h l vs)->So θ X Uv (Rn.um o T θ.c θ.D ts l) (λenv=>assignInOrder (ts.map λt=>assign t env) vs)
 |[],[],vs,X,hX,q=>So.pure (b:=()) (v:=()) λuu uu uu=>trivial
 |t::ts,x::xs,vs,X,hX,q=>So.ye (P:=∃v r,vs=v::r) (λa h z=>by induction(q a h z:Ta ..) using Ta.casesOn with|mk v r _ _=>
  exact⟨v,r,rfl⟩) λe=>e.elim λv e=>e.elim λr e=>by
  subst e
  refine(?_:So θ X Uv (Rn.tm o T θ.c θ.D t x>>=λuu=>Rn.um o T θ.c θ.D ts xs) (λenv=>PySem.holding r (assign t env v)>>=λuu=>assignInOrder (ts.map λt=>assign t env) r))
  refine So.bind hX (So.holding (So.tm ok hT H hX λa h z=>?_)) λuu uu=>So.um ok hT H (hX.and Da.true) λa h z=>?_
  ·cases(q a h z:Ta ..) with|mk _ _ q _=>exact q
  ·cases(q a h z.1:Ta ..) with|mk _ _ _ q=>exact q
 |[],_::_,_,_,_,_=>So.qa
 |_::_,[],_,_,_,_=>So.qa
theorem So.jo(ok:θ.W.Ok){n:Nat}{v:SV}{w:Value}(hX:∀a h,X a h->V θ.W a h v w):So θ X (Lv θ.W) (Rn.jo θ.c.hn n v) (λuu=>unpackItems w n none):=λΓ ad sx s M q=>aa.Ea λl el=>aa.yb λhc=>aa.ok<|by
 have hc:=(Bool.and_eq_true _ _).mp hc
 have q:=hX _ _ q
 replace q:=(SV.Cq el ..)▸q
 refine fb.casesOn (q:fb ..) λa vs k p1 p2 uu=>?_
 exact iM (M.hn.hq hc.1) (fh p1) (by exact(Nat.eq_of_beq_eq_true hc.2 ..).symm▸(List.size_toArray ..).symm▸(p2.length ..).symm▸rfl) λh' eb sz=>⟨l,rfl,M.Et ok ⟨sz,eb⟩ s.toks ((M.rb ⟨sz,eb⟩ s.toks).vs M p2)⟩
theorem So.so(ok:θ.W.Ok)(hT:lb θ.W T)(H:o.Ok θ.W)(hX:Da θ.W.mv X){ts:List PySem.Expr}{v:SV}{w:Value}(q:∀a h,X a h->V θ.W a h v w){u:Nat}{p:Pos}:So θ X Uv (Rn.so o T θ.c θ.D ts v) (λenv=>assign (.Tuple ts u p) env w):=So.yb λhc=>by
 refine So.Nb (t:=λenv=>standAt p>>=λuu=>PySem.holding [w] (unpackItems w ts.length none)>>=λitems=>assignInOrder (ts.map λt=>assign t env) items) (λenv=>?_) (So.Jb (So.bind hX (So.holding (So.jo ok q)) λl vs=>So.um ok hT H (hX.and (Da.Vs θ.W l vs)) λuu uu z=>z.2))
 refine rt (arm_assign_Tuple ..) ?_
 unfold unpack
 refine rt (PE hc ..) ?_
 have hf:((ts.map λt=>(false,assign t env)).findIdx? (·.1))=none:=by
  rw[List.findIdx?_eq_none_iff]
  exact λx hx=>(List.mem_map.mp hx).elim λt z=>z.2▸rfl
 have em:((ts.map λt=>((false,assign t env):Bool×(Value->Sem Unit))).map (·.2))=ts.map λt=>assign t env:=by refine rt (List.map_map ..) ?_;rfl
 exact(hf ..).symm▸(em ..).symm▸(List.length_map ..).symm▸rfl
theorem So.vm(ok:θ.W.Ok)(hT:lb θ.W T)(H:o.Ok θ.W)(hX:Da θ.W.mv X){t:PySem.Expr}{v:SV}{w:Value}(q:∀a h,X a h->V θ.W a h v w):So θ X Uv (Rn.vm o T θ.c θ.D t v) (λenv=>assign t env w):=by
 have h1:=So.tm ok hT H hX (t:=t) q
 induction t using PySem.Expr.casesOn with
 |Tuple ts u p=>exact So.so ok hT H hX q
 |_=>exact h1
def Nv(W:Wd):Option SV->Option Value->Hp:=λq r a h=>match q with
 |none=>r=none
 |some v=>∃w,r=some w/\V W a h v w
theorem So.lh(ok:θ.W.Ok){N:Nat}{I:Value}(hX:∀a h,X a h->V θ.W a h (.ob N) I):So θ X (Nv θ.W) (Rn.lh θ.c N) (λuu=>pyNext I):=λΓ ad sx s M q=>aa.Ea λo es=>by
 by_cases hd:o=.ta
 ·subst hd;trivial
 refine M.r.on es hd (hX _ _ q) λa ob hv ea g z=>?_
 refine rt hv ?_
 have fin:∀{h'},Heap.ExtBut a s.heap h'->s.heap.objs.size<=h'.objs.size->Qo θ Γ ad s (Nv θ.W) (.ok none) (sx.set N .ta) none {s with heap:=h'}:=λeb sz=>⟨none,rfl,M.Rb ok ea ⟨sz,eb⟩ (ao:=.ta) s.toks trivial rfl⟩
 induction o using AO.casesOn with
 |li x i=>
  refine z.elim λla z=>aa.Ea λl el=>Wn M.r z.1 el λa' vs n e1 g1 q1=>?_
  cases e1
  rcases ev:l[i]? with _|v
  ·refine aa.yb λhn=>aa.ok (dM (M.hn.hq hn) ⟨ob,g,z.2⟩ ⟨_,g1,rfl,n,rfl⟩ ?_ λh' eb sz=>fin eb sz)
   rw[List.getElem?_toArray,List.getElem?_eq_none_iff,q1.length]
   exact List.getElem?_eq_none_iff.mp ev
  refine(q1.get ev).elim λw w1=>aa.ok (wpAny_pyNext_list_item (x:=w) ⟨ob,g,z.2⟩ ⟨_,g1,rfl,n,rfl⟩ ?_ λh' kn sb=>⟨some v,rfl,?_⟩)
  ·refine rt (List.getElem?_toArray ..) ?_;exact w1.1
  ·have c:=M.rt ea (.ze sb) s.toks
   exact M.Rb ok ea (.ze sb) (ao:=.li x (i+1)) s.toks (kn.elim λo y=>⟨o,y.1,la,c.v M z.1,y.2⟩) ⟨w,rfl,c.v M w1.2⟩
 |ri x n=>
  induction n using Int.casesOn with
  |negSucc _=>trivial
  |ofNat k=>induction k using Nat.casesOn with
   |zero=>exact aa.yb λhn=>aa.ok (eM (M.hn.hq hn) (show IsRangeIter s.heap a x (Int.ofNat 0) 1 from g.trans (congrArg some z)) (Int.le_refl 0) λh' eb sz=>fin eb sz)
   |succ k=>
    refine aa.ok (wpAny_pyNext_range_item (show IsRangeIter s.heap a x (Int.ofNat (k+1)) 1 from g.trans (congrArg some z)) (Int.natCast_pos.mpr (Nat.succ_pos k)) λh' kn sb=>⟨some (.it x),rfl,M.Rb ok ea (.ze sb) (ao:=.ri (x+1) (.ofNat k)) (s.toks+1) ⟨_,?_,rfl⟩ ⟨_,rfl,_,rfl⟩⟩)
    replace kn:=(show((Int.ofNat (k+1):Int) - 1)=Int.ofNat k from Int.add_sub_cancel (k:Int) 1)▸kn
    exact kn
 |si x i=>
  refine z.2.elim λtk hd=>?_
  refine(?_:aa (match x.cps.toList[i]? with|some k=>_|none=>Rn.Eu θ.c N sx) _)
  rcases ek:x.cps.toList[i]? with _|k
  ·exact aa.yb λhn=>aa.ok (fM (M.hn.hq hn) ⟨ob,g,z.1,hd⟩ (by refine rl (Array.getElem?_toList ..) ?_;exact ek) λh' eb sz=>fin eb sz)
  exact aa.ok (wpAny_pyNext_ascii_item ⟨ob,g,z.1,hd⟩ (by refine rl (Array.getElem?_toList ..) ?_;exact ek) λh' kn sb=>⟨some (.st ⟨#[k]⟩),rfl,M.Rb ok ea (.ze sb) (ao:=.si x (i+1)) (s.toks+1) (kn.elim λo y=>⟨o,y.1,y.2.1,tk,y.2.2⟩) ⟨_,rfl,_,rfl⟩⟩)
 |_=>trivial
theorem QE:∀{l:List Nat},Rn.Fu l=true->l.all (·<128)=true
 |[],_=>rfl
 |k::r,h=>by
  have h:=(Bool.and_eq_true _ _).mp h
  refine rt (List.all_cons ..) (rt (QE h.2 ..) (rt (Bool.and_true ..) ?_))
  exact decide_eq_true (Nat.le_of_ble_eq_true h.1)
theorem So.Kj(ok:θ.W.Ok){x:SV}{v:Value}(hX:∀a h,X a h->V θ.W a h x v):So θ X (Rv θ.W) (Rn.Kj x) (λuu=>pyIter v):=by
 have ls:So θ X (Rv θ.W) (λs=>(Rn.Hk s.st x).bind λuu=>Rn.own (.li x 0) s) (λuu=>pyIter v):=λΓ ad sx s M q=>aa.Ea λll el=>aa.ok<|by
  have v1:=hX _ _ q
  refine Wn M.r v1 el λla vs n e1 e2 e3=>?_
  rw[e1] at v1 ⊢
  exact wpAny_pyIter_list ⟨_,e2,rfl,n,rfl⟩ ⟨_,rfl,M.own ok s.toks (ao:=.li x 0) rfl ⟨la,(M.ro _ s.toks).v M v1,rfl,rfl⟩ ⟨_,M.nm _,rfl⟩⟩
 induction x using SV.casesOn with
 |rg n=>
  exact So.ask λhn=>λΓ ad sx s M q=>aa.ok<|by
   refine Rg.casesOn (hX _ _ q:Rg ..) λa t u w e m=>?_
   have h:=kM hn.1 hn.2
   refine wpAny_pyIter_range e h.1 ?_
   refine rt h.2 ?_
   exact⟨_,rfl,M.own ok s.toks (ao:=.ri 0 n) rfl rfl ⟨_,M.nm _,rfl⟩⟩
 |st x=>
  refine(?_:So θ X _ (cond (Rn.Fu x.cps.toList) (Rn.own (.si x 0)) Rn.qa) _)
  refine So.yb λha=>λΓ ad sx s M q=>aa.ok<|(hX _ _ q).elim λt e=>?_
  refine rt e ?_
  exact wpAny_pyIter_ascii (Array.all_toList.symm.trans (QE ha)) ⟨_,rfl,M.own ok s.toks (ao:=.si x 0) rfl ⟨rfl,t,rfl⟩ ⟨_,M.nm _,rfl⟩⟩
 |_=>exact ls
end
end
section
variable {kz:Nat}
noncomputable def ends:Except Nat (Option Fl)->Option (Except Nat Fl)
 |.ok f=>f.bind λf=>some (.ok f)
 |.error n=>some (.error n)
inductive Ch(m:Rn (Option Fl)):Nat->Lc->St->Except Nat Fl->Lc->St->Prop where
 |Ua {loc:Lc} {st:St} {hs:List Jd} {o:Except Nat (Option Fl)} {sx1:Sx} {l:List Prop} {f:Except Nat Fl} (e:m ⟨loc,st,hs⟩=some (o,sx1,l)) (h:∀q∈l,q) (z:ends o=some f):Ch m 0 loc st f sx1.loc sx1.st
 |go {loc:Lc} {st:St} {hs:List Jd} {sx1:Sx} {l:List Prop} {k:Nat} {f:Except Nat Fl} {ub:Lc} {db:St} (e:m ⟨loc,st,hs⟩=some (.ok none,sx1,l)) (h:∀q∈l,q) (r:Ch m k sx1.loc sx1.st f ub db):Ch m (k+1) loc st f ub db
namespace Rn
noncomputable def az:Fl->Rn (Option Fl)
 |.next=>Pure.pure none
 |.cont=>Pure.pure none
 |.brk=>Pure.pure (some .next)
 |.ret v=>Pure.pure (some (.ret v))
noncomputable def bz(f:Fl):Rn (Option Fl):=Pure.pure (some f)
noncomputable def nf(o:Ka)(c:Cx)(D:Nat)(t:PySem.Expr)(b r:List Stmt):Rn (Option Fl):=o.ts c D t>>=λq=>cond q (o.ex c D b>>=az) (o.ex c D r>>=bz)
noncomputable def wm(t:PySem.Expr)(N:Nat):Rn Unit:=λs=>cond (Oq t) (some (.ok (),s,[])) ((s.st[N]?).bind λo=>cond (Nat.beq o.ctorIdx 15) (some (.ok (),s,[])) none)
noncomputable def Lh(o:Ka)(T:Tb)(c:Cx)(D:Nat)(t:PySem.Expr)(b r:List Stmt)(N:Nat):Rn (Option Fl):=lh c N>>=λq=>match q with
 |none=>o.ex c D r>>=bz
 |some v=>wm t N>>=λuu=>vm o T c D t v>>=λuu=>o.ex c D b>>=az
noncomputable def Gu(m:Rn (Option Fl)):Nat->Rn Fl
 |0=>qa
 |k+1=>m>>=λq=>match q with
  |some f=>Pure.pure f
  |none=>Gu m k
noncomputable def Fi{α:Type}(c:Cx)(m:Rn α):Rn α:=λs=>(m s).bind λq=>match q.1 with
 |.ok v=>some (.ok v,q.2)
 |.error n=>cond c.fn ((Dg q.2.1.st n).bind λqc=>some (.error n,{q.2.1 with st:=qc},q.2.2)) none
noncomputable def Hu(o:Ka)(c:Cx)(D:Nat)(t:PySem.Expr)(b r:List Stmt):Rn Fl:=Fi c (Gu (nf o c D t b r) 40)
noncomputable def Lj(e:PySem.Expr):Bool:=Nat.beq e.ctorIdx 7
noncomputable def Iu(o:Ka)(T:Tb)(c:Cx)(D:Nat)(t it:PySem.Expr)(b r:List Stmt):Rn Fl:=cond (Lj it) qa (cond (uo t) (o.ev c D it>>=λx=>Kj x>>=λi=>Ea i.mf>>=λN=>Fi c (Gu (Lh o T c D t b r N) 40)) qa)
end Rn
theorem aa.self{β:Type}{x:An β}:aa x λo sx=>∃l,x=some (o,sx,l)/\∀p∈l,p:=by
 rcases x with _|q
 ·trivial
 exact λh=>⟨q.2.2,rfl,h⟩
theorem aa.get{β:Type}{x:An β}{K:Except Nat β->Sx->Prop}{o:Except Nat β}{sx:Sx}{l:List Prop}(H:aa x K)(e:x=some (o,sx,l))(h:∀p∈l,p):K o sx:=by
 replace H:=e▸H
 exact H h
theorem aa.pf{m:Rn (Option Fl)}:∀k sx,aa (Rn.Gu m k sx) λf ra=>∃n,Ch m n sx.loc sx.st f ra.loc ra.st
 |0,_=>trivial
 |k+1,sx=>aa.bind (aa.self.Ba λo sx1 h=>by
  induction o using Except.casesOn with
  |error n=>exact h.elim λl h=>⟨0,.Ua (hs:=sx.hs) h.1 h.2 rfl⟩
  |ok q=>induction q using Option.casesOn with
   |some f=>exact aa.ok (h.elim λl h=>⟨0,.Ua (hs:=sx.hs) h.1 h.2 rfl⟩)
   |none=>exact(aa.pf k sx1).Ba λf ra z=>z.elim λn z=>h.elim λl h=>⟨n+1,.go (hs:=sx.hs) h.1 h.2 z⟩)
structure Nt(c:Cx)(f:Except Nat Fl)(loc:Lc)(st:St)(sx:Sx):Prop where
 l:sx.loc=loc
 o:∀fl,f=.ok fl->sx.st=st
 e:∀n,f=.error n->c.fn=true/\Dg st n=some sx.st
theorem aa.ym{c:Cx}{m:Rn Fl}{sx:Sx}{K:Except Nat Fl->Sx->Prop}(H:aa (m sx) λf sx1=>∀ee,Nt c f sx1.loc sx1.st ee->K f ee):aa (Rn.Fi c m sx) K:=by
 unfold Rn.Fi
 revert H
 rcases m sx with _|q
 ·exact λuu=>trivial
 obtain⟨o,sx1,l⟩:=q
 rcases o with n|v
 ·exact λH=>aa.yb λhf=>aa.Ea λqc e3 h=>H h {sx1 with st:=qc} ⟨rfl,λuu e=>(nomatch e),λuu e=>by cases e;exact⟨hf,e3⟩⟩
 exact λH h=>H h sx1 ⟨rfl,λuu uu=>rfl,λuu e=>(nomatch e)⟩
section
variable {θ:Th}{Γ:Bk}{ad ja:List Addr}{sx sx1:Sx}{s s1:Shared}{X:Hp}{T:Tb}{o:Ka}{E E':Value->Shared->Prop}{G G' B B':Flow->Shared->Prop}
theorem Po.as{xa:Sx}(p:Po θ Γ ad s sx X s1)(h1:xa.loc=sx.loc)(h2:xa.st=sx.st):Po θ Γ ad s xa X s1:=let⟨a,r,M,x⟩:=p;⟨a,r,M.as h1 h2,x⟩
def Tn(θ:Th)(Γ:Bk)(ad:List Addr)(s:Shared)(r:Except Nat (Option Fl))(sx:Sx)(f:Flow)(s1:Shared):Prop:=match f with
 |.next=>r=.ok none/\Po θ Γ ad s sx (λuu uu=>True) s1
 |.cont=>r=.ok none/\Po θ Γ ad s sx (λuu uu=>True) s1
 |.brk=>∃fl,r=.ok (some fl)/\Po θ Γ ad s sx (Fv θ.W fl .next) s1
 |.ret v=>∃fl,r=.ok (some fl)/\Po θ Γ ad s sx (Fv θ.W fl (.ret v)) s1
def En(θ:Th)(Γ:Bk)(ad:List Addr)(s:Shared)(r:Except Nat (Option Fl))(sx:Sx)(f:Flow)(s1:Shared):Prop:=∃fl,r=.ok (some fl)/\Po θ Γ ad s sx (Fv θ.W fl f) s1
theorem RE(H:o.Ok θ.W)(c:pb θ.W Γ.L ad s ja s1)(M1:Ms θ Γ ja sx1 s1)(b:List Stmt):aa ((o.ex θ.c θ.D b>>=Rn.az) sx1) λr ra=>wpAny θ.W.m Γ.A (execs b Γ.env) (Tn θ Γ ad s r ra) (Eo θ Γ ad s r ra) s1:=
 Gl.use (H.lm b Da.true Γ ja sx1 s1 M1 trivial) c λfl xa w ya s2 c2 uu M2 q=>by
  induction fl using Fl.casesOn with
  |next=>cases(show w=.next from q);exact aa.ok ⟨rfl,ya,c2,M2,trivial⟩
  |cont=>cases(show w=.cont from q);exact aa.ok ⟨rfl,ya,c2,M2,trivial⟩
  |brk=>cases(show w=.brk from q);exact aa.ok ⟨.next,rfl,ya,c2,M2,rfl⟩
  |ret y=>exact Exists.elim q λv z=>by refine rt z.1 ?_;exact aa.ok ⟨.ret y,rfl,ya,c2,M2,v,rfl,z.2⟩
theorem SE(H:o.Ok θ.W)(c:pb θ.W Γ.L ad s ja s1)(M1:Ms θ Γ ja sx1 s1)(b:List Stmt):aa ((o.ex θ.c θ.D b>>=Rn.bz) sx1) λr ra=>wpAny θ.W.m Γ.A (execs b Γ.env) (En θ Γ ad s r ra) (Eo θ Γ ad s r ra) s1:=
 Gl.use (H.lm b Da.true Γ ja sx1 s1 M1 trivial) c λfl xa w ya s2 c2 uu M2 q=>aa.ok ⟨fl,rfl,ya,c2,M2,q⟩
def Lp(θ:Th)(Γ:Bk)(m:Rn (Option Fl))(ad:List Addr)(s:Shared)(f:Except Nat Fl)(loc:Lc)(st:St)(k:Nat)(s1:Shared):Prop:=∃ja sx1,pb θ.W Γ.L ad s ja s1/\Ms θ Γ ja sx1 s1/\Ch m k sx1.loc sx1.st f loc st
noncomputable abbrev Lr(θ:Th)(Γ:Bk)(ad:List Addr)(s:Shared)(f:Except Nat Fl)(sx:Sx)(r:Result)(s':Shared):Prop:=match r with
 |.ok fl=>Qo θ Γ ad s (Fv θ.W) f sx fl s'
 |.error e=>cameBackBy θ.W.m Γ.A Γ.env (Eo θ Γ ad s f sx) e s'
def Lg(θ:Th)(Γ:Bk)(m:Rn (Option Fl))(ad:List Addr)(s:Shared)(f:Except Nat Fl)(loc:Lc)(st:St)(sx:Sx)(k:Nat)(w:Flow)(s3:Shared):Prop:=match w with
 |.next|.cont=>∃j,j<k/\Lp θ Γ m ad s f loc st j s3
 |.brk=>Lr θ Γ ad s f sx (.ok .next) s3
 |.ret v=>Lr θ Γ ad s f sx (.ok (.ret v)) s3
theorem TE(ok:θ.W.Ok){m:Rn (Option Fl)}{f:Except Nat Fl}{loc:Lc}{st:St}(nt:Nt θ.c f loc st sx){k:Nat}(I:Lp θ Γ m ad s f loc st k s1){P:Prop}
  (K:∀ja sx1 r ra l,pb θ.W Γ.L ad s ja s1->Ms θ Γ ja sx1 s1->m sx1=some (r,ra,l)->(∀q∈l,q)->(∀w s3,Tn θ Γ ad s r ra w s3->Lg θ Γ m ad s f loc st sx k w s3)->(∀w s3,En θ Γ ad s r ra w s3->Lr θ Γ ad s f sx (.ok w) s3)->
   (∀x s',Eo θ Γ ad s r ra x s'->notedBy θ.W.m Γ.A Γ.env (λe s'=>Lr θ Γ ad s f sx (.error e) s') x s')->P):P:=
 I.elim λja I=>I.elim λsx1 I=>by
  obtain⟨loc1,st1,LX⟩:=sx1
  have c:Ch _ _ loc1 st1 f loc st:=I.2.2
  induction c using Ch.casesOn with
  |@Ua loc1 st1 hs r ra l f e h z=>
   have en:∀w s3,En θ Γ ad s r ra w s3->Lr θ Γ ad s f sx (.ok w) s3:=λw s3 q=>q.elim λfl q=>by
    replace z:=q.1▸z
    cases z
    exact⟨fl,rfl,q.2.as nt.l (nt.o _ rfl)⟩
   refine K ja ⟨loc1,st1,hs⟩ r ra l I.1 (I.2.1.as rfl rfl) e h (λw s3 q=>?_) en λx s' q=>q.elim λn q=>?_
   ·induction w using Flow.casesOn with
    |next=>replace z:=q.1▸z;contradiction
    |cont=>replace z:=q.1▸z;contradiction
    |brk=>exact en _ _ q
    |ret v=>exact en _ _ q
   ·replace z:=q.1▸z
    cases z
    refine Po.casesOn q.2 λya c2 M2 x2=>?_
    have y:=nt.e n rfl
    exact M2.Pa ok y.1 x2 y.2 λs3 p=>⟨n,rfl,(p.Pa c2).as nt.l rfl⟩
  |@go loc1 st1 hs ra l k' f loc st e h r'=>
   have nx:Po θ Γ ad s ra (λuu uu=>True) s1->True:=λuu=>trivial
   have gx:∀{s3},Po θ Γ ad s ra (λuu uu=>True) s3->∃j,j<k'+1/\Lp θ Γ m ad s f loc st j s3:=λp=>by
    refine Po.casesOn p λya c2 M2 uu=>?_
    exact⟨k',Nat.lt_succ_self _,ya,ra,c2,M2,r'⟩
   refine K ja ⟨loc1,st1,hs⟩ _ ra l I.1 (I.2.1.as rfl rfl) e h (λw s3 q=>?_) (λw s3 q=>q.elim λuu q=>nomatch q.1) λx s' q=>q.elim λn q=>nomatch q.1
   induction w using Flow.casesOn with
   |next=>exact gx q.2
   |cont=>exact gx q.2
   |_=>exact Exists.elim q λuu q=>nomatch q.1
theorem Ev.UE(ok:θ.W.Ok)(H:o.Ok θ.W){t:PySem.Expr}{b r:List Stmt}{p:Pos}{n:Nat}{f:Except Nat Fl}{loc:Lc}{st:St}(ch:Ch (Rn.nf o θ.c θ.D t b r) n sx.loc sx.st f loc st)(nt:Nt θ.c f loc st sx1):Ev θ X (Fv θ.W) (λenv=>exec (.While t b r p) env) sx f sx1:=λΓ ad s M x0=>by
 refine wpAny_While ?_
 refine codeAny_whileLoop (A:=Γ.A) (R:=Lr θ Γ ad s f sx1) (Lp θ Γ (Rn.nf o θ.c θ.D t b r) ad s f loc st) (λk s1 I=>?_) n ⟨ad,sx,.refl,M,ch⟩
 refine TE ok nt I λja sx1 rr ra l c1 M1 e h h1 h2 h3=>?_
 have z:aa (Rn.nf o θ.c θ.D t b r sx1) λrr ra=>wpAny θ.W.m Γ.A (isTrue t Γ.env (eval t Γ.env)) (λq s2=>cond q (wpAny θ.W.m Γ.A (execs b Γ.env) (Tn θ Γ ad s rr ra) (Eo θ Γ ad s rr ra) s2) (wpAny θ.W.m Γ.A (execs r Γ.env) (En θ Γ ad s rr ra) (Eo θ Γ ad s rr ra) s2)) (Eo θ Γ ad s rr ra) s1:=
  Gl.use (H.Vn t Da.true Γ ja sx1 s1 M1 trivial) c1 λq xa v ya s2 c2 uu M2 e=>by
   cases(show q=v from e)
   rcases q with _|_
   ·exact SE H c2 M2 r
   exact RE H c2 M2 b
 refine wpAny_mono (z.get e h) (λq s2 y=>?_) h3
 rcases q with _|_
 ·exact wpAny_mono y h2 h3
 exact wpAny_mono y h1 h3
theorem So.Hu(ok:θ.W.Ok)(H:o.Ok θ.W){t:PySem.Expr}{b r:List Stmt}{p:Pos}:So θ X (Fv θ.W) (Rn.Hu o θ.c θ.D t b r) (λenv=>exec (.While t b r p) env):=λΓ ad sx s M x=>aa.ym ((aa.pf 40 sx).Ba λf sx1 z ee nt=>z.elim λn ch=>Ev.UE ok H ch nt Γ ad s M x)
theorem VE{t:PySem.Expr}(ht:Rn.uo t=true)(M:Ms θ Γ ad sx s){N:Nat}{I w:Value}(q:V θ.W ad s.heap (.ob N) I)(z:Rn.Oq t=true\/∃y i,sx.st[N]?=some (.li y i)){Q:Unit->Shared->Prop}(h:Q () s):wpAny θ.W.m Γ.A (letOwnedTupleGo t I w) Q E s:=by
 induction t using PySem.Expr.casesOn with
 |Tuple ts u p=>
  refine z.elim ft λz=>z.elim λy z=>z.elim λi es=>M.r.on es (λz=>nomatch z) q λa ob hv uu g z=>z.elim λla z=>?_
  refine rt hv ?_
  induction w using Value.casesOn with
  |ref T=>exact wpAny_letOwnedTupleGo_listiter ⟨ob,g,z.2⟩ h
  |_=>exact wpAny_pure h
 |_=>first|exact ft ht|exact wpAny_pure h
theorem aa.wm{β:Type}{t:PySem.Expr}{N:Nat}{g:Unit->Rn β}{K:Except Nat β->Sx->Prop}(H:(Rn.Oq t=true\/∃y i,sx.st[N]?=some (.li y i))->aa (g () sx) K):aa ((Rn.wm t N>>=g) sx) K:=aa.bind (aa.cond (λh uu=>H (.inl h)) λuu=>aa.Ea λo es=>aa.yb λho uu=>H (.inr (by
 induction o using AO.casesOn with
 |li y i=>exact⟨y,i,es⟩
 |_=>exact ft ho)))
theorem WE{e:PySem.Expr}(h:Rn.Lj e=false)(env:PySem.Env)(x:Value):foldedSetIterable e env x=Pure.pure x:=by
 induction e using Expr.casesOn<;>first|rfl|exact ft h.symm
theorem Ev.XE(ok:θ.W.Ok)(hT:lb θ.W T)(H:o.Ok θ.W){t:PySem.Expr}(ht:Rn.uo t=true){b r:List Stmt}{N:Nat}{I:Value}(hX:Da θ.W.mv X)(hI:∀a h,X a h->V θ.W a h (.ob N) I){n:Nat}{f:Except Nat Fl}{loc:Lc}{st:St}(ch:Ch (Rn.Lh o T θ.c θ.D t b r N) n sx.loc sx.st f loc st)(nt:Nt θ.c f loc st sx1):
  Ev θ X (Fv θ.W) (λenv=>runOwn (.forLoop t I b r env) env) sx f sx1:=λΓ ad s M x0=>by
 refine wpAny_runOwn ?_
 refine codeAny_forLoop_any (A:=Γ.A) (R:=Lr θ Γ ad s f sx1) (Lp θ Γ (Rn.Lh o T θ.c θ.D t b r N) ad s f loc st) (λk s1 J=>?_) n ⟨ad,sx,.refl,M,ch⟩
 refine TE ok nt J λja sx1 rr ra l c1 M1 e h h1 h2 h3=>?_
 have z:aa (Rn.Lh o T θ.c θ.D t b r N sx1) λrr ra=>wpAny θ.W.m Γ.A (pyNext I) (λq s2=>match q with
   |none=>wpAny θ.W.m Γ.A (execs r Γ.env) (En θ Γ ad s rr ra) (Eo θ Γ ad s rr ra) s2
   |some v=>wpAny θ.W.m Γ.A (letOwnedTupleGo t I v) (λuu s2=>wpAny θ.W.m Γ.A (assign t Γ.env v) (λuu s3=>wpAny θ.W.m Γ.A (execs b Γ.env) (Tn θ Γ ad s rr ra) (Eo θ Γ ad s rr ra) s3) (Eo θ Γ ad s rr ra) s2) (Eo θ Γ ad s rr ra) s2) (Eo θ Γ ad s rr ra) s1:=
  Gl.use (So.lh ok hI Γ ja sx1 s1 M1 (c1.Ba M hX x0)) c1 λq xa v ya s2 c2 uu M2 e=>by
   rcases q with _|y
   ·cases(show v=none from e);exact SE H c2 M2 r
   exact Exists.elim e λw e=>by
    refine rt e.1 ?_
    exact aa.wm λhS=>(Gl.use (So.vm ok hT H (X:=λa h=>V θ.W a h y w) (Da.V θ.W y w) (λuu uu z=>z) Γ ya xa s2 M2 e.2) c2 λuu Px uu ic s3 c3 uu M3 uu=>RE H c3 M3 b).Ba λuu uu h=>VE ht M2 (hI _ _ (c2.Ba M hX x0)) hS h
 refine wpAny_mono (z.get e h) (λq s2 y=>?_) h3
 rcases q with _|v
 ·exact wpAny_mono y h2 h3
 exact wpAny_mono y (λuu uu y=>wpAny_mono y (λuu uu y=>wpAny_mono y h1 h3) h3) h3
theorem YE{it:PySem.Expr}(hs:Rn.Lj it=false)(t:PySem.Expr)(b r:List Stmt)(p:Pos)(env:PySem.Env):exec (.For t it b r p) env=(standAt p>>=λuu=>eval it env>>=λx=>standAt it.pos>>=λuu=>PySem.holding [x] (pyIter x)>>=λi=>runOwn (.forLoop t i b r env) env):=by
 refine rt (arm_exec_For ..) ?_
 simp only [WE hs,bind_assoc,pure_bind]
theorem So.Iu(ok:θ.W.Ok)(hT:lb θ.W T)(H:o.Ok θ.W)(hX:Da θ.W.mv X){t it:PySem.Expr}{b r:List Stmt}{p:Pos}:So θ X (Fv θ.W) (Rn.Iu o T θ.c θ.D t it b r) (λenv=>exec (.For t it b r p) env):=Yy λhs=>So.yb λht=>
 So.Nb (YE hs t b r p) (So.Jb (So.bind hX (H.Sb it hX) λx xv=>So.Jb (So.bind hX.V' (So.holding (So.Kj ok λuu uu z=>z.2)) λi iv=>So.Ea λN eN=>λΓ ad sx s M x=>aa.ym ((aa.pf 40 sx).Ba λf sx1 z ee nt=>z.elim λn ch=>Ev.XE ok hT H ht hX.V'.V' (λuu uu z=>SV.Bg eN▸z.2) ch nt Γ ad s M x))))
end
end
section
variable {kz:Nat}
namespace Rn
noncomputable def Tg.lM:Tg->Option Str
 |.name x=>some x
 |_=>none
noncomputable def Mj(sc:Scope)(ts:List PySem.Expr):List Str:=ts.filterMap λt=>((tg t).bind Tg.lM).bind λx=>cond (sc.names.lookup x==some .local&&t.pos.line==(ts.head?.map (·.pos.line)).getD 0) (some x) none
noncomputable def ZE(sc:Scope)(ts:List PySem.Expr)(v:PySem.Expr):Option (Option (List Str)):=match Pq v with
 |none=>some none
 |some vs=>cond (!(ts.length==2||ts.length==3)||vs.length !=ts.length||ScopeKind.function !=.function) (some none) (cond (vs.any gj) (some none) (cond ((Mj sc ts).length !=ts.length||(Mj sc ts).eraseDups.length !=(Mj sc ts).length) (some none)
   (cond (vs.all (foldedForSure 8)) (some none) (cond (vs.all (constantsAlone 8)) none (some (some (Mj sc ts)))))))
noncomputable def Dn(c:Cx):List Str->List SV->Rn Unit
 |[],[]=>Pure.pure ()
 |x::xs,v::vs=>Kd c x v>>=λuu=>Dn c xs vs
 |_,_=>qa
noncomputable def Ju(o:Ka)(T:Tb)(c:Cx)(D:Nat)(ts:List PySem.Expr)(v:PySem.Expr):Rn Fl:=cond (bh c.scope.kind&&!qm v) (Ea (ZE c.scope ts v)>>=λq=>match q with
  |none=>o.ev c D v>>=λx=>so o T c D ts x>>=λuu=>Pure.pure .next
  |some names=>o.ev c D v>>=λx=>jo c.hn names.length x>>=λl=>Dn c names.reverse l.reverse>>=λuu=>Pure.pure .next) qa
end Rn
section
variable {θ:Th}{X:Hp}{T:Tb}{o:Ka}
theorem aF{k:ScopeKind}(h:bh k=true):k=.function:=by
 induction k using ScopeKind.casesOn<;>first|rfl|exact ft h
theorem mM{b1 b2 b3 b4 b5:Bool}{n:List Str}{q:Option (List Str)}{t:Sem (Option (List Str))}(e:cond b1 (some none) (cond b2 (some none) (cond b3 (some none) (cond b4 (some none) (cond b5 none (some (some n))))))=some q):
  (if b1=true then Pure.pure none else if b2=true then Pure.pure none else if b3=true then Pure.pure none else if b4=true then Pure.pure none else if b5=true then t else Pure.pure (some n):Sem (Option (List Str)))=Pure.pure q:=by
 rcases b1 with _|_
 ·rcases b2 with _|_
  ·rcases b3 with _|_
   ·rcases b4 with _|_
    ·rcases b5 with _|_
     ·cases e;rfl
     contradiction
    cases e;rfl
   cases e;rfl
  cases e;rfl
 cases e;rfl
theorem nM{ts:List PySem.Expr}{v:PySem.Expr}{u:Nat}{p:Pos}{q:Option (List Str)}{env:PySem.Env}(hk:env.scope.kind=.function)(e:Rn.ZE env.scope ts v=some q):swappedStores [.Tuple ts u p] v env=Pure.pure q:=by
 have hb:env.blockKind=.function:=by unfold Env.blockKind;refine rt hk ?_;rfl
 have hs:∀vs:List PySem.Expr,vs.any Rn.gj=vs.any λe=>match e with|.Starred ..=>true|_=>false:=λvs=>congrArg vs.any (funext λe=>by induction e using Expr.casesOn<;>rfl)
 have hn:Rn.Mj env.scope ts=ts.filterMap λt=>match t with
   |.Name id pos=>if(env.kindOf id==some .local&&pos.line==(ts.head?.map (·.pos.line)).getD 0)=true then some id else none
   |_=>none:=congrArg (λf=>List.filterMap f ts) (funext λt=>by
  induction t using Expr.casesOn with
  |Name id pos=>exact Bool.cond_eq_ite ..
  |_=>rfl)
 unfold swappedStores
 refine rt hb ?_
 induction v using PySem.Expr.casesOn with
 |Tuple vs _ _=>
  have e:cond _ _ (cond (vs.any Rn.gj) _ (cond ((Rn.Mj env.scope ts).length !=_||(Rn.Mj env.scope ts).eraseDups.length !=(Rn.Mj env.scope ts).length) _ (cond _ _ (cond _ none (some (some (Rn.Mj env.scope ts)))))))=some q:=e
  replace e:=(hs ..)▸(hn ..)▸e
  exact mM e
 |_=>exact congrArg Pure.pure (Option.some.inj e)
theorem So.cF(ok:θ.W.Ok):∀{ns:List Str} {l:List SV} {vs:List Value} {X:Hp},Da θ.W.mv X->(∀a h,X a h->Vs θ.W a h l vs)->So θ X Uv (Rn.Dn θ.c ns l) (λenv=>assignInOrder (ns.map λn=>PySem.bindName env n) vs)
 |[],[],vs,X,hX,q=>So.pure (b:=()) (v:=()) λuu uu uu=>trivial
 |n::ns,x::xs,vs,X,hX,q=>So.ye (P:=∃v r,vs=v::r) (λa h z=>by induction(q a h z:Ta ..) using Ta.casesOn with|mk v r _ _=>
  exact⟨v,r,rfl⟩) λe=>e.elim λv e=>e.elim λr e=>by
  subst e
  refine(?_:So θ X Uv (Rn.Kd θ.c n x>>=λuu=>Rn.Dn θ.c ns xs) (λenv=>PySem.holding r (PySem.bindName env n v)>>=λuu=>assignInOrder (ns.map λn=>PySem.bindName env n) r))
  refine So.bind hX (So.holding (So.bindName ok λa h z=>?_)) λuu uu=>So.cF ok (hX.and Da.true) λa h z=>?_
  ·cases(q a h z:Ta ..) with|mk _ _ q _=>exact q
  ·cases(q a h z.1:Ta ..) with|mk _ _ _ q=>exact q
 |[],_::_,_,_,_,_=>So.qa
 |_::_,[],_,_,_,_=>So.qa
theorem Vs.reverse{W:Wd}{ad:List Addr}{h:Heap}:∀{l:List SV} {vs:List Value},Vs W ad h l vs->Vs W ad h l.reverse vs.reverse
 |[],_,q=>by refine rt (show _=[] from q) ?_;exact rfl
 |x::l,_,q=>by
  refine Ta.casesOn (q:Ta ..) λv r q z=>?_
  refine rt (List.reverse_cons ..) (rt (List.reverse_cons ..) ?_)
  exact(Vs.reverse z).append (Vs.Ua q)
theorem So.Ju(ok:θ.W.Ok)(hT:lb θ.W T)(H:o.Ok θ.W)(hX:Da θ.W.mv X){ts:List PySem.Expr}{v:PySem.Expr}{u:Nat}{tp p:Pos}:So θ X (Fv θ.W) (Rn.Ju o T θ.c θ.D ts v) (λenv=>exec (.Assign [.Tuple ts u tp] v p) env):=So.yb λhc=>So.Ea λq hq=>by
 have hc:=(Bool.and_eq_true _ _).mp hc
 have hn:Rn.qm v=false:=by simpa using hc.2
 have e0:∀env,θ.c.scope=env.scope->exec (.Assign [.Tuple ts u tp] v p) env=(standAt p>>=λuu=>eval v env>>=λw=>assignStores env w q ((assignEach [.Tuple ts u tp] env).map (·.2))):=λenv he=>by
  refine(arm_exec_Assign ..).symm▸(show swapsWithSole [.Tuple ts u tp] v p.line env=Pure.pure false from Xy hn (some (.Tuple ts u tp)) p.line env).symm▸(nM (by rw[<-he];exact aF hc.1) (he▸hq) ..).symm▸?_
  rfl
 rcases q with _|names
 ·exact So.zt (So.Jb (So.bind hX (H.Sb v hX) λb w=>So.then hX.V' (So.so ok hT H hX.V' (u:=u) λa h z=>z.2) So.next)) e0
 exact So.zt (So.Jb (So.bind hX (H.Sb v hX) λb w=>So.dK (So.bind hX.V' (So.jo ok λa h z=>z.2) λl vs=>So.then (hX.V'.and (Da.Vs θ.W l vs)) (So.cF ok (hX.V'.and (Da.Vs θ.W l vs)) λa h z=>z.2.reverse) So.next))) e0
end
theorem fF:∀{ns:List Str} {vs:List Value} {n:Str},n∈ns->ns.length<=vs.length->((ns.zip vs).lookup n).isSome=true
 |[],_,_,m,_=>nomatch m
 |x::ns,[],_,_,h=>nomatch h
 |x::ns,v::vs,n,m,h=>by
  rw[List.zip_cons_cons,List.lookup_cons]
  by_cases e:n=x
  ·rw[e,beq_self_eq_true];rfl
  ·refine rt (show(n==x)=false from beq_eq_false_iff_ne.mpr e) ?_
   exact(List.mem_cons.mp m).elim (λq=>absurd q e) λm=>fF m (Nat.le_of_succ_le_succ h)
theorem gF{l:List (Str×Value)}:∀{ns:List Str} {vs:List Value},ns.length=vs.length->(∀p∈ns.zip vs,l.lookup p.1=some p.2)->ns.filterMap (λn=>(l.lookup n).map (n,·))=ns.zip vs
 |[],_,_,_=>rfl
 |_::_,[],h,_=>nomatch h
 |x::ns,v::vs,h,k=>by
  refine rt (List.filterMap_cons ..) (rt (List.zip_cons_cons ..) (rt (k (x,v) (List.mem_cons_self ..) ..) ?_))
  exact congrArg _ (gF (Nat.succ.inj h) λp m=>k p (List.mem_cons_of_mem _ m))
theorem iF:∀{ns:List Str} {vs:List Value},ns.Nodup->∀p∈ns.zip vs,(ns.zip vs).lookup p.1=some p.2
 |[],_,_,_,m=>nomatch m
 |_::_,[],_,_,m=>nomatch m
 |x::ns,v::vs,nd,p,m=>by
  rw[List.zip_cons_cons] at m ⊢
  rw[List.lookup_cons]
  cases m with
  |head=>rw[beq_self_eq_true]
  |tail _ m=>
   refine rt (show(p.1==x)=false from beq_eq_false_iff_ne.mpr λe=>(List.nodup_cons.mp nd).1 (e▸(List.of_mem_zip m).1)) ?_
   exact iF (List.nodup_cons.mp nd).2 p m
theorem jF{α β γ:Type}{l:List α}(e:l=[]){b:β}{f:α->β->Sem (ForInStep β)}{k:β->Sem γ}:(forIn l b f>>=k)=k b:=by
 refine rt e ?_
 rfl
theorem kF{fd:FuncData}{as:List Arg}{kwd:List (Option PySem.Expr)}{ds:List PySem.Expr}(hp:fd.params=⟨[],as,none,[],kwd,none,ds⟩)(hd:fd.defaults=.none)(nd:(as.map (·.arg)).Nodup){vals:List Value}(hl:vals.length=as.length):
  bindArgs fd ⟨vals,[]⟩=Pure.pure ((as.map (·.arg)).zip vals):=by
 induction fd using FuncData.casesOn
 cases hp
 cases hd
 have hn:(as.map (·.arg)).length=vals.length:=by exact(List.length_map ..).symm▸(hl ..).symm▸rfl
 have h1:¬((decide (vals.length>(as.map (·.arg)).length)&&(none:Option Arg).isNone)=true):=by refine rt (hn ..) (rt (decide_eq_false (Nat.lt_irrefl _) ..) ?_);exact ft
 have h2:¬((!(List.filter (λn=>(((as.map (·.arg)).zip vals).lookup n).isNone) ((as.map (·.arg)).take ((as.map (·.arg)).length - (([]:List Value).drop (0 - (as.map (·.arg)).length)).length))).isEmpty)=true):=by
  rw[List.drop_nil,show(as.map (·.arg)).length - ([]:List Value).length=(as.map (·.arg)).length from rfl,List.take_length,List.filter_eq_nil_iff.mpr λn hn' q=>?_]
  ·exact ft
  ·have:=fF hn' (Nat.le_of_eq hn)
   replace this:=(Option.isNone_iff_eq_none.mp q ..)▸this
   exact ft this
 have h3:((as.map (·.arg)).drop ((as.map (·.arg)).length - (([]:List Value).drop (0 - (as.map (·.arg)).length)).length)).zip (([]:List Value).drop (0 - (as.map (·.arg)).length))=[]:=by exact(List.drop_nil ..).symm▸(List.zip_nil_right ..).symm▸rfl
 refine(if_neg h1).trans ((if_neg h2).trans ((jF h3).trans ?_))
 refine congrArg (Pure.pure (f:=Sem)) (Eq.trans ?_ (gF hn (iF nd)))
 exact congrArg (List.filterMap _) (List.append_nil _)
theorem Ku{W:Wd}{ad:List Addr}{h:Heap}:∀{ns:List Str} {vs:List SV} {ws:List Value},Vs W ad h vs ws->ns.length=vs.length->Kv W ad h (ns.zip vs) (ns.zip ws)
 |[],[],ws,q,_=>by refine rt (show ws=[] from q) ?_;exact .nil
 |n::ns,v::vs,_,q,hl=>by
  refine Ta.casesOn (q:Ta ..) λw r q z=>?_
  exact .cons q (Ku z (Nat.succ.inj hl))
 |[],_::_,_,_,hl=>nomatch hl
 |_::_,[],_,_,hl=>nomatch hl
theorem oM{W:Wd}{f:Addr}{fi:ah}{o:Obj}{fd:FuncData}{as:List Arg}{kwd:List (Option PySem.Expr)}{ds:List PySem.Expr}(ho:W.K.lookup f=some o)(hd:o.data=.func fd)(hs:fd.scope=fi.scope)(hc:fd.closure=[])(hb:fd.body=.stmts fi.body)
  (hg:fd.globals=mainGlobals) (hi:fd.builtins=builtinsNs) (Up:codeIn W.K fd.code fd.qualname=true) (Sf:∀p,fi.me=some p->fd.code=.ref p.1/\fd.qualname++Str.ofString ".<locals>."=p.2) (co:fi.scope.isCoroutine=false) (gen:fi.scope.isGenerator=false)
  (hp:fd.params=⟨[],as,none,[],kwd,none,ds⟩) (Rl:fd.defaults=.none) (hn:as.map (·.arg)=fi.params) (nd:fi.params.Nodup) (RV:fi.Xf=[]):Kk W f fi:=⟨λh K=>⟨fd,⟨⟨o,K _ _ ho,hd⟩,hs,hc,hb,hg,hi,codeRec_of K Up,co,gen⟩,Sf,λs ad vs ws bs gn e q uu uu=>by
 have e:cond _ _ none=some bs:=e
 replace e:=RV▸e
 revert e
 rcases hle:Nat.ble vs.length fi.params.length&&Nat.ble fi.params.length (vs.length+0) with _|_
 ·exact Fa
 intro e
 have h:=(Bool.and_eq_true _ _).mp hle
 have hl:fi.params.length=vs.length:=Nat.le_antisymm (Nat.le_of_ble_eq_true h.2) (Nat.le_of_ble_eq_true h.1)
 have e:some (fi.params.zip (vs++([]:List SV).drop _))=some bs:=e
 replace e:=(List.append_nil ..)▸(List.drop_nil ..)▸e
 replace e:=Option.some.inj e;subst e
 refine⟨fi.params.zip ws,.of_eq ?_,Ku q hl⟩
 rw[<-hn] at nd hl ⊢
 exact kF hp Rl nd (by exact(q.length ..).symm▸(hl ..)▸(List.length_map ..).symm▸rfl)⟩⟩
end
section
variable {kz:Nat}
namespace Rn
noncomputable def Lu(t:Ty)(vs:List SV):Rn SV:=match t with
 |.range=>Ua vs λx s=>x.Kc.bind λn=>some (.ok (.rg n),s,[])
 |.list=>Ua vs λx s=>(Hk s.st x).bind λl=>some (.ok (.fl l),s,[l.length<=100000])
 |_=>qa
noncomputable def cz(l:List SV)(lo hi:Option Int):List SV:=(sliceRange (sliceBounds lo hi none l.length).1 (sliceBounds lo hi none l.length).2.1 (sliceBounds lo hi none l.length).2.2).filterMap (l[·]?)
noncomputable def zm(x:SV):Option (Option Int):=cond (Kh x) (some none) (x.Kc.bind λi=>some (some i))
noncomputable def vo(o:Ka)(c:Cx)(D:Nat):Option PySem.Expr->Rn SV
 |none=>Pure.pure .nn
 |some e=>o.ev c D e
noncomputable def Eg(o:AO)(l:List Prop):Rn SV:=λs=>some (.ok (.ob s.st.length),{s with st:=s.st++[o]},l)
noncomputable def pM(ll l:List SV):Option Hd->Rn SV
 |none=>Eg (.Ha l) [ll.length<=100000]
 |some d=>match d with
  |.list r=>Eg (.Ha r) [ll.length<=100000,l=r]
  |_=>qa
noncomputable def mh(p:Pos)(x l u:SV):Rn SV:=hint p>>=λd s=>(zm l).bind λlo=>(zm u).bind λhi=>match x.ti with
 |some t=>cond d.isNone (some (.ok (.st (Txt.slice t lo hi)),s,[t.length<=100000])) none
 |none=>(Hk s.st x).bind λll=>pM ll (cz ll lo hi) d s
noncomputable def AO.qM:AO->Option (List Value×List SV)
 |.ls pre L l=>cond L.isEmpty (some (pre,l)) none
 |_=>none
noncomputable def Mu(st:St)(x:SV):Option (List Value×List SV):=x.mf.bind λn=>(st[n]?).bind AO.qM
noncomputable def fz(q:List Value×List SV)(l u:SV):Rn SV:=λs=>cond (Kh u) (l.Kc.bind λa=>Eg (.Ha q.2) [a=q.1.length,q.1.length+q.2.length<=100000] s) (cond (Kh l) (u.Kc.bind λa=>Eg (.ls q.1 [] []) [a=q.1.length,q.1.length+q.2.length<=100000] s) none)
noncomputable def Nu(p:Pos)(x l u:SV):Rn SV:=λs=>match Mu s.st x with
 |some q=>fz q l u s
 |none=>mh p x l u s
noncomputable def Ou(o:Ka)(c:Cx)(D:Nat)(e:PySem.Expr)(lo hi:Option PySem.Expr)(p:Pos):Rn SV:=
 o.ev c D e>>=λx=>(vo o c D lo>>=λl=>vo o c D hi>>=λu=>Pure.pure (l,u))>>=λq=>Nu p x q.1 q.2
noncomputable def mF(x:SV):Bool:=Nat.beq x.ctorIdx 6||Nat.beq x.ctorIdx 7
noncomputable def rM(T:Tb)(st:St)(c x:SV):Option Bool:=match x with
 |.it _=>T.Ih 0 c
 |.st _=>T.Ih 1 c
 |.nn=>T.Ih 2 c
 |x=>(xq st x).bind λp=>(Jn st p.2).bind λuu=>T.We p.1 c
noncomputable def Pu(T:Tb)(x c:SV):Rn SV:=get λs=>cond (mF c) ((rM T s.st c x).bind λb=>some (.bo b)) none
end Rn
section
variable {θ:Th}{X:Hp}{T:Tb}{o:Ka}
theorem So.Lu(ok:θ.W.Ok){t:Ty}{args:List SV}{v:Value}{ws:List Value}(hX:∀a h,X a h->V θ.W a h (.ty t) v/\Vs θ.W a h args ws):So θ X (Rv θ.W) (Rn.Lu t args) (λuu=>PySem.call v ws):=So.ye (P:=v=.type t.nm) (λa h x=>(hX a h x).1) λe=>by
 refine rt e ?_
 have h2:=λa h q=>(hX a h q).2
 induction t using Ty.casesOn with
 |range=>
  exact So.Ua h2 λx w ew hx=>λΓ ad sx s M q=>aa.Ea λn en=>aa.ok<|by
   have q:=hx _ _ q
   replace q:=(SV.Zf en ..)▸q
   refine q.elim λt q=>?_
   refine rt ew (rt q ?_)
   exact call_range_1 ⟨.rg n,rfl,M.Ae ok _ _ (.mk s.heap.objs.size _ _ _ (Heap.get?_push_size _ rfl) (M.fresh (Nat.le_refl _)))⟩
 |list=>
  exact So.Ua h2 λx w ew hx=>λΓ ad sx s M q=>aa.Ea λl el=>aa.Ua λhz=>Wn M.r (hx _ _ q) el λa vs n hv g p2=>by
   refine rt ew (rt hv ?_)
   refine call_list_seq a (.inl rfl) g rfl rfl (λh' c' k e1=>⟨.fl l,rfl,?_⟩) (by refine(List.size_toArray ..).symm▸(p2.length ..).symm▸?_;exact eh hz (by decide))
   have fx:Fx s.heap.objs.size s.heap h':=⟨Nat.le_of_lt (Heap.lt_size e1),λb o uu e=>k b o e⟩
   exact M.Et ok fx s.toks (.mk s.heap.objs.size vs c' e1 ((M.rb fx s.toks).vs M p2) (M.fresh (Nat.le_refl _)))
 |_=>exact So.qa
theorem So.vo(H:o.Ok θ.W)(hX:Da θ.W.mv X){e:Option PySem.Expr}:So θ X (Rv θ.W) (Rn.vo o θ.c θ.D e) (λenv=>valueOrNone (evalOpt e env)):=by
 rcases e with _|e
 ·exact So.pure (b:=SV.nn) (v:=Value.none) λuu uu uu=>rfl
 exact H.Sb e hX
inductive Qu(h:Heap)(P Q:Value->Prop):Value->Prop
 |mk (z:Addr) (lv uv:Value) (e:h.get? z=some ⟨.type "slice",none,.fields #[lv,uv,.none],#[]⟩) (p:P lv) (q:Q uv):Qu h P Q (.ref z)
noncomputable abbrev gz(W:Wd):SV×SV->Value->Hp:=λq v a h=>Qu h (V W a h q.1) (V W a h q.2) v
theorem iz{W:Wd}{ad:List Addr}{h:Heap}{l:List SV}{vs:List Value}(q:Vs W ad h l vs):∀idx:List Nat,Vs W ad h (idx.filterMap (l[·]?)) (idx.filterMap (vs.toArray[·]?))
 |[]=>rfl
 |i::r=>by
  refine rt (List.filterMap_cons ..) (rt (List.filterMap_cons ..) (rt (List.getElem?_toArray ..) ?_))
  rcases e:l[i]? with _|x
  ·refine rt (show vs[i]?=none from List.getElem?_eq_none_iff.mpr (q.length▸List.getElem?_eq_none_iff.mp e)) ?_
   exact iz q r
  exact(q.get e).elim λv z=>by refine rt z.1 ?_;exact⟨v,_,z.2,iz q r⟩
theorem Ru{W:Wd}{ad:List Addr}{h:Heap}{x:SV}{v:Value}{k:Option Int}{G:Prop}(q:V W ad h x v)(e:Rn.zm x=some k)(K:IsPart v k->∀p:Option (Int×Tok),v=partValue p->p.map (·.1)=k->G):G:=by
 have e:cond (Rn.Kh x) (some none) (x.Kc.bind λi=>some (some i))=some k:=e
 induction x using SV.casesOn with
 |nn=>cases e;subst q;exact K .none none rfl rfl
 |it i=>cases e;exact q.elim λt q=>by replace K:=q▸K;exact K (.int _ t) (some (i,t)) rfl rfl
 |_=>exact Fa e
noncomputable abbrev Qq(value slice:PySem.Expr)(v i:Value):Sem Value:=do
 let r <-subscripted slice (<-getitemInPython v) v i
 letTemporaryGo value v r
 Pure.pure r
theorem nF{Γ:Bk}{s:Shared}{a z:Addr}{vs:List Value}{n:Nat}{lv uv:Value}{lo hi:Option Int}{value slice:PySem.Expr}{Q E:Value->Shared->Prop}(g:s.heap.get? a=some ⟨.type "list",none,.seq (List.toArray vs) n,#[]⟩)(ez:s.heap.get? z=some ⟨.type "slice",none,.fields #[lv,uv,.none],#[]⟩)(pl:IsPart lv lo)(pu:IsPart uv hi)(hz:vs.length<=100000)
  (k:Q (.ref s.heap.objs.size) {s with heap:=s.heap.push {cls:=.type "list",data:=.seq ((sliceRange (sliceBounds lo hi none vs.length).1 (sliceBounds lo hi none vs.length).2.1 (sliceBounds lo hi none vs.length).2.2).filterMap (vs.toArray[·]?)).toArray}}):wpAny θ.W.m Γ.A (Qq value slice (.ref a) (.ref z)) Q E s:=by
 have l:s.heap.IsList a vs.toArray:=⟨_,g,rfl,n,rfl⟩
 refine zy (T:="list") l.typeIs slot_list_getitem.lookup (wpAny_getItem_list_slice l ⟨_,ez,rfl,rfl⟩ pl pu .none (λe=>nomatch e) ?_ (by refine(List.size_toArray ..).symm▸?_;exact eh hz (by decide)))
 exact k
theorem So.mh(ok:θ.W.Ok){p:Pos}{x l u:SV}{v i:Value}{value slice:PySem.Expr}(hX:∀a h,X a h->V θ.W a h x v/\gz θ.W (l,u) i a h):So θ X (Rv θ.W) (Rn.mh p x l u) (λuu=>Qq value slice v i):=So.hint λd Γ ad sx s M q=>aa.Ea λlo bD=>aa.Ea λhi cD=>by
 have q1:=(hX _ _ q).1
 refine Qu.casesOn ((hX _ _ q).2) λz lv uv ez q2 q3=>?_
 refine Ru q2 bD λpl pJ ql qJ=>Ru q3 cD λpu rJ qu sJ=>?_
 rcases ex:x.ti with _|t
 ·refine aa.Ea λls el=>Wn M.r q1 el λa vs n hv g p2=>?_
  refine rt hv ?_
  have run:∀rl,Rn.cz ls lo hi=rl->ls.length<=100000->wpAny θ.W.m Γ.A (Qq value slice (.ref a) (.ref z)) (Qo θ Γ ad s (Rv θ.W) (.ok (.ob sx.st.length)) ⟨sx.loc,sx.st++[.Ha rl],sx.hs⟩) (Eo θ Γ ad s (.ok (.ob sx.st.length):Except Nat SV) ⟨sx.loc,sx.st++[.Ha rl],sx.hs⟩) s:=λrl er hz=>by
   refine nF g ez pl pu (p2.length▸hz) ⟨_,rfl,M.own ok s.toks (ao:=.Ha rl) rfl ⟨_,0,rfl,(M.ro _ s.toks).vs M ?_⟩ ⟨_,M.nm _,rfl⟩⟩
   refine(er ..)▸(p2.length ..).symm▸?_
   exact iz p2 _
  rcases d with _|d
  ·exact aa.Ua (run _ rfl)
  induction d using Hd.casesOn with
   |list r=>exact λh=>run r (h _ (.tail _ (.head _))) (h _ (.head _))
   |_=>trivial
 refine aa.yb λuu=>aa.Ua λhz=>?_
 replace q1:=(SV.Zl ex ..)▸q1
 refine q1.elim λtk hv=>?_
 refine rt hv ?_
 refine zy (T:="str") (typeIs_str _ _ _) F.slot_str_getitem.lookup ?_
 replace ez:=qu▸ql▸ez
 refine rl qJ (rl sJ ?_)
 exact wpAny_getItem_str_slice (l:=pJ) (u:=rJ) (st:=none) ⟨_,ez,rfl,rfl⟩ rfl (post_val_or_str ⟨Nat.le_trans (Txt.slice_le t _ _) (eh hz (by decide)),λt' k=>⟨_,rfl,.same M ⟨_,rfl⟩ _⟩⟩)
theorem oF(vs:List Value)(a b:Nat):(sliceRange a b 1).filterMap (vs.toArray[·]?)=(vs.drop a).take (b - a):=by
 refine rt (sliceRange_one ..) (rt (List.filterMap_map ..) ?_)
 have key:∀k:Nat,(List.range k).filterMap ((vs.toArray[·]?) ∘ (a+·))=(vs.drop a).take k:=λk=>by
  induction k with
  |zero=>rfl
  |succ k ih=>
   refine rt (List.range_succ ..) (rt (List.filterMap_append ..) (rt (ih ..) (rt (List.take_succ ..) (rt (List.getElem?_drop ..) ?_))))
   have h:∀o:Option Value,List.filterMap (λ(uu:Nat)=>o) [k]=o.toList:=λo=>by induction o using Option.casesOn<;>rfl
   exact congrArg _ ((h _).trans (congrArg Option.toList List.getElem?_toArray))
 exact key _
theorem sM{st:St}{x:SV}{q:List Value×List SV}{G:Prop}(e:Rn.Mu st x=some q)(K:∀n,x=.ob n->st[n]?=some (.ls q.1 [] q.2)->G):G:=obs e λn e1 e=>obs e λo e2 e3=>by
 induction o using AO.casesOn with
 |ls pre L l=>
  rcases L with _|⟨_,_⟩
  ·cases e3;exact K n (SV.Bg e1) e2
  exact Fa e3
 |_=>exact Fa e3
theorem So.Nu(ok:θ.W.Ok){p:Pos}{x l u:SV}{v i:Value}{value slice:PySem.Expr}(hX:∀a h,X a h->V θ.W a h x v/\gz θ.W (l,u) i a h):So θ X (Rv θ.W) (Rn.Nu p x l u) (λuu=>Qq value slice v i):=λΓ ad sx s M q=>by
 refine(?_:aa (match Rn.Mu sx.st x with|some q=>Rn.fz q l u sx|none=>Rn.mh p x l u sx) _)
 induction eq:Rn.Mu sx.st x using Option.casesOn with
 |none=>exact So.mh ok hX Γ ad sx s M q
 |some qq=>
  refine sM eq λn ex es=>?_
  have q1:=(hX _ _ q).1
  replace q1:=ex▸q1
  refine M.r.on es (λz=>nomatch z) q1 λa ob hv ea g zz=>zz.2.2.elim λvs y=>y.elim λm y=>?_
  have hp:=zz.2.1
  replace g:=y.1▸g
  refine rt hv ?_
  induction y.2 using Ac.casesOn with
  |mk v1 v2 r1 r2=>
   cases(show v1=[] from r1)
   replace g:=(List.append_nil ..)▸g
   refine Qu.casesOn ((hX _ _ q).2) λz lv uv ez q2 q3=>?_
   have run:∀{lo hi:Option Int} {ao:AO},Rn.zm l=some lo->Rn.zm u=some hi->qq.1.length+qq.2.length<=100000->
     (∀h' o',o'=((sliceRange (sliceBounds lo hi none (qq.1++v2).length).1 (sliceBounds lo hi none (qq.1++v2).length).2.1 (sliceBounds lo hi none (qq.1++v2).length).2.2).filterMap ((qq.1++v2).toArray[·]?))->Vs θ.W (ad++[s.heap.objs.size]) h' qq.2 v2->Oc θ.W (ad++[s.heap.objs.size]) h' s.heap.objs.size {cls:=.type "list",data:=.seq o'.toArray} ao)->
     wpAny θ.W.m Γ.A (Qq value slice (.ref a) (.ref z)) (Qo θ Γ ad s (Rv θ.W) (.ok (.ob sx.st.length)) ⟨sx.loc,sx.st++[ao],sx.hs⟩) (Eo θ Γ ad s (.ok (.ob sx.st.length):Except Nat SV) ⟨sx.loc,sx.st++[ao],sx.hs⟩) s:=λ{lo hi ao} bD cD hz ho=>Ru q2 bD λpl pJ ql qJ=>Ru q3 cD λpu rJ qu sJ=>
    nF g ez pl pu (by refine rt (List.length_append ..) (rt (r2.length ..) ?_);exact hz) ⟨_,rfl,M.own ok s.toks (ao:=ao) rfl (ho _ _ rfl ((M.ro _ s.toks).vs M r2)) ⟨_,M.nm _,rfl⟩⟩
   unfold Rn.fz
   refine aa.cond (λhu=>aa.Ea λa el h=>?_) λuu=>aa.yb λhl=>aa.Ea λa eu h=>?_
   ·have h1:a=qq.1.length:=h _ (.head _)
    refine run (lo:=some (qq.1.length:Int)) (hi:=none) (by refine(SV.Zf el ..).symm▸(h1 ..).symm▸?_;rfl) (by unfold Rn.zm;refine rt hu ?_;rfl) (h _ (.tail _ (.head _))) λh' o' e r2=>⟨v2,0,?_,r2⟩
    have hb:sliceBounds (some (qq.1.length:Int)) none none (qq.1++v2).length=((qq.1.length:Int),((qq.1++v2).length:Int),1):=by
     unfold sliceBounds
     simp
     lia
    refine rt e (rt hb ?_)
    dsimp only
    rw[oF,List.drop_left,List.take_of_length_le (by refine rt (List.length_append ..) ?_;lia)]
   ·have h1:a=qq.1.length:=h _ (.head _)
    refine run (lo:=none) (hi:=some (qq.1.length:Int)) (by unfold Rn.zm;refine rt hl ?_;rfl) (by refine rt (SV.Zf eu ..) (rt (h1 ..) ?_);rfl) (h _ (.tail _ (.head _))) λh' o' e r2=>⟨rfl,hp,qq.1,0,?_,by
     have z:Ac qq.1 (Vs θ.W (ad++[s.heap.objs.size]) h' []) (Vs θ.W (ad++[s.heap.objs.size]) h' []) (qq.1++[]++[]):=.mk [] [] rfl rfl
     replace z:=(List.append_nil ..)▸(List.append_nil ..)▸z
     exact z⟩
    have hb:sliceBounds none (some (qq.1.length:Int)) none (qq.1++v2).length=(((0:Nat):Int),(qq.1.length:Int),1):=by
     unfold sliceBounds
     simp
     lia
    refine rt e (rt hb ?_)
    dsimp only
    exact(oF ..).symm▸(List.drop_zero ..).symm▸(Nat.sub_zero ..).symm▸(List.take_left ..).symm▸rfl
theorem So.Ou(ok:θ.W.Ok)(H:o.Ok θ.W)(hX:Da θ.W.mv X){e:PySem.Expr}{lo hi:Option PySem.Expr}{sp p:Pos}:So θ X (Rv θ.W) (Rn.Ou o θ.c θ.D e lo hi p) (λenv=>eval (.Subscript e (.Slice lo hi none sp) p) env):=by
 refine So.Nb (λenv=>arm_eval_Subscript e _ p env) (So.bind hX (H.Sb e hX) λx xv=>So.bind hX.V' (rep:=gz θ.W) (So.holding ?_) λq iv=>So.Jb (So.Nu ok λuu uu z=>⟨z.1.2,z.2⟩))
 refine So.Nb (t:=λenv=>valueOrNone (evalOpt lo env)>>=λl=>PySem.holding [l] (valueOrNone (evalOpt hi env))>>=λu=>PySem.holding [l,u] (Pure.pure Value.none)>>=λs=>newFields "slice" [l,u,s]) (λenv=>rfl) (So.bind hX.V' (So.vo H hX.V') λl lv=>So.bind hX.V'.V' (So.holding (So.vo H hX.V'.V')) λu uv=>λΓ ad sx s M z=>aa.ok ?_)
 refine wpAny_bind (wpAny_holding (wpAny_pure ?_))
 unfold newFields
 have c:=M.rb (.push s.heap.objs.size s.heap {cls:=.type "slice",data:=.fields #[lv,uv,.none]}) s.toks
 exact wpAny_newObj_type ⟨(l,u),rfl,M.Ae ok _ _ (.mk s.heap.objs.size lv uv (Heap.get?_push_size _ rfl) (c.v M z.1.2) (c.v M z.2))⟩ (by first|size_fits|trivial|decide)
theorem So.Pu(hT:lb θ.W T){x y:SV}{v w:Value}(hX:∀a h,X a h->V θ.W a h x v/\V θ.W a h y w):So θ X (Rv θ.W) (Rn.Pu T x y) (λuu=>PySem.call (.builtin "isinstance") [v,w]):=So.get λΓ ad sx s r M q e Q E k=>by
 have q1:=(hX _ _ q).1
 have q2:=(hX _ _ q).2
 revert e
 rcases hc:Rn.mF y with _|_
 ·exact Fa
 refine λe=>obs e λb e1 e2=>?_
 have k:=λt=>k (.bool b) (by replace e2:=Option.some.inj e2;subst e2;rfl) t
 refine(show w=Xn y from by induction y using SV.casesOn<;>first|exact q2|exact ft hc).symm▸?_
 have ins:((Rn.xq sx.st x).bind λp=>(Rn.Jn sx.st p.2).bind λuu=>T.We p.1 y)=some b->wpAny θ.W.m Γ.A (PySem.call (.builtin "isinstance") [v,Xn y]) Q E s:=λe=>obs e λp ep e=>obs e λfs ef e1=>M.ins ep ef q1 λa da ox es n hv ed I hd eo hE uu=>by
  have z:=hT.We _ _ _ e1
  refine rt hv ?_
  exact kia_one (kitx_own (x:=a) (ox:=ox) (od:=dictOf es n) z.pg z.hd z.fc z.gd z.tk z.mo) M.ib I z.an (λe=>nomatch e) k
 induction x using SV.casesOn with
 |it i=>exact q1.elim λt q1=>by refine rt q1 ?_;exact kia_one kitx_int M.ib trivial (hT.Ih 0 _ _ e1) (λe=>nomatch e) k
 |st i=>exact q1.elim λt q1=>by refine rt q1 ?_;exact kia_one kitx_str M.ib trivial (hT.Ih 1 _ _ e1) (λe=>nomatch e) k
 |nn=>refine rt (show v=.none from q1) ?_;exact kia_one kitx_none M.ib trivial (hT.Ih 2 _ _ e1) (λe=>nomatch e) k
 |_=>exact ins e1
end
end
section
variable {kz:Nat}
namespace Rn
noncomputable def wo(o:Ka)(c:Cx)(D:Nat):List (Option PySem.Expr)->List PySem.Expr->Rn (List (Str×SV))
 |[],[]=>Pure.pure []
 |some k::ks,v::vs=>o.ev c D k>>=λkv=>o.ev c D v>>=λx=>wo o c D ks vs>>=λr=>Ea kv.ti>>=λs=>Pure.pure ((s,x)::r)
 |_,_=>qa
noncomputable def jz(acc l:List (Str×SV)):List (Str×SV):=l.foldl (λacc p=>pt p.1 p.2 acc) acc
noncomputable def tM(ks:List (Option PySem.Expr))(vs:List PySem.Expr):Bool:=ks.all (·.isSome)&&(Nat.beq ks.length vs.length&&Nat.ble ks.length 15)
noncomputable def uM(N:Nat)(l:List (Str×SV)):Rn SV:=λs=>(s.st[N]?).bind λo=>o.py.bind λfs=>cond (fs.isEmpty&&Nat.ble l.length 15) (some (.ok (.ob N),s.set N (.ns (jz [] l)),[])) none
noncomputable def vM(o:Ka)(c:Cx)(D:Nat)(N:Nat)(ks:List (Option PySem.Expr))(vs:List PySem.Expr):Rn SV:=match ks with
 |[]=>cond vs.isEmpty (Pure.pure (.ob N)) qa
 |k::ks=>cond (tM (k::ks) vs) (wo o c D (k::ks) vs>>=uM N) qa
noncomputable def Su(o:Ka)(c:Cx)(D:Nat)(ks:List (Option PySem.Expr))(vs:List PySem.Expr):Rn SV:=λs=>vM o c D s.st.length ks vs {s with st:=s.st++[.ns []]}
end Rn
section
variable {W:Wd}{ad:List Addr}{h:Heap}
inductive Pr(W:Wd)(ad:List Addr)(h:Heap):List (Str×SV)->List (Value×Value)->Prop
 |nil:Pr W ad h [] []
 |cons {p:Str×SV} {l:List (Str×SV)} {v:Value} {r:List (Value×Value)} (t:Tok) (q:V W ad h p.2 v) (z:Pr W ad h l r):Pr W ad h (p::l) ((.str p.1 t,v)::r)
theorem Pr.wM{l:List (Str×SV)}{vs:List (Value×Value)}(q:Pr W ad h l vs):∃kvs,Carries (PySem.strKind W.prog W.w) vs kvs/\∀{acc:List (Str×SV)} {ka:List (Str×Value)},Kv W ad h acc ka->(acc.map (·.1)).Nodup->Kv W ad h (Rn.jz acc l) (merged ka kvs):=by
 induction q with
 |nil=>exact⟨[],trivial,λz uu=>z⟩
 |@cons p l v r t q _ ih=>exact ih.elim λkvs c=>⟨(p.1,v)::kvs,⟨(sK W).is p.1 t,rfl,c.1⟩,λza na=>c.2 (Kv.dh Zg q za na) (zD Zg _ _ na)⟩
theorem Pr.length{l:List (Str×SV)}{vs:List (Value×Value)}(q:Pr W ad h l vs):vs.length=l.length:=by
 induction q with
 |nil=>rfl
 |cons _ _ _ ih=>exact congrArg Nat.succ ih
end
section
variable {θ:Th}{X:Hp}{T:Tb}{o:Ka}
theorem So.wo(H:o.Ok θ.W){p:Pos}:∀{ks:List (Option PySem.Expr)} {vs:List PySem.Expr} {X:Hp},Da θ.W.mv X->So θ X (λl w a h=>Pr θ.W a h l w) (Rn.wo o θ.c θ.D ks vs) (λenv=>evalPairs (pairTrees ks vs env p))
 |[],[],X,hX=>So.pure (b:=[]) (v:=([]:List (Value×Value))) λuu uu uu=>.nil
 |some k::ks,v::vs,X,hX=>by
  refine(?_:So θ X _ (o.ev θ.c θ.D k>>=_) (λenv=>eval k env>>=λkv=>PySem.holding [kv] (eval v env>>=λx=>standAt p>>=λuu=>Pure.pure x)>>=λvv=>PySem.holding [kv,vv] (evalPairs (pairTrees ks vs env p))>>=λr=>(Pure.pure ((kv,vv)::r):Sem (List (Value×Value)))))
  have ht:∀{X:Hp},Da θ.W.mv X->So θ X (Rv θ.W) (o.ev θ.c θ.D v) (λenv=>eval v env>>=λx=>standAt p>>=λuu=>Pure.pure x):=λhX=>(H.Sb v hX).map λuu uu uu uu h=>wpAny_bind (wpAny_mono h (λuu uu z=>wpAny_bind (wpAny_standAt (wpAny_pure z))) λuu uu z=>z)
  refine So.bind hX (H.Sb k hX) λkk kv=>So.bind hX.V' (So.holding (ht hX.V')) λx xv=>So.bind hX.V'.V' (So.holding (So.wo H hX.V'.V')) λl w=>So.Ea λs es=>?_
  refine rt (SV.Zl es ..) ?_
  exact So.ye (P:=∃t,kv=.str s t) (λuu uu z=>z.1.1.2) λe=>e.elim λt e=>by
   refine rt e ?_
   exact So.pure λuu uu z=>.cons (p:=(s,x)) t z.1.2 z.2
 |[],_::_,_,_=>So.qa
 |none::_,_,_,_=>So.qa
 |some _::_,[],_,_=>So.qa
theorem So.Su(ok:θ.W.Ok)(H:o.Ok θ.W){ks:List (Option PySem.Expr)}{vs:List PySem.Expr}{p:Pos}:So θ X (Rv θ.W) (Rn.Su o θ.c θ.D ks vs) (λenv=>eval (.Dict ks vs p) env):=λΓ ad sx s M uu=>by
 refine Po.casesOn (M.own ok s.toks (o:={cls:=.type "dict",data:=.dict #[]}) (ao:=.ns []) (Y:=λa uu=>Db θ.W.mv a sx.st.length=some s.heap.objs.size) rfl ⟨[],0,rfl,.nil,.nil⟩ (M.nm _)) λja r1 M1 eN=>?_
 rcases ks with _|⟨k,ks⟩
 ·exact aa.zn (λhv=>by
   refine rt (List.isEmpty_iff.mp hv ..) ?_
   exact aa.ok (wpAny_Dict_empty ⟨_,rfl,ja,r1,M1,_,eN,rfl⟩)) λuu=>trivial
 refine aa.zn (λhc=>?_) λuu=>trivial
 have hc:=(Bool.and_eq_true _ _).mp hc
 have Dh:=(Bool.and_eq_true _ _).mp hc.2
 refine aa.Ba (λuu uu=>wpAny_Dict_walk (knd:=PySem.strKind θ.W.prog θ.W.w) hc.1 (Nat.eq_of_beq_eq_true Dh.1) (λe=>nomatch e) (Nat.le_of_ble_eq_true Dh.2)) (Gl.use (So.wo (p:=p) H Da.true Γ ja _ _ M1 trivial) r1 λpl xa w ya s2 r2 r3 M2 hp=>aa.Ea λo es=>aa.Ea λfs ef=>aa.yb λhc=>aa.ok ?_)
 replace es:=(List.isEmpty_iff.mp ((Bool.and_eq_true _ _).mp hc).1 ..)▸(AO.OD ef ..)▸es
 have eN:=r3.g.get eN
 have en:=Hb eN
 refine M2.r.on es (λz=>nomatch z) ⟨_,eN,rfl⟩ λa ob ha uu g z=>?_
 cases ha
 refine hp.wM.elim λkvs c=>⟨kvs,c.1,rc.nil (sK θ.W) g z,λh' hd sb=>⟨_,rfl,(M2.Rb ok en (.ze sb) (ao:=.ns (Rn.jz [] pl)) (s2.toks+w.length) ?_ ⟨_,eN,rfl⟩).Pa r2⟩⟩
 exact rc.of (S:=sK θ.W) hd ((c.2 .nil .nil).imp λuu uu q=>(M2.rt en (.ze sb) (s2.toks+w.length)).v M2 q)
end
end
section
variable {kz:Nat}
def Am(fs:List (Int×SV))(l:List SV):Prop:=∃ks:List Int,l=ks.map SV.it/\ks.Perm (fs.map (·.1))/\ks.Pairwise (·<=·)/\fs.length<64
namespace Rn
noncomputable def AO.pF:AO->Option (List (Int×SV))
 |.di fs=>some fs
 |_=>none
noncomputable def Uu(c:Cx)(p:Pos)(x:SV):Rn SV:=hint p>>=λd=>match d with
 |some (.list l)=>λs=>cond c.hn.isNone (x.mf.bind λn=>(s.st[n]?).bind λo=>(AO.pF o).bind λfs=>some (.ok (.fl l),s,[Am fs l])) none
 |_=>qa
end Rn
section
variable {W:Wd}{θ:Th}{X:Hp}
theorem AO.xM{o:AO}{fs:List (Int×SV)}(e:Rn.AO.pF o=some fs):o=.di fs:=by
 induction o using AO.casesOn<;>first|exact Fa e|exact congrArg AO.di (Option.some.inj e)
theorem qF{ad:List Addr}{h:Heap}:∀{vs:List Value} {ns:List Int},IntsAre vs ns->Vs W ad h (ns.map SV.it) vs
 |_,_,.nil=>rfl
 |_,_,.cons n t q=>.mk _ _ ⟨t,rfl⟩ (qF q)
theorem ints_of{kvs:List (Int×Value)}:∀{vs:List Value},vs.length=kvs.length->(∀(j:Nat) v,vs[j]?=some v->∃i x,kvs[j]?=some (i,x)/\(PySem.intKind W.prog W.w).is i v=true)->IntsAre vs (kvs.map (·.1)):=by
 induction kvs with
 |nil=>exact λe uu=>by refine rt (List.length_eq_zero_iff.mp e ..) ?_;exact .nil
 |cons p kvs ih=>
  refine λ{vs} e q=>?_
  rcases vs with _|⟨v,vs⟩
  ·exact nomatch e
  exact(q 0 v rfl).elim λi z=>z.elim λx z=>(Value.isInt_shape z.2).elim λt ht=>by
   cases z.1
   refine rt ht ?_
   exact .cons i t (ih (Nat.succ.inj e) λj v h=>q (j+1) v h)
theorem yM{A:Around}{s:Shared}{E:Value->Shared->Prop}{r d:Addr}{n:Nat}{P:Nat->Value->Prop}{OK:Heap->Prop}{Ty:String}{Q:List Value->Shared->Prop}(K:KdlSrc W.prog W.w Ty r d n P OK)(hh:A.handled=none)(Eh:OK s.heap)(hn:n<=sizeLine)
  (h:∀(h':Heap) (tk:Nat) (acc:Array Value),(∀b o,s.heap.get? b=some o->h'.get? b=some o)->s.heap.objs.size<=h'.objs.size->ItemsOf P acc n->Q acc.toList {s with heap:=h',toks:=tk}):wpAny W.m A (collect (.ref r)) Q E s:=by
 have ac:=K.there _ Eh
 unfold collect
 refine wpAny_bind (wpAny_runValue (codeAny_builtin entry_proto_collect' ?_))
 refine rt (Around.under_plainId PySem.F.plain_proto_collect _ ..) ?_
 refine(?_:wpAny _ A.in1 (PySem.newList []>>=λl=>again (.builtin "list.__iadd__" ⟨[l,.ref r],[]⟩)) _ _ s)
 refine wpAny_bind (wpAny_newObj_type ?_)
 refine wpAny_pure ⟨plainId_quiet PySem.F.plain_list_iadd _,codeAny_builtin entry_list_iadd' ?_⟩
 refine rt (Around.under_plainId PySem.F.plain_list_iadd _ ..) ?_
 have ext:=kdl_extend (A:=A) (s:={s with heap:=s.heap.push {cls:=.type "list",data:=.seq ([]:List Value).toArray}})
  (R:=λ(q:Result) (s':Shared)=>∃(h':Heap) (tk:Nat) (aj:Array Value) (c':Nat),q=.ok (.ret (.ref s.heap.objs.size))/\s'={s with heap:=h',toks:=tk}/\
   (∀b o,s.heap.get? b=some o->h'.get? b=some o)/\h'.get? s.heap.objs.size=some {cls:=.type "list",dict:=none,data:=.seq aj c',slots:=#[]}/\ItemsOf P aj n)
  K hh (K.keep _ _ Eh λb uu o e=>Heap.get?_push_of_some _ e) s.heap.objs.size (Nat.ne_of_gt ac.1) (Nat.ne_of_gt ac.2) (.ref s.heap.objs.size) 0 (Heap.get?_push_size _ rfl)
  (λh' tk aj c' hk Vc Dj=>⟨h',tk,aj,c',rfl,rfl,λb o e=>hk b o (Nat.ne_of_lt (Heap.lt_size e)) (Heap.get?_push_of_some _ e),Vc,Dj⟩) hn
 have fin:∀{s':Shared} {h':Heap} {tk:Nat} {aj:Array Value} {c':Nat},s'={s with heap:=h',toks:=tk}->(∀b o,s.heap.get? b=some o->h'.get? b=some o)->h'.get? s.heap.objs.size=some {cls:=.type "list",dict:=none,data:=.seq aj c',slots:=#[]}->ItemsOf P aj n->
   wpAny W.m A (load s.heap.objs.size>>=λo=>match o.data with
    |.seq xs _=>Pure.pure xs.toList
    |_=>unsupported "internal:collect") Q E s':=by
  rintro s' h' tk aj c' rfl hk Vc Dj
  exact wpAny_bind (wpAny_load Vc (wpAny_pure (h h' tk aj hk (Nat.le_of_lt (Heap.lt_size Vc)) Dj)))
 refine wpAny_mono ext (λf s' x=>?_) λe s' x=>?_
 ·cases f with
  |done f=>
   obtain⟨h',tk,aj,c',e,rfl,hk,Vc,Dj⟩:=x
   cases e
   exact fin rfl hk Vc Dj
  |again c1=>
   refine⟨x.1,codeAny_mono x.2 λq s2 y=>?_⟩
   obtain⟨h',tk,aj,c',rfl,rfl,hk,Vc,Dj⟩:=y
   exact fin rfl hk Vc Dj
 ·obtain⟨_,_,_,_,e',_⟩:=x
  contradiction
theorem So.Uu(ok:θ.W.Ok){p:Pos}{x:SV}{v:Value}(hX:∀a h,X a h->V θ.W a h x v):So θ X (Rv θ.W) (Rn.Uu θ.c p x) (λuu=>PySem.call (.builtin "sorted") [v]):=So.hint λd=>by
 rcases d with _|d
 ·exact So.qa
 induction d using Hd.casesOn with
  |list l=>
   refine λΓ ad sx s M q=>aa.yb λhc=>aa.Ea λn en=>aa.Ea λo es=>aa.Ea λfs ef=>aa.Ua λhz=>?_
   obtain⟨ks,hl,hp,hs,tJ⟩:=hz
   replace es:=(AO.xM ef ..)▸es
   have q:=hX _ _ q
   replace q:=(SV.Bg en ..)▸q
   have hh:Γ.A.handled=none:=by
    have:=M.hn
    revert this hc
    induction θ.c.hn using Hn.casesOn with
    |nn=>exact λuu=>id
    |_=>exact λe=>ft e
   refine M.r.on es (λz=>nomatch z) q λa ob hv ea g z=>z.dict (iK θ.W) g λkvs d1 d2 uu=>d1.dictAt.elim λep TV=>?_
   refine rt hv ?_
   have lk:kvs.length<=100000:=by refine rt (d2.length ..) ?_;exact Nat.le_trans (Nat.le_of_lt tJ) (by decide)
   refine call_function_entry kind_sorted plain_sorted entry_sorted (args_sorted1 _) ?_
   unfold Builtin.«sorted»
   refine wpAny_bind (m:=checkCount "sorted" 1 1 _) (wpAny_pure ?_)
   refine wpAny_bind (yM (A:=Γ.A.in1) (kdl_dict (knd:=PySem.intKind θ.W.prog θ.W.w) (kvs:=kvs) (ep:=ep) (ok.gu M.r ea)) hh TV (eh lk (by decide)) λh' tk acc hk uJ Dj=>?_)
   have eD:acc.toList.length=kvs.length:=Dj.1
   have hI:IntsAre acc.toList (kvs.map (·.1)):=ints_of (W:=θ.W) eD λj v h=>(Dj.2 j v (by refine rl (Array.getElem?_toList ..) ?_;exact h))
   refine wpAny_bind (wpAny_newList ?_ (by refine eD.symm▸?_;exact eh lk (by decide)))
   have fD:(h'.push (seqObj "list" acc.toList.toArray 0)).get? h'.objs.size=some (seqObj "list" acc.toList.toArray 0):=Heap.get?_push_size _ rfl
   refine wpAny_bind (wpAny_holding (wpAny_call_entry slot_list_sort ⟨_,fD,rfl⟩ entry_list_sort (list_sort_tree (s:={s with heap:=h'.push (seqObj "list" acc.toList.toArray 0),toks:=tk}) fD hI (by refine(eD ..).symm▸(d2.length ..).symm▸?_;exact tJ) λout UV a1 a2 a3=>⟨_,rfl,?_⟩) (args_list_sort _)))
   have VV:UV=ks:=List.Perm.eq_of_pairwise (le:=(·<=·)) (λa b uu uu h1 h2=>Int.le_antisymm h1 h2) a3 hs (a2.trans (d2.Ag▸hp.symm))
   rw[VV] at a1
   exact(sortedHeap_at (vs:=acc.toList) (out:=out) fD).elim λe9 h9=>by
    have fx:Fx s.heap.objs.size s.heap (sortedHeap (h'.push (seqObj "list" acc.toList.toArray 0)) h'.objs.size acc.toList out):=⟨Nat.le_of_lt (Nat.lt_of_le_of_lt uJ (Heap.lt_size h9)),λb o uu eb=>by
     have hb:=Heap.lt_size (hk b o eb)
     rw[sortedHeap_old (Nat.ne_of_lt hb) (by rw[Heap.size_push];exact Nat.lt_succ_of_lt hb)]
     exact Heap.get?_push_of_some _ (hk b o eb)⟩
    exact wpAny_pure ⟨_,rfl,.fl l,rfl,M.Et ok fx _ (.mk h'.objs.size out.toList e9 h9 (hl▸qF a1) (M.fresh uJ))⟩
  |_=>exact So.qa
end
end
section
variable {kz:Nat}
noncomputable def AO.zM:AO->Option Addr
 |.bc C _=>some C
 |_=>none
namespace Rn
noncomputable def zX(e:PySem.Expr):Bool:=Nat.beq e.ctorIdx 20
noncomputable def Sq(p:Pos)(l:List SV):Rn SV:=cond l.isEmpty (Kn l) (hint p>>=λd=>cond d.isSome (Kn l) (Ot l))
noncomputable def builtin(T:Tb)(c:Cx)(p:Pos)(b:Bi)(vs:List SV):Rn SV:=match b with
 |.len=>Ua vs fu
 |.sorted=>Ua vs (Uu c p)
 |.ni=>Ua vs ni
 |.Ul=>Ld vs (Pu T)
noncomputable def AM(n:Nat):Rn Unit:=λs=>(s.st[n]?).bind λo=>cond (Nat.beq o.ctorIdx 10) (some (.ok (),s,[])) none
noncomputable def Vu(o:Ka)(T:Tb)(c:Cx)(D:Nat)(args:List PySem.Expr)(pos:Pos)(fv:SV):Rn SV:=match fv with
 |.bu b=>Ke o c D args>>=builtin T c pos b
 |.ty t=>Ke o c D args>>=Lu t
 |.tp a=>cond (T.kp a) (Ke o c D args>>=o.ca c.hn D pos (.tp a)) qa
 |.ob n=>Ke o c D args>>=λvs=>AM n>>=λuu=>o.ca c.hn D pos (.ob n) vs
 |_=>qa
noncomputable def Wu(o:Ka)(T:Tb)(c:Cx)(D:Nat)(f:PySem.Expr)(args:List PySem.Expr)(pos:Pos):Rn SV:=cond (Di args) (o.ev c D f>>=Vu o T c D args pos) qa
noncomputable def same(st:St)(a b:SV):Option Addr:=a.mf.bind λi=>b.mf.bind λj=>cond (Nat.beq i j) ((st[i]?).bind AO.zM) none
noncomputable def Tq:CmpOp->Rn SV
 |.Eq=>Pure.pure (.bo true)
 |.NotEq=>Pure.pure (.bo false)
 |_=>qa
noncomputable def Uq(T:Tb)(p:Pos)(op:CmpOp)(a b:SV):Rn SV:=λs=>match same s.st a b with
 |some C=>cond (T.cp C) (Tq op s) none
 |none=>Iq p op a b s
noncomputable def rF(p:Pos):Rn Bool:=λs=>match s.hs with
 |h::r=>cond (Nat.beq h.l p.line&&(Nat.beq h.k p.col&&Nat.beq h.e p.endCol)) (match h.d with
   |.same=>some (.ok true,{s with hs:=r},[])
   |_=>some (.ok false,s,[])) (some (.ok false,s,[]))
 |[]=>some (.ok false,s,[])
noncomputable def Xu(T:Tb)(p:Pos)(op:CmpOp)(a b:SV):Rn SV:=rF p>>=λq=>cond q (ask (∃x,a=x/\b=x/\T.cq x)>>=λuu=>Tq op) (Uq T p op a b)
noncomputable def Bm(o:Ka)(T:Tb)(c:Cx)(D:Nat)(l:PySem.Expr)(op:CmpOp)(r:PySem.Expr)(p:Pos):Rn SV:=cond (Lj r) qa (o.ev c D l>>=λa=>o.ev c D r>>=λb=>Xu T p op a b)
noncomputable def Vq(o:Ka)(T:Tb)(c:Cx)(D:Nat)(l:PySem.Expr)(Xa:List CmpOp)(rs:List PySem.Expr)(p:Pos):Rn SV:=match Xa with
 |[op]=>match rs with
  |[r]=>Bm o T c D l op r p
  |_=>qa
 |_=>qa
noncomputable def Yu(T:Tb)(p:Pos)(x:SV)(a:Str):Rn SV:=match x with
 |.tp b=>Ib p λuu=>T.ka b a
 |x=>getAttr T x a
noncomputable def BM:PySem.Expr->Bool
 |.Call _ a _ _=>!a.isEmpty
 |_=>true
noncomputable def Zu(o:Ka)(T:Tb)(c:Cx)(D:Nat)(e:PySem.Expr)(a:Str)(p:Pos):Rn SV:=cond (BM e) (o.ev c D e>>=λx=>Yu T p x a) qa
noncomputable def jv(o:Ka)(T:Tb)(c:Cx)(D:Nat)(e i:PySem.Expr)(p:Pos):Rn SV:=match i with
 |.Slice lo hi st _=>cond st.isNone (Ou o c D e lo hi p) qa
 |i=>o.ev c D e>>=λx=>o.ev c D i>>=λk=>item T p x k
noncomputable def tv(o:Ka)(T:Tb)(c:Cx)(D:Nat)(f:PySem.Expr)(args:List PySem.Expr)(p:Pos):Rn SV:=match f with
 |.Attribute ob nm apos=>wu o T c D ob nm apos p args
 |f=>Wu o T c D f args p
noncomputable def wv(o:Ka)(T:Tb)(c:Cx)(D:Nat):PySem.Expr->Rn SV
 |.Constant k _ _=>Kt k
 |.Name x _=>name T c x
 |.BoolOp op l _=>jm o c D op l
 |.BinOp l op r _=>o.ev c D l>>=λa=>o.ev c D r>>=λb=>lu op a b
 |.UnaryOp op x _=>o.ev c D x>>=λa=>un op a
 |.IfExp t a b _=>o.ts c D t>>=λq=>cond q (o.ev c D a) (o.ev c D b)
 |.List l p=>Ke o c D l>>=λvs=>Sq p vs
 |.Tuple l _ _=>Ke o c D l>>=λvs=>newTuple vs
 |.Compare l Xa rs p=>Vq o T c D l Xa rs p
 |.Call f args kw p=>cond kw.isEmpty (tv o T c D f args p) qa
 |.Attribute e a p=>Zu o T c D e a p
 |.Subscript e i p=>jv o T c D e i p
 |.Dict ks vs _=>Su o c D ks vs
 |_=>qa
noncomputable def CM:UnaryOp->Bool
 |.Not=>true
 |_=>false
noncomputable def yv(o:Ka)(T:Tb)(c:Cx)(D:Nat)(e:PySem.Expr):Rn Bool:=match e with
 |.UnaryOp op x _=>cond (CM op) (o.ts c D x>>=λb=>Pure.pure (!b)) (o.ev c D e>>=λv=>kh v)
 |.BoolOp op l _=>km o c D op l
 |.Compare l Xa rs p=>Vq o T c D l Xa rs p>>=λv=>kh v
 |.IfExp _ _ _ _=>qa
 |e=>o.ev c D e>>=λv=>kh v
end Rn
section
variable {θ:Th}{X:Hp}{T:Tb}{o:Ka}
theorem So.Sq(ok:θ.W.Ok){p:Pos}{l:List SV}{vs:List Value}(hX:∀a h,X a h->Vs θ.W a h l vs):So θ X (Rv θ.W) (Rn.Sq p l) (λuu=>PySem.newList vs):=by
 unfold Rn.Sq
 rcases l.isEmpty with _|_
 ·exact So.hint λd=>by
   rcases d with _|d
   ·exact So.Ot ok hX
   exact So.Kn ok hX
 exact So.Kn ok hX
theorem So.builtin(ok:θ.W.Ok)(hT:lb θ.W T){p:Pos}{b:Bi}{args:List SV}{v:Value}{ws:List Value}(hX:∀a h,X a h->V θ.W a h (.bu b) v/\Vs θ.W a h args ws):So θ X (Rv θ.W) (Rn.builtin T θ.c p b args) (λuu=>PySem.call v ws):=So.ye (P:=v=.builtin b.nm) (λa h x=>(hX a h x).1.1) λe=>by
 refine rt e ?_
 have h2:=λa h q=>(hX a h q).2
 induction b using Bi.casesOn with
 |len=>exact So.Ua h2 λx w ew hx=>by refine rt ew ?_;exact So.fu hx
 |sorted=>exact So.Ua h2 λx w ew hx=>by refine rt ew ?_;exact So.Uu ok hx
 |ni=>exact So.Ua h2 λx w ew hx=>by refine rt ew ?_;exact So.ni hx
 |Ul=>exact So.Ld h2 λx y w u ew hx=>by refine rt ew ?_;exact So.Pu hT hx
theorem So.Vu(ok:θ.W.Ok)(hT:lb θ.W T)(H:o.Ok θ.W)(hX:Da θ.W.mv X){fv:SV}{v:Value}(q:∀a h,X a h->V θ.W a h fv v){args:List PySem.Expr}(hp:Rn.Di args=true){pos:Pos}:So θ X (Rv θ.W) (Rn.Vu o T θ.c θ.D args pos fv) (λenv=>PySem.callWith pos v [] (backTo pos (starEach args env)) []):=by
 induction fv using SV.casesOn with
 |bu b=>
  exact So.ye (P:=v=.builtin b.nm) (λa h x=>(q a h x).1) λe=>by
   refine rt e ?_
   exact So.Vy H hX hp λvs ws=>So.builtin ok hT λa h z=>⟨e▸q a h z.1,z.2⟩
 |ty t=>
  exact So.ye (P:=v=.type t.nm) (λa h x=>q a h x) λe=>by
   refine rt e ?_
   exact So.yu H hX hp (P:=λuu=>True) (λuu uu=>⟨.machine,.inr (.inl rfl),.now⟩) λvs ws Γ ad sx s M x=>(So.Lu (X:=λa h=>X a h/\Vs θ.W a h vs ws) ok (λa h z=>⟨e▸q a h z.1,z.2⟩) Γ ad sx s M x).Ba λuu uu h=>⟨trivial,h⟩
 |tp a=>
  exact So.yb λhk=>So.ye (P:=v=.ref a) (λa h x=>q a h x) λe=>by
   refine rt e ?_
   exact So.callWith H hX hp (hT.kp a hk) λvs ws=>So.call ok (λsx=>H.ca θ.c.hn θ.D pos (.tp a) vs sx) λa h z=>⟨rfl,z.2⟩
 |ob n=>
  refine So.yu H hX hp (P:=λh=>∃a o fd,v=.ref a/\h.get? a=some o/\o.data=.func fd) (λh z=>z.elim λa z=>z.elim λo z=>z.elim λfd z=>⟨.frame,.inl rfl,by
   refine rt z.1 ?_
   unfold keeperOf
   refine Looks.andThen (Looks.ld (part:=none) z.2.1) ?_
   refine rt z.2.2 ?_
   exact .now⟩) λvs ws Γ ad sx s M x=>aa.bind (aa.Ea λo es=>aa.yb λho uu=>(So.call (X:=λa h=>X a h/\Vs θ.W a h vs ws) ok (λsx=>H.ca θ.c.hn θ.D pos (.ob n) vs sx) (λa h z=>⟨q a h z.1,z.2⟩) Γ ad sx s M x).Ba λuu uu h=>⟨?_,h⟩)
  induction o using AO.casesOn with
  |fn b cl=>exact M.r.on es (λz=>nomatch z) (q _ _ x.1) λa ob hv uu g z=>by induction(z:xe ..) using xe.casesOn;exact⟨a,_,_,hv,g,rfl⟩
  |_=>exact ft ho
 |_=>exact So.qa
theorem So.Wu(ok:θ.W.Ok)(hT:lb θ.W T)(H:o.Ok θ.W)(hX:Da θ.W.mv X){f:PySem.Expr}{args:List PySem.Expr}{pos:Pos}(e:∀env,eval (.Call f args [] pos) env=(eval f env>>=λfv=>PySem.callWith pos fv [] (backTo pos (starEach args env)) [])):So θ X (Rv θ.W) (Rn.Wu o T θ.c θ.D f args pos) (λenv=>eval (.Call f args [] pos) env):=So.yb λhp=>
 So.Nb e (So.bind hX (H.Sb f hX) λfv v=>So.Vu ok hT H hX.V' (λuu uu z=>z.2) hp)
theorem sF{op:CmpOp}{r:PySem.Expr}(h:Rn.Lj r=false)(t:Sem Value):markedEach [op] [r] [t]=[t]:=by
 induction r using Expr.casesOn<;>first|rfl|exact ft h.symm
inductive Wq(h:Heap):Value->Value->Prop
 |n:Wq h .none .none
 |r (y C:Addr) (c:h.CmpInst y C [.type "object"]):Wq h (.ref y) (.ref y)
theorem tF{Γ:Bk}{ad:List Addr}{sx:Sx}{s:Shared}(M:Ms θ Γ ad sx s){op:CmpOp}{v w:Value}(z:Wq s.heap v w):Gl θ Γ ad s (Rv θ.W) (Rn.Tq op sx) (compareOp op v w) s:=by
 obtain⟨h,g,d,t,os⟩:=s
 have hu:Γ.A.units+1<9900:=by have:=M.un;unfold Gj at this;lia
 induction op with
 |Eq=>induction z using Wq.casesOn with
  |n=>exact aa.ok (EqNone.eq_none_none ⟨_,rfl,.here M rfl⟩)
  |r y C c=>exact aa.ok (compareOp_eq_same PySem.F.cmp_object c (Nat.lt_of_succ_lt hu) ⟨_,rfl,.here M rfl⟩)
 |NotEq=>induction z using Wq.casesOn with
  |n=>exact aa.ok (EqNone.ne_none_none ⟨_,rfl,.here M rfl⟩)
  |r y C c=>exact aa.ok (compareOp_ne_same PySem.F.cmp_object c hu ⟨_,rfl,.here M rfl⟩)
 |_=>trivial
theorem So.Uq(ok:θ.W.Ok)(WV:∀C,T.cp C=true->ru θ.W C){p:Pos}{op:CmpOp}{a b:SV}{v w:Value}(hX:∀z h,X z h->V θ.W z h a v/\V θ.W z h b w):So θ X (Rv θ.W) (Rn.Uq T p op a b) (λuu=>compareOp op v w):=λΓ ad sx s M q=>by
 refine(?_:aa (match Rn.same sx.st a b with|some C=>cond (T.cp C) (Rn.Tq op sx) none|none=>Rn.Iq p op a b sx) _)
 rcases hs:Rn.same sx.st a b with _|C
 ·exact So.Iq ok hX Γ ad sx s M q
 refine aa.yb λhc=>tF M (obs hs λi ei e=>obs e λj ej e=>?_)
 revert e
 rcases XV:Nat.beq i j with _|_
 ·exact Fa
 refine λe=>obs e λo es e=>?_
 have q1:=(hX _ _ q).1
 have q2:=(hX _ _ q).2
 replace q1:=(SV.Bg ei ..)▸q1
 replace q2:=(Nat.eq_of_beq_eq_true XV ..).symm▸(SV.Bg ej ..)▸q2
 induction o using AO.casesOn with
 |bc C' d=>
  cases e
  exact M.r.on es (λz=>nomatch z) q1 λx ob hv ea g z=>z.elim λdd z=>q2.elim λy q2=>by
   refine rt (hv ..) (rt (q2.2 ..) (rt (sj (Hb q2.1) ea ..) ?_))
   exact .r x C ((WV C hc).at_ _ _ dd M.ib (z.2▸g))
 |_=>exact Fa e
theorem So.Xu(ok:θ.W.Ok)(hT:lb θ.W T){p:Pos}{op:CmpOp}{a b:SV}{v w:Value}(hX:∀z h,X z h->V θ.W z h a v/\V θ.W z h b w):So θ X (Rv θ.W) (Rn.Xu T p op a b) (λuu=>compareOp op v w):=λΓ ad sx s M q=>aa.bind (by
 have f:=λhs=>So.Uq (p:=p) (op:=op) ok hT.cp hX Γ ad ⟨sx.loc,sx.st,hs⟩ s (M.as rfl rfl) q
 have n:(∀p∈([]:List Prop),p)->Gl θ Γ ad s (Rv θ.W) (Rn.Uq T p op a b sx) (compareOp op v w) s:=λuu=>f sx.hs
 have t:∀hs,(∀p∈([]:List Prop),p)->Gl θ Γ ad s (Rv θ.W) ((Rn.ask (∃x,a=x/\b=x/\T.cq x)>>=λuu=>Rn.Tq op) ⟨sx.loc,sx.st,hs⟩) (compareOp op v w) s:=λhs uu=>aa.asked λhc=>tF (v:=v) (w:=w) (show Ms θ Γ ad ⟨sx.loc,sx.st,hs⟩ s from M.as rfl rfl) (hc.elim λx hc=>by
  have q1:=(hX _ _ q).1
  have q2:=(hX _ _ q).2
  replace q1:=hc.1▸q1
  replace q2:=hc.2.1▸q2
  rcases hT.cq x hc.2.2 with e|⟨y,C,e,hc⟩
  ·rw[e] at q1 q2
   refine rt (show v=.none from q1) (rt (show w=.none from q2) ?_)
   exact .n
  ·rw[e] at q1 q2
   refine rt (show v=.ref y from q1) (rt (show w=.ref y from q2) ?_)
   exact .r y C (hc _ M.ib))
 unfold Rn.rF
 rcases sx.hs with _|⟨h,r⟩
 ·exact n
 refine aa.cond (λuu=>?_) λuu=>n
 induction h.d using Hd.casesOn with
 |same=>exact t r
 |_=>exact n)
theorem So.Yu(hT:lb θ.W T){p:Pos}{x:SV}{v:Value}{name:Str}{ex:Bool}(hX:∀a h,X a h->V θ.W a h x v):So θ X (Rv θ.W) (Rn.Yu T p x name) (λuu=>PySem.getAttr v name ex):=by
 have g:=So.getAttr hT.jf hX (name:=name) (ex:=ex)
 induction x using SV.casesOn with
 |tp b=>
  refine So.Ib (f:=λuu=>T.ka b name) λΓ ad sx s y M q e Q E k=>?_
  ·cases hX _ _ q
   exact(hT.ka b name y e).at_.elim λw h=>h.2 Γ.A s Q E ex M.ib λt=>k w (M.gv h.1) t
 |_=>exact g
theorem So.Bm(ok:θ.W.Ok)(hT:lb θ.W T)(H:o.Ok θ.W)(hX:Da θ.W.mv X){l:PySem.Expr}{op:CmpOp}{r:PySem.Expr}{p:Pos}:So θ X (Rv θ.W) (Rn.Bm o T θ.c θ.D l op r p) (λenv=>eval (.Compare l [op] [r] p) env):=Yy λhs=>
 So.Nb (t:=λenv=>eval l env>>=λa=>PySem.holding [a] (eval r env)>>=λb=>standAt p>>=λuu=>PySem.operate [a,b] (compareOp op a b)) (λenv=>by
  refine rt (arm_eval_Compare ..) ?_
  refine(?_:(eval l env>>=λa=>compareChain p a [op] (markedEach [op] [r] [eval r env]))=_)
  refine rt (sF hs ..) ?_
  rfl) (So.bind hX (H.Sb l hX) λa av=>So.bind hX.V' (So.holding (H.Sb r hX.V')) λb bv=>So.Jb (So.operate (So.Xu ok hT λuu uu z=>⟨z.1.2,z.2⟩)))
theorem So.Vq(ok:θ.W.Ok)(hT:lb θ.W T)(H:o.Ok θ.W)(hX:Da θ.W.mv X){l:PySem.Expr}{Xa:List CmpOp}{rs:List PySem.Expr}{p:Pos}:So θ X (Rv θ.W) (Rn.Vq o T θ.c θ.D l Xa rs p) (λenv=>eval (.Compare l Xa rs p) env):=by
 rcases Xa with _|⟨op,Xa⟩
 ·exact So.qa
 rcases Xa with _|⟨_,_⟩
 ·rcases rs with _|⟨r,rs⟩
  ·exact So.qa
  rcases rs with _|⟨_,_⟩
  ·exact So.Bm ok hT H hX
  exact So.qa
 exact So.qa
theorem So.Zu(hT:lb θ.W T)(H:o.Ok θ.W)(hX:Da θ.W.mv X){e:PySem.Expr}{a:Str}{p:Pos}:So θ X (Rv θ.W) (Rn.Zu o T θ.c θ.D e a p) (λenv=>eval (.Attribute e a p) env):=So.yb λh=>by
 have hb:∀env,attributeBase e a env (eval e env)=eval e env:=λenv=>by
  induction e using Expr.casesOn with
  |Call f args kw p=>
   rcases args with _|⟨x,r⟩
   ·exact ft h
   induction f using Expr.casesOn<;>rfl
  |_=>rfl
 refine So.Nb (t:=λenv=>eval e env>>=λv=>standAt p.atName>>=λuu=>PySem.holding [v] (PySem.getAttr v a true)>>=λr=>letTemporaryGo e v r>>=λuu=>Pure.pure r) (λenv=>by exact(arm_eval_Attribute ..).symm▸(hb ..).symm▸rfl) (So.bind hX (H.Sb e hX) λx xv=>So.Jb ((So.holding (vs:=[xv]) (So.Yu (ex:=true) hT λuu uu z=>z.2)).map λuu uu uu uu h=>?_))
 exact wpAny_bind (wpAny_mono h (λv s' z=>wpAny_bind (wpAny_letTemporaryGo (wpAny_pure z))) λuu uu z=>z)
theorem So.jv(ok:θ.W.Ok)(hT:lb θ.W T)(H:o.Ok θ.W)(hX:Da θ.W.mv X){e i:PySem.Expr}{p:Pos}:So θ X (Rv θ.W) (Rn.jv o T θ.c θ.D e i p) (λenv=>eval (.Subscript e i p) env):=by
 have g:=So.Nb (λenv=>arm_eval_Subscript e i p env) (So.bind hX (H.Sb e hX) λx xv=>So.bind hX.V' (So.holding (H.Sb i hX.V')) λk kv=>So.Jb (So.item hT.sd (p:=p) λuu uu z=>⟨z.1.2,z.2⟩))
 induction i using PySem.Expr.casesOn with
 |Slice lo hi st q=>
  rcases st with _|_
  ·exact So.Ou ok H hX
  exact So.qa
 |_=>exact g
theorem So.tv(ok:θ.W.Ok)(hT:lb θ.W T)(H:o.Ok θ.W)(hX:Da θ.W.mv X){f:PySem.Expr}{args:List PySem.Expr}{p:Pos}:So θ X (Rv θ.W) (Rn.tv o T θ.c θ.D f args p) (λenv=>eval (.Call f args [] p) env):=by
 have g:=λe=>So.Wu ok hT H hX (f:=f) (args:=args) (pos:=p) e
 induction f using PySem.Expr.casesOn with
 |Attribute ob nm apos=>exact So.wu ok hT H hX
 |_=>exact g λuu=>rfl
theorem So.wv(ok:θ.W.Ok)(hT:lb θ.W T)(H:o.Ok θ.W)(hX:Da θ.W.mv X)(e:PySem.Expr):So θ X (Rv θ.W) (Rn.wv o T θ.c θ.D e) (λenv=>eval e env):=by
 induction e using PySem.Expr.casesOn with
 |Constant k u p=>exact So.Kt
 |Name x p=>exact So.name hT.gl
 |BoolOp op l p=>exact So.jm H hX
 |BinOp l op r p=>exact So.Nb (λenv=>arm_eval_BinOp _ _ _ _ env) (So.bind hX (H.Sb l hX) λa av=>So.bind hX.V' (So.holding (H.Sb r hX.V')) λb bv=>So.Jb (So.operate (So.lu ok λuu uu z=>⟨z.1.2,z.2⟩)))
 |UnaryOp op x p=>exact So.Nb (λenv=>arm_eval_UnaryOp _ _ _ env) (So.bind hX (H.Sb x hX) λa av=>So.Jb (So.holding (So.un λuu uu z=>z.2)))
 |IfExp t a b p=>
  refine So.Nb (λenv=>arm_eval_IfExp _ _ _ _ env) (So.nq hX (H.Vn t hX) λq=>?_)
  rcases q with _|_
  ·exact H.Sb b hX
  exact H.Sb a hX
 |List l p=>exact So.Nb (λenv=>arm_eval_List _ _ env) (So.Jb (So.bind hX (So.Ke H hX) λl vs=>So.Sq ok λuu uu z=>z.2))
 |Tuple l u p=>exact So.Nb (λenv=>arm_eval_Tuple _ _ _ env) (So.Jb (So.bind hX (So.Ke H hX) λl vs=>So.newTuple ok λuu uu z=>z.2))
 |Compare l Xa rs p=>exact So.Vq ok hT H hX
 |Call f args kw p=>
  rcases kw with _|⟨_,_⟩
  ·exact So.tv ok hT H hX
  exact So.qa
 |Attribute e a p=>exact So.Zu hT H hX
 |Subscript e i p=>exact So.jv ok hT H hX
 |Dict ks vs p=>exact So.Su ok H
 |_=>exact So.qa
end
end
section
variable {kz:Nat}
noncomputable def Cx.hd(c:Cx)(n:Nat):Cx:={c with hn:=.nm n}
noncomputable abbrev Th.hd(θ:Th)(n:Nat):Th:=⟨θ.W,θ.c.hd n,θ.D⟩
noncomputable abbrev Bk.mark(Γ:Bk)(a:Addr):Bk:=⟨Γ.A.mark (some (.ref a)),Γ.env,Γ.Ma⟩
namespace Rn
noncomputable def attempt{α:Type}(m:Rn α):Rn (Except Nat α):=λs=>(m s).bind λr=>some (.ok r.1,r.2)
noncomputable def tb(n:Nat):Rn Unit:=λs=>(Dg s.st n).bind λst=>some (.ok (),{s with st:=st},[])
noncomputable def mz(st:St)(n:Nat):Option Addr:=(st[n]?).bind λo=>match o with
 |.jb C _ b=>cond b (some C) none
 |_=>none
noncomputable def jj(n:Nat):Rn Unit:=λs=>(mz s.st n).bind λuu=>some (.ok (),s,[])
noncomputable def raise{α:Type}(n:Nat):Rn α:=λs=>some (.error n,s,[])
noncomputable def nz:SV->Option Addr
 |.tp a=>some a
 |_=>none
noncomputable def Xq(T:Tb)(C:Addr):List SV->Option Bool
 |[a,b]=>(nz a).bind λa=>(nz b).bind λb=>(T.xm C (.tp a)).bind λp=>(T.xm C (.tp b)).bind λq=>some (p||q)
 |_=>none
noncomputable def uF(T:Tb)(C:Addr)(v:SV):Option Bool:=match v with
 |.tp a=>T.xm C (.tp a)
 |.tu l=>Xq T C l
 |_=>none
noncomputable def xo(T:Tb)(n:Nat)(v:SV):Rn Bool:=λs=>(mz s.st n).bind λC=>(uF T C v).bind λb=>some (.ok b,s,[])
noncomputable def Mh(x:Str):Lc->Lc
 |[]=>[]
 |p::r=>cond (Oa p.1 x) (Mh x r) (p::Mh x r)
noncomputable def wF:NameKind->Bool
 |.local=>true
 |_=>false
noncomputable def zv(c:Cx)(x:Str):Rn Unit:=Jh c x λk s=>cond (wF k&&(lk x s.loc).isSome) (some (.ok (),{s with loc:=Mh x s.loc},[])) none
noncomputable def dg(c:Cx)(x:Str):Rn Unit:=Kd c x .nn>>=λuu=>zv c x
noncomputable def Yq(o:Ka)(c:Cx)(D n:Nat)(b:List Stmt):Option Str->Rn Fl
 |none=>Fi c (o.ex (c.hd n) D b)>>=λf=>Pure.pure f
 |some x=>Kd (c.hd n) x (.ob n)>>=λuu=>attempt (o.ex (c.hd n) D b)>>=λr=>match r with
  |.ok f=>dg c x>>=λuu=>Pure.pure f
  |.error m=>tb m>>=λuu=>dg (c.hd n) x>>=λuu=>jj m>>=λuu=>raise m
noncomputable def oz(o:Ka)(T:Tb)(c:Cx)(D n:Nat)(rest:Rn Fl):ExceptHandler->Rn Fl
 |.ExceptHandler t name b _=>match t with
  |none=>qa
  |some t=>cond b.isEmpty qa (Fi c (o.ev (c.hd n) D t)>>=λv=>xo T n v>>=λq=>cond q (Yq o c D n b name) rest)
noncomputable def Av(o:Ka)(T:Tb)(c:Cx)(D n:Nat):List ExceptHandler->Rn Fl
 |[]=>jj n>>=λuu=>raise n
 |h::rest=>oz o T c D n (Av o T c D n rest) h
noncomputable def Cv:Fl->Bool
 |.next=>true
 |_=>false
noncomputable def pz(o:Ka)(T:Tb)(c:Cx)(D:Nat)(body:List Stmt)(hs:List ExceptHandler)(orelse:List Stmt):Rn Fl:=
 attempt (o.ex c D body)>>=λr=>match r with
  |.ok f=>cond (Cv f) (o.ex c D orelse) (Pure.pure f)
  |.error n=>tb n>>=λuu=>cond hs.isEmpty (raise n) (Av o T c D n hs)
noncomputable def DM(o:Ka)(c:Cx)(D:Nat)(fs:List Stmt):Except Nat Fl->Rn Fl
 |.ok f=>Fi c (o.ex c D fs)>>=λg=>Pure.pure (cond (Cv g) f g)
 |.error n=>tb n>>=λuu=>Fi c (o.ex (c.hd n) D fs)>>=λg=>jj n>>=λuu=>cond (Cv g) (raise n) (Pure.pure g)
noncomputable def Dv(o:Ka)(T:Tb)(c:Cx)(D:Nat)(body:List Stmt)(hs:List ExceptHandler)(orelse final:List Stmt):Rn Fl:=cond c.fn (cond final.isEmpty (pz o T c D body hs orelse) (attempt (pz o T c D body hs orelse)>>=DM o c D final)) qa
end Rn
section
variable {β δ:Type}{K:Except Nat β->Sx->Prop}{sx:Sx}
theorem aa.Nk{ι:Sort _}{x:An β}{P:ι->Prop}{K:ι->Except Nat β->Sx->Prop}(H:∀i,P i->aa x (K i)):aa x λo sx=>∀i,P i->K i o sx:=by
 rcases x with _|q
 ·trivial
 exact λh i p=>H i p h
theorem aa.tb{n:Nat}{f:Unit->Rn β}(H:∀st,Dg sx.st n=some st->aa (f () ⟨sx.loc,st,sx.hs⟩) K):aa ((Rn.tb n>>=f) sx) K:=aa.bind (aa.Ea λst e uu=>H st e)
theorem xF{st:St}{n:Nat}{C:Addr}(e:Rn.mz st n=some C):∃d,st[n]?=some (.jb C d true):=obs e λo e1 e2=>by
 induction o using AO.casesOn with
 |jb C' d b=>
  rcases b with _|_
  ·exact Fa e2
  cases e2;exact⟨d,e1⟩
 |_=>exact Fa e2
theorem aa.jj{n:Nat}{f:Unit->Rn β}(H:∀C d,sx.st[n]?=some (.jb C d true)->aa (f () sx) K):aa ((Rn.jj n>>=f) sx) K:=aa.bind (aa.Ea λC e uu=>(xF e).elim (H C))
end
section
variable {α β δ:Type}{θ:Th}{Γ:Bk}{ad ja:List Addr}{s s1:Shared}{rep:β->α->Hp}{sx sx1:Sx}{X:Hp}{M:Model}{A:Around}{m:Rn β}{t:Sem α}
theorem Gl.qz{f:Except Nat β->Rn δ}{Q:Except Nat δ->Sx->α->Shared->Prop}{E:Except Nat δ->Sx->Value->Shared->Prop}(H:aa (m sx) λo xa=>wpAny M A t (Qo θ Γ ja s1 rep o xa) (Eo θ Γ ja s1 o xa) s1)
  (K:∀b xa v ya s2,pb θ.W Γ.L ja s1 ya s2->Ms θ Γ ya xa s2->rep b v ya s2.heap->aa (f (.ok b) xa) λo ra=>Q o ra v s2)
  (K':∀n xa x ya s2,pb θ.W Γ.L ja s1 ya s2->Ms θ Γ ya xa s2->Xr θ.W.mv n x ya s2.heap->aa (f (.error n) xa) λo ra=>E o ra x s2):aa ((Rn.attempt m>>=f) sx) λo ra=>wpAny M A t (Q o ra) (E o ra) s1:=aa.bind (by
 unfold Rn.attempt
 revert H
 induction m sx using Option.casesOn with
 |none=>exact λuu=>trivial
 |some q=>
  intro H hl
  have H:=H hl
  obtain⟨o,xa,l⟩:=q
  induction o using Except.casesOn with
  |ok b=>
   have K:=K b xa
   refine(?_:aa (f (.ok b) xa) _)
   revert K
   rcases f (.ok b) xa with _|q2
   ·exact λuu=>trivial
   exact λK hl=>wpAny_mono H (λv s' z=>let⟨ia,r,M,x⟩:=z.po;K v ia s' r M x hl) λuu uu z=>z.ok
  |error n=>
   have K:=K' n xa
   refine(?_:aa (f (.error n) xa) _)
   revert K
   rcases f (.error n) xa with _|q2
   ·exact λuu=>trivial
   exact λK hl=>wpAny_mono H (λuu uu z=>z.Wf) λx s' z=>let⟨ia,r,M,y⟩:=z.po;K x ia s' r M y hl)
theorem Gl.ym{c:Cx}{f:β->Rn δ}{Q:Except Nat δ->Sx->α->Shared->Prop}{E:Except Nat δ->Sx->Value->Shared->Prop}(H:aa (m sx) λo xa=>wpAny M A t (Qo θ Γ ja s1 rep o xa) (Eo θ Γ ja s1 o xa) s1)
  (hE:∀n xa qc x ya s2,Dg xa.st n=some qc->pb θ.W Γ.L ja s1 ya s2->Ms θ Γ ya xa s2->Xr θ.W.mv n x ya s2.heap->E (.error n) ⟨xa.loc,qc,xa.hs⟩ x s2)
  (K:∀b xa v ya s2,pb θ.W Γ.L ja s1 ya s2->Ms θ Γ ya xa s2->rep b v ya s2.heap->aa (f b xa) λo ra=>Q o ra v s2):aa ((Rn.Fi c m>>=f) sx) λo ra=>wpAny M A t (Q o ra) (E o ra) s1:=aa.bind (by
 unfold Rn.Fi
 revert H
 induction m sx using Option.casesOn with
 |none=>exact λuu=>trivial
 |some q=>
  obtain⟨o,xa,l⟩:=q
  induction o using Except.casesOn with
  |ok b=>
   intro H hl
   have H:=H hl
   have K:=K b xa
   refine(?_:aa (f b xa) _)
   revert K
   rcases f b xa with _|q2
   ·exact λuu=>trivial
   exact λK hl=>wpAny_mono H (λv s' z=>let⟨ia,r,M,x⟩:=z.po;K v ia s' r M x hl) λuu uu z=>z.ok
  |error n=>exact λH=>aa.yb λuu=>aa.Ea λqc e3 hl=>wpAny_mono (H hl) (λuu uu z=>z.Wf) λx s' z=>let⟨ia,r,M,y⟩:=z.po;hE n xa qc x ia s' e3 r M y)
theorem Ms.mark(M:Ms θ Γ ad sx s){n:Nat}{a:Addr}(en:Db θ.W.mv ad n=some a):Ms (θ.hd n) (Γ.mark a) ad sx s:=
 ⟨M.ib,M.r,M.lo,M.nL,M.lL,M.lT,M.Yg,⟨M.env.scope,M.env.globals,M.env.builtins,M.env.cells,M.env.me⟩,M.fr,M.ff,M.je,M.un,⟨a,en,rfl⟩⟩
theorem Po.un(M:Ms θ Γ ad sx s){n:Nat}{a:Addr}(p:Po (θ.hd n) (Γ.mark a) ad s sx1 X s1):Po θ Γ ad s sx1 X s1:=by
 refine Po.casesOn p λya c M2 x=>?_
 exact⟨ya,c,⟨M2.ib,M2.r,M2.lo,M2.nL,M2.lL,M2.lT,M2.Yg,⟨M2.env.scope,M2.env.globals,M2.env.builtins,M2.env.cells,M2.env.me⟩,M2.fr,M2.ff,M2.je,M2.un,M.hn.next c.g c.k M.ke⟩,x⟩
theorem Gl.un{x:An β}{n:Nat}{a:Addr}(M:Ms θ Γ ad sx s)(H:Gl (θ.hd n) (Γ.mark a) ad s rep x t s):aa x λo xa=>wpAny θ.W.m (Γ.mark a).A t (Qo θ Γ ad s rep o xa) (Eo θ Γ ad s o xa) s:=
 H.Ba λuu uu h=>wpAny_mono h (λuu uu=>Exists.imp λuu z=>⟨z.1,z.2.un M⟩) λuu uu=>Exists.imp λuu z=>⟨z.1,z.2.un M⟩
theorem Fv.Ba(W:Wd)(f:Fl)(v:Flow):Da W.mv (Fv W f v):=by
 induction f using Fl.casesOn with
 |ret x=>exact λuu uu uu uu uu uu g k d z=>Exists.elim z λw z=>⟨w,z.1,z.2.Ba g k d⟩
 |_=>exact λuu uu uu uu uu uu uu uu uu z=>z
theorem Ms.rz(M:Ms θ Γ ad sx s){n:Nat}{C:Addr}{d:Nat}{x:Value}(q:Xr θ.W.mv n x ad s.heap)(es:sx.st[n]?=some (.jb C d true)){β:Type}{k:Value->Sem β}{Q:β->Shared->Prop}{E:Value->Shared->Prop}(h:∀T,wpAny θ.W.m A (k (.ref T)) Q E s):wpAny θ.W.m A (field x 1>>=k) Q E s:=
 q.elim λa y=>Xo.at (W:=θ.W) (M.r.ob n a _ (Hb y.2) es) λda vs ed he uu v hv z=>by
  induction(z:fe ..) using fe.casesOn with
  |mk T oT ts fl k m g c1 dd f=>
   refine y.1.symm▸?_
   exact wpAny_bind (wpAny_field he rfl hv (h T))
theorem Ms.Gv(ok:θ.W.Ok)(M:Ms θ Γ ad sx s)(hf:θ.c.fn=true){n k:Nat}{b:Addr}(eb:Db θ.W.mv ad k=some b){qc:St}{x:Value}{E:Value->Shared->Prop}(q:Xr θ.W.mv n x ad s.heap)(e3:Dg sx.st n=some qc)(hE:∀s',Po θ Γ ad s ⟨sx.loc,qc,sx.hs⟩ (Xr θ.W.mv n x) s'->E x s'):notedBy θ.W.m (Γ.mark b).A Γ.env (λx s'=>cameBackBy θ.W.m Γ.A Γ.env E x s') x s:=by
 refine Ms.Jk (θ:=θ.hd k) (Γ:=Γ.mark b) ok (M.mark eb) hf q e3 λs2 p=>?_
 refine Po.casesOn (Po.un (n:=k) (a:=b) M p) λya c M2 q2=>?_
 refine(Jq e3).elim λC z=>z.elim λd es=>M2.rz q2 es λT=>?_
 refine(if_neg (show ¬(Value.ref T==Value.none)=true from Bool.false_ne_true) ..).symm▸?_
 exact M2.zi ok q2 es λs3 p3=>hE s3 (p3.Pa c)
theorem Ms.passOn(ok:θ.W.Ok)(M:Ms θ Γ ad sx s){n:Nat}{C:Addr}{d:Nat}{x:Value}{Sa:String}(q:Xr θ.W.mv n x ad s.heap)(es:sx.st[n]?=some (.jb C d true)){Q:α->Shared->Prop}{E:Value->Shared->Prop}(hE:∀s',Po θ Γ ad s sx (Xr θ.W.mv n x) s'->E x s'):wpAny θ.W.m Γ.A (PySem.passOn Sa x Γ.env) Q E s:=by
 unfold PySem.passOn
 refine M.rz q es λT=>?_
 refine(if_neg (show ¬(Value.ref T==Value.none)=true from Bool.false_ne_true) ..).symm▸?_
 exact wpAny_bind (M.zi ok q es λs3 p3=>wpAny_throw (hE s3 p3))
theorem yF{st:St}{n:Nat}{C:Addr}{d:Nat}(e:st[n]?=some (.jb C d true)):Dg st n=some st:=by
 unfold Dg
 refine rt e ?_
 exact(List.getElem?_eq_some_iff.mp e).elim λhl he=>by
  refine(?_:some (st.set n (.jb C d true))=some st)
  refine rl he ?_
  exact congrArg some (List.set_getElem_self hl)
theorem tz(x y:Str)(h:y≠x):∀l:Lc,lk y (Rn.Mh x l)=lk y l
 |[]=>rfl
 |p::r=>by
  refine(?_:lk y (cond (Oa p.1 x) (Rn.Mh x r) (p::Rn.Mh x r))=cond (Oa p.1 y) (some p.2) (lk y r))
  rcases hx:Oa p.1 x with _|_
  ·exact congrArg (cond (Oa p.1 y) (some p.2)) (tz x y h r)
  refine rt (Zx λe=>h (e.symm.trans (Je.mp hx)) ..) ?_;exact tz x y h r
theorem uz(x:Str):∀l:Lc,lk x (Rn.Mh x l)=none
 |[]=>rfl
 |p::r=>by
  refine(?_:lk x (cond (Oa p.1 x) (Rn.Mh x r) (p::Rn.Mh x r))=none)
  rcases hx:Oa p.1 x with _|_
  ·refine(?_:cond (Oa p.1 x) (some p.2) (lk x (Rn.Mh x r))=none)
   refine rt hx ?_
   exact uz x r
  exact uz x r
end
theorem EM(name:Str)(o:Obj):(Obj.dropName name o).cls=o.cls:=by
 obtain⟨c,d,x,sl⟩:=o
 induction x using Data.casesOn<;>first|rfl|(unfold Obj.dropName;dsimp only;split<;>rfl)
theorem FM(name:Str){o:Obj}{es:Array DictEntry}{n:Nat}(hd:o.data=.dict es n):(Obj.dropName name o).isFreed=false:=by
 obtain⟨c,d,x,sl⟩:=o
 cases hd
 unfold Obj.dropName
 dsimp only
 split<;>rfl
theorem GM{name:Str}{o:Obj}{es:Array DictEntry}{n:Nat}(hd:o.data=.dict es n)(hk:StrKeys es):nsHas name o=pure (es.any λe=>e.key.isStr name):=by
 refine rt nsHas_eq ?_
 unfold nsHasByArray
 refine rt hd ?_
 have NC:es.any (·.refKey)=false:=by
  rw[Array.any_eq_false']
  intro e he
  obtain⟨x,t,h⟩:=hk e he
  simp [DictEntry.refKey,h]
 dsimp only
 induction hb:(es.any λe=>e.key.isStr name) using Bool.casesOn<;>simp [NC]
theorem HM{M:Model}{A:Around}{E:Value->Shared->Prop}{s:Shared}{a:Addr}{m:Str->Option Value}{name:Str}{Q:Bool->Shared->Prop}(hn:s.heap.Ns a m)(hv:(m name).isSome=true)
  (hQ:∀h' u,h'.Ns a (λx=>if x=name then u else m x)->Heap.SameBut a s.heap h'->(∀o,s.heap.get? a=some o->∃o',h'.get? a=some o'/\o'.cls=o.cls)->Q true {s with heap:=h'}):wpAny M A (nsDel a name) Q E s:=by
 obtain⟨o,es,ep,ho,hd,hk,hm⟩:=id hn
 have up:(s.heap.update a (Obj.dropName name)).get? a=some (Obj.dropName name o):=Heap.get?_update_self _ ho (FM name hd)
 have hb:(es.any λe=>e.key.isStr name)=true:=by
  replace hv:=(hm name ..).symm▸hv
  simp only [nsFind,findBy,Option.isSome_map,Array.find?_isSome] at hv
  obtain⟨x,h1,h2⟩:=hv
  rw[Array.any_eq_true]
  obtain⟨i,hi,rfl⟩:=Array.mem_iff_getElem.mp h1
  exact⟨i,hi,h2⟩
 unfold nsDel
 refine wpAny_bind (wpAny_loadPart ho ?_)
 refine rt (GM hd hk ..) (rt (hb ..) ?_)
 refine wpAny_bind (wpAny_pure ?_)
 refine rt (if_pos rfl ..) ?_
 refine wpAny_bind (wpAny_updatePart ho (wpAny_pure ?_))
 have cl:∀o1,s.heap.get? a=some o1->∃o',(s.heap.update a (Obj.dropName name)).get? a=some o'/\o'.cls=o1.cls:=λo1 e=>by
  replace e:=ho▸e;replace e:=Option.some.inj e;subst e
  exact⟨_,up,EM name o⟩
 have key:∃u,(s.heap.update a (Obj.dropName name)).Ns a (λx=>if x=name then u else m x):=by
  rcases hi:es.findIdx? (λe=>e.key.isStr name) with _|i
  ·have e1:(Obj.dropName name o).data=.dict es ep:=by
    obtain⟨c,d,x,sl⟩:=o
    cases hd
    simp only [Obj.dropName_eq,Obj.dropNameByArray,hi]
   refine⟨m name,_,_,_,up,e1,hk,λx=>?_⟩
   dsimp only
   by_cases hx:x=name
   ·refine rt (if_pos hx ..) (rt (hx ..) ?_);exact hm name
   ·refine rt (if_neg hx ..) ?_;exact hm x
  have e1:(Obj.dropName name o).data=.dict (es.eraseIdxIfInBounds i) (ep+1):=by
   obtain⟨c,d,x,sl⟩:=o
   cases hd
   simp only [Obj.dropName_eq,Obj.dropNameByArray,hi]
  refine⟨nsFind (es.eraseIdxIfInBounds i) name,_,_,_,up,e1,hk.erase i,λx=>?_⟩
  dsimp only
  by_cases hx:x=name
  ·exact(hx ..).symm▸(if_pos rfl ..).symm▸rfl
  ·refine rt (if_neg hx ..) (rt (nsFind_erase_other hi hx ..) ?_);exact hm x
 obtain⟨u,hu⟩:=key
 exact hQ _ u hu (.update ..) cl
section
variable {θ:Th}{X:Hp}{T:Tb}{o:Ka}{W:Wd}
theorem So.zv(ok:θ.W.Ok){x:Str}{pos:Pos}:So θ X Uv (Rn.zv θ.c x) (λenv=>unbindBehindTheSuite env x pos):=So.Jh λk hk hx Γ ad sx s M q=>aa.yb λhc=>aa.ok<|by
 have hc:=(Bool.and_eq_true _ _).mp hc
 have YV:k=.local:=by induction k using NameKind.casesOn<;>first|rfl|exact ft hc.1
 subst YV
 have w:=wk M hk hx
 obtain⟨m,hn,lo⟩:=M.lo
 have hv:(m x).isSome=true:=by
  have:=lo x
  revert this
  rcases hl:lk x sx.loc with _|sv
  ·exact ft (by have:=hc.2;replace this:=hl▸this;exact this)
  exact λz=>z.elim λv z=>by refine rt z.1 ?_;rfl
 unfold unbindBehindTheSuite
 refine wpAny_onRaise ?_
 unfold unbindName
 refine wpAny_bind (wpAny_point (wpAny_bind ?_))
 unfold deleteName
 simp only [w.1,w.2]
 refine rt (if_neg (show ¬(ScopeKind.function==ScopeKind.class||ScopeKind.function==ScopeKind.module&&Γ.env.locals !=Γ.env.globals)=true from Bool.false_ne_true) ..) ?_
 refine wpAny_bind (HM hn hv λh' u hn' sb af=>?_)
 refine rt (if_neg (show ¬(!true)=true from Bool.false_ne_true) ..) ?_
 refine wpAny_pure (wpAny_point ?_)
 have fx:=Fx.ze sb
 exact M.lo.obj.elim λo z=>z.elim λes z=>z.elim λn z=>(af o z.1).elim λo' y=>by
  have k:xb θ.W.n ad Γ.L s.heap h':=fx.ED rfl z.1 y.1 y.2 (hn'.elim λo2 e=>e.elim λjn e=>e.elim λn2 e=>⟨jn,n2,sj e.1 y.1▸e.2.1⟩)
  have c:pb θ.W Γ.L ad s ad {s with heap:=h'}:=⟨.refl,k,rfl⟩
  refine⟨(),rfl,ad,c,M.next ok c (M.r.Ae fx M.nL k M.ke) ⟨_,hn',λv=>?_⟩,trivial⟩
  by_cases hy:v=x
  ·subst hy
   refine(?_:match lk v (Rn.Mh v sx.loc) with|some sv=>_|none=>True)
   refine rt (uz ..) ?_
   trivial
  ·refine(?_:match lk v (Rn.Mh x sx.loc) with|some sv=>∃w,(if v=x then u else m v)=some w/\_|none=>True)
   refine rt (tz x v hy ..) (rt (if_neg hy ..) ?_)
   have:=lo v
   revert this
   rcases lk v sx.loc with _|sv
   ·exact id
   exact λz=>z.elim λw z=>⟨w,z.1,c.v M z.2⟩
theorem So.dg(ok:θ.W.Ok){x:Str}{pos:Pos}:So θ (λuu uu=>True) Uv (Rn.dg θ.c x) (λenv=>do PySem.bindName env x .none;unbindBehindTheSuite env x pos):=So.then Da.true (So.bindName ok (v:=.nn) (w:=.none) λuu uu uu=>rfl) (So.zv ok)
end
end
section
variable {kz:Nat}
section
variable {W:Wd}{T:Tb}{ad:List Addr}{h:Heap}{a C:Addr}{d:Nat}{tb:Bool}
theorem IM(hT:lb W T)(ib:W.K.In h)(q:Xo W ad h a C d tb){p:Addr}{b:Bool}(e:T.xm C (.tp p)=some b):Looks W.m h (excMatches (.ref a) (.ref p)) b:=q.at λda vs uu he uu uu uu uu=>exm_one ib ((Looks.ld he).andThen .now) (hT.xm _ _ _ e)
theorem JM:isSubtype (.type "tuple") (.type "tuple")=Pure.pure true:=isSubtype_tuple_tuple
theorem MM{t p1 p2:Addr}{n:Nat}{b1 b2:Bool}(hT:lb W T)(ib:W.K.In h)(q:Xo W ad h a C d tb)(ht:h.get? t=some ⟨.type "tuple",none,.seq (List.toArray [.ref p1,.ref p2]) n,#[]⟩)(e1:T.xm C (.tp p1)=some b1)(e2:T.xm C (.tp p2)=some b2):Looks W.m h (excMatches (.ref a) (.ref t)) (b1||b2):=q.at λda vs uu he uu uu uu uu=>by
 intro A Q E s k₀ q
 obtain⟨hh,g,d,tk,os⟩:=s
 have k:∀b o,h.get? b=some o->hh.get? b=some o:=k₀
 have LT:Looks W.m h (typeOf (.ref a)) (.ref C):=(Looks.ld he).andThen .now
 have L0:Looks W.m h (isInstance (.ref t) (.type "tuple")) true:=((Looks.ld ht).andThen .now).andThen (Looks.of_pure JM)
 obtain⟨y1,z1⟩:=exm_cls (M:=W.m) ib (hT.xm _ _ _ e1)
 obtain⟨y2,z2⟩:=exm_cls (M:=W.m) ib (hT.xm _ _ _ e2)
 have y1:=y1.keeps k
 have z1:=z1.keeps k
 have y2:=y2.keeps k
 have z2:=z2.keeps k
 have LT:=LT.keeps k
 have L0:=L0.keeps k
 have Vp:=k _ _ ht
 unfold excMatches
 refine wpAny_bind (L0.at ?_)
 dsimp only
 refine rt (if_pos rfl ..) ?_
 first
  |refine wpAny_bind (wpAny_seqItems Vp rfl ?_)
  |refine wpAny_bind (wpAny_bind (wpAny_seqItems Vp rfl (wpAny_pure ?_)))
 dsimp only [Option.getD_some,Option.getD,Xn] at *
 induction b1 using Bool.casesOn<;>induction b2 using Bool.casesOn<;>((repeat (first|simp only [List.forIn_cons,List.forIn_nil,Bool.not_true,Bool.false_eq_true,if_false,if_true]|lk));exact q)
end
section
variable {θ:Th}{Γ:Bk}{ad:List Addr}{s:Shared}{sx:Sx}{X:Hp}{T:Tb}{o:Ka}
theorem zF{v:SV}{a:Addr}(e:Rn.nz v=some a):v=.tp a:=by
 induction v using SV.casesOn<;>first|exact Fa e|exact congrArg SV.tp (Option.some.inj e)
theorem NM(hT:lb θ.W T)(M:Ms θ Γ ad sx s){n:Nat}{a C:Addr}{d:Nat}(en:Db θ.W.mv ad n=some a)(es:sx.st[n]?=some (.jb C d true)){v:SV}{w:Value}(q:V θ.W ad s.heap v w){b:Bool}(e:Rn.uF T C v=some b):Looks θ.W.m s.heap (excMatches (.ref a) w) b:=by
 have x:Xo θ.W ad s.heap a C d true:=M.r.ob n a _ (Hb en) es
 induction v using SV.casesOn with
 |tp p=>
  subst q
  exact IM hT M.ib x e
 |tu l=>induction l using List.casesOn with
  |nil=>exact Fa e
  |cons a l=>
   rcases l with _|⟨b,l⟩
   ·exact Fa e
   induction l using List.casesOn with
    |cons _ _=>exact Fa e
    |nil=>
     exact obs e λp1 h1 e=>obs e λp2 h2 e=>obs e λb1 e1 e=>obs e λb2 e2 e=>by
      replace q:=(zF h2 ..)▸(zF h1 ..)▸q
      replace e:=Option.some.inj e;subst e
      refine fb.casesOn (q:fb ..) λt vs nn ht q uu=>?_
      induction(q:Ta ..) using Ta.casesOn with
       |mk v1 r1 q1 z=>induction(z:Ta ..) using Ta.casesOn with
        |mk v2 r2 q2 q3=>
         subst q1
         subst q2
         cases(show r2=[] from q3)
         exact MM hT M.ib x ht e1 e2
 |_=>exact Fa e
def fg(m:Rn Unit):Prop:=∀sx,aa (m sx) λo uu=>o=.ok ()
theorem aa.and{β:Type}{x:An β}{K K':Except Nat β->Sx->Prop}(H:aa x K)(H':aa x K'):aa x λo sx=>K o sx/\K' o sx:=by
 rcases x with _|q
 ·trivial
 exact λh=>⟨H h,H' h⟩
theorem fg.Jh{c:Cx}{x:Str}{f:NameKind->Rn Unit}(H:∀k,fg (f k)):fg (Rn.Jh c x f):=λsx=>aa.yb λuu=>aa.Ea λk uu=>H k sx
theorem fg.Kd{c:Cx}{x:Str}{v:SV}:fg (Rn.Kd c x v):=fg.Jh λk=>by
 have h:fg (Rn.Xl c x v):=λsx=>aa.Ea λn uu=>aa.Ea λo uu=>aa.yb λuu=>aa.ok rfl
 induction k using NameKind.casesOn<;>first|exact λuu=>trivial|exact λuu=>aa.ok rfl|exact h
theorem fg.dg{c:Cx}{x:Str}:fg (Rn.dg c x):=λsx=>aa.bind ((fg.Kd sx).Ba λo sx1 e=>by
 refine rt e ?_
 exact fg.Jh (λuu uu=>aa.yb λuu=>aa.ok rfl) sx1)
theorem Gl.vz{δ α:Type}{ja:List Addr}{s1:Shared}{M:Model}{A:Around}{m:Rn Unit}{t:Sem α}{f:Unit->Rn δ}{rep:Unit->α->Hp}{Q:Except Nat δ->Sx->α->Shared->Prop}{E:Except Nat δ->Sx->Value->Shared->Prop}(hm:fg m)(H:aa (m sx) λo xa=>wpAny M A t (Qo θ Γ ja s1 rep o xa) (Eo θ Γ ja s1 o xa) s1)
  (K:∀xa v ya s2,pb θ.W Γ.L ja s1 ya s2->Ms θ Γ ya xa s2->rep () v ya s2.heap->aa (f () xa) λo ra=>Q o ra v s2):aa ((m>>=f) sx) λo ra=>wpAny M A t (Q o ra) (E o ra) s1:=
 aa.bind (((hm sx).and H).Ba λo xa h=>by
  obtain⟨e,h⟩:=h
  subst e
  have K:=K xa
  refine(?_:aa (f () xa) _)
  revert K
  rcases f () xa with _|q
  ·exact λuu=>trivial
  exact λK hl=>wpAny_mono h (λv s' z=>let⟨ia,r,M,x⟩:=z.po;K v ia s' r M x hl) λuu uu z=>z.ok)
noncomputable abbrev Hr(θ:Th)(Γ:Bk)(ad:List Addr)(s:Shared)(name:Option Str)(pos:Pos)(r:Except Nat Fl)(sx:Sx)(x:Result)(s2:Shared):Prop:=match x with
 |.ok f=>(match name with
  |none=>Qo θ Γ ad s (Fv θ.W) r sx f s2
  |some n=>wpAny θ.W.m Γ.A (do PySem.bindName Γ.env n .none;unbindBehindTheSuite Γ.env n pos) (λuu s3=>Qo θ Γ ad s (Fv θ.W) r sx f s3) (Eo θ Γ ad s r sx) s2)
 |.error x=>cameBackBy θ.W.m Γ.A Γ.env (Eo θ Γ ad s r sx) x s2
theorem OM(ok:θ.W.Ok)(H:o.Ok θ.W)(hf:θ.c.fn=true)(M:Ms θ Γ ad sx s){n:Nat}{a C:Addr}{d:Nat}(en:Db θ.W.mv ad n=some a)(es:sx.st[n]?=some (.jb C d true))(name:Option Str)(b0:Stmt)(b:List Stmt)(pos:Pos):
  aa (Rn.Yq o θ.c θ.D n (b0::b) name sx) λr ra=>codeAny θ.W.m (Γ.mark a).A (.handlers (.ref a) [.ExceptHandler none name (b0::b) pos] Γ.env) (Hr θ Γ ad s name pos r ra) s:=by
 have fl:∀{E:Value->Shared->Prop} {Q:Unit->Shared->Prop},(∀s3,Po θ Γ ad s sx (Xr θ.W.mv n (.ref a)) s3->Q () s3)->wpAny θ.W.m (Γ.mark a).A (setFlight (.ref a) none) Q E s:=λh=>Ms.zi (θ:=θ.hd n) (Γ:=Γ.mark a) ok (M.mark en) ⟨a,rfl,en⟩ es λs3 p=>h s3 (p.un M)
 rcases name with _|x
 ·refine aa.Ba (λr ra h=>codeAny_handlers_suite (fl λs3 p=>h s3 p)) (aa.Nk λs3 p=>?_)
  obtain⟨ic,c3,M3,a3,e3,Wp⟩:=p
  cases e3
  refine Gl.ym (Gl.un M3 (H.ex (θ.c.hd n) θ.D _ (b0::b) Da.true (Γ.mark a) ic sx s3 (M3.mark Wp) trivial)) (λm xa qc x Wg s4 e4 c4 M4 q=>M4.Gv ok hf (c4.g.get Wp) q e4 λs5 p5=>⟨m,rfl,(p5.Pa c4).Pa c3⟩) λf xa v Wg s4 c4 M4 q=>aa.ok ⟨f,rfl,Wg,c3.trans c4,M4,q⟩
 refine aa.Ba (λr ra h=>codeAny_handlers_suite_as (fl λs3 p=>h s3 p)) (aa.Nk λs3 p=>?_)
 obtain⟨ic,c3,M3,a3,e3,Wp⟩:=p
 cases e3
 refine Gl.vz fg.Kd (Gl.un M3 (So.storeName (θ:=θ.hd n) (X:=λad uu=>Db θ.W.mv ad n=some a) ok (v:=.ob n) (λuu uu q=>⟨a,q,rfl⟩) (Γ.mark a) ic sx s3 (M3.mark Wp) Wp)) λXp uu Wg s4 c4 M4 uu=>?_
 have Qs:=c4.g.get Wp
 have Ss:=c3.trans c4
 refine Gl.qz (Gl.un M4 (H.ex (θ.c.hd n) θ.D _ (b0::b) Da.true (Γ.mark a) Wg Xp s4 (M4.mark Qs) trivial)) (λf gD v Ts s5 c5 M5 q=>?_) λm gD y Ts s5 c5 M5 q=>?_
 ·exact Gl.use (So.dg ok Γ Ts gD s5 M5 trivial) (Ss.trans c5) λuu vJ uu Us s6 c6 ZV M6 uu=>aa.ok ⟨f,rfl,Us,c6,M6,ZV.Ba M5 (Fv.Ba θ.W f v) q⟩
 ·have wJ:=c5.g.get Qs
  have aW:=Ss.trans c5
  refine aa.tb λMX e6=>aa.Ba (λr ra h=>Ms.Jk (θ:=θ.hd n) (Γ:=Γ.mark a) ok (M5.mark wJ) hf q e6 λs6 p=>h s6 (p.un M5)) (aa.Nk λs6 p=>?_)
  obtain⟨Us,c6,M6,q6⟩:=p
  have xJ:=c6.g.get wJ
  refine Gl.vz fg.dg (Gl.un M6 (So.dg (θ:=θ.hd n) ok (Γ.mark a) Us _ s6 (M6.mark xJ) trivial)) λNX uu OX s7 c7 M7 uu=>aa.jj λC7 d7 yJ=>aa.ok ?_
  have zJ:=c7.g.get xJ
  refine Ms.passOn (θ:=θ.hd n) (Γ:=Γ.mark a) ok (M7.mark zJ) (q6.imp λuu z=>⟨z.1,c7.g.get z.2⟩) yJ λs8 p8=>?_
  refine Po.casesOn (Po.un (n:=n) (a:=a) M7 p8) λPX c8 M8 q8=>?_
  exact M8.Gv ok hf (c8.g.get zJ) q8 (yF yJ) λs9 p9=>⟨m,rfl,p9.Pa ((aW.trans (c6.trans c7)).trans c8)⟩
theorem AF(ok:θ.W.Ok)(hT:lb θ.W T)(H:o.Ok θ.W)(hf:θ.c.fn=true):∀(hs:List ExceptHandler) (sx:Sx) {n:Nat} {C:Addr} {d:Nat},sx.st[n]?=some (.jb C d true)->
  ∀{ad:List Addr} {s:Shared} {a:Addr},Ms θ Γ ad sx s->Db θ.W.mv ad n=some a->Gl θ Γ ad s (Fv θ.W) (Rn.Av o T θ.c θ.D n hs sx) (handleBy (.ref a) Γ.env hs) s
 |[],sx,n,C,d,es,ad,s,a,M,en=>aa.jj λuu uu uu=>aa.ok (wpAny_handleBy_nil (M.passOn ok ⟨a,rfl,en⟩ es λs' p=>⟨n,rfl,p⟩))
 |.ExceptHandler none _ _ _::_,_,_,_,_,_,_,_,_,_,_=>trivial
 |.ExceptHandler (some t) _ [] _::_,_,_,_,_,_,_,_,_,_,_=>trivial
 |.ExceptHandler (some t) name (b0::b) pos::rest,sx,n,C,d,es,ad,s,a,M,en=>by
  have go:aa ((Rn.Fi θ.c (o.ev (θ.c.hd n) θ.D t)>>=λv=>Rn.xo T n v>>=λq=>cond q (Rn.Yq o θ.c θ.D n (b0::b) name) (Rn.Av o T θ.c θ.D n rest)) sx) λr ra=>wpAny θ.W.m Γ.A (handleBy (.ref a) Γ.env (.ExceptHandler (some t) name (b0::b) pos::rest)) (Qo θ Γ ad s (Fv θ.W) r ra) (Eo θ Γ ad s r ra) s:=
   aa.Ba (λuu uu h=>wpAny_handleBy_cons (codeAny_handlers_test h) (ref_ne_byPass a)) (Gl.ym (Gl.un M (H.ev (θ.c.hd n) θ.D _ t Da.true (Γ.mark a) ad sx s (M.mark en) trivial))
    (λm xa qc x Wg s4 e4 c4 M4 q=>M4.Gv ok hf (c4.g.get en) q e4 λs5 p5=>⟨m,rfl,p5.Pa c4⟩) λv xa w ya s2 c2 M2 q=>aa.bind (aa.Ea λC2 eC=>aa.Ea λb eb uu=>(xF eC).elim λd2 jn=>by
     have iD:=c2.g.get en
     have lk:=NM hT M2 iD jn q eb
     rcases b with _|_
     ·exact aa.Ba (λr ra h=>lk.here h) ((AF ok hT H hf rest xa jn M2 iD).Va c2)
     refine aa.Ba (λr ra h=>lk.here ?_) (OM ok H hf M2 iD jn name b0 b pos)
     refine codeAny_mono h λx s3 z=>?_
     rcases x with x|f
     ·exact wpAny_mono z (λuu uu=>Exists.imp λuu z=>⟨z.1,z.2.Pa c2⟩) λuu uu=>Exists.imp λuu z=>⟨z.1,z.2.Pa c2⟩
     rcases name with _|x
     ·exact Exists.imp (λuu z=>⟨z.1,z.2.Pa c2⟩) z
     exact wpAny_mono z (λuu uu=>Exists.imp λuu z=>⟨z.1,z.2.Pa c2⟩) λuu uu=>Exists.imp λuu z=>⟨z.1,z.2.Pa c2⟩))
  exact go
end
end
section
variable {kz:Nat}
noncomputable def Zq(body:List Stmt)(hs:List ExceptHandler)(orelse:List Stmt)(env:PySem.Env):Sem Flow:=do
 match <-(execs body env).attempt with
 |.ok .next=>execs orelse env
 |.ok f=>pure f
 |.error e=>
  noteFrame e env
  if hs.isEmpty then throw e
  setFlight e none
  handleBy e env hs
noncomputable def BF(body:List Stmt)(hs:List ExceptHandler)(orelse final:List Stmt)(env:PySem.Env):Sem Flow:=do
 match <-(Zq body hs orelse env).attempt with
 |.ok f=>
  let keep:=match f with|.ret v=>[v]|_=>[]
  match <-holding keep (runOwn (.block final env) env) with
  |.next=>pure f
  |f'=>rule "try.finally-overrides-flow";pure f'
 |.error e=>
  noteFrame e env
  setFlight e none
  match <-holding [e] (runOwn (.block final env) env (some e)) with
  |.next=>passOn "try.finally" e env
  |f'=>rule "try.finally-swallows-exception";setFlight e none;pure f'
theorem PM(body:List Stmt)(hs:List ExceptHandler)(orelse:List Stmt)(env:PySem.Env):tryStmt false (execs body env) hs (execs orelse env) [] env=Zq body hs orelse env:=by rfl
theorem QM(body:List Stmt)(hs:List ExceptHandler)(orelse fs:List Stmt)(f0:Stmt)(env:PySem.Env):tryStmt false (execs body env) hs (execs orelse env) (f0::fs) env=BF body hs orelse (f0::fs) env:=by rfl
section
variable {θ:Th}{Γ:Bk}{ad:List Addr}{s:Shared}{sx:Sx}{X:Hp}{T:Tb}{o:Ka}{W:Wd}
theorem CF(ok:θ.W.Ok)(hT:lb θ.W T)(H:o.Ok θ.W)(hf:θ.c.fn=true){body orelse:List Stmt}{hs:List ExceptHandler}(M:Ms θ Γ ad sx s):Gl θ Γ ad s (Fv θ.W) (Rn.pz o T θ.c θ.D body hs orelse sx) (Zq body hs orelse Γ.env) s:=by
 refine aa.Ba (λuu uu h=>wpAny_bind (wpAny_attempt h)) (Gl.qz (H.lm body Da.true Γ ad sx s M trivial) (λf sx1 v ja s1 c1 M1 q=>?_) λn sx1 x ja s1 c1 M1 q=>?_)
 ·induction f using Fl.casesOn with
  |next=>
   cases(show v=.next from q)
   exact(H.lm orelse Da.true Γ ja sx1 s1 M1 trivial).Va c1
  |brk=>
   cases(show v=.brk from q)
   exact aa.ok (wpAny_pure ⟨.brk,rfl,ja,c1,M1,rfl⟩)
  |cont=>
   cases(show v=.cont from q)
   exact aa.ok (wpAny_pure ⟨.cont,rfl,ja,c1,M1,rfl⟩)
  |ret y=>
   exact Exists.elim q λw z=>by
    refine rt z.1 ?_
    exact aa.ok (wpAny_pure ⟨.ret y,rfl,ja,c1,M1,w,rfl,z.2⟩)
 ·refine aa.tb λSl e2=>aa.Ba (λr ra h=>wpAny_bind (M1.Jk ok hf q e2 λs2 p=>h s2 p)) (aa.Nk λs2 p=>?_)
  rcases hs with _|⟨hd,tl⟩
  ·refine Po.casesOn p λya c2 M2 q2=>?_
   exact aa.ok (wpAny_bind (wpAny_throw ⟨n,rfl,ya,c1.trans c2,M2,q2⟩))
  obtain⟨ya,c2,M2,q2⟩:=p
  obtain⟨C,d,es⟩:=Jq e2
  refine aa.Ba (λr ra h=>wpAny_bind (M2.zi ok q2 es λs3 p=>h s3 p)) (aa.Nk λs3 p=>?_)
  obtain⟨ic,c3,M3,a,ea,en⟩:=p
  refine rt ea ?_
  exact(AF ok hT H hf (hd::tl) _ es M3 en).Va (c1.trans (c2.trans c3))
theorem So.Dv(ok:θ.W.Ok)(hT:lb θ.W T)(H:o.Ok θ.W){body orelse final:List Stmt}{hs:List ExceptHandler}{pos:Pos}:So θ X (Fv θ.W) (Rn.Dv o T θ.c θ.D body hs orelse final) (λenv=>exec (.Try body hs orelse final pos) env):=So.yb λhf=>So.Nb (λenv=>arm_exec_Try body hs orelse final pos env) (So.Jb λΓ ad sx s M uu=>by
 rcases final with _|⟨f0,fs⟩
 ·refine(?_:aa _ λuu uu=>wpAny _ _ (tryStmt ..) _ _ _)
  refine rt (PM ..) ?_
  exact CF ok hT H hf M
 refine(?_:aa _ λuu uu=>wpAny _ _ (tryStmt ..) _ _ _)
 refine rt (QM ..) ?_
 refine aa.Ba (λuu uu h=>wpAny_bind (wpAny_attempt h)) (Gl.qz (CF ok hT H hf M) (λf sx1 v ja s1 c1 M1 q=>?_) λn sx1 x ja s1 c1 M1 q=>?_)
 ·refine aa.Ba (λuu uu h=>wpAny_bind (wpAny_holding (wpAny_runOwn (codeAny_block h)))) ?_
  refine rt (Around.mark_none ..) ?_
  refine Gl.ym (H.lm (f0::fs) Da.true Γ ja sx1 s1 M1 trivial) (λm xa qc x Wg s4 e4 c4 M4 q=>M4.Pa ok hf q e4 λs5 p5=>⟨m,rfl,(p5.Pa c4).Pa c1⟩) λg xa w ya s2 c2 M2 z=>aa.ok ?_
  have b:=λw z=>(⟨g,rfl,ya,c1.trans c2,M2,z⟩:Qo θ Γ ad s (Fv θ.W) (.ok g) xa w s2)
  induction g using Fl.casesOn with
  |next=>cases(show w=.next from z);exact wpAny_pure ⟨f,rfl,ya,c1.trans c2,M2,c2.Ba M1 (Fv.Ba θ.W f v) q⟩
  |brk=>cases(show w=.brk from z);exact wpAny_bind (wpAny_rule (wpAny_pure (b _ z)))
  |cont=>cases(show w=.cont from z);exact wpAny_bind (wpAny_rule (wpAny_pure (b _ z)))
  |ret y=>exact Exists.elim z λu y=>by refine rt y.1 ?_;exact wpAny_bind (wpAny_rule (wpAny_pure (b _ ⟨u,rfl,y.2⟩)))
 ·refine aa.tb λSl e2=>aa.Ba (λr ra h=>wpAny_bind (M1.Jk ok hf q e2 λs2 p=>h s2 p)) (aa.Nk λs2 p=>?_)
  obtain⟨ya,c2,M2,q2⟩:=p
  obtain⟨C,d,es⟩:=Jq e2
  refine aa.Ba (λr ra h=>wpAny_bind (M2.zi ok q2 es λs3 p=>h s3 p)) (aa.Nk λs3 p=>?_)
  obtain⟨ic,c3,M3,a,ea,en⟩:=p
  refine rt ea ?_
  have AJ:=c1.trans (c2.trans c3)
  refine aa.Ba (λuu uu h=>wpAny_bind (wpAny_holding (wpAny_runOwn (codeAny_block h) λq=>ref_ne_byPass a (Option.some.inj q)))) ?_
  refine Gl.ym (Gl.un M3 (H.ex (θ.c.hd n) θ.D _ (f0::fs) Da.true (Γ.mark a) ic _ s3 (M3.mark en) trivial)) (λm xa qc x Wg s4 e4 c4 M4 q=>M4.Gv ok hf (c4.g.get en) q e4 λs5 p5=>⟨m,rfl,(p5.Pa c4).Pa AJ⟩) λg Xp w Wg s4 c4 M4 z=>aa.jj λC5 d5 BJ=>?_
  have Qs:=c4.g.get en
  have Ss:=AJ.trans c4
  have b:∀w',Fv θ.W g w' Wg s4.heap->Gl θ Γ ad s (Fv θ.W) ((Pure.pure g:Rn Fl) Xp) (do rule "try.finally-swallows-exception";setFlight (.ref a) none;(Pure.pure w':Sem Flow)) s4:=λw' z=>aa.ok (wpAny_bind (wpAny_rule (wpAny_bind (M4.zi ok ⟨a,rfl,Qs⟩ BJ λs5 p5=>wpAny_pure (by
   refine Po.casesOn p5 λTs c5 M5 uu=>?_
   exact⟨g,rfl,Ts,Ss.trans c5,M5,c5.Ba M4 (Fv.Ba θ.W g w') z⟩)))))
  induction g using Fl.casesOn with
  |next=>cases(show w=.next from z);exact aa.ok (M4.passOn ok ⟨a,rfl,Qs⟩ BJ λs5 p5=>⟨n,rfl,p5.Pa Ss⟩)
  |brk=>cases(show w=.brk from z);exact b _ z
  |cont=>cases(show w=.cont from z);exact b _ z
  |ret y=>exact Exists.elim z λu y=>by refine rt y.1 ?_;exact b _ ⟨u,rfl,y.2⟩)
end
end
section
variable {kz:Nat}
noncomputable def ix:List Nat->Nat->Option Nat
 |[],_=>none
 |p::r,n=>cond (Nat.beq p n) (some 0) ((ix r n).bind λi=>some (i+1))
theorem Zd:∀{ps:List Nat} {n i:Nat},ix ps n=some i->ps[i]?=some n
 |[],_,_,e=>Fa e
 |p::r,n,i,e=>by
  have e:cond (Nat.beq p n) (some 0) ((ix r n).bind λi=>some (i+1))=some i:=e
  revert e
  rcases h:Nat.beq p n with _|_
  ·exact λe=>obs e λj e1 e2=>by replace e2:=Option.some.inj e2;subst e2;exact Zd (ps:=r) e1
  exact λe=>by cases e;exact congrArg some (Nat.eq_of_beq_eq_true h)
theorem Pk:∀{ps:List Nat} {n:Nat},ix ps n=none->n∉ps
 |[],_,_=>λm=>nomatch m
 |p::r,n,e=>by
  have e:cond (Nat.beq p n) (some 0) ((ix r n).bind λi=>some (i+1))=none:=e
  revert e
  rcases h:Nat.beq p n with _|_
  ·refine λe m=>(List.mem_cons.mp m).elim (λq=>ft (h.symm.trans (q▸Nat.beq_refl n))) (Pk ?_)
   revert e
   rcases ix r n with _|j
   ·exact λuu=>rfl
   exact λe=>nomatch e
  exact λe=>nomatch e
mutual
noncomputable def Pa(z:Nat->Addr)(ps:List Nat):SV->SV
 |.ob n=>match ix ps n with
  |some i=>.ob i
  |none=>.tp (z n)
 |.tu l=>.tu (Af z ps l)
 |.fl l=>.fl (Af z ps l)
 |x=>x
noncomputable def Af(z:Nat->Addr)(ps:List Nat):List SV->List SV
 |[]=>[]
 |x::l=>Pa z ps x::Af z ps l
end
mutual
noncomputable def Hi(k:Nat):SV->Bool
 |.ob n=>Nat.blt n k
 |.tu l=>Fg k l
 |.fl l=>Fg k l
 |_=>true
noncomputable def Fg(k:Nat):List SV->Bool
 |[]=>true
 |x::l=>Hi k x&&Fg k l
end
noncomputable def Cm(ps:List Nat):List (Str×Nat)->Option (List (Str×Nat))
 |[]=>some []
 |p::r=>(ix ps p.2).bind λi=>(Cm ps r).bind λl=>some ((p.1,i)::l)
noncomputable abbrev Rk{K:Type}(z:Nat->Addr)(ps:List Nat)(fs:List (K×SV)):List (K×SV):=fs.map λp=>(p.1,Pa z ps p.2)
noncomputable abbrev yo{K:Type}(k:Nat)(fs:List (K×SV)):Bool:=fs.all λp=>Hi k p.2
noncomputable def zo(z:Nat->Addr)(ps:List Nat)(k:Nat):AO->Option AO
 |.bc c d=>(ix ps d).bind λj=>some (.bc c j)
 |.ns fs=>cond (yo k fs) (some (.ns (Rk z ps fs))) none
 |.Ha l=>cond (Fg k l) (some (.Ha (Af z ps l))) none
 |.di fs=>cond (yo k fs) (some (.di (Rk z ps fs))) none
 |.dp kk e=>match e with
  |none=>some (.dp kk none)
  |some v=>cond (Hi k v) (some (.dp kk (some (Pa z ps v)))) none
 |.cell e=>match e with
  |none=>some (.cell none)
  |some v=>cond (Hi k v) (some (.cell (some (Pa z ps v)))) none
 |.jb c d t=>(ix ps d).bind λj=>some (.jb c j t)
 |.fn b cl=>(Cm ps cl).bind λl=>some (.fn b l)
 |.ls pre L l=>cond (Fg k l) (some (.ls pre L (Af z ps l))) none
 |.dq kk x=>cond (Hi k x) (some (.dq kk (Pa z ps x))) none
 |.li x i=>cond (Hi k x) (some (.li (Pa z ps x) i)) none
 |.op _=>none
 |o=>some o
noncomputable def ig(z:Nat->Addr)(ps:List Nat)(k:Nat)(o:AO):Option AO:=o.Gd.elim (zo z ps k o) λx=>(zo z ps k x).bind λy=>some (.op y)
noncomputable def Nj(z:Nat->Addr)(ps:List Nat)(k:Nat)(o:AO):AO:=(ig z ps k o).getD .ta
noncomputable def Md(z:Nat->Addr)(ps:List Nat)(st:St):St:=ps.map λp=>Nj z ps st.length ((st[p]?).getD .ta)
structure Fm(W:Wd)(fd1 ad ja:List Addr)(ps:List Nat)(z:Nat->Addr):Prop where
 get:∀(i p:Nat),ps[i]?=some p->∃a,ja[i]?=some a/\ad[p]?=some a
 sub:∀a∈ja,a∈ad
 th:∀(n:Nat) (a:Addr),ad[n]?=some a->ix ps n=none->z n=a
 out:∀a:Addr,W.out ad a<->(W.on fd1).out ja a
 mi:∀i p,ps[i]?=some p->W.mv p=W.mv i
 mo:∀n,n<ad.length->ix ps n=none->W.mv n=false
section
variable {W:Wd}{fd1 ad ja:List Addr}{ps:List Nat}{z:Nat->Addr}{h:Heap}
set_option tactic.hygienic true in
theorem wz{x:SV}:Ia x=true->Hi ad.length x=true/\Pa z ps x=x:=by
 induction x using SV.rec (motive_2:=λl=>clos l=true->Fg ad.length l=true/\Af z ps l=l) with
 |ob n=>exact ft
 |tu l ih=>exact λc=>⟨(ih c).1,congrArg SV.tu (ih c).2⟩
 |fl l ih=>exact λc=>⟨(ih c).1,congrArg SV.fl (ih c).2⟩
 |nil=>exact⟨rfl,rfl⟩
 |cons x l ih il=>
  rename_i c
  exact have c:=(Bool.and_eq_true _ _).mp c;have a:=ih c.1;have b:=il c.2;⟨(Bool.and_eq_true _ _).mpr ⟨a.1,b.1⟩,by
   refine(?_:Pa z ps x::Af z ps l=x::l)
   exact a.2.symm▸b.2.symm▸rfl⟩
 |_=>exact λuu=>⟨rfl,rfl⟩
theorem fb.ar{out vg:Addr->Prop}(O:∀a,out a<->vg a){T:String}{P Q:List Value->Prop}(H:∀vs,P vs<->Q vs)(v:Value):fb h out T P v<->fb h vg T Q v:=
 ⟨λq=>by induction q using fb.casesOn with|mk a vs n e q m=>exact⟨a,vs,n,e,(H vs).mp q,(O a).mp m⟩,λq=>by induction q using fb.casesOn with|mk a vs n e q m=>exact⟨a,vs,n,e,(H vs).mpr q,(O a).mpr m⟩⟩
theorem Ta.ar{P P':Value->Prop}{Q Q':List Value->Prop}(H:∀v,P v<->P' v)(H':∀v,Q v<->Q' v)(v:List Value):Ta P Q v<->Ta P' Q' v:=⟨Ta.imp (λv=>(H v).mp) λv=>(H' v).mp,Ta.imp (λv=>(H v).mpr) λv=>(H' v).mpr⟩
theorem Fm.fi(F:Fm W fd1 ad ja ps z):Fm W.fi fd1 ad ja ps z:=⟨F.get,F.sub,F.th,F.out,λuu uu uu=>rfl,λuu uu uu=>rfl⟩
theorem Fm.nm(F:Fm W fd1 ad ja ps z){i n:Nat}(e:ix ps n=some i):Db W.mv ad n=Db W.mv ja i:=(F.get i n (Zd e)).elim λa y=>by
 unfold Db
 exact(F.mi i n (Zd e) ..).symm▸(y.1 ..).symm▸(y.2 ..).symm▸rfl
set_option tactic.hygienic true in
theorem V.bf(F:Fm W fd1 ad ja ps z){x:SV}:Hi ad.length x=true->∀v,V W ad h x v<->V (W.on fd1) ja h (Pa z ps x) v:=by
 induction x using SV.rec (motive_2:=λl=>Fg ad.length l=true->∀v,Vs W ad h l v<->Vs (W.on fd1) ja h (Af z ps l) v) with
 |ob n=>
  intro k v
  have hn:n<ad.length:=Nat.le_of_ble_eq_true k
  have en:ad[n]?=some ad[n]:=List.getElem?_eq_getElem hn
  refine(?_:(∃a,Db W.mv ad n=some a/\v=.ref a)<->V (W.on fd1) ja h (match ix ps n with|some i=>.ob i|none=>.tp (z n)) v)
  rcases hi:ix ps n with _|i
  ·have t:=F.th n _ en hi
   exact⟨λq=>q.elim λb q=>q.2.trans (by exact(F.th n b (Hb q.1) hi ..).symm▸rfl),λq=>⟨_,yc (F.mo n hn hi) en,Eq.trans q (by exact rt t rfl)⟩⟩
  refine rt (F.nm hi ..) ?_
  exact Iff.rfl
 |rg n=>exact λuu v=>⟨λq=>by induction q using Rg.casesOn with|mk a t u w e m=>exact .mk a t u w e ((F.out a).mp m),λq=>by induction(q:Rg ..) using Rg.casesOn with|mk a t u w e m=>exact Rg.mk a t u w e ((F.out a).mpr m)⟩
 |tu l ih=>exact λk=>fb.ar F.out (ih k)
 |fl l ih=>exact λk=>fb.ar F.out (ih k)
 |cs x ih=>
  have e:=λc v=>(wz (z:=z) (ps:=ps) (ad:=ad) (x:=x) c).2▸ih (wz (z:=z) (ps:=ps) c).1 v
  exact λuu v=>⟨λq=>⟨q.1,(e q.1 v).mp q.2⟩,λq=>⟨q.1,(e q.1 v).mpr q.2⟩⟩
 |nil=>exact Iff.rfl
 |cons x l ih il=>
  rename_i k v
  exact have k:=(Bool.and_eq_true _ _).mp k;Ta.ar (ih k.1) (il k.2) v
 |_=>exact λuu uu=>Iff.rfl
theorem Vs.bf(F:Fm W fd1 ad ja ps z){l:List SV}(k:Fg ad.length l=true)(v:List Value):Vs W ad h l v<->Vs (W.on fd1) ja h (Af z ps l) v:=by
 induction l generalizing v with
 |nil=>exact Iff.rfl
 |cons x l il=>exact have k:=(Bool.and_eq_true _ _).mp k;Ta.ar (V.bf F k.1) (il k.2) v
theorem Vs.cl(F:Fm W fd1 ad ja ps z){l:List SV}(c:clos l=true)(v:List Value):Vs W ad h l v<->Vs (W.on fd1) ja h l v:=by
 have e:=wz (z:=z) (ps:=ps) (ad:=ad) (x:=.tu l) c
 have b:=Vs.bf F (h:=h) (l:=l) e.1 v
 replace b:=(show Af z ps l=l from congrArg (λx=>(SV.On x).getD []) e.2)▸b
 exact b
theorem Ed.bf(F:Fm W fd1 ad ja ps z){K:Type}{kv:K->Tok->Value}{hs:K->Int}{l:List (K×SV)}(k:yo ad.length l=true)(es:List DictEntry):Ed W ad h kv hs l es<->Ed (W.on fd1) ja h kv hs (Rk z ps l) es:=by
 induction l generalizing es with
 |nil=>exact⟨λq=>by cases q;exact .nil,λq=>by cases(q:Ed _ _ _ _ _ [] _);exact .nil⟩
 |cons p l il=>
  have k:=(Bool.and_eq_true _ _).mp k
  exact⟨λq=>by cases q with|cons t e c v q=>exact .cons t e c ((V.bf F k.1 _).mp v) ((il k.2 _).mp q),λq=>by
   cases(q:Ed _ _ _ _ _ ((p.1,Pa z ps p.2)::Rk z ps l) _) with|cons t e c v q=>exact .cons t e c ((V.bf F k.1 _).mpr v) ((il k.2 _).mpr q)⟩
theorem RM{α β:Type}(f:β->β)(l:List (α×β)):(l.map λp=>(p.1,f p.2)).map (·.1)=l.map (·.1):=by
 refine rt (List.map_map ..) ?_
 rfl
theorem Dict.bf(F:Fm W fd1 ad ja ps z){K:Type}{kv:K->Tok->Value}{hs:K->Int}{l:List (K×SV)}(k:yo ad.length l=true)(o:Obj):rc W ad h kv hs l o<->rc (W.on fd1) ja h kv hs (Rk z ps l) o:=
 exists_congr λes=>exists_congr λn=>and_congr_right λuu=>and_congr (Ed.bf F k es) (by rw[RM])
theorem Cr.bf(F:Fm W fd1 ad ja ps z):∀{l l':List (Str×Nat)},Cm ps l=some l'->∀{ca:List (Str×Addr)},Cr W.mv ad l ca<->Cr W.mv ja l' ca
 |[],_,e,_=>by cases e;exact Iff.rfl
 |p::r,_,e,ca=>obs e λi hi e=>obs e λl hl e=>by
  replace e:=Option.some.inj e;subst e
  exact exists_congr λq=>exists_congr λc=>and_congr_right λuu=>and_congr_right λuu=>and_congr (by
   refine(?_:Db W.mv ad p.2=some q.2<->Db W.mv ja i=some q.2)
   rw[F.nm hi]) (Cr.bf F hl)
theorem DF(F:Fm W fd1 ad ja ps z){d j:Nat}(e:ix ps d=some j)(a:Addr):ad[d]?=some a<->ja[j]?=some a:=(F.get j d (Zd e)).elim λb y=>by rw[y.1,y.2]
theorem Dp.bf(F:Fm W fd1 ad ja ps z){k:List Str}{P P':Value->Prop}(H:∀v,P v<->P' v)(o:Obj):Rc W ad h k P o<->Rc (W.on fd1) ja h k P' o:=
 ⟨λq=>by induction q using Rc.casesOn with|mk ep ka v q m y=>exact .mk ep ka v q ((F.out ka).mp m) ((H v).mp y),λq=>by induction q using Rc.casesOn with|mk ep ka v q m y=>exact .mk ep ka v q ((F.out ka).mpr m) ((H v).mpr y)⟩
theorem Seq.bf{P P':List Value->Prop}(H:∀v,P v<->P' v)(o:Obj):Vf P o<->Vf P' o:=exists_congr λvs=>exists_congr λn=>and_congr_right λuu=>H vs
theorem Code.bf(F:Fm W fd1 ad ja ps z)(o:Obj):Fj W ad h o<->Fj (W.on fd1) ja h o:=exists_congr λps=>and_congr_right λuu=>and_congr_right λuu=>forall_congr' λpos=>forall_congr' λcv=>imp_congr_right λuu=>exists_congr λc=>and_congr_right λuu=>and_congr_left λuu=>F.out c
theorem SM.bf(F:Fm W fd1 ad ja ps z)(vs:Array Value)(tb:Bool):wn W ad h vs tb<->wn (W.on fd1) ja h vs tb:=and_congr_right λuu=>exists_congr λx=>and_congr_right λuu=>by
 rcases tb with _|_
 ·exact Iff.rfl
 exact⟨λq=>by induction(q:fe ..) using fe.casesOn with|mk T oT ts fl k m e c d f=>exact fe.mk T oT ts fl k ((F.out T).mp m) e c d f,λq=>by induction(q:fe ..) using fe.casesOn with|mk T oT ts fl k m e c d f=>exact fe.mk T oT ts fl k ((F.out T).mpr m) e c d f⟩
theorem Fn.bf(F:Fm W fd1 ad ja ps z){b:vn}{cl Ds:List (Str×Nat)}(e:Cm ps cl=some Ds)(o:Obj):xe W ad h b cl o<->xe (W.on fd1) ja h b Ds o:=
 ⟨λq=>by induction q using xe.casesOn with|mk name qual as kwd ca kV doc pm an c ct m k y p nd co ge=>exact .mk name qual as kwd ca kV doc pm an c ct ((F.out c).mp m) k ((Cr.bf F e).mp y) p nd co ge,λq=>by induction q using xe.casesOn with|mk name qual as kwd ca kV doc pm an c ct m k y p nd co ge=>exact .mk name qual as kwd ca kV doc pm an c ct ((F.out c).mpr m) k ((Cr.bf F e).mpr y) p nd co ge⟩
theorem Ii{c:Bool}{x o:AO}{G:Prop}(e:cond c (some x) none=some o)(K:c=true->x=o->G):G:=by
 rcases c with _|_
 ·exact Fa e
 exact K rfl (Option.some.inj e)
theorem xz(k:Nat):∀l:List (Int×Int),yo k (l.map λp=>(p.1,SV.it p.2))=true/\Rk z ps (l.map λp=>(p.1,SV.it p.2))=l.map λp=>(p.1,SV.it p.2)
 |[]=>⟨rfl,rfl⟩
 |p::l=>⟨(xz k l).1,congrArg ((p.1,SV.it p.2)::·) (xz k l).2⟩
theorem gc.bf(F:Fm W fd1 ad ja ps z){ao xf:AO}(e:zo z ps ad.length ao=some xf)(a:Addr)(o:Obj):gc W ad h a o ao<->gc (W.on fd1) ja h a o xf:=by
 induction ao using AO.casesOn with
 |bc c d=>exact obs e λj hj e=>by replace e:=Option.some.inj e;subst e;exact exists_congr λda=>and_congr (DF F hj da) Iff.rfl
 |ns fs=>exact Ii e λk e=>e▸Dict.bf F k o
 |Ha l=>exact Ii e λk e=>e▸Seq.bf (Vs.bf F k) o
 |di fs=>exact Ii e λk e=>e▸Dict.bf F k o
 |dp kk y=>
  rcases y with _|v
  ·cases e;exact Iff.rfl
  exact Ii e λk e=>e▸Dp.bf F (V.bf F k) o
 |cell y=>
  rcases y with _|v
  ·cases e;exact Iff.rfl
  exact Ii e λk e=>e▸exists_congr λx=>and_congr_right λuu=>V.bf F k x
 |jb c d t=>exact obs e λj hj e=>by replace e:=Option.some.inj e;subst e;exact exists_congr λda=>exists_congr λvs=>and_congr (DF F hj da) (and_congr_right λuu=>SM.bf F vs t)
 |fn b cl=>exact obs e λl hl e=>by replace e:=Option.some.inj e;subst e;exact Fn.bf F hl o
 |ct P=>cases e;exact and_congr_right λuu=>Code.bf F o
 |ls pre L l=>exact Ii e λk e=>e▸and_congr_right λc=>and_congr_right λuu=>Seq.bf (λv=>⟨Ac.imp (λv=>(Vs.cl F c v).mp) λv=>(Vs.bf F k v).mp,Ac.imp (λv=>(Vs.cl F c v).mpr) λv=>(Vs.bf F k v).mpr⟩) o
 |dz fs=>
  cases e
  have y:=xz (z:=z) (ps:=ps) ad.length fs
  have b:=Dict.bf F (h:=h) (kv:=Value.int) (hs:=W.hi) y.1 o
  replace b:=y.2▸b
  exact b
 |dq kk x=>exact Ii e λk e=>e▸or_congr (and_congr_right λuu=>V.bf F k _) (Dp.bf F (V.bf F k) o)
 |li x i=>exact Ii e λk e=>e▸exists_congr λl=>and_congr (V.bf F k _) Iff.rfl
 |op _=>exact Fa e
 |_=>exact Option.some.inj e▸Iff.rfl
theorem EF{k:Nat}{ao xf:AO}(e:zo z ps k ao=some xf):xf.Gd=none/\(xf=.ta->ao=.ta):=by
 induction ao using AO.casesOn with
 |dp kk y=>induction y using Option.casesOn<;>first|exact Ii e λuu e=>e▸⟨rfl,λe=>nomatch e⟩|exact Option.some.inj e▸⟨rfl,λe=>nomatch e⟩
 |cell y=>induction y using Option.casesOn<;>first|exact Ii e λuu e=>e▸⟨rfl,λe=>nomatch e⟩|exact Option.some.inj e▸⟨rfl,λe=>nomatch e⟩
 |ta=>cases e;exact⟨rfl,λuu=>rfl⟩
 |op _=>exact Fa e
 |_=>first|exact obs e λuu uu e=>Option.some.inj e▸⟨rfl,λe=>(nomatch e)⟩|exact Ii e λuu e=>e▸⟨rfl,λe=>(nomatch e)⟩|exact Option.some.inj e▸⟨rfl,λe=>nomatch e⟩
theorem Oc.bf(F:Fm W fd1 ad ja ps z){ao xf:AO}(e:ig z ps ad.length ao=some xf)(a:Addr)(o:Obj):Oc W ad h a o ao<->Oc (W.on fd1) ja h a o xf:=by
 revert e
 unfold ig Oc
 rcases ao.Gd with _|x
 ·intro e
  refine rt ((EF e).1 ..) ?_
  exact gc.bf F e a o
 exact λe=>obs e λy e1 e2=>by replace e2:=Option.some.inj e2;subst e2;exact gc.bf F.fi e1 a o
theorem Ob.Pa(F:Fm W fd1 ad ja ps z){a:Addr}{ao:AO}(q:Ob W ad h a ao):Ob (W.on fd1) ja h a (Nj z ps ad.length ao):=by
 unfold Nj
 rcases e:ig z ps ad.length ao with _|xf
 ·trivial
 by_cases hd:ao=.ta
 ·subst hd;cases e;trivial
 ·exact(q.at hd).elim λo y=>Ob.mk y.1 ((Oc.bf F e a o).mp y.2)
theorem Ob.UM(F:Fm W fd1 ad ja ps z){a:Addr}{ao:AO}(k:(ig z ps ad.length ao).isSome=true)(q:Ob (W.on fd1) ja h a (Nj z ps ad.length ao)):Ob W ad h a ao:=by
 by_cases hd:ao=.ta
 ·subst hd;trivial
 ·revert k q
  unfold Nj
  rcases e:ig z ps ad.length ao with _|xf
  ·exact ft
  refine λuu q=>(Ob.at q λIe=>hd ?_).elim λo y=>Ob.mk y.1 ((Oc.bf F e a o).mpr y.2)
  revert e
  unfold ig
  rcases ao.Gd with _|x
  ·exact λe=>(EF e).2 Ie
  exact λe=>obs e λy uu e2=>nomatch e2.trans (congrArg some (show xf=.ta from Ie))
end
end
section
variable {kz:Nat}
section
variable {W:Wd}{ad ja:List Addr}{ps:List Nat}{z:Nat->Addr}{h h':Heap}
theorem xb.GF{L:Addr->Prop}(sub:∀a∈ja,a∈ad)(k:xb kz ja L h h'):xb kz ad L h h':=
 ⟨k.size,λa o e n=>k.keep a o e λm=>n (sub a m),λa o l e n=>k.old a o l e λm=>n (sub a m),k.own,λT o ts fl e n=>k.tb T o ts fl e λm=>n (sub T m)⟩
noncomputable def Nd(ps:List Nat)(ad:List Addr):List Addr:=ps.map λp=>(ad[p]?).getD 0
theorem Hv{p:Nat}(hp:p<ad.length):ad[p]?=some ((ad[p]?).getD 0):=by refine rt (List.getElem?_eq_getElem hp ..) ?_;rfl
theorem Oj{i p:Nat}(e:ps[i]?=some p)(hp:p<ad.length):∃a,(Nd ps ad)[i]?=some a/\ad[p]?=some a:=
 ⟨_,by unfold Nd;refine rt (List.getElem?_map ..) (rt (e ..) ?_);rfl,Hv hp⟩
theorem kj(hp:∀p∈ps,p<ad.length):∀a∈Nd ps ad,a∈ad:=λa m=>(List.mem_map.mp m).elim λp y=>y.2▸List.mem_of_getElem? (Hv (hp p y.1))
theorem Iv(nd:ad.Nodup){p q:Nat}(lp:p<ad.length)(e:ad[p]?=ad[q]?):p=q:=(List.getElem?_inj lp nd).mp e
theorem br(nd:ad.Nodup){n:Nat}{a:Addr}(e:ad[n]?=some a)(hn:n∉ps)(hp:∀p∈ps,p<ad.length):a∉Nd ps ad:=λm=>(List.mem_map.mp m).elim λp y=>hn (Iv nd (hp p y.1) ((Hv (hp p y.1)).trans ((congrArg some y.2).trans e.symm))▸y.1)
theorem HF(nd:ad.Nodup):∀{ps:List Nat},ps.Nodup->(∀p∈ps,p<ad.length)->(Nd ps ad).Nodup
 |[],_,_=>.nil
 |p::r,hn,hp=>have h1:=List.nodup_cons.mp hn;List.nodup_cons.mpr ⟨br nd (Hv (hp p (.head _))) h1.1 λq m=>hp q (.tail _ m),HF nd h1.2 λq m=>hp q (.tail _ m)⟩
noncomputable def Le(ps:List Nat)(ad:List Addr):List Addr:=(List.range ad.length).filterMap λn=>(ix ps n).elim ad[n]? λuu=>none
theorem Dm{a:Addr}:a∈Le ps ad<->∃n:Nat,ad[n]?=some a/\ix ps n=none:=by
 unfold Le
 rw[List.mem_filterMap]
 refine⟨λq=>q.imp λn q=>?_,λq=>q.imp λn q=>⟨List.mem_range.mpr (List.getElem?_eq_some_iff.mp q.1).1,by refine q.2.symm▸?_;exact q.1⟩⟩
 have e:=q.2
 revert e
 rcases ix ps n with _|i
 ·exact λe=>⟨e,rfl⟩
 exact Fa
theorem Sk(hp:∀p∈ps,p<ad.length)(m:∀i p,ps[i]?=some p->W.mv p=W.mv i)(m':∀n,n<ad.length->ix ps n=none->W.mv n=false):Fm W (W.fd++Le ps ad) ad (Nd ps ad) ps λn=>(ad[n]?).getD 0:=
 ⟨λi p e=>Oj e (hp p (List.mem_of_getElem? e)),kj hp,λn a e uu=>by refine(?_:(ad[n]?).getD 0=a);refine rt e ?_;rfl,λa=>⟨λm=>⟨λq=>m.1 (kj hp a q),λq=>(List.mem_append.mp q).elim m.2 λq=>(Dm.mp q).elim λn q=>m.1 (List.mem_of_getElem? q.1)⟩,λm=>⟨λq=>(List.getElem?_of_mem q).elim λn e=>by
  induction hn:ix ps n using Option.casesOn with
  |some i=>exact(Oj (ad:=ad) (Zd hn) (hp _ (List.mem_of_getElem? (Zd hn)))).elim λb y=>m.1 (sj y.2 e▸List.mem_of_getElem? y.1)
  |none=>exact m.2 (List.mem_append_right _ (Dm.mpr ⟨n,e,hn⟩)),λq=>m.2 (List.mem_append_left _ q)⟩⟩,m,m'⟩
theorem R.part{st:St}(r:R W ad h st)(hn:ps.Nodup)(hp:∀p∈ps,p<ad.length)(m:∀i p,ps[i]?=some p->W.mv p=W.mv i)(m':∀n,n<ad.length->ix ps n=none->W.mv n=false)(hl:∀n,ps.length<=n->W.mv n=false):R (W.on (W.fd++Le ps ad)) (Nd ps ad) h (Md (λn=>(ad[n]?).getD 0) ps st):=by
 refine⟨by unfold Nd Md;exact(List.length_map ..).symm▸(List.length_map ..).symm▸rfl,HF r.nd hn hp,λa m=>r.lt a (kj hp a m),λa m=>(List.mem_append.mp m).elim (r.lf a) (λq=>(Dm.mp q).elim λn q=>have q:=List.mem_of_getElem? q.1;⟨(r.lt a q).1.ff,(r.lt a q).2⟩),λi a o e1 e2=>?_,λn q=>hl n (by unfold Nd at q;replace q:=(List.length_map ..)▸q;exact q)⟩
 unfold Md at e2
 replace e2:=(List.getElem?_map ..)▸e2
 revert e2
 rcases e3:ps[i]? with _|p
 ·exact Fa
 intro e2
 cases e2
 have lp:=hp p (List.mem_of_getElem? e3)
 refine(Oj (ad:=ad) e3 lp).elim λa' y=>?_
 refine rt (sj e1 y.1 ..) (rl (r.len ..) ?_)
 have lq:p<st.length:=r.len▸lp
 refine(?_:Ob _ _ h a' (Nj _ ps ad.length ((st[p]?).getD .ta)))
 refine rt (List.getElem?_eq_getElem lq ..) ?_
 exact(r.ob p a' _ y.2 (List.getElem?_eq_getElem lq)).Pa (Sk hp m m')
noncomputable def qf(ps:List Nat)(n m:Nat):List Nat:=ps++List.range' n (m - n)
noncomputable def jg(ps:List Nat):Nat->St->St->Prop
 |_,[],_=>True
 |j,x::l,F=>match ix ps j with
  |some _=>jg ps (j+1) l F.tail
  |none=>F.head?=some x/\jg ps (j+1) l F.tail
theorem jg.get{ps:List Nat}:∀{j:Nat} {st F:St},jg ps j st F->∀i,i<st.length->ix ps (j+i)=none->F[i]?=st[i]?
 |j,[],F,_,i,hi,_=>absurd hi (Nat.not_lt_zero i)
 |j,x::l,F,q,i,hi,hn=>by
  have q:match ix ps j with|some _=>jg ps (j+1) l F.tail|none=>F.head?=some x/\jg ps (j+1) l F.tail:=q
  induction i using Nat.casesOn with
  |zero=>
   replace q:=(show ix ps j=none from hn)▸q
   rcases F with _|⟨y,r⟩
   ·exact nomatch q.1
   exact q.1
  |succ i=>
   have q':jg ps (j+1) l F.tail:=by
    revert q
    rcases ix ps j with _|_
    ·exact And.right
    exact id
   have:=q'.get i (Nat.lt_of_succ_lt_succ hi) (by refine rt (Nat.add_assoc ..) (rt (Nat.add_comm 1 i ..) ?_);exact hn)
   rcases F with _|⟨y,r⟩
   ·exact this
   exact this
noncomputable def Ao(z:Nat->Addr)(ps:List Nat):Except Nat SV->Except Nat SV
 |.ok b=>.ok (Pa z ps b)
 |.error n=>.error ((ix ps n).getD 0)
noncomputable def Co(k:Nat)(ps:List Nat):Except Nat SV->Bool
 |.ok b=>Hi k b
 |.error n=>(ix ps n).isSome
noncomputable def cr(z:Nat->Addr)(ps:List Nat)(F:St):Bool:=ps.all λp=>(ig z ps F.length ((F[p]?).getD .ta)).isSome
structure Do(mv:Nat->Bool)(ps:List Nat)(st F:St):Prop where
 i:∀i p,(qf ps st.length F.length)[i]?=some p->mv p=mv i
 o:∀n,ix ps n=none->mv n=false
 l:∀n,ps.length<=n->mv n=false
 s:∀(j:Nat) (o:AO),st[j]?=some o->ix ps j=none->(∀n,mv n=false)\/yg mv o=true
theorem Do.fi{st F:St}:Do (λuu=>false) ps st F:=⟨λuu uu uu=>rfl,λuu uu=>rfl,λuu uu=>rfl,λuu uu uu uu=>.inl λuu=>rfl⟩
theorem Do.i'{mv:Nat->Bool}{st F:St}(f:Do mv ps st F)(i p:Nat)(e:ps[i]?=some p):mv p=mv i:=f.i i p (by unfold qf;refine rt (List.getElem?_append_left (List.getElem?_eq_some_iff.mp e).1 ..) ?_;exact e)
noncomputable def kg(ps:List Nat)(ad ja:List Addr)(m:Nat):List Addr:=(List.range m).map λj=>((ix ps j).elim ad[j]? λi=>ja[i]?).getD 0
theorem IF{ad ja:List Addr}{m j:Nat}{a:Addr}(hj:j<m)(e:(ix ps j).elim ad[j]? (λi=>ja[i]?)=some a):(kg ps ad ja m)[j]?=some a:=by
 unfold kg
 refine rt (List.getElem?_map ..) (rt (List.getElem?_range hj ..) ?_)
 refine(?_:some (Option.getD ((ix ps j).elim ad[j]? λi=>ja[i]?) 0)=_)
 refine rt e ?_
 rfl
theorem JF{st F:St}(C:R W ad h st)(hp:∀p∈ps,p<ad.length)(xk:ps.Nodup)(hm:Do W.mv ps st F)(hlen:st.length<=F.length)(hs:jg ps 0 st F)(Eh:cr (λn=>(ad[n]?).getD 0) (qf ps st.length F.length) F=true)(g:vd W.mv (Nd ps ad) h ja)(k:xb W.n (Nd ps ad) Sc h h')
  (r1:R (W.on (W.fd++Le ps ad)) ja h' (Md (λn=>(ad[n]?).getD 0) (qf ps st.length F.length) F)) {G:Prop} (K:∀ia,vd W.mv ad h ia->xb W.n ad Sc h h'->R W ia h' F->Fm W (W.fd++Le ps ad) ia ja (qf ps st.length F.length) (λn=>(ad[n]?).getD 0)->G):G:=by
 have sub:=kj hp
 have kw:=k.GF sub
 obtain⟨DJ,bW,_,cW⟩:=hm
 generalize Yp:qf ps st.length F.length=PS at *
 have lP:ja.length=PS.length:=by
  have:=r1.len
  unfold Md at this
  replace this:=(List.length_map ..)▸this
  exact this
 have EJ:∀{p},p∈PS->p∈ps\/st.length<=p/\p<F.length:=λ{p} m=>by
  replace m:=Yp.symm▸m
  exact(List.mem_append.mp m).imp id λm=>⟨(List.mem_range'_1.mp m).1,by have:=(List.mem_range'_1.mp m).2;lia⟩
 have dW:∀{p},p∈PS->p<F.length:=λm=>(EJ m).elim (λq=>Nat.lt_of_lt_of_le (C.len▸hp _ q) hlen) (·.2)
 have eW:∀n,n<F.length->ix PS n=none->n<ad.length:=λn h2 q=>by
  refine C.len▸Nat.lt_of_not_le λh1=>Pk q ?_
  refine rl Yp ?_
  exact List.mem_append_right _ (List.mem_range'_1.mpr ⟨h1,by lia⟩)
 have Tl:∀{n},ix PS n=none->ix ps n=none:=λ{n} q=>by
  rcases e:ix ps n with _|i
  ·rfl
  exact absurd (List.mem_of_getElem? (Zd e)) λm=>Pk q (by refine rl Yp ?_;exact List.mem_append_left _ m)
 have FJ:∀{n},ix PS n=none->n∉ps:=λq m=>Pk q (by refine rl Yp ?_;exact List.mem_append_left _ m)
 have ki:∀{j i},ix PS j=some i->∃a,ja[i]?=some a/\(kg PS ad ja F.length)[j]?=some a:=λ{j i} e=>
  have e3:=Zd e
  have l1:i<ja.length:=lP▸(List.getElem?_eq_some_iff.mp e3).1
  ⟨ja[i],List.getElem?_eq_getElem l1,IF (dW (List.mem_of_getElem? e3)) (by refine rt e ?_;exact List.getElem?_eq_getElem l1)⟩
 have jD:∀{j a},ad[j]?=some a->ix PS j=none->(kg PS ad ja F.length)[j]?=some a:=λ{j a} e q=>
  IF (Nat.lt_of_lt_of_le (C.len▸(List.getElem?_eq_some_iff.mp e).1) hlen) (by refine rt q ?_;exact e)
 have GJ:∀{i p},PS[i]?=some p->ix PS p=some i:=λ{i p} e=>by
  have fW:PS.Nodup:=by
   refine rl Yp ?_
   refine List.nodup_append.mpr ⟨xk,List.nodup_range',λa m b q e=>?_⟩
   have:=hp a m
   replace this:=(e ..)▸(C.len ..)▸this
   exact absurd this (Nat.not_lt.mpr (List.mem_range'_1.mp q).1)
  rcases q:ix PS p with _|j
  ·exact absurd (List.mem_of_getElem? e) (Pk q)
  exact congrArg some ((List.getElem?_inj (List.getElem?_eq_some_iff.mp (Zd q)).1 fW).mp ((Zd q).trans e.symm))
 have src:∀{j a},(kg PS ad ja F.length)[j]?=some a->j<F.length/\((∃i,ix PS j=some i/\ja[i]?=some a)\/(ix PS j=none/\ad[j]?=some a)):=λ{j a} e=>by
  have hj:j<F.length:=by
   have:=(List.getElem?_eq_some_iff.mp e).1
   unfold kg at this
   replace this:=(List.length_range ..)▸(List.length_map ..)▸this
   exact this
  refine⟨hj,?_⟩
  rcases hi:ix PS j with _|i
  ·exact .inr ⟨rfl,sj (jD (List.getElem?_eq_getElem (eW j hj hi)) hi) e▸List.getElem?_eq_getElem _⟩
  exact .inl ⟨i,rfl,(ki hi).elim λb y=>sj e y.2▸y.1⟩
 have lN:(kg PS ad ja F.length).length=F.length:=by unfold kg;exact(List.length_map ..).symm▸(List.length_range ..).symm▸rfl
 have apart:∀{a j},a∈ja->ad[j]?=some a->ix PS j=none->False:=λ{a j} m e q=>(g.new a m).elim (br C.nd e (FJ q) hp) λl=>absurd (C.lt a (List.mem_of_getElem? e)).2 (Nat.not_lt.mpr l)
 have gW:(kg PS ad ja F.length).Nodup:=by
  refine List.pairwise_map.mpr (List.nodup_range.imp_of_mem λ{x y} mx my ne e=>ne ?_)
  have gt:∀{x},x∈List.range F.length->(kg PS ad ja F.length)[x]?=some (((ix PS x).elim ad[x]? λi=>ja[i]?).getD 0):=λm=>by
   unfold kg
   refine rt (List.getElem?_map ..) (rt (List.getElem?_range (List.mem_range.mp m) ..) ?_)
   rfl
  have gx:=gt mx
  have gy:=gt my
  replace gy:=e.symm▸gy
  rcases(src gx).2 with⟨i,e1,e2⟩|⟨e1,e2⟩<;>rcases(src gy).2 with⟨j,f1,f2⟩|⟨f1,f2⟩
  ·cases Iv r1.nd (List.getElem?_eq_some_iff.mp e2).1 (e2.trans f2.symm)
   exact sj (Zd e1) (Zd f1)
  ·exact(apart (List.mem_of_getElem? e2) f2 f1).elim
  ·exact(apart (List.mem_of_getElem? f2) e2 e1).elim
  ·exact Iv C.nd (List.getElem?_eq_some_iff.mp e2).1 (e2.trans f2.symm)
 have mem:∀{a},a∈kg PS ad ja F.length->a∈ja\/a∈Le ps ad:=λ{a} m=>(List.getElem?_of_mem m).elim λj e=>(src e).2.imp (λz=>z.elim λi z=>List.mem_of_getElem? z.2) λz=>Dm.mpr ⟨j,z.2,Tl z.1⟩
 have HJ:∀{a},a∈ja->a∈kg PS ad ja F.length:=λ{a} m=>(List.getElem?_of_mem m).elim λi e=>by
  have l:=(List.getElem?_eq_some_iff.mp e).1
  exact(ki (GJ (List.getElem?_eq_getElem (lP▸l)))).elim λb y=>sj e y.1▸List.mem_of_getElem? y.2
 have fm:Fm W (W.fd++Le ps ad) (kg PS ad ja F.length) ja PS (λn=>(ad[n]?).getD 0):=by
  refine⟨λi p e=>?_,λa=>HJ,λn a e q=>?_,λa=>⟨λm=>⟨λq=>m.1 (HJ q),λq=>(List.mem_append.mp q).elim m.2 λq=>(Dm.mp q).elim λn z=>?_⟩,λm=>⟨λq=>(mem q).elim m.1 λq=>m.2 (List.mem_append_right _ q),λq=>m.2 (List.mem_append_left _ q)⟩⟩,DJ,λn uu q=>bW n (Tl q)⟩
  ·exact ki (GJ e)
  ·rcases(src e).2 with⟨i,z,_⟩|z
   ·exact Fa (q.symm.trans z)
   ·refine(?_:(ad[n]?).getD 0=a)
    refine rt z.2 ?_
    rfl
  ·refine m.1 (List.mem_of_getElem? (jD z.1 ?_))
   rcases y:ix PS n with _|i
   ·rfl
   exact(EJ (List.mem_of_getElem? (Zd y))).elim (λw=>absurd w (Pk z.2)) λw=>absurd (C.len▸(List.getElem?_eq_some_iff.mp z.1).1) (Nat.not_lt.mpr w.1)
 have gw:vd W.mv ad h (kg PS ad ja F.length):=by
  refine⟨λ{n a} e=>?_,λa m=>(mem m).elim (λm=>(g.new a m).imp (sub a) id) λm=>.inl ((Dm.mp m).elim λn z=>List.mem_of_getElem? z.1)⟩
  have e0:=Hb e
  rcases q:ix PS n with _|i
  ·exact yc (Gh e) (jD e0 q)
  have e3:=Zd q
  have hi:ps[i]?=some n:=by
   replace e3:=Yp.symm▸e3
   unfold qf at e3
   rcases Nat.lt_or_ge i ps.length with l|l
   ·replace e3:=(List.getElem?_append_left l ..)▸e3;exact e3
   ·replace e3:=(List.getElem?_append_right l ..)▸e3
    exact absurd (C.len▸(List.getElem?_eq_some_iff.mp e0).1) (Nat.not_lt.mpr (List.mem_range'_1.mp (List.mem_of_getElem? e3)).1)
  have lp:=hp n (List.mem_of_getElem? hi)
  refine(Oj (ad:=ad) hi lp).elim λb y=>(ki q).elim λc z=>?_
  have:=Hb (g.get (yc ((DJ i n e3).symm.trans (Gh e)) y.1))
  replace this:=(sj y.2 e0 ..)▸this
  exact yc (Gh e) (sj this z.1▸z.2)
 refine K _ gw kw ⟨lN,gW,λa m=>(mem m).elim (r1.lt a) λm=>(Dm.mp m).elim λn z=>have q:=C.lt a (List.mem_of_getElem? z.1);⟨q.1,Nat.lt_of_lt_of_le q.2 k.size⟩,λa m=>⟨(C.lf a m).1,Nat.lt_of_lt_of_le (C.lf a m).2 k.size⟩,λj a o e1 e2=>?_,λn q=>C.hi n (by replace q:=lN▸q;exact Nat.le_trans (C.len▸hlen) q)⟩ fm
 rcases(src e1).2 with⟨i,hj,e4⟩|⟨hj,e3⟩
 ·have e3:=Zd hj
  have kk:=List.all_eq_true.mp Eh j (List.mem_of_getElem? e3)
  replace kk:=e2▸kk
  refine Ob.UM fm (by refine lN.symm▸?_;exact kk) (r1.ob i a _ e4 ?_)
  unfold Md
  refine rt (List.getElem?_map ..) (rt (e3 ..) (rt (lN ..) ?_))
  refine(?_:some (Nj _ _ _ ((F[j]?).getD .ta))=_)
  refine rt e2 ?_
  rfl
 ·have iW:j<st.length:=C.len▸(List.getElem?_eq_some_iff.mp e3).1
  have es:=(hs.get j iW (by refine rt (Nat.zero_add ..) ?_;exact Tl hj)).symm.trans e2
  exact Ob.tr (fd:=W.fd) (kw.tr gw jh) (λo eo c1 c2=>(k.keep a o eo (br C.nd e3 (FJ hj) hp) id c1).elim λo' y=>y.2.eq c2▸y.1)
   ((cW j o es (Tl hj)).imp (λz n b e=>Hb (gw.get (yc (z n) e))) λz=>⟨λuu uu=>gw.get,z⟩) (C.ob j a o e3 es)
noncomputable def Jv(o:AO):Bool:=Nat.beq o.ctorIdx 7||Nat.beq o.ctorIdx 8
noncomputable def Tk(st:St)(ps:List Nat):Hn->Hn
 |.nm n=>match ix ps n with
  |some i=>.nm i
  |none=>cond (((st[n]?).map Jv).getD false) .fo .no
 |x=>x
theorem ie.sub{hn:Hn}{A:Around}{st:St}(x:ie W.mv hn A ad h)(r:R W ad h st)(hp:∀p∈ps,p<ad.length)(m:∀i p,ps[i]?=some p->W.mv p=W.mv i):ie W.mv (Tk st ps hn) A (Nd ps ad) h:=by
 induction hn using Hn.casesOn with
 |no=>trivial
 |nn=>exact x
 |fo=>exact Exists.elim x λe y=>⟨e,y.1,λq=>y.2.1 (kj hp e q),y.2.2⟩
 |nm n=>
  refine Exists.elim x λa y=>?_
  have y1:=Hb y.1
  refine(?_:ie W.mv (match ix ps n with|some i=>.nm i|none=>cond (((st[n]?).map Jv).getD false) .fo .no) A (Nd ps ad) h)
  rcases hi:ix ps n with _|i
  ·have nm:=br (ps:=ps) r.nd y1 (Pk hi) hp
   rcases es:st[n]? with _|o
   ·trivial
   have b:=r.ob n a o y1 es
   induction o using AO.casesOn with
   |jb C d tb=>exact Exists.elim b λo b=>b.2.elim λda w=>w.elim λvs w=>⟨a,y.2,nm,C,_,vs,w.2.1▸b.1,w.2.2.1⟩
   |Fh C=>exact Exists.elim b λo b=>b.2.elim λvs w=>⟨a,y.2,nm,C,_,vs,w.1▸b.1,w.2.2.2⟩
   |_=>trivial
  exact(Oj (ad:=ad) (Zd hi) (hp _ (List.mem_of_getElem? (Zd hi)))).elim λa' e=>⟨a,yc ((m i n (Zd hi)).symm.trans (Gh y.1)) (sj e.2 y1▸e.1),y.2⟩
theorem ba.frame{hn:Hn}{D:Nat}{fv:SV}{vs:List SV}{st F:St}{o:Except Nat SV}(ps:List Nat)(hn':ps.Nodup)(hp:∀p∈ps,p<st.length)(hlen:st.length<=F.length)(hv:Fg st.length (fv::vs)=true)(hs:jg ps 0 st F)(Eh:∀z,cr z (qf ps st.length F.length) F=true)(ho:Co F.length (qf ps st.length F.length) o=true)(hm:Do W.mv ps st F)
  (inner:∀(fd:List Addr) (z:Nat->Addr),ba (W.on fd) (Tk st ps hn) D (Pa z ps fv) (Af z ps vs) (Md z ps st) (Ao z (qf ps st.length F.length) o) (Md z (qf ps st.length F.length) F)):ba W hn D fv vs st o F:=λA Ma ad s v ws C hh q1 q2 R hQ hE=>by
 have Zp:∀p∈ps,p<ad.length:=λp m=>C.r.len.symm▸hp p m
 have IJ:=Sk (W:=W) Zp hm.i' λn uu=>hm.o n
 replace hv:=(C.r.len ..).symm▸hv
 have hv:=(Bool.and_eq_true _ _).mp hv
 refine inner (W.fd++Le ps ad) _ A Ma (Nd ps ad) s v ws ⟨C.ib,C.r.part hn' Zp hm.i' (λn uu=>hm.o n) hm.l,C.fr,λe m=>⟨(C.ff e m).1,(C.ff e m).2.imp λF1 y=>y.imp λo1 y=>⟨y.1,y.2.1,λq=>y.2.2.1 (kj Zp _ q),y.2.2.2⟩⟩,C.je,C.un,C.gf⟩ (hh.sub C.r Zp hm.i') ((V.bf IJ hv.1 v).mp q1) ((Vs.bf IJ hv.2 ws).mp q2) R (λb e r s' p=>?_) λn e r s' p=>?_
 ·refine Pc.casesOn p λja c r1 x=>?_
  refine JF C.r Zp hn' hm hlen hs (Eh _) c.g c.k r1 λia g' k' r' fm=>?_
  rcases o with n|b0
  ·exact nomatch e
  cases e
  exact hQ b0 rfl r _ ⟨ia,⟨g',k',c.e⟩,r',(V.bf fm (r'.len.symm▸ho) r).mpr x⟩
 ·refine Pc.casesOn p λja c r1 x=>?_
  refine JF C.r Zp hn' hm hlen hs (Eh _) c.g c.k r1 λia g' k' r' fm=>?_
  rcases o with n0|b0
  ·refine(Option.isSome_iff_exists.mp (show(ix (qf ps st.length F.length) n0).isSome=true from ho)).elim λj hj=>?_
   have e:(.error ((ix (qf ps st.length F.length) n0).getD 0):Except Nat SV)=.error n:=e
   replace e:=hj▸e
   cases e
   exact x.elim λa x=>(fm.get j n0 (Zd hj)).elim λa' y=>hE n0 rfl _ _ ⟨ia,⟨g',k',c.e⟩,r',a,x.1,(fm.nm hj).trans x.2⟩
  exact nomatch e
end
end
section
variable {kz:Nat}
namespace Rn
noncomputable def Fo(T:Tb)(o:Ka)(hn:Hn)(D:Nat)(f:Addr)(m:Nat)(st:St)(vs:List SV):Rn SV:=λs=>(cg T o hn D f (.ob m::vs) ⟨s.loc,st,s.hs⟩).bind λq=>match q.1 with
 |.ok v=>cond (Kh v) (some (.ok (.ob m),⟨s.loc,q.2.1.st,q.2.1.hs⟩,q.2.2)) none
 |.error n=>some (.error n,⟨s.loc,q.2.1.st,q.2.1.hs⟩,q.2.2)
noncomputable def LF(T:Tb)(o:Ka)(hn:Hn)(D:Nat)(C f:Addr)(vs:List SV):Rn SV:=match D with
 |0=>qa
 |D+1=>λs=>Fo T o hn D f (s.st.length+1) (s.st++[.ns []]++[.bc C s.st.length]) vs s
noncomputable def MF(T:Tb)(o:Ka)(hn:Hn)(D:Nat)(C f:Addr)(vs:List SV):Rn SV:=match D with
 |0=>qa
 |D+1=>λs=>cond (Nat.ble vs.length 1000) (Fo T o hn D f s.st.length (s.st++[.Fh C]) vs s) none
end Rn
noncomputable abbrev mj(C:Addr)(xs:List Value):Code:=.builtin "type.__call__" ⟨.ref C::xs,[]⟩
theorem VM(C:Addr)(xs:List Value):(mj C xs).weight=1:=by kernel_rfl
theorem WM(C:Addr)(xs:List Value):(mj C xs).cUnits=1:=by kernel_rfl
theorem XM(C:Addr)(xs:List Value):(mj C xs).envs=[]:=by kernel_rfl
section
variable {W:Wd}{D:Nat}{T:Tb}{o:Ka}{A:Around}{Ma:List PySem.Env}{ad ja ya:List Addr}{st st1:St}{s s1 s2:Shared}{X Y:Hp}
theorem Cs.tc(C:Cs W (D+1) A Ma ad st s)(K:Addr)(xs:List Value):Cs W D (A.under (mj K xs)) Ma ad st s:=
 ⟨C.ib,C.r,by refine(?_:pushEnvs (mj K xs).envs A.frames=_);refine rt (XM ..) ?_;exact C.fr,C.ff,by have:=C.je;show A.depth+(mj K xs).weight+D<=yn;refine rt (VM ..) ?_;lia,by have:=C.un;show A.units+(mj K xs).cUnits+8 * D<=Gj;refine rt (WM ..) ?_;lia,C.gf⟩
theorem Cs.next(ok:W.Ok)(C:Cs W D A Ma ad st s)(c:pb W Sc ad s ja s1)(r:R W ja s1.heap st1):Cs W D A Ma ja st1 s1:=
 ⟨ok.ib C.ib (λa m=>(C.r.lt a m).1) (λuu q=>q.elim) c.k,r,C.fr,C.ff.next c.g c.k,C.je,C.un,Nat.le_trans C.gf c.k.size⟩
theorem Cs.own(ok:W.Ok)(C:Cs W D A Ma ad st s){ob:Obj}{a:AO}(f:ob.isFreed=false)(q:Oc W (ad++[s.heap.objs.size]) (s.heap.push ob) s.heap.objs.size ob a):pb W Sc ad s (ad++[s.heap.objs.size]) {s with heap:=s.heap.push ob}/\Cs W D A Ma (ad++[s.heap.objs.size]) (st++[a]) {s with heap:=s.heap.push ob}:=
 have fx:=Fx.push s.heap.objs.size s.heap ob
 have k:xb W.n ad Sc s.heap (s.heap.push ob):=fx.Vl (zk _)
 have c:pb W Sc ad s (ad++[s.heap.objs.size]) {s with heap:=s.heap.push ob}:=⟨(rq (Nat.le_refl _)).w,k,rfl⟩
 ⟨c,C.next ok c (C.r.name (L:=Sc) (Wd.fresh C.ib (Nat.le_refl _)) (Nat.le_refl _) (by refine rt (Heap.size_push ..) ?_;exact Nat.lt_succ_self _) fx k jh (.mk (Heap.get?_push_size _ f) q))⟩
theorem Pc.Ba(p:Pc W ad s st X s1)(f:∀a h,X a h->Y a h):Pc W ad s st Y s1:=by
 refine Pc.casesOn p λa c r x=>?_
 exact⟨a,c,r,f _ _ x⟩
theorem Pc.Pa(c:pb W Sc ad s ja s1)(p:Pc W ja s1 st X s2):Pc W ad s st X s2:=by
 refine Pc.casesOn p λa c' r x=>?_
 exact⟨a,c.trans c',r,x⟩
theorem Pc.with(hX:Da W.mv Y)(y:Y ad s.heap)(p:Pc W ad s st X s1):Pc W ad s st (λa h=>X a h/\Y a h) s1:=by
 refine Pc.casesOn p λa c' r x=>?_
 exact⟨a,c',r,x,hX _ _ _ _ _ _ c'.g c'.k jh y⟩
def Mk(W:Wd)(hn:Hn)(D:Nat)(C f:Addr)(m:Nat)(st st1:St)(vs:List SV):Prop:=∀A Ma ad s ws,Cs W (D+1) A Ma ad st s->ie W.mv hn A ad s.heap->Vs W ad s.heap vs ws->∀R:Result->Shared->Prop,
 (∀ja s1 a A1,pb W Sc ad s ja s1->Cs W D A1 Ma ja st1 s1->ie W.mv hn A1 ja s1.heap->Db W.mv ja m=some a->codeAny W.m A1 (.call (.ref f) ⟨.ref a::ws,[]⟩) (InitBack a R) s1)->codeAny W.m A (.call (.ref C) ⟨ws,[]⟩) R s
theorem NF(ok:W.Ok)(hT:lb W T)(H:o.Ok W){hn:Hn}{C f:Addr}{vs:List SV}{sx:Sx}{m:Nat}(mk:Mk W hn D C f m sx.st st1 vs):aa (Rn.Fo T o hn D f m st1 vs sx) λr ra=>ra.loc=sx.loc/\ba W hn (D+1) (.tp C) vs sx.st r ra.st:=by
 refine aa.Ea λq e=>?_
 have h0:=Ly (D:=D) (hn:=hn) ok H hT.fn (f:=f) (vs:=.ob m::vs) (sx:=⟨sx.loc,st1,sx.hs⟩)
 replace h0:=e▸h0
 have core:(∀p∈q.2.2,p)->∀{r Sl},Sl=q.2.1.st->(∀b,q.1=.ok b->b=.nn/\r=.ok (.ob m))->(∀n,q.1=.error n->r=.error n)->ba W hn (D+1) (.tp C) vs sx.st r Sl:=λhl r Sl jW h1 h2 A Ma ad s v ws C0 hh q1 q2 R hQ hE=>by
  subst q1
  subst jW
  refine mk A Ma ad s ws C0 hh q2 R λja s1 a A1 c C1 kD ea=>?_
  have ev:V W ja s1.heap (.ob m) (.ref a):=⟨a,ea,rfl⟩
  refine(h0 hl).2 A1 Ma ja s1 (.ref f) (.ref a::ws) C1 kD rfl (.mk _ _ ev (q2.Ba c.g c.k jh)) _ (λb eb w s' p=>?_) λn en w s' p=>hE n (h2 n en) w _ (p.Pa c)
  have y:=h1 b eb
  replace p:=y.1▸p
  have p:=Pc.with (Da.V W _ _) ev p
  refine⟨?_,hQ _ y.2 _ s' ((p.Ba λuu uu z=>z.2).Pa c)⟩
  refine Pc.casesOn p λuu uu uu x=>?_
  exact x.1
 obtain⟨r,ra,l⟩:=q
 rcases r with n|b
 ·exact λhl=>⟨rfl,core hl rfl (λb eb=>nomatch eb) λn' en=>by cases en;rfl⟩
 exact aa.yb λhb hl=>⟨rfl,core hl rfl (λb' eb=>by
  cases eb
  exact⟨by induction b using SV.casesOn<;>first|rfl|exact ft hb,rfl⟩) λn en=>nomatch en⟩
theorem Cs.hh{hn:Hn}(c:pb W Sc ad s ja s1)(hh:ie W.mv hn A ad s.heap):ie W.mv hn A ja s1.heap:=hh.next c.g c.k jh
theorem YM(ok:W.Ok)(hT:lb W T)(H:o.Ok W){hn:Hn}{C f:Addr}{vs:List SV}{sx:Sx}(z:Ny W C f):aa (Rn.LF T o hn D C f vs sx) λr ra=>ra.loc=sx.loc/\ba W hn D (.tp C) vs sx.st r ra.st:=by
 induction D using Nat.casesOn with
 |zero=>trivial
 |succ D=>
  refine NF ok hT H λA Ma ad s ws C0 hh q2 R k=>?_
  obtain⟨hp,gs,dd,t,os⟩:=s
  refine make_core (makes_of C0.ib z.PL) (looks_findIn C0.ib z.My) (λself=>bind_fn C0.ib self (beq_iff_eq.mp z.fn)) (.inl rfl) ?_
  have y1:=(C0.tc C ws).own (a:=.ns []) (ob:=emptyDict) ok rfl ⟨[],0,rfl,.nil,.nil⟩
  have y2:=y1.2.own (a:=.bc C sx.st.length) (ob:=instObj C hp.objs.size) ok rfl ⟨hp.objs.size,by rw[List.getElem?_append_left (by rw[List.length_append,C0.r.len];exact Nat.lt_succ_self _),<-C0.r.len];exact Ct ..,rfl⟩
  refine k _ _ _ (A.under (mj C ws)) (y1.1.trans y2.1) y2.2 (Cs.hh (A:=A) (y1.1.trans y2.1) hh) ?_
  have e:=y1.2.r.nm (hp.push emptyDict).objs.size
  replace e:=(List.length_append ..)▸e
  exact e.trans (congrArg some (Heap.size_push ..))
theorem Vs.drop{h:Heap}:∀(n:Nat) {l:List SV} {vs:List Value},Vs W ad h l vs->Vs W ad h (l.drop n) (vs.drop n)
 |0,_,_,q=>q
 |n+1,[],vs,q=>by refine rt (show vs=[] from q) ?_;rfl
 |n+1,_::_,_,q=>by induction(q:Ta ..) using Ta.casesOn with|mk v r q z=>exact Vs.drop n z
theorem ZM{f:Addr}{fi:ah}{o oT:Obj}{fd:FuncData}{T:Addr}{items:List Value}{n:Nat}(ho:W.K.lookup f=some o)(hd:o.data=.func fd)(hs:fd.scope=fi.scope)(hc:fd.closure=[])(hb:fd.body=.stmts fi.body)
  (hg:fd.globals=mainGlobals) (hi:fd.builtins=builtinsNs) (Up:codeIn W.K fd.code fd.qualname=true) (Sf:∀p,fi.me=some p->fd.code=.ref p.1/\fd.qualname++Str.ofString ".<locals>."=p.2) (co:fi.scope.isCoroutine=false) (gen:fi.scope.isGenerator=false)
  (hT:W.K.lookup T=some oT) (kW:oT.data=.seq items.toArray n) (Rl:fd.defaults=.ref T) (hv:∀ad h,Vs W ad h fi.Xf items)
  (VC:∀ws:List Value,ws.length<=fi.params.length->fi.params.length<=ws.length+items.length->∃k:Option (Array Value)->Sem (List (Str×Value)),bindArgs fd ⟨ws,[]⟩=seqItems? fd.defaults>>=k/\k (some items.toArray)=Pure.pure (fi.params.zip (ws++items.drop (ws.length+items.length - fi.params.length)))):
  Kk W f fi:=⟨λh K=>⟨fd,⟨⟨o,K _ _ ho,hd⟩,hs,hc,hb,hg,hi,codeRec_of K Up,co,gen⟩,Sf,λs ad vs ws bs gn e q uu uu=>by
 have e:cond _ _ none=some bs:=e
 revert e
 rcases hle:Nat.ble vs.length fi.params.length&&Nat.ble fi.params.length (vs.length+fi.Xf.length) with _|_
 ·exact Fa
 intro e
 cases e
 have h:=(Bool.and_eq_true _ _).mp hle
 have h1:=Nat.le_of_ble_eq_true h.1
 have h2:=Nat.le_of_ble_eq_true h.2
 have hl:=q.length
 have hd:=(hv ad s.heap).length
 obtain⟨k,e1,e2⟩:=VC ws (hl▸h1) (by refine rt hl (rt hd ?_);exact h2)
 have hz:=Vs.append q (Vs.drop (vs.length+fi.Xf.length - fi.params.length) (hv ad _))
 replace e2:=hd▸hl▸e2
 refine⟨_,BindsTo.of_defaults Rl (by refine gn.symm▸?_;exact K _ _ hT) kW e1 e2,Ku hz ?_⟩
 refine rt (List.length_append ..) (rt (List.length_drop ..) ?_)
 exact((Nat.add_sub_assoc (Nat.sub_le_iff_le_add.mpr (by refine rt (Nat.add_comm ..) ?_;exact Nat.add_le_add_left h1 _)) _).symm.trans (Nat.sub_sub_self h2)).symm⟩⟩
end
end
section
variable {kz:Nat}
section
variable {prog:Program}{w:World}{A:Around}{R:Result->Shared->Prop}{h:Heap}{g:Array GenState}{d:Drawn}{t:Nat}{os:OsState}
variable {nm q:Str}{C N:Addr}{bs bm Ps:List Value}{vk:Bool}{sn:List Str}{sub:List Value}{ab:Bool}{col:Option Bool}{dd:Option Addr}{k0 k1 k2 k3 k5:Option Value}{B newId Tp:String}
noncomputable abbrev dr(C T0:Addr):Obj:={cls:=.ref C,data:=.fields #[.ref T0,.none,.none,.none,.bool false,.none]}
theorem aN{M:Model}{E:Value->Shared->Prop}(F:ExcBaseFacts B newId Tp Ps)(hB:bm.contains (.type B)=true){rest:List Value}{Q:Unit->Shared->Prop}
  (hC:h.get? C=some (excClassObj nm q C N bs bm vk sn sub ab col dd k0 k1 k2 k3 k5 newId)) (hq:Q () ⟨h,g,d,t,os⟩):wpAny M A (checkBuiltinCall newId ⟨.ref C::rest,[]⟩) Q E ⟨h,g,d,t,os⟩:=wpAny_check_new_subU F hB .base hC hq
theorem bN(F:ExcBaseFacts B newId Tp Ps)(hB:bm.contains (.type B)=true)(hA:bm.contains (.type "AttributeError")=false)(hN:bm.contains (.type "NameError")=false){rest:List Value}
  (hC:h.get? C=some (excClassObj nm q C N bs bm vk sn sub ab col dd k0 k1 k2 k3 k5 newId))
  (hq:R (.ok (.ret (.ref (h.objs.size+1)))) ⟨(h.push {cls:=.type "tuple",data:=.seq rest.toArray}).push (dr C h.objs.size),g,d,t,os⟩) (JJ:rest.length<=sizeLine):
  codeAny (model prog w) A (.builtin newId ⟨.ref C::rest,[]⟩) R ⟨h,g,d,t,os⟩:=by
 have RX:=F.ends
 have XC:(Value.ref C::bm).contains (.type B)=true:=by rw[List.contains_cons,hB,Bool.or_true]
 have mW:(Value.ref C::bm).contains (.type "AttributeError")=false:=by rw[List.contains_cons,hA];rfl
 have nW:(Value.ref C::bm).contains (.type "NameError")=false:=by rw[List.contains_cons,hN];rfl
 refine codeAny_builtinAt F.entry ?_
 unfold Builtin.«BaseException.__new__»
 refine PySem.wpAt_bind ?_
 refine(?_:PySem.wpAt _ _ _ (stack>>=_) _ _ _)
 refine PySem.wpAt_bind (PySem.wpAt_stack λp below=>PySem.wpAt_of_wpAny ?_)
 wp_walk
 refine PySem.wpAt_of_wpAny ?_
 refine rt (F.owner ..) ?_
 repeat (first|with_reducible refine wpAny_madeHere_exc F.canon hC ?_|with_reducible refine wpAny_loadPart_at hC ?_|(with_reducible refine wpAny_isSubtype_exc hC ?_;first|rw[XC]|rw[mW]|rw[nW])|wp_step)
 refine(?_:R _ _)
 refine rt (Heap.size_push ..) ?_
 exact hq
theorem cN(F:ExcBaseFacts B newId Tp Ps)(hB:bm.contains (.type B)=true)(hA:bm.contains (.type "AttributeError")=false)(hN:bm.contains (.type "NameError")=false){rest:List Value}{fI:Addr}{oI:Obj}
  (hC:h.get? C=some (excClassObj nm q C N bs bm vk sn sub ab col dd k0 k1 k2 k3 k5 newId)) (hi:Looks (model prog w) h (typeLookup (.ref C) "__init__") (some (.ref fI))) (oW:h.get? fI=some oI) (pW:oI.cls=.type "function")
  (hq:codeAny (model prog w) (A.under (mj C rest)) (.call (.ref fI) ⟨.ref (h.objs.size+1)::rest,[]⟩) (InitBack (h.objs.size+1) R) ⟨(h.push {cls:=.type "tuple",data:=.seq rest.toArray}).push (dr C h.objs.size),g,d,t,os⟩) (JJ:rest.length<=sizeLine):
  codeAny (model prog w) A (.call (.ref C) ⟨rest,[]⟩) R ⟨h,g,d,t,os⟩:=by
 have f1:=tc_lookup
 have f2:=tc_bind (.ref C)
 have hT:(⟨h,g,d,t,os⟩:Shared).TypeIs (.ref C) "type":=⟨_,hC,rfl⟩
 refine codeAny_of_tree ?_
 refine(?_:wpAny _ _ (callAny (.ref C) _) _ _ _)
 repeat (any_goals (first|assumption|with_reducible refine wpAny_loadPart_at hC ?_|wp_step))
 refine⟨rfl,?_⟩
 refine(?_:codeAny _ _ (.call (.builtin "type.__call__") ⟨.ref C::rest,[]⟩) _ _)
 refine codeAny_call_builtin_at (Code.quiet_builtin _ (by decide+kernel)) entry_typeCall (wpAny_check_type_call_sub hC ?_)
 unfold Builtin.«type.__call__»
 have up:∀b o,h.get? b=some o->((h.push {cls:=.type "tuple",data:=.seq rest.toArray}).push (dr C h.objs.size)).get? b=some o:=λb o e=>Heap.get?_push_of_some _ (Heap.get?_push_of_some _ e)
 repeat (first|with_reducible refine wpAny_loadPart_at hC ?_|with_reducible refine wpAny_madeBy_exc hC ?_|wp_step)
 refine codeAny_call_builtin_code (Code.quiet_builtin _ F.quiet) (aN F hB hC ?_)
 refine bN F hB hA hN hC ?_ JJ
 refine(?_:wpAny _ _ _ _ _ _)
 have qW:=up _ _ hC
 have rW:=up _ _ oW
 have sW:((h.push {cls:=.type "tuple",data:=.seq rest.toArray}).push (dr C h.objs.size)).get? (h.objs.size+1)=some {cls:=.ref C,data:=.fields #[.ref h.objs.size,.none,.none,.none,.bool false,.none]}:=by heap_get
 have tW:(Value.ref C::bm).contains (.ref C)=true:=by simp
 have uW:=hi.keeps up
 unfold isInstance
 repeat (first|with_reducible refine wpAny_loadPart_at sW ?_|(with_reducible refine wpAny_isSubtype_exc qW ?_;refine rt tW ?_)|wp_step)
 refine(?_:wpAny _ _ (typeLookup (.ref C) _) _ _ _)
 refine uW.here ?_
 refine wpAny_holding (wpAny_bind ?_)
 unfold bindSpecial
 refine wpAny_bind (wpAny_typeOf (T:="function") ⟨_,rW,pW⟩ ?_)
 refine wpAny_ite_true rfl ?_
 refine wpAny_pure (wpAny_bind (wpAny_call (codeAny_mono hq λr s' z=>?_)))
 rcases r with e|(v|_|_|_)<;>first|exact z|exact z.elim|skip
 obtain⟨rfl,z⟩:=z
 wp_walk
 exact z
end
section
variable {W:Wd}{D:Nat}{T:Tb}{o:Ka}
theorem dN(ok:W.Ok)(hT:lb W T)(H:o.Ok W){hn:Hn}{C f:Addr}{vs:List SV}{sx:Sx}(z:nu W C f):aa (Rn.MF T o hn D C f vs sx) λr ra=>ra.loc=sx.loc/\ba W hn D (.tp C) vs sx.st r ra.st:=by
 induction D using Nat.casesOn with
 |zero=>trivial
 |succ D=>
  refine aa.yb λhlen=>NF ok hT H λA Ma ad s ws C0 hh q2 R k=>?_
  obtain⟨hp,gs,YC,t,os⟩:=s
  obtain⟨nm,q,N,bs,bm,vk,sn,sub,ab,col,dd,k0,k1,k2,k3,k5,z1,z2,z3,z4⟩:=z.cl
  obtain⟨oI,z5,z6⟩:=z.fn
  refine cN PySem.F.excBase_Exception z2 z3 z4 (C0.ib _ _ z1) (looks_findIn C0.ib z.My) (C0.ib _ _ z5) z6 ?_ (by refine(q2.length ..).symm▸?_;exact eh (Nat.le_of_ble_eq_true hlen) (by decide))
  have C1:=C0.tc C ws
  have fx:=Fx.push hp.objs.size hp ({cls:=.type "tuple",data:=.seq ws.toArray}:Obj)
  have c:pb W Sc ad ⟨hp,gs,YC,t,os⟩ ad ⟨hp.push {cls:=.type "tuple",data:=.seq ws.toArray},gs,YC,t,os⟩:=⟨.refl,fx.Vl (zk _),rfl⟩
  have y:=(C1.next ok c (C1.r.Ae fx (λm=>absurd (C1.r.lt _ m).2 (Nat.lt_irrefl _)) c.k jh)).own (a:=.Fh C) (ob:=dr C hp.objs.size) ok rfl ⟨_,rfl,rfl,rfl,rfl⟩
  refine k _ _ _ (A.under (mj C ws)) (c.trans y.1) y.2 (Cs.hh (A:=A) (c.trans y.1) hh) ?_
  exact(C0.r.nm _).trans (congrArg some (Heap.size_push ..))
end
namespace Rn
noncomputable def gN(T:Tb)(x:SV):Rn Fl:=λs=>x.mf.bind λn=>(s.st[n]?).bind λo=>match o with
 |.jb C _ _=>cond (T.xr C) (some (.error n,s,[])) none
 |_=>none
noncomputable def Mv(o:Ka)(T:Tb)(c:Cx)(D:Nat)(e:PySem.Expr):Rn Fl:=cond c.hn.isNone (o.ev c D e>>=gN T) qa
noncomputable def iN:Hn->Option Nat
 |.nm n=>some n
 |_=>none
noncomputable def Ov(c:Cx):Rn Fl:=Ea (iN c.hn)>>=λn=>jj n>>=λuu=>raise n
end Rn
section
variable {θ:Th}{X:Hp}{A:Around}{s:Shared}{env:PySem.Env}{T:Tb}{o:Ka}{W:Wd}
theorem jN{x:Sem Value}{Q:Flow->Shared->Prop}{E:Value->Shared->Prop}(hh:A.handled=none)
  (h:wpAny W.m A x (λv s1=>∃a C d vs,v=.ref a/\W.K.In s1.heap/\s1.heap.get? a=some ⟨.ref C,d,.fields vs,#[]⟩/\Oy W C/\wpAny W.m A (setFlight (.ref a) none) (λuu s2=>E (.ref a) s2) E s1) E s):wpAny W.m A (raiseStmt env (some x) none) Q E s:=by
 unfold raiseStmt
 dsimp only
 refine wpAny_bind (wpAny_mono h (λv s1 h1=>?_) λuu uu q=>q)
 obtain⟨a,C,d,vs,rfl,K,ha,z,hf⟩:=h1
 have KJ:∀{Q':Bool->Shared->Prop},Q' false s1->wpAny W.m A (isType (.ref a)) Q' E s1:=by
  intro Q' hq
  simp only [isType,loadHead]
  refine wpAny_bind (wpAny_loadPart ha ?_)
  exact wpAny_pure hq
 have LT:Looks W.m s1.heap (typeOf (.ref a)) (.ref C):=(Looks.ld ha).andThen .now
 refine wpAny_bind (wpAny_pure ?_)
 dsimp only
 refine wpAny_bind (wpAny_holding ?_)
 unfold excFromValue isExcClass
 refine wpAny_bind (wpAny_bind (KJ ?_))
 refine wpAny_ite_false rfl ?_
 refine wpAny_pure ?_
 refine wpAny_ite_false rfl ?_
 unfold isInstance
 refine wpAny_bind (wpAny_bind (LT.here ((looks_mroIn K z.be).here ?_)))
 refine wpAny_ite_true rfl ?_
 refine wpAny_pure ?_
 refine wpAny_bind (KJ ?_)
 refine wpAny_ite_false rfl ?_
 unfold raisedInstance
 refine wpAny_bind (wpAny_bind (LT.here (wpAny_bind ((looks_typeIn K z.ty).here ?_))))
 refine wpAny_ite_true rfl ?_
 refine wpAny_pure ?_
 refine wpAny_bind (wpAny_mono hf (λuu s2 h2=>?_) λuu uu q=>q)
 refine(?_:wpAny _ _ (raiseNew _) _ _ _)
 unfold raiseNew
 refine wpAny_bind (wpAny_handled ?_)
 refine rt hh ?_
 exact wpAny_bind (wpAny_pure (wpAny_throw h2))
theorem So.Mv(ok:θ.W.Ok)(hT:lb θ.W T)(H:o.Ok θ.W)(hX:Da θ.W.mv X){e:PySem.Expr}{p:Pos}:So θ X (Fv θ.W) (Rn.Mv o T θ.c θ.D e) (λenv=>exec (.Raise (some e) none p) env):=So.yb λhc=>So.Nb (λenv=>arm_exec_Raise (some e) none p env) (So.Jb λΓ ad sx s M q=>by
 have hh:Γ.A.handled=none:=by
  have:=M.hn
  revert this hc
  induction θ.c.hn using Hn.casesOn with
  |nn=>exact λuu=>id
  |_=>exact λe=>ft e
 refine aa.Ba (λuu uu h=>jN hh (wpAny_bind h)) (Gl.use (H.Sb e hX Γ ad sx s M q) .refl λx xa v ya s2 c uu M2 z=>aa.Ea λn en=>aa.Ea λao es=>?_)
 induction ao using AO.casesOn with
 |jb C d tb=>
  refine aa.yb λhx=>aa.ok (wpAny_bind (wpAny_standAt (wpAny_pure ?_)))
  replace z:=(SV.Bg en ..)▸z
  refine Exists.elim z λa z=>(Xo.at (W:=θ.W) (M2.r.ob n a _ (Hb z.1) es) λda vs ed he uu uu uu uu=>⟨a,C,some da,vs,z.2,M2.ib,he,hT.xr C hx,?_⟩)
  exact M2.zi ok ⟨a,rfl,z.1⟩ es λs3 p3=>⟨n,rfl,p3.Pa c⟩
 |_=>trivial)
theorem So.Ov(ok:θ.W.Ok){p:Pos}:So θ X (Fv θ.W) (Rn.Ov θ.c) (λenv=>exec (.Raise none none p) env):=So.Nb (λenv=>arm_exec_Raise none none p env) (So.Jb (So.Ea λn en Γ ad sx s M uu=>aa.jj λC d es=>aa.ok<|by
 have hq:=M.hn
 have hn:θ.c.hn=.nm n:=by
  revert en
  induction θ.c.hn using Hn.casesOn with
  |nm m=>exact λe=>by cases e;rfl
  |_=>exact Fa
 replace hq:=hn▸hq
 refine Exists.elim hq λa y=>?_
 refine(?_:wpAny _ _ (raiseStmt Γ.env none none) _ _ s)
 unfold raiseStmt
 dsimp only
 refine wpAny_bind (wpAny_handled ?_)
 refine rt y.2 ?_
 dsimp only
 refine wpAny_bind (wpAny_rule (M.rz ⟨a,rfl,y.1⟩ es λT=>?_))
 refine rt (if_neg (show ¬(Value.ref T==Value.none)=true from Bool.false_ne_true) ..) ?_
 exact wpAny_bind (M.zi ok ⟨a,rfl,y.1⟩ es λs3 p3=>wpAny_throw ⟨n,rfl,p3⟩)))
end
end
section
variable {kz:Nat}
set_option tactic.hygienic true in
theorem kN{c:Value}{pos ln:Pos}{cv:Value}:∀l:List Value,TriplesOk l->codeAmong ln (l++[rawInt pos.line,rawInt pos.col,c])=some cv->codeAmong ln l=some cv\/(ln.line=pos.line/\cv=c):=by
 intro l h
 fun_induction TriplesOk l with
 |case1=>
  intro e
  simp only [List.nil_append,codeAmong,rawInt] at e
  split at e
  ·rename_i q
   replace e:=Option.some.inj e;subst e
   refine .inr ⟨?_,rfl⟩
   have:=(Bool.and_eq_true_iff.mp q).1
   have:=beq_iff_eq.mp this
   lia
  ·contradiction
 |case2 a b c' d e rest ih=>
  intro e
  simp only [List.cons_append,codeAmong] at e ⊢
  split at e
  ·rename_i q;refine rt (if_pos q ..) ?_;exact .inl e
  ·rename_i q;refine rt (if_neg q ..) ?_;exact ih h e
 |case3 l h1 h2=>exact h.elim
section
variable {M:Model}{A:Around}{E:Value->Shared->Prop}{s:Shared}{name qual:Str}{params:Arguments}{body:List Stmt}{scope:Scope}{env:PySem.Env}{c P:Addr}{ps:Array Value}{pos:Pos}{firstLine:Nat}{mg:Str->Option Value}
 {clos:List (Str×Addr)} {Q:Value->Shared->Prop}
theorem mN(Qx:env.code=.ref c)(C:CodeHd s.heap c P)(hP:s.heap.get? P=some (tabObj ps))(ht:TriplesOk ps.toList)
  (hg:∀cv,codeAmong pos ps.toList=some cv->∃c',cv=.ref c'/\dj s.heap c' qual)
  (h:∀c' h' tk wg,Heap.ExtBut P s.heap h'->s.heap.objs.size<=h'.objs.size->h'.get? P=some (tabObj wg)->TriplesOk wg.toList->dj h' c' qual->
   ((s.heap.objs.size<=c'/\wg=ps++#[rawInt pos.line,rawInt pos.col,.ref c'])\/(wg=ps/\codeAmong pos ps.toList=some (.ref c')))->Q (.ref c') {s with heap:=h',toks:=tk}):
  wpAny M A (functionCode env pos firstLine name qual params scope (.stmts body)) Q E s:=by
 rcases hf:codeAmong pos ps.toList with _|cv
 ·refine wpAny_functionCodeX Qx (C.code hP ht) (C.tab hP) hf λc' h' tk hx LJ ac VX vW wW xW=>?_
  obtain⟨c₂,oc,vs,t,e2,MJ,hd,hv⟩:=vW
  cases e2
  obtain⟨P',_,_,⟨o2,_,e3,e4,_⟩,_⟩:=xW
  replace e3:=MJ▸e3;replace e3:=Option.some.inj e3;subst e3
  refine h c' h' tk _ hx (Nat.le_of_lt (Nat.lt_of_le_of_lt LJ ac)) wW.2 ?_ ⟨oc,MJ,e4,vs,t,hd,hv⟩ (.inl ⟨LJ,rfl⟩)
  have:(ps++#[rawInt pos.line,rawInt pos.col,Value.ref c']).toList=ps.toList++[rawInt pos.line,rawInt pos.col,.ref c']:=by simp
  refine rt this ?_
  exact TriplesOk_snoc _ _ _ _ ht
 obtain⟨c',rfl,z⟩:=hg cv hf
 exact wpAny_functionCode_hit Qx (C.code hP ht) hf (h c' s.heap s.toks ps (λuu uu uu e=>e) (Nat.le_refl _) hP ht z (.inr ⟨rfl,hf⟩))
theorem nN(af:closureFor scope env=pure clos)(yW:env.globals=mainGlobals)(AW:s.heap.Ns mainGlobals mg)(Qx:env.code=.ref c)(C:CodeHd s.heap c P)(hP:s.heap.get? P=some (tabObj ps))(ht:TriplesOk ps.toList)
  (BW:mainGlobals≠P) (hb:s.heap.BuiltinsAt mg P) (hg:∀cv,codeAmong pos ps.toList=some cv->∃c',cv=.ref c'/\dj s.heap c' qual)
  (h:∀c' yk doc h' tk wg,Heap.ExtBut P s.heap h'->s.heap.objs.size<=h'.objs.size->h'.get? P=some (tabObj wg)->TriplesOk wg.toList->dj h' c' qual->
   ((s.heap.objs.size<=c'/\wg=ps++#[rawInt pos.line,rawInt pos.col,.ref c'])\/(wg=ps/\codeAmong pos ps.toList=some (.ref c')))->
   Q (.ref h'.objs.size) {s with heap:=h'.push (fnMade name qual params body scope clos doc ((mg "__name__").getD .none) c' yk),toks:=tk}):
  wpAny M A (makeFunction name qual params (.stmts body) scope env [] [] [] pos firstLine) Q E s:=by
 obtain⟨bm,ob,CW,DW,_,EW,GW,WC,HW,IW⟩:=hb
 refine rt (makeFunction_eq ..) ?_
 simp only [List.zip_nil_right,List.filterMap_nil,List.isEmpty_nil,if_true,pure_bind]
 unfold makeTail
 refine rt af (rt yW ?_)
 refine wpAny_bind (wpAny_pure ?_)
 have tail:∀{s1:Shared} {yk:Value},(∀b o,s.heap.get? b=some o->s1.heap.get? b=some o)->s.heap.objs.size<=s1.heap.objs.size->s1={s with heap:=s1.heap,toks:=s1.toks}->
   wpAny M A (do
    let code <-functionCode env pos firstLine name qual params scope (.stmts body)
    let b <-builtinsFor mainGlobals env.builtins
    let n <-nsGet mainGlobals "__name__"
    let d <-(match docOf body with|some s=>mkText s|none=>pure .none)
    newObj (.type "function") (.func {name:=name,qualname:=qual,params:=params,body:=.stmts body,scope:=scope,globals:=mainGlobals,closure:=clos,closureTuple:=yk,code:=code,builtins:=b,defaults:=.none,kwdefaults:=.none,annotations:=none,pyModule:=n.getD .none,doc:=d})) Q E s1:=by
  intro s1 yk k sz es
  have JW:=k _ _ hP
  refine wpAny_bind (mN Qx (C.keeps k) JW ht (λcv e=>let⟨c',e1,o,e2,e3⟩:=hg cv e;⟨c',e1,o,k _ _ e2,e3⟩) λc' h' tk wg hx Ql lD Vp MW Rx=>?_)
  have NJ:Heap.ExtBut P s.heap h':=λb o Tx e=>hx b o Tx (k _ _ e)
  have OJ:=(AW.keeps k).extBut hx BW
  have NW:(s.heap.objs.size<=c'/\wg=ps++#[rawInt pos.line,rawInt pos.col,.ref c'])\/(wg=ps/\codeAmong pos ps.toList=some (.ref c')):=Rx.imp (λq=>⟨Nat.le_trans sz q.1,q.2⟩) id
  refine wpAny_bind (wpAny_builtinsFor OJ CW DW (NJ _ _ EW GW) WC HW IW ?_)
  refine wpAny_bind (wpAny_nsGet OJ ?_)
  have fin:∀doc tk,Q (.ref h'.objs.size) {s with heap:=h'.push (fnMade name qual params body scope clos doc ((mg "__name__").getD .none) c' yk),toks:=tk}:=λdoc tk=>h c' yk doc h' tk wg NJ (Nat.le_trans sz Ql) lD Vp MW NW
  refine rt es ?_
  rcases XX:docOf body with _|t
  ·exact wpAny_bind (wpAny_pure (wpAny_newObj_type (fin .none tk) (by size_fits)))
  exact wpAny_bind (wpAny_mkText (wpAny_newObj_type (fin _ _) (by size_fits)))
 rcases clos with _|⟨q,r⟩
 ·simp only [List.isEmpty_nil,if_true]
  exact wpAny_bind (wpAny_pure (tail (λuu uu e=>e) (Nat.le_refl _) rfl))
 simp only [List.isEmpty_cons,Bool.false_eq_true,if_false]
 refine wpAny_bind (wpAny_newTextTuple ?_)
 exact tail (s1:={s with heap:=s.heap.push _}) (λb o e=>Heap.get?_push_of_some _ e) (by refine(?_:_<=(s.heap.push _).objs.size);refine rt (Heap.size_push ..) ?_;exact Nat.le_succ _) rfl
end
namespace Rn
noncomputable def Uk(cells:List (Str×Nat)):List (Str×NameKind)->List (Str×Nat)->Option (List (Str×Nat))
 |[],acc=>some acc
 |p::r,acc=>cond (p.2==.free) ((tq p.1 cells).bind λn=>Uk cells r ((p.1,n)::acc)) (Uk cells r acc)
noncomputable def AO.OF:AO->Option Addr
 |.ct P=>some P
 |_=>none
noncomputable def gr(P:Addr):St->Option Nat
 |[]=>none
 |o::r=>cond (((AO.OF o).map λp=>Nat.beq p P).getD false) (some 0) ((gr P r).bind λn=>some (n+1))
noncomputable def Nh:List Str->Bool
 |[]=>true
 |x::l=>cond (Ik x l) false (Nh l)
noncomputable def PF(a:Arguments):Option (List Arg):=cond (a.posonlyargs.isEmpty&&(a.vararg.isNone&&(a.kwonlyargs.isEmpty&&(a.kw_defaults.isEmpty&&(a.kwarg.isNone&&(a.defaults.isEmpty&&((a.args.all λa=>a.annotation.isNone)&&Nh (a.args.map (·.arg))))))))) (some a.args) none
noncomputable def oN:NameKind->Bool
 |.globalExplicit=>true
 |_=>false
noncomputable def QF(c:Cx)(name:Str):Bool:=((kd name c.scope.names).map λk=>!oN k).getD false
noncomputable def pN(P:Addr)(b:vn)(cl:List (Str×Nat)):Rn SV:=λs=>(gr P s.st).bind λuu=>some (.ok (.ob s.st.length),{s with st:=s.st++[.fn b cl]},[])
noncomputable def Pv(T:Tb)(W:Wd)(c:Cx)(name:Str)(args:Arguments)(body:List Stmt)(scope:Scope)(pos:Pos):Rn Fl:=Ea c.me>>=λme=>Ea (PF args)>>=λas=>cond (QF c name&&(!scope.isCoroutine&&!scope.isGenerator))
 (Ea (Uk c.cells scope.names [])>>=λcl=>Ea (T.ct me.1)>>=λP=>ask (W.qn pos.line=me.2++name)>>=λuu=>pN P ⟨as.map (·.arg),body,scope⟩ cl>>=λv=>Kd c name v>>=λuu=>Pure.pure .next) qa
noncomputable def RF(o:Ka)(hn:Hn)(D:Nat)(n:Nat)(vs:List SV):Rn SV:=λs=>(s.st[n]?).bind λao=>match ao with
 |.fn b cl=>cond (Nat.beq vs.length b.params.length) (Ky o hn D none b.scope b.body cl (b.params.zip vs) s) none
 |_=>none
end Rn
noncomputable def Em(env:PySem.Env):List (Str×NameKind)->List (Str×Addr)->Sem (List (Str×Addr))
 |[],cs=>Pure.pure cs
 |(name,kind)::r,cs=>if(kind==NameKind.free)=true then cellOf env name>>=λa=>Em env r ((name,a)::cs) else Em env r cs
theorem yz(env:PySem.Env):∀(l:List (Str×NameKind)) (cs:List (Str×Addr)),(forIn l cs λx r=>if(x.2==NameKind.free)=true then cellOf env x.1>>=λa=>Pure.pure (ForInStep.yield ((x.1,a)::r)) else Pure.pure (ForInStep.yield r))=Em env l cs
 |[],_=>rfl
 |p::r,cs=>by
  rw[List.forIn_cons]
  refine(?_:_=if(p.2==NameKind.free)=true then _ else _)
  by_cases hk:(p.2==NameKind.free)=true
  ·rw[if_pos hk,if_pos hk,bind_assoc]
   exact congrArg _ (funext λa=>yz env r _)
  ·refine rt (if_neg hk ..) (rt (if_neg hk ..) ?_)
   exact yz env r cs
theorem UF(scope:Scope)(env:PySem.Env):closureFor scope env=Em env scope.names []:=by
 refine Eq.trans ?_ (yz env scope.names [])
 unfold closureFor
 exact bind_pure _
theorem Qv{env:PySem.Env}{mv:Nat->Bool}{ad:List Addr}{cells:List (Str×Nat)}(hc:∀x n,cells.lookup x=some n->∃a,Db mv ad n=some a/\env.cells.lookup x=some a):∀{l:List (Str×NameKind)} {acc cl:List (Str×Nat)} {cs:List (Str×Addr)},Rn.Uk cells l acc=some cl->Cr mv ad acc cs->
  ∃ca,Em env l cs=Pure.pure ca/\Cr mv ad cl ca
 |[],acc,cl,cs,e,q=>by cases e;exact⟨cs,rfl,q⟩
 |p::r,acc,cl,cs,e,q=>by
  have e:cond (p.2==.free) ((tq p.1 cells).bind λn=>Rn.Uk cells r ((p.1,n)::acc)) (Rn.Uk cells r acc)=some cl:=e
  refine(?_:∃ca,(if(p.2==NameKind.free)=true then cellOf env p.1>>=λa=>Em env r ((p.1,a)::cs) else Em env r cs)=Pure.pure ca/\Cr mv ad cl ca)
  revert e
  rcases p.2==NameKind.free with _|_
  ·exact λe=>Qv hc e q
  refine λe=>obs e λm e1 e2=>(hc p.1 m (cy ..▸e1)).elim λa y=>?_
  refine rt (if_pos rfl ..) ?_
  unfold cellOf
  refine rt y.2 ?_
  exact Qv hc (cs:=(p.1,a)::cs) e2 ⟨(p.1,a),cs,rfl,rfl,y.1,q⟩
theorem VF{P:Addr}:∀{st:St} {n:Nat},Rn.gr P st=some n->st[n]?=some (.ct P)
 |[],_,e=>Fa e
 |o::r,n,e=>by
  have e:cond (((Rn.AO.OF o).map λp=>Nat.beq p P).getD false) (some 0) ((Rn.gr P r).bind λn=>some (n+1))=some n:=e
  have nx:((Rn.gr P r).bind λn=>some (n+1))=some n->(o::r)[n]?=some (.ct P):=λe=>obs e λm e1 e2=>by replace e2:=Option.some.inj e2;subst e2;exact VF (st:=r) e1
  induction o using AO.casesOn with
  |ct P'=>
   revert e
   refine(?_:cond (Nat.beq P' P) _ _=_->_)
   rcases h:Nat.beq P' P with _|_
   ·exact nx
   exact λe=>by cases e;refine rt (Nat.eq_of_beq_eq_true h ..) ?_;rfl
  |_=>exact nx e
theorem WF:∀{l:List Str},Rn.Nh l=true->l.Nodup
 |[],_=>.nil
 |x::l,h=>by
  have h:cond (Rn.Ik x l) false (Rn.Nh l)=true:=h
  revert h
  rcases hx:Rn.Ik x l with _|_
  ·refine λh=>List.nodup_cons.mpr ⟨λm=>?_,WF h⟩
   replace hx:=(Fy ..)▸hx
   have:=List.any_eq_false.mp hx x m
   replace this:=(sq ..)▸this
   exact absurd rfl this
  exact ft
theorem XF{env:PySem.Env}:∀{as:List Arg},(as.all λa=>a.annotation.isNone)=true->annotationsOf as env=[]
 |[],_=>rfl
 |⟨x,some _,p⟩::r,h=>ft h
 |⟨x,none,p⟩::r,h=>XF (as:=r) h
theorem qN{a:Arguments}{as:List Arg}{G:Prop}(h:Rn.PF a=some as)(K:a=⟨[],as,none,[],[],none,[]⟩->(as.all λa=>a.annotation.isNone)=true->(as.map (·.arg)).Nodup->G):G:=by
 obtain⟨po,Ws,va,ko,kd,kw,ds⟩:=a
 rcases po with _|⟨_,_⟩
 ·induction va using Option.casesOn with
   |some _=>exact Fa h
   |none=>
    rcases ko with _|⟨_,_⟩
    ·rcases kd with _|⟨_,_⟩
     ·rcases kw with _|_
      ·rcases ds with _|⟨_,_⟩
       ·have h:cond ((Ws.all λa=>a.annotation.isNone)&&Rn.Nh (Ws.map (·.arg))) (some Ws) none=some as:=h
        revert h
        induction q:(Ws.all λa=>a.annotation.isNone)&&Rn.Nh (Ws.map (·.arg)) using Bool.casesOn with
        |false=>exact Fa
        |true=>
         intro h
         cases h
         exact have q:=(Bool.and_eq_true _ _).mp q;K rfl q.1 (WF q.2)
       exact Fa h
      exact Fa h
     exact Fa h
    exact Fa h
 exact Fa h
theorem rN{st:St}{n:Nat}{ao:AO}(e:st[n]?=some ao):st.set n ao=st:=(List.getElem?_eq_some_iff.mp e).elim λhl he=>by refine rl he ?_;exact List.set_getElem_self hl
section
variable {θ:Th}{X:Hp}{T:Tb}{o:Ka}{W:Wd}{D:Nat}
theorem So.Pv(ok:θ.W.Ok)(hT:lb θ.W T)(W0:Wd)(hW:W0.qn=θ.W.qn){name:Str}{args:Arguments}{body:List Stmt}{scope:Scope}{pos:Pos}:
  So θ X (Fv θ.W) (Rn.Pv T W0 θ.c name args body scope pos) (λenv=>exec (.FunctionDef name args body [] none [] scope none name pos) env):=So.Ea λme Sf=>So.Ea λas has=>qN has λOW PC xk=>by
 subst OW
 refine So.yb λhb=>So.Ea λcl af=>So.Ea λP hP=>So.ask λhq Γ ad sx s M x=>?_
 have hb:=(Bool.and_eq_true _ _).mp hb
 have Ej:=(Bool.and_eq_true _ _).mp hb.2
 replace hq:=hW▸hq
 have z:=hT.ct me.1 P hP
 obtain⟨C,mg,mD,PW⟩:=z.at_ _ M.ib
 have hm:=M.env.me _ Sf
 obtain⟨ca,QW,nD⟩:=Qv (env:=Γ.env) M.env.cells af (show Cr θ.W.mv ad [] [] from rfl)
 have RW:qualnameIn Γ.env name name=me.2++name:=by
  unfold qualnameIn
  have:(Γ.env.kindOf name==some NameKind.globalExplicit)=false:=by
   unfold Env.kindOf
   refine rt (M.env.scope ..) (rl (uq ..) ?_)
   have h1:=hb.1
   unfold Rn.QF at h1
   revert h1
   rcases kd name θ.c.scope.names with _|k
   ·exact ft
   induction k using NameKind.casesOn<;>first|exact λuu=>rfl|exact ft
  exact(this ..).symm▸(if_neg Bool.false_ne_true ..).symm▸(hm.2 ..).symm▸rfl
 refine aa.Ba (λr ra h=>nestDef_K rfl rfl (by
   refine(?_:annotationsOf (as++[]++[]++[]++[]) Γ.env++[]=[])
   refine rt (List.append_nil ..) (rt (List.append_nil ..) (rt (List.append_nil ..) (rt (List.append_nil ..) (rt (List.append_nil ..) ?_))))
   exact XF PC) h) ?_
 refine rt RW ?_
 refine Gl.use (rep:=Rv θ.W) (aa.Ea λn aq=>aa.ok ?_) .refl λv xa w ya s2 c2 uu M2 q=>Gl.use (So.storeName (X:=λa h=>V θ.W a h v w) ok (λuu uu z=>z) Γ ya xa s2 M2 q) c2 λuu Px uu ic s3 c3 uu M3 uu=>aa.ok ⟨.next,rfl,ic,c3,M3,rfl⟩
 have es:=VF aq
 refine(M.r.get es).elim λa y=>y.2.elim λob y2=>y2.2.2.elim λps y3=>?_
 have ea:=y.1
 have aP:a=P:=y2.2.1
 have h1:s.heap.get? P=some (tabObj ps):=aP▸y3.1▸y2.1
 replace ea:=aP▸ea
 refine nN (mg:=mg) (clos:=ca) ((UF scope Γ.env).trans QW) M.env.globals mD hm.1 C h1 y3.2.1 z.ne PW (λcv e=>(y3.2.2 pos cv e).elim λc' q=>⟨c',q.1,hq▸q.2.2⟩) λc' yk doc h' tk wg hx Ql lD Vp PJ Rx=>?_
 have fx:Fx P s.heap h':=⟨Ql,λb o hb e=>hx b o hb e⟩
 have c1:=M.rt ea fx tk
 have QJ:θ.W.out ad c':=Rx.elim (λq=>M.fresh q.1) λq=>(y3.2.2 pos _ q.2).elim λc2 w=>Value.ref.inj w.1▸w.2.1
 have tr:=c1.k.tr (W:=θ.W) c1.g M.ke
 have qt:Ob θ.W ad h' P (.ct P):=⟨_,lD,rfl,wg,rfl,Vp,λln cv e=>by
  have old:∀{cv},codeAmong ln ps.toList=some cv->∃c,cv=.ref c/\θ.W.out ad c/\dj h' c (θ.W.qn ln.line):=λe=>(y3.2.2 ln _ e).elim λc2 w=>⟨c2,w.1,(tr.code w.2.1 w.2.2)⟩
  rcases Rx with⟨_,q⟩|⟨q,_⟩
  ·replace e:=(Array.toList_append ..)▸(q ..)▸e
   rcases kN _ y3.2.1 e with e|⟨e1,e2⟩
   ·exact old e
   ·exact⟨c',e2,QJ,by refine rt e1 (rt hq ?_);exact PJ⟩
  ·replace e:=q▸e;exact old e⟩
 refine Po.casesOn (M.Rb ok ea fx tk (Y:=λad h=>ad[n]?=some P/\h.get? P=h'.get? P/\dj h c' (me.2++name)/\θ.W.out ad c'/\Cr θ.W.mv ad cl ca/\h=h') qt ⟨ea,rfl,PJ,QJ,nD,rfl⟩) λja c1 M1 y1=>?_
 replace M1:=(rN es ..)▸M1
 have M1:Ms θ Γ ja sx _:=M1.as rfl rfl
 have c2:=M1.ro (fnMade name (me.2++name) ⟨[],as,none,[],[],none,[]⟩ body scope ca doc ((mg "__name__").getD .none) c' yk) tk
 have cd:=(c2.k.tr (W:=θ.W) c2.g M1.ke).code y1.2.2.2.1 y1.2.2.1
 exact⟨_,rfl,(M1.own ok tk (ao:=.fn ⟨as.map (·.arg),body,scope⟩ cl) rfl (.mk name (me.2++name) as [] ca _ doc _ none c' yk cd.1 cd.2 (y1.2.2.2.2.1.Bn λuu uu=>c2.g.get) rfl xk (by simpa using Ej.1) (by simpa using Ej.2)) ⟨_,M1.nm _,rfl⟩).Pa c1⟩
theorem sN(ok:W.Ok)(H:o.Ok W){hn:Hn}{n:Nat}{vs:List SV}{sx:Sx}:aa (Rn.RF o hn D n vs sx) λr ra=>ra.loc=sx.loc/\ba W hn D (.ob n) vs sx.st r ra.st:=aa.Ea λao es=>by
 induction ao using AO.casesOn with
 |fn b cl=>
  refine aa.yb λhlen=>(DE ok H).Ba λr ra h=>⟨h.1,λA Ma ad s v ws C hh q1 q2=>?_⟩
  have hlen:=Nat.eq_of_beq_eq_true hlen
  refine C.r.on es (λz=>nomatch z) q1 λa ob hv uu g z=>?_
  refine rt hv ?_
  induction(z:xe ..) using xe.casesOn with
  |mk name qual as kwd ca kV doc pm an cd ct m k z4 z5 z6 z7 z8=>
   refine k.elim λoc y=>y.2.d.elim λvc y2=>y2.elim λt y2=>h.2 A Ma ad s a ca _ (b.params.zip ws) ws C hh ⟨⟨_,g,rfl⟩,rfl,rfl,rfl,rfl,rfl,⟨cd,oc,vc,t,rfl,y.1,y2.1,y2.2⟩,z7,z8⟩ (λp q=>nomatch q) z4 (.of_eq ?_) (Ku q2 hlen.symm)
   refine rl z5 ?_
   exact kF rfl rfl (by refine rt z5 ?_;exact z6) (by exact(q2.length ..).symm▸(hlen ..).symm▸(z5 ..)▸(List.length_map ..).symm▸rfl)
 |_=>trivial
end
end
section
variable {kz:Nat}
namespace Rn
noncomputable def Zn(Ma:Scope):List (Str×NameKind)->List (Str×NameKind)
 |[]=>[]
 |p::r=>(match p.2,kd p.1 Ma.names with
  |.free,some .cell=>(p.1,.cell)
  |_,_=>p)::Zn Ma r
noncomputable def nj(scope Ma:Scope):Scope:={scope with names:=Zn Ma scope.names}
noncomputable def compOk(scope Ma:Scope):Bool:=(match scope.kind,Ma.kind with
  |.function,.function=>true
  |_,_=>false)&&scope.names.all λp=>match p.2 with
  |.cell=>false
  |.local=>(match kd p.1 scope.names with
   |some .local=>true
   |_=>false)
  |_=>true
noncomputable def YF(o:Ka)(c:Cx)(D:Nat):List PySem.Expr->Rn Bool
 |[]=>Pure.pure true
 |[e]=>o.ts c D e
 |_=>qa
noncomputable def og(o:Ka)(T:Tb)(c:Cx)(D:Nat)(t elt:PySem.Expr)(ifs:List PySem.Expr)(N:Nat):Nat->List SV->Rn (List SV)
 |0,_=>qa
 |k+1,acc=>lh c N>>=λq=>match q with
  |none=>Pure.pure acc
  |some v=>wm t N>>=λuu=>vm o T c D t v>>=λuu=>YF o c D ifs>>=λb=>cond b (o.ev c D elt>>=λy=>og o T c D t elt ifs N k (acc++[y])) (og o T c D t elt ifs N k acc)
end Rn
theorem tN{scope Ma:Scope}{env:PySem.Env}(he:env.scope=Ma)(hk:Ma.kind=.function):relabel scope env=Rn.nj scope Ma:=by
 unfold relabel Rn.nj
 congr 1
 subst he
 generalize scope.names=l
 induction l with
 |nil=>rfl
 |cons p r ih=>
  obtain⟨n,k⟩:=p
  refine rt (List.map_cons ..) ?_
  show _::_=(match k,kd n env.scope.names with
   |.free,some .cell=>(n,NameKind.cell)
   |_,_=>(n,k))::Rn.Zn env.scope r
  refine List.cons_eq_cons.mpr ⟨?_,ih⟩
  dsimp only
  have e1:(env.scope.kind==ScopeKind.function)=true:=by refine rt hk ?_;rfl
  have e2:env.kindOf n=kd n env.scope.names:=by unfold Env.kindOf;exact rt (uq ..) rfl
  refine rt e1 (rt e2 ?_)
  induction k using NameKind.casesOn<;>first
   |rfl
   |(
    rcases hq:kd n env.scope.names with _|q
    ·rfl
    induction q using NameKind.casesOn<;>rfl)
section
variable {W:Wd}{fd1 fd2 ad:List Addr}{h h':Heap}
section
variable (H:∀(b:Addr) (o:Obj),h.get? b=some o->b∉fd1->b∉fd2/\h'.get? b=some o)
include H
theorem Az:Tr h ((W.on fd1).out ad) h' ((W.on fd2).out ad):=⟨λa o e m uu=>have z:=H a o e m.2;⟨z.2,m.1,z.1⟩,λT o ts fl e m h1 h2 h3=>have z:=H T o e m.2;⟨⟨m.1,z.1⟩,o,ts,fl,z.2,h1,h2,h3⟩⟩
theorem V.fd{x:SV}{v:Value}(q:V (W.on fd1) ad h x v):V (W.on fd2) ad h' x v:=V.tr (W:=W.on fd1) (W':=W.on fd2) (Az H) (λuu uu e=>e) v q
theorem Vs.fd{x:List SV}{v:List Value}(q:Vs (W.on fd1) ad h x v):Vs (W.on fd2) ad h' x v:=Vs.tr (W:=W.on fd1) (W':=W.on fd2) (Az H) (λuu uu e=>e) v q
theorem R.fd{st:St}(hs:h.objs.size<=h'.objs.size)(ha:∀a∈ad,∀o,h.get? a=some o->h'.get? a=some o)(lf:∀a∈fd2,W.ff a/\a<h'.objs.size)(r:R (W.on fd1) ad h st):R (W.on fd2) ad h' st:=
 ⟨r.len,r.nd,λa m=>⟨(r.lt a m).1,Nat.lt_of_lt_of_le (r.lt a m).2 hs⟩,lf,λi a o e1 e2=>Ob.tr (W:=W.on fd1) (fd:=fd2) (Az H) (λo e uu uu=>ha a (List.mem_of_getElem? e1) o e) (.inl λuu uu e=>e) (r.ob i a o e1 e2),r.hi⟩
theorem Lo.fd{L:Addr}{loc:Lc}(ha:∀o,h.get? L=some o->h'.get? L=some o)(x:Lo (W.on fd1) ad h L loc):Lo (W.on fd2) ad h' L loc:=x.elim λm x=>⟨m,x.1.elim λo y=>y.elim λes y=>y.elim λep y=>⟨o,es,ep,ha o y.1,y.2⟩,λy=>by
 have:=x.2 y
 revert this
 rcases lk y loc with _|sv
 ·exact id
 exact λz=>z.elim λv z=>⟨v,z.1,V.fd H z.2⟩⟩
end
theorem Wd.Ok.on(ok:W.Ok)(fd:List Addr):(W.on fd).Ok:=⟨ok.plain,ok.sm,ok.nl⟩
end
section
variable {prog:Program}{w:World}{A:Around}{R:Result->Shared->Prop}
theorem uN{elt target iter:PySem.Expr}{ifs:List PySem.Expr}{scope:Scope}{pos:Pos}{it acc:Value}{env:PySem.Env}(I:Nat->Shared->Prop)
  (Rb:∀n s,I n s->wpAny (model prog w) A (pyNext it) (λr s1=>match r with
   |none=>R (.ok .next) s1
   |some v=>wpAny (model prog w) A (letOwnedTupleGo target it v) (λuu s2=>wpAny (model prog w) A (assign target env v) (λuu s3=>
     wpAny (model prog w) A (forIn ifs true λc r=>if r=true then do let ok <-isTrue c env (eval c env);pure (ForInStep.yield ok) else pure (ForInStep.yield r)) (λok s4=>
      if ok=true then wpAny (model prog w) A (eval elt env) (λx s5=>wpAny (model prog w) A (call (.builtin "list.append") [acc,x]) (λuu s6=>∃m,m<n/\I m s6) (λuu uu=>False) s5) (λuu uu=>False) s4
      else ∃m,m<n/\I m s4) (λuu uu=>False) s3) (λuu uu=>False) s2) (λuu uu=>False) s1) (λuu uu=>False) s) (n:Nat) {s:Shared} (h:I n s):
  codeAny (model prog w) A (.compLoop (.ListComp elt [⟨target,iter,ifs,0⟩] scope pos) 0 it acc env) R s:=by
 refine codeAny_loop rfl I (λn s hI=>?_) n h
 refine(?_:wpAny _ A ((compTurn (.ListComp elt [⟨target,iter,ifs,0⟩] scope pos) 0 it acc env).onRaise (λx=>do noteFrame x env;theTreesLotGoes x)) _ _ s)
 refine wpAny_noted ?_
 refine rt (compTurn_list ..) ?_
 refine wpAny_bind (wpAny_standAt (wpAny_bind (wpAny_mono (Rb n s hI) (λr s1 h1=>?_) λuu uu q=>q.elim)))
 rcases r with _|v
 ·exact wpAny_pure h1
 refine wpAny_bind (wpAny_mono h1 (λuu s2 h2=>wpAny_bind (wpAny_mono h2 (λuu s3 h3=>wpAny_bind (wpAny_mono h3 (λok s4 h4=>?_) λuu uu q=>q.elim)) λuu uu q=>q.elim)) λuu uu q=>q.elim)
 rcases ok with _|_
 ·exact wpAny_pure ⟨rfl,h4⟩
 exact wpAny_bind (wpAny_bind (wpAny_mono h4 (λx s5 h5=>wpAny_bind (wpAny_mono h5 (λuu s6 h6=>wpAny_pure (wpAny_pure ⟨rfl,h6⟩)) λuu uu q=>q.elim)) λuu uu q=>q.elim))
end
section
variable {θ:Th}{Γ:Bk}{ad ja ya:List Addr}{sx sx1:Sx}{s s1 s2:Shared}{X:Hp}{T:Tb}{o:Ka}{D0:Addr}{iv:Value}{N:Nat}{acc:List SV}
theorem Ms.Gg(ok:θ.W.Ok)(M:Ms θ Γ ad sx s){a:Addr}{ob:Obj}{h':Heap}(e:s.heap.get? a=some ob)(hc:ob.cls=.type "list")(x:Fx a s.heap h')(m:a∈θ.W.fd)(n1:a∉ad)(n2:θ.W.fr a)(n3:a≠Γ.env.locals):Ms θ Γ ad sx {s with heap:=h'}:=by
 have H:∀(b:Addr) (o:Obj),s.heap.get? b=some o->b∉θ.W.fd->b∉θ.W.fd/\h'.get? b=some o:=λb o e q=>⟨q,x.keep b o (λz=>q (z▸m)) e⟩
 have no:∀{b o},s.heap.get? b=some o->o.cls≠.type "list"->b≠a:=λeb nc z=>nc (sj e (z▸eb)▸hc)
 have kL:∀o,s.heap.get? Γ.env.locals=some o->h'.get? Γ.env.locals=some o:=λo e=>x.keep _ o (Ne.symm n3) e
 refine⟨λb o eb=>x.keep b o (λz=>Fa (((show θ.W.K.lookup a=none from n2).symm.trans (z▸eb)))) (M.ib b o eb),R.fd (W:=θ.W) (fd1:=θ.W.fd) H x.size (λb q o e=>x.keep b o (λz=>n1 (z▸q)) e) (λb q=>⟨(M.r.lf b q).1,Nat.lt_of_lt_of_le (M.r.lf b q).2 x.size⟩) M.r,Lo.fd (W:=θ.W) (fd1:=θ.W.fd) H kL M.lo,M.nL,M.lL,λo eo=>?_,M.Yg,M.env,M.fr,λenv q=>?_,M.je,M.un,?_⟩
 ·exact M.lo.obj.elim λo0 z=>z.elim λuu z=>z.elim λuu z=>sj (kL o0 z.1) eo▸M.lT o0 z.1
 ·exact⟨(M.ff env q).1,(M.ff env q).2.imp λF y=>y.imp λo y=>⟨y.1,y.2.1,y.2.2.1,x.keep F o (no y.2.2.2.1 (by refine y.2.2.2.2.1.symm▸?_;exact λe=>nomatch e)) y.2.2.2.1,y.2.2.2.2⟩⟩
 ·have hq:=M.hn
  revert hq
  induction θ.c.hn using Hn.casesOn with
  |fo=>exact λhq=>Exists.elim hq λe0 y=>⟨e0,y.1,y.2.1,y.2.2.imp λC y=>y.imp λd y=>y.imp λvs y=>⟨x.keep _ _ (no y.1 (show Value.ref C≠.type "list" from λe=>nomatch e)) y.1,y.2⟩⟩
  |_=>exact id
structure CI(θ:Th)(Γ:Bk)(ya:List Addr)(s2:Shared)(D0:Addr)(iv:Value)(N:Nat)(acc:List SV)(ja:List Addr)(sx:Sx)(s':Shared):Prop where
 ms:Ms θ Γ ja sx s'
 it:V θ.W ja s'.heap (.ob N) iv
 vs:∃vs n,s'.heap.get? D0=some ⟨.type "list",none,.seq (List.toArray vs) n,#[]⟩/\Vs θ.W ja s'.heap acc vs
 nd:D0∉ja
 c:pb θ.W Sc ya s2 ja s'
theorem CI.step(hC:s2.heap.objs.size<=Γ.env.locals)(hL:D0≠Γ.env.locals)(I:CI θ Γ ya s2 D0 iv N acc ad sx s)(c:pb θ.W Γ.L ad s ja s1)(M:Ms θ Γ ja sx1 s1):CI θ Γ ya s2 D0 iv N acc ja sx1 s1:=
 I.vs.elim λvs y=>y.elim λn y=>⟨M,c.v I.ms I.it,(c.k.keep D0 _ y.1 I.nd hL (tf (c:=.type "list") rfl).1).elim λo' z=>⟨vs,n,(z.2.eq (tf (c:=.type "list") rfl).2)▸z.1,c.vs I.ms y.2⟩,c.g.not y.1 I.nd,⟨I.c.g.trans c.g I.c.k.size,xb.Jj I.c.g I.c.k c.k hC,by exact(c.e ..).symm▸(I.c.e ..).symm▸rfl⟩⟩
theorem CI.append(ok:θ.W.Ok)(I:CI θ Γ ya s2 D0 iv N acc ad sx s)(hm:D0∈θ.W.fd)(hD:s2.heap.objs.size<=D0)(hn:θ.W.fr D0)(hL:D0≠Γ.env.locals){x:SV}{v:Value}(hx:V θ.W ad s.heap x v)(hl:acc.length<=100000)
  {Q:Value->Shared->Prop} {E:Value->Shared->Prop} (hQ:∀w uk,CI θ Γ ya s2 D0 iv N (acc++[x]) ad sx uk->Q w uk):wpAny θ.W.m Γ.A (call (.builtin "list.append") [.ref D0,v]) Q E s:=by
 obtain⟨vs,n,e,q⟩:=I.vs
 refine wpAny_list_append_plain ⟨n,e⟩ (λh' Xd sb=>hQ _ _ ?_) (by refine(List.size_toArray ..).symm▸(q.length ..).symm▸?_;exact eh hl (by decide))
 have fx:Fx D0 s.heap h':=.ze sb
 have H:∀(b:Addr) (o:Obj),s.heap.get? b=some o->b∉θ.W.fd->b∉θ.W.fd/\h'.get? b=some o:=λb o e q=>⟨q,fx.keep b o (λz=>q (z▸hm)) e⟩
 have lt:∀{b:Addr} {o:Obj},s2.heap.get? b=some o->b≠D0:=λe z=>absurd (Heap.lt_size e) (Nat.not_lt.mpr (z▸hD))
 refine⟨I.ms.Gg ok e rfl fx hm I.nd hn hL,V.fd (W:=θ.W) (fd1:=θ.W.fd) H I.it,Xd.elim λn' e'=>⟨vs++[v],n',by exact(e' ..).symm▸(List.push_toArray ..).symm▸rfl,(Vs.fd (W:=θ.W) (fd1:=θ.W.fd) H q).append (Vs.Ua (V.fd (W:=θ.W) (fd1:=θ.W.fd) H hx))⟩,I.nd,I.c.g,?_,by exact rt (I.c.e ..) rfl⟩
 exact⟨Nat.le_trans I.c.k.size fx.size,λb o eb n1 n2 n4=>(I.c.k.keep b o eb n1 n2 n4).imp λo' y=>⟨fx.keep b o' (lt eb) y.1,y.2⟩,λb o l eb n1 n2=>fx.keep b o (lt eb) (I.c.k.old b o l eb n1 n2),λb o q=>q.elim,λT o ts fl eb n1 n2 h1 h2 h3=>
  (I.c.k.tb T o ts fl eb n1 n2 h1 h2 h3).imp λo' y=>y.imp λQc y=>y.imp λVd y=>⟨fx.keep T o' (lt eb) y.1,y.2⟩⟩
theorem Gl.Sv{α β δ:Type}{rep:β->α->Hp}{m:Rn β}{f:β->Rn δ}{t:Sem α}{P:Except Nat δ->Sx->Prop}{Q:α->Shared->Prop}{E:Value->Shared->Prop}(H:Gl θ Γ ad s rep (m sx) t s)(hP:∀n ra,¬P (.error n) ra)
  (K:∀b xa v ya s2,pb θ.W Γ.L ad s ya s2->Ms θ Γ ya xa s2->rep b v ya s2.heap->aa (f b xa) λo ra=>P o ra->Q v s2):aa ((m>>=f) sx) λo ra=>P o ra->wpAny θ.W.m Γ.A t Q E s:=aa.bind (H.Ba λo xa h=>by
 rcases o with n|b
 ·exact λhp=>absurd hp (hP _ _)
 have K:=K b xa
 refine(?_:aa (f b xa) _)
 revert K
 rcases f b xa with _|q
 ·exact λuu=>trivial
 exact λK hl hp=>wpAny_mono h (λv s' z=>let⟨ia,r,M,x⟩:=z.po;K v ia s' r M x hl hp) λuu uu z=>z.ok)
def CJ(θ:Th)(Γ:Bk)(ya:List Addr)(s2:Shared)(D0:Addr)(iv:Value)(N:Nat)(run:Nat->List SV->Rn (List SV))(lF:List SV)(ee:Sx)(k:Nat)(s1:Shared):Prop:=
 ∃ja sx1 l1 acc,run k acc sx1=some (.ok lF,ee,l1)/\(∀q∈l1,q)/\acc.length+k<=60000/\CI θ Γ ya s2 D0 iv N acc ja sx1 s1
def CB(θ:Th)(Γ:Bk)(D0:Addr)(elt:PySem.Expr)(G:Shared->Prop)(b:Bool)(s1:Shared):Prop:=if b=true then wpAny θ.W.m Γ.A (eval elt Γ.env) (λx s5=>wpAny θ.W.m Γ.A (call (.builtin "list.append") [.ref D0,x]) (λuu s6=>G s6) (λuu uu=>False) s5) (λuu uu=>False) s1 else G s1
noncomputable abbrev CP(lF:List SV)(ee:Sx)(r:Except Nat (List SV))(ra:Sx):Prop:=r=.ok lF/\ra=ee
theorem wN(ok:θ.W.Ok)(hT:lb θ.W T)(H:o.Ok θ.W)(hm:D0∈θ.W.fd)(hC:s2.heap.objs.size<=Γ.env.locals)(hD:s2.heap.objs.size<=D0)(hn:θ.W.fr D0)(hL:D0≠Γ.env.locals){t elt iter:PySem.Expr}{ifs:List PySem.Expr}{scope:Scope}{pos:Pos}(ht:Rn.uo t=true)
  {lF:List SV} {ee:Sx} {l0:List Prop} (e0:Rn.og o T θ.c θ.D t elt ifs N 60000 [] sx=some (.ok lF,ee,l0)) (SW:∀q∈l0,q) (I0:CI θ Γ ya s2 D0 iv N [] ad sx s)
  {R:Result->Shared->Prop} (hR:∀ia uk,CI θ Γ ya s2 D0 iv N lF ia ee uk->R (.ok .next) uk):
  codeAny θ.W.m Γ.A (.compLoop (.ListComp elt [⟨t,iter,ifs,0⟩] scope pos) 0 iv (.ref D0) Γ.env) R s:=by
 refine uN (CJ θ Γ ya s2 D0 iv N (Rn.og o T θ.c θ.D t elt ifs N) lF ee) (λk s1 I=>?_) 60000 ⟨ad,sx,l0,[],e0,SW,Nat.le_refl _,I0⟩
 obtain⟨ja,sx1,l1,acc,e1,TW,hlen,I1⟩:=I
 induction k using Nat.casesOn with
 |zero=>exact nomatch e1
 |succ k=>
  have hP:∀n ra,¬CP lF ee (.error n) ra:=λn ra h=>nomatch h.1
  have nx:∀{ja sx1 s1 acc},acc.length+k<=60000->CI θ Γ ya s2 D0 iv N acc ja sx1 s1->aa (Rn.og o T θ.c θ.D t elt ifs N k acc sx1) λr ra=>CP lF ee r ra->∃m,m<k+1/\CJ θ Γ ya s2 D0 iv N (Rn.og o T θ.c θ.D t elt ifs N) lF ee m s1:=
   λ{ja sx1 s1 acc} hl I=>aa.self.Ba λr ra h hp=>h.elim λl h=>⟨k,Nat.lt_succ_self k,ja,sx1,l,acc,by exact h.1.symm▸hp.1.symm▸hp.2.symm▸rfl,h.2,hl,I⟩
  have fin:∀{ja sx1 s1} (b:Bool),CI θ Γ ya s2 D0 iv N acc ja sx1 s1->aa ((cond b (o.ev θ.c θ.D elt>>=λy=>Rn.og o T θ.c θ.D t elt ifs N k (acc++[y])) (Rn.og o T θ.c θ.D t elt ifs N k acc)) sx1) λr ra=>CP lF ee r ra->CB θ Γ D0 elt (λs=>∃m,m<k+1/\CJ θ Γ ya s2 D0 iv N (Rn.og o T θ.c θ.D t elt ifs N) lF ee m s) b s1:=λ{ja sx1 s1} b I=>by
   rcases b with _|_
   ·exact(nx (Nat.le_of_succ_le hlen) I).Ba λuu uu h=>h
   refine Gl.Sv (H.Sb elt Da.true Γ ja sx1 s1 I.ms trivial) hP λy vJ w Us s6 c6 M6 q=>?_
   have I6:=I.step hC hL c6 M6
   exact aa.self.Ba λr ra h hp=>h.elim λl h=>I6.append ok hm hD hn hL q (by lia) λw s8 I8=>⟨k,Nat.lt_succ_self k,Us,vJ,l,acc++[y],by exact h.1.symm▸hp.1.symm▸hp.2.symm▸rfl,h.2,by refine rt (List.length_append ..) ?_;exact Nat.le_trans (Nat.le_of_eq (Nat.add_right_comm ..)) hlen,I8⟩
  refine aa.get (K:=λr ra=>CP lF ee r ra->wpAny θ.W.m Γ.A (pyNext iv) _ (λuu uu=>False) s1) (Gl.Sv (So.lh (X:=λa h=>V θ.W a h (.ob N) iv) ok (λuu uu z=>z) Γ ja sx1 s1 I1.ms I1.it) hP λq xa v ic s3 c M3 z=>?_) e1 TW ⟨rfl,rfl⟩
  have I3:=I1.step hC hL c M3
  rcases q with _|y
  ·cases(show v=none from z)
   exact aa.ok λhp=>hR ic s3 (by cases hp.1;exact rl hp.2 I3)
  exact Exists.elim z λw z=>by
   refine rt z.1 ?_
   refine aa.wm λhS=>aa.Ba (λr ra h hp=>VE ht M3 I3.it hS (h hp)) (Gl.Sv (So.vm (X:=λa h=>V θ.W a h y w) ok hT H (Da.V θ.W y w) (λuu uu z=>z) Γ ic xa s3 M3 z.2) hP λuu Xp uu Wg s4 c4 M4 uu=>?_)
   have I4:=I3.step hC hL c4 M4
   rcases ifs with _|⟨e,r⟩
   ·exact aa.step rfl ((fin true I4).Ba λr ra h hp=>wpAny_tests_nil (h hp))
   rcases r with _|⟨_,_⟩
   ·exact(Gl.Sv (H.Vn e Da.true Γ Wg Xp s4 M4 trivial) hP λb gD v Ts s5 c5 M5 q=>by
     cases(show b=v from q)
     exact fin b (I4.step hC hL c5 M5)).Ba λr ra h hp=>wpAny_tests_one (h hp)
   exact trivial
end
end
section
variable {kz:Nat}
theorem xN{scope Ma:Scope}(h:Rn.compOk scope Ma=true):scope.kind=.function/\Ma.kind=.function/\(∀x∈scope.names,x.2≠.cell)/\∀x∈scope.names,x.2=.local->scope.names.lookup x.1=some .local:=by
 obtain⟨h1,h2⟩:=Bool.and_eq_true_iff.mp h
 have hk:scope.kind=.function/\Ma.kind=.function:=by
  generalize scope.kind=a at h1
  generalize Ma.kind=b at h1
  induction a using ScopeKind.casesOn<;>induction b using ScopeKind.casesOn<;>first|exact⟨rfl,rfl⟩|contradiction
 refine⟨hk.1,hk.2,λx m q=>?_,λx m q=>?_⟩
 ·have:=List.all_eq_true.mp h2 x m
  replace this:=q▸this;contradiction
 ·have:=List.all_eq_true.mp h2 x m
  replace this:=q▸this
  dsimp only at this
  refine rl (uq ..) ?_
  split at this
  ·assumption
  ·contradiction
theorem ZF{α β:Type}{f:α->β->Sem (ForInStep β)}:∀(l:List α) (b:β),(∀a∈l,∀b,f a b=Pure.pure (.yield b))->forIn l b f=(Pure.pure b:Sem β)
 |[],_,_=>rfl
 |a::l,b,h=>by
  rw[List.forIn_cons,h a (.head _) b,pure_bind]
  exact ZF l b λa m=>h a (.tail _ m)
theorem yN{M:Model}{A:Around}{E:Value->Shared->Prop}{s:Shared}{scope:Scope}{g:Addr}{cl:List (Str×Addr)}{q:Str}{env:PySem.Env}{Q:PySem.Env->Shared->Prop}(oD:∀x∈scope.names,x.2≠.cell)
  (h:Q {scope:=scope,locals:=s.heap.objs.size,globals:=g,cells:=cl,qual:=q,func:=none,code:=env.code,frame:=env.frame,builtins:=env.builtins} {s with heap:=s.heap.push {cls:=.type "dict",data:=.dict #[]}}):
  wpAny M A (newFunctionEnv scope g cl [] q none .none (some env)) Q E s:=by
 simp only [newFunctionEnv,Option.isSome_some,if_true]
 refine wpAny_bind (wpAny_alloc ?_)
 rw[ZF scope.names cl λx hx b=>by
  obtain⟨n,k⟩:=x
  have:(k==NameKind.cell)=false:=by simpa using oD _ hx
  simp [this]]
 refine wpAny_bind (wpAny_pure ?_)
 exact wpAny_bind (wpAny_pure (wpAny_pure h))
namespace Rn
noncomputable def Bz(o:Ka)(T:Tb)(c:Cx)(D:Nat)(elt t:PySem.Expr)(ifs:List PySem.Expr)(N:Nat):Rn SV:=λs=>(og o T c D t elt ifs N 60000 [] {s with loc:=[]}).bind λq=>match q.1 with
 |.ok l=>some (.ok (.fl l),⟨s.loc,q.2.1.st,q.2.1.hs⟩,q.2.2)
 |.error _=>none
noncomputable def Cz{α:Type}(o:Ka)(T:Tb)(c:Cx)(D:Nat)(elt t it:PySem.Expr)(ifs:List PySem.Expr)(scope:Scope)(f:SV->Rn α):Rn α:=cond (!Lj it&&(uo t&&compOk scope c.scope)) (Ea (Uk c.cells scope.names [])>>=λcl=>o.ev c D it>>=λx=>Kj x>>=λi=>Ea i.mf>>=λN=>Bz o T ⟨nj scope c.scope,cl,c.hn,false,none⟩ D elt t ifs N>>=f) qa
noncomputable def Tv(o:Ka)(T:Tb)(c:Cx)(D:Nat)(elt t it:PySem.Expr)(ifs:List PySem.Expr)(scope:Scope):Rn SV:=Cz o T c D elt t it ifs scope λv=>Pure.pure v
noncomputable def aG:NameKind->Bool
 |.local=>true
 |.cell=>true
 |_=>false
noncomputable def bG(x:Str)(l:List (Str×NameKind)):Bool:=l.all λp=>!(aG p.2&&Oa p.1 x)
noncomputable def oj(o:Ka)(T:Tb)(c:Cx)(D:Nat)(x:Str)(elt t it:PySem.Expr)(ifs:List PySem.Expr)(scope:Scope):Rn Fl:=cond (bh c.scope.kind&&(((kd x c.scope.names).map wF).getD false&&bG x scope.names)) (Cz o T c D elt t it ifs scope λv=>Kd c x v>>=λuu=>Pure.pure .next) qa
end Rn
theorem zN{c:Cx}{N:Nat}{sx:Sx}{r:An (Option SV)}(e:Rn.lh c N sx=r)(h:r.isSome=true){G:Prop}(K:∀o,sx.st[N]?=some o->(Nat.beq o.ctorIdx 9||(Nat.beq o.ctorIdx 15||Nat.beq o.ctorIdx 16))=true->G):G:=by
 subst e
 revert h
 unfold Rn.lh
 rcases hs:sx.st[N]? with _|o
 ·exact ft
 induction o using AO.casesOn<;>first|exact λuu=>K _ hs rfl|exact ft
section
variable {θ:Th}{Γ:Bk}{ad:List Addr}{sx:Sx}{s:Shared}{X:Hp}{T:Tb}{o:Ka}
theorem AN(M:Ms θ Γ ad sx s){N:Nat}{iv:Value}(q:V θ.W ad s.heap (.ob N) iv){ao:AO}(es:sx.st[N]?=some ao)(h:(Nat.beq ao.ctorIdx 9||(Nat.beq ao.ctorIdx 15||Nat.beq ao.ctorIdx 16))=true){Q E:Value->Shared->Prop}(k:Q iv s):wpAny θ.W.m Γ.A (pyIter iv) Q E s:=by
 refine M.r.on es (λz=>by replace h:=z▸h;exact ft h) q λa ob hv ea g z=>?_
 rw[hv] at k ⊢
 induction ao using AO.casesOn with
 |li y i=>exact z.elim λla z=>wpAny_pyIter_listiter ⟨ob,g,z.2⟩ k
 |ri x n=>exact wpAny_pyIter_rangeiter (show IsRangeIter s.heap a x n 1 from g.trans (congrArg some z)) k
 |si x i=>exact z.2.elim λt hd=>wpAny_pyIter_striter_ascii ⟨ob,g,z.1,hd⟩ k
 |_=>exact ft h
noncomputable abbrev Th.dG(θ:Th)(a:Addr)(c:Cx):Th:=⟨θ.W.on (a::(a+1)::θ.W.fd),c,θ.D⟩
structure CE(θ:Th)(Γ:Bk)(ya:List Addr)(xa:Sx)(s2:Shared)(lF:List SV)(ic:List Addr)(st:St)(s3:Shared):Prop where
 ms:Ms θ Γ ya xa s2
 r:R (θ.W.on (s2.heap.objs.size::(s2.heap.objs.size+1)::θ.W.fd)) ic s3.heap st
 c:pb θ.W Sc ya s2 ic s3
 vs:∃vs n,s3.heap.get? s2.heap.objs.size=some ⟨.type "list",none,.seq (List.toArray vs) n,#[]⟩/\Vs (θ.W.on (s2.heap.objs.size::(s2.heap.objs.size+1)::θ.W.fd)) ic s3.heap lF vs
 nd:s2.heap.objs.size∉ic
 nC:s2.heap.objs.size+1∉ic
 ns:∃m o,s3.heap.Ns (s2.heap.objs.size+1) m/\s3.heap.get? (s2.heap.objs.size+1)=some o/\(o.cls=.type "frame"\/o.cls=.type "dict")
theorem eG(ok:θ.W.Ok)(hT:∀fd,lb (θ.W.on fd) T)(H:∀fd,o.Ok (θ.W.on fd))(hX:Da θ.W.mv X){elt t it:PySem.Expr}{ifs:List PySem.Expr}{scope:Scope}{pos:Pos}(M:Ms θ Γ ad sx s)(x:X ad s.heap){δ:Type}{f:SV->Rn δ}{use:Option (Value->Sem Unit)}{Q:Except Nat δ->Sx->Value->Shared->Prop}
  (K:∀lF ya xa s2 ic st hs s3,pb θ.W Γ.L ad s ya s2->CE θ Γ ya xa s2 lF ic st s3->aa (f (.fl lF) ⟨xa.loc,st,hs⟩) λr ra=>compPost θ.W.m Γ.A (Eo θ Γ ad s r ra) use (Q r ra) (.ref s2.heap.objs.size) (s2.heap.objs.size+1) (.ok .next) s3):
  aa (Rn.Cz o T θ.c θ.D elt t it ifs scope f sx) λr ra=>wpAny θ.W.m Γ.A (comprehension (.ListComp elt [⟨t,it,ifs,0⟩] scope pos) scope Γ.env (firstIterPos [⟨t,it,ifs,0⟩] pos) (newList []) false (eval it Γ.env) use) (Q r ra) (Eo θ Γ ad s r ra) s:=by
 refine aa.zn (λhc=>?_) λuu=>trivial
 have mn:=(Bool.and_eq_true _ _).mp hc
 have Dh:=(Bool.and_eq_true _ _).mp mn.2
 have hs:Rn.Lj it=false:=by simpa using mn.1
 obtain⟨hk,UW,oD,VW⟩:=xN Dh.2
 refine aa.bind (aa.Ea λcl af uu=>?_)
 obtain⟨ca,pD,nD⟩:=Qv (env:=Γ.env) (ad:=ad) M.env.cells (cs:=[]) af rfl
 replace pD:=(UF ..).symm▸pD
 refine aa.Ba (λuu uu h=>wpAny_comprehension_free (use:=use) (gs:=[]) rfl (λx=>WE hs Γ.env x) pD hk VW h) (Gl.use ((H θ.W.fd).ev θ.c θ.D X it hX Γ ad sx s M x) .refl λxv sx1 v ja s1 c1 uu M1 q1=>Gl.use (So.Kj (X:=λa h=>V θ.W a h xv v) ok (λuu uu z=>z) Γ ja sx1 s1 M1 q1) c1 λi xa iv ya s2 c2 uu M2 q2=>aa.bind (aa.Ea λN eN uu=>?_))
 replace q2:=(SV.Bg eN ..)▸q2
 refine aa.bind (aa.Ea λq e5=>?_)
 obtain⟨r5,ee,l5⟩:=q
 rcases r5 with n|lF
 ·trivial
 intro hl
 have d0:s2.heap.get? s2.heap.objs.size=none:=zk _
 have hC:(s2.heap.push {cls:=.type "list",dict:=none,data:=.seq ([]:List Value).toArray}).objs.size=s2.heap.objs.size+1:=Heap.size_push ..
 have up:∀{b:Addr} {o:Obj},s2.heap.get? b=some o->((s2.heap.push {cls:=.type "list",dict:=none,data:=.seq ([]:List Value).toArray}).push {cls:=.type "dict",data:=.dict #[]}).get? b=some o:=λe=>Heap.get?_push_of_some _ (Heap.get?_push_of_some _ e)
 have sz:((s2.heap.push {cls:=.type "list",dict:=none,data:=.seq ([]:List Value).toArray}).push {cls:=.type "dict",data:=.dict #[]}).objs.size=s2.heap.objs.size+2:=by exact(Heap.size_push ..).symm▸(Heap.size_push ..).symm▸rfl
 have gL:((s2.heap.push {cls:=.type "list",dict:=none,data:=.seq ([]:List Value).toArray}).push {cls:=.type "dict",data:=.dict #[]}).get? s2.heap.objs.size=some {cls:=.type "list",dict:=none,data:=.seq ([]:List Value).toArray}:=Heap.get?_push_of_some _ (Heap.get?_push_size _ rfl)
 have gC:((s2.heap.push {cls:=.type "list",dict:=none,data:=.seq ([]:List Value).toArray}).push {cls:=.type "dict",data:=.dict #[]}).get? (s2.heap.objs.size+1)=some {cls:=.type "dict",data:=.dict #[]}:=by refine rl hC ?_;exact Heap.get?_push_size _ rfl
 refine aa.Ba (λuu uu h=>wpAny_newObj_type (yN oD (by refine hC.symm▸?_;exact h))) ?_
 generalize (s2.heap.push {cls:=.type "list",dict:=none,data:=.seq ([]:List Value).toArray}).push {cls:=.type "dict",data:=.dict #[]}=h3 at up sz gL gC ⊢
 have k3:xb θ.W.n ya Sc s2.heap h3:=Fx.Vl (a:=s2.heap.objs.size) ⟨by refine rt sz ?_;exact Nat.le_add_right _ 2,λb o uu e=>up e⟩ d0
 have ne:∀{b:Addr} {o:Obj},s2.heap.get? b=some o->b∉[s2.heap.objs.size,s2.heap.objs.size+1]:=λe m=>by
  rcases List.mem_cons.mp m with q|m
  ·exact Nat.ne_of_lt (Heap.lt_size e) q
  ·exact Nat.ne_of_lt (Nat.lt_succ_of_lt (Heap.lt_size e)) (List.mem_singleton.mp m)
 have WW:∀(b:Addr) (o:Obj),s2.heap.get? b=some o->b∉θ.W.fd->b∉s2.heap.objs.size::(s2.heap.objs.size+1)::θ.W.fd/\h3.get? b=some o:=λb o e n=>⟨λm=>((List.mem_append (s:=[s2.heap.objs.size,s2.heap.objs.size+1])).mp m).elim (ne e) n,up e⟩
 have Ux:∀{a},s2.heap.objs.size<=a->θ.W.fr a:=λq=>Wd.fresh (W:=θ.W) M2.ib q
 have MC:Ms (θ.dG s2.heap.objs.size ⟨Rn.nj scope θ.c.scope,cl,θ.c.hn,false,none⟩) ⟨Γ.A,{scope:=relabel scope Γ.env,locals:=s2.heap.objs.size+1,globals:=Γ.env.globals,cells:=ca,qual:=Γ.env.qual,func:=none,code:=Γ.env.code,frame:=Γ.env.frame,builtins:=Γ.env.builtins},Γ.Ma⟩ ya ⟨[],xa.st,xa.hs⟩ {s2 with heap:=h3}:=by
  refine⟨ok.ib M2.ib (λa m=>(M2.r.lt a m).1) (λa q=>q.elim) k3,?_,⟨λuu=>none,⟨_,#[],0,gC,rfl,(λe m=>nomatch (Array.not_mem_empty e m)),λuu=>rfl⟩,λy=>trivial⟩,(M2.fresh (Nat.le_succ _)).1,⟨Nat.le_succ_of_le M2.gf,Ux (Nat.le_succ _)⟩,λo eo=>?_,(λq=>nomatch q),⟨tN M2.env.scope UW,M2.env.globals,M2.env.builtins,λy n e=>(nD.Bn λuu uu=>c2.g.get).df _ e,λuu q=>nomatch q⟩,M2.fr,M2.ff.next (mv:=θ.W.mv) .refl k3,M2.je,M2.un,M2.hn.next .refl k3 jh⟩
  ·refine R.fd (fd1:=θ.W.fd) (W:=θ.W) WW (by refine sz.symm▸?_;exact Nat.le_add_right _ 2) (λa m o e=>up e) (λa m=>?_) M2.r
   refine rt sz ?_
   rcases List.mem_cons.mp m with q|m
   ·refine rt q ?_;exact⟨(Ux (Nat.le_refl _)).ff,Nat.lt_succ_of_lt (Nat.lt_succ_self _)⟩
   ·rcases List.mem_cons.mp m with q|m
    ·refine rt (q ..) ?_;exact⟨(Ux (Nat.le_succ _)).ff,Nat.lt_succ_self _⟩
    ·exact⟨(M2.r.lf a m).1,Nat.lt_of_lt_of_le (M2.r.lf a m).2 (Nat.le_add_right _ 2)⟩
  ·exact .inr (sj eo gC▸rfl)
 refine aa.Ba (λr ra h=>?_) (aa.Nk (P:=λ(p:List Addr×Shared)=>CE θ Γ ya xa s2 lF p.1 ee.st p.2) λp ce=>K lF ya xa s2 p.1 ee.st ee.hs p.2 c2 ce)
 have lp:=wN (θ:=θ.dG s2.heap.objs.size ⟨Rn.nj scope θ.c.scope,cl,θ.c.hn,false,none⟩) (iter:=it) (scope:=scope) (pos:=pos) (ok.on _) (hT _) (H _) (List.mem_cons_self ..) (Nat.le_succ _) (Nat.le_refl _) (Ux (Nat.le_refl _)) (Nat.ne_of_lt (Nat.lt_succ_self s2.heap.objs.size)) Dh.1 e5 hl
  ⟨MC,q2,⟨[],0,gL,rfl⟩,(M2.fresh (Nat.le_refl _)).1,.refl,k3,rfl⟩ (R:=compPost θ.W.m Γ.A (Eo θ Γ ad s r ra) use (Q r ra) (.ref s2.heap.objs.size) (s2.heap.objs.size+1)) λic s3 I3=>h ⟨ic,s3⟩ ⟨M2,I3.ms.r,⟨I3.c.g,I3.c.k,I3.c.e⟩,I3.vs,I3.nd,I3.ms.nL,I3.ms.lo.elim λm lo=>lo.1.elim λo y=>y.elim λes y=>y.elim λep y=>⟨m,o,⟨o,es,ep,y⟩,y.1,I3.ms.lT o y.1⟩⟩
 refine codeAny_compStart_list lp ?_
 refine zN (c:=⟨Rn.nj scope θ.c.scope,cl,θ.c.hn,false,none⟩) (N:=N) (sx:=⟨[],xa.st,xa.hs⟩) rfl ?_ λao es hk=>AN MC q2 es hk lp
 have e5:(Rn.lh ⟨Rn.nj scope θ.c.scope,cl,θ.c.hn,false,none⟩ N>>=_) (⟨[],xa.st,xa.hs⟩:Sx)=some _:=e5
 change Rn.bind _ _ _=_ at e5
 unfold Rn.bind at e5
 revert e5
 rcases Rn.lh ⟨Rn.nj scope θ.c.scope,cl,θ.c.hn,false,none⟩ N ⟨[],xa.st,xa.hs⟩ with _|_
 ·exact Fa
 exact λuu=>rfl
end
end
section
variable {kz:Nat}
theorem BN(elt t it:PySem.Expr)(ifs:List PySem.Expr)(scope:Scope)(pos:Pos)(env:PySem.Env)(u:Value->Sem Unit):evalThenUse (.ListComp elt [⟨t,it,ifs,0⟩] scope pos) env u=
  (comprehension (.ListComp elt [⟨t,it,ifs,0⟩] scope pos) scope env (firstIterPos [⟨t,it,ifs,0⟩] pos) (newList []) false (eval it env) (some u)>>=λuu=>Pure.pure ()):=rfl
theorem CN(x:Str)(np:Pos)(env:PySem.Env):(λv=>assignAll v ((assignEach [.Name x np] env).map (·.2)))=λv=>(standAt np>>=λuu=>PySem.bindName env x v):=rfl
theorem xb.fresh{ad:List Addr}{L:Addr->Prop}{h h1 h':Heap}{a:Addr}(k:xb kz ad L h h1)(x:Fx a h1 h')(n:∀b o,h.get? b=some o->b≠a):xb kz ad L h h':=
 ⟨Nat.le_trans k.size x.size,λb o e n1 n2 n4=>(k.keep b o e n1 n2 n4).imp λo' y=>⟨x.keep b o' (n b o e) y.1,y.2⟩,λb o l e n1 n2=>x.keep b o (n b o e) (k.old b o l e n1 n2),λb o q e=>(k.own b o q e).imp λo' y=>⟨x.keep b o' (n b o e) y.1,y.2⟩,
  λT o ts fl e n1 n2 h1 h2 h3=>(k.tb T o ts fl e n1 n2 h1 h2 h3).imp λo' y=>y.imp λQc y=>y.imp λVd y=>⟨x.keep T o' (n T o e) y.1,y.2⟩⟩
theorem iG{x:Str}:∀{l:List (Str×NameKind)},Rn.bG x l=true->(l.any λ(n,k)=>n==x&&(k==.local||k==.cell))=false
 |[],_=>rfl
 |(n,k)::r,h=>by
  have h:=(Bool.and_eq_true _ _).mp h
  refine rt (List.any_cons ..) (rt (iG h.2 ..) (rt (Bool.or_false ..) ?_))
  have h1:(!(Rn.aG k&&Oa n x))=true:=h.1
  refine(?_:(n==x&&(k==.local||k==.cell))=false)
  have ne:(!(true&&Oa n x))=true->(n==x)=false:=λq=>beq_eq_false_iff_ne.mpr λz=>by replace q:=(Je.mpr z ..)▸q;exact ft q
  induction k using NameKind.casesOn<;>first|(refine rt (ne h1 ..) ?_;rfl)|exact Bool.and_false _
section
variable {θ:Th}{Γ:Bk}{ya ic:List Addr}{xa:Sx}{s2 s3:Shared}{lF:List SV}{st:St}{X:Hp}{T:Tb}{o:Ka}
theorem Vv{h:Heap}(b:Addr)(o:Obj)(e:h.get? b=some o):b≠h.objs.size+1:=Nat.ne_of_lt (Nat.lt_succ_of_lt (Heap.lt_size e))
theorem CE.pc(ce:CE θ Γ ya xa s2 lF ic st s3){h':Heap}(sb:Heap.SameBut (s2.heap.objs.size+1) s3.heap h'):Pc θ.W ya s2 st (λa h=>V θ.W a h (.fl lF) (.ref s2.heap.objs.size)) {s3 with heap:=h'}:=by
 have fx:Fx (s2.heap.objs.size+1) s3.heap h':=.ze sb
 have Hd:∀(b:Addr) (o:Obj),s3.heap.get? b=some o->b∉s2.heap.objs.size::(s2.heap.objs.size+1)::θ.W.fd->b∉θ.W.fd/\h'.get? b=some o:=λb o e n=>⟨λm=>n (List.mem_cons_of_mem _ (List.mem_cons_of_mem _ m)),fx.keep b o (λq=>n (q▸List.mem_cons_of_mem _ (List.mem_cons_self ..))) e⟩
 exact ce.vs.elim λvs y=>y.elim λn y=>⟨ic,⟨ce.c.g,ce.c.k.fresh fx Vv,by exact(ce.c.e ..).symm▸rfl⟩,R.fd (fd2:=θ.W.fd) (W:=θ.W) Hd fx.size (λa m o e=>fx.keep a o (λq=>ce.nC (q▸m)) e) (λa m=>⟨(ce.ms.r.lf a m).1,Nat.lt_of_lt_of_le (ce.ms.r.lf a m).2 (Nat.le_trans ce.c.k.size fx.size)⟩) ce.r,
  .mk s2.heap.objs.size vs n (fx.keep _ _ (Nat.ne_of_lt (Nat.lt_succ_self _)) y.1) (Vs.fd (fd2:=θ.W.fd) (W:=θ.W) Hd y.2) ⟨ce.nd,(ce.ms.fresh (Nat.le_refl _)).2⟩⟩
theorem So.Tv(ok:θ.W.Ok)(hT:∀fd,lb (θ.W.on fd) T)(H:∀fd,o.Ok (θ.W.on fd))(hX:Da θ.W.mv X){elt t it:PySem.Expr}{ifs:List PySem.Expr}{scope:Scope}{pos:Pos}:
  So θ X (Rv θ.W) (Rn.Tv o T θ.c θ.D elt t it ifs scope) (λenv=>eval (.ListComp elt [⟨t,it,ifs,0⟩] scope pos) env):=So.Nb (λenv=>arm_eval_ListComp elt [⟨t,it,ifs,0⟩] scope pos env) λΓ ad sx s M x=>
 eG (use:=none) (Q:=λr ra v s'=>Qo θ Γ ad s (Rv θ.W) r ra v s') ok hT H hX M x λlF ya xa s2 ic st hs s3 c ce=>aa.ok (ce.ns.elim λm y=>y.elim λo y=>⟨m,y.1,λh' sb=>⟨.fl lF,rfl,(ce.ms.pc ok (ce.pc sb)).Pa c⟩⟩)
theorem CE.Ji(ok:θ.W.Ok)(ce:CE θ Γ ya xa s2 lF ic st s3)(hs:List Jd):Ms ⟨θ.W.on ((s2.heap.objs.size+1)::θ.W.fd),θ.c,θ.D⟩ Γ ic ⟨xa.loc,st,hs⟩ s3:=by
 have M:=ce.ms
 have kw:=ce.c.k.Jy M.nL M.lT
 have H0:∀(b:Addr) (o:Obj),s2.heap.get? b=some o->b∉θ.W.fd->b∉(s2.heap.objs.size+1)::θ.W.fd/\s2.heap.get? b=some o:=λb o e n=>⟨λm=>(List.mem_cons.mp m).elim (Vv b o e) n,e⟩
 have H1:∀(b:Addr) (o:Obj),s3.heap.get? b=some o->b∉s2.heap.objs.size::(s2.heap.objs.size+1)::θ.W.fd->b∉(s2.heap.objs.size+1)::θ.W.fd/\s3.heap.get? b=some o:=λb o e n=>⟨λm=>n (List.mem_cons_of_mem _ m),e⟩
 exact M.lo.obj.elim λoL z=>z.elim λes z=>z.elim λn z=>⟨ok.ib M.ib (λa m=>(M.r.lt a m).1) (λa q=>q.elim) ce.c.k,R.fd (W:=θ.W) H1 (Nat.le_refl _) (λuu uu uu e=>e) (λa m=>ce.r.lf a (List.mem_cons_of_mem _ m)) ce.r,
  Lo.Ba (W:=θ.W.on ((s2.heap.objs.size+1)::θ.W.fd)) ce.c.g kw M.ke (λm hn=>(ce.c.k.keep _ oL z.1 M.nL id (by rcases M.lT oL z.1 with q|q<;>refine rt q ?_<;>exact λe=>nomatch e)).elim λo' y=>y.2.ns z.1 y.1 hn) (Lo.fd (fd1:=θ.W.fd) (W:=θ.W) H0 (λuu e=>e) M.lo),ce.c.g.not z.1 M.nL,M.lL,λo' e'=>(kw.own _ oL rfl z.1).elim λo2 y=>by
   refine rt (sj e' y.1 ..) (rt (y.2.1 ..) ?_)
   exact M.lT oL z.1,M.Yg,M.env.next ce.c.g,M.fr,M.ff.next ce.c.g ce.c.k,M.je,M.un,M.hn.next ce.c.g kw M.ke⟩
theorem So.oj(ok:θ.W.Ok)(hT:∀fd,lb (θ.W.on fd) T)(H:∀fd,o.Ok (θ.W.on fd))(hX:Da θ.W.mv X){x:Str}{np:Pos}{elt t it:PySem.Expr}{ifs:List PySem.Expr}{scope:Scope}{cpos pos:Pos}(hl:np.line=cpos.line):
  So θ X (Fv θ.W) (Rn.oj o T θ.c θ.D x elt t it ifs scope) (λenv=>exec (.Assign [.Name x np] (.ListComp elt [⟨t,it,ifs,0⟩] scope cpos) pos) env):=So.yb λhc=>λΓ ad sx s M x0=>by
 have mn:=(Bool.and_eq_true _ _).mp hc
 have Dh:=(Bool.and_eq_true _ _).mp mn.2
 have hk:=aF mn.1
 have hx:kd x θ.c.scope.names=some .local:=by
  have:=Dh.1
  revert this
  rcases kd x θ.c.scope.names with _|k
  ·exact ft
  induction k using NameKind.casesOn<;>first|exact λuu=>rfl|exact ft
 have XW:swapsWithSole [.Name x np] (.ListComp elt [⟨t,it,ifs,0⟩] scope cpos) pos.line Γ.env=Pure.pure true:=by
  refine(?_:swapsWith (.ListComp elt [⟨t,it,ifs,0⟩] scope cpos) (some (.Name x np)) pos.line Γ.env=Pure.pure true)
  unfold swapsWith
  have k1:(Γ.env.blockKind==.function)=true:=by
   unfold Env.blockKind
   refine rt (M.env.scope ..) (rt (hk ..) ?_)
   rfl
  have k2:(Γ.env.kindOf x==some .local)=true:=by unfold Env.kindOf;refine rt (M.env.scope ..) (rl (uq ..) (rt (hx ..) ?_));rfl
  have k3:(np.line==cpos.line)=true:=by refine rt hl ?_;exact beq_self_eq_true _
  dsimp only [pure_bind,PySem.Expr.pos]
  refine rt (k1 ..) (rt (k2 ..) (rt (k3 ..) (rt (iG Dh.2 ..) ?_)))
  rfl
 refine aa.Ba (λr ra h=>?_) (eG (pos:=cpos) (use:=some λv=>standAt np>>=λuu=>PySem.bindName Γ.env x v) (Q:=λr ra uu s'=>Qo θ Γ ad s (Fv θ.W) r ra .next s') ok hT H hX M x0 λlF ya xa s2 ic st hs s3 c ce=>?_)
 ·refine(?_:wpAny _ _ (exec _ Γ.env) _ _ s)
  refine rt (arm_exec_Assign ..) (rt (XW ..) (rt (CN ..) (rt (BN ..) ?_)))
  refine wpAny_bind (wpAny_standAt (wpAny_bind (wpAny_pure ?_)))
  refine rt (if_pos rfl ..) ?_
  exact wpAny_bind (wpAny_bind (wpAny_mono h (λuu uu z=>wpAny_pure (wpAny_pure z)) λuu uu z=>z))
 ·have kw:=ce.c.k.Jy ce.ms.nL ce.ms.lT
  have H1:∀(b:Addr) (o:Obj),s3.heap.get? b=some o->b∉s2.heap.objs.size::(s2.heap.objs.size+1)::θ.W.fd->b∉(s2.heap.objs.size+1)::θ.W.fd/\s3.heap.get? b=some o:=λb o e n=>⟨λm=>n (List.mem_cons_of_mem _ m),e⟩
  have hv:V (θ.W.on ((s2.heap.objs.size+1)::θ.W.fd)) ic s3.heap (.fl lF) (.ref s2.heap.objs.size):=ce.vs.elim λvs y=>y.elim λn y=>.mk s2.heap.objs.size vs n y.1 (Vs.fd (W:=θ.W) H1 y.2) ⟨ce.nd,λm=>(List.mem_cons.mp m).elim (λq=>absurd q (Nat.ne_of_lt (Nat.lt_succ_self _))) (ce.ms.fresh (Nat.le_refl _)).2⟩
  refine aa.Ba (λr ra h=>wpAny_bind (wpAny_standAt h)) (Gl.vz (θ:=⟨θ.W.on ((s2.heap.objs.size+1)::θ.W.fd),θ.c,θ.D⟩) fg.Kd (So.bindName (θ:=⟨θ.W.on ((s2.heap.objs.size+1)::θ.W.fd),θ.c,θ.D⟩) (X:=λa h=>V (θ.W.on ((s2.heap.objs.size+1)::θ.W.fd)) a h (.fl lF) (.ref s2.heap.objs.size)) (ok.on _) (λuu uu z=>z) Γ ic _ s3 (ce.Ji ok hs) hv) λXp uu Wg s4 c4 M4 uu=>aa.ok ?_)
  obtain⟨m,oC,YW,eC,cC⟩:=ce.ns
  refine ce.ms.lo.obj.elim λoL z=>z.elim λes z=>z.elim λn z=>?_
  have RJ:Γ.env.locals≠s2.heap.objs.size+1:=Vv _ _ z.1
  refine⟨m,(c4.k.keep _ oC eC ce.nC (λq=>RJ q.symm) (by rcases cC with q|q<;>refine rt q ?_<;>exact λe=>nomatch e)).elim λo' y=>y.2.ns eC y.1 YW,λh' sb=>⟨.next,rfl,?_⟩⟩
  have fx:Fx (s2.heap.objs.size+1) s4.heap h':=.ze sb
  have H2:∀(b:Addr) (o:Obj),s4.heap.get? b=some o->b∉(s2.heap.objs.size+1)::θ.W.fd->b∉θ.W.fd/\h'.get? b=some o:=λb o e n=>⟨λm=>n (List.mem_cons_of_mem _ m),fx.keep b o (λq=>n (q▸List.mem_cons_self ..)) e⟩
  have SJ:xb θ.W.n ya Γ.L s2.heap s4.heap:=xb.trans ce.c.g kw c4.k
  have TJ:pb θ.W Γ.L ya s2 Wg {s4 with heap:=h'}:=⟨ce.c.g.trans c4.g ce.c.k.size,SJ.fresh fx Vv,by exact(c4.e ..).symm▸(ce.c.e ..).symm▸rfl⟩
  refine Po.Pa c ⟨Wg,TJ,ce.ms.next ok TJ ?_ ?_,rfl⟩
  ·exact R.fd (fd1:=(s2.heap.objs.size+1)::θ.W.fd) (fd2:=θ.W.fd) (W:=θ.W) H2 fx.size (λa m o e=>fx.keep a o (λq=>c4.g.not eC ce.nC (q▸m)) e) (λa m=>⟨(ce.ms.r.lf a m).1,Nat.lt_of_lt_of_le (ce.ms.r.lf a m).2 (Nat.le_trans SJ.size fx.size)⟩) M4.r
  ·exact Lo.fd (fd1:=(s2.heap.objs.size+1)::θ.W.fd) (fd2:=θ.W.fd) (W:=θ.W) H2 (λo e=>fx.keep _ o RJ e) M4.lo
end
end
section
variable {kz:Nat}
structure Dz where
 elt:PySem.Expr
 t:PySem.Expr
 it:PySem.Expr
 ifs:List PySem.Expr
 scope:Scope
 pos:Pos
noncomputable def DN(elt:PySem.Expr)(scope:Scope)(pos:Pos)(gs:List Comprehension):Option Dz:=match gs with
 |[g]=>cond (decide (g.is_async=0)) (some ⟨elt,g.target,g.iter,g.ifs,scope,pos⟩) none
 |_=>none
noncomputable def Go:PySem.Expr->Option Dz
 |.ListComp elt gs scope pos=>DN elt scope pos gs
 |_=>none
theorem jG{v:PySem.Expr}{q:Dz}(e:Go v=some q):v=.ListComp q.elt [⟨q.t,q.it,q.ifs,0⟩] q.scope q.pos:=by
 induction v using PySem.Expr.casesOn with
 |ListComp elt gs scope pos=>
  rcases gs with _|⟨g,r⟩
  ·exact Fa e
  rcases r with _|⟨_,_⟩
  ·obtain⟨t,it,ifs,a⟩:=g
   have e:cond (decide (a=0)) (some ⟨elt,t,it,ifs,scope,pos⟩) none=some q:=e
   revert e
   rcases h:decide (a=0) with _|_
   ·exact Fa
   intro e
   cases e
   exact rt (of_decide_eq_true h ..) rfl
  exact Fa e
 |_=>exact Fa e
def dc(W:Wd)(c:Cx)(D:Nat)(s:Stmt)(loc:Lc)(st:St)(f:Except Nat Fl)(ub:Lc)(db:St):Prop:=∀fd,Ev ⟨W.on fd,c,D⟩ (λuu uu=>True) (Fv (W.on fd)) (λenv=>exec s env) ⟨loc,st,[]⟩ f ⟨ub,db,[]⟩
namespace Rn
noncomputable def EN(o:Ka)(T:Tb)(c:Cx)(D:Nat)(t v:PySem.Expr):Rn Fl:=match Pq t with
 |some us=>Ju o T c D us v
 |none=>match Go v with
  |some q=>match tg t with
   |some (.name x)=>cond (Nat.beq t.pos.line q.pos.line) (oj o T c D x q.elt q.t q.it q.ifs q.scope) qa
   |_=>qa
  |none=>Yn o T c D t v
noncomputable def Wv(o:Ka)(T:Tb)(c:Cx)(D:Nat)(ts:List PySem.Expr)(v:PySem.Expr):Rn Fl:=match ts with
 |[t]=>EN o T c D t v
 |_=>qa
noncomputable def FN(o:Ka)(T:Tb)(c:Cx)(D:Nat):Option PySem.Expr->Rn Fl
 |some e=>Mv o T c D e
 |none=>Ov c
noncomputable def pj(W:Wd)(o:Ka)(T:Tb)(c:Cx)(D:Nat):Stmt->Rn Fl
 |.Expr e _=>Ye o c D e
 |.Return e _=>zu o c D e
 |.If t b r _=>Tc o c D t b r
 |.Assign ts v _=>Wv o T c D ts v
 |.Try b hs e f _=>Dv o T c D b hs e f
 |.AugAssign t op v _=>Au o T c D t op v
 |.While t b r _=>Hu o c D t b r
 |.For t it b r _=>Iu o T c D t it b r
 |.Raise e x _=>cond x.isNone (FN o T c D e) qa
 |.FunctionDef name args body ds r ts scope x bind pos=>cond (ds.isEmpty&&(r.isNone&&(ts.isEmpty&&(x.isNone&&Oa bind name)))) (Pv T W c name args body scope pos) qa
 |.Pass _=>Pure.pure .next
 |.Break _=>Pure.pure .brk
 |.Continue _=>Pure.pure .cont
 |_=>qa
noncomputable def ir(W:Wd)(o:Ka)(T:Tb)(c:Cx)(D:Nat)(s:Stmt):Rn Fl:=cond (Nat.beq s.ctorIdx 24) (pj W o T c D s) (hint s.pos>>=λd=>match d with
  |none=>pj W o T c D s
  |some (.mq f loc st)=>λx=>some (f,⟨loc,st,x.hs⟩,[dc W c D s x.loc x.st f loc st])
  |some _=>qa)
noncomputable def jr(o:Ka)(T:Tb)(c:Cx)(D:Nat)(e:PySem.Expr):Rn SV:=match Go e with
 |some q=>Tv o T c D q.elt q.t q.it q.ifs q.scope
 |none=>wv o T c D e
noncomputable def Ho(W:Wd)(o:Ka)(T:Tb)(c:Cx)(D:Nat):List Stmt->Rn Fl
 |[]=>Pure.pure .next
 |s::r=>ir W o T c D s>>=λf=>cond (Cv f) (Ho W o T c D r) (Pure.pure f)
noncomputable def Ez(o:Ka)(T:Tb)(hn:Hn)(D:Nat)(a:Addr)(vs:List SV):Rn SV:=match T.zg a with
 |some f=>LF T o hn D a f vs
 |none=>match T.pe a with
  |some f=>MF T o hn D a f vs
  |none=>cg T o hn D a vs
noncomputable def GN(o:Ka)(T:Tb)(hn:Hn)(D:Nat)(f:SV)(vs:List SV):Rn SV:=match f with
 |.tp a=>Ez o T hn D a vs
 |.ob n=>RF o hn D n vs
 |_=>qa
noncomputable def lG(W:Wd)(o:Ka)(T:Tb)(hn:Hn)(D:Nat)(p:Pos)(f:SV)(vs:List SV):Rn SV:=hint p>>=λd=>match d with
 |none=>GN o T hn D f vs
 |some (.out r st)=>λs=>some (r,{s with st:=st},[∀fd,ba (W.on fd) hn D f vs s.st r st])
 |some _=>qa
noncomputable def Xa(W:Wd)(T:Tb):Nat->Ka
 |0=>⟨λuu uu uu=>qa,λuu uu uu=>qa,λuu uu uu=>qa,λuu uu uu uu uu=>qa⟩
 |n+1=>⟨jr (Xa W T n) T,yv (Xa W T n) T,Ho W (Xa W T n) T,lG W (Xa W T n) T⟩
end Rn
section
variable {θ:Th}{X:Hp}{T:Tb}{o:Ka}
theorem So.nG{α β δ:Type}{rep:β->α->Hp}{m:Rn δ}{f:δ->Rn β}{t:PySem.Env->Sem α}(h:m=Rn.qa):So θ X rep (m>>=f) t:=by
 refine rt h ?_
 exact λuu uu uu uu uu uu=>trivial
theorem So.HN(H:o.Ok θ.W)(hX:Da θ.W.mv X)(e:PySem.Expr)(h:∀env w,isTrue e env w=(w>>=λv=>standAt e.pos>>=λuu=>PySem.holding [v] (truthy v))):So θ X Bv (o.ev θ.c θ.D e>>=λv=>Rn.kh v) (λenv=>isTrue e env (eval e env)):=
 So.Nb (λenv=>h env _) (So.bind hX (H.Sb e hX) λv w=>So.Jb (So.holding (So.kh λuu uu z=>z.2)))
theorem So.IN(ok:θ.W.Ok)(hT:lb θ.W T)(H:o.Ok θ.W)(hX:Da θ.W.mv X){l r:PySem.Expr}{op:CmpOp}{p:Pos}:So θ X Bv (Rn.Bm o T θ.c θ.D l op r p>>=λv=>Rn.kh v) (λenv=>isTrue (.Compare l [op] [r] p) env (eval (.Compare l [op] [r] p) env)):=by
 rcases hs:Rn.Lj r with _|_
 ·refine So.Nb (λenv=>?_) (So.bind hX (So.Bm ok hT H hX) λv w=>So.holding (vs:=[w]) (So.kh λuu uu z=>z.2))
  refine rt (arm_isTrue_Compare ..) (rt (arm_eval_Compare ..) ?_)
  refine(?_:(eval l env>>=λa=>testChain p a [op] (markedEach [op] [r] [eval r env]))=((eval l env>>=λa=>compareChain p a [op] (markedEach [op] [r] [eval r env]))>>=λv=>PySem.holding [v] (truthy v)))
  rw[sF hs,bind_assoc]
  refine congrArg _ (funext λa=>?_)
  refine(?_:(PySem.holding [a] (eval r env)>>=λrv=>standAt p>>=λuu=>PySem.operate [a,rv] (compareOp op a rv)>>=λc=>PySem.holding [c] (truthy c))=((PySem.holding [a] (eval r env)>>=λrv=>standAt p>>=λuu=>PySem.operate [a,rv] (compareOp op a rv))>>=λv=>PySem.holding [v] (truthy v)))
  simp only [bind_assoc]
 exact So.nG (by unfold Rn.Bm;refine rt hs ?_;rfl)
theorem So.yv(ok:θ.W.Ok)(hT:lb θ.W T)(H:o.Ok θ.W)(hX:Da θ.W.mv X)(e:PySem.Expr):So θ X Bv (Rn.yv o T θ.c θ.D e) (λenv=>isTrue e env (eval e env)):=by
 have d:=So.HN H hX e
 induction e using PySem.Expr.casesOn with
 |UnaryOp op x p=>
  induction op using UnaryOp.casesOn with
  |Not=>exact So.Nb (λenv=>arm_isTrue_UnaryOp x p env _) (So.nq hX (H.Vn x hX) λb=>So.pure λuu uu uu=>rfl)
  |_=>exact d λuu uu=>rfl
 |BoolOp op l p=>exact So.Nb (λenv=>arm_isTrue_BoolOp op l p env _) (So.km H hX)
 |Compare l Xa rs p=>
  have n:∀{m:Rn SV},m=Rn.qa->So θ X Bv (m>>=λv=>Rn.kh v) (λenv=>isTrue (.Compare l Xa rs p) env (eval (.Compare l Xa rs p) env)):=So.nG
  rcases Xa with _|⟨op,Xa⟩
  ·exact n rfl
  rcases Xa with _|⟨_,_⟩
  ·rcases rs with _|⟨r,rs⟩
   ·exact n rfl
   rcases rs with _|⟨_,_⟩
   ·exact So.IN ok hT H hX
   exact n rfl
  exact n rfl
 |IfExp t a b p=>exact So.qa
 |_=>exact d λuu uu=>rfl
theorem So.jr(ok:θ.W.Ok)(hT:∀fd,lb (θ.W.on fd) T)(H:∀fd,o.Ok (θ.W.on fd))(hX:Da θ.W.mv X)(e:PySem.Expr):So θ X (Rv θ.W) (Rn.jr o T θ.c θ.D e) (λenv=>eval e env):=by
 unfold Rn.jr
 rcases h:Go e with _|q
 ·exact So.wv ok (hT θ.W.fd) (H θ.W.fd) hX _
 refine rt (jG h ..) ?_
 exact So.Tv ok hT H hX
theorem So.Wv(ok:θ.W.Ok)(hT:∀fd,lb (θ.W.on fd) T)(H:∀fd,o.Ok (θ.W.on fd))(hX:Da θ.W.mv X)(ts:List PySem.Expr)(v:PySem.Expr)(p:Pos):So θ X (Fv θ.W) (Rn.Wv o T θ.c θ.D ts v) (λenv=>exec (.Assign ts v p) env):=by
 rcases ts with _|⟨t,r⟩
 ·exact So.qa
 rcases r with _|⟨_,_⟩
 ·have g:Rn.Pq t=none->So θ X (Fv θ.W) (match Go v with
    |some q=>match tg t with
     |some (.name x)=>cond (Nat.beq t.pos.line q.pos.line) (Rn.oj o T θ.c θ.D x q.elt q.t q.it q.ifs q.scope) Rn.qa
     |_=>Rn.qa
    |none=>Rn.Yn o T θ.c θ.D t v) (λenv=>exec (.Assign [t] v p) env):=λuu=>by
   rcases h:Go v with _|q
   ·exact So.Yn ok (hT θ.W.fd) (H θ.W.fd) hX
   refine rt (jG h ..) ?_
   rcases ht:tg t with _|g
   ·exact So.qa
   refine Nq (P:=λt g=>So θ X (Fv θ.W) (match some g with
    |some (.name x)=>cond (Nat.beq t.pos.line q.pos.line) (Rn.oj o T θ.c θ.D x q.elt q.t q.it q.ifs q.scope) Rn.qa
    |_=>Rn.qa) (λenv=>exec (.Assign [t] (.ListComp q.elt [⟨q.t,q.it,q.ifs,0⟩] q.scope q.pos) p) env)) ht (λx np=>?_) (λuu uu uu=>So.qa) λuu uu uu=>So.qa
   exact So.yb λhl=>So.oj ok hT H hX (Nat.eq_of_beq_eq_true hl)
  induction t using PySem.Expr.casesOn with
  |Tuple us u tp=>exact So.Ju ok (hT θ.W.fd) (H θ.W.fd) hX
  |_=>exact g rfl
 exact So.qa
theorem So.pj(W0:Wd)(hq:W0.qn=θ.W.qn)(ok:θ.W.Ok)(hT:∀fd,lb (θ.W.on fd) T)(H:∀fd,o.Ok (θ.W.on fd))(hX:Da θ.W.mv X)(s:Stmt):So θ X (Fv θ.W) (Rn.pj W0 o T θ.c θ.D s) (λenv=>exec s env):=by
 have Xs:lb θ.W T:=hT θ.W.fd
 have H0:o.Ok θ.W:=H θ.W.fd
 induction s using PySem.Stmt.casesOn with
 |Expr e p=>exact So.Ye H0 hX
 |Return e p=>exact So.zu H0 hX
 |If t b r p=>exact So.Tc H0 hX
 |Assign ts v p=>exact So.Wv ok hT H hX ts v p
 |Try b hs e f p=>exact So.Dv ok Xs H0
 |AugAssign t op v p=>exact So.Au ok Xs H0 hX
 |While t b r p=>exact So.Hu ok H0
 |For t it b r p=>exact So.Iu ok Xs H0 hX
 |Raise e x p=>
  rcases x with _|_
  ·rcases e with _|e
   ·exact So.Ov ok
   exact So.Mv ok Xs H0 hX
  exact So.qa
 |FunctionDef name args body ds r ts scope x bind pos=>
  rcases ds with _|⟨_,_⟩
  ·rcases r with _|_
   ·rcases ts with _|⟨_,_⟩
    ·rcases x with _|_
     ·exact So.yb λh=>Je.mp h▸So.Pv ok Xs W0 hq
     exact So.qa
    exact So.qa
   exact So.qa
  exact So.qa
 |Pass p=>exact So.Nb (λenv=>arm_exec_Pass _ env) (So.Jb So.next)
 |Break p=>exact So.Nb (λenv=>arm_exec_Break _ env) (So.Jb (So.pure (b:=Fl.brk) (v:=Flow.brk) λuu uu uu=>rfl))
 |Continue p=>exact So.Nb (λenv=>arm_exec_Continue _ env) (So.Jb (So.pure (b:=Fl.cont) (v:=Flow.cont) λuu uu uu=>rfl))
 |_=>exact So.qa
theorem So.ir(W0:Wd)(fd:List Addr)(hW:θ.W=W0.on fd)(ok:θ.W.Ok)(hT:∀fd,lb (θ.W.on fd) T)(H:∀fd,o.Ok (θ.W.on fd))(hX:Da θ.W.mv X)(s:Stmt):So θ X (Fv θ.W) (Rn.ir W0 o T θ.c θ.D s) (λenv=>exec s env):=by
 have g:=So.pj W0 (by exact rt hW rfl) ok hT H hX s
 unfold Rn.ir
 rcases Nat.beq s.ctorIdx 24 with _|_
 ·exact So.hint λd=>by
   rcases d with _|d
   ·exact g
   induction d using Hd.casesOn with
    |mq f loc st=>
     exact λΓ ad sx s0 M uu=>aa.Ua λh=>by
      have h:=h fd
      obtain⟨W,c,D⟩:=θ
      cases(show W=W0.on fd from hW)
      exact wpAny_mono (h Γ ad s0 (M.as rfl rfl) trivial) (λuu uu=>Exists.imp λuu z=>⟨z.1,z.2.as rfl rfl⟩) λuu uu=>Exists.imp λuu z=>⟨z.1,z.2.as rfl rfl⟩
    |_=>exact So.qa
 exact g
theorem JN(s:Stmt)(r:List Stmt)(env:PySem.Env):execs (s::r) env=(exec s env>>=λf=>match f with|.next=>execs r env|f=>Pure.pure f):=rfl
theorem So.Ho(W0:Wd)(fd:List Addr)(hW:θ.W=W0.on fd)(ok:θ.W.Ok)(hT:∀fd,lb (θ.W.on fd) T)(H:∀fd,o.Ok (θ.W.on fd)):∀(l:List Stmt) {X:Hp},Da θ.W.mv X->So θ X (Fv θ.W) (Rn.Ho W0 o T θ.c θ.D l) (λenv=>execs l env)
 |[],X,hX=>So.next
 |s::r,X,hX=>So.Nb (λenv=>JN s r env) (So.bind hX (So.ir W0 fd hW ok hT H hX s) λf v=>by
  induction f using Fl.casesOn with
  |next=>
   exact So.ye (P:=v=.next) (λuu uu z=>z.2) λe=>by
    subst e
    exact So.Ho W0 fd hW ok hT H r (hX.and (Fv.Ba _ _ _))
  |brk=>
   exact So.ye (P:=v=.brk) (λuu uu z=>z.2) λe=>by
    subst e
    exact So.pure (b:=Fl.brk) (v:=Flow.brk) λuu uu z=>z.2
  |cont=>
   exact So.ye (P:=v=.cont) (λuu uu z=>z.2) λe=>by
    subst e
    exact So.pure (b:=Fl.cont) (v:=Flow.cont) λuu uu z=>z.2
  |ret x=>
   exact So.ye (P:=∃w,v=.ret w) (λuu uu z=>Exists.imp (λuu y=>y.1) z.2) λe=>e.elim λw e=>by
    subst e
    exact So.pure (b:=Fl.ret x) (v:=Flow.ret w) λuu uu z=>z.2)
end
section
variable {W:Wd}{T:Tb}{o:Ka}
theorem KN(W0:Wd)(fd:List Addr)(hW:W=W0.on fd)(ok:W.Ok)(hT:lb W T)(H:o.Ok W){hn:Hn}{D:Nat}{p:Pos}{f:SV}{vs:List SV}{sx:Sx}:aa (Rn.lG W0 o T hn D p f vs sx) λr ra=>ra.loc=sx.loc/\ba W hn D f vs sx.st r ra.st:=aa.hint λd hs=>by
 rcases d with _|d
 ·induction f using SV.casesOn with
  |tp a=>
   refine(?_:aa (Rn.Ez o T hn D a vs _) _)
   unfold Rn.Ez
   rcases hc:T.zg a with _|g
   ·rcases hx:T.pe a with _|g
    ·exact Ly ok H hT.fn
    exact dN ok hT H (hT.pe _ _ hx)
   exact YM ok hT H (hT.zg _ _ hc)
  |ob n=>exact sN ok H
  |_=>trivial
 induction d using Hd.casesOn with
  |out r st=>exact aa.Ua λh=>⟨rfl,hW▸h fd⟩
  |_=>trivial
theorem Pj(ok:W.Ok)(hT:∀fd,lb (W.on fd) T):∀(n:Nat) (fd:List Addr),(Rn.Xa W T n).Ok (W.on fd)
 |0,_=>⟨λuu uu uu uu uu=>So.qa,λuu uu uu uu uu=>So.qa,λuu uu uu uu uu=>So.qa,λuu uu uu uu uu uu=>trivial⟩
 |n+1,fd=>⟨λc D uu e hX=>So.jr (θ:=⟨W.on fd,c,D⟩) (ok.on fd) hT (λFd=>Pj ok hT n Fd) hX e,λc D uu e hX=>So.yv (θ:=⟨W.on fd,c,D⟩) (ok.on fd) (hT fd) (Pj ok hT n fd) hX e,λc D uu l hX=>So.Ho (θ:=⟨W.on fd,c,D⟩) W fd rfl (ok.on fd) hT (λFd=>Pj ok hT n Fd) l hX,λuu uu uu uu uu uu=>KN W fd rfl (ok.on fd) (hT fd) (Pj ok hT n fd)⟩
theorem Gm(ok:W.Ok)(hT:∀fd,lb (W.on fd) T){n:Nat}{hn:Hn}{D:Nat}{f:Addr}{vs:List SV}{st db:St}{hs yf:List Jd}{ub:Lc}{r:Except Nat SV}{l:List Prop}(e:Rn.cg T (Rn.Xa W T n) hn D f vs ⟨[],st,hs⟩=some (r,⟨ub,db,yf⟩,l))(hl:∀q∈l,q)(fd:List Addr):
  ba (W.on fd) hn D (.tp f) vs st r db:=((Ly (ok.on fd) (Pj ok hT n fd) (hT fd).fn).get e hl).2
end
end
section
variable {kz:Nat}
section
variable {W:Wd}{ad:List Addr}{h:Heap}{hn:Hn}{D:Nat}{fv:SV}{vs:List SV}{st F:St}{o:Except Nat SV}
structure kr(mv:Nat->Bool)(ps:List Nat):Prop where
 i:∀i p,ps[i]?=some p->mv p=mv i
 o:∀n,ix ps n=none->mv n=false
 l:∀n,ps.length<=n->mv n=false
theorem kr.fi{ps:List Nat}:kr (λuu=>false) ps:=⟨λuu uu uu=>rfl,λuu uu=>rfl,λuu uu=>rfl⟩
theorem R.mh{ps:List Nat}(m:kr W.mv ps)(r:R W ad h F)(xk:ps.Nodup)(ac:∀p∈ps,p<ad.length):R W (Nd ps ad) h (Md (λn=>(ad[n]?).getD 0) ps F):=
 R.fd (W:=W) (fd1:=W.fd++Le ps ad) (fd2:=W.fd) (λb o e n=>⟨λm=>n (List.mem_append_left _ m),e⟩) (Nat.le_refl _) (λuu uu uu e=>e) r.lf (r.part xk ac m.i (λn uu=>m.o n) m.l)
theorem ba.mh{F':St}{o':Except Nat SV}(c:ba W hn D fv vs st o' F')(ps:List Nat)(xk:ps.Nodup)(ac:∀p∈ps,p<F'.length)(Ys:∀i,i<st.length->ps[i]?=some i)
  (hF:∀z,Md z ps F'=F) (ho:∀z,Ao z ps o'=o) (Eh:Co F'.length ps o'=true) (m:kr W.mv ps):ba W hn D fv vs st o F:=λA Ma ad s v ws C hh q1 q2 R hQ hE=>by
 have key:∀{s':Shared} {X Y:Hp},(∀ia,ia.length=F'.length->X ia s'.heap->Y (Nd ps ia) s'.heap)->Pc W ad s F' X s'->Pc W ad s F Y s':=λf p=>by
  refine Pc.casesOn p λia c r x=>?_
  have Xd:∀p∈ps,p<ia.length:=λp m=>r.len.symm▸ac p m
  have r1:=r.mh m xk Xd
  replace r1:=(hF ..)▸r1
  refine⟨Nd ps ia,⟨⟨λ{i a} e=>?_,λa m=>c.g.new a (kj Xd a m)⟩,c.k,c.e⟩,r1,f ia r.len x⟩
  have hi:i<st.length:=C.r.len▸(List.getElem?_eq_some_iff.mp (Hb e)).1
  have this:=Ys i hi
  exact(Oj (ad:=ia) this (Xd _ (List.mem_of_getElem? this))).elim λb y=>yc (Gh e) (sj y.2 (Hb (c.g.get e))▸y.1)
 have Xd:∀{ia:List Addr},ia.length=F'.length->∀p∈ps,p<ia.length:=λe p m=>e▸ac p m
 refine c A Ma ad s v ws C hh q1 q2 R (λb e r s' p=>?_) λn e r s' p=>?_
 ·subst e
  exact hQ _ (ho λuu=>0).symm r s' (key (λia e x=>by
   have y:=(V.bf (Sk (W:=W) (Xd e) m.i λn uu=>m.o n) (by refine rt e ?_;exact Eh) r).mp x
   have:=ho λn=>(ia[n]?).getD 0
   replace this:=(ho λuu=>0 ..).symm▸this
   have e2:Pa (λn=>(ia[n]?).getD 0) ps b=Pa (λuu=>0) ps b:=Except.ok.inj this
   replace y:=e2▸y
   exact V.fd (W:=W) (fd1:=W.fd++Le ps ia) (fd2:=W.fd) (λb o e n=>⟨λm=>n (List.mem_append_left _ m),e⟩) y) p)
 ·subst e
  refine(Option.isSome_iff_exists.mp (show(ix ps n).isSome=true from Eh)).elim λj hj=>?_
  have Vg:(.error ((ix ps n).getD 0):Except Nat SV)=o:=ho λuu=>0
  replace Vg:=hj▸Vg
  exact hE j Vg.symm r s' (key (X:=λia uu=>∃a,r=.ref a/\Db W.mv ia n=some a) (λia e x=>Exists.elim x λa x=>⟨a,x.1,(Sk (W:=W) (Xd e) m.i λn uu=>m.o n).nm hj▸x.2⟩) p)
theorem ba.pre{db:St}(c:ba W hn D fv vs db o F)(q:∀ad h,R W ad h st->R W ad h db):ba W hn D fv vs st o F:=λA Ma ad s v ws C hh q1 q2=>c A Ma ad s v ws ⟨C.ib,q _ _ C.r,C.fr,C.ff,C.je,C.un,C.gf⟩ hh q1 q2
theorem ba.post{F':St}(c:ba W hn D fv vs st o F)(q:∀ad h,R W ad h F->R W ad h F'):ba W hn D fv vs st o F':=λA Ma ad s v ws C hh q1 q2 R hQ hE=>
 have f:∀{X:Hp} {s'},Pc W ad s F X s'->Pc W ad s F' X s':=λp=>by induction p using Pc.casesOn with|mk a c r x=>exact⟨a,c,q _ _ r,x⟩
 c A Ma ad s v ws C hh q1 q2 R (λb e r s' p=>hQ b e r s' (f p)) λn e r s' p=>hE n e r s' (f p)
theorem ba.args{Hs:List SV}(c:ba W hn D fv Hs st o F)(q:∀ad h ws,Vs W ad h vs ws->Vs W ad h Hs ws):ba W hn D fv vs st o F:=λA Ma ad s v ws C hh q1 q2=>c A Ma ad s v ws C hh q1 (q _ _ _ q2)
theorem ba.LN{D':Nat}(c:ba W hn D fv vs st o F)(hD:D<=D'):ba W hn D' fv vs st o F:=λA Ma ad s v ws C hh q1 q2=>
 c A Ma ad s v ws ⟨C.ib,C.r,C.fr,C.ff,Nat.le_trans (Nat.add_le_add_left hD _) C.je,Nat.le_trans (Nat.add_le_add_left (Nat.mul_le_mul_left 8 hD) _) C.un,C.gf⟩ hh q1 q2
theorem ba.any(c:ba W .no D fv vs st o F):ba W hn D fv vs st o F:=λA Ma ad s v ws C uu q1 q2=>c A Ma ad s v ws C trivial q1 q2
end
end
section
variable {kz:Nat}
noncomputable abbrev Wd.mw(W:Wd)(m:Nat->Bool):Wd:={W with mv:=m}
theorem Wd.Ok.mw{W:Wd}(ok:W.Ok)(m:Nat->Bool):(W.mw m).Ok:=⟨ok.plain,ok.sm,ok.nl⟩
mutual
noncomputable def De(p:Nat->Bool):SV->Bool
 |.ob n=>p n
 |.tu l=>Mc p l
 |.fl l=>Mc p l
 |_=>true
noncomputable def Mc(p:Nat->Bool):List SV->Bool
 |[]=>true
 |x::l=>De p x&&Mc p l
end
noncomputable abbrev ae{K:Type}(p:Nat->Bool)(fs:List (K×SV)):Bool:=fs.all λq=>De p q.2
noncomputable def Io(p:Nat->Bool):AO->Bool
 |.ns fs=>ae p fs
 |.Ha l=>Mc p l
 |.di fs=>ae p fs
 |.dp _ (some v)=>De p v
 |.cell (some v)=>De p v
 |.fn _ cl=>cl.all λq=>p q.2
 |.ls _ _ l=>Mc p l
 |.dq _ x=>De p x
 |.li x _=>De p x
 |.op _=>false
 |_=>true
section
variable {W:Wd}{m:Nat->Bool}{fd ad:List Addr}{h:Heap}
theorem Na{a b:Bool}{G:Prop}(e:(a&&b)=true)(K:a=true->b=true->G):G:=have e:=(Bool.and_eq_true _ _).mp e;K e.1 e.2
theorem Hm{b:Bool}(e:(!b)=true):b=false:=by induction b using Bool.casesOn<;>first|rfl|contradiction
set_option tactic.hygienic true in
theorem Nc{p:Nat->Bool}{x:SV}:Ia x=true->De p x=true:=by
 induction x using SV.rec (motive_2:=λl=>clos l=true->Mc p l=true) with
 |ob n=>exact ft
 |tu l ih=>exact ih
 |fl l ih=>exact ih
 |cons x l ih il=>
  rename_i c
  exact Na c λa b=>(Bool.and_eq_true _ _).mpr ⟨ih a,il b⟩
 |nil=>rfl
 |_=>exact λuu=>rfl
set_option tactic.hygienic true in
theorem V.co{x:SV}:De (λn=>!m n) x=true->∀v,V W.fi ad h x v->V (W.mw m) ad h x v:=by
 induction x using SV.rec (motive_2:=λl=>Mc (λn=>!m n) l=true->∀v,Vs W.fi ad h l v->Vs (W.mw m) ad h l v) with
 |ob n=>exact λb uu=>Exists.imp λa q=>⟨yc (Hm b) q.1,q.2⟩
 |tu l ih=>exact λb uu q=>by induction(q:fb ..) using fb.casesOn with|mk a vs n e q m=>exact fb.mk a vs n e (ih b _ q) m
 |fl l ih=>exact λb uu q=>by induction(q:fb ..) using fb.casesOn with|mk a vs n e q m=>exact fb.mk a vs n e (ih b _ q) m
 |rg n=>exact λuu uu q=>by induction(q:Rg ..) using Rg.casesOn with|mk a t u w e m=>exact Rg.mk a t u w e m
 |cs x ih=>exact λuu uu q=>⟨q.1,ih (Nc q.1) _ q.2⟩
 |cons x l ih il=>
  rename_i b v q
  exact Na b λb1 b2=>Ta.imp (ih b1) (il b2) q
 |nil=>assumption
 |_=>exact λuu uu=>id
theorem Vs.co{l:List SV}(b:Mc (λn=>!m n) l=true):∀v,Vs W.fi ad h l v->Vs (W.mw m) ad h l v:=by
 induction l with
 |nil=>exact λuu=>id
 |cons x l il=>exact Na b λb1 b2 uu q=>Ta.imp (V.co b1) (il b2) q
theorem Dict.co{K:Type}{kv:K->Tok->Value}{hs:K->Int}{fs:List (K×SV)}(b:ae (λn=>!m n) fs=true){o:Obj}(q:rc W.fi ad h kv hs fs o):rc (W.mw m) ad h kv hs fs o:=by
 obtain⟨es,n,e,z,nd⟩:=q
 refine⟨es,n,e,?_,nd⟩
 clear e nd
 induction z with
 |nil=>exact .nil
 |cons t k c v _ ih=>exact Na b λb1 b2=>.cons t k c (V.co b1 _ v) (ih b2)
theorem oG(p:Nat->Bool):∀l:List (Int×Int),ae p (l.map λq=>(q.1,SV.it q.2))=true
 |[]=>rfl
 |_::l=>oG p l
theorem Cr.co:∀{cl:List (Str×Nat)} {ca:List (Str×Addr)},(cl.all λq=>!m q.2)=true->Cr (λuu=>false) ad cl ca->Cr m ad cl ca
 |[],_,_,q=>q
 |p::l,_,b,⟨q,r,e,n,z,w⟩=>Na b λb1 b2=>⟨q,r,e,n,yc (Hm b1) z,Cr.co b2 w⟩
theorem Dp.co{k:List Str}{P P':Value->Prop}(f:∀v,P v->P' v){o:Obj}(q:Rc W.fi ad h k P o):Rc (W.mw m) ad h k P' o:=by
 refine Rc.casesOn q λep ka v q m z=>?_
 exact⟨ep,ka,v,q,m,f v z⟩
theorem gc.co{a:Addr}{o:Obj}{ao:AO}(b:Io (λn=>!m n) ao=true)(q:gc W.fi ad h a o ao):gc (W.mw m) ad h a o ao:=by
 induction ao using AO.casesOn with
 |ns fs=>exact Dict.co b q
 |Ha l=>exact Vf.imp (Vs.co b) q
 |di fs=>exact Dict.co b q
 |dp k e=>
  rcases e with _|y
  ·exact q
  exact Dp.co (V.co b) q
 |cell y=>
  rcases y with _|y
  ·exact q
  exact let⟨z,e,r⟩:=q;⟨z,e,V.co b _ r⟩
 |jb c d tb=>exact let⟨da,vs,e,r,z1,y,z2,z⟩:=q;⟨da,vs,e,r,z1,y,z2,by
   rcases tb with _|_
   ·exact z
   induction(z:fe ..) using fe.casesOn with|mk T oT ts fl k m e c d f=>exact fe.mk T oT ts fl k m e c d f⟩
 |fn b' cl=>induction(q:xe ..) using xe.casesOn with|mk name qual as kwd ca kV doc pm an c ct m k z p nd co ge=>exact xe.mk name qual as kwd ca kV doc pm an c ct m k (Cr.co b z) p nd co ge
 |ls pre L l=>exact⟨q.1,q.2.1,Vf.imp (λuu=>Ac.imp (Vs.co (Nc (x:=.tu L) q.1)) (Vs.co b)) q.2.2⟩
 |dz fs=>exact Dict.co (oG _ fs) q
 |dq k y=>exact q.elim (λz=>.inl ⟨z.1,V.co b _ z.2⟩) λz=>.inr (Dp.co (V.co b) z)
 |li y i=>exact let⟨l,z,r⟩:=q;⟨l,V.co b _ z,r⟩
 |_=>exact q
theorem gc.un{a:Addr}{o:Obj}{ao:AO}(q:gc (W.mw m) ad h a o ao):gc W.fi ad h a o ao:=by
 have g:∀(n:Nat) a,Db m ad n=some a->Db (λuu=>false) ad n=some a:=λn a e=>yc rfl (Hb e)
 have x:Tr h ((W.mw m).out ad) h (W.fi.out ad):=⟨λa o e m uu=>⟨e,m⟩,λT o ts fl e m h1 h2 h3=>⟨m,o,ts,fl,e,h1,h2,h3⟩⟩
 exact gc.tr (W:=W.mw m) (fd:=W.fd) (m:=λuu=>false) x g (λuu uu uu e=>e) q
end
end
section
variable {kz:Nat}
noncomputable def AO.plain(o:AO):Bool:=o.Gd.isNone&&!Nat.beq o.ctorIdx 0
noncomputable def Od(q:Nat->Bool):Nat->St->St
 |_,[]=>[]
 |i,o::l=>cond (q i) (.op o) o::Od q (i+1) l
noncomputable def Cf(m q:Nat->Bool):Nat->St->Bool
 |_,[]=>true
 |i,o::l=>cond (q i) o.plain (o.Gd.isSome||Io (λn=>!m n) o)&&Cf m q (i+1) l
theorem lr{q:Nat->Bool}:∀{i:Nat} {l:St},(Od q i l).length=l.length
 |_,[]=>rfl
 |_,_::_=>congrArg (·+1) lr
section
variable {W:Wd}{m q:Nat->Bool}{ad:List Addr}{h:Heap}
theorem MN{o:AO}(e:o.plain=true):o.Gd=none/\o≠.ta:=by
 exact Na e λa b=>⟨Option.isNone_iff_eq_none.mp a,λz=>by replace b:=z▸b;contradiction⟩
theorem NN{a:Addr}{ob:Obj}{o z:AO}(e:o.Gd=some z):¬gc W ad h a ob o:=by
 induction o using AO.casesOn<;>first|exact id|contradiction
theorem Ob.op{a:Addr}{o:AO}:Ob (W.mw m) ad h a (.op o)<->∃ob,h.get? a=some ob/\gc W.fi ad h a ob o:=Iff.rfl
theorem Ob.open{a:Addr}{o:AO}{b:Bool}(x:Ob (W.mw m) ad h a (cond b (.op o) o)):Ob W.fi ad h a o:=by
 by_cases hd:o=.ta
 ·subst hd;trivial
 rcases b with _|_
 ·have x:Ob (W.mw m) ad h a o:=x
  refine(Ob.at x hd).elim λob x=>.mk x.1 ?_
  have y:=x.2
  revert y
  unfold Oc
  rcases o.Gd with _|z
  ·exact gc.un
  exact id
 refine Exists.elim x λob x=>.mk x.1 ?_
 have y:gc W.fi ad h a ob o:=x.2
 unfold Oc
 rcases e:o.Gd with _|z
 ·exact y
 exact absurd y (NN e)
theorem Ob.Jj{a:Addr}{o:AO}{b:Bool}(x:Ob W.fi ad h a o)(c:cond b o.plain (o.Gd.isSome||Io (λn=>!m n) o)=true):Ob (W.mw m) ad h a (cond b (.op o) o):=by
 rcases b with _|_
 ·by_cases hd:o=.ta
  ·subst hd;trivial
  refine(?_:Ob (W.mw m) ad h a o)
  refine(Ob.at x hd).elim λob x=>.mk x.1 ?_
  have y:=x.2
  have c:(o.Gd.isSome||Io (λn=>!m n) o)=true:=c
  revert y c
  unfold Oc
  rcases o.Gd with _|z
  ·exact λy c=>gc.co c y
  exact λy uu=>y
 have z:=MN c
 refine(Ob.at x z.2).elim λob x=>⟨ob,x.1,?_⟩
 have y:=x.2
 unfold Oc at y
 replace y:=z.1▸y
 exact y
theorem Gz:∀{i j:Nat} {l:St},(Od q i l)[j]?=(l[j]?).map λo=>cond (q (i+j)) (.op o) o
 |_,_,[]=>rfl
 |i,0,o::l=>rfl
 |i,j+1,o::l=>by
  refine rt (show i+(j+1)=i+1+j by lia) ?_
  exact Gz (i:=i+1) (j:=j) (l:=l)
theorem pG:∀{i j:Nat} {l:St} {o:AO},Cf m q i l=true->l[j]?=some o->cond (q (i+j)) o.plain (o.Gd.isSome||Io (λn=>!m n) o)=true
 |_,_,[],_,_,e=>nomatch e
 |i,0,_::l,_,c,e=>Na c λc uu=>by cases e;exact c
 |i,j+1,_::l,o,c,e=>Na c λuu c=>by
  refine rt (show i+(j+1)=i+1+j by lia) ?_
  exact pG c (l:=l) e
theorem R.open{st:St}(r:R (W.mw m) ad h (Od q 0 st)):R W.fi ad h st:=
 ⟨r.len.trans lr,r.nd,r.lt,r.lf,λi a o e1 e2=>(r.ob i a _ e1 (Gz.trans (by rw[e2];rfl))).open,λuu uu=>rfl⟩
theorem R.Jj{st:St}(r:R W.fi ad h st)(c:Cf m q 0 st=true)(hi:∀n,ad.length<=n->m n=false):R (W.mw m) ad h (Od q 0 st):=
 ⟨r.len.trans lr.symm,r.nd,r.lt,r.lf,λi a o e1 e2=>by
  replace e2:=Gz▸e2
  rcases e:st[i]? with _|x
  ·replace e2:=e▸e2;contradiction
  replace e2:=e▸e2
  cases e2
  exact(r.ob i a x e1 e).Jj (pG c e),hi⟩
theorem V.open{x:SV}{v:Value}(y:V (W.mw m) ad h x v):V W.fi ad h x v:=V.tr (W:=W.mw m) (W':=W.fi) ⟨λuu uu e o uu=>⟨e,o⟩,λuu o ts fl e y h1 h2 h3=>⟨y,o,ts,fl,e,h1,h2,h3⟩⟩ (λuu uu e=>yc rfl (Hb e)) v y
theorem Vs.open{x:List SV}{v:List Value}(y:Vs (W.mw m) ad h x v):Vs W.fi ad h x v:=Vs.tr (W:=W.mw m) (W':=W.fi) ⟨λuu uu e o uu=>⟨e,o⟩,λuu o ts fl e y h1 h2 h3=>⟨y,o,ts,fl,e,h1,h2,h3⟩⟩ (λuu uu e=>yc rfl (Hb e)) v y
theorem ie.open{hn:Hn}{A:Around}(x:ie m hn A ad h):ie (λuu=>false) hn A ad h:=by
 induction hn using Hn.casesOn<;>first|exact x|exact Exists.imp (λuu z=>⟨yc rfl (Hb z.1),z.2⟩) x
end
noncomputable def Pd(q:Nat->Bool):Nat->St->St
 |_,[]=>[]
 |i,o::l=>cond (q i) .ta o::Pd q (i+1) l
theorem Hz{q:Nat->Bool}:∀{i:Nat} {l:St},(Pd q i l).length=l.length
 |_,[]=>rfl
 |_,_::_=>congrArg (·+1) Hz
theorem qG{q:Nat->Bool}:∀{i j:Nat} {l:St} {o:AO},(Pd q i l)[j]?=some o->o=.ta\/l[j]?=some o
 |_,_,[],_,e=>nomatch e
 |i,0,x::l,o,e=>by
  have e:cond (q i) .ta x=o:=Option.some.inj e
  revert e
  rcases q i with _|_
  ·exact λe=>e▸.inr rfl
  exact λe=>.inl e.symm
 |i,j+1,_::l,_,e=>qG (l:=l) e
theorem R.Pd{W:Wd}{ad:List Addr}{h:Heap}{st:St}{q:Nat->Bool}(r:R W ad h st):R W ad h (Mine.Pd q 0 st):=
 ⟨r.len.trans Hz.symm,r.nd,r.lt,r.lf,λi a o e1 e2=>(qG e2).elim (λe=>by refine rt e ?_;trivial) (r.ob i a o e1),r.hi⟩
theorem ba.co{W:Wd}{m:Nat->Bool}{hn:Hn}{D:Nat}{fv:SV}{vs:List SV}{st F' F:St}{o' o:Except Nat SV}(qk:Nat->Bool)(c:ba W.fi hn D fv vs st o' F')(ps:List Nat)(q q':Nat->Bool)(xk:ps.Nodup)(ac:∀p∈ps,p<F'.length)
  (Ys:∀i,i<st.length->m i=false->ps[i]?=some i) (hle:st.length<=ps.length) (hF:∀z,Pd qk 0 (Md z ps F')=F) (ho:∀z,Ao z ps o'=o) (Eh:Co F'.length ps o'=true) (hc:Cf m q' 0 F=true) (hb:∀b,o=.ok b->De (λn=>!m n) b=true) (he:∀n,o=.error n->m n=false):
  ba (W.mw m) hn D fv vs (Od q 0 st) o (Od q' 0 F):=λA Ma ad s v ws C hh q1 q2 R hQ hE=>by
 have lA:ad.length=st.length:=C.r.len.trans lr
 have key:∀{s':Shared} {X Y:Hp},(∀ia,ia.length=F'.length->X ia s'.heap->Y (Nd ps ia) s'.heap)->Pc W.fi ad s F' X s'->Pc (W.mw m) ad s (Od q' 0 F) Y s':=λf p=>by
  refine Pc.casesOn p λia c r x=>?_
  have Xd:∀p∈ps,p<ia.length:=λp m=>r.len.symm▸ac p m
  have r1:=(r.mh .fi xk Xd).Pd (q:=qk)
  replace r1:=(hF ..)▸r1
  refine⟨Nd ps ia,⟨⟨λ{i a} e=>?_,λa m=>c.g.new a (kj Xd a m)⟩,c.k,c.e⟩,r1.Jj hc λn q=>C.r.hi n ?_,f ia r.len x⟩
  ·have e0:=Hb e
   have this:=Ys i (lA▸(List.getElem?_eq_some_iff.mp e0).1) (Gh e)
   exact(Oj (ad:=ia) this (Xd _ (List.mem_of_getElem? this))).elim λb y=>yc (Gh e) (sj y.2 (Hb (c.g.get (yc rfl e0)))▸y.1)
  ·unfold Nd at q
   replace q:=(List.length_map ..)▸q
   exact Nat.le_trans (lA▸hle) q
 have Xd:∀{ia:List Addr},ia.length=F'.length->∀p∈ps,p<ia.length:=λe p m=>e▸ac p m
 refine c A Ma ad s v ws ⟨C.ib,C.r.open,C.fr,C.ff,C.je,C.un,C.gf⟩ hh.open q1.open q2.open R (λb e r s' p=>?_) λn e r s' p=>?_
 ·subst e
  have e0:=(ho λuu=>0).symm
  exact hQ _ e0 r s' (key (λia e x=>by
   have y:=(V.bf (Sk (W:=W.fi) (Xd e) (λuu uu uu=>rfl) λuu uu uu=>rfl) (by refine rt e ?_;exact Eh) r).mp x
   have:=ho λn=>(ia[n]?).getD 0
   replace this:=(ho λuu=>0 ..).symm▸this
   have e2:Pa (λn=>(ia[n]?).getD 0) ps b=Pa (λuu=>0) ps b:=Except.ok.inj this
   replace y:=e2▸y
   exact V.co (hb _ e0) _ (V.fd (W:=W.fi) (fd1:=W.fd++Le ps ia) (fd2:=W.fd) (λb o e n=>⟨λm=>n (List.mem_append_left _ m),e⟩) y)) p)
 ·subst e
  refine(Option.isSome_iff_exists.mp (show(ix ps n).isSome=true from Eh)).elim λj hj=>?_
  have Vg:(.error ((ix ps n).getD 0):Except Nat SV)=o:=ho λuu=>0
  replace Vg:=hj▸Vg
  exact hE j Vg.symm r s' (key (X:=λia uu=>∃a,r=.ref a/\Db (λuu=>false) ia n=some a) (λia e x=>Exists.elim x λa x=>⟨a,x.1,yc (he j Vg.symm) (Hb ((Sk (W:=W.fi) (Xd e) (λuu uu uu=>rfl) λuu uu uu=>rfl).nm hj▸x.2))⟩) p)
end
section
variable {kz:Nat}
noncomputable def nr(m q:Nat->Bool):Nat->St->Bool
 |_,[]=>true
 |i,o::l=>cond (q i) true (yg m o&&!m i)&&nr m q (i+1) l
theorem rG{m q:Nat->Bool}:∀{i j:Nat} {l:St} {o:AO},nr m q i l=true->(Pd q i l)[j]?=some o->o=.ta\/l[j]?=some o/\yg m o=true/\m (i+j)=false
 |_,_,[],_,_,e=>nomatch e
 |i,0,x::l,o,c,e=>Na c λc uu=>by
  have e:cond (q i) .ta x=o:=Option.some.inj e
  revert c e
  rcases q i with _|_
  ·exact λc e=>Na c λc1 c2=>e▸.inr ⟨rfl,c1,Hm c2⟩
  exact λuu e=>.inl e.symm
 |i,j+1,_::l,o,c,e=>Na c λuu c=>by
  refine rt (show i+(j+1)=i+1+j by lia) ?_
  exact rG c (l:=l) e
section
variable {W:Wd}{m q q':Nat->Bool}{hn:Hn}{D:Nat}{fv b:SV}{vs:List SV}{st F:St}
theorem ba.fi(c:∀fd,ba ((W.mw m).on fd) hn D fv vs (Od q 0 st) (.ok b) F)(hl:F.length=st.length)(hs:Cf m q 0 st=true)(hc:nr m q' 0 F=true)(hi:∀n,st.length<=n->m n=false)(hv:Mc (λn=>!m n) (fv::vs)=true)(hh:∀n,hn≠.nm n)(fd:List Addr):
  ba (W.fi.on fd) hn D fv vs st (.ok b) (Pd q' 0 F):=λA Ma ad s v ws C kD q1 q2 R hQ hE=>by
 have li:∀n,ad.length<=n->m n=false:=λn e=>hi n (C.r.len▸e)
 have O:∀{ia:List Addr},(∀a,((W.mw m).on (fd++ad)).out ia a->(W.fi.on fd).out ad a):=λ{ia} a z=>⟨λq=>z.2 (List.mem_append_right _ q),λq=>z.2 (List.mem_append_left _ q)⟩
 have O':∀a,(W.fi.on fd).out ad a->(W.fi.on (fd++ad)).out ad a:=λa z=>⟨z.1,λq=>(List.mem_append.mp q).elim z.2 z.1⟩
 have T':Tr s.heap ((W.fi.on fd).out ad) s.heap ((W.fi.on (fd++ad)).out ad):=⟨λa o e z uu=>⟨e,O' a z⟩,λT o ts fl e z h1 h2 h3=>⟨O' T z,o,ts,fl,e,h1,h2,h3⟩⟩
 have r0:Mine.R (W.fi.on (fd++ad)) ad s.heap st:=⟨C.r.len,C.r.nd,C.r.lt,λa z=>(List.mem_append.mp z).elim (C.r.lf a) λz=>⟨(C.r.lt a z).1.ff,(C.r.lt a z).2⟩,λi a o e1 e2=>Ob.tr (W:=W.fi.on fd) (fd:=fd++ad) T' (λuu e uu uu=>e) (.inl λuu uu e=>e) (C.r.ob i a o e1 e2),C.r.hi⟩
 have hv:=(Bool.and_eq_true _ _).mp hv
 refine c (fd++ad) A Ma ad s v ws ⟨C.ib,Mine.R.Jj (W:=W.on (fd++ad)) r0 hs li,C.fr,C.ff,C.je,C.un,C.gf⟩ ?_ (V.co (W:=W.on (fd++ad)) hv.1 _ (V.tr T' (λuu uu e=>e) _ q1)) (Vs.co (W:=W.on (fd++ad)) hv.2 _ (Vs.tr T' (λuu uu e=>e) _ q2)) R (λb' e r s' p=>?_) λn e=>nomatch e
 ·induction hn using Hn.casesOn with
  |nm n=>exact absurd rfl (hh n)
  |_=>exact kD
 ·refine Pc.casesOn p λia c r1 x=>?_
  have ll:ia.length=ad.length:=r1.len.trans (hl.trans C.r.len.symm)
  have g:∀(n:Nat) (a:Addr),Db m ia n=some a->ad[n]?=some a:=λn a e=>by
   have l:n<ad.length:=ll▸(List.getElem?_eq_some_iff.mp (Hb e)).1
   have e0:=List.getElem?_eq_getElem l
   exact e0.trans ((c.g.get (yc (Gh e) e0)).symm.trans e)
  have T2:Tr s'.heap (((W.mw m).on (fd++ad)).out ia) s'.heap ((W.fi.on fd).out ad):=⟨λa o e z uu=>⟨e,O a z⟩,λT o ts fl e z h1 h2 h3=>⟨O T z,o,ts,fl,e,h1,h2,h3⟩⟩
  refine hQ b' e r s' ⟨ad,⟨.refl,c.k,c.e⟩,⟨?_,C.r.nd,λa z=>⟨(C.r.lt a z).1,Nat.lt_of_lt_of_le (C.r.lt a z).2 c.k.size⟩,λa z=>⟨(C.r.lf a z).1,Nat.lt_of_lt_of_le (C.r.lf a z).2 c.k.size⟩,λi a o e1 e2=>?_,λuu uu=>rfl⟩,V.tr T2 (λn a e=>yc rfl (g n a e)) _ x⟩
  ·refine rt Hz (rt hl ?_);exact C.r.len
  ·rcases rG hc e2 with rfl|⟨e3,z1,z2⟩
   ·trivial
   have hd:o=.ta\/o≠.ta:=Classical.em _
   rcases hd with rfl|hd
   ·trivial
   replace z2:=(Nat.zero_add ..)▸z2
   have e4:=Hb (c.g.get (yc z2 e1))
   refine(Ob.at (r1.ob i a o e4 e3) hd).elim λob y=>.mk y.1 ?_
   have y2:=y.2
   revert y2 z1
   unfold Oc yg
   rcases o.Gd with _|_
   ·refine λz1 y2=>gc.tr (W:=(W.mw m).on (fd++ad)) (fd:=fd) (m:=λuu=>false) T2 (λn a e=>yc rfl (g n a e)) (λd a e1 e2=>g d a (yc ?_ e2)) y2
    have z1:(o.oq.elim true λd=>!m d)=true:=z1
    replace z1:=e1▸z1
    exact Hm z1
   exact λe=>nomatch e
end
end
section
variable {kz:Nat}
noncomputable def Me:List Prop->Prop
 |[]=>True
 |p::l=>p/\Me l
theorem Me.mem:∀{l:List Prop},Me l->∀q∈l,q
 |[],_,q,m=>nomatch m
 |p::l,h,q,m=>(List.mem_cons.mp m).elim (λe=>e▸h.1) (Me.mem h.2 q)
noncomputable def rep{α:Type}(m:An α):Option (Except Nat α×Lc×St×List Prop):=m.bind λx=>some (x.1,x.2.1.loc,x.2.1.st,x.2.2)
theorem qr{α:Type}{m:An α}{r:Except Nat α}{loc:Lc}{st:St}{l:List Prop}(e:rep m=some (r,loc,st,l)):∃hs,m=some (r,⟨loc,st,hs⟩,l):=
 obs e λx e1 e2=>by
  cases e2
  exact⟨x.2.1.hs,e1⟩
noncomputable def sG(ps:List Nat)(z:Nat->Addr)(m:An SV):Option (Except Nat SV×St×Bool×List Prop):=m.bind λx=>some (Ao z ps x.1,Md z ps x.2.1.st,(ps.all λp=>Nat.blt p x.2.1.st.length)&&Co x.2.1.st.length ps x.1,x.2.2)
noncomputable def sr:List Nat->Bool
 |[]=>true
 |p::r=>r.all (λq=>!Nat.beq p q)&&sr r
theorem Xv:∀{l:List Nat},sr l=true->l.Nodup
 |[],_=>.nil
 |p::r,h=>Na h λa b=>List.nodup_cons.mpr ⟨λm=>by
  have:=List.all_eq_true.mp a p m
  replace this:=(Nat.beq_refl ..)▸this
  exact ft this,Xv b⟩
noncomputable def Iz:Nat->Nat->List Nat->Bool
 |_,0,_=>true
 |_,_+1,[]=>false
 |i,n+1,p::r=>Nat.beq p i&&Iz (i+1) n r
theorem tG:∀{n i:Nat} {l:List Nat},Iz i n l=true->∀j,j<n->l[j]?=some (i+j)
 |0,_,_,_,j,h=>absurd h (Nat.not_lt_zero j)
 |_+1,_,[],e,_,_=>ft e
 |n+1,i,p::r,e,0,_=>Na e λa uu=>congrArg some (Nat.eq_of_beq_eq_true a)
 |n+1,i,p::r,e,j+1,h=>Na e λuu b=>by
  refine rt (show i+(j+1)=i+1+j by lia) ?_
  exact tG b j (Nat.lt_of_succ_lt_succ h)
section
variable {W:Wd}{T:Tb}(ok:W.Ok)(hT:∀fd,lb (W.on fd) T)
include ok hT
theorem AX{n:Nat}{hn:Hn}{D:Nat}{f:Addr}{vs:List SV}{st F:St}{o:Except Nat SV}{l:List Prop}(hs:List Jd)(ps:List Nat)(m:kr W.mv ps)(hc:(sr ps&&Iz 0 st.length ps)=true)
  (e:∀z,sG ps z (Rn.cg T (Rn.Xa W T n) hn D f vs ⟨[],st,hs⟩)=some (o,F,true,l)) (hl:Me l) (fd:List Addr):ba (W.on fd) hn D (.tp f) vs st o F:=by
 rcases h:Rn.cg T (Rn.Xa W T n) hn D f vs ⟨[],st,hs⟩ with _|x
 ·have:=e λuu=>0;replace this:=h▸this;contradiction
 obtain⟨r,⟨ub,db,yf⟩,l'⟩:=x
 replace e:=h▸e
 have e0:=e λuu=>0
 have el:l'=l:=congrArg (·.2.2.2) (Option.some.inj e0)
 have eb:=congrArg (·.2.2.1) (Option.some.inj e0)
 exact Na hc λh1 h2=>Na eb λb1 b2=>(Gm ok hT h (el▸hl.mem) fd).mh ps (Xv h1) (λp m=>Nat.le_of_ble_eq_true (List.all_eq_true.mp b1 p m)) (λi hi=>(tG h2 i hi).trans (by exact rt (Nat.zero_add ..) rfl)) (λz=>congrArg (·.2.1) (Option.some.inj (e z))) (λz=>congrArg (·.1) (Option.some.inj (e z))) b2 m
theorem Jz{n:Nat}{c:Cx}{D:Nat}{s:Stmt}{loc ub:Lc}{st db:St}{f:Fl}{l:List Prop}(hs:List Jd)(e:rep (Rn.pj W (Rn.Xa W T n) T c D s ⟨loc,st,hs⟩)=some (.ok f,ub,db,l))(hl:Me l):dc W c D s loc st (.ok f) ub db:=λfd Γ ad s0 M x=>by
 obtain⟨yf,e⟩:=qr e
 have h:=So.pj (θ:=⟨W.on fd,c,D⟩) (X:=λuu uu=>True) W rfl (ok.on fd) hT (λfd=>Pj ok hT n fd) Da.true s Γ ad ⟨loc,st,hs⟩ s0 (M.as rfl rfl) x
 refine wpAny_mono (h.get e hl.mem) (λuu uu=>Exists.imp λuu z=>⟨z.1,z.2.as rfl rfl⟩) λuu uu=>Exists.imp λuu z=>⟨z.1,z.2.as rfl rfl⟩
end
section
variable {m:Rn (Option Fl)}{k:Nat}{loc loc1 ub:Lc}{st st1 db:St}{f:Except Nat Fl}{l:List Prop}
theorem Ch.nh(hs:List Jd)(e:rep (m ⟨loc,st,hs⟩)=some (.ok none,loc1,st1,l))(hl:Me l)(r:Ch m k loc1 st1 f ub db):Ch m (k+1) loc st f ub db:=(qr e).elim λuu e=>.go e hl.mem r
theorem Ch.Df{g:Fl}(hs:List Jd)(e:rep (m ⟨loc,st,hs⟩)=some (.ok (some g),ub,db,l))(hl:Me l):Ch m 0 loc st (.ok g) ub db:=(qr e).elim λuu e=>.Ua e hl.mem rfl
end
end
section
variable {kz:Nat}
noncomputable def Kz(p:Nat->Bool)(o:AO):Bool:=Io p o&&o.oq.elim true p
noncomputable def Ee(p:Nat->Bool)(o:AO):Bool:=o.Gd.elim (Kz p o) (Kz p)
section
variable {p:Nat->Bool}{ps:List Nat}{z:Nat->Addr}{k:Nat}(hp:∀n,p n=true->ix ps n=some n/\n<k)
include hp
set_option tactic.hygienic true in
theorem Oh{x:SV}:De p x=true->Hi k x=true/\Pa z ps x=x:=by
 induction x using SV.rec (motive_2:=λl=>Mc p l=true->Fg k l=true/\Af z ps l=l) with
 |ob n=>
  refine λc=>⟨Nat.ble_eq_true_of_le (hp n c).2,?_⟩
  refine(?_:(match ix ps n with|some i=>SV.ob i|none=>.tp (z n))=_)
  exact rt ((hp n c).1 ..) rfl
 |tu l ih=>exact λc=>⟨(ih c).1,congrArg SV.tu (ih c).2⟩
 |fl l ih=>exact λc=>⟨(ih c).1,congrArg SV.fl (ih c).2⟩
 |nil=>exact⟨rfl,rfl⟩
 |cons x l ih il=>
  rename_i c
  exact Na c λa b=>⟨(Bool.and_eq_true _ _).mpr ⟨(ih a).1,(il b).1⟩,by
   refine(?_:Pa z ps x::Af z ps l=x::l)
   exact((ih a).2 ..).symm▸((il b).2 ..).symm▸rfl⟩
 |_=>exact λuu=>⟨rfl,rfl⟩
theorem wr{l:List SV}(c:Mc p l=true):Fg k l=true/\Af z ps l=l:=
 have y:=Oh (z:=z) hp (x:=.tu l) c
 ⟨y.1,congrArg (λx=>(SV.On x).getD []) y.2⟩
theorem Yv{K:Type}:∀{fs:List (K×SV)},ae p fs=true->yo k fs=true/\Rk z ps fs=fs
 |[],_=>⟨rfl,rfl⟩
 |q::l,c=>Na c λa b=>⟨(Bool.and_eq_true _ _).mpr ⟨(Oh (z:=z) hp a).1,(Yv b).1⟩,by
  refine(?_:(q.1,Pa z ps q.2)::Rk z ps l=q::l)
  exact((Oh (z:=z) hp a).2 ..).symm▸((Yv b).2 ..).symm▸rfl⟩
theorem uG:∀{l:List (Str×Nat)},(l.all λq=>p q.2)=true->Cm ps l=some l
 |[],_=>rfl
 |q::l,c=>Na c λa b=>by
  refine(?_:((ix ps q.2).bind λi=>(Cm ps l).bind λl=>some ((q.1,i)::l))=_)
  refine rt ((hp _ a).1 ..) (rt (uG b ..) ?_)
  rfl
theorem wG{o:AO}(c:Kz p o=true):zo z ps k o=some o:=Na c λc d=>by
 have w:∀{b:Bool} {x y:AO},b=true/\x=y->cond b (some x) none=some y:=λe=>by refine rt e.1 (rt e.2 ?_);rfl
 induction o using AO.casesOn with
 |bc C n=>refine(?_:(ix ps n).bind _=_);refine rt ((hp n d).1 ..) ?_;rfl
 |jb C n t=>refine(?_:(ix ps n).bind _=_);refine rt ((hp n d).1 ..) ?_;rfl
 |ns fs=>exact w ((Yv hp c).imp id (congrArg AO.ns))
 |Ha l=>exact w ((wr hp c).imp id (congrArg AO.Ha))
 |di fs=>exact w ((Yv hp c).imp id (congrArg AO.di))
 |dp kk e=>
  rcases e with _|v
  ·rfl
  exact w ((Oh hp c).imp id (congrArg λx=>AO.dp kk (some x)))
 |cell e=>
  rcases e with _|v
  ·rfl
  exact w ((Oh hp c).imp id (congrArg λx=>AO.cell (some x)))
 |fn b cl=>refine(?_:(Cm ps cl).bind _=_);refine rt (uG hp c ..) ?_;rfl
 |ls pre L l=>exact w ((wr hp c).imp id (congrArg (AO.ls pre L)))
 |dq kk x=>exact w ((Oh hp c).imp id (congrArg (AO.dq kk)))
 |li x i=>exact w ((Oh hp c).imp id (congrArg (AO.li · i)))
 |op _=>exact ft c
 |_=>rfl
theorem Lz{o:AO}(c:Ee p o=true):ig z ps k o=some o:=by
 unfold ig Ee at *
 rcases e:o.Gd with _|x
 ·replace c:=e▸c;exact wG hp c
 replace c:=e▸c
 refine(?_:(zo z ps k x).bind _=_)
 refine rt (wG hp c ..) ?_
 induction o using AO.casesOn<;>cases e<;>rfl
end
theorem oh{ps:List Nat}(nd:ps.Nodup){i n:Nat}(e:ps[i]?=some n):ix ps n=some i:=by
 rcases q:ix ps n with _|j
 ·exact absurd (List.mem_of_getElem? e) (Pk q)
 exact congrArg some ((List.getElem?_inj (List.getElem?_eq_some_iff.mp (Zd q)).1 nd).mp ((Zd q).trans e.symm))
theorem jg.of{ps:List Nat}:∀{j:Nat} {st F:St},(∀i,i<st.length->ix ps (j+i)=none->F[i]?=st[i]?)->jg ps j st F
 |_,[],_,_=>trivial
 |j,x::l,F,h=>by
  have t:jg ps (j+1) l F.tail:=jg.of λi hi q=>by
   have:=h (i+1) (Nat.succ_lt_succ hi) (by refine rt (Nat.add_comm i 1 ..) (rl (Nat.add_assoc ..) ?_);exact q)
   refine rt (List.getElem?_tail ..) ?_
   exact this
  refine(?_:match ix ps j with|some _=>_|none=>_)
  rcases q:ix ps j with _|_
  ·exact⟨by refine rt (List.head?_eq_getElem? ..) ?_;exact h 0 (Nat.succ_pos _) q,t⟩
  exact t
noncomputable abbrev Gc(N n k:Nat):List Nat:=List.range N++List.range' n k
section
variable {W:Wd}{hn bq:Hn}{D N n k:Nat}{fv v:SV}{vs:List SV}{S S' X E E0:St}{o o0:Except Nat SV}
theorem Jo(h:N<=n):(Gc N n k).Nodup:=List.nodup_append.mpr ⟨List.nodup_range,List.nodup_range',λa m b q e=>by
 have:=List.mem_range.mp m
 have:=(List.mem_range'_1.mp q).1
 lia⟩
theorem Vk{i:Nat}(h:i<N):(Gc N n k)[i]?=some i:=by
 exact(List.getElem?_append_left (by rw[List.length_range];exact h) ..).symm▸(List.getElem?_range h ..).symm▸rfl
theorem yr{i:Nat}(h:i<k):(Gc N n k)[N+i]?=some (n+i):=by
 rw[List.getElem?_append_right (by refine rt (List.length_range ..) ?_;lia),List.length_range,Nat.add_sub_cancel_left,List.getElem?_eq_getElem (by refine rt (List.length_range' ..) ?_;exact h),List.getElem_range',Nat.one_mul]
theorem yG{i p:Nat}(e:(Gc N n k)[i]?=some p):(i<N/\p=i)\/(N<=i/\n<=p):=by
 rcases Nat.lt_or_ge i N with l|l
 ·replace e:=(Vk l ..)▸e
  replace e:=Option.some.inj e;subst e
  exact .inl ⟨l,rfl⟩
 ·replace e:=(List.getElem?_append_right (by rw[List.length_range];exact l) ..)▸e
  exact .inr ⟨l,(List.mem_range'_1.mp (List.mem_of_getElem? e)).1⟩
theorem Nz{Q T:St}(z:Nat->Addr)(hl:Q.length=N)(hN:N<=n)(hq:Q.all (Ee λn=>Nat.blt n N)=true)(hT:∀i,i<N->T[i]?=Q[i]?)(lT:N<=T.length)(hE:∀i,i<k->∃x y,T[n+i]?=some x/\E0[i]?=some y/\ig z (Gc N n k) T.length x=some y)(h0:E0.length=k):
  Md z (Gc N n k) T=Q++E0/\cr z (Gc N n k) T=true:=by
 have e:∀i p,(Gc N n k)[i]?=some p->∃x y,T[p]?=some x/\(Q++E0)[i]?=some y/\ig z (Gc N n k) T.length x=some y:=λi p e=>by
  rcases Nat.lt_or_ge i N with l|l
  ·replace e:=(Vk l ..)▸e
   replace e:=Option.some.inj e;subst e
   have Xd:i<Q.length:=hl▸l
   have g:=List.getElem?_eq_getElem Xd
   refine⟨Q[i],Q[i],(hT i l).trans g,(List.getElem?_append_left Xd).trans g,Lz (λj h=>?_) (List.all_eq_true.mp hq _ (List.getElem_mem Xd))⟩
   have h:=Nat.le_of_ble_eq_true h
   exact⟨oh (Jo hN) (Vk h),Nat.lt_of_lt_of_le h lT⟩
  ·obtain⟨j,rfl⟩:=Nat.exists_eq_add_of_le l
   have hj:j<k:=by
    have:=(List.getElem?_eq_some_iff.mp e).1
    replace this:=(List.length_range' ..)▸(List.length_range ..)▸(List.length_append ..)▸this
    lia
   replace e:=(yr hj ..)▸e
   replace e:=Option.some.inj e;subst e
   rw[List.getElem?_append_right (by lia),hl,Nat.add_sub_cancel_left]
   exact hE j hj
 refine⟨List.ext_getElem? λi=>?_,List.all_eq_true.mpr λp m=>?_⟩
 ·unfold Md
  refine rt (List.getElem?_map ..) ?_
  rcases q:(Gc N n k)[i]? with _|p
  ·have:=List.getElem?_eq_none_iff.mp q
   replace this:=(List.length_range' ..)▸(List.length_range ..)▸(List.length_append ..)▸this
   exact(List.getElem?_eq_none (by refine rt (List.length_append ..) (rt (hl ..) (rt (h0 ..) ?_));exact this)).symm
  obtain⟨x,y,e1,e2,e3⟩:=e i p q
  refine rt e2 ?_
  refine(?_:some (Nj z _ _ ((T[p]?).getD .ta))=_)
  unfold Nj
  refine rt e1 ?_
  refine(?_:some (Option.getD (ig z _ _ x) .ta)=_)
  refine rt e3 ?_
  rfl
 ·obtain⟨i,q⟩:=List.getElem?_of_mem m
  obtain⟨x,y,e1,e2,e3⟩:=e i p q
  refine rt e1 ?_
  refine(?_:(ig z _ _ x).isSome=true)
  refine rt e3 ?_
  rfl
theorem Zv{Q X:St}(z:Nat->Addr)(hl:Q.length=N)(hq:Q.all (Ee λn=>Nat.blt n N)=true):Md z (List.range N) (Q++X)=Q:=by
 have:=(Nz (T:=Q++X) (k:=0) (n:=N) (E0:=[]) z hl (Nat.le_refl _) hq (λi h=>List.getElem?_append_left (hl▸h)) (by refine rt (List.length_append ..) (rt (hl ..) ?_);exact Nat.le_add_right ..) (λi h=>absurd h (Nat.not_lt_zero i)) rfl).1
 replace this:=(List.append_nil ..)▸this
 exact(congrArg (λps=>Md z ps (Q++X)) (show List.range N=Gc N N 0 from(List.append_nil _).symm)).trans this
theorem ba.zG(hS:S.length=N)(Vc:S'.length=N)(hv:Mc (λn=>Nat.blt n N) (fv::vs)=true)(h1:S.all (Ee λn=>Nat.blt n N)=true)(h2:S'.all (Ee λn=>Nat.blt n N)=true)
  (hE:∀z i,i<E.length->∃x y,E[i]?=some x/\E0[i]?=some y/\ig z (Gc N (N+X.length) E.length) (N+X.length+E.length) x=some y) (h0:E0.length=E.length) (ho:Co (N+X.length+E.length) (Gc N (N+X.length) E.length) o=true) (hM:∀z,Ao z (Gc N (N+X.length) E.length) o=o0)
  (hm:∀n,N<=n->W.mv n=false) (hX:(∀n,W.mv n=false)\/X.all (yg W.mv)=true) (hh:Tk (S++X) (List.range N) hn=bq) (c:∀fd,ba (W.on fd) bq D fv vs S o0 (S'++E0)):ba W hn D fv vs (S++X) o (S'++(X++E)):=by
 have lS:(S++X).length=N+X.length:=by exact(List.length_append ..).symm▸(hS ..).symm▸rfl
 have Zs:(S'++(X++E)).length=N+X.length+E.length:=by exact(List.length_append ..).symm▸(List.length_append ..).symm▸(Vc ..).symm▸(Nat.add_assoc ..).symm▸rfl
 have eP:qf (List.range N) (S++X).length (S'++(X++E)).length=Gc N (N+X.length) E.length:=by
  unfold qf
  exact(lS ..).symm▸(Zs ..).symm▸(Nat.add_sub_cancel_left ..).symm▸rfl
 have rn:∀n,n<N->ix (List.range N) n=some n:=λn h=>oh List.nodup_range (List.getElem?_range h)
 have Tl:∀{n},ix (List.range N) n=none->N<=n:=λ{n} q=>Nat.not_lt.mp λl=>Fa (q.symm.trans (rn n l))
 have hp:∀n,Nat.blt n N=true->ix (List.range N) n=some n/\n<N+X.length:=λn h=>⟨rn n (Nat.le_of_ble_eq_true h),Nat.lt_of_lt_of_le (Nat.le_of_ble_eq_true h) (Nat.le_add_right ..)⟩
 have c2:=λz=>Nz (T:=S'++(X++E)) (n:=N+X.length) z Vc (Nat.le_add_right N X.length) h2 (λi h=>List.getElem?_append_left (Vc.symm▸h)) (by refine rt Zs ?_;lia) (λi h=>(hE z i h).imp λx q=>q.imp λy q=>⟨by
  rw[List.getElem?_append_right (by lia),Vc,List.getElem?_append_right (by lia),show N+X.length+i - N - X.length=i by lia]
  exact q.1,q.2.1,Zs.symm▸q.2.2⟩) h0
 refine ba.frame (List.range N) List.nodup_range (λp m=>by refine lS.symm▸?_;exact Nat.lt_of_lt_of_le (List.mem_range.mp m) (Nat.le_add_right ..)) (by refine rt lS (rt Zs ?_);exact Nat.le_add_right ..) (by refine rt lS ?_;exact(wr (z:=λuu=>0) hp hv).1)
  (jg.of λi hi q=>by
   have l:N<=i:=Tl (by replace q:=(Nat.zero_add ..)▸q;exact q)
   replace hi:=lS▸hi
   rw[List.getElem?_append_right (Vc.symm▸l),Vc,List.getElem?_append_left (by lia),List.getElem?_append_right (hS.symm▸l),hS]) (λz=>by refine rt eP ?_;exact(c2 z).2) (by refine rt eP (rt Zs ?_);exact ho)
  ⟨λi p e=>?_,λn q=>hm n (Tl q),λn q=>hm n (by replace q:=(List.length_range ..)▸q;exact q),λj o e q=>hX.imp id λhX=>List.all_eq_true.mp hX o ?_⟩ λfd z=>?_
 ·replace e:=eP▸e
  rcases yG e with⟨_,rfl⟩|⟨l1,l2⟩
  ·rfl
  ·exact(hm i l1 ..).symm▸(hm p (by lia) ..).symm▸rfl
 ·replace e:=(List.getElem?_append_right (hS.symm▸Tl q) ..)▸e
  exact List.mem_of_getElem? e
 ·have b:=(wr (z:=z) hp hv).2
  refine rt (eP ..) (rt (hh ..) (rt (Zv z hS h1 ..) (rt ((c2 z).1 ..) (rt (hM ..) (rt ((List.cons.inj b).1 ..) (rt ((List.cons.inj b).2 ..) ?_))))))
  exact c fd
theorem ba.AG(hS:S.length=N)(Vc:S'.length=N)(hv:Mc (λn=>Nat.blt n N) (v::fv::vs)=true)(h1:S.all (Ee λn=>Nat.blt n N)=true)(h2:S'.all (Ee λn=>Nat.blt n N)=true)
  (hm:∀n,N<=n->W.mv n=false) (hX:(∀n,W.mv n=false)\/X.all (yg W.mv)=true) (hh:Tk (S++X) (List.range N) hn=bq) (c:∀fd,ba (W.on fd) bq D fv vs S (.ok v) S'):ba W hn D fv vs (S++X) (.ok v) (S'++X):=Na hv λhr hv=>by
 have y:=λz=>Oh (z:=z) (ps:=Gc N (N+X.length) 0) (k:=N+X.length) (λj h=>have h:=Nat.le_of_ble_eq_true h;⟨oh (Jo (Nat.le_add_right ..)) (Vk h),Nat.lt_of_lt_of_le h (Nat.le_add_right ..)⟩) hr
 have:=ba.zG (E:=[]) (E0:=[]) (X:=X) (o:=.ok v) (o0:=.ok v) (hn:=hn) hS Vc hv h1 h2 (λz i h=>absurd h (Nat.not_lt_zero i)) rfl (y λuu=>0).1 (λz=>congrArg Except.ok (y z).2) hm hX hh (by rw[List.append_nil];exact c)
 replace this:=(List.append_nil ..)▸this
 exact this
theorem ba.ON{C:Addr}{fs:List (Str×SV)}(hS:S.length=N)(Vc:S'.length=N)(hv:Mc (λn=>Nat.blt n N) (fv::vs)=true)(hf:ae (λn=>Nat.blt n N) fs=true)(h1:S.all (Ee λn=>Nat.blt n N)=true)(h2:S'.all (Ee λn=>Nat.blt n N)=true)
  (hm:∀n,N<=n->W.mv n=false) (hX:(∀n,W.mv n=false)\/X.all (yg W.mv)=true) (hh:Tk (S++X) (List.range N) hn=bq) (c:∀fd,ba (W.on fd) bq D fv vs S (.error N) (S'++[.jb C (N+1) true,.ns fs])):ba W hn D fv vs (S++X) (.error (N+X.length)) (S'++(X++[.jb C (N+X.length+1) true,.ns fs])):=by
 have i0:ix (Gc N (N+X.length) 2) (N+X.length)=some N:=oh (Jo (Nat.le_add_right ..)) (yr (i:=0) (by decide))
 have i1:ix (Gc N (N+X.length) 2) (N+X.length+1)=some (N+1):=oh (Jo (Nat.le_add_right ..)) (yr (i:=1) (by decide))
 refine ba.zG (E0:=[.jb C (N+1) true,.ns fs]) hS Vc hv h1 h2 (λz i h=>?_) rfl ?_ (λz=>?_) hm hX hh c
 ·rcases i with _|_|i
  ·refine⟨_,_,rfl,rfl,?_⟩
   refine(?_:(ix (Gc N (N+X.length) 2) (N+X.length+1)).bind _=_)
   refine rt i1 ?_
   rfl
  ·exact⟨_,_,rfl,rfl,Lz (λj h=>have h:=Nat.le_of_ble_eq_true h;⟨oh (Jo (Nat.le_add_right ..)) (Vk h),Nat.lt_of_lt_of_le h (by lia)⟩) (o:=.ns fs) ((Bool.and_eq_true _ _).mpr ⟨hf,rfl⟩)⟩
  ·exact absurd h (by refine(?_:¬i+1+1<2);lia)
 ·refine(?_:(ix (Gc N (N+X.length) 2) (N+X.length)).isSome=true)
  refine rt i0 ?_
  rfl
 ·refine(?_:Except.error ((ix (Gc N (N+X.length) 2) (N+X.length)).getD 0)=_)
  refine rt i0 ?_
  rfl
theorem ba.Eg{st G:St}(qD:st.length=N)(Vc:S'.length=N)(hv:De (λn=>Nat.blt n N) v=true)(h2:S'.all (Ee λn=>Nat.blt n N)=true)(hm:∀n,N<=n->W.mv n=false)(c:ba W hn D fv vs st (.ok v) (S'++G)):ba W hn D fv vs st (.ok v) S':=by
 have lg:(S'++G).length=N+G.length:=by exact(List.length_append ..).symm▸(Vc ..).symm▸rfl
 have rn:∀n,n<N->ix (List.range N) n=some n:=λn h=>oh List.nodup_range (List.getElem?_range h)
 have y:=λz=>Oh (z:=z) (ps:=List.range N) (k:=N+G.length) (λj h=>have h:=Nat.le_of_ble_eq_true h;⟨rn j h,Nat.lt_of_lt_of_le h (Nat.le_add_right ..)⟩) hv
 refine c.mh (List.range N) List.nodup_range (λp m=>by refine lg.symm▸?_;exact Nat.lt_of_lt_of_le (List.mem_range.mp m) (Nat.le_add_right ..)) (λi hi=>List.getElem?_range (qD▸hi)) (λz=>?_) (λz=>congrArg Except.ok (y z).2) (by refine rt lg ?_;exact(y λuu=>0).1)
  ⟨λi p e=>(List.getElem?_eq_some_iff.mp e).elim λuu q=>by replace q:=(List.getElem_range ..)▸q;exact q.symm▸rfl,λn q=>hm n (Nat.not_lt.mp λl=>Fa (q.symm.trans (rn n l))),λn q=>hm n (by replace q:=(List.length_range ..)▸q;exact q)⟩
 exact Zv z Vc h2
theorem ba.PN{st G G':St}{C:Addr}{fs:List (Str×SV)}{n:Nat}(qD:st.length=N)(Vc:S'.length=N)(hf:ae (λn=>Nat.blt n N) fs=true)(h2:S'.all (Ee λn=>Nat.blt n N)=true)(hm:∀n,N<=n->W.mv n=false)(hn':n=N+G.length)(c:ba W hn D fv vs st (.error n) (S'++(G++.jb C (n+1) true::.ns fs::G'))):ba W hn D fv vs st (.error N) (S'++[.jb C (N+1) true,.ns fs]):=by
 subst hn'
 have nd:(Gc N (N+G.length) 2).Nodup:=Jo (Nat.le_add_right ..)
 have i0:ix (Gc N (N+G.length) 2) (N+G.length)=some N:=oh nd (yr (i:=0) (by decide))
 have i1:ix (Gc N (N+G.length) 2) (N+G.length+1)=some (N+1):=oh nd (yr (i:=1) (by decide))
 have lg:(S'++(G++.jb C (N+G.length+1) true::.ns fs::G')).length=N+G.length+2+G'.length:=by
  refine rt (List.length_append ..) (rt (List.length_append ..) (rt (Vc ..) (rt (List.length_cons ..) (rt (List.length_cons ..) ?_))))
  lia
 have lt:∀p∈Gc N (N+G.length) 2,p<N+G.length+2:=λp m=>(List.mem_append.mp m).elim (λm=>by have:=List.mem_range.mp m;lia) λm=>(List.mem_range'_1.mp m).2
 refine c.mh (Gc N (N+G.length) 2) nd (λp m=>by refine lg.symm▸?_;exact Nat.lt_of_lt_of_le (lt p m) (Nat.le_add_right ..)) (λi hi=>Vk (qD▸hi)) (λz=>?_) (λz=>?_) ?_ ⟨λi p e=>?_,λj q=>hm j (Nat.not_lt.mp λl=>Fa (q.symm.trans (oh nd (Vk l)))),λj q=>hm j (by replace q:=(List.length_range ..)▸(List.length_append ..)▸q;lia)⟩
 ·have wd:∀j,(S'++(G++.jb C (N+G.length+1) true::.ns fs::G'))[N+G.length+j]?=(AO.jb C (N+G.length+1) true::.ns fs::G')[j]?:=λj=>by
   rw[List.getElem?_append_right (by lia),Vc,List.getElem?_append_right (by lia),show N+G.length+j - N - G.length=j by lia]
  refine(Nz (E0:=[.jb C (N+1) true,.ns fs]) z Vc (Nat.le_add_right N G.length) h2 (λi h=>List.getElem?_append_left (Vc.symm▸h)) (by refine lg.symm▸?_;lia) (λi h=>?_) rfl).1
  rcases i with _|_|i
  ·refine⟨_,_,wd 0,rfl,?_⟩
   refine(?_:(ix (Gc N (N+G.length) 2) (N+G.length+1)).bind _=_)
   refine rt i1 ?_
   rfl
  ·exact⟨_,_,wd 1,rfl,Lz (λj h=>have h:=Nat.le_of_ble_eq_true h;⟨oh nd (Vk h),by refine rt lg ?_;lia⟩) (o:=.ns fs) ((Bool.and_eq_true _ _).mpr ⟨hf,rfl⟩)⟩
  ·exact absurd h (by refine(?_:¬i+1+1<2);lia)
 ·refine(?_:Except.error ((ix (Gc N (N+G.length) 2) (N+G.length)).getD 0)=_)
  refine rt i0 ?_
  rfl
 ·refine(?_:(ix (Gc N (N+G.length) 2) (N+G.length)).isSome=true)
  refine rt i0 ?_
  rfl
 ·rcases yG e with⟨_,rfl⟩|⟨l1,l2⟩
  ·rfl
  ·exact(hm i l1 ..).symm▸(hm p (by lia) ..).symm▸rfl
end
end
noncomputable def aLk{α:Type}(a:Nat):List (Nat×α)->Option α
 |[]=>none
 |p::r=>match Nat.beq p.1 a with
  |true=>some p.2
  |false=>aLk a r
noncomputable def sLk{α:Type}(x:Str):List (Str×α)->Option α
 |[]=>none
 |p::r=>match Oa p.1 x with
  |true=>some p.2
  |false=>sLk x r
noncomputable def sIn(x:Str):List Str->Bool
 |[]=>false
 |y::r=>match Oa y x with
  |true=>true
  |false=>sIn x r
structure TL where
 jf:List (Nat×List Str)
 kf:List (Nat×List Str)
 gl:List (Str×SV)
 fn:List (Nat×ah)
 me:List (Nat×List (Str×Addr))
 zg:List (Nat×Addr)
 cf:List (Nat×List (Str×Addr))
 sd:List (Nat×List (Str×SV))
 kp:List (Nat×Unit)
 We:List (Nat×List (Nat×Bool))
 xm:List (Nat×List (Nat×Bool))
 pe:List (Nat×Addr)
 xr:List (Nat×Unit)
 ct:List (Nat×Addr)
noncomputable def TL.tb(t:TL):Tb where
 jf C n:=match aLk C t.jf with
  |some l=>sIn n l
  |none=>false
 kf C n:=match aLk C t.kf with
  |some l=>sIn n l
  |none=>false
 gl x:=sLk x t.gl
 fn f:=aLk f t.fn
 me C n:=(aLk C t.me).bind λl=>sLk n l
 zg C:=aLk C t.zg
 cf C n:=(aLk C t.cf).bind λl=>sLk n l
 sd a k:=(aLk a t.sd).bind λl=>sLk k l
 kp a:=match aLk a t.kp with
  |some _=>true
  |none=>false
 We C c:=match c with
  |.tp a=>(aLk C t.We).bind λl=>aLk a l
  |_=>none
 Ih k c:=match c with
  |.tp a=>(aLk a t.We).bind λuu=>some false
  |.ty .str=>some (match k with
   |1=>true
   |_=>false)
  |_=>none
 xm C c:=match c with
  |.tp a=>(aLk C t.xm).bind λl=>aLk a l
  |_=>none
 pe C:=aLk C t.pe
 cp _:=false
 xr C:=match aLk C t.xr with
  |some _=>true
  |none=>false
 ka _ _:=none
 cq _:=False
 ct c:=aLk c t.ct
noncomputable abbrev pw:Program:=PySem.Challenge.pw_qz0126_01
noncomputable def bd:List Stmt:=behindTheImports pw
noncomputable abbrev S:String->Str:=Str.ofString
noncomputable abbrev vs(s:String)(n:Nat):Value:=.str (Str.ofString s) n
noncomputable abbrev vr:Addr->Value:=.ref
noncomputable abbrev vi:Int->Nat->Value:=.int
noncomputable abbrev vN:Value:=.none
noncomputable abbrev vF:Value:=.bool false
noncomputable abbrev vT:Value:=.bool true
noncomputable abbrev vt:String->Value:=.type
noncomputable abbrev vb:String->Value:=.builtin
noncomputable abbrev ob(c:Value)(d:Option Addr)(x:Data)(s:Array (Option Value)):Obj:=⟨c,d,x,s⟩
noncomputable abbrev dF:Array Value->Data:=.fields
noncomputable abbrev dS(l:Array Value)(n:Nat):Data:=.seq l n
noncomputable abbrev dD(l:Array DictEntry)(n:Nat):Data:=.dict l n
noncomputable abbrev dP:Data:=.plain
noncomputable abbrev dU:FuncData->Data:=.func
noncomputable abbrev dC:ClassData->Data:=.cls
noncomputable abbrev en(P:Params)(s:String)(n:Nat)(v:Value):DictEntry:=⟨PyData.keyHash P (Str.ofString s),.str (Str.ofString s) n,v⟩
noncomputable def iL:Nat->List Stmt->Stmt
 |_,[]=>.Pass default
 |0,s::_=>s
 |n+1,_::l=>iL n l
noncomputable def st(n:Nat):Stmt:=iL n bd
noncomputable def iO:Stmt->Nat->Stmt
 |.FunctionDef _ _ b _ _ _ _ _ _ _,n=>iL n b
 |.ClassDef _ _ _ b _ _ _ _ _ _ _,n=>iL n b
 |s,_=>s
noncomputable def bO:Stmt->FuncBody
 |.FunctionDef _ _ b _ _ _ _ _ _ _=>.stmts b
 |_=>.stmts []
noncomputable def aO:Stmt->Arguments
 |.FunctionDef _ a _ _ _ _ _ _ _ _=>a
 |_=>default
noncomputable def sO:Stmt->Scope
 |.FunctionDef _ _ _ _ _ _ s _ _ _=>s
 |_=>default
noncomputable def Ko:BT->Nat->List Obj->BT
 |t,_,[]=>t
 |t,n,o::l=>Ko (t.ins n o) (n+1) l
noncomputable def QN:BT->List (Nat×Obj)->BT
 |t,[]=>t
 |t,(i,o)::l=>QN (t.set i λ_=>o) l
noncomputable def Xq{α:Type}:Nat->List α->List α
 |0,_=>[]
 |_,[]=>[]
 |n+1,a::l=>a::Xq n l
noncomputable def Oz{α:Type}:Nat->List α->List α
 |0,l=>l
 |_,[]=>[]
 |n+1,_::l=>Oz n l
noncomputable def Hg:Stmt->Str
 |.FunctionDef n _ _ _ _ _ _ _ _ _=>n
 |_=>default
noncomputable def Mo:Stmt->Nat
 |.FunctionDef _ _ _ _ _ _ _ _ _ p=>p.line
 |_=>0
noncomputable def Qj(l:List Value):Obj:=ob (vt "tuple") none (dS ⟨l⟩ 0) ⟨[]⟩
noncomputable def Pz(l:List Value):Obj:=ob vN none (dF ⟨l⟩) ⟨[]⟩
noncomputable def BG:List (Nat×Nat)->List Value
 |[]=>[]
 |p::l=>vi p.1 0::vi 0 0::vr p.2::BG l
noncomputable def RN(l:List (Nat×Nat)):Obj:=Pz (BG l)
noncomputable def SN(t:Nat):List String->List Value
 |[]=>[]
 |s::l=>vs s t::SN (t+1) l
noncomputable def aw(c:Value)(q:Str)(X:Stmt)(n:Nat)(k m r:Value):Obj:=ob c none (dU (FuncData.mk (Hg X) (q++Hg X) (aO X) (bO X) (sO X) n [] k vN vN m none r vN 0)) ⟨[]⟩
noncomputable def Qz(n q:Str)(l c f a t u:Nat)(b:Value)(x:List Value):Obj:=ob (vt "code") none (dF ⟨[.str n t,.str q (t+1),vs "/claim/cut.py" (t+2),vi l 0,vi c 0,vi 0 0,vi 0 0,vi f 0,vr a,b,vi 181 0,vr (a+1),vN]++x++[vi u 0,vi l 0,vs "/claim/cut.py" (u+1)]⟩) ⟨[]⟩
noncomputable def eS(P:Params)(s:Str)(n:Nat)(v:Value):DictEntry:=⟨PyData.keyHash P s,.str s n,v⟩
noncomputable def sL:Nat->List Str->List Value
 |_,[]=>[]
 |t,s::l=>.str s t::sL (t+1) l
noncomputable def zr(X:Stmt):List Str×List Str:=(localNames (aO X) (sO X) (bO X)).getD ([],[])
noncomputable def zO(X:Stmt):Bool:=[251,280,314,516,787,789,856,924].any λn=>Nat.beq n (Mo X)
noncomputable def fN(X:Stmt):Nat:=cond (zO X) 5 7
noncomputable def fT(X:Stmt):Nat:=5+(zr X).1.length+(zr X).2.length
noncomputable def fO(q:Str)(m k:Value)(X:Stmt)(a t:Nat):List Obj:=Qj []::Pz []::cond (zO X)
 [aw vN q X 0 vN vN vN,Qz (Hg X) (q++Hg X) (Mo X) (aO X).args.length 3 a t (t+3) vT [vN,vN,vr (a+2)],aw (vt "function") q X 3 k m (vr (a+3))]
 [Qj (sL (t+3) (zr X).1),Qj (sL (t+3+(zr X).1.length) (zr X).2),aw vN q X 0 vN vN vN,
  Qz (Hg X) (q++Hg X) (Mo X) (aO X).args.length 3 a t (t+fT X - 2) vT [vr (a+2),vr (a+3),vr (a+4)],aw (vt "function") q X 3 k m (vr (a+5))]
structure Mz where
 o:List Obj
 e:List DictEntry
 l:List Value
 a:Nat
 t:Nat
noncomputable def TN:Stmt->Bool
 |.FunctionDef _ _ _ _ _ _ _ _ _ _=>true
 |_=>false
noncomputable def mS(P:Params)(q:Str)(m:Value):List Stmt->Value->Nat->Nat->Mz
 |[],_,a,t=>⟨[],[],[],a,t⟩
 |X::r,k,a,t=>cond (TN X) (let y:=mS P q m r vN (a+fN X) (t+fT X+1);⟨fO q m k X a t++y.o,eS P (Hg X) (t+fT X) (vr (a+fN X - 1))::y.e,vi (Mo X) 0::vi 4 0::vr (a+fN X - 2)::y.l,y.a,y.t⟩) (mS P q m r k a t)
structure Gs where
 T:BT
 e:List DictEntry
 l:List (Nat×Nat)
 a:Nat
 t:Nat
 m:Value
 p:Pos
noncomputable def bF:Obj:=ob (vt "builtin_function_or_method") none (dF ⟨[vb "type.__prepare__",vt "type"]⟩) ⟨[]⟩
noncomputable def dO(l:List DictEntry)(n:Nat):Obj:=ob (vt "dict") none (dD ⟨l⟩ n) ⟨[]⟩
noncomputable def CG(l:List Value):Obj:=ob (vt "getset_descriptor") none (dF ⟨l⟩) ⟨[]⟩
noncomputable def UN(v:Value)(o:Obj):Obj:=match o with
 |⟨c,d,.cls x,s⟩=>⟨c,d,.cls {x with subclasses:=x.subclasses++[v]},s⟩
 |o=>o
noncomputable def VN:Stmt->List Stmt
 |.ClassDef _ _ _ b _ _ _ _ _ _ _=>b
 |_=>[]
noncomputable def DG:Stmt->Str
 |.ClassDef n _ _ _ _ _ _ _ _ _ _=>n
 |_=>default
noncomputable def EG:Stmt->List Str
 |.ClassDef _ _ _ _ _ _ _ _ _ s _=>s
 |_=>default
noncomputable def Rz:Stmt->Nat
 |.ClassDef _ _ _ _ _ _ _ _ _ _ p=>p.line
 |_=>0
noncomputable def pa:List Value->BT->Value->BT
 |[.ref p],T,v=>T.set p (UN v)
 |_,T,_=>T
noncomputable def gB(P:Params)(bs b mr:List Value)(g:Nat)(w:String)(x:Nat)(dv:List Value)(dt i:Nat)(z:Gs):Gs:=
 let C:=st i
 let n:=DG C
 let a:=z.a
 let K:=z.t
 let M:=mS P (n++S ".") z.m (VN C) (cond dv.isEmpty vN (vr (a+7))) (cond dv.isEmpty (a+7) (a+8)) (K+12+dt)
 let A:=M.a+2
 let v:=M.t+(EG C).length+1
 let e0:=en P "__module__" (K+7) z.m
 let e1:=en P "__firstlineno__" (K+11) (vi (Rz C) (K+10))
 let e2:=M.e++[en P "__static_attributes__" (v - 1) (vr M.a)]
 let u:=v+2 * g
 let q:=n
 ⟨pa b (Ko z.T a ([Qj bs,bF,dO (e0::en P "__qualname__" (K+9) (.str q (K+8))::e1::e2) (3+e2.length),Qj [],Pz M.l,
  Qz n q (Rz C) 0 0 (a+3) (K+2) (K+5) vF [vN,vN,vN],ob (vt "frame") none dP ⟨[some (vr (a+5)),some (vr 3),some (vr (a+2)),none,some z.m,none,some (vr 0)]⟩]++
  (cond dv.isEmpty [] [Qj dv]++(M.o++[Qj (sL M.t (EG C)),
   dO (e0::e1::e2++(cond (Nat.beq g 2) [en P "__dict__" (v+1) (vr (A+1))] []++(cond (Nat.ble 1 g) [en P "__weakref__" (u - 1) (vr (A+g))] []++[en P "__doc__" u vN]))) (2+g),
   ob (vt "type") none (dC (ClassData.mk n b (vr A::mr) (M.a+1) q true [] [] false none false)) ⟨[cond (Nat.beq g 2) none (some (vr a)),none,some (.str n K),some (.str q (K+8)),some (vb w),some vT]⟩]++
   (cond (Nat.beq g 2) [CG [vs "__dict__" v,vr A,vb "function.__dict__",vb "function.__dict__#set"]] []++(cond (Nat.ble 1 g) [CG [vs "__weakref__" (u - 2),vr A,vb "ExceptionGroup.__weakref__",vN]] []++
   [ob (vt "super") none (dF ⟨[vr A,vr A,vr A]⟩) ⟨[]⟩,ob (vt "builtin_function_or_method") none (dF ⟨[vb "object.__init_subclass__",vr A]⟩) ⟨[]⟩])))))) (vr A),
  z.e++[eS P n (u+2+x) (vr A)],z.l++[(Rz C,a+5)],A+3+g,u+3+x,z.m,z.p⟩
noncomputable def cG(P:Params)(i:Nat)(z:Gs)(dv:List Value:=[])(dt:Nat:=0):Gs:=gB P [] [vt "object"] [vt "object"] 2 "object.__new__" 0 dv dt i z
noncomputable def kG(P:Params)(i:Nat)(z:Gs):Gs:=gB P [vr 38] [vr 38] [vr 38,vt "object"] 0 "object.__new__" 0 [] 0 i z
noncomputable def xG(P:Params)(i:Nat)(z:Gs):Gs:=gB P [vr 585] [vr 585] [vr 585,vt "Exception",vt "BaseException",vt "object"] 0 "Exception.__new__" 0 [] 0 i z
noncomputable def fG(P:Params)(z:Gs)(i:Nat):Gs:=
 let X:=st i
 ⟨Ko z.T z.a (fO (S "") z.m vN X z.a z.t),z.e++[eS P (Hg X) (z.t+fT X) (vr (z.a+fN X - 1))],z.l++[(Mo X,z.a+fN X - 2)],z.a+fN X,z.t+fT X+1,z.m,z.p⟩
noncomputable def fR(P:Params):Nat->Nat->Gs->Gs
 |0,_,z=>z
 |n+1,i,z=>fR P n (i+1) (fG P z i)
noncomputable def mG(s:String)(z:Gs):Gs:={z with t:=z.t+2,m:=vs s z.t}
noncomputable def vG(P:Params)(s:String)(v:Value)(l:List Obj)(d:Nat)(z:Gs):Gs:={z with T:=Ko z.T z.a l,e:=z.e++[en P s (z.t+d) v],a:=z.a+l.length,t:=z.t+d+1}
noncomputable def mk(P:Params)(z:Gs)(n t:Nat)(p:Pos):Gs:={z with p:=p,T:=(z.T.set 3 λ_=>dO (en P "__name__" 165 z.m::z.e) (1+z.e.length)).set 12 λ_=>RN z.l,a:=n,t:=t}
noncomputable def WN(P:Params):Obj:=(ob (vt "tuple") none (dS ⟨[]⟩ 0) ⟨[]⟩)
noncomputable def XN(P:Params):Obj:=(ob vN none (dF ⟨[]⟩) ⟨[]⟩)
noncomputable def YN(P:Params):Obj:=(ob (vt "code") none (dF ⟨[(vs "<module>" 182),(vs "<module>" 183),(vs "/claim/cut.py" 184),(vi 1 0),(vi 0 0),(vi 0 0),(vi 0 0),(vi 0 0),(vr 11),(vF),(vi 181 0),(vr 12),vN,vN,vN,vN,(vi 185 0),(vi 1 0),(vs "/claim/cut.py" 186)]⟩) ⟨[]⟩)
noncomputable def ZN(P:Params):Obj:=(ob (vt "frame") none dP ⟨[(some (vr 13)),(some (vr 3)),(some (vr 3)),none,(some (vs "__main__" 164)),none,(some (vr 0))]⟩)
noncomputable def T0(P:Params):BT:=Ko .nil 0 [boot_o_0 P,boot_o_1 P,boot_o_2 P,boot_o_3 P,boot_o_4 P,boot_o_5 P,boot_o_6 P,boot_o_7 P,boot_o_8 P,boot_o_9 P,boot_o_10 P,WN P,XN P,YN P,ZN P]
noncomputable def Y0(P:Params):Gs:=⟨T0 P,[en P "__doc__" 166 vN,en P "__package__" 167 vN,en P "__loader__" 168 (vb "__main__.__loader__#opaque"),en P "__spec__" 169 vN,en P "__annotations__" 170 (vr 6),en P "__builtins__" 171 (vr 4),en P "__file__" 173 (vs "/claim/cut.py" 172),en P "__cached__" 174 vN],[],15,187,vs "__main__" 164,⟨0,0,0,0⟩⟩
noncomputable def gG(P:Params)(z:Gs):Gs:=
 let X:=st 114
 ⟨Ko z.T z.a (Qj [vF]::fO (S "") z.m (vr z.a) X (z.a+1) z.t),z.e++[eS P (Hg X) (z.t+fT X) (vr (z.a+7))],z.l++[(Mo X,z.a+6)],z.a+8,z.t+fT X+1,z.m,z.p⟩
noncomputable def sb(P:Params)(z:Gs):Gs:={z with T:=z.T.set 2 λ_=>ob vN none (dD ⟨[en P "type.__subclasses__.Exception.0" 986 (vi 585 0),en P "type.__subclasses__.Exception.n" 987 (vi 1 0)]⟩ 2) ⟨[]⟩}
noncomputable def Y1(P:Params):Gs:=mk P (kG P 3 ((cG P 2 ·) (mG "perlcore.values" (fR P 1 0 (Y0 P))))) 62 257 ⟨14,0,19,25⟩
noncomputable def Y2(P:Params):Gs:=mk P (kG P 5 (kG P 4 (Y1 P))) 100 310 ⟨26,0,32,24⟩
noncomputable def Y3(P:Params):Gs:=mk P (kG P 7 (kG P 6 (Y2 P))) 138 370 ⟨41,0,49,24⟩
noncomputable def Y4(P:Params):Gs:=mk P ((cG P 8 · [vF]) (Y3 P)) 160 401 ⟨50,0,54,30⟩
noncomputable def Y5(P:Params):Gs:=mk P (fR P 2 16 (mG "perlcore.hashops" (fR P 1 14 (mG "perlcore.listops" (fR P 2 11 (mG "perlcore.convert" ((cG P 9 ·) (Y4 P)))))))) 258 526 ⟨104,0,109,59⟩
noncomputable def Y6(P:Params):Gs:=mk P (fR P 17 21 (vG P "LAST_PATTERN" (vr 265) [Qj [vs "" 537,vs "last" 538]] 2 (mG "perlcore.dynamic" (fR P 1 18 (Y5 P))))) 385 692 ⟨196,0,197,29⟩
noncomputable def Y7(P:Params):Gs:=mk P (mG "perlcore.counts" (fR P 6 39 (vG P "UNDOERS" (vr 385) [dO [en P "scalar" 692 (vr 314),en P "array" 693 (vr 321),en P "hash" 694 (vr 328),en P "code" 695 (vr 335),en P "elem" 696 (vr 342),en P "helem" 697 (vr 349),en P "pad" 698 (vr 363),en P "slot" 699 (vr 370),en P "match" 700 (vr 377),en P "package" 701 (vr 384),en P "tiedelem" 702 (vr 356),en P "tiedkey" 703 (vr 356)] 12] 24 (Y6 P)))) 428 775 ⟨239,0,239,8⟩
noncomputable def Y8(P:Params):Gs:=mk P (fR P 4 47 ((cG P 46 ·) (Y7 P))) 473 831 ⟨280,0,285,54⟩
noncomputable def Y9(P:Params):Gs:=mk P (mG "perlcore.errors" ((cG P 51 ·) (Y8 P))) 569 961 ⟨373,0,373,8⟩
noncomputable def bw(P:Params):Gs:=mk P (sb P (xG P 54 (gB P [vt "Exception"] [vt "Exception"] [vt "Exception",vt "BaseException",vt "object"] 1 "Exception.__new__" 2 [] 0 53 (Y9 P)))) 608 1015 ⟨379,0,383,26⟩
noncomputable def cw(P:Params):Gs:=mk P (xG P 56 (xG P 55 (bw P))) 646 1067 ⟨390,0,394,26⟩
noncomputable def dw(P:Params):Gs:=mk P (xG P 58 (xG P 57 (cw P))) 677 1109 ⟨400,0,401,8⟩
noncomputable def fw(P:Params):Gs:=mk P (vG P "LIST" (vi 2 1165) [] 1 (vG P "SCALAR" (vi 1 1163) [] 1 (vG P "VOID" (vi 0 1161) [] 1 (mG "perlcore.frames" (fR P 3 61 (mG "perlcore.valueops" (xG P 59 (dw P)))))))) 717 1167 ⟨425,0,425,4⟩
noncomputable def iw(P:Params):Gs:=mk P (fR P 4 70 ((cG P 69 ·) ((cG P 68 ·) (fw P)))) 787 1289 ⟨465,0,468,16⟩
noncomputable def lw(P:Params):Gs:=mk P ((cG P 80 ·) (mG "perlcore.recompile" ((cG P 78 · [vi 64 1331,vi 50 1332,vi 1000000 1335,vi 100000 1338,vi 10000 1341] 11) (mG "perlcore.limits" (fR P 3 74 (iw P)))))) 851 1404 ⟨508,0,514,26⟩
noncomputable def Y16(P:Params):Gs:=mk P (fR P 15 87 (mG "perlcore.runstmt" (fR P 1 85 (vG P "FIGURES" (vs "0123456789" 1414) [] 1 (mG "perlcore.numbers" (fR P 1 82 (mG "perlcore.runcalls" (lw P)))))))) 968 1585 ⟨639,0,647,28⟩
noncomputable def qw(P:Params):Gs:=mk P (mG "perlcore.stash" (fR P 1 115 (gG P (fR P 2 112 (vG P "ERROR_NAME" (vs "main::@" 1679) [] 1 (mG "perlcore.runeval" (fR P 8 102 (Y16 P)))))))) 1053 1732 ⟨742,0,742,8⟩
noncomputable def uw(P:Params):Gs:=mk P (fR P 6 119 (mG "law_qz0126_01" ((cG P 117 ·) (qw P)))) 1154 1857 ⟨789,0,818,111⟩
noncomputable def Y19(P:Params):Gs:=mk P (fR P 9 125 (uw P)) 1213 1952 ⟨924,0,932,80⟩
noncomputable def vw:Env:={scope:=pw.main.scope,locals:=mainNs,globals:=mainNs,cells:=[],code:=.ref 13,frame:=some 14}
noncomputable def cd:Code:=.body bd vw
noncomputable def sh(Y:Params->Gs)(w:World)(os:OsState):SharedT:=⟨(Y w.params).T,(Y w.params).a,{},⟨[]⟩,{},(Y w.params).t,os⟩
noncomputable def ph(P:Params):BT:=(Y19 P).T
noncomputable def FG:Nat:=1213
noncomputable def Xk:Nat:=1952
noncomputable abbrev Sz:=sh Y19
noncomputable abbrev ww:Frame:=topFrame ⟨0,0,0,0⟩
noncomputable abbrev Ar:=PySem.W.Fast.tw14364793385576792824
def PK(m i j:Nat)(Y Z:Params->Gs)(w:World)(os:OsState):Prop:=PySem.W.Fast.tw10110043849684766642 Ar pw w 11 (some (.ref 6)) 1 m (sh Y w os)
  ⟨(PySem.W.Fast.tw12563942051412417395 (Xq i (Oz j bd)) vw).wrap doneF deadEnd id id,cd,(Y w.params).p,[ww]⟩=some (.next,sh Z w os,cd,(Z w.params).p)
theorem p1(w:World)(os:OsState):PK 513 4 0 Y0 Y1 w os:=by unfold PK;kernel_rfl
theorem p2(w:World)(os:OsState):PK 494 2 4 Y1 Y2 w os:=by unfold PK;kernel_rfl
theorem p3(w:World)(os:OsState):PK 501 2 6 Y2 Y3 w os:=by unfold PK;kernel_rfl
theorem p4(w:World)(os:OsState):PK 226 1 8 Y3 Y4 w os:=by unfold PK;kernel_rfl
theorem p5(w:World)(os:OsState):PK 594 9 9 Y4 Y5 w os:=by unfold PK;kernel_rfl
theorem p6(w:World)(os:OsState):PK 579 20 18 Y5 Y6 w os:=by unfold PK;kernel_rfl
theorem cO(w:World)(os:OsState):PK 400 8 38 Y6 Y7 (w.withFollow "special-get-raises" false) os:=by unfold PK;kernel_rfl
theorem eO(w:World)(os:OsState):PK 400 8 38 Y6 Y7 (w.withFollow "special-get-raises" true) os:=by unfold PK;kernel_rfl
theorem p7(w:World)(os:OsState):PK 400 8 38 Y6 Y7 w os:=
 byRow2 "special-get-raises" (P:=λw=>∀os,PK 400 8 38 Y6 Y7 w os) cO eO w os
theorem p8(w:World)(os:OsState):PK 334 5 46 Y7 Y8 w os:=by unfold PK;kernel_rfl
theorem p9(w:World)(os:OsState):PK 593 2 51 Y8 Y9 w os:=by unfold PK;kernel_rfl
theorem gO(w:World)(os:OsState):PK 474 2 53 Y9 bw w os:=by unfold PK;kernel_rfl
theorem hO(w:World)(os:OsState):PK 493 2 55 bw cw w os:=by unfold PK;kernel_rfl
theorem jO(w:World)(os:OsState):PK 460 2 57 cw dw w os:=by unfold PK;kernel_rfl
theorem kO(w:World)(os:OsState):PK 380 9 59 dw fw w os:=by unfold PK;kernel_rfl
theorem lO(w:World)(os:OsState):PK 597 6 68 fw iw w os:=by unfold PK;kernel_rfl
theorem mO(w:World)(os:OsState):PK 595 7 74 iw lw w os:=by unfold PK;kernel_rfl
theorem nO(w:World)(os:OsState):PK 582 21 81 lw Y16 w os:=by unfold PK;kernel_rfl
theorem oO(w:World)(os:OsState):PK 434 15 102 Y16 qw w os:=by unfold PK;kernel_rfl
theorem pO(w:World)(os:OsState):PK 598 8 117 qw uw w os:=by unfold PK;kernel_rfl
theorem qO(w:World)(os:OsState):PK 290 9 125 uw Y19 w os:=by unfold PK;kernel_rfl
theorem rO(w:World)(os:OsState):PySem.W.Fast.tw15667345088766844465 Ar pw w 11 (some (.ref 6)) 12 ⟨boot_heap w.params,⟨[]⟩,boot_drawn,boot_toks,os⟩ (topStub pw)=
  some ((sh Y0 w os).abs,⟨PySem.W.Fast.tw11892475500146522536 Ar cd,cd,⟨0,0,0,0⟩,[ww]⟩):=by kernel_rfl
theorem tO(w:World)(os:OsState):segRun treeTable pw w 11 (some (.ref 6)) 1 1 (sh Y0 w os).abs (blockOf bd vw cd ⟨0,0,0,0⟩ [ww])=some (.next,(sh Y0 w os).abs,cd,⟨0,0,0,0⟩):=by kernel_rfl
def QK(n:Nat)(l:List Stmt)(Y:Params->Gs)(w:World)(os:OsState):Prop:=topRun treeTable pw w 11 (some (.ref 6)) n (sh Y w os).abs (restOf l vw cd (Y w.params).p [ww])=some (Sz w os).abs
theorem pq{m i j n:Nat}{l:List Stmt}{Y Z:Params->Gs}{w:World}{os:OsState}(h:PK m i j Y Z w os)(k:QK n l Z w os):QK (m+n) (Xq i (Oz j bd)++l) Y w os:=by
 refine piece_app (segRun_of ?_) k
 unfold PK Ar at h
 rw[<-PySem.W.Fast.te10110043849684766642,<-PySem.W.Fast.te14364793385576792824,<-PySem.W.Fast.te12563942051412417395] at h
 exact h
theorem uO(w:World)(os:OsState):QK 2 [] Y19 w os:=piece_nil (by kernel_rfl)
noncomputable abbrev m0:Nat:=9139
theorem GG(w:World)(os:OsState):topRun treeTable pw w 11 (some (.ref 6)) (12+(1+m0)) ⟨boot_heap w.params,⟨[]⟩,boot_drawn,boot_toks,os⟩ (topStub pw)=some (Sz w os).abs:=by
 have h:=rO w os
 unfold Ar at h
 rw[<-PySem.W.Fast.te15667345088766844465,<-PySem.W.Fast.te14364793385576792824,<-PySem.W.Fast.te11892475500146522536] at h
 refine go_top h (piece_block (tO w os) ?_)
 exact Eq.subst (motive:=λl=>QK m0 l Y0 w os) (show _=bd by kernel_rfl) (pq (p1 w os) (pq (p2 w os) (pq (p3 w os) (pq (p4 w os) (pq (p5 w os) (pq (p6 w os) (pq (p7 w os) (pq (p8 w os) (pq (p9 w os) (pq (gO w os) (pq (hO w os) (pq (jO w os) (pq (kO w os) (pq (lO w os) (pq (mO w os) (pq (nO w os) (pq (oO w os) (pq (pO w os) (pq (qO w os) (uO w os))))))))))))))))))))
noncomputable def qv:Program:={pw with main:={pw.main with body:=[st 133]}}
noncomputable def Im:List Str:=(pw.main.scope.names.map Prod.fst).filter λn=>n !=S "law"
theorem vO:opening pw=plainProg pw.main.scope.names:=by kernel_rfl
theorem wO(s:Shared):fenceModules? pw s=some s:=by kernel_rfl
theorem xO(w:World):(fencedOpening treeTable pw w 20000).map (λs=>(s.heap,s.gens,s.drawn,s.toks))=some (boot_heap w.params,Array.mk [],boot_drawn,boot_toks):=
 boot_open vO (by decide) wO w
theorem yO(w:World):(((boot_heap w.params).isNs mainGlobals&&(Array.mk []:Array GenState).size==0,(boot_heap w.params).objs.size,(boot_heap w.params).nsMap mainGlobals "__annotations__"))=(true,11,some (.ref 6)):=by kernel_rfl
noncomputable def H1(P:Params):Heap:=absHeap (ph P) FG {}
theorem BO(w:World)(os:OsState):(staticsOk (importedModules pw.main.body) (boot_heap w.params) (H1 w.params)&&namesBound pw (H1 w.params)&&gensDone ⟨H1 w.params,⟨[]⟩,{},Xk,os⟩&&laidKept (boot_heap w.params) (H1 w.params))=true:=by kernel_rfl
noncomputable def Br(s:Shared):Bool:=xlAt qv [] s&&recOk (RowW.records PySem.Challenge.rw_qz0126_01.row.toRowW) s
theorem CO(w:World)(os:OsState):openSeen qv Im (importedModules pw.main.body) Br true ⟨H1 w.params,⟨[]⟩,{},Xk,os⟩=openGood qv Im:=by
 rw[PySem.W.Fast.te4187177175401517315]
 kernel_rfl
noncomputable def HG:List Addr:=[0,1,2,3,4,38,37,59,58,78,77,97,96,116,115,135,134,155,154,218,217,444,443,564,563,585,584,605,604,624,623,643,642,662,661,674,673,693,692,733,732,754,753,825,824,846,845,1111,1110,6,21,20,35,34,56,55,75,74,94,93,113,112,132,131,152,151,145,173,172,180,179,187,186,194,193,201,200,208,207,215,214,229,228,236,235,243,242,250,249,257,256,264,263,265,272,271,279,278,286,285,293,292,300,299,307,306,314,313,321,320,328,327,335,334,342,341,349,348,356,355,363,362,370,369,377,376,384,383,385,392,391,399,398,406,405,413,412,420,419,427,426,441,440,455,454,460,459,467,466,472,471,486,485,493,492,500,499,507,506,514,513,519,518,526,525,533,532,540,539,547,546,554,553,561,560,582,581,602,601,621,620,640,639,659,658,690,689,702,701,709,708,716,715,730,729,751,750,765,764,772,771,779,778,786,785,793,792,800,799,807,806,822,821,815,843,842,855,854,862,861,869,868,876,875,883,882,890,889,897,896,904,903,911,910,918,917,925,924,932,931,939,938,946,945,953,952,960,959,967,966,974,973,981,980,988,987,995,994,1002,1001,1009,1008,1016,1015,1023,1022,1030,1029,1037,1036,1045,1044,1038,1052,1051,1066,1065,1073,1072,1080,1079,1087,1086,1094,1093,1101,1100,1108,1107,1122,1121,1129,1128,1136,1135,1143,1142,1148,1147,1153,1152,1160,1159,1167,1166,1174,1173,1181,1180,1186,1185,1193,1192,1200,1199,1207,1206,1212,1211]
noncomputable def Kf(P:Params):Frag:=HG.map λa=>(a,((ph P).get a).getD default)
theorem IG(f:Nat->Obj):∀l:List Addr,l=(l.map λa=>(a,f a)).map (·.1)
 |[]=>rfl
 |a::l=>congrArg (a::·) (IG f l)
noncomputable def Rj:List Addr:=HG++[1047,1202]
noncomputable def Ks(P:Params):Frag:=Rj.map λa=>(a,((ph P).get a).getD default)
theorem DO(P:Params):Rj=(Ks P).map (·.1):=IG (λa=>((ph P).get a).getD default) Rj
theorem EO(P:Params):Ks P=Kf P++[(1047,((ph P).get 1047).getD default),(1202,((ph P).get 1202).getD default)]:=List.map_append
noncomputable def Tz(o:Obj):Bool:=match o with
 |⟨_,_,.freed,_⟩=>false
 |_=>true
theorem FO{o:Obj}(h:Tz o=true):alive o=some o:=by
 obtain⟨c,d,x,s⟩:=o
 cases x<;>first|rfl|cases h
theorem GO(P:Params):(Rj.all λa=>Nat.blt a FG&&(match(ph P).get a with|some o=>Tz o|none=>false))=true:=by kernel_rfl
theorem HO{t:BT}{n a:Nat}{life:Life}(h:(Nat.blt a n&&(match t.get a with|some o=>Tz o|none=>false))=true):(absHeap t n life).get? a=some ((t.get a).getD default):=by
 obtain⟨q1,q2⟩:=Bool.and_eq_true_iff.mp h
 cases e:t.get a with
 |none=>rw[e] at q2;cases q2
 |some o=>
  rw[e] at q2
  exact(abs_get (by simpa using q1) e).trans (FO q2)
theorem IO(P:Params){a:Addr}(h:a∈Rj):(H1 P).get? a=some (((ph P).get a).getD default):=
 HO (List.all_eq_true.mp (GO P) a h)
noncomputable abbrev No:Hook:=kHook Ks Rj DO
theorem JG(f g:Nat->Option Obj):∀l:List Addr,(∀a∈l,f a=g a)->l.map f=l.map g
 |[],_=>rfl
 |a::l,h=>by rw[List.map_cons,List.map_cons,h a (.head _),JG f g l λb hb=>h b (.tail _ hb)]
theorem KG(f:Nat->Obj):∀l:List Addr,(l.map λa=>(a,f a)).map (λp=>some p.2)=l.map λa=>some (f a)
 |[]=>rfl
 |a::l=>congrArg (some (f a)::·) (KG f l)
theorem JO(w:World)(os:OsState):Rj.map (Heap.get? (H1 w.params))=(Ks w.params).map λp=>some p.2:=
 (JG _ _ Rj λa h=>IO w.params h).trans (KG (λa=>((ph w.params).get a).getD default) Rj).symm
noncomputable def KO:Stmt->List Stmt
 |.FunctionDef _ _ b _ _ _ _ _ _ _=>b
 |_=>[]
noncomputable def q0:Str:=⟨⟨[]⟩⟩
noncomputable def Ph(q:Str)(s:Stmt)(d:List SV)(c:Option Addr):ah:=⟨q,(aO s).args.map (·.arg),d,KO s,sO s,c⟩
noncomputable def Ki:Str:=⟨⟨[110,117,109,98,101,114]⟩⟩
noncomputable def Qh:Str:=⟨⟨[99,111,117,110,116]⟩⟩
noncomputable def Li:Str:=⟨⟨[98,108,101,115,115,101,100]⟩⟩
noncomputable def Mi:Str:=⟨⟨[119,101,97,107]⟩⟩
noncomputable def Ni:Str:=⟨⟨[105,115,95,100,101,115,116,114,111,121,101,100]⟩⟩
noncomputable def Oi:Str:=⟨⟨[105,115,95,102,114,101,101,100]⟩⟩
noncomputable def Sj:Str:=⟨⟨[118,97,108,117,101]⟩⟩
noncomputable def xw:Str:=⟨⟨[109,97,103,105,99]⟩⟩
noncomputable def Yk:Str:=⟨⟨[105,116,101,109,115]⟩⟩
noncomputable def Uz:Str:=⟨⟨[116,105,101,100]⟩⟩
noncomputable def MO:Str:=⟨⟨[116,97,98,108,101]⟩⟩
noncomputable def Oo:Str:=⟨⟨[97,116]⟩⟩
noncomputable def NO:Str:=⟨⟨[115,117,98]⟩⟩
noncomputable def OO:Str:=⟨⟨[99,97,112,116,117,114,101,115]⟩⟩
noncomputable def PO:Str:=⟨⟨[98,117,105,108,116,105,110]⟩⟩
noncomputable def Dr:Str:=⟨⟨[112,97,99,107,97,103,101]⟩⟩
noncomputable def LG:Str:=⟨⟨[110,97,109,101]⟩⟩
noncomputable def Vz:Str:=⟨⟨[115,99,97,108,97,114]⟩⟩
noncomputable def Wz:Str:=⟨⟨[97,114,114,97,121]⟩⟩
noncomputable def Xz:Str:=⟨⟨[104,97,115,104]⟩⟩
noncomputable def Ro:Str:=⟨⟨[99,111,100,101]⟩⟩
noncomputable def QO:Str:=⟨⟨[116,97,114,103,101,116]⟩⟩
noncomputable def RO:Str:=⟨⟨[105,115,95,119,101,97,107]⟩⟩
noncomputable def To:Str:=⟨⟨[108,105,109,105,116,115]⟩⟩
noncomputable def Oe:Str:=⟨⟨[108,97,115,116]⟩⟩
noncomputable def Yz:Str:=⟨⟨[122,101,114,111]⟩⟩
noncomputable def yw:Str:=⟨⟨[108,105,110,101]⟩⟩
noncomputable def Tj:Str:=⟨⟨[104,101,97,112]⟩⟩
noncomputable def Zz:Str:=⟨⟨[100,101,115,116,114,111,121]⟩⟩
noncomputable def aA:Str:=⟨⟨[112,108,97,99,101,115]⟩⟩
noncomputable def bA:Str:=⟨⟨[101,109,112,116,105,101,115]⟩⟩
noncomputable def qg:Str:=⟨⟨[116,101,120,116]⟩⟩
noncomputable def MG:Str:=⟨⟨[107,105,110,100]⟩⟩
noncomputable def Fr:Str:=⟨⟨[108,97,98,101,108]⟩⟩
noncomputable def qj:Str:=⟨⟨[115,116,101,112,115]⟩⟩
noncomputable def zw:Str:=⟨⟨[112,97,100]⟩⟩
noncomputable def cA:Str:=⟨⟨[97,114,103,115]⟩⟩
noncomputable def rf:Str:=⟨⟨[119,97,110,116]⟩⟩
noncomputable def dA:Str:=⟨⟨[99,111,117,110,116,101,114]⟩⟩
noncomputable def eA:Str:=⟨⟨[115,116,97,115,104]⟩⟩
noncomputable def fA:Str:=⟨⟨[110,111,100,101,115]⟩⟩
noncomputable def gA:Str:=⟨⟨[108,118,115]⟩⟩
noncomputable def iA:Str:=⟨⟨[115,116,97,116,101,109,101,110,116,115]⟩⟩
noncomputable def jA:Str:=⟨⟨[102,117,110,99,115]⟩⟩
noncomputable def kA:Str:=⟨⟨[111,112,101,114,97,116,111,114,115]⟩⟩
noncomputable def mA:Str:=⟨⟨[111,117,116]⟩⟩
noncomputable def nA:Str:=⟨⟨[101,114,114]⟩⟩
noncomputable def oA:Str:=⟨⟨[115,97,118,101,115]⟩⟩
noncomputable def pA:Str:=⟨⟨[102,114,97,109,101,115]⟩⟩
noncomputable def Gr:Str:=⟨⟨[109,97,116,99,104]⟩⟩
noncomputable def qA:Str:=⟨⟨[112,97,116,116,101,114,110,115]⟩⟩
noncomputable def rA:Str:=⟨⟨[109,101,116,104,111,100,115]⟩⟩
noncomputable def sA:Str:=⟨⟨[99,97,108,108,95,99,111,100,101]⟩⟩
noncomputable def tA:Str:=⟨⟨[99,111,109,112,105,108,101,95,116,101,120,116]⟩⟩
noncomputable def Uo:Str:=⟨⟨[119,105,100,116,104]⟩⟩
noncomputable def Vo:Str:=⟨⟨[100,101,112,116,104]⟩⟩
noncomputable def uA:Str:=⟨⟨[114,111,119,115]⟩⟩
noncomputable def vA:Str:=⟨⟨[103,114,111,117,112,115]⟩⟩
noncomputable def wA:Str:=⟨⟨[114,101,103,105,115,116,101,114,115]⟩⟩
noncomputable def qh:Str:=⟨⟨[110,97,109,101,115]⟩⟩
noncomputable def xA:Str:=⟨⟨[103,108,111,98,115]⟩⟩
noncomputable def yA:Str:=⟨⟨[103,101,110,101,114,97,116,105,111,110]⟩⟩
noncomputable def SO:Str:=⟨⟨[85,78,68,79,69,82,83]⟩⟩
noncomputable def NG:Str:=⟨⟨[101,118,97,108,95,98,108,111,99,107]⟩⟩
noncomputable def zA:Str:=⟨⟨[95,108,97,119,95,112,108,97,105,110]⟩⟩
noncomputable def TO:Str:=⟨⟨[101,108,101,109]⟩⟩
noncomputable def UO:Str:=⟨⟨[104,101,108,101,109]⟩⟩
noncomputable def OG:Str:=⟨⟨[115,108,111,116]⟩⟩
noncomputable def VO:Str:=⟨⟨[116,105,101,100,101,108,101,109]⟩⟩
noncomputable def WO:Str:=⟨⟨[116,105,101,100,107,101,121]⟩⟩
noncomputable def XO:Str:=⟨⟨[108,101,110]⟩⟩
noncomputable def YO:Str:=⟨⟨[105,115,105,110,115,116,97,110,99,101]⟩⟩
noncomputable def ZO:Str:=⟨⟨[115,111,114,116,101,100]⟩⟩
noncomputable def bP:Str:=⟨⟨[111,114,100]⟩⟩
noncomputable def cP:Str:=⟨⟨[115,116,114]⟩⟩
noncomputable def Aw:Str:=⟨⟨[108,105,115,116]⟩⟩
noncomputable def fP:Str:=⟨⟨[114,97,110,103,101]⟩⟩
noncomputable def gP:Str:=⟨⟨[69,120,99,101,112,116,105,111,110]⟩⟩
noncomputable def iP:Str:=⟨⟨[76,65,83,84,95,80,65,84,84,69,82,78]⟩⟩
noncomputable def s_:Str:=⟨⟨[]⟩⟩
noncomputable def jP:Str:=⟨⟨[86,79,73,68]⟩⟩
noncomputable def kP:Str:=⟨⟨[83,67,65,76,65,82]⟩⟩
noncomputable def mP:Str:=⟨⟨[76,73,83,84]⟩⟩
noncomputable def nP:Str:=⟨⟨[69,82,82,79,82,95,78,65,77,69]⟩⟩
noncomputable def oP:Str:=⟨⟨[109,97,105,110,58,58,64]⟩⟩
noncomputable def pP:Str:=⟨⟨[70,73,71,85,82,69,83]⟩⟩
noncomputable def AA:Str:=⟨⟨[48,49,50,51,52,53,54,55,56,57]⟩⟩
noncomputable def qP:Str:=⟨⟨[95,95,105,110,105,116,95,95]⟩⟩
noncomputable def rP:Str:=⟨⟨[97,102,116,101,114]⟩⟩
noncomputable def sP:Str:=⟨⟨[97,103,97,105,110]⟩⟩
noncomputable def Yo:Str:=⟨⟨[98,97,114,101]⟩⟩
noncomputable def Uj:Str:=⟨⟨[98,108,111,99,107]⟩⟩
noncomputable def PG:Str:=⟨⟨[99,101,108,108,115]⟩⟩
noncomputable def Ir:Str:=⟨⟨[99,102,111,114]⟩⟩
noncomputable def tP:Str:=⟨⟨[99,104,111,115,101,110]⟩⟩
noncomputable def QG:Str:=⟨⟨[99,111,110,100,105,116,105,111,110]⟩⟩
noncomputable def BA:Str:=⟨⟨[100,101,101,100]⟩⟩
noncomputable def Zo:Str:=⟨⟨[100,101,101,100,115]⟩⟩
noncomputable def CA:Str:=⟨⟨[100,105,101]⟩⟩
noncomputable def Zk:Str:=⟨⟨[100,111,98,108,111,99,107]⟩⟩
noncomputable def Bw:Str:=⟨⟨[100,111,119,104,105,108,101]⟩⟩
noncomputable def rj:Str:=⟨⟨[101,118,97,108,98,108,111,99,107]⟩⟩
noncomputable def Vj:Str:=⟨⟨[101,120,112,114]⟩⟩
noncomputable def ap:Str:=⟨⟨[102,111,114,101,97,99,104]⟩⟩
noncomputable def uP:Str:=⟨⟨[103,111,101,115]⟩⟩
noncomputable def vP:Str:=⟨⟨[104,105,116]⟩⟩
noncomputable def Cw:Str:=⟨⟨[105,102]⟩⟩
noncomputable def wP:Str:=⟨⟨[105,110,105,116]⟩⟩
noncomputable def xP:Str:=⟨⟨[105,115,95,99,104,111,115,101,110]⟩⟩
noncomputable def DA:Str:=⟨⟨[105,115,95,116,101,120,116]⟩⟩
noncomputable def yP:Str:=⟨⟨[105,115,95,117,110,116,105,108]⟩⟩
noncomputable def rh:Str:=⟨⟨[107]⟩⟩
noncomputable def RG:Str:=⟨⟨[107,101,112,116]⟩⟩
noncomputable def SG:Str:=⟨⟨[108,101,102,116]⟩⟩
noncomputable def zP:Str:=⟨⟨[108,105,115,116,101,100]⟩⟩
noncomputable def bp:Str:=⟨⟨[108,111,103]⟩⟩
noncomputable def TG:Str:=⟨⟨[109,97,105,110]⟩⟩
noncomputable def Jr:Str:=⟨⟨[109,97,114,107]⟩⟩
noncomputable def AP:Str:=⟨⟨[109,101,109,98,101,114,115]⟩⟩
noncomputable def BP:Str:=⟨⟨[109,105,115,115]⟩⟩
noncomputable def tj:Str:=⟨⟨[110,101,120,116]⟩⟩
noncomputable def DP:Str:=⟨⟨[110,111,100,101]⟩⟩
noncomputable def UG:Str:=⟨⟨[110,111,119]⟩⟩
noncomputable def Kr:Str:=⟨⟨[110,117,109]⟩⟩
noncomputable def VG:Str:=⟨⟨[111,112,101,110]⟩⟩
noncomputable def EA:Str:=⟨⟨[111,119,110]⟩⟩
noncomputable def FA:Str:=⟨⟨[112,97,100,115]⟩⟩
noncomputable def GA:Str:=⟨⟨[112,114,111,103,114,97,109,115]⟩⟩
noncomputable def EP:Str:=⟨⟨[114,101,101,108]⟩⟩
noncomputable def Dw:Str:=⟨⟨[114,111,117,110,100,115]⟩⟩
noncomputable def Ef:Str:=⟨⟨[114,117,110]⟩⟩
noncomputable def FP:Str:=⟨⟨[115,97,118,101]⟩⟩
noncomputable def GP:Str:=⟨⟨[115,99,114,105,112,116]⟩⟩
noncomputable def HA:Str:=⟨⟨[115,101,108,102]⟩⟩
noncomputable def Jm:Str:=⟨⟨[115,116,97,114,116]⟩⟩
noncomputable def HP:Str:=⟨⟨[115,116,101,112]⟩⟩
noncomputable def Pi:Str:=⟨⟨[115,116,109,116]⟩⟩
noncomputable def IP:Str:=⟨⟨[116,101,108,108]⟩⟩
noncomputable def JP:Str:=⟨⟨[117,110,104,105,116]⟩⟩
noncomputable def LP:Str:=⟨⟨[118,97,114,105,97,98,108,101]⟩⟩
noncomputable def Mr:Str:=⟨⟨[119,104,105,108,101]⟩⟩
noncomputable def Ew:Str:=⟨⟨[119,111,114,100]⟩⟩
noncomputable def IA:Str:=⟨⟨[119,111,114,107]⟩⟩
noncomputable def xK:List Nat:=[585,605,624,643,662,674,693]
noncomputable def TF:List (Nat×Nat):=[(21,0),(229,11),(236,12),(243,14),(250,16),(257,17),(264,18),(272,21),(279,22),(286,23),(293,24),(300,25),(307,26),(314,27),(321,28),(328,29),(335,30),(342,31),(349,32),(356,33),(363,34),(370,35),(377,36),(384,37),(392,39),(399,40),(406,41),(413,42),(420,43),(427,44),(455,47),(460,48),(467,49),(472,50),(702,61),(709,62),(716,63),(765,70),(772,71),(779,72),(786,73),(793,74),(800,75),(807,76),(855,82),(862,85),(869,87),(876,88),(883,89),(890,90),(897,91),(904,92),(911,93),(918,94),(925,95),(932,96),(939,97),(946,98),(953,99),(960,100),(967,101),(974,102),(981,103),(988,104),(995,105),(1002,106),(1009,107),(1016,108),(1023,109),(1030,112),(1037,113),(1122,119),(1129,120),(1136,121),(1143,122),(1148,123),(1153,124),(1160,125),(1167,126),(1174,127),(1181,128),(1186,129),(1193,130),(1200,131),(1212,133)]
noncomputable def TM:List (Nat×Nat×Nat):=[(35,2,0),(56,3,0),(75,4,0),(94,5,0),(113,6,0),(132,7,0),(173,9,0),(180,9,1),(187,9,2),(194,9,3),(201,9,4),(208,9,5),(215,9,6),(441,46,0),(486,51,0),(493,51,1),(500,51,2),(507,51,3),(514,51,4),(519,51,5),(526,51,6),(533,51,7),(540,51,8),(547,51,9),(554,51,10),(561,51,11),(582,53,0),(602,54,0),(621,55,0),(640,56,0),(659,57,0),(690,59,0),(730,68,0),(751,69,0),(843,80,0),(1066,117,0),(1073,117,1),(1080,117,2),(1087,117,3),(1094,117,4),(1101,117,5),(1108,117,6)]
noncomputable def TC:List (Nat×Nat):=[(38,2),(59,3),(78,4),(97,5),(116,6),(135,7),(155,8),(218,9),(444,46),(564,51),(585,53),(605,54),(624,55),(643,56),(662,57),(674,58),(693,59),(733,68),(754,69),(825,78),(846,80),(1111,117)]
noncomputable def mL:Nat->Nat->List Addr->List (Str×Addr)
 |_,_,[]=>[]
 |i,j,a::l=>(Hg (iO (st i) j),a)::mL i (j+1) l
noncomputable def MP:List (Nat×List (Str×Addr)):=[(218,mL 9 1 [180,187,194,201,208,215]),(564,mL 51 1 [493,500,507,514,519,526,533,540,547,554,561]),(1111,mL 117 1 [1073,1080,1087,1094,1101,1108])]
noncomputable def WG:List (Nat×List Str):=[(38,[Ki,Qh,Li,Mi,Ni,Oi]),(59,[Sj,xw,Ki,Qh,Li,Mi,Ni,Oi]),(78,[Yk,Uz,Ki,Qh,Li,Mi,Ni,Oi]),(97,[MO,Oo,Uz,Ki,Qh,Li,Mi,Ni,Oi]),(116,[NO,OO,PO,Dr,Ki,Qh,Li,Mi,Ni,Oi]),(135,[LG,Vz,Wz,Xz,Ro,Ki,Qh,Li,Mi,Ni,Oi]),(155,[QO,RO]),(218,[To,Oe,Yz]),(444,[yw]),(564,[Tj,Zz,aA,bA]),(585,[qg]),(605,[Sj,qg]),(624,[MG,Fr,qg]),(643,[Sj,qg]),(662,[Oo,qg]),(674,[qg]),(693,[qj,qg]),(733,[zw,cA,rf,Ro,Dr,yw]),(754,[Tj,dA,eA,To,fA,gA,iA,jA,kA,mA,nA,oA,pA,Gr,qA,qj,rA,sA,tA]),(825,[Uo,Vo,qj,qg,Yk]),(846,[uA,vA,wA,qh]),(1111,[Tj,xA,yA])]
noncomputable def TP:TL where
 jf:=WG
 kf:=WG
 gl:=(TF.map λp=>(Hg (st p.2),.tp p.1))++((TC.map λp=>(DG (st p.2),.tp p.1))++[(Hg (st 114),.tp 1045),(Hg (st 115),.tp 1052),(Hg (st 132),.tp 1207),(SO,.tp 385),(XO,.bu .len),(YO,.bu .Ul),(ZO,.bu .sorted),(bP,.bu .ni),(cP,.ty .str),(Aw,.ty .list),(fP,.ty .range),(gP,.ty .Wc),(iP,.tu [.st s_,.st Oe]),(jP,.it 0),(kP,.it 1),(mP,.it 2),(nP,.st oP),(pP,.st AA)])
 fn:=[(1045,Ph q0 (st 114) [.bo false] none),(1052,Ph NG (st 115) [] (some 1051)),(1207,Ph zA (st 132) [] (some 1206)),(822,Ph q0 (iO (st 78) 0) [.it 64,.it 50,.it 1000000,.it 100000,.it 10000] none)]++((TF.map λp=>(p.1,Ph q0 (st p.2) [] none))++TM.map λp=>(p.1,Ph q0 (iO (st p.2.1) p.2.2) [] none))
 me:=MP++[38,59,78,97,116,135,155,444,585,605,624,643,662,674,693,733,754,825,846].map λn=>(n,[])
 zg:=[(38,35),(59,56),(78,75),(97,94),(116,113),(135,132),(218,173),(444,441),(564,486),(733,730),(754,751),(825,822),(846,843),(1111,1066)]
 cf:=([(38,35),(59,56),(78,75),(97,94),(116,113),(135,132),(218,173),(444,441),(564,486),(733,730),(754,751),(825,822),(846,843),(1111,1066)]++[(585,582),(605,602),(624,621),(643,640),(662,659),(674,582),(693,690)]:List (Nat×Addr)).map λp=>(p.1,[(qP,p.2)])
 sd:=[(385,[(Vz,.tp 314),(Wz,.tp 321),(Xz,.tp 328),(Ro,.tp 335),(TO,.tp 342),(UO,.tp 349),(zw,.tp 363),(OG,.tp 370),(Gr,.tp 377),(Dr,.tp 384),(VO,.tp 356),(WO,.tp 356)])]
 kp:=(TF.map λp=>(p.1,()))++((TM.map λp=>(p.1,()))++((TC.map λp=>(p.1,()))++[(152,()),(822,()),(1045,()),(1052,()),(1207,())]))
 We:=[38,59,78,97,135,116,155,218,444,564,733,754,825,846,1111].map λc=>(c,[59,78,97,116,135,155,444].map λd=>(d,Nat.beq c d))
 xm:=xK.map λc=>(c,xK.map λd=>(d,cond (Nat.beq d 585) true (Nat.beq c d)))
 pe:=[(585,582),(605,602),(624,621),(643,640),(662,659),(674,582),(693,690)]
 xr:=xK.map λc=>(c,())
 ct:=[(1051,1047),(1206,1202)]
section
structure Pm where
 pa:Nat->Addr
 da:Nat->Addr
 L:List SV
structure Mm where
 now:Option Nat
 Qb:List (Option Nat)
 rd:List (Int×Int)
structure Ck where
 xd:Int
 Va:Int
 Wf:Option (Str×Int×Int)
structure Rw where
 pre:List Value
 zp:List Value
 pv:Value
structure Sg where
 m:Mm
 b:Ck
 ms:List SV
 r:Rw
noncomputable def NP:Str:=⟨⟨[97,98,99,100,101]⟩⟩
noncomputable def Ff(i:Nat):Str:=⟨⟨[97+i]⟩⟩
noncomputable def mt:Option Nat->SV
 |none=>.nn
 |some i=>.tu [.st (Ff i),.fl [.tu [.it 0,.it 1],.tu [.it 0,.it 1]]]
noncomputable def pr(P:Pm):Option Nat->SV
 |none=>.nn
 |some i=>.tp (P.pa i)
noncomputable def Bb:Option Nat->SV
 |none=>.fl [.nn,.nn,.nn]
 |some i=>.fl [.st (Ff i),.st (Ff i),.it (Int.ofNat i)]
noncomputable def Nr:Stmt->vn
 |.FunctionDef _ a b _ _ _ s _ _ _=>⟨a.args.map (·.arg),b,s⟩
 |_=>default
noncomputable def al(P:Pm):List SV:=[.tp (P.pa 0),.tp (P.pa 1),.tp (P.pa 2),.tp (P.pa 3),.tp (P.pa 4)]
noncomputable def JA:List Str:=[⟨⟨[]⟩⟩,Oe]
noncomputable def XG:Str:=⟨⟨[109,97,105,110,58,58,64]⟩⟩
noncomputable def fp(e:Option (Str×Int×Int)):Nat->AO:=match e with
 |none=>λuu=>.ta
 |some e=>λi=>match i with
  |0=>.ns [(Ki,.it e.2.1),(Qh,.it 0),(Li,.nn),(Mi,.ob 42),(Ni,.bo false),(Oi,.bo false),(LG,.st XG),(Vz,.ob 44),(Wz,.nn),(Xz,.nn),(Ro,.nn)]
  |1=>.bc 135 40
  |2=>.Ha []
  |3=>.ns [(Ki,.it e.2.2),(Qh,.it 1),(Li,.nn),(Mi,.ob 45),(Ni,.bo false),(Oi,.bo false),(Sj,.st e.1),(xw,.nn)]
  |4=>.bc 59 43
  |_=>.Ha []
noncomputable def OP:Option (Str×Int×Int)->List (Str×SV)
 |none=>[]
 |some _=>[(XG,.ob 41)]
noncomputable def base(P:Pm)(σ:Sg):St:=[
 .bc 754 1,
 .ns [(Tj,.ob 2),(dA,.ob 4),(eA,.ob 8),(To,.ob 11),(fA,.ob 13),(gA,.ob 34),(iA,.ob 14),(jA,.ob 35),(kA,.ob 36),(mA,.ob 37),(nA,.ob 38),(oA,.ob 15),(pA,.ob 16),(Gr,mt σ.m.now),(qA,.ob 17),(qj,.it σ.b.xd),(rA,.nn),(sA,.nn),(tA,.nn)],
 .bc 218 3,
 .ns [(To,.ob 11),(Oe,.it σ.b.Va),(Yz,.ob 39)],
 .bc 564 5,
 .ns [(Tj,.ob 2),(Zz,.nn),(aA,.ob 6),(bA,.ob 7)],
 .ns [],
 .ns [],
 .bc 1111 9,
 .ns [(Tj,.ob 2),(xA,.ob 10),(yA,.it 0)],
 .ns (OP σ.b.Wf),
 .bc 825 12,
 .ns [(Uo,.it 64),(Vo,.it 50),(qj,.it 1000000),(qg,.it 100000),(Yk,.it 10000)],
 .ns [(BA,.ob 26),(Aw,.ob 27),(Zk,.tp 1023),(tj,.tp 1016),(Oe,.tp 1016),(rj,.tp 1052)],
 .ns [(Vj,.tp 918),(Cw,.tp 925),(Mr,.tp 960),(ap,.tp 1002),(Yo,.tp 1009),(Ir,.tp 974),(Bw,.tp 967)],
 .ls σ.r.pre σ.ms [],
 .Ha [.ob 18],
 .dq JA (pr P σ.m.now),
 .bc 733 19,
 .ns [(zw,.ob 20),(cA,.nn),(rf,.it 0),(Ro,.nn),(Dr,.st TG),(yw,.it 1)],
 .Ha [.rw σ.r.pv],
 .ta,
 .ta,
 .ta,
 .ls [] (σ.m.Qb.map Bb) [],
 .dz σ.m.rd,
 .fn (Nr (iO (st 132) 3)) [(Dw,31),(GA,29),(bp,30),(Zo,28)],
 .fn (Nr (iO (st 132) 4)) [],
 .cell (some (.ob 32)),
 .cell (some (.fl (al P))),
 .cell (some (.ob 24)),
 .cell (some (.ob 25)),
 .ls [] P.L [],
 .ct 1047,
 .ns [],.ns [],.ns [],.Ha [],.Ha [],
 .ls σ.r.zp [] [],
 .op (fp σ.b.Wf 0),.op (fp σ.b.Wf 1),.op (fp σ.b.Wf 2),.op (fp σ.b.Wf 3),.op (fp σ.b.Wf 4),.op (fp σ.b.Wf 5)]
noncomputable def qC(i:Nat):Bool:=Nat.beq i 3||(Nat.beq i 10||Nat.beq i 39)
noncomputable def Qd(i:Nat):Bool:=Nat.ble 39 i&&Nat.ble i 45
noncomputable abbrev Wd.co(W:Wd):Wd:=W.mw Qd
noncomputable def cS(P:Pm)(σ:Sg):St:=Od qC 0 (base P σ)
noncomputable def Zb:List Nat:=[0,1,2,3,4]
noncomputable def Wb(P:Pm):Tb:={TP.tb with
 ka:=λa n=>cond (Oa n qh) ((Zb.find? λi=>P.pa i==a).map λi=>SV.tp (P.da i)) none
 sd:=λa k=>match TP.tb.sd a k with
  |some x=>some x
  |none=>cond (Oa k rh) ((Zb.find? λi=>P.da i==a).map λi=>SV.it (Int.ofNat i)) none
 cq:=λx=>x=.nn\/∃i,i∈Zb/\x=.tp (P.pa i)}
structure Pm.Ok(P:Pm):Prop where
 pa:∀i j,i<5->j<5->P.pa i=P.pa j->i=j
 da:∀i j,i<5->j<5->P.da i=P.da j->i=j
 no:∀i,i<5->P.da i≠385
noncomputable def gp:Str:=NG++Str.ofString ".<locals>."++Str.ofString "work"
structure Wo(W:Wd)(P:Pm):Prop where
 ok:W.Ok
 hT:∀m fd,lb ((W.mw m).on fd) (Wb P)
 pk:P.Ok
 hq:W.qn 739=gp
def wa(W:Wd)(P:Pm)(hn:Hn)(D:Nat)(f:Addr)(vs:List SV)(σ:Sg)(v:SV)(σ':Sg):Prop:=∀fd,ba (W.co.on fd) hn D (.tp f) vs (cS P σ) (.ok v) (cS P σ')
def Er(W:Wd)(P:Pm)(D:Nat)(f:Addr)(vs:List SV)(σ:Sg)(C:Addr)(fs:List (Str×SV))(σ':Sg):Prop:=∀fd,ba (W.co.on fd) .nn D (.tp f) vs (cS P σ) (.error 46) (cS P σ'++[.jb C 47 true,.ns fs])
noncomputable def ho{W:Wd}{hn:Hn}{D:Nat}{f:SV}{vs:List SV}{st:St}{r:Except Nat SV}{db:St}(_:∀fd,ba (W.on fd) hn D f vs st r db):Hd:=.out r db
theorem ba.up{W:Wd}{hn:Hn}{D:Nat}{fv:SV}{vs:List SV}{st F:St}{o:Except Nat SV}(c:∀fd,ba (W.on fd) hn D fv vs st o F)(k:Nat)(fd:List Addr):ba (W.on fd) hn (D+k) fv vs st o F:=(c fd).LN (Nat.le_add_right D k)
theorem Km{W:Wd}{T:Tb}(ok:W.Ok)(hT:∀fd,lb (W.on fd) T){n:Nat}{hn:Hn}{D:Nat}{f:Addr}{vs:List SV}{st F:St}{o:Except Nat SV}{l:List Prop}(hs:List Jd)(e:((Rn.cg T (Rn.Xa W T n) hn D f vs ⟨[],st,hs⟩).bind λx=>some (x.1,x.2.1.st,x.2.2))=some (o,F,l))(hl:Me l)(fd:List Addr):
  ba (W.on fd) hn D (.tp f) vs st o F:=obs e λx e1 e2=>by
 cases e2
 exact Gm ok hT e1 hl.mem fd
noncomputable abbrev zd(n:Nat):Bool:=Nat.blt n 46
theorem Ze{P:Pm}{σ:Sg}:(cS P σ).length=46:=rfl
theorem ip{P:Pm}{σ:Sg}:(cS P σ).all (Ee zd)=true:=by
 obtain⟨⟨now,lg,rd⟩,⟨s,l,e⟩,ms,r⟩:=σ
 induction now using Option.casesOn<;>induction e using Option.casesOn<;>kernel_rfl
theorem jp:∀n,46<=n->Qd n=false:=λn h=>by
 unfold Qd
 exact(show Nat.ble n 45=false by rw[<-Bool.not_eq_true,Nat.ble_eq];lia).symm▸(Bool.and_false ..).symm▸rfl
section
variable {W:Wd}{P:Pm}{hn:Hn}{D k:Nat}{f C:Addr}{v:SV}{vs:List SV}{σ σ':Sg}{fs:List (Str×SV)}
theorem wa.up(c:wa W P hn D f vs σ v σ')(hv:Mc zd (v::vs)=true)(X:St){hn':Hn}(hX:X.all (yg Qd)=true)(hh:Tk (cS P σ++X) (List.range 46) hn'=hn)(fd:List Addr):ba (W.co.on fd) hn' D (.tp f) vs (cS P σ++X) (.ok v) (cS P σ'++X):=
 ba.AG (W:=W.co.on fd) Ze Ze (Na hv λa b=>(Bool.and_eq_true _ _).mpr ⟨a,b⟩) ip ip jp (.inr hX) hh c
theorem Er.up(c:Er W P D f vs σ C fs σ')(hv:Mc zd vs=true)(hf:ae zd fs=true)(X:St)(hX:X.all (yg Qd)=true)(hh:Tk (cS P σ++X) (List.range 46) hn=.nn)(fd:List Addr):
  ba (W.co.on fd) hn D (.tp f) vs (cS P σ++X) (.error (46+X.length)) (cS P σ'++(X++[.jb C (46+X.length+1) true,.ns fs])):=
 ba.ON (W:=W.co.on fd) Ze Ze ((Bool.and_eq_true _ _).mpr ⟨rfl,hv⟩) hf ip ip jp (.inr hX) hh c
theorem Lm(k:Nat)(hk:zd k=true){l:List SV}(h:clos l=true):Mc zd (.ob k::l)=true:=(Bool.and_eq_true _ _).mpr ⟨hk,Nc (x:=.tu l) h⟩
end
section
variable {W:Wd}{P:Pm}(e:Wo W P)
include e
theorem Wo.hC(fd:List Addr):lb (W.co.on fd) (Wb P):=e.hT Qd fd
theorem jc{hn:Hn}{D n:Nat}{f:Addr}{vs:List SV}{σ σ':Sg}{v:SV}{l:List Prop}(hs:List Jd)(q:((Rn.cg (Wb P) (Rn.Xa W.co (Wb P) n) hn D f vs ⟨[],cS P σ,hs⟩).bind λx=>some (x.1,x.2.1.st.take 46,x.2.2))=some (.ok v,cS P σ',l))(hl:Me l)(hv:Ia v=true):wa W P hn D f vs σ v σ':=λfd=>obs q λx e1 e2=>by
 obtain⟨r,⟨loc,F,yf⟩,l'⟩:=x
 have e2:=Option.some.inj e2
 have ev:r=.ok v:=congrArg (·.1) e2
 have es:F.take 46=cS P σ':=congrArg (·.2.1) e2
 have el:l'=l:=congrArg (·.2.2) e2
 subst ev el
 have c:=Gm (e.ok.mw _) e.hC e1 hl.mem fd
 replace c:=(es ..)▸(List.take_append_drop 46 F ..).symm▸c
 exact ba.Eg (W:=W.co.on fd) Ze Ze (Nc hv) ip jp c
theorem Ig{D n:Nat}{f C:Addr}{vs:List SV}{σ σ':Sg}{fs:List (Str×SV)}{l:List Prop}(j:Nat)(hs:List Jd)(q:((Rn.cg (Wb P) (Rn.Xa W.co (Wb P) n) .nn D f vs ⟨[],cS P σ,hs⟩).bind λx=>some (x.1,x.2.1.st.take 46,(x.2.1.st.drop (46+j)).take 2,x.2.2))=some (.error (46+j),cS P σ',[.jb C (46+j+1) true,.ns fs],l))(hl:Me l)(hf:ae zd fs=true):Er W P D f vs σ C fs σ':=λfd=>obs q λx e1 e2=>by
 obtain⟨r,⟨loc,F,yf⟩,l'⟩:=x
 have e2:=Option.some.inj e2
 have ev:r=.error (46+j):=congrArg (·.1) e2
 have es:F.take 46=cS P σ':=congrArg (·.2.1) e2
 have eg:(F.drop (46+j)).take 2=[.jb C (46+j+1) true,.ns fs]:=congrArg (·.2.2.1) e2
 have el:l'=l:=congrArg (·.2.2.2) e2
 subst ev el
 have c:=Gm (e.ok.mw _) e.hC e1 hl.mem fd
 have e3:F=cS P σ'++((F.drop 46).take j++.jb C (46+j+1) true::.ns fs::(F.drop (46+j)).drop 2):=by
  exact(es ..)▸(show AO.jb C (46+j+1) true::.ns fs::(F.drop (46+j)).drop 2=F.drop (46+j) from(congrArg (·++(F.drop (46+j)).drop 2) eg).symm.trans (List.take_append_drop 2 _)).symm▸(List.drop_drop ..)▸(List.take_append_drop ..).symm▸(List.take_append_drop ..).symm▸rfl
 have lj:((F.drop 46).take j).length=j:=by
  refine rt (List.length_take ..) (rt (List.length_drop ..) ?_)
  have:=congrArg List.length eg
  replace this:=(List.length_drop ..)▸(List.length_take ..)▸this
  have:min 2 (F.length - (46+j))=2:=this
  lia
 replace c:=e3▸c
 exact ba.PN (W:=W.co.on fd) Ze Ze hf ip jp (by exact rt lj rfl) c
end
end
section
inductive Ga where
 |zb|qb (i:Nat)|Rh (i:Nat)|Uh|again (m i:Nat)|wb
noncomputable def Ga.ctorIdx(x:Ga):Nat:=x.casesOn 0 (λ_=>1) (λ_=>2) 3 (λ_ _=>4) 5
noncomputable def Ga.sv:Ga->SV
 |.zb=>.tu [.st IP]
 |.qb i=>.tu [.st vP,.it (Int.ofNat i)]
 |.Rh i=>.tu [.st JP,.it (Int.ofNat i)]
 |.Uh=>.tu [.st BP]
 |.again m i=>.tu [.st sP,.it (Int.ofNat m),.it (Int.ofNat i)]
 |.wb=>.tu [.st CA]
noncomputable def Wa(k:Int):SV:=.tu [.st BA,.it k]
noncomputable def Qi(P:Pm)(o:Option Nat):SV:=.tu [.st Gr,mt o,pr P o]
noncomputable def vB:Bool->SV
 |true=>.it 1
 |false=>.st ⟨⟨[]⟩⟩
noncomputable def cnt(k:Int)(r:List (Int×Int)):Int:=(ag k r).getD 0
inductive Dd(L:List Ga)(k:Nat)(s:Mm):Bool->Mm->Prop where
 |zb:L[k]?=some .zb->Dd L k s true {s with Qb:=s.Qb++[s.now]}
 |qb {i:Nat}:L[k]?=some (.qb i)->i<5->Dd L k s true {s with now:=some i}
 |Rh {i:Nat}:L[k]?=some (.Rh i)->i<5->Dd L k s false {s with now:=some i}
 |Uh:L[k]?=some .Uh->Dd L k s false s
 |go {m i:Nat}:L[k]?=some (.again m i)->i<5->¬(cnt k s.rd+1>m)->Dd L k s true {s with now:=some i,rd:=Yb k (cnt k s.rd+1) s.rd}
 |no {m i:Nat}:L[k]?=some (.again m i)->cnt k s.rd+1>m->Dd L k s false {s with rd:=Yb k 0 (Yb k (cnt k s.rd+1) s.rd)}
structure Bd(m:Mm)(b:Ck)(N:Nat):Prop where
 st:b.xd+N<=1000000
 lg:m.Qb.length+N<=50000
 rd:m.rd.length+N<=50000
 Zb:∀i,m.now=some i->i<5
structure Rd(h:Nat)(r:Rw)(ms:List SV)(N:Nat):Prop where
 sv:r.pre.length+ms.length+N<=50000
 zp:r.zp.length+h<=900
theorem Bd.to{m m':Mm}{b:Ck}{N:Nat}(B:Bd m b (N+1))(h1:m'.Qb.length<=m.Qb.length+1)(h2:m'.rd.length<=m.rd.length+1)(h5:∀i,m'.now=some i->i<5):Bd m' b N:=
 ⟨by have:=B.st;lia,by have:=B.lg;lia,by have:=B.rd;lia,h5⟩
theorem Bd.r1{m:Mm}{b:Ck}{N:Nat}(B:Bd m b N):m.rd.length+1<=100000:=by have:=B.rd;lia
theorem Bd.l1{m:Mm}{b:Ck}{N:Nat}(B:Bd m b N):0+(m.Qb.map Bb).length<=100000:=by refine rt (List.length_map ..) ?_;have:=B.lg;lia
theorem Rd.s1{h:Nat}{r:Rw}{ms:List SV}{N:Nat}(R:Rd h r ms N):r.pre.length+ms.length<=100000:=by have:=R.sv;lia
theorem Fw{i:Nat}(hi:i<5):Rn.vy NP (Int.ofNat i)=some (.st (Ff i)):=by
 rcases i with _|_|_|_|_|i<;>first|lia|kernel_rfl
theorem KA{P:Pm}{i:Nat}(hi:i<5):Rn.Ce (al P) (Int.ofNat i)=some (.tp (P.pa i)):=by
 rcases i with _|_|_|_|_|i<;>first|rfl|lia
theorem YG{f:Nat->Nat}{i:Nat}:∀{l:List Nat},(∀j∈l,f j=f i->j=i)->i∈l->(l.find? λj=>f j==f i)=some i
 |j::l,h,m=>by
  refine rt (List.find?_cons ..) ?_
  rcases q:f j==f i with _|_
  ·exact YG (λj m=>h j (.tail _ m)) ((List.mem_cons.mp m).resolve_left λe=>ft (q.symm.trans (by refine rt e ?_;exact beq_self_eq_true _)))
  exact congrArg some (h j (.head _) (beq_iff_eq.mp q))
theorem Qr:∀{i:Nat},i∈Zb<->i<5:=λ{i}=>by
 unfold Zb
 simp only [List.mem_cons,List.not_mem_nil,or_false]
 lia
theorem ZG{f:Nat->Nat}{i:Nat}(hi:i<5)(inj:∀i j,i<5->j<5->f i=f j->i=j):(Zb.find? λj=>f j==f i)=some i:=YG (λj m q=>inj j i (Qr.mp m) hi q) (Qr.mpr hi)
theorem PP{P:Pm}(pk:P.Ok){i:Nat}(hi:i<5):(Wb P).ka (P.pa i) qh=some (.tp (P.da i)):=by
 refine(?_:((Zb.find? λj=>P.pa j==P.pa i).map λj=>SV.tp (P.da j))=_)
 refine rt (ZG hi pk.pa ..) ?_
 rfl
theorem QP{P:Pm}(pk:P.Ok){i:Nat}(hi:i<5)(st:St):Rn.wy (Wb P) st (.tp (P.da i)) (.st rh)=some (.it (Int.ofNat i)):=by
 refine(?_:(match TP.tb.sd (P.da i) rh with|some x=>some x|none=>(Zb.find? λj=>P.da j==P.da i).map λj=>SV.it (Int.ofNat j))=_)
 have h0:TP.tb.sd (P.da i) rh=none:=by
  refine(?_:(match Nat.beq 385 (P.da i) with|true=>some _|false=>none).bind _=none)
  rcases h:Nat.beq 385 (P.da i) with _|_
  ·rfl
  exact absurd (Nat.eq_of_beq_eq_true h).symm (pk.no i hi)
 refine rt (h0 ..) (rt (ZG hi pk.da ..) ?_)
 rfl
theorem Rr(k v:Int)(r:List (Int×Int)):ag k (Yb k v r)=some v:=(Ft Xe k v k r).trans (if_pos rfl)
theorem Om(k v:Int):∀r,(Yb k v r).length<=r.length+1
 |[]=>Nat.le_refl _
 |p::r=>by
  refine(?_:(cond (uc p.1 k) _ _:List (Int×Int)).length<=_)
  rcases uc p.1 k with _|_
  ·exact Nat.succ_le_succ (Om k v r)
  exact Nat.le_succ _
theorem LA(k v u:Int):∀r,Yb k u (Yb k v r)=Yb k u r
 |[]=>by
  refine(?_:cond (uc k k) _ _=_)
  refine rt ((Xe k k).mpr rfl ..) ?_
  rfl
 |p::r=>by
  refine(?_:Yb k u (cond (uc p.1 k) ((p.1,v)::r) (p::Yb k v r))=cond (uc p.1 k) ((p.1,u)::r) (p::Yb k u r))
  rcases q:uc p.1 k with _|_
  ·refine(?_:cond (uc p.1 k) _ (p::Yb k u (Yb k v r))=_)
   refine rt (q ..) (rt (LA k v u r ..) ?_)
   rfl
  refine(?_:cond (uc p.1 k) _ _=_)
  refine rt q ?_
  rfl
noncomputable def ua(P:Pm)(sv:List (Option Nat)):List SV:=sv.map (Qi P)
noncomputable def backTo(now:Option Nat):List (Option Nat)->Option Nat
 |[]=>now
 |m::_=>m
section
variable {W:Wd}{P:Pm}{σ:Sg}{D:Nat}{L:List Ga}{k:Nat}{w:SV}{m m':Mm}{c:Bool}{b:Ck}{ms:List SV}{r:Rw}{N h:Nat}
theorem aH(hL:P.L=L.map Ga.sv)(hl:L.length<=100000){x:Ga}(q:L[k]?=some x):Rn.Ce (P.L++[]) (k:Int)=some x.sv:=by
 refine rt (List.append_nil ..) (rt (hL ..) ?_)
 unfold Rn.Ce
 refine(show Nat.ble (L.map Ga.sv).length 1000000=true from Nat.ble_eq_true_of_le (by rw[List.length_map];lia)).symm▸?_
 refine(?_:(L.map Ga.sv)[k]?=_)
 refine rt (List.getElem?_map ..) (rt (q ..) ?_)
 rfl
variable (e:Wo W P)
include e
theorem RP:wa W P .nn (D+1) 420 [.st ⟨⟨[49]⟩⟩] σ (.it 1) σ:=jc e (n:=30) [] (l:=[IntMulOk 0 10,(⟨⟨[49]⟩⟩:Str).length=1]) (by kernel_rfl) ⟨.of_left (by decide),rfl,trivial⟩ rfl
theorem uh(hL:P.L=L.map Ga.sv)(hl:L.length<=100000)(d:Dd L k m c m')(B:Bd m b (N+1)):∃sv:List (Option Nat),sv.length<=1/\backTo m'.now sv=m.now/\Bd m' b N/\∀ms r,Rd h r ms (N+1)->wa W P .nn (D+9) 765 [.ob 0,Wa k,w] ⟨m,b,ms,r⟩ (vB c) ⟨m',b,ms++ua P sv,r⟩:=by
 have z:=λ{x}=>aH (P:=P) (k:=k) hL hl (x:=x)
 obtain⟨now,lg,rd⟩:=m
 have n5:∀{i},i<5->∀j,some i=some j->j<5:=λh j e=>by replace e:=Option.some.inj e;subst e;exact h
 induction d using Dd.casesOn with
 |zb q=>
  refine⟨[],Nat.zero_le _,rfl,B.to (by refine(List.length_append ..).symm▸?_;exact Nat.le_refl _) (Nat.le_succ _) B.Zb,λms r R=>?_⟩
  refine(?_:wa W P .nn (D+9) 765 _ _ _ ⟨⟨now,lg++[now],rd⟩,b,ms++[],r⟩)
  refine rt (List.append_nil ..) ?_
  have e1:cS P ⟨⟨now,lg++[now],rd⟩,b,ms,r⟩=(cS P ⟨⟨now,lg,rd⟩,b,ms,r⟩).set 24 (.ls [] (lg.map Bb++[Bb now]) []):=by
   refine(?_:(cS P ⟨⟨now,lg,rd⟩,b,ms,r⟩).set 24 (.ls [] ((lg++[now]).map Bb) [])=_)
   refine rt (List.map_append ..) ?_
   rfl
  rcases now with _|i
  ·exact jc e (n:=60) [⟨891,11,24,.item Ga.zb.sv⟩] (l:=[_,2+1<=100000,0+(lg.map Bb).length<=100000]) (by refine rt e1 ?_;kernel_rfl) ⟨z q,by decide,B.l1,trivial⟩ rfl
  have hi:=B.Zb i rfl
  have cf:=RP e (D:=D+4) (σ:=⟨⟨some i,lg,rd⟩,b,ms,r⟩)
  exact jc e (n:=60) [⟨891,11,24,.item Ga.zb.sv⟩,⟨238,29,48,ho cf⟩,⟨894,66,89,.item (.tp (P.da i))⟩,⟨894,66,94,.item (.it i)⟩]
   (l:=[_,7<=100000,_,2<=1000000,1<=100000,7<=100000,2<=1000000,1<=100000,_,_,3<=100000,0+(lg.map Bb).length<=100000]) (by refine rt e1 ?_;kernel_rfl)
   ⟨z q,by decide,cf,by decide,by decide,by decide,by decide,by decide,PP e.pk hi,QP e.pk hi (cS P ⟨⟨some i,lg,rd⟩,b,ms,r⟩),by decide,B.l1,trivial⟩ rfl
 |@qb i q hi=>
  refine⟨[now],Nat.le_refl _,rfl,B.to (Nat.le_succ _) (Nat.le_succ _) (n5 hi),λms r R=>?_⟩
  induction now using Option.casesOn<;>exact jc e (n:=60) [⟨891,11,24,.item (Ga.qb i).sv⟩,⟨905,20,37,.item (.st (Ff i))⟩,⟨905,58,76,.item (.tp (P.pa i))⟩] (l:=[_,_,_,r.pre.length+ms.length<=100000]) (by kernel_rfl) ⟨z q,Fw hi,KA (P:=P) hi,R.s1,trivial⟩ rfl
 |@Rh i q hi=>
  refine⟨[now],Nat.le_refl _,rfl,B.to (Nat.le_succ _) (Nat.le_succ _) (n5 hi),λms r R=>?_⟩
  induction now using Option.casesOn<;>exact jc e (n:=60) [⟨891,11,24,.item (Ga.Rh i).sv⟩,⟨905,20,37,.item (.st (Ff i))⟩,⟨905,58,76,.item (.tp (P.pa i))⟩] (l:=[_,_,_,r.pre.length+ms.length<=100000]) (by kernel_rfl) ⟨z q,Fw hi,KA (P:=P) hi,R.s1,trivial⟩ rfl
 |Uh q=>
  refine⟨[],Nat.zero_le _,rfl,B.to (Nat.le_succ _) (Nat.le_succ _) B.Zb,λms r R=>?_⟩
  refine rt (show ms++ua P []=ms from List.append_nil _) ?_
  exact jc e (n:=60) [⟨891,11,24,.item Ga.Uh.sv⟩] (l:=[_]) (by kernel_rfl) ⟨z q,trivial⟩ rfl
 |@go mm i q hi hm=>
  have p1:=Om k (cnt k rd+1) rd
  refine⟨[now],Nat.le_refl _,rfl,B.to (Nat.le_succ _) p1 (n5 hi),λms r R=>?_⟩
  induction now using Option.casesOn<;>exact jc e (n:=60) [⟨891,11,24,.item (Ga.again mm i).sv⟩,⟨901,25,46,.item (.it (cnt k rd))⟩,⟨902,11,25,.item (.it (cnt k rd+1))⟩,⟨902,11,35,.Ca false⟩,⟨905,20,37,.item (.st (Ff i))⟩,⟨905,58,76,.item (.tp (P.pa i))⟩]
   (l:=[_,some (((ag k rd).map SV.it).getD (.it 0))=some (.it (cnt k rd)),rd.length<=100000,Be k (gh (Yb k (cnt k rd+1) rd))=some (.it (cnt k rd+1)),decide (cnt k rd+1>mm)=false,_,_,r.pre.length+ms.length<=100000]) (by kernel_rfl)
   ⟨z q,by unfold cnt;induction ag k rd using Option.casesOn<;>rfl,Nat.le_of_succ_le B.r1,by refine rt (Pn ..) (rt (Rr ..) ?_);rfl,decide_eq_false hm,Fw hi,KA (P:=P) hi,R.s1,trivial⟩ rfl
 |@no mm i q hm=>
  have p1:=Om k (cnt k rd+1) rd
  have p2:(Yb k 0 (Yb k (cnt k rd+1) rd)).length<=rd.length+1:=by refine rt (LA ..) ?_;exact Om ..
  refine⟨[],Nat.zero_le _,rfl,B.to (Nat.le_succ _) p2 B.Zb,λms r R=>?_⟩
  refine rt (show ms++ua P []=ms from List.append_nil _) ?_
  exact jc e (n:=60) [⟨891,11,24,.item (Ga.again mm i).sv⟩,⟨901,25,46,.item (.it (cnt k rd))⟩,⟨902,11,25,.item (.it (cnt k rd+1))⟩,⟨902,11,35,.Ca true⟩]
   (l:=[_,some (((ag k rd).map SV.it).getD (.it 0))=some (.it (cnt k rd)),rd.length<=100000,Be k (gh (Yb k (cnt k rd+1) rd))=some (.it (cnt k rd+1)),decide (cnt k rd+1>mm)=true,(Yb k (cnt k rd+1) rd).length<=100000]) (by kernel_rfl)
   ⟨z q,by unfold cnt;induction ag k rd using Option.casesOn<;>rfl,Nat.le_of_succ_le B.r1,by refine rt (Pn ..) (rt (Rr ..) ?_);rfl,decide_eq_true hm,Nat.le_trans p1 B.r1,trivial⟩ rfl
end
end
section
noncomputable def pp(f:Addr):ah:=(aLk f TP.fn).getD default
noncomputable def Dc(f:Addr)(hn:Hn):Cx:=⟨(pp f).scope,[],hn,true,(pp f).me⟩
noncomputable def sB(f j:Nat):Stmt:=iL j (pp f).body
noncomputable def Sd:Stmt->PySem.Expr
 |.While t _ _ _=>t
 |.For t _ _ _ _=>t
 |s=>.Constant .none s.pos.line s.pos
noncomputable def bl:Stmt->PySem.Expr
 |.For _ i _ _ _=>i
 |s=>.Constant .none s.pos.line s.pos
noncomputable def Td:Stmt->List Stmt
 |.While _ b _ _=>b
 |.For _ _ b _ _=>b
 |_=>[]
noncomputable def de:Stmt->List Stmt
 |.While _ _ r _=>r
 |.For _ _ _ r _=>r
 |_=>[]
section
variable {W:Wd}{c:Cx}{n D k:Nat}{s:Stmt}{loc ub loc1:Lc}{st db st1:St}{f:Fl}{T:Tb}
theorem dc.qe(ok:W.Ok)(hT:∀fd,lb (W.on fd) T)(es:s=.While (Sd s) (Td s) (de s) s.pos){f:Except Nat Fl}(ch:Ch (Rn.nf (Rn.Xa W T n) c D (Sd s) (Td s) (de s)) k loc st f loc1 st1)(nt:Nt c f loc1 st1 ⟨ub,db,[]⟩):dc W c D s loc st f ub db:=λfd=>by
 refine rt es ?_
 exact Ev.UE (θ:=⟨W.on fd,c,D⟩) (ok.on fd) (Pj ok hT n fd) ch nt
theorem Nt.ok{g:Fl}:Nt c (.ok g) loc st ⟨loc,st,[]⟩:=⟨rfl,λuu uu=>rfl,λuu e=>nomatch e⟩
theorem Nt.er{C:Addr}{d n:Nat}(hc:c.fn=true)(e:st[n]?=some (.jb C d true)):Nt c (.error n) loc st ⟨loc,st,[]⟩:=⟨rfl,λuu e=>(nomatch e),λm q=>by cases q;exact⟨hc,yF e⟩⟩
end
section
variable {W:Wd}{P:Pm}{m:Mm}{b:Ck}{ms0:List SV}{r:Rw}{D:Nat}{hn:Hn}{y:Bool}(e:Wo W P)
noncomputable def qK(i:Nat):Bool:=qC i||Nat.ble 39 i
noncomputable def cK(P:Pm)(k:Bool)(σ:Sg):St:=cond k (Pd qK 0 (cS P σ)) (cS P σ)
noncomputable def MA(mark:Int):Option SV->Lc
 |none=>[(Ef,.ob 0),(Jr,.it mark)]
 |some x=>[(Ef,.ob 0),(Jr,.it mark),(FP,x)]
theorem bH{mark:Int}(hm:mark=((r.pre.length+ms0.length:Nat):Int)):∀(rv:List (Option Nat)) (now:Option Nat) (x:Option SV),r.pre.length+ms0.length+rv.length<=100000->
  ∃k u,Ch (Rn.nf (Rn.Xa W.co (Wb P) 50) (Dc 392 hn) (D+2) (Sd (sB 392 0)) (Td (sB 392 0)) (de (sB 392 0))) k (MA mark x) (cK P y ⟨{m with now:=now},b,ms0++ua P rv.reverse,r⟩) (.ok .next) (MA mark u) (cK P y ⟨{m with now:=backTo now rv.reverse},b,ms0,r⟩)
 |[],now,x,h=>⟨0,x,by
  refine rt (show ms0++ua P ([]:List (Option Nat)).reverse=ms0 from List.append_nil _) ?_
  induction x using Option.casesOn<;>exact Ch.Df [⟨200,10,31,.Ca false⟩] (l:=[r.pre.length+ms0.length+0<=1000000,decide (((r.pre.length+ms0.length+0:Nat):Int)>mark)=false]) (by induction y using Bool.casesOn<;>kernel_rfl) ⟨Nat.le_trans h (by decide),decide_eq_false (hm▸Int.lt_irrefl _),trivial⟩⟩
 |a::rv,now,x,h=>by
  obtain⟨k,u,ch⟩:=bH hm rv a (some (Qi P a)) (Nat.le_of_succ_le h)
  have e1:backTo now (a::rv).reverse=backTo a rv.reverse:=by
   refine rt (List.reverse_cons ..) ?_
   induction rv.reverse using List.casesOn<;>rfl
  have e2:ms0++ua P (a::rv).reverse=ms0++ua P rv.reverse++[Qi P a]:=by
   unfold ua
   refine rt (List.reverse_cons ..) (rt (List.map_append ..) (rl (List.append_assoc ..) ?_))
   rfl
  have e3:(ms0++ua P rv.reverse++[Qi P a]).length=ms0.length+rv.length+1:=by
   unfold ua
   refine rt (List.length_append ..) (rt (List.length_append ..) (rt (List.length_map ..) (rt (List.length_reverse ..) ?_)))
   rfl
  have h2:r.pre.length+(ms0++ua P rv.reverse++[Qi P a]).length<=100000:=by refine rt (e3 ..) (rl (Nat.add_assoc ..) (rl (Nat.add_assoc ..) ?_));exact h
  refine rt e1 (rt e2 ?_)
  refine⟨k+1,u,?_⟩
  induction x using Option.casesOn<;>exact Ch.nh [⟨200,10,31,.Ca true⟩,⟨201,15,30,.Id (ms0++ua P rv.reverse) (Qi P a)⟩]
   (l:=[r.pre.length+(ms0++ua P rv.reverse++[Qi P a]).length+0<=1000000,decide (((r.pre.length+(ms0++ua P rv.reverse++[Qi P a]).length+0:Nat):Int)>mark)=true,
    []=([]:List SV)/\ms0++ua P rv.reverse++[Qi P a]=ms0++ua P rv.reverse++[Qi P a],r.pre.length+(ms0++ua P rv.reverse++[Qi P a]).length<=100000]) (by induction y using Bool.casesOn<;>kernel_rfl)
   ⟨Nat.le_trans h2 (by decide),decide_eq_true (by refine rt hm (rt e3 ?_);lia),⟨rfl,rfl⟩,h2,trivial⟩ ch
include e
theorem cH{mark:Int}(hm:mark=((r.pre.length+ms0.length:Nat):Int))(sv:List (Option Nat))(h:r.pre.length+ms0.length+sv.length<=100000):
  ∀fd,ba (W.co.on fd) hn (D+3) (.tp 392) [.ob 0,.it mark] (cK P y ⟨m,b,ms0++ua P sv,r⟩) (.ok .nn) (cK P y ⟨{m with now:=backTo m.now sv},b,ms0,r⟩):=by
 obtain⟨k,u,ch⟩:=bH (y:=y) (W:=W) (P:=P) (m:=m) (b:=b) (D:=D) (hn:=hn) hm sv.reverse m.now none (by refine rt (List.length_reverse ..) ?_;exact h)
 replace ch:=(List.reverse_reverse ..)▸ch
 exact Km (W:=W.co) (e.ok.mw _) e.hC (n:=51) [⟨200,4,35,.mq (.ok .next) (MA mark u) (cK P y ⟨{m with now:=backTo m.now sv},b,ms0,r⟩)⟩] (l:=[_]) (by induction y using Bool.casesOn<;>kernel_rfl) ⟨dc.qe (e.ok.mw _) e.hC (by kernel_rfl) ch .ok,trivial⟩
theorem Vh{mark:Int}(hm:mark=((r.pre.length+ms0.length:Nat):Int))(sv:List (Option Nat))(h:r.pre.length+ms0.length+sv.length<=100000):
  wa W P hn (D+3) 392 [.ob 0,.it mark] ⟨m,b,ms0++ua P sv,r⟩ .nn ⟨{m with now:=backTo m.now sv},b,ms0,r⟩:=cH (y:=false) e hm sv h
end
end
section
theorem SP{P:Pm}{o:Option Nat}(h:∀i,o=some i->i<5):(Wb P).cq (pr P o):=by
 rcases o with _|i
 ·exact .inl rfl
 exact .inr ⟨i,Qr.mpr (h i rfl),rfl⟩
noncomputable def Fe(now b:Option Nat):List (Option Nat):=if b=now then [] else [b]
set_option tactic.hygienic true in
theorem dH(st:St)(a b:Option Nat):Rn.Zc st 60 (mt a) (mt b)=some (decide (a=b)):=by
 induction a using Option.casesOn<;>induction b using Option.casesOn<;>first|rfl|skip
 rename_i i j
 refine rt (show Rn.Zc st 60 (mt (some i)) (mt (some j))=some (Oa (Ff i) (Ff j)&&true) by kernel_rfl) (rt (Bool.and_true ..) ?_)
 refine congrArg some (Bool.eq_iff_iff.mpr (Je.trans ⟨λh=>decide_eq_true (congrArg some ?_),λh=>by exact rt (Option.some.inj (of_decide_eq_true h) ..) rfl⟩))
 have h:97+i=97+j:=congrArg (λs:Str=>s.cps.toList.headD 0) h
 lia
section
variable {W:Wd}{P:Pm}{m:Mm}{b:Ck}{ms0:List SV}{r:Rw}{D:Nat}{hn:Hn}(e:Wo W P)
include e
theorem Wh(hh:hn=.nn\/hn=.fo){mark:Int}(hf:∀i,m.now=some i->i<5)(hm:mark=((r.pre.length+ms0.length:Nat):Int))(sv:List (Option Nat))(h:r.pre.length+ms0.length+sv.length<=100000):
  wa W P hn (D+4) 399 [.ob 0,.it mark] ⟨m,b,ms0++ua P sv,r⟩ .nn ⟨m,b,ms0++ua P (Fe m.now (backTo m.now sv)),r⟩:=by
 have lv:=Vh (m:=m) (b:=b) (D:=D) (hn:=hn) e hm sv h
 obtain⟨now,lg,rd⟩:=m
 unfold Fe
 by_cases hb:backTo now sv=now
 ·refine rt (if_pos hb ..) (rt (show ms0++ua P []=ms0 from List.append_nil _) ?_)
  replace lv:=(hb ..)▸(show(Mm.mk now lg rd).now=now from rfl)▸lv
  exact jc e (n:=60) [⟨205,4,20,ho lv⟩,⟨206,7,24,.Ca false⟩,⟨206,28,56,.same⟩]
   (l:=[_,Rn.Zc (cS P ⟨⟨now,lg,rd⟩,b,ms0,r⟩) 60 (mt now) (mt now)=some (xor false true),∃x,pr P now=x/\pr P now=x/\(Wb P).cq x])
   (by rcases hh with rfl|rfl<;>induction now using Option.casesOn<;>kernel_rfl) ⟨lv,(dH _ _ _).trans (by rw[decide_eq_true rfl];rfl),⟨_,rfl,rfl,SP hf⟩,trivial⟩ rfl
 ·refine rt (if_neg hb ..) ?_
  replace lv:=(show(Mm.mk now lg rd).now=now from rfl)▸lv
  generalize backTo now sv=b' at *
  exact jc e (n:=60) [⟨205,4,20,ho lv⟩,⟨206,7,24,.Ca true⟩]
   (l:=[_,Rn.Zc (cS P ⟨⟨b',lg,rd⟩,b,ms0,r⟩) 60 (mt now) (mt b')=some (xor false false),r.pre.length+ms0.length<=100000])
   (by rcases hh with rfl|rfl<;>induction now using Option.casesOn<;>induction b' using Option.casesOn<;>kernel_rfl) ⟨lv,(dH _ _ _).trans (by refine rt (decide_eq_false (Ne.symm hb) ..) ?_;rfl),Nat.le_trans (Nat.le_add_right ..) h,trivial⟩ rfl
end
end
section
set_option tactic.hygienic true in
theorem V.De{W:Wd}{m:Nat->Bool}{ad:List Addr}{h:Heap}{x:SV}:∀{v:Value},V (W.mw m) ad h x v->Mine.De (λn=>!m n) x=true:=by
 induction x using SV.rec (motive_2:=λl=>∀{v:List Value},Vs (W.mw m) ad h l v->Mc (λn=>!m n) l=true) with
 |ob n=>exact λq=>q.elim λa q=>congrArg (λb=>!b) (Gh q.1)
 |tu l ih=>exact λq=>by induction(q:fb ..) using fb.casesOn with|mk a vs n e q m=>exact ih q
 |fl l ih=>exact λq=>by induction(q:fb ..) using fb.casesOn with|mk a vs n e q m=>exact ih q
 |cons x l ih il=>
  rename_i v q
  refine Ta.casesOn (q:Ta ..) λv r q z=>?_
  exact(Bool.and_eq_true _ _).mpr ⟨ih q,il z⟩
 |nil=>rfl
 |_=>exact λuu=>rfl
theorem dc.co{W:Wd}(ok:W.Ok){m q:Nat->Bool}{c:Cx}{D:Nat}{s:Stmt}{loc ub:Lc}{st db:St}(E:dc W.fi c D s loc st (.ok .next) ub db)(hl:db.length=st.length)(mn:Cf m q 0 db=true)(Dh:∀x sv,lk x ub=some sv->lk x loc=some sv\/De (λn=>!m n) sv=true):dc (W.mw m) c D s loc (Od q 0 st) (.ok .next) ub (Od q 0 db):=λfd Γ ad s0 M uu=>by
 have tr:∀{x v},V ((W.mw m).on fd) ad s0.heap x v->V (W.fi.on fd) ad s0.heap x v:=λy=>V.open (W:=W.on fd) y
 refine wpAny_mono (E fd Γ ad s0 ⟨M.ib,R.open (W:=W.on fd) M.r,M.lo.imp λmm y=>⟨y.1,λx=>?_⟩,M.nL,M.lL,M.lT,M.Yg,⟨M.env.scope,M.env.globals,M.env.builtins,λx n e=>(M.env.cells x n e).imp λa y=>⟨yc rfl (Hb y.1),y.2⟩,M.env.me⟩,M.fr,M.ff,M.je,M.un,M.hn.open⟩ trivial) (λv s2 z=>?_) λuu uu z=>z.ok
 ·have:=y.2 x
  revert this
  rcases lk x loc with _|sv
  ·exact id
  exact Exists.imp λv z=>⟨z.1,tr z.2⟩
 ·refine Po.casesOn z.po λia r M' x=>?_
  have r':pb ((W.mw m).on fd) Γ.L ad s0 ia s2:=⟨⟨λe=>yc (Gh e) (Hb (r.g.get (yc rfl (Hb e)))),r.g.new⟩,r.k,r.e⟩
  have ll:ia.length=ad.length:=(M'.r.len.trans hl).trans (lr.symm.trans M.r.len.symm)
  refine⟨.next,rfl,ia,r',M.next (sx1:=⟨ub,_,[]⟩) (ok.mw m|>.on fd) r' (R.Jj (W:=W.on fd) M'.r mn λn e=>M.r.hi n (ll▸e)) (M'.lo.imp λmm y=>⟨y.1,λx=>?_⟩),x⟩
  have:=y.2 x
  revert this
  rcases e:lk x ub with _|sv
  ·exact id
  refine Exists.imp λv z=>⟨z.1,V.co (W:=W.on fd) ?_ _ z.2⟩
  refine(Dh x sv e).elim (λe=>M.lo.elim λmm y=>?_) id
  have y:=y.2 x
  replace y:=e▸y
  exact Exists.elim y λv y=>V.De (W:=W.on fd) y.2
theorem eH:∀(i:Nat) (l:St),Pd (λuu=>false) i l=l
 |_,[]=>rfl
 |i,o::l=>congrArg (o::·) (eH (i+1) l)
noncomputable def NA(m:Nat->Bool):Nat->Nat->List Nat->Bool
 |_,0,_=>true
 |_,_+1,[]=>false
 |i,n+1,p::r=>(m i||Nat.beq p i)&&NA m (i+1) n r
theorem Hw{m:Nat->Bool}:∀{n i:Nat} {l:List Nat},NA m i n l=true->n<=l.length/\∀j,j<n->m (i+j)=false->l[j]?=some (i+j)
 |0,_,_,_=>⟨Nat.zero_le _,λj h=>absurd h (Nat.not_lt_zero j)⟩
 |_+1,_,[],e=>ft e
 |n+1,i,p::r,e=>Na e λa b=>⟨Nat.succ_le_succ (Hw b).1,λj=>match j with
  |0=>λuu hm=>congrArg some (by replace a:=(show m i=false from hm)▸a;exact Nat.eq_of_beq_eq_true a)
  |j+1=>λh hm=>by
   rw[show i+(j+1)=i+1+j by lia] at hm ⊢
   exact(Hw b).2 j (Nat.lt_of_succ_lt_succ h) hm⟩
section
variable {W:Wd}{P:Pm}{σ:Sg}{D n:Nat}{hn:Hn}(e:Wo W P)
include e
theorem Wo.hF(fd:List Addr):lb (W.fi.on fd) (Wb P):=e.hT (λuu=>false) fd
theorem qp{f:Addr}{vs:List SV}{st F:St}{v:SV}{l:List Prop}(q q' qk:Nat->Bool)(hs:List Jd)(ps:List Nat)(hq:(sr ps&&(NA Qd 0 st.length ps&&De (λn=>!Qd n) v))=true)
  (x:∀z,(sG ps z (Rn.cg (Wb P) (Rn.Xa W.fi (Wb P) n) hn D f vs ⟨[],st,hs⟩)).map (λx=>(x.1,Pd qk 0 x.2.1,x.2.2.1&&Cf Qd q' 0 (Pd qk 0 x.2.1),x.2.2.2))=some (.ok v,F,true,l)) (hl:Me l) (fd:List Addr):ba (W.co.on fd) hn D (.tp f) vs (Od q 0 st) (.ok v) (Od q' 0 F):=by
 rcases h:Rn.cg (Wb P) (Rn.Xa W.fi (Wb P) n) hn D f vs ⟨[],st,hs⟩ with _|y
 ·have:=x λuu=>0;replace this:=h▸this;contradiction
 obtain⟨r,⟨ub,db,yf⟩,l'⟩:=y
 replace x:=h▸x
 have x0:=Option.some.inj (x λuu=>0)
 have el:l'=l:=congrArg (·.2.2.2) x0
 have e2:∀z,Pd qk 0 (Md z ps db)=F:=λz=>congrArg (·.2.1) (Option.some.inj (x z))
 have eb:((ps.all λp=>Nat.blt p db.length)&&Co db.length ps r&&Cf Qd q' 0 (Pd qk 0 (Md (λuu=>0) ps db)))=true:=congrArg (·.2.2.1) x0
 replace eb:=(e2 ..)▸eb
 exact Na eb λb c=>Na b λb1 b2=>Na hq λh1 h2=>Na h2 λh2 h3=>ba.co (W:=W.on fd) qk (Gm (e.ok.mw _) e.hF h (el▸hl.mem) fd) ps q q' (Xv h1) (λp m=>Nat.le_of_ble_eq_true (List.all_eq_true.mp b1 p m))
  (λi hi hm=>((Hw h2).2 i hi (by refine rt (Nat.zero_add ..) ?_;exact hm)).trans (by exact(Nat.zero_add ..).symm▸rfl)) (Hw h2).1 e2 (λz=>congrArg (·.1) (Option.some.inj (x z))) b2 c (λb e=>Except.ok.inj e▸h3) λn e=>nomatch e
omit e in
theorem Iw:(base P σ).all (Ee zd)=true/\Cf Qd qC 0 (base P σ)=true:=by
 obtain⟨⟨now,lg,rd⟩,⟨s,l,er⟩,ms,r⟩:=σ
 induction now using Option.casesOn<;>induction er using Option.casesOn<;>exact⟨by kernel_rfl,by kernel_rfl⟩
theorem UP{f:Addr}{vs:List SV}{σ':Sg}{v:SV}{l:List Prop}(hs:List Jd)(q:((Rn.cg (Wb P) (Rn.Xa W.fi (Wb P) n) hn D f vs ⟨[],base P σ,hs⟩).bind λx=>some (x.1,x.2.1.st.take 46,x.2.2))=some (.ok v,base P σ',l))(hl:Me l)(hv:Ia v=true):wa W P hn D f vs σ v σ':=λfd=>obs q λx e1 e2=>by
 obtain⟨r,⟨loc,F,yf⟩,l'⟩:=x
 have e2:=Option.some.inj e2
 have ev:r=.ok v:=congrArg (·.1) e2
 have es:F.take 46=base P σ':=congrArg (·.2.1) e2
 have el:l'=l:=congrArg (·.2.2) e2
 subst ev el
 have c:=Gm (W:=W.fi) (e.ok.mw _) e.hF e1 hl.mem fd
 replace c:=(es ..)▸(List.take_append_drop 46 F ..).symm▸c
 have lF:46<=(base P σ'++F.drop 46).length:=by refine rt (List.length_append ..) ?_;exact Nat.le_add_right 46 _
 have y:=λz=>Oh (z:=z) (ps:=List.range 46) (k:=(base P σ'++F.drop 46).length) (λj h=>have h:=Nat.le_of_ble_eq_true h;⟨oh List.nodup_range (List.getElem?_range h),Nat.lt_of_lt_of_le h lF⟩) (Nc (p:=zd) hv)
 exact ba.co (W:=W.on fd) (λuu=>false) c (List.range 46) qC qC List.nodup_range (λp m=>Nat.lt_of_lt_of_le (List.mem_range.mp m) lF) (λi hi uu=>List.getElem?_range hi) (Nat.le_refl 46) (λz=>(eH _ _).trans (Zv z rfl Iw.1)) (λz=>congrArg Except.ok (y z).2) (y λuu=>0).1 Iw.2 (λb e=>Except.ok.inj e▸Nc hv) λn e=>nomatch e
theorem rp(h:σ.r.zp.length<=1000):wa W P .nn (D+2) 547 [.ob 4,.it ((σ.r.zp.length+0+0:Nat):Int)] σ .nn σ:=by
 exact UP e (n:=60) [⟨341,14,41,.Ca false⟩] (l:=[σ.r.zp.length+0+0<=1000000,decide (((σ.r.zp.length+0+0:Nat):Int)>((σ.r.zp.length+0+0:Nat):Int))=false]) (by kernel_rfl) ⟨Nat.le_trans h (by decide),decide_eq_false (Int.lt_irrefl _),trivial⟩ rfl
end
end
section
theorem OA{q:Nat->Bool}{X:St}:∀{i:Nat} {l:St},Od q i (l++X)=Od q i l++Od q (i+l.length) X
 |_,[]=>rfl
 |i,o::l=>by
  refine(?_:_::Od q (i+1) (l++X)=_::(Od q (i+1) l++Od q (i+(l.length+1)) X))
  exact(OA ..).symm▸(show i+(l.length+1)=i+1+l.length by lia).symm▸rfl
theorem PA{m q:Nat->Bool}{X:St}:∀{i:Nat} {l:St},Cf m q i l=true->Cf m q (i+l.length) X=true->Cf m q i (l++X)=true
 |_,[],_,h=>h
 |i,o::l,h,h'=>Na h λa b=>(Bool.and_eq_true _ _).mpr ⟨a,PA b (by refine rt (show i+1+l.length=i+(l.length+1) by lia) ?_;exact h')⟩
theorem VP:∀n,46<=n->qC n=false:=λn h=>by
 have:∀k,k<46->Nat.beq n k=false:=λk hk=>by refine rl (Bool.not_eq_true ..) (rt (Nat.beq_eq ..) ?_);lia
 unfold qC
 refine rt (this 3 (by decide) ..) (rt (this 10 (by decide) ..) (rt (this 39 (by decide) ..) ?_))
 rfl
theorem QA:∀{i:Nat} {X:St},46<=i->Od qC i X=X
 |_,[],_=>rfl
 |i,o::l,h=>by
  refine(?_:cond (qC i) (.op o) o::Od qC (i+1) l=_)
  refine rt (VP i h ..) (rt (QA (Nat.le_succ_of_le h) ..) ?_)
  rfl
noncomputable def fo{W:Wd}{c:Cx}{D:Nat}{s:Stmt}{loc:Lc}{st:St}{f:Except Nat Fl}{ub:Lc}{db:St}(_:dc W c D s loc st f ub db):Hd:=.mq f ub db
theorem RA{p:Nat->Bool}{x y:Str}{i:Int}{sv:SV}:∀{l:Lc},lk x (l++[(y,.it i)])=some sv->lk x l=some sv\/De p sv=true
 |[],e=>by
  have e:cond (Oa y x) (some (SV.it i)) none=some sv:=e
  revert e
  rcases Oa y x with _|_
  ·exact Fa
  exact λe=>.inr (by refine rl (Option.some.inj e ..) ?_;rfl)
 |q::l,e=>by
  have e:cond (Oa q.1 x) (some q.2) (lk x (l++[(y,.it i)]))=some sv:=e
  refine(?_:cond (Oa q.1 x) (some q.2) (lk x l)=some sv\/_)
  revert e
  rcases Oa q.1 x with _|_
  ·exact RA
  exact .inl
noncomputable def Ck.Ub(b:Ck):Ck:={b with xd:=b.xd+1}
section
variable {W:Wd}{P:Pm}{σ σ':Sg}{m:Mm}{b:Ck}{ms:List SV}{r:Rw}{D:Nat}(e:Wo W P)
include e
theorem jl(f:Addr){s:Stmt}{loc:Lc}{X:St}(x:rep (Rn.pj W.fi (Rn.Xa W.fi (Wb P) 60) (Wb P) (Dc f .nn) D s ⟨loc,base P σ++X,[]⟩)=some (.ok .next,loc++[(Jm,.it ((σ.r.zp.length+0+0:Nat):Int))],base P σ++X,[σ.r.zp.length+0+0<=1000000]))(hz:σ.r.zp.length<=1000)(hX:Cf Qd qC 46 X=true):dc W.co (Dc f .nn) D s loc (cS P σ++X) (.ok .next) (loc++[(Jm,.it ((σ.r.zp.length+0+0:Nat):Int))]) (cS P σ++X):=by
 have:=dc.co (q:=qC) e.ok (Jz (W:=W.fi) (e.ok.mw _) e.hF [] x ⟨Nat.le_trans hz (by decide),trivial⟩) rfl (PA Iw.2 hX) λy sv=>RA
 replace this:=(QA (i:=0+(base P σ).length) (Nat.le_refl 46) ..)▸(OA ..)▸this
 exact this
omit e in
theorem Jw(x:SV){l:List SV}(h:l.length<=1000):Rn.Ce (x::l) 0=some x:=by
 unfold Rn.Ce
 refine rt (show Nat.ble (x::l).length 1000000=true from Nat.ble_eq_true_of_le (Nat.le_trans (Nat.succ_le_succ h) (by decide))) ?_
 rfl
inductive Xh:Str->Addr->Prop where
 |expr:Xh Vj 918
 |ifs:Xh Cw 925
 |Pe:Xh Mr 960
 |Kw:Xh ap 1002
 |bare:Xh Yo 1009
 |Qe:Xh Ir 974
 |WP:Xh Bw 967
theorem fH{u:Str}{g:Addr}{l:List SV}{v:SV}(hk:Xh u g)(hl:clos l=true)(hn:l.length<=1000)(hv:Ia v=true)(hz:r.zp.length<=1000)(hs:b.xd+1<=1000000){m':Mm}{b':Ck}{Yd:List SV}(c:wa W P .nn D g [.ob 0,.tu (.st u::l),.it 0] ⟨m,b.Ub,ms,r⟩ v ⟨m',b',Yd,r⟩):
  wa W P .nn (D+4) 897 [.ob 0,.tu (.st u::l),.it 0] ⟨m,b,ms,r⟩ v ⟨m',b',Yd,r⟩:=by
 have st:=jl e 897 (σ:=⟨m,b.Ub,ms,r⟩) (D:=D+3) (s:=sB 897 2) (X:=[]) (loc:=[(Ef,.ob 0),(Pi,.tu (.st u::l)),(rf,.it 0)]) (by kernel_rfl) hz rfl
 have sn:=rp (σ:=⟨m',b',Yd,r⟩) (D:=D+1) e hz
 exact jc e (n:=60) [⟨543,7,35,.Ca false⟩,⟨555,7,14,.item (.st u)⟩,⟨557,4,30,fo st⟩,⟨547,30,37,.item (.st u)⟩,⟨547,15,55,ho (ba.up c 2)⟩,⟨560,8,33,ho sn⟩]
  (l:=[decide (b.xd+1>1000000)=false,_,_,_,_,_]) (by induction hk using Xh.casesOn<;>kernel_rfl) ⟨decide_eq_false (Int.not_lt.mpr hs),Jw (.st u) hn,st,Jw (.st u) hn,ba.up c 2,sn,trivial⟩ hv
end
end
section
noncomputable def XP:Str:=⟨⟨[110,111,32,115,117,99,104,32,108,111,111,112]⟩⟩
noncomputable def kl(w:Str):List (Str×SV):=[(qg,.st XP),(MG,.st w),(Fr,.st q0)]
noncomputable def vp:Str:=⟨⟨[100,101,97,116,104]⟩⟩
noncomputable def Ri:Str:=⟨⟨[100,101,97,116,104,32,97,116,32,108,105,110,101,32,49,46,10]⟩⟩
noncomputable def YP:Str:=⟨⟨[100,105,101,100]⟩⟩
noncomputable def ul(x:Str):List (Str×SV):=[(qg,.st YP),(Sj,.st x)]
noncomputable def Mm.bk(m:Mm)(sv:List (Option Nat)):Mm:={m with now:=backTo m.now sv}
section
variable {W:Wd}{P:Pm}{σ σ':Sg}{m m':Mm}{b b':Ck}{ms:List SV}{sv:List (Option Nat)}{r:Rw}{D:Nat}{ma v:SV}{C:Addr}{fs:List (Str×SV)}{u:Str}{k:Int}(e:Wo W P)
theorem wl{X:St}(n:Nat)(h:((X[n]?).map Jv).getD false=true):Tk (cS P σ++X) (List.range 46) (.nm (46+n))=.fo:=by
 have h1:ix (List.range 46) (46+n)=none:=by
  rcases q:ix (List.range 46) (46+n) with _|i
  ·rfl
  exact absurd (List.mem_range.mp (List.mem_of_getElem? (Zd q))) (by lia)
 refine(?_:(match ix (List.range 46) (46+n) with|some i=>Hn.nm i|none=>cond ((((cS P σ++X)[46+n]?).map Jv).getD false) .fo .no)=_)
 rw[h1,List.getElem?_append_right (by rw[Ze];lia),Ze,Nat.add_sub_cancel_left]
 refine(?_:cond _ _ _=_)
 refine rt h ?_
 rfl
include e
theorem ZP(hv:Ia v=true)(h:r.pre.length+ms.length+sv.length<=100000)(c:wa W P .nn D 904 [.ob 0,ma,.it 0] ⟨m,b,ms,r⟩ v ⟨m',b',ms++ua P sv,r⟩):wa W P .nn (D+4) 911 [.ob 0,ma,.it 0] ⟨m,b,ms,r⟩ v ⟨m'.bk sv,b',ms,r⟩:=by
 have l:=Vh (m:=m') (b:=b') (D:=D) (hn:=.nn) e rfl sv h
 exact jc e (n:=60) [⟨571,15,41,ho (ba.up c 3)⟩,⟨573,8,24,ho l⟩] (l:=[r.pre.length+ms.length+0<=1000000,_,_]) (by kernel_rfl) ⟨Nat.le_trans (Nat.le_trans (Nat.le_add_right _ _) h) (by decide),ba.up c 3,l,trivial⟩ hv
theorem aQ(hf:ae zd fs=true)(h:r.pre.length+ms.length+sv.length<=100000)(c:Er W P D 904 [.ob 0,ma,.it 0] ⟨m,b,ms,r⟩ C fs ⟨m',b',ms++ua P sv,r⟩):Er W P (D+4) 911 [.ob 0,ma,.it 0] ⟨m,b,ms,r⟩ C fs ⟨m'.bk sv,b',ms,r⟩:=by
 have l:=wa.up (Vh (m:=m') (b:=b') (D:=D) (hn:=.fo) e rfl sv h) rfl [.jb C 47 true,.ns fs] (hn':=.nm 46) rfl (wl 0 rfl)
 exact Ig e (n:=60) 0 [⟨571,15,41,ho (ba.up c 3)⟩,⟨573,8,24,ho l⟩] (l:=[r.pre.length+ms.length+0<=1000000,_,_]) (by kernel_rfl) ⟨Nat.le_trans (Nat.le_trans (Nat.le_add_right _ _) h) (by decide),ba.up c 3,l,trivial⟩ hf
theorem bQ(hv:Ia v=true)(hs:b.xd+1<=1000000)(h:r.pre.length+ms.length+sv.length<=100000)(c:wa W P .nn D 904 [.ob 0,ma,.it 0] ⟨m,b.Ub,ms,r⟩ v ⟨m',b',ms++ua P sv,r⟩):wa W P .nn (D+4) 932 [.ob 0,.st q0,ma,.it 0] ⟨m,b,ms,r⟩ (.tu [.bo true,v]) ⟨m'.bk sv,b',ms,r⟩:=by
 have l:=Vh (m:=m') (b:=b') (D:=D) (hn:=.nn) e rfl sv h
 exact jc e (n:=60) [⟨543,7,35,.Ca false⟩,⟨595,26,52,ho (ba.up c 3)⟩,⟨602,12,28,ho l⟩] (l:=[decide (b.xd+1>1000000)=false,r.pre.length+ms.length+0<=1000000,_,_]) (by kernel_rfl) ⟨decide_eq_false (Int.not_lt.mpr hs),Nat.le_trans (Nat.le_trans (Nat.le_add_right _ _) h) (by decide),ba.up c 3,l,trivial⟩ ((Bool.and_eq_true _ _).mpr ⟨hv,rfl⟩)
theorem gH(hu:u=tj\/u=Oe)(hs:b.xd+1<=1000000)(h:r.pre.length+ms.length+sv.length<=100000)(c:Er W P D 904 [.ob 0,ma,.it 0] ⟨m,b.Ub,ms,r⟩ 624 (kl u) ⟨m',b',ms++ua P sv,r⟩):wa W P .nn (D+4) 932 [.ob 0,.st q0,ma,.it 0] ⟨m,b,ms,r⟩ (.tu [.bo (Oa u tj),.nn]) ⟨m'.bk sv,b',ms,r⟩:=by
 have l:=wa.up (Vh (m:=m') (b:=b') (D:=D) (hn:=.nn) e rfl sv h) rfl [.jb 624 47 true,.ns (kl u)] (hn':=.nn) rfl rfl
 exact jc e (n:=60) [⟨543,7,35,.Ca false⟩,⟨595,26,52,ho (ba.up c 3)⟩,⟨602,12,28,ho l⟩] (l:=[decide (b.xd+1>1000000)=false,r.pre.length+ms.length+0<=1000000,_,_]) (by rcases hu with rfl|rfl<;>kernel_rfl) ⟨decide_eq_false (Int.not_lt.mpr hs),Nat.le_trans (Nat.le_trans (Nat.le_add_right _ _) h) (by decide),ba.up c 3,l,trivial⟩ rfl
theorem Mw{nd:SV}(hv:Ia v=true)(c:wa W P .nn D 765 [.ob 0,nd,.it 0] σ v σ'):wa W P .nn (D+2) 918 [.ob 0,.tu [.st Vj,.it 1,nd],.it 0] σ v σ':=
 jc e (n:=60) [⟨576,11,39,ho (ba.up c 1)⟩] (l:=[_]) (by kernel_rfl) ⟨ba.up c 1,trivial⟩ hv
theorem SA{nd:SV}(hf:ae zd fs=true)(c:Er W P D 765 [.ob 0,nd,.it 0] σ C fs σ'):Er W P (D+2) 918 [.ob 0,.tu [.st Vj,.it 1,nd],.it 0] σ C fs σ':=
 Ig e (n:=60) 0 [⟨576,11,39,ho (ba.up c 1)⟩] (l:=[_]) (by kernel_rfl) ⟨ba.up c 1,trivial⟩ hf
theorem cQ(hv:Ia v=true)(c:wa W P .nn D 911 [.ob 0,ma,.it 0] σ v σ'):wa W P .nn (D+3) 765 [.ob 0,.tu [.st Zk,ma],.it 0] σ v σ':=
 jc e (n:=60) [⟨701,11,40,ho (ba.up c 1)⟩] (l:=[_]) (by kernel_rfl) ⟨ba.up c 1,trivial⟩ hv
theorem dQ(hf:ae zd fs=true)(c:Er W P D 911 [.ob 0,ma,.it 0] σ C fs σ'):Er W P (D+3) 765 [.ob 0,.tu [.st Zk,ma],.it 0] σ C fs σ':=
 Ig e (n:=60) 0 [⟨701,11,40,ho (ba.up c 1)⟩] (l:=[_]) (by kernel_rfl) ⟨ba.up c 1,trivial⟩ hf
theorem eQ(hu:u=tj\/u=Oe):Er W P (D+8) 765 [.ob 0,.tu [.st u,.st q0],.it 0] σ 624 (kl u) σ:=
 Ig e (n:=60) 0 [] (l:=[]) (by rcases hu with rfl|rfl<;>kernel_rfl) trivial rfl
theorem TA{g:Addr}{l:List SV}{w:Str}(hk:Xh w g)(hl:clos l=true)(hn:l.length<=1000)(hz:r.zp.length<=1000)(hs:b.xd+1<=1000000)(c:Er W P D g [.ob 0,.tu (.st w::l),.it 0] ⟨m,b.Ub,ms,r⟩ 624 (kl u) σ'):Er W P (D+4) 897 [.ob 0,.tu (.st w::l),.it 0] ⟨m,b,ms,r⟩ 624 (kl u) σ':=by
 have st:=jl e 897 (σ:=⟨m,b.Ub,ms,r⟩) (D:=D+3) (s:=sB 897 2) (X:=[]) (loc:=[(Ef,.ob 0),(Pi,.tu (.st w::l)),(rf,.it 0)]) (by kernel_rfl) hz rfl
 exact Ig e (n:=60) 0 [⟨543,7,35,.Ca false⟩,⟨555,7,14,.item (.st w)⟩,⟨557,4,30,fo st⟩,⟨547,30,37,.item (.st w)⟩,⟨547,15,55,ho (ba.up c 2)⟩]
  (l:=[decide (b.xd+1>1000000)=false,_,_,_,_]) (by induction hk using Xh.casesOn<;>kernel_rfl) ⟨decide_eq_false (Int.not_lt.mpr hs),Jw (.st w) hn,st,Jw (.st w) hn,ba.up c 2,trivial⟩ rfl
theorem fQ(z:Rn.Ce (P.L++[]) k=some Ga.wb.sv):Er W P (D+9) 765 [.ob 0,Wa k,.it 0] σ 605 (ul vp) σ:=
 Ig e (n:=60) 0 [⟨891,11,24,.item Ga.wb.sv⟩] (l:=[_]) (by kernel_rfl) ⟨z,trivial⟩ rfl
theorem gQ{nd:SV}(hl:Ia nd=true)(hz:r.zp.length<=1000)(hs:b.xd+1<=1000000)(c:Er W P D 918 [.ob 0,.tu [.st Vj,.it 1,nd],.it 0] ⟨m,b.Ub,ms,r⟩ 605 (ul vp) σ'):Er W P (D+7) 897 [.ob 0,.tu [.st Vj,.it 1,nd],.it 0] ⟨m,b,ms,r⟩ 605 (ul Ri) σ':=by
 have st:=jl e 897 (σ:=⟨m,b.Ub,ms,r⟩) (D:=D+6) (s:=sB 897 2) (X:=[]) (loc:=[(Ef,.ob 0),(Pi,.tu [.st Vj,.it 1,nd]),(rf,.it 0)]) (by kernel_rfl) hz rfl
 exact Ig e (n:=60) 0 [⟨543,7,35,.Ca false⟩,⟨557,4,30,fo st⟩,⟨547,15,55,ho (ba.up c 5)⟩]
  (l:=[decide (b.xd+1>1000000)=false,_,_,vp.length<=100000,vp.length+(Str.ofString " at line ").length<=100000,(10:Int)≠0,(vp++Str.ofString " at line ").length+(Txt.item AA (Int.fmod 1 10)).length<=100000,(vp++Str.ofString " at line "++Txt.item AA (Int.fmod 1 10)).length+(Str.ofString ".\n").length<=100000]) (by kernel_rfl)
  ⟨decide_eq_false (Int.not_lt.mpr hs),st,ba.up c 5,by decide+kernel,by decide+kernel,by decide,by decide+kernel,by decide+kernel,trivial⟩ rfl
end
end
section
section
variable {W:Wd}{c:Cx}{n D k N:Nat}{s:Stmt}{loc ub loc1 UJ:Lc}{st db st1 Sl:St}{f:Except Nat Fl}{T:Tb}{l:List Prop}
theorem Qo.Pa{α β:Type}{θ:Th}{Γ:Bk}{ad ja:List Addr}{s s1 s2:Shared}{rep:β->α->Hp}{o:Except Nat β}{sx:Sx}{v:α}(c:pb θ.W Γ.L ad s ja s1)(h:Qo θ Γ ja s1 rep o sx v s2):Qo θ Γ ad s rep o sx v s2:=let⟨b,z,p⟩:=h;⟨b,z,p.Pa c⟩
theorem dc.for(ok:W.Ok)(hT:∀fd,lb (W.on fd) T)(es:s=.For (Sd s) (bl s) (Td s) (de s) s.pos)(h0:(!Rn.Lj (bl s)&&Rn.uo (Sd s))=true)(e:rep (((Rn.Xa W T n).ev c D (bl s)>>=λx=>Rn.Kj x) ⟨loc,st,[]⟩)=some (.ok (.ob N),loc1,st1,l))(hl:Me l)
  (ch:Ch (Rn.Lh (Rn.Xa W T n) T c D (Sd s) (Td s) (de s) N) k loc1 st1 f UJ Sl) (nt:Nt c f UJ Sl ⟨ub,db,[]⟩):dc W c D s loc st f ub db:=λfd Γ ad s0 M uu=>Na h0 λh1 h2=>by
 refine rt es ?_
 have key:exec (.For (Sd s) (bl s) (Td s) (de s) s.pos) Γ.env=(standAt s.pos>>=λuu=>(eval (bl s) Γ.env>>=λx=>standAt (bl s).pos>>=λuu=>PySem.holding [x] (pyIter x))>>=λi=>runOwn (.forLoop (Sd s) i (Td s) (de s) Γ.env) Γ.env):=by
  refine rt (YE (Hm h1) ..) ?_
  simp only [bind_assoc]
 refine(?_:wpAny _ _ (exec _ Γ.env) _ _ _)
 refine rt key ?_
 have O:=Pj ok hT n fd
 have H:=So.bind (θ:=⟨W.on fd,c,D⟩) (X:=λuu uu=>True) Da.true (O.Sb (θ:=⟨W.on fd,c,D⟩) (bl s) Da.true) (λx xv=>So.Jb (p:=(bl s).pos) (So.holding (vs:=[xv]) (So.Kj (x:=x) (v:=xv) (ok.on fd) λuu uu z=>z.2))) Γ ad ⟨loc,st,[]⟩ s0 M trivial
 refine(qr e).elim λyf e=>wpAny_bind (wpAny_standAt (wpAny_bind (wpAny_mono (H.get e hl.mem) (λi s1 z=>?_) λuu uu z=>z.ok)))
 refine Po.casesOn z.po λja r1 M1 x=>?_
 exact wpAny_mono (Ev.XE (ok.on fd) (hT fd) O h2 (X:=λa h=>V (W.on fd) a h (.ob N) i) (Da.V (W.on fd) _ _) (λuu uu z=>z) ch nt Γ ja s1 M1 x) (λuu uu z=>z.Pa r1) λuu uu ⟨n,e,z⟩=>⟨n,e,z.Pa r1⟩
theorem Ch.hH{m:Rn (Option Fl)}{x:Nat}(hs:List Jd)(e:rep (m ⟨loc,st,hs⟩)=some (.error x,ub,db,l))(hl:Me l):Ch m 0 loc st (.error x) ub db:=(qr e).elim λuu e=>.Ua e hl.mem rfl
end
noncomputable abbrev Ex:=Option (Addr×List (Str×SV))
inductive Wj(W:Wd)(P:Pm)(D:Nat):Ex->List SV->SV->Sg->SV->Sg->Prop where
 |nil {v0:SV} {τ:Sg}:Wj W P D none [] v0 τ v0 τ
 |cons {x:Ex} {s v v0 v2:SV} {r:List SV} {τ τ1 τ2:Sg}:wa W P .nn D 897 [.ob 0,s,.it 0] τ v τ1->Ia s=true->Ia v=true->Wj W P D x r v τ1 v2 τ2->Wj W P D x (s::r) v0 τ v2 τ2
 |Hc {C:Addr} {fs:List (Str×SV)} {s v0 v:SV} {r:List SV} {τ τ1:Sg}:Er W P D 897 [.ob 0,s,.it 0] τ C fs τ1->Ia s=true->ae zd fs=true->Wj W P D (some (C,fs)) (s::r) v0 τ v τ1
noncomputable def Kb(l:List SV):SV:=.tu [.st Uj,.fl l]
noncomputable def xl(L:List SV)(v:SV):Option Int->Lc
 |none=>[(Ef,.ob 0),(Uj,Kb L),(rf,.it 0),(Sj,v),(Oe,.it ((L.length:Int) - 1))]
 |some a=>[(Ef,.ob 0),(Uj,Kb L),(rf,.it 0),(Sj,v),(Oe,.it ((L.length:Int) - 1)),(Oo,.it a)]
noncomputable def UA:Ex->St
 |none=>[]
 |some (C,fs)=>[.jb C 48 true,.ns fs]
noncomputable def VA:Ex->Except Nat Fl
 |none=>.ok .next
 |some _=>.error 47
section
variable {W:Wd}{P:Pm}{D:Nat}{L:List SV}(e:Wo W P)
include e
theorem iQ(hL:L.length<=1000):∀{rest:List SV} {x:Ex} {v v':SV} {σ σ2:Sg},Wj W P D x rest v σ v' σ2->∀(j:Nat) (a:Option Int),L.drop j=rest->Ia v=true->
  ∃k v2 a' o,(x=none->v2=v'/\Ia v'=true)/\Ch (Rn.Lh (Rn.Xa W.co (Wb P) 50) (Wb P) (Dc 904 .nn) (D+1) (Sd (sB 904 2)) (Td (sB 904 2)) (de (sB 904 2)) 46) k (xl L v a) (cS P σ++[.ri (j:Int) (rest.length:Int)]) (VA x) (xl L v2 a') (cS P σ2++(o::UA x)):=by
 intro rest x v v' σ σ2 h
 induction h with
 |@nil v0 τ=>exact λj a hj hv=>⟨0,v0,a,.ta,λuu=>⟨rfl,hv⟩,by induction a using Option.casesOn<;>exact Ch.Df [] (l:=[]) (by kernel_rfl) trivial⟩
 |@cons x s v v0 v2 r τ τ1 τ2 c hs hv _ ih=>
  intro j a hj ZW
  have aX:L.drop (j+1)=r:=by refine rl (List.drop_drop ..) (rt (hj ..) ?_);rfl
  have qb:Rn.Ce L (j:Int)=some s:=by
   unfold Rn.Ce
   refine rt (show Nat.ble L.length 1000000=true from Nat.ble_eq_true_of_le (Nat.le_trans hL (by decide))) ?_
   have:=congrArg (·[0]?) hj
   replace this:=(List.getElem?_drop ..)▸this
   exact this
  obtain⟨k,v',a',o,q1,ch⟩:=ih (j+1) (some (j:Int)) aX hv
  have c':=wa.up c ((Bool.and_eq_true _ _).mpr ⟨Nc hv,Lm 0 rfl (l:=[s,.it 0]) ((Bool.and_eq_true _ _).mpr ⟨hs,rfl⟩)⟩) [.ri ((j:Int)+1) (r.length:Int)] (hn':=.nn) rfl rfl
  refine⟨k+1,v',a',o,q1,?_⟩
  have key:∀b:Bool,decide ((j:Int)=(L.length:Int) - 1)=b->Ch (Rn.Lh (Rn.Xa W.co (Wb P) 50) (Wb P) (Dc 904 .nn) (D+1) (Sd (sB 904 2)) (Td (sB 904 2)) (de (sB 904 2)) 46) (k+1) (xl L v0 a) (cS P τ++[.ri (j:Int) ((r.length+1:Nat):Int)]) (VA x) (xl L v' a') (cS P τ2++(o::UA x)):=λb hb=>
   Ch.nh [⟨566,35,47,.item s⟩,⟨566,57,67,.Ca b⟩,⟨566,16,78,ho (ba.up c' 1)⟩] (l:=[_,some (decide ((j:Int)=(L.length:Int) - 1))=some b,_]) (by induction a using Option.casesOn<;>induction b using Bool.casesOn<;>kernel_rfl) ⟨qb,congrArg some hb,ba.up c' 1,trivial⟩ ch
  exact key _ rfl
 |@Hc C fs s v0 v r τ τ1 c hs hf=>
  intro j a hj ZW
  have qb:Rn.Ce L (j:Int)=some s:=by
   unfold Rn.Ce
   refine rt (show Nat.ble L.length 1000000=true from Nat.ble_eq_true_of_le (Nat.le_trans hL (by decide))) ?_
   have:=congrArg (·[0]?) hj
   replace this:=(List.getElem?_drop ..)▸this
   exact this
  have c':=Er.up c (Lm 0 rfl (l:=[s,.it 0]) ((Bool.and_eq_true _ _).mpr ⟨hs,rfl⟩)) hf [.ri ((j:Int)+1) (r.length:Int)] (hn:=.nn) rfl rfl
  refine⟨0,v0,some (j:Int),.ri ((j:Int)+1) (r.length:Int),λq=>(nomatch q),?_⟩
  have key:∀b:Bool,decide ((j:Int)=(L.length:Int) - 1)=b->Ch (Rn.Lh (Rn.Xa W.co (Wb P) 50) (Wb P) (Dc 904 .nn) (D+1) (Sd (sB 904 2)) (Td (sB 904 2)) (de (sB 904 2)) 46) 0 (xl L v0 a) (cS P τ++[.ri (j:Int) ((r.length+1:Nat):Int)]) (.error 47) (xl L v0 (some (j:Int))) (cS P τ1++(.ri ((j:Int)+1) (r.length:Int)::[.jb C 48 true,.ns fs])):=λb hb=>
   Ch.hH [⟨566,35,47,.item s⟩,⟨566,57,67,.Ca b⟩,⟨566,16,78,ho (ba.up c' 1)⟩] (l:=[_,some (decide ((j:Int)=(L.length:Int) - 1))=some b,_]) (by induction a using Option.casesOn<;>induction b using Bool.casesOn<;>kernel_rfl) ⟨qb,congrArg some hb,ba.up c' 1,trivial⟩
  exact key _ rfl
theorem iH(hL:L.length<=1000){x:Ex}{v:SV}{σ σ2:Sg}(h:Wj W P D x L .nn σ v σ2):∃v2 a' o,(x=none->v2=v/\Ia v=true)/\dc W.co (Dc 904 .nn) (D+1) (sB 904 2) (xl L .nn none) (cS P σ) (VA x) (xl L v2 a') (cS P σ2++(o::UA x)):=by
 obtain⟨k,v2,a',o,q,ch⟩:=iQ e hL h 0 none rfl rfl
 refine⟨v2,a',o,q,dc.for (N:=46) (e.ok.mw _) e.hC (by kernel_rfl) (by kernel_rfl) (l:=[L.length<=1000000,(0:Int)<=(L.length:Int)/\(L.length:Int)<=1000000]) (by kernel_rfl) ⟨Nat.le_trans hL (by decide),⟨Int.natCast_nonneg _,Int.ofNat_le.mpr (Nat.le_trans hL (by decide))⟩,trivial⟩ ch ?_⟩
 rcases x with _|y
 ·exact .ok
 exact .er rfl rfl
theorem jQ(hL:L.length<=1000){v:SV}{σ σ2:Sg}(h:Wj W P D none L .nn σ v σ2):Ia v=true/\wa W P .nn (D+2) 904 [.ob 0,Kb L,.it 0] σ v σ2:=by
 obtain⟨v2,a',o,q,ev⟩:=iH e hL h
 obtain⟨rfl,hv⟩:=q rfl
 exact⟨hv,jc e (n:=51) [⟨565,4,78,fo ev⟩] (l:=[L.length<=1000000,_]) (by induction a' using Option.casesOn<;>kernel_rfl) ⟨Nat.le_trans hL (by decide),ev,trivial⟩ hv⟩
theorem kQ(hL:L.length<=1000){C:Addr}{fs:List (Str×SV)}(hf:ae zd fs=true){v:SV}{σ σ2:Sg}(h:Wj W P D (some (C,fs)) L .nn σ v σ2):Er W P (D+2) 904 [.ob 0,Kb L,.it 0] σ C fs σ2:=by
 obtain⟨v2,a',o,q,ev⟩:=iH e hL h
 exact Ig e (n:=51) 1 [⟨565,4,78,fo ev⟩] (l:=[L.length<=1000000,_]) (by kernel_rfl) ⟨Nat.le_trans hL (by decide),ev,trivial⟩ hf
end
end
section
noncomputable def Tc(cs:List SV)(x:SV):SV:=.tu [.st Cw,.fl cs,x]
noncomputable def Ja(k:Nat)(b:SV):SV:=.tu [Wa k,b]
theorem jd{a s n:Nat}(h:a+s+n<=100000):a+s+0<=1000000:=Nat.le_trans (Nat.le_trans (Nat.le_add_right _ _) h) (by decide)
theorem Yh{x:SV}(h:Ia x=true):Mc zd [.ob 0,x,.it 0]=true:=Lm 0 rfl (l:=[x,.it 0]) ((Bool.and_eq_true _ _).mpr ⟨h,rfl⟩)
section
variable {W:Wd}{P:Pm}{m m1 m2 m3:Mm}{b b3:Ck}{ms:List SV}{Cb Pb:List (Option Nat)}{r:Rw}{D:Nat}{x1 x2 x3 v:SV}{C:Addr}{fs:List (Str×SV)}{k1 k2:Nat}{l3:List SV}(e:Wo W P)
include e
theorem lQ(h5:∀i,m3.now=some i->i<5)(h:r.pre.length+ms.length+Cb.length<=100000)(hb:Ia x1=true)(hv:Ia v=true)(c1:wa W P .nn D 765 [.ob 0,Wa k1,.it 1] ⟨m,b,ms,r⟩ (vB true) ⟨m1,b,ms++ua P Cb,r⟩)(c3:wa W P .nn D 911 [.ob 0,x1,.it 0] ⟨m1,b,ms++ua P Cb,r⟩ v ⟨m3,b3,ms++ua P Cb,r⟩):wa W P .nn (D+6) 925 [.ob 0,Tc [Ja k1 x1] x3,.it 0] ⟨m,b,ms,r⟩ v ⟨m3,b3,ms++ua P (Fe m3.now (backTo m3.now Cb)),r⟩:=by
 have a1:=ba.up (wa.up c1 rfl [.li (.fl [Ja k1 x1]) 1] (hn':=.nn) rfl rfl) 4
 have a3:=ba.up (wa.up c3 ((Bool.and_eq_true _ _).mpr ⟨Nc hv,Yh hb⟩) [.li (.fl [Ja k1 x1]) 1] (hn':=.nn) rfl rfl) 5
 have a4:=wa.up (Wh (b:=b3) (D:=D+1) (hn:=.nn) e (.inl rfl) h5 rfl Cb h) rfl [.li (.fl [Ja k1 x1]) 1] (hn':=.nn) rfl rfl
 exact jc e (n:=60) [⟨462,20,47,ho a1⟩,⟨584,23,50,ho a3⟩,⟨589,8,29,ho a4⟩] (l:=[r.pre.length+ms.length+0<=1000000,_,_,_]) (by kernel_rfl) ⟨jd h,a1,a3,a4,trivial⟩ hv
theorem mQ(h5:∀i,m3.now=some i->i<5)(h:r.pre.length+ms.length+Cb.length<=100000)(hb:Ia x1=true)(hf:ae zd fs=true)(c1:wa W P .nn D 765 [.ob 0,Wa k1,.it 1] ⟨m,b,ms,r⟩ (vB true) ⟨m1,b,ms++ua P Cb,r⟩)(c3:Er W P D 911 [.ob 0,x1,.it 0] ⟨m1,b,ms++ua P Cb,r⟩ C fs ⟨m3,b3,ms++ua P Cb,r⟩):Er W P (D+6) 925 [.ob 0,Tc [Ja k1 x1] x3,.it 0] ⟨m,b,ms,r⟩ C fs ⟨m3,b3,ms++ua P (Fe m3.now (backTo m3.now Cb)),r⟩:=by
 have a1:=ba.up (wa.up c1 rfl [.li (.fl [Ja k1 x1]) 1] (hn':=.nn) rfl rfl) 4
 have a3:=ba.up (Er.up c3 (Yh hb) hf [.li (.fl [Ja k1 x1]) 1] (hn:=.nn) rfl rfl) 5
 have a4:=wa.up (Wh (b:=b3) (D:=D+1) (hn:=.fo) e (.inr rfl) h5 rfl Cb h) rfl [.li (.fl [Ja k1 x1]) 1,.jb C 48 true,.ns fs] (hn':=.nm 47) rfl (wl 1 rfl)
 exact Ig e (n:=60) 1 [⟨462,20,47,ho a1⟩,⟨584,23,50,ho a3⟩,⟨589,8,29,ho a4⟩] (l:=[r.pre.length+ms.length+0<=1000000,_,_,_]) (by kernel_rfl) ⟨jd h,a1,a3,a4,trivial⟩ hf
theorem nQ(h5:∀i,m1.now=some i->i<5)(h:r.pre.length+ms.length+Cb.length<=100000)(c1:wa W P .nn D 765 [.ob 0,Wa k1,.it 1] ⟨m,b,ms,r⟩ (vB false) ⟨m1,b,ms++ua P Cb,r⟩):wa W P .nn (D+6) 925 [.ob 0,Tc [Ja k1 x1] .nn,.it 0] ⟨m,b,ms,r⟩ .nn ⟨m1,b,ms++ua P (Fe m1.now (backTo m1.now Cb)),r⟩:=by
 have a1:=ba.up (wa.up c1 rfl [.li (.fl [Ja k1 x1]) 1] (hn':=.nn) rfl rfl) 4
 have a4:=wa.up (Wh (b:=b) (D:=D+1) (hn:=.nn) e (.inl rfl) h5 rfl Cb h) rfl [.ta] (hn':=.nn) rfl rfl
 exact jc e (n:=60) [⟨462,20,47,ho a1⟩,⟨589,8,29,ho a4⟩] (l:=[r.pre.length+ms.length+0<=1000000,_,_]) (by kernel_rfl) ⟨jd h,a1,a4,trivial⟩ rfl
theorem oQ(h5:∀i,m3.now=some i->i<5)(h:r.pre.length+ms.length+Cb.length<=100000)(hb:Ia (Kb l3)=true)(hv:Ia v=true)(c1:wa W P .nn D 765 [.ob 0,Wa k1,.it 1] ⟨m,b,ms,r⟩ (vB false) ⟨m1,b,ms++ua P Cb,r⟩)(c3:wa W P .nn D 911 [.ob 0,(Kb l3),.it 0] ⟨m1,b,ms++ua P Cb,r⟩ v ⟨m3,b3,ms++ua P Cb,r⟩):wa W P .nn (D+6) 925 [.ob 0,Tc [Ja k1 x1] (Kb l3),.it 0] ⟨m,b,ms,r⟩ v ⟨m3,b3,ms++ua P (Fe m3.now (backTo m3.now Cb)),r⟩:=by
 have a1:=ba.up (wa.up c1 rfl [.li (.fl [Ja k1 x1]) 1] (hn':=.nn) rfl rfl) 4
 have a3:=ba.up (wa.up c3 ((Bool.and_eq_true _ _).mpr ⟨Nc hv,Yh hb⟩) [.ta] (hn':=.nn) rfl rfl) 5
 have a4:=wa.up (Wh (b:=b3) (D:=D+1) (hn:=.nn) e (.inl rfl) h5 rfl Cb h) rfl [.ta] (hn':=.nn) rfl rfl
 exact jc e (n:=60) [⟨462,20,47,ho a1⟩,⟨586,19,48,ho a3⟩,⟨589,8,29,ho a4⟩] (l:=[r.pre.length+ms.length+0<=1000000,_,_,_]) (by kernel_rfl) ⟨jd h,a1,a3,a4,trivial⟩ hv
theorem pQ(h5:∀i,m3.now=some i->i<5)(h:r.pre.length+ms.length+Cb.length<=100000)(hb:Ia (Kb l3)=true)(hf:ae zd fs=true)(c1:wa W P .nn D 765 [.ob 0,Wa k1,.it 1] ⟨m,b,ms,r⟩ (vB false) ⟨m1,b,ms++ua P Cb,r⟩)(c3:Er W P D 911 [.ob 0,(Kb l3),.it 0] ⟨m1,b,ms++ua P Cb,r⟩ C fs ⟨m3,b3,ms++ua P Cb,r⟩):Er W P (D+6) 925 [.ob 0,Tc [Ja k1 x1] (Kb l3),.it 0] ⟨m,b,ms,r⟩ C fs ⟨m3,b3,ms++ua P (Fe m3.now (backTo m3.now Cb)),r⟩:=by
 have a1:=ba.up (wa.up c1 rfl [.li (.fl [Ja k1 x1]) 1] (hn':=.nn) rfl rfl) 4
 have a3:=ba.up (Er.up c3 (Yh hb) hf [.ta] (hn:=.nn) rfl rfl) 5
 have a4:=wa.up (Wh (b:=b3) (D:=D+1) (hn:=.fo) e (.inr rfl) h5 rfl Cb h) rfl [.ta,.jb C 48 true,.ns fs] (hn':=.nm 47) rfl (wl 1 rfl)
 exact Ig e (n:=60) 1 [⟨462,20,47,ho a1⟩,⟨586,19,48,ho a3⟩,⟨589,8,29,ho a4⟩] (l:=[r.pre.length+ms.length+0<=1000000,_,_,_]) (by kernel_rfl) ⟨jd h,a1,a3,a4,trivial⟩ hf
theorem qQ(h5:∀i,m3.now=some i->i<5)(h:r.pre.length+ms.length+Cb.length<=100000)(hb:Ia x1=true)(hv:Ia v=true)(c1:wa W P .nn D 765 [.ob 0,Wa k1,.it 1] ⟨m,b,ms,r⟩ (vB true) ⟨m1,b,ms++ua P Cb,r⟩)(c3:wa W P .nn D 911 [.ob 0,x1,.it 0] ⟨m1,b,ms++ua P Cb,r⟩ v ⟨m3,b3,ms++ua P Cb,r⟩):wa W P .nn (D+6) 925 [.ob 0,Tc [Ja k1 x1,Ja k2 x2] x3,.it 0] ⟨m,b,ms,r⟩ v ⟨m3,b3,ms++ua P (Fe m3.now (backTo m3.now Cb)),r⟩:=by
 have a1:=ba.up (wa.up c1 rfl [.li (.fl [Ja k1 x1,Ja k2 x2]) 1] (hn':=.nn) rfl rfl) 4
 have a3:=ba.up (wa.up c3 ((Bool.and_eq_true _ _).mpr ⟨Nc hv,Yh hb⟩) [.li (.fl [Ja k1 x1,Ja k2 x2]) 1] (hn':=.nn) rfl rfl) 5
 have a4:=wa.up (Wh (b:=b3) (D:=D+1) (hn:=.nn) e (.inl rfl) h5 rfl Cb h) rfl [.li (.fl [Ja k1 x1,Ja k2 x2]) 1] (hn':=.nn) rfl rfl
 exact jc e (n:=60) [⟨462,20,47,ho a1⟩,⟨584,23,50,ho a3⟩,⟨589,8,29,ho a4⟩] (l:=[r.pre.length+ms.length+0<=1000000,_,_,_]) (by kernel_rfl) ⟨jd h,a1,a3,a4,trivial⟩ hv
theorem rQ(h5:∀i,m3.now=some i->i<5)(h:r.pre.length+ms.length+Cb.length<=100000)(hb:Ia x1=true)(hf:ae zd fs=true)(c1:wa W P .nn D 765 [.ob 0,Wa k1,.it 1] ⟨m,b,ms,r⟩ (vB true) ⟨m1,b,ms++ua P Cb,r⟩)(c3:Er W P D 911 [.ob 0,x1,.it 0] ⟨m1,b,ms++ua P Cb,r⟩ C fs ⟨m3,b3,ms++ua P Cb,r⟩):Er W P (D+6) 925 [.ob 0,Tc [Ja k1 x1,Ja k2 x2] x3,.it 0] ⟨m,b,ms,r⟩ C fs ⟨m3,b3,ms++ua P (Fe m3.now (backTo m3.now Cb)),r⟩:=by
 have a1:=ba.up (wa.up c1 rfl [.li (.fl [Ja k1 x1,Ja k2 x2]) 1] (hn':=.nn) rfl rfl) 4
 have a3:=ba.up (Er.up c3 (Yh hb) hf [.li (.fl [Ja k1 x1,Ja k2 x2]) 1] (hn:=.nn) rfl rfl) 5
 have a4:=wa.up (Wh (b:=b3) (D:=D+1) (hn:=.fo) e (.inr rfl) h5 rfl Cb h) rfl [.li (.fl [Ja k1 x1,Ja k2 x2]) 1,.jb C 48 true,.ns fs] (hn':=.nm 47) rfl (wl 1 rfl)
 exact Ig e (n:=60) 1 [⟨462,20,47,ho a1⟩,⟨584,23,50,ho a3⟩,⟨589,8,29,ho a4⟩] (l:=[r.pre.length+ms.length+0<=1000000,_,_,_]) (by kernel_rfl) ⟨jd h,a1,a3,a4,trivial⟩ hf
theorem sQ(h5:∀i,m3.now=some i->i<5)(h:r.pre.length+ms.length+Pb.length<=100000)(hb:Ia x2=true)(hv:Ia v=true)(c1:wa W P .nn D 765 [.ob 0,Wa k1,.it 1] ⟨m,b,ms,r⟩ (vB false) ⟨m1,b,ms++ua P Cb,r⟩)(c2:wa W P .nn D 765 [.ob 0,Wa k2,.it 1] ⟨m1,b,ms++ua P Cb,r⟩ (vB true) ⟨m2,b,ms++ua P Pb,r⟩)(c3:wa W P .nn D 911 [.ob 0,x2,.it 0] ⟨m2,b,ms++ua P Pb,r⟩ v ⟨m3,b3,ms++ua P Pb,r⟩):wa W P .nn (D+6) 925 [.ob 0,Tc [Ja k1 x1,Ja k2 x2] x3,.it 0] ⟨m,b,ms,r⟩ v ⟨m3,b3,ms++ua P (Fe m3.now (backTo m3.now Pb)),r⟩:=by
 have a1:=ba.up (wa.up c1 rfl [.li (.fl [Ja k1 x1,Ja k2 x2]) 1] (hn':=.nn) rfl rfl) 4
 have a2:=ba.up (wa.up c2 rfl [.li (.fl [Ja k1 x1,Ja k2 x2]) 2] (hn':=.nn) rfl rfl) 4
 have a3:=ba.up (wa.up c3 ((Bool.and_eq_true _ _).mpr ⟨Nc hv,Yh hb⟩) [.li (.fl [Ja k1 x1,Ja k2 x2]) 2] (hn':=.nn) rfl rfl) 5
 have a4:=wa.up (Wh (b:=b3) (D:=D+1) (hn:=.nn) e (.inl rfl) h5 rfl Pb h) rfl [.li (.fl [Ja k1 x1,Ja k2 x2]) 2] (hn':=.nn) rfl rfl
 exact jc e (n:=60) [⟨462,20,47,ho a1⟩,⟨462,20,47,ho a2⟩,⟨584,23,50,ho a3⟩,⟨589,8,29,ho a4⟩] (l:=[r.pre.length+ms.length+0<=1000000,_,_,_,_]) (by kernel_rfl) ⟨jd h,a1,a2,a3,a4,trivial⟩ hv
theorem tQ(h5:∀i,m3.now=some i->i<5)(h:r.pre.length+ms.length+Pb.length<=100000)(hb:Ia x2=true)(hf:ae zd fs=true)(c1:wa W P .nn D 765 [.ob 0,Wa k1,.it 1] ⟨m,b,ms,r⟩ (vB false) ⟨m1,b,ms++ua P Cb,r⟩)(c2:wa W P .nn D 765 [.ob 0,Wa k2,.it 1] ⟨m1,b,ms++ua P Cb,r⟩ (vB true) ⟨m2,b,ms++ua P Pb,r⟩)(c3:Er W P D 911 [.ob 0,x2,.it 0] ⟨m2,b,ms++ua P Pb,r⟩ C fs ⟨m3,b3,ms++ua P Pb,r⟩):Er W P (D+6) 925 [.ob 0,Tc [Ja k1 x1,Ja k2 x2] x3,.it 0] ⟨m,b,ms,r⟩ C fs ⟨m3,b3,ms++ua P (Fe m3.now (backTo m3.now Pb)),r⟩:=by
 have a1:=ba.up (wa.up c1 rfl [.li (.fl [Ja k1 x1,Ja k2 x2]) 1] (hn':=.nn) rfl rfl) 4
 have a2:=ba.up (wa.up c2 rfl [.li (.fl [Ja k1 x1,Ja k2 x2]) 2] (hn':=.nn) rfl rfl) 4
 have a3:=ba.up (Er.up c3 (Yh hb) hf [.li (.fl [Ja k1 x1,Ja k2 x2]) 2] (hn:=.nn) rfl rfl) 5
 have a4:=wa.up (Wh (b:=b3) (D:=D+1) (hn:=.fo) e (.inr rfl) h5 rfl Pb h) rfl [.li (.fl [Ja k1 x1,Ja k2 x2]) 2,.jb C 48 true,.ns fs] (hn':=.nm 47) rfl (wl 1 rfl)
 exact Ig e (n:=60) 1 [⟨462,20,47,ho a1⟩,⟨462,20,47,ho a2⟩,⟨584,23,50,ho a3⟩,⟨589,8,29,ho a4⟩] (l:=[r.pre.length+ms.length+0<=1000000,_,_,_,_]) (by kernel_rfl) ⟨jd h,a1,a2,a3,a4,trivial⟩ hf
theorem uQ(h5:∀i,m2.now=some i->i<5)(h:r.pre.length+ms.length+Pb.length<=100000)(c1:wa W P .nn D 765 [.ob 0,Wa k1,.it 1] ⟨m,b,ms,r⟩ (vB false) ⟨m1,b,ms++ua P Cb,r⟩)(c2:wa W P .nn D 765 [.ob 0,Wa k2,.it 1] ⟨m1,b,ms++ua P Cb,r⟩ (vB false) ⟨m2,b,ms++ua P Pb,r⟩):wa W P .nn (D+6) 925 [.ob 0,Tc [Ja k1 x1,Ja k2 x2] .nn,.it 0] ⟨m,b,ms,r⟩ .nn ⟨m2,b,ms++ua P (Fe m2.now (backTo m2.now Pb)),r⟩:=by
 have a1:=ba.up (wa.up c1 rfl [.li (.fl [Ja k1 x1,Ja k2 x2]) 1] (hn':=.nn) rfl rfl) 4
 have a2:=ba.up (wa.up c2 rfl [.li (.fl [Ja k1 x1,Ja k2 x2]) 2] (hn':=.nn) rfl rfl) 4
 have a4:=wa.up (Wh (b:=b) (D:=D+1) (hn:=.nn) e (.inl rfl) h5 rfl Pb h) rfl [.ta] (hn':=.nn) rfl rfl
 exact jc e (n:=60) [⟨462,20,47,ho a1⟩,⟨462,20,47,ho a2⟩,⟨589,8,29,ho a4⟩] (l:=[r.pre.length+ms.length+0<=1000000,_,_,_]) (by kernel_rfl) ⟨jd h,a1,a2,a4,trivial⟩ rfl
theorem vQ(h5:∀i,m3.now=some i->i<5)(h:r.pre.length+ms.length+Pb.length<=100000)(hb:Ia (Kb l3)=true)(hv:Ia v=true)(c1:wa W P .nn D 765 [.ob 0,Wa k1,.it 1] ⟨m,b,ms,r⟩ (vB false) ⟨m1,b,ms++ua P Cb,r⟩)(c2:wa W P .nn D 765 [.ob 0,Wa k2,.it 1] ⟨m1,b,ms++ua P Cb,r⟩ (vB false) ⟨m2,b,ms++ua P Pb,r⟩)(c3:wa W P .nn D 911 [.ob 0,(Kb l3),.it 0] ⟨m2,b,ms++ua P Pb,r⟩ v ⟨m3,b3,ms++ua P Pb,r⟩):wa W P .nn (D+6) 925 [.ob 0,Tc [Ja k1 x1,Ja k2 x2] (Kb l3),.it 0] ⟨m,b,ms,r⟩ v ⟨m3,b3,ms++ua P (Fe m3.now (backTo m3.now Pb)),r⟩:=by
 have a1:=ba.up (wa.up c1 rfl [.li (.fl [Ja k1 x1,Ja k2 x2]) 1] (hn':=.nn) rfl rfl) 4
 have a2:=ba.up (wa.up c2 rfl [.li (.fl [Ja k1 x1,Ja k2 x2]) 2] (hn':=.nn) rfl rfl) 4
 have a3:=ba.up (wa.up c3 ((Bool.and_eq_true _ _).mpr ⟨Nc hv,Yh hb⟩) [.ta] (hn':=.nn) rfl rfl) 5
 have a4:=wa.up (Wh (b:=b3) (D:=D+1) (hn:=.nn) e (.inl rfl) h5 rfl Pb h) rfl [.ta] (hn':=.nn) rfl rfl
 exact jc e (n:=60) [⟨462,20,47,ho a1⟩,⟨462,20,47,ho a2⟩,⟨586,19,48,ho a3⟩,⟨589,8,29,ho a4⟩] (l:=[r.pre.length+ms.length+0<=1000000,_,_,_,_]) (by kernel_rfl) ⟨jd h,a1,a2,a3,a4,trivial⟩ hv
theorem wQ(h5:∀i,m3.now=some i->i<5)(h:r.pre.length+ms.length+Pb.length<=100000)(hb:Ia (Kb l3)=true)(hf:ae zd fs=true)(c1:wa W P .nn D 765 [.ob 0,Wa k1,.it 1] ⟨m,b,ms,r⟩ (vB false) ⟨m1,b,ms++ua P Cb,r⟩)(c2:wa W P .nn D 765 [.ob 0,Wa k2,.it 1] ⟨m1,b,ms++ua P Cb,r⟩ (vB false) ⟨m2,b,ms++ua P Pb,r⟩)(c3:Er W P D 911 [.ob 0,(Kb l3),.it 0] ⟨m2,b,ms++ua P Pb,r⟩ C fs ⟨m3,b3,ms++ua P Pb,r⟩):Er W P (D+6) 925 [.ob 0,Tc [Ja k1 x1,Ja k2 x2] (Kb l3),.it 0] ⟨m,b,ms,r⟩ C fs ⟨m3,b3,ms++ua P (Fe m3.now (backTo m3.now Pb)),r⟩:=by
 have a1:=ba.up (wa.up c1 rfl [.li (.fl [Ja k1 x1,Ja k2 x2]) 1] (hn':=.nn) rfl rfl) 4
 have a2:=ba.up (wa.up c2 rfl [.li (.fl [Ja k1 x1,Ja k2 x2]) 2] (hn':=.nn) rfl rfl) 4
 have a3:=ba.up (Er.up c3 (Yh hb) hf [.ta] (hn:=.nn) rfl rfl) 5
 have a4:=wa.up (Wh (b:=b3) (D:=D+1) (hn:=.fo) e (.inr rfl) h5 rfl Pb h) rfl [.ta,.jb C 48 true,.ns fs] (hn':=.nm 47) rfl (wl 1 rfl)
 exact Ig e (n:=60) 1 [⟨462,20,47,ho a1⟩,⟨462,20,47,ho a2⟩,⟨586,19,48,ho a3⟩,⟨589,8,29,ho a4⟩] (l:=[r.pre.length+ms.length+0<=1000000,_,_,_,_]) (by kernel_rfl) ⟨jd h,a1,a2,a3,a4,trivial⟩ hf
end
end
section
noncomputable def Xj(k:Nat)(ma:SV):SV:=.tu [.st Mr,.st q0,Wa k,ma,.nn,.bo false]
noncomputable def Yj(k:Nat)(ma:SV):Lc:=[(Ef,.ob 0),(Pi,Xj k ma),(rf,.it 0),(Ew,.st Mr),(Fr,.st q0),(QG,Wa k),(Uj,ma),(rP,.nn),(yP,.bo false)]
noncomputable def yl(r:Rw)(ms:List SV):Int:=((r.pre.length+ms.length+0:Nat):Int)
noncomputable def Jg(r:Rw)(dg:Bool)(mark:Option Int):Lc:=(Jm,.it ((r.zp.length+0+0:Nat):Int))::(uP,.bo dg)::(mark.map λi=>(Jr,SV.it i)).toList
section
variable {W:Wd}{P:Pm}{D:Nat}{k:Nat}{ma:SV}{ms:List SV}{r:Rw}(e:Wo W P)
inductive Wl(W:Wd)(P:Pm)(D:Nat)(k:Nat)(ma:SV)(ms:List SV)(r:Rw):Mm->Ck->Mm->Ck->Prop where
 |Hc {m m1:Mm} {b:Ck} {sv:List (Option Nat)}:r.pre.length+ms.length+sv.length<=100000->wa W P .nn D 765 [.ob 0,Wa k,.it 1] ⟨m,b,ms,r⟩ (vB false) ⟨m1,b,ms++ua P sv,r⟩->Wl W P D k ma ms r m b (m1.bk sv) b
 |Rb {g:Bool} {m m1 m2 m3:Mm} {b b2 b3:Ck} {sv:List (Option Nat)} {v:SV}:r.pre.length+ms.length+sv.length<=100000->wa W P .nn D 765 [.ob 0,Wa k,.it 1] ⟨m,b,ms,r⟩ (vB true) ⟨m1,b,ms++ua P sv,r⟩->
   wa W P .nn D 932 [.ob 0,.st q0,ma,.it 0] ⟨m1,b,ms++ua P sv,r⟩ (.tu [.bo g,v]) ⟨m2,b2,ms++ua P sv,r⟩->(g=true->Wl W P D k ma ms r (m2.bk sv) b2 m3 b3)->(g=false->m3=m2.bk sv/\b3=b2)->Wl W P D k ma ms r m b m3 b3
include e
theorem xQ(hz:r.zp.length<=1000){m m':Mm}{b b':Ck}(h:Wl W P D k ma ms r m b m' b'):∀x:Option Int,∃n,Ch (Rn.nf (Rn.Xa W.co (Wb P) 50) (Dc 960 .nn) (D+7) (Sd (sB 960 3)) (Td (sB 960 3)) (de (sB 960 3))) n (Yj k ma++Jg r true x) (cS P ⟨m,b,ms,r⟩) (.ok .next) (Yj k ma++Jg r false (some (yl r ms))) (cS P ⟨m',b',ms,r⟩):=by
 have fin:∀{m4:Mm} {b4:Ck},Ch (Rn.nf (Rn.Xa W.co (Wb P) 50) (Dc 960 .nn) (D+7) (Sd (sB 960 3)) (Td (sB 960 3)) (de (sB 960 3))) 0 (Yj k ma++Jg r false (some (yl r ms))) (cS P ⟨m4,b4,ms,r⟩) (.ok .next) (Yj k ma++Jg r false (some (yl r ms))) (cS P ⟨m4,b4,ms,r⟩):=Ch.Df [] (l:=[]) (by kernel_rfl) trivial
 induction h with
 |@Hc m m1 b sv h c=>
  have l:=Vh (m:=m1) (b:=b) (D:=D+4) (hn:=.nn) e rfl sv h
  have s:=rp (σ:=⟨m1.bk sv,b,ms,r⟩) (D:=D+5) e hz
  exact λx=>⟨1,Ch.nh [⟨462,20,47,ho (ba.up c 5)⟩,⟨636,12,28,ho l⟩,⟨637,8,33,ho s⟩] (l:=[r.pre.length+ms.length+0<=1000000,_,_,_]) (by induction x using Option.casesOn<;>kernel_rfl) ⟨jd h,ba.up c 5,l,s,trivial⟩ fin⟩
 |@Rb g m m1 m2 m3 b b2 b3 sv v h c c2 _ h2 ih=>
  have l:=Vh (m:=m2) (b:=b2) (D:=D+4) (hn:=.nn) e rfl sv h
  have s:=rp (σ:=⟨m2.bk sv,b2,ms,r⟩) (D:=D+5) e hz
  have key:∀{n:Nat} {g':Bool} {x:Option Int} {m4:Mm} {b4:Ck},g'=g->Ch (Rn.nf (Rn.Xa W.co (Wb P) 50) (Dc 960 .nn) (D+7) (Sd (sB 960 3)) (Td (sB 960 3)) (de (sB 960 3))) n (Yj k ma++Jg r g' (some (yl r ms))) (cS P ⟨m2.bk sv,b2,ms,r⟩) (.ok .next) (Yj k ma++Jg r false (some (yl r ms))) (cS P ⟨m4,b4,ms,r⟩)->
    Ch (Rn.nf (Rn.Xa W.co (Wb P) 50) (Dc 960 .nn) (D+7) (Sd (sB 960 3)) (Td (sB 960 3)) (de (sB 960 3))) (n+1) (Yj k ma++Jg r true x) (cS P ⟨m,b,ms,r⟩) (.ok .next) (Yj k ma++Jg r false (some (yl r ms))) (cS P ⟨m4,b4,ms,r⟩):=λ{n g' x m4 b4} eg ch=>by
   subst eg
   exact Ch.nh [⟨462,20,47,ho (ba.up c 5)⟩,⟨617,11,46,ho (ba.up c2 6)⟩,⟨636,12,28,ho l⟩,⟨637,8,33,ho s⟩] (l:=[r.pre.length+ms.length+0<=1000000,_,_,_,_]) (by induction x using Option.casesOn<;>induction g' using Bool.casesOn<;>kernel_rfl) ⟨jd h,ba.up c 5,ba.up c2 6,l,s,trivial⟩ ch
  intro x
  rcases g with _|_
  ·refine rt (h2 rfl).1 (rt (h2 rfl).2 ?_)
   exact⟨1,key rfl fin⟩
  exact(ih rfl (some (yl r ms))).elim λn ch=>⟨n+1,key rfl ch⟩
theorem yQ(hb:Ia ma=true)(hz:r.zp.length<=1000){m m':Mm}{b b':Ck}(h:Wl W P D k ma ms r m b m' b'):wa W P .nn (D+8) 960 [.ob 0,Xj k ma,.it 0] ⟨m,b,ms,r⟩ .nn ⟨m',b',ms,r⟩:=by
 obtain⟨n,ch⟩:=xQ e hz h none
 have st:=jl e 960 (σ:=⟨m,b,ms,r⟩) (D:=D+7) (s:=sB 960 1) (X:=[]) (loc:=Yj k ma) (by kernel_rfl) hz rfl
 have ev:=dc.qe (s:=sB 960 3) (e.ok.mw _) e.hC (by kernel_rfl) ch .ok
 exact jc e (n:=51) [⟨629,4,30,fo st⟩,⟨631,4,33,fo ev⟩] (l:=[_,_]) (by kernel_rfl) ⟨st,ev,trivial⟩ rfl
theorem zQ{σ σ':Sg}{g:Bool}{v:SV}(hv:Ia v=true)(c:wa W P .nn D 932 [.ob 0,.st q0,ma,.it 0] σ (.tu [.bo g,v]) σ'):wa W P .nn (D+2) 1009 [.ob 0,.tu [.st Yo,.st q0,ma],.it 0] σ v σ':=
 jc e (n:=60) [⟨697,11,50,ho (ba.up c 1)⟩] (l:=[_]) (by kernel_rfl) ⟨ba.up c 1,trivial⟩ hv
end
end
section
noncomputable def Qm(k:Nat)(ma:SV):SV:=.tu [.st Bw,ma,Wa k,.bo false]
noncomputable def zl(k:Nat)(ma:SV):Lc:=[(Ef,.ob 0),(Pi,Qm k ma),(rf,.it 0)]
noncomputable def Zj(k1 k2 k3:Nat)(ma:SV):SV:=.tu [.st Ir,.st q0,Wa k1,Wa k2,Wa k3,ma]
noncomputable def WA(k1 k2 k3:Nat)(ma:SV):Lc:=[(Ef,.ob 0),(Pi,Zj k1 k2 k3 ma),(rf,.it 0),(Ew,.st Ir),(Fr,.st q0),(wP,Wa k1),(QG,Wa k2),(HP,Wa k3),(Uj,ma)]
noncomputable def XA:Ex->St
 |none=>[]
 |some (C,fs)=>[.jb C 47 true,.ns fs]
noncomputable def YA:Ex->Except Nat Fl
 |none=>.ok .next
 |some _=>.error 46
inductive Dl(W:Wd)(P:Pm)(D:Nat)(k:Nat)(ma:SV)(r:Rw):Ex->Mm->Ck->List SV->Mm->Ck->List SV->Prop where
 |Rb {x:Ex} {g:Bool} {m m1 m2 m3:Mm} {b b1 b3:Ck} {ms fq Ji:List SV} {v:SV}:b.xd+1<=1000000->wa W P .nn D 911 [.ob 0,ma,.it 0] ⟨m,b.Ub,ms,r⟩ v ⟨m1,b1,ms,r⟩->wa W P .nn D 765 [.ob 0,Wa k,.it 1] ⟨m1,b1,ms,r⟩ (vB g) ⟨m2,b1,fq,r⟩->
   (g=true->Dl W P D k ma r x m2 b1 fq m3 b3 Ji)->(g=false->x=none/\m3=m2/\b3=b1/\Ji=fq)->Dl W P D k ma r x m b ms m3 b3 Ji
 |Nw {C:Addr} {fs:List (Str×SV)} {m m1:Mm} {b b1:Ck} {ms:List SV}:b.xd+1<=1000000->Er W P D 911 [.ob 0,ma,.it 0] ⟨m,b.Ub,ms,r⟩ C fs ⟨m1,b1,ms,r⟩->Dl W P D k ma r (some (C,fs)) m b ms m1 b1 ms
section
variable {W:Wd}{P:Pm}{D:Nat}{k k1 k2 k3:Nat}{ma:SV}{r:Rw}{ms Yd:List SV}{m m':Mm}{b b':Ck}(e:Wo W P)
include e
theorem jH(hz:r.zp.length<=1000){x:Ex}(h:Dl W P D k ma r x m b ms m' b' Yd):∃n g,Ch (Rn.nf (Rn.Xa W.co (Wb P) 50) (Dc 967 .nn) (D+5) (Sd (sB 967 2)) (Td (sB 967 2)) (de (sB 967 2))) n (zl k ma++Jg r true none) (cS P ⟨m,b,ms,r⟩) (YA x) (zl k ma++Jg r g none) (cS P ⟨m',b',Yd,r⟩++XA x):=by
 induction h with
 |@Rb x g m m1 m2 m3 b b1 b3 ms fq Ji v hs c c2 _ h2 ih=>
  have s:=rp (σ:=⟨m2,b1,fq,r⟩) (D:=D+3) e hz
  have key:∀{n:Nat} {g' h':Bool} {x:Ex} {m4:Mm} {b4:Ck} {tn:List SV},g'=g->Ch (Rn.nf (Rn.Xa W.co (Wb P) 50) (Dc 967 .nn) (D+5) (Sd (sB 967 2)) (Td (sB 967 2)) (de (sB 967 2))) n (zl k ma++Jg r g' none) (cS P ⟨m2,b1,fq,r⟩) (YA x) (zl k ma++Jg r h' none) (cS P ⟨m4,b4,tn,r⟩++XA x)->
    Ch (Rn.nf (Rn.Xa W.co (Wb P) 50) (Dc 967 .nn) (D+5) (Sd (sB 967 2)) (Td (sB 967 2)) (de (sB 967 2))) (n+1) (zl k ma++Jg r true none) (cS P ⟨m,b,ms,r⟩) (YA x) (zl k ma++Jg r h' none) (cS P ⟨m4,b4,tn,r⟩++XA x):=λ{n g' h' x m4 b4 tn} eg ch=>by
   subst eg
   exact Ch.nh [⟨543,7,35,.Ca false⟩,⟨644,8,37,ho (ba.up c 5)⟩,⟨462,20,47,ho (ba.up c2 3)⟩,⟨646,8,33,ho s⟩] (l:=[decide (b.xd+1>1000000)=false,_,_,_]) (by induction g' using Bool.casesOn<;>kernel_rfl) ⟨decide_eq_false (Int.not_lt.mpr hs),ba.up c 5,ba.up c2 3,s,trivial⟩ ch
  rcases g with _|_
  ·refine rt (h2 rfl).1 (rt (h2 rfl).2.1 (rt (h2 rfl).2.2.1 (rt (h2 rfl).2.2.2 ?_)))
   exact⟨1,false,key rfl (Ch.Df [] (l:=[]) (by kernel_rfl) trivial)⟩
  exact(ih rfl).elim λn q=>q.elim λh' ch=>⟨n+1,h',key rfl ch⟩
 |@Nw C fs m m1 b b1 ms hs c=>exact⟨0,true,Ch.hH [⟨543,7,35,.Ca false⟩,⟨644,8,37,ho (ba.up c 5)⟩] (l:=[decide (b.xd+1>1000000)=false,_]) (by kernel_rfl) ⟨decide_eq_false (Int.not_lt.mpr hs),ba.up c 5,trivial⟩⟩
theorem AQ(hz:r.zp.length<=1000)(h:Dl W P D k ma r none m b ms m' b' Yd):wa W P .nn (D+6) 967 [.ob 0,Qm k ma,.it 0] ⟨m,b,ms,r⟩ .nn ⟨m',b',Yd,r⟩:=by
 obtain⟨n,g,ch⟩:=jH e hz h
 have st:=jl e 967 (σ:=⟨m,b,ms,r⟩) (D:=D+5) (s:=sB 967 0) (X:=[]) (loc:=zl k ma) (by kernel_rfl) hz rfl
 have ev:=dc.qe (s:=sB 967 2) (e.ok.mw _) e.hC (by kernel_rfl) ch .ok
 exact jc e (n:=51) [⟨640,4,30,fo st⟩,⟨642,4,33,fo ev⟩] (l:=[_,_]) (by kernel_rfl) ⟨st,ev,trivial⟩ rfl
theorem BQ(hz:r.zp.length<=1000){C:Addr}{fs:List (Str×SV)}(hf:ae zd fs=true)(h:Dl W P D k ma r (some (C,fs)) m b ms m' b' Yd):Er W P (D+6) 967 [.ob 0,Qm k ma,.it 0] ⟨m,b,ms,r⟩ C fs ⟨m',b',Yd,r⟩:=by
 obtain⟨n,g,ch⟩:=jH e hz h
 have st:=jl e 967 (σ:=⟨m,b,ms,r⟩) (D:=D+5) (s:=sB 967 0) (X:=[]) (loc:=zl k ma) (by kernel_rfl) hz rfl
 have ev:=dc.qe (s:=sB 967 2) (e.ok.mw _) e.hC (by kernel_rfl) ch (.er rfl rfl)
 exact Ig e (n:=51) 0 [⟨640,4,30,fo st⟩,⟨642,4,33,fo ev⟩] (l:=[_,_]) (by kernel_rfl) ⟨st,ev,trivial⟩ hf
omit e in
noncomputable def Qw:Stmt:=match sB 974 3 with
 |.Try b _ _ _ _=>iL 1 b
 |s=>s
inductive Cl(W:Wd)(P:Pm)(D:Nat)(k2 k3:Nat)(ma:SV)(r:Rw):Mm->Ck->List SV->Mm->Ck->List SV->Prop where
 |Hc {m m1:Mm} {b:Ck} {ms Tf:List SV}:wa W P .nn D 765 [.ob 0,Wa k2,.it 1] ⟨m,b,ms,r⟩ (vB false) ⟨m1,b,Tf,r⟩->Cl W P D k2 k3 ma r m b ms m1 b Tf
 |Va {m m1 m2:Mm} {b b2:Ck} {ms Tf:List SV} {v:SV}:wa W P .nn D 765 [.ob 0,Wa k2,.it 1] ⟨m,b,ms,r⟩ (vB true) ⟨m1,b,Tf,r⟩->wa W P .nn D 932 [.ob 0,.st q0,ma,.it 0] ⟨m1,b,Tf,r⟩ (.tu [.bo false,v]) ⟨m2,b2,Tf,r⟩->Cl W P D k2 k3 ma r m b ms m2 b2 Tf
 |go {m m1 m2 m3 m4:Mm} {b b2 b4:Ck} {ms Tf Ji tn:List SV} {v:SV} {c3:Bool}:wa W P .nn D 765 [.ob 0,Wa k2,.it 1] ⟨m,b,ms,r⟩ (vB true) ⟨m1,b,Tf,r⟩->wa W P .nn D 932 [.ob 0,.st q0,ma,.it 0] ⟨m1,b,Tf,r⟩ (.tu [.bo true,v]) ⟨m2,b2,Tf,r⟩->
   wa W P .nn D 765 [.ob 0,Wa k3,.it 0] ⟨m2,b2,Tf,r⟩ (vB c3) ⟨m3,b2,Ji,r⟩->Cl W P D k2 k3 ma r m3 b2 Ji m4 b4 tn->Cl W P D k2 k3 ma r m b ms m4 b4 tn
theorem CQ{mk:Int}(hz:r.zp.length<=1000)(h:Cl W P D k2 k3 ma r m b ms m' b' Yd):∃n,Ch (Rn.nf (Rn.Xa W.co (Wb P) 50) (Dc 974 .nn) (D+5) (Sd Qw) (Td Qw) (de Qw)) n (WA k1 k2 k3 ma++[(Jm,.it ((r.zp.length+0+0:Nat):Int)),(Jr,.it mk)]) (cS P ⟨m,b,ms,r⟩) (.ok .next) (WA k1 k2 k3 ma++[(Jm,.it ((r.zp.length+0+0:Nat):Int)),(Jr,.it mk)]) (cS P ⟨m',b',Yd,r⟩):=by
 induction h with
 |Hc c=>exact⟨0,Ch.Df [⟨462,20,47,ho (ba.up c 3)⟩] (l:=[_]) (by kernel_rfl) ⟨ba.up c 3,trivial⟩⟩
 |Va c c2=>exact⟨0,Ch.Df [⟨462,20,47,ho (ba.up c 3)⟩,⟨655,51,86,ho (ba.up c2 5)⟩] (l:=[_,_]) (by kernel_rfl) ⟨ba.up c 3,ba.up c2 5,trivial⟩⟩
 |@go m m1 m2 m3 m4 b b2 b4 ms Tf Ji tn v c3 c c2 VJ _ ih=>
  have s:=rp (σ:=⟨m3,b2,Ji,r⟩) (D:=D+3) e hz
  exact ih.elim λn ch=>⟨n+1,Ch.nh [⟨462,20,47,ho (ba.up c 3)⟩,⟨655,51,86,ho (ba.up c2 5)⟩,⟨657,16,41,ho (ba.up VJ 5)⟩,⟨658,12,37,ho s⟩] (l:=[_,_,_,_]) (by kernel_rfl) ⟨ba.up c 3,ba.up c2 5,ba.up VJ 5,s,trivial⟩ ch⟩
theorem DQ{sv:List (Option Nat)}{m1:Mm}{Tf:List SV}{c1:Bool}(hz:r.zp.length<=1000)(hm:r.pre.length+ms.length+sv.length<=100000)(c:wa W P .nn D 765 [.ob 0,Wa k1,.it 0] ⟨m,b,ms,r⟩ (vB c1) ⟨m1,b,Tf,r⟩)(h:Cl W P D k2 k3 ma r m1 b Tf m' b' (ms++ua P sv)):wa W P .nn (D+6) 974 [.ob 0,Zj k1 k2 k3 ma,.it 0] ⟨m,b,ms,r⟩ .nn ⟨m'.bk sv,b',ms,r⟩:=by
 obtain⟨n,ch⟩:=CQ (k1:=k1) (mk:=yl r ms) e hz h
 have st:=jl e 974 (σ:=⟨m,b,ms,r⟩) (D:=D+5) (s:=sB 974 1) (X:=[]) (loc:=WA k1 k2 k3 ma) (by kernel_rfl) hz rfl
 have ev:=dc.qe (s:=Qw) (e.ok.mw _) e.hC (by kernel_rfl) ch .ok
 have l:=Vh (m:=m') (b:=b') (D:=D+2) (hn:=.nn) e rfl sv hm
 exact jc e (n:=51) [⟨650,4,30,fo st⟩,⟨654,12,37,ho (ba.up c 5)⟩,⟨655,8,37,fo ev⟩,⟨660,8,24,ho l⟩] (l:=[_,r.pre.length+ms.length+0<=1000000,_,_,_]) (by kernel_rfl) ⟨st,jd hm,ba.up c 5,ev,l,trivial⟩ rfl
end
end
section
noncomputable def Ck.er(b:Ck)(x:Str):Ck:=match b.Wf with
 |some e=>{b with Wf:=some (x,e.2.1,e.2.2)}
 |none=>{b with Wf:=some (x,b.Va+1,b.Va+1+1),Va:=b.Va+1+1}
noncomputable def qE(i:Nat):Bool:=qC i||(Nat.ble 40 i&&Nat.ble i 45)
noncomputable def AO.un(o:AO):AO:=o.Gd.getD o
section
variable {W:Wd}{P:Pm}{D:Nat}{m m':Mm}{b b':Ck}{ms:List SV}{sv:List (Option Nat)}{r:Rw}{ma v:SV}{hn:Hn}(e:Wo W P)
include e
theorem Sw(hh:hn=.nn\/hn=.fo)(x:Str):wa W P hn (D+9) 1030 [.ob 0,.st x] ⟨m,b,ms,r⟩ .nn ⟨m,b.er x,ms,r⟩:=by
 obtain⟨now,lg,rd⟩:=m
 obtain⟨s,la,er⟩:=b
 rcases er with _|y
 ·induction now using Option.casesOn<;>exact qp e (n:=60) qC qE (λuu=>false) [] (List.range 40++[46,47,48,49,50,51]) (st:=base P _) (F:=(base P _).map AO.un) rfl (l:=[]) (λz=>by rcases hh with rfl|rfl<;>kernel_rfl) trivial
 induction now using Option.casesOn<;>exact qp e (n:=60) qE qE (λuu=>false) [] (List.range 46) (st:=(base P _).map AO.un) (F:=(base P _).map AO.un) rfl (l:=[]) (λz=>by rcases hh with rfl|rfl<;>kernel_rfl) trivial
omit e in
noncomputable def uj(ma:SV):St:=[.cell (some (.ob 0)),.cell (some (.tu [.st rj,ma])),.cell (some (.it 0)),.fn (Nr (sB 1052 0)) [(rf,48),(Ef,46),(DP,47)]]
theorem EQ(hb:Ia ma=true)(hv:Ia v=true)(h:r.pre.length+ms.length+sv.length<=100000)(c:wa W P .nn D 904 [.ob 0,ma,.it 0] ⟨m,b.er q0,ms,r⟩ v ⟨m',b',ms++ua P sv,r⟩):wa W P .nn (D+20) 765 [.ob 0,.tu [.st rj,ma],.it 0] ⟨m,b,ms,r⟩ .nn ⟨m'.bk sv,b'.er q0,ms,r⟩:=by
 have s1:=wa.up (Sw (m:=m) (b:=b) (ms:=ms) (r:=r) (D:=D+8) (hn:=.nn) e (.inl rfl) q0) rfl (uj ma) (hn':=.nn) rfl rfl
 have a:=ba.up (wa.up c ((Bool.and_eq_true _ _).mpr ⟨Nc hv,Yh hb⟩) (uj ma) (hn':=.nn) rfl rfl) 16
 have l1:=wa.up (Vh (m:=m') (b:=b') (D:=D+14) (hn:=.nn) e rfl sv h) rfl (uj ma++[.cell (some (.ob 0))]) (hn':=.nn) rfl rfl
 have l2:=wa.up (Vh (m:=m'.bk sv) (b:=b') (ms0:=ms) (r:=r) (D:=D+14) (hn:=.nn) e rfl [] (Nat.le_trans (Nat.le_add_right _ _) h)) rfl (uj ma++[.cell (some (.ob 0))]) (hn':=.nn) rfl rfl
 replace l2:=(show ms++ua P []=ms from List.append_nil _)▸l2
 have s2:=wa.up (Sw (m:=m'.bk sv) (b:=b') (ms:=ms) (r:=r) (D:=D+8) (hn:=.nn) e (.inl rfl) q0) rfl (uj ma++[.cell (some (.ob 0))]) (hn':=.nn) rfl rfl
 exact jc e (n:=60) [⟨714,4,22,ho s1⟩,⟨740,15,43,ho a⟩,⟨725,8,24,ho l1⟩,⟨734,8,24,ho l2⟩,⟨735,4,22,ho s2⟩] (l:=[W.qn 739=gp,_,r.pre.length+ms.length+0<=1000000,_,_,_,_]) (by kernel_rfl) ⟨e.hq,s1,jd h,a,l1,l2,s2,trivial⟩ rfl
theorem FQ(hb:Ia ma=true)(h:r.pre.length+ms.length+sv.length<=100000)(c:Er W P D 904 [.ob 0,ma,.it 0] ⟨m,b.er q0,ms,r⟩ 605 (ul Ri) ⟨m',b',ms++ua P sv,r⟩):wa W P .nn (D+20) 765 [.ob 0,.tu [.st rj,ma],.it 0] ⟨m,b,ms,r⟩ .nn ⟨m'.bk sv,b'.er Ri,ms,r⟩:=by
 have s1:=wa.up (Sw (m:=m) (b:=b) (ms:=ms) (r:=r) (D:=D+8) (hn:=.nn) e (.inl rfl) q0) rfl (uj ma) (hn':=.nn) rfl rfl
 have a:=ba.up (Er.up c (Yh hb) rfl (uj ma) (hn:=.nn) rfl rfl) 16
 have l1:=wa.up (Vh (m:=m') (b:=b') (D:=D+13) (hn:=.fo) e rfl sv h) rfl (uj ma++[.jb 605 51 true,.ns (ul Ri)]) (hn':=.nm 50) rfl (wl 4 rfl)
 have s2:=wa.up (Sw (m:=m'.bk sv) (b:=b') (ms:=ms) (r:=r) (D:=D+8) (hn:=.fo) e (.inr rfl) Ri) rfl (uj ma++[.jb 605 51 true,.ns (ul Ri)]) (hn':=.nm 50) rfl (wl 4 rfl)
 have l2:=wa.up (Vh (m:=m'.bk sv) (b:=b'.er Ri) (ms0:=ms) (r:=r) (D:=D+14) (hn:=.nn) e rfl [] (Nat.le_trans (Nat.le_add_right _ _) h)) rfl (uj ma++[.jb 605 51 true,.ns (ul Ri)]) (hn':=.nn) rfl rfl
 replace l2:=(show ms++ua P []=ms from List.append_nil _)▸l2
 exact jc e (n:=60) [⟨714,4,22,ho s1⟩,⟨740,15,43,ho a⟩,⟨709,12,28,ho l1⟩,⟨729,8,57,ho s2⟩,⟨734,8,24,ho l2⟩] (l:=[W.qn 739=gp,_,r.pre.length+ms.length+0<=1000000,_,_,Ri.length<=100000,_,_]) (by kernel_rfl) ⟨e.hq,s1,jd h,a,l1,by decide+kernel,s2,l2,trivial⟩ rfl
end
end
section
section
variable {W:Wd}{hn:Hn}{D:Nat}{fv v:SV}{vs:List SV}{S S':St}{i:Nat}{x:AO}
theorem R.swap{ad:List Addr}{h:Heap}{st:St}{y:AO}(r:R W ad h st)(q:∀a,ad[i]?=some a->Ob W ad h a y):R W ad h (st.set i y):=
 ⟨by refine rt (List.length_set ..) ?_;exact r.len,r.nd,r.lt,r.lf,λj a o e1 e2=>by
  by_cases z:i=j
  ·subst z
   replace e2:=(List.getElem?_set_self (r.len▸(List.getElem?_eq_some_iff.mp e1).1) ..)▸e2
   replace e2:=Option.some.inj e2;subst e2
   exact q a e1
  ·replace e2:=(List.getElem?_set_ne z ..)▸e2
   exact r.ob j a o e1 e2,r.hi⟩
theorem ba.seal{ι:Type}(G:ι->AO)(Q:ι->Hp)(hi:i<S.length)(hl:S'.length=S.length)(op:∀{ad h a},Ob W ad h a x->∃u,Q u ad h/\Ob W ad h a (G u))(cl:∀{ad h a u},Q u ad h->Ob W ad h a (G u)->Ob W ad h a x)(mo:∀u,Da W.mv (Q u))
  (c:∀u,ba W hn D fv vs (S.set i (G u)) (.ok v) (S'.set i (G u))):ba W hn D fv vs (S.set i x) (.ok v) (S'.set i x):=λA Ma ad s f ws C hh q1 q2 R hQ hE=>by
 have li:i<ad.length:=by refine rt (C.r.len ..) (rt (List.length_set ..) ?_);exact hi
 obtain⟨a,ea⟩:∃a,ad[i]?=some a:=⟨_,List.getElem?_eq_getElem li⟩
 obtain⟨u,qu,g⟩:=op (C.r.ob i a x ea (List.getElem?_set_self hi))
 refine c u A Ma ad s f ws ⟨C.ib,?_,C.fr,C.ff,C.je,C.un,C.gf⟩ hh q1 q2 R (λb e r s' p=>?_) λn e=>nomatch e
 ·have:=C.r.swap (i:=i) (y:=G u) λa' e=>sj ea e▸g
  replace this:=(List.set_set ..)▸this
  exact this
 ·refine Pc.casesOn p λia k r1 y=>?_
  refine hQ b e r s' ⟨ia,k,?_,y⟩
  have:=r1.swap (i:=i) (y:=x) λa' e=>cl (mo u _ _ _ _ _ _ k.g k.k jh qu) (r1.ob i a' (G u) e (List.getElem?_set_self (hl.symm▸hi)))
  replace this:=(List.set_set ..)▸this
  exact this
end
section
variable {W:Wd}{ad:List Addr}{h:Heap}{a:Addr}{o:Obj}{pre:List Value}{ms l:List SV}{x y:SV}{m:Nat->Bool}
theorem Vs.GQ{l:List SV}{vl:List Value}(p:Vs W ad h l vl):∀v∈vl,handedIn v=true:=by
 induction l generalizing vl with
 |nil=>refine rt (show vl=[] from p) ?_;exact λuu m=>nomatch m
 |cons x l ih=>
  refine Ta.casesOn (p:Ta ..) λv r1 p1 p2=>?_
  exact λu m=>(List.mem_cons.mp m).elim (λe=>e▸p1.iy) (ih p2 u)
def Al(W:Wd)(pre:List Value)(ms l:List SV)(u:List Value):Hp:=λad h=>clos ms=true/\(∀v∈pre,handedIn v=true)/\∃w,u=pre++w/\Vs W ad h (ms++l) w
theorem Al.Ba{u:List Value}:Da W.mv (Al W pre ms l u):=λuu uu uu uu uu uu g k d q=>⟨q.1,q.2.1,q.2.2.imp λw z=>⟨z.1,z.2.Ba g k d⟩⟩
theorem Vs.Eg{l r:List SV}{w:List Value}:Vs W ad h (l++r) w->∃v1 v2,w=v1++v2/\Vs W ad h l v1/\Vs W ad h r v2:=by
 induction l generalizing w with
 |nil=>exact λq=>⟨[],w,rfl,rfl,q⟩
 |cons x l ih=>
  intro q
  refine Ta.casesOn (q:Ta ..) λv r1 p1 p2=>?_
  exact(ih p2).elim λv1 z=>z.elim λv2 z=>⟨v::v1,v2,congrArg (v::·) z.1,.mk v v1 p1 z.2.1,z.2.2⟩
theorem kH(q:gc W ad h a o (.ls pre ms l)):∃u:{u:List Value // u.length=pre.length+ms.length+l.length},Al W pre ms l u.1 ad h/\gc W ad h a o (.ls u.1 [] []):=by
 obtain⟨c,hp,vs,n,e,z⟩:=q
 induction z using Ac.casesOn with
 |mk v1 v2 z1 z2=>
  have z:=Vs.append z1 z2
  refine⟨⟨pre++v1++v2,?_⟩,⟨c,hp,v1++v2,List.append_assoc ..,z⟩,rfl,λu m=>?_,_,n,e,?_⟩
  ·exact(List.length_append ..).symm▸(List.length_append ..).symm▸(z1.length ..).symm▸(z2.length ..).symm▸rfl
  ·have m:u∈pre++v1++v2:=m
   replace m:=(List.append_assoc ..)▸m
   exact(List.mem_append.mp m).elim (hp u) (z.GQ u)
  ·have:Ac (pre++v1++v2) (Vs W ad h []) (Vs W ad h []) (pre++v1++v2++[]++[]):=.mk [] [] rfl rfl
   replace this:=(List.append_nil ..)▸(List.append_nil ..)▸this
   exact this
theorem lH{u:List Value}(q:Al W pre ms l u ad h)(z:gc W ad h a o (.ls u [] [])):gc W ad h a o (.ls pre ms l):=by
 obtain⟨c,hp,w,rfl,q⟩:=q
 obtain⟨_,_,vs,n,e,z⟩:=z
 obtain⟨v1,v2,rfl,q1,q2⟩:=q.Eg
 induction z using Ac.casesOn with
 |mk x1 x2 z1 z2=>
  cases(show x1=[] from z1)
  cases(show x2=[] from z2)
  refine⟨c,hp,_,n,e,?_⟩
  refine rt (List.append_nil ..) (rt (List.append_nil ..) (rl (List.append_assoc ..) ?_))
  exact .mk v1 v2 q1 q2
end
section
variable {W:Wd}{m:Nat->Bool}{hn:Hn}{D:Nat}{fv v:SV}{vs:List SV}{S S':St}{i:Nat}{pre:List Value}{ms l:List SV}{y:SV}
theorem ba.HQ(hi:i<S.length)(hl:S'.length=S.length)(c:∀u:List Value,u.length=pre.length+ms.length+l.length->ba W hn D fv vs (S.set i (.ls u [] [])) (.ok v) (S'.set i (.ls u [] []))):ba W hn D fv vs (S.set i (.ls pre ms l)) (.ok v) (S'.set i (.ls pre ms l)):=
 ba.seal (ι:={u:List Value // u.length=pre.length+ms.length+l.length}) (λu=>.ls u.1 [] []) (λu=>Al W pre ms l u.1) hi hl (λ{uu uu a} q=>q.elim λo q=>(kH (a:=a) q.2).elim λu z=>⟨u,z.1,o,q.1,z.2⟩) (λ{uu uu a uu} q z=>z.elim λo z=>⟨o,z.1,lH (a:=a) q z.2⟩) (λuu=>Al.Ba) λu=>c u.1 u.2
theorem ba.mH(hi:i<S.length)(hl:S'.length=S.length)(ho:Mc (λn=>!m n) l=true)(c:∀u:List Value,u.length=pre.length+l.length->ba (W.mw m) hn D fv vs (S.set i (.op (.ls u [] []))) (.ok v) (S'.set i (.op (.ls u [] [])))):ba (W.mw m) hn D fv vs (S.set i (.op (.ls pre [] l))) (.ok v) (S'.set i (.op (.ls pre [] l))):=
 ba.seal (ι:={u:List Value // u.length=pre.length+[].length+l.length}) (λu=>.op (.ls u.1 [] [])) (λu=>Al (W.mw m) pre [] l u.1) hi hl (λ{uu uu a} q=>q.elim λo q=>(kH (W:=W.fi) (a:=a) q.2).elim λu z=>⟨u,⟨z.1.1,z.1.2.1,z.1.2.2.imp λw y=>⟨y.1,Vs.co ho _ y.2⟩⟩,o,q.1,z.2⟩)
  (λ{uu uu a uu} q z=>z.elim λo z=>⟨o,z.1,lH (W:=W.fi) (a:=a) ⟨q.1,q.2.1,q.2.2.imp λw y=>⟨y.1,Vs.open y.2⟩⟩ z.2⟩) (λuu=>Al.Ba) λu=>c u.1 u.2
theorem ba.nH(hi:i<S.length)(hl:S'.length=S.length)(c:∀u:Value,ba W hn D fv vs (S.set i (.Ha [.rw u])) (.ok v) (S'.set i (.Ha [.rw u]))):ba W hn D fv vs (S.set i (.Ha [y])) (.ok v) (S'.set i (.Ha [y])):=
 ba.seal (λu=>.Ha [.rw u]) (λu ad h=>V W ad h y u) hi hl (λq=>q.elim λo q=>q.2.elim λvs z=>z.elim λn z=>by
  induction(z.2:Ta ..) using Ta.casesOn with
  |mk w r z1 z2=>exact⟨w,z1,o,q.1,_,n,z.1,.mk w r ⟨rfl,z1.iy⟩ z2⟩) (λq z=>z.elim λo z=>⟨o,z.1,z.2.elim λvs y=>y.elim λn y=>by
  induction(y.2:Ta ..) using Ta.casesOn with
  |mk w r z1 z2=>exact⟨_,n,y.1,.mk w r (z1.1▸q) z2⟩⟩) (λu=>Da.V W y u) c
end
end
section
noncomputable def xp(n:Nat):SV:=.tu [.st Aw,.fl (List.replicate n (.tu [.st Kr,.it 1]))]
noncomputable def oH(a:Int)(l:List SV):St:=[.ns [(Ki,.it (a+1)),(Qh,.it 0),(Li,.nn),(Mi,.ob 48),(Ni,.bo false),(Oi,.bo false),(Yk,.ob 49),(Uz,.nn)],.bc 78 46,.Ha [],.Ha l]
noncomputable def ZA(c:Nat)(a k:Int):St:=[.ns [(Ki,.it (a+1)),(Qh,.it k),(Li,.nn),(Mi,.ob (c+2)),(Ni,.bo false),(Oi,.bo false),(Sj,.it 1),(xw,.nn)],.bc 59 c,.Ha []]
noncomputable def El(a k0:Int):St:=oH a [.ob 51]++ZA 50 (a+1) k0
noncomputable def Kg(a k0 k1:Int):St:=oH a [.ob 51,.ob 54]++ZA 50 (a+1) k0++ZA 53 (a+1+1) k1
noncomputable def Ck.Tw(b:Ck):Ck:={b with Va:=b.Va+1+1}
noncomputable def Ck.Rm(b:Ck):Ck:={b with Va:=b.Va+1+1+1}
noncomputable def Tm(P:Pm)(σ:Sg)(X:St):St:=(base P σ).set 39 (.ls σ.r.zp [] [.ob 47])++X
noncomputable def Mg(P:Pm)(σ:Sg)(X:St):St:=(cS P σ).set 39 (.op (.ls σ.r.zp [] [.ob 47]))++X
noncomputable def IQ(r:Rw):SV:=.tu [.st OG,.ob 18,.it 0,.rw r.pv]
noncomputable def pH(P:Pm)(σ:Sg)(y:Nat)(X:St):St:=(((cS P σ++X).set 15 (.ls σ.r.pre σ.ms [IQ σ.r])).set 20 (.Ha [.ob y])).set 39 (.op (.ls σ.r.zp [] [.ob 47]))
section
variable {W:Wd}{P:Pm}{D:Nat}{m m':Mm}{b b':Ck}{ms:List SV}{r:Rw}{ma v:SV}{f:Addr}{vs:List SV}{X:St}(e:Wo W P)
theorem Uw(hv:Mc zd (v::vs)=true)(hX:X.all (yg Qd)=true)(hm:clos ms=true)(y:Nat)(c:∀(u z:List Value) (p:Value),u.length=r.pre.length+ms.length+1->z.length=r.zp.length+1->wa W P .nn D f vs ⟨m,b,[],⟨u,z,p⟩⟩ v ⟨m',b',[],⟨u,z,p⟩⟩)(fd:List Addr):
  ba (W.co.on fd) .nn D (.tp f) vs (pH P ⟨m,b,ms,r⟩ y X) (.ok v) (pH P ⟨m',b',ms,r⟩ y X):=by
 have r1:∀{l:St} {a b c:AO},((l.set 15 a).set 20 b).set 39 c=((l.set 15 a).set 39 c).set 20 b:=λ{l a b c}=>List.set_comm _ _ (by decide)
 have r2:∀{l:St} {a b c:AO},((l.set 15 a).set 39 c).set 20 b=((l.set 39 c).set 20 b).set 15 a:=λ{l a b c}=>by rw[List.set_comm a c (by decide),List.set_comm a b (by decide)]
 refine ba.mH (W:=W.on fd) (m:=Qd) (i:=39) (by refine(List.length_set ..).symm▸(List.length_set ..).symm▸(List.length_append ..).symm▸(Ze ..).symm▸?_;lia) (by simp only [List.length_set,List.length_append,Ze]) rfl λz hz=>?_
 refine rt r1 (rt r1 ?_)
 refine ba.nH (by simp only [List.length_set,List.length_append,Ze];lia) (by simp only [List.length_set,List.length_append,Ze]) λp=>?_
 refine rt r2 (rt r2 ?_)
 refine ba.HQ (by simp only [List.length_set,List.length_append,Ze];lia) (by simp only [List.length_set,List.length_append,Ze]) λu hu=>?_
 have:=wa.up (c u z p hu hz) hv X (hn':=.nn) hX rfl fd
 have q:∀m b,(((cS P ⟨m,b,ms,r⟩++X).set 39 (.op (.ls z [] []))).set 20 (.Ha [.rw p])).set 15 (.ls u [] [])=cS P ⟨m,b,[],⟨u,z,p⟩⟩++X:=λm b=>by kernel_rfl
 exact((q m' b').symm▸(q m b).symm▸this)
include e
theorem JQ:wa W P .nn (D+9) 807 [.ob 0,xp 1] ⟨m,b,ms,r⟩ (.fl [.it 1]) ⟨m,b,ms,r⟩:=jc e (n:=60) [⟨474,11,17,.Ca true⟩] (l:=[1<=100000,1<=100000,1<=100000]) (by kernel_rfl) ⟨by decide,by decide,by decide,trivial⟩ rfl
theorem qH:wa W P .nn (D+9) 807 [.ob 0,xp 2] ⟨m,b,ms,r⟩ (.fl [.it 1,.it 1]) ⟨m,b,ms,r⟩:=jc e (n:=60) [⟨474,11,17,.Ca true⟩] (l:=[1<=100000,2<=100000,2<=100000,1<=100000]) (by kernel_rfl) ⟨by decide,by decide,by decide,by decide,trivial⟩ rfl
theorem KQ(hz:r.zp.length+2<=1000):∀fd,ba (W.co.on fd) .nn (D+9) (.tp 988) [.ob 0,.fl [.it 1]] (cS P ⟨m,b,ms,r⟩) (.ok (.fl [.ob 51])) (Mg P ⟨m,b.Tw,ms,r⟩ (El b.Va 1)):=by
 obtain⟨now,lg,rd⟩:=m
 obtain⟨s,la,er⟩:=b
 induction now using Option.casesOn<;>induction er using Option.casesOn<;>exact qp e (n:=60) qC qC (λuu=>false) [] (List.range 50++[51,52,53]) (st:=base P ⟨⟨_,lg,rd⟩,⟨s,la,_⟩,ms,r⟩) (F:=Tm P ⟨⟨_,lg,rd⟩,⟨s,la+1+1,_⟩,ms,r⟩ (El la 1)) rfl (l:=[0<=100000,r.zp.length+0+0<=100000,1<=100000]) (λz=>by kernel_rfl) ⟨by decide,by lia,by decide,trivial⟩
theorem rH(hz:r.zp.length+2<=1000):∀fd,ba (W.co.on fd) .nn (D+9) (.tp 988) [.ob 0,.fl [.it 1,.it 1]] (cS P ⟨m,b,ms,r⟩) (.ok (.fl [.ob 51,.ob 54])) (Mg P ⟨m,b.Rm,ms,r⟩ (Kg b.Va 1 1)):=by
 obtain⟨now,lg,rd⟩:=m
 obtain⟨s,la,er⟩:=b
 induction now using Option.casesOn<;>induction er using Option.casesOn<;>exact qp e (n:=60) qC qC (λuu=>false) [] (List.range 50++[51,52,53,55,56,57]) (st:=base P ⟨⟨_,lg,rd⟩,⟨s,la,_⟩,ms,r⟩) (F:=Tm P ⟨⟨_,lg,rd⟩,⟨s,la+1+1+1,_⟩,ms,r⟩ (Kg la 1 1)) rfl (l:=[0<=100000,1<=100000,r.zp.length+0+0<=100000,2<=100000]) (λz=>by kernel_rfl) ⟨by decide,by decide,by lia,by decide,trivial⟩
theorem Ww(hX:X.all (yg Qd)=true)(hz:r.zp.length+2<=1000)(fd:List Addr):ba (W.co.on fd) .nn (D+2) (.tp 547) [.ob 4,.it ((r.zp.length+0+1:Nat):Int)] (Mg P ⟨m,b,ms,r⟩ X) (.ok .nn) (Mg P ⟨m,b,ms,r⟩ X):=by
 have q:Mg P ⟨m,b,ms,r⟩ X=(cS P ⟨m,b,ms,r⟩++X).set 39 (.op (.ls r.zp [] [.ob 47])):=by
  rw[List.set_append_left _ _ (by rw[Ze];decide)]
  rfl
 refine rt q ?_
 refine ba.mH (W:=W.on fd) (m:=Qd) (i:=39) (by simp only [List.length_append,Ze];lia) rfl rfl λz Mx=>?_
 have s:=wa.up (rp (σ:=⟨m,b,ms,⟨r.pre,z,r.pv⟩⟩) (D:=D) e (by refine rt Mx ?_;exact Nat.le_trans (Nat.le_succ _) hz)) rfl X (hn':=.nn) hX rfl fd
 replace s:=Mx▸s
 have q:(cS P ⟨m,b,ms,r⟩++X).set 39 (.op (.ls z [] []))=cS P ⟨m,b,ms,⟨r.pre,z,r.pv⟩⟩++X:=by kernel_rfl
 exact rt q s
omit e in
noncomputable def aB(n:Nat)(mem:List SV)(ma:SV):Lc:=[(Ef,.ob 0),(Pi,.tu [.st ap,.st q0,.tu [.st FA,.it 0],xp n,ma]),(rf,.it 0),(Ew,.st ap),(Fr,.st q0),(LP,.tu [.st FA,.it 0]),(zP,xp n),(Uj,ma),(AP,.fl mem)]
omit e in
noncomputable def te(n:Nat)(ma:SV):SV:=.tu [.st ap,.st q0,.tu [.st FA,.it 0],xp n,ma]
theorem bB{loc:Lc}(hX:Cf Qd qC 46 X=true)(x:rep (Rn.pj W.fi (Rn.Xa W.fi (Wb P) 60) (Wb P) (Dc 1002 .nn) D (sB 1002 2) ⟨loc,Tm P ⟨m,b,ms,r⟩ X,[]⟩)=some (.ok .next,loc++[(Jm,.it ((r.zp.length+0+1:Nat):Int))],Tm P ⟨m,b,ms,r⟩ X,[r.zp.length+0+1<=1000000]))(hz:r.zp.length+2<=1000):
  dc W.co (Dc 1002 .nn) D (sB 1002 2) loc (Mg P ⟨m,b,ms,r⟩ X) (.ok .next) (loc++[(Jm,.it ((r.zp.length+0+1:Nat):Int))]) (Mg P ⟨m,b,ms,r⟩ X):=by
 have c:Cf Qd qC 0 ((base P ⟨m,b,ms,r⟩).set 39 (.ls r.zp [] [.ob 47]))=true:=by
  obtain⟨now,lg,rd⟩:=m
  obtain⟨s,la,er⟩:=b
  induction now using Option.casesOn<;>induction er using Option.casesOn<;>kernel_rfl
 have:=dc.co (q:=qC) e.ok (Jz (W:=W.fi) (e.ok.mw _) e.hF [] x ⟨Nat.le_trans (Nat.le_trans (Nat.le_succ _) hz) (by decide),trivial⟩) rfl (PA c hX) λy sv=>RA
 unfold Tm at this
 replace this:=(QA (i:=0+((base P ⟨m,b,ms,r⟩).set 39 (.ls r.zp [] [.ob 47])).length) (Nat.le_refl 46) ..)▸(OA ..)▸this
 exact this
theorem LQ{g:Bool}(hb:Ia ma=true)(hv:Ia v=true)(hm:clos ms=true)(hp:r.pre.length+ms.length+1<=100000)(hz:r.zp.length+2<=1000)(c:∀(u z:List Value) (p:Value),u.length=r.pre.length+ms.length+1->z.length=r.zp.length+1->wa W P .nn D 932 [.ob 0,.st q0,ma,.it 0] ⟨m,b.Tw,[],⟨u,z,p⟩⟩ (.tu [.bo g,v]) ⟨m',b',[],⟨u,z,p⟩⟩):
  ∀fd,ba (W.co.on fd) .nn (D+10) (.tp 1002) [.ob 0,te 1 ma,.it 0] (cS P ⟨m,b,ms,r⟩) (.ok .nn) (Mg P ⟨m',b',ms,r⟩ (El b.Va 1++[cond g .ta (.li (.fl [.ob 51]) 1)])):=by
 have l:=JQ (m:=m) (b:=b) (ms:=ms) (r:=r) (D:=D) e
 have k:=KQ (m:=m) (b:=b) (ms:=ms) (D:=D) e hz
 have s:=bB (m:=m) (b:=b.Tw) (ms:=ms) (D:=D+9) (X:=El b.Va 1) (loc:=aB 1 [.ob 51] ma) e rfl (by kernel_rfl) hz
 have a:=ba.up (Uw (X:=El b.Va 2++[.li (.fl [.ob 51]) 1]) ((Bool.and_eq_true _ _).mpr ⟨Nc (x:=.tu [.bo g,v]) ((Bool.and_eq_true _ _).mpr ⟨hv,rfl⟩),Lm 0 rfl (l:=[.st q0,ma,.it 0]) ((Bool.and_eq_true _ _).mpr ⟨rfl,(Bool.and_eq_true _ _).mpr ⟨hb,rfl⟩⟩)⟩) rfl hm 51 c) 9
 have t:=Ww (m:=m') (b:=b') (ms:=ms) (X:=El b.Va 1++[.li (.fl [.ob 51]) 1]) (D:=D+7) e rfl hz
 exact Km (W:=W.co) (e.ok.mw _) e.hC (n:=60) [⟨683,32,59,ho l⟩,⟨683,14,60,ho k⟩,⟨684,4,30,fo s⟩,⟨689,19,54,ho a⟩,⟨200,10,31,.Ca true⟩,⟨200,10,31,.Ca false⟩,⟨692,8,33,ho t⟩] (l:=[_,_,_,r.pre.length+ms.length+0<=1000000,r.pre.length+ms.length+0<=100000,_,r.pre.length+ms.length+1<=1000000,decide (((r.pre.length+ms.length+1:Nat):Int)>((r.pre.length+ms.length+0:Nat):Int))=true,r.pre.length+ms.length+1<=100000,r.pre.length+ms.length+0<=1000000,decide (((r.pre.length+ms.length+0:Nat):Int)>((r.pre.length+ms.length+0:Nat):Int))=false,_]) (by induction g using Bool.casesOn<;>kernel_rfl) ⟨l,k,s,jd hp,Nat.le_of_succ_le hp,a,Nat.le_trans hp (by decide),decide_eq_true (Int.ofNat_lt.mpr (Nat.lt_succ_self _)),hp,jd hp,decide_eq_false (Int.lt_irrefl _),t,trivial⟩
theorem MQ(hb:Ia ma=true)(hv:Ia v=true)(hm:clos ms=true)(hp:r.pre.length+ms.length+1<=100000)(hz:r.zp.length+2<=1000)(c:∀(u z:List Value) (p:Value),u.length=r.pre.length+ms.length+1->z.length=r.zp.length+1->wa W P .nn D 932 [.ob 0,.st q0,ma,.it 0] ⟨m,b.Rm,[],⟨u,z,p⟩⟩ (.tu [.bo false,v]) ⟨m',b',[],⟨u,z,p⟩⟩):
  ∀fd,ba (W.co.on fd) .nn (D+10) (.tp 1002) [.ob 0,te 2 ma,.it 0] (cS P ⟨m,b,ms,r⟩) (.ok .nn) (Mg P ⟨m',b',ms,r⟩ (Kg b.Va 1 1++[.li (.fl [.ob 51,.ob 54]) 1])):=by
 have l:=qH (m:=m) (b:=b) (ms:=ms) (r:=r) (D:=D) e
 have k:=rH (m:=m) (b:=b) (ms:=ms) (D:=D) e hz
 have s:=bB (m:=m) (b:=b.Rm) (ms:=ms) (D:=D+9) (X:=Kg b.Va 1 1) (loc:=aB 2 [.ob 51,.ob 54] ma) e rfl (by kernel_rfl) hz
 have a:=ba.up (Uw (X:=Kg b.Va 2 1++[.li (.fl [.ob 51,.ob 54]) 1]) ((Bool.and_eq_true _ _).mpr ⟨Nc (x:=.tu [.bo false,v]) ((Bool.and_eq_true _ _).mpr ⟨hv,rfl⟩),Lm 0 rfl (l:=[.st q0,ma,.it 0]) ((Bool.and_eq_true _ _).mpr ⟨rfl,(Bool.and_eq_true _ _).mpr ⟨hb,rfl⟩⟩)⟩) rfl hm 51 c) 9
 have t:=Ww (m:=m') (b:=b') (ms:=ms) (X:=Kg b.Va 1 1++[.li (.fl [.ob 51,.ob 54]) 1]) (D:=D+7) e rfl hz
 exact Km (W:=W.co) (e.ok.mw _) e.hC (n:=60) [⟨683,32,59,ho l⟩,⟨683,14,60,ho k⟩,⟨684,4,30,fo s⟩,⟨689,19,54,ho a⟩,⟨200,10,31,.Ca true⟩,⟨200,10,31,.Ca false⟩,⟨692,8,33,ho t⟩] (l:=[_,_,_,r.pre.length+ms.length+0<=1000000,r.pre.length+ms.length+0<=100000,_,r.pre.length+ms.length+1<=1000000,decide (((r.pre.length+ms.length+1:Nat):Int)>((r.pre.length+ms.length+0:Nat):Int))=true,r.pre.length+ms.length+1<=100000,r.pre.length+ms.length+0<=1000000,decide (((r.pre.length+ms.length+0:Nat):Int)>((r.pre.length+ms.length+0:Nat):Int))=false,_]) (by kernel_rfl) ⟨l,k,s,jd hp,Nat.le_of_succ_le hp,a,Nat.le_trans hp (by decide),decide_eq_true (Int.ofNat_lt.mpr (Nat.lt_succ_self _)),hp,jd hp,decide_eq_false (Int.lt_irrefl _),t,trivial⟩
theorem NQ{g:Bool}{m1:Mm}{b1:Ck}{v1:SV}(bX:Ia v1=true)(hb:Ia ma=true)(hv:Ia v=true)(hm:clos ms=true)(hp:r.pre.length+ms.length+1<=100000)(hz:r.zp.length+2<=1000)(c1:∀(u z:List Value) (p:Value),u.length=r.pre.length+ms.length+1->z.length=r.zp.length+1->wa W P .nn D 932 [.ob 0,.st q0,ma,.it 0] ⟨m,b.Rm,[],⟨u,z,p⟩⟩ (.tu [.bo true,v1]) ⟨m1,b1,[],⟨u,z,p⟩⟩)(c:∀(u z:List Value) (p:Value),u.length=r.pre.length+ms.length+1->z.length=r.zp.length+1->wa W P .nn D 932 [.ob 0,.st q0,ma,.it 0] ⟨m1,b1,[],⟨u,z,p⟩⟩ (.tu [.bo g,v]) ⟨m',b',[],⟨u,z,p⟩⟩):
  ∀fd,ba (W.co.on fd) .nn (D+10) (.tp 1002) [.ob 0,te 2 ma,.it 0] (cS P ⟨m,b,ms,r⟩) (.ok .nn) (Mg P ⟨m',b',ms,r⟩ (Kg b.Va 1 1++[cond g .ta (.li (.fl [.ob 51,.ob 54]) 2)])):=by
 have l:=qH (m:=m) (b:=b) (ms:=ms) (r:=r) (D:=D) e
 have k:=rH (m:=m) (b:=b) (ms:=ms) (D:=D) e hz
 have s:=bB (m:=m) (b:=b.Rm) (ms:=ms) (D:=D+9) (X:=Kg b.Va 1 1) (loc:=aB 2 [.ob 51,.ob 54] ma) e rfl (by kernel_rfl) hz
 have a1:=ba.up (Uw (X:=Kg b.Va 2 1++[.li (.fl [.ob 51,.ob 54]) 1]) ((Bool.and_eq_true _ _).mpr ⟨Nc (x:=.tu [.bo true,v1]) ((Bool.and_eq_true _ _).mpr ⟨bX,rfl⟩),Lm 0 rfl (l:=[.st q0,ma,.it 0]) ((Bool.and_eq_true _ _).mpr ⟨rfl,(Bool.and_eq_true _ _).mpr ⟨hb,rfl⟩⟩)⟩) rfl hm 51 c1) 9
 have t1:=Ww (m:=m1) (b:=b1) (ms:=ms) (X:=Kg b.Va 1 1++[.li (.fl [.ob 51,.ob 54]) 1]) (D:=D+7) e rfl hz
 have a:=ba.up (Uw (X:=Kg b.Va 1 2++[.li (.fl [.ob 51,.ob 54]) 2]) ((Bool.and_eq_true _ _).mpr ⟨Nc (x:=.tu [.bo g,v]) ((Bool.and_eq_true _ _).mpr ⟨hv,rfl⟩),Lm 0 rfl (l:=[.st q0,ma,.it 0]) ((Bool.and_eq_true _ _).mpr ⟨rfl,(Bool.and_eq_true _ _).mpr ⟨hb,rfl⟩⟩)⟩) rfl hm 54 c) 9
 have t:=Ww (m:=m') (b:=b') (ms:=ms) (X:=Kg b.Va 1 1++[.li (.fl [.ob 51,.ob 54]) 2]) (D:=D+7) e rfl hz
 exact Km (W:=W.co) (e.ok.mw _) e.hC (n:=60) [⟨683,32,59,ho l⟩,⟨683,14,60,ho k⟩,⟨684,4,30,fo s⟩,⟨689,19,54,ho a1⟩,⟨200,10,31,.Ca true⟩,⟨200,10,31,.Ca false⟩,⟨692,8,33,ho t1⟩,⟨689,19,54,ho a⟩,⟨200,10,31,.Ca true⟩,⟨200,10,31,.Ca false⟩,⟨692,8,33,ho t⟩] (l:=[_,_,_,r.pre.length+ms.length+0<=1000000,r.pre.length+ms.length+0<=100000,_,r.pre.length+ms.length+1<=1000000,decide (((r.pre.length+ms.length+1:Nat):Int)>((r.pre.length+ms.length+0:Nat):Int))=true,r.pre.length+ms.length+1<=100000,r.pre.length+ms.length+0<=1000000,decide (((r.pre.length+ms.length+0:Nat):Int)>((r.pre.length+ms.length+0:Nat):Int))=false,_,r.pre.length+ms.length+0<=1000000,r.pre.length+ms.length+0<=100000,_,r.pre.length+ms.length+1<=1000000,decide (((r.pre.length+ms.length+1:Nat):Int)>((r.pre.length+ms.length+0:Nat):Int))=true,r.pre.length+ms.length+1<=100000,r.pre.length+ms.length+0<=1000000,decide (((r.pre.length+ms.length+0:Nat):Int)>((r.pre.length+ms.length+0:Nat):Int))=false,_]) (by induction g using Bool.casesOn<;>kernel_rfl) ⟨l,k,s,jd hp,Nat.le_of_succ_le hp,a1,Nat.le_trans hp (by decide),decide_eq_true (Int.ofNat_lt.mpr (Nat.lt_succ_self _)),hp,jd hp,decide_eq_false (Int.lt_irrefl _),t1,jd hp,Nat.le_of_succ_le hp,a,Nat.le_trans hp (by decide),decide_eq_true (Int.ofNat_lt.mpr (Nat.lt_succ_self _)),hp,jd hp,decide_eq_false (Int.lt_irrefl _),t,trivial⟩
end
end
section
theorem lz{z k K:Nat}(h:z+2<=1000)(hk:k<=2)(hK:1000<=K):z+k<=K:=Nat.le_trans (Nat.add_le_add_left hk z) (Nat.le_trans h hK)
theorem eB(a:Int)(v:SV):Am [(a,v)] [.it a]:=⟨[a],rfl,.refl _,List.pairwise_singleton _ _,by simp⟩
theorem sH(a:Int):uc a (a+1)=false:=by
 rw[<-Bool.not_eq_true,Xe]
 lia
theorem fB(a:Int)(u v:SV):yi (a+1) v [(a,u)]=[(a,u),(a+1,v)]:=by
 refine(?_:cond (uc a (a+1)) _ _=_)
 refine rt (sH ..) ?_
 rfl
theorem OQ(a:Int)(u v:SV):Am (yi (a+1) v [(a,u)]) [.it a,.it (a+1)]:=by
 refine rt (fB ..) ?_
 exact⟨[a,a+1],rfl,.refl _,by simp;lia,by simp⟩
theorem Xw(a:Int)(v:SV):Be a [(a,v)]=some v:=by
 refine(?_:cond (uc a a) _ _=_)
 refine rt ((Xe a a).mpr rfl ..) ?_
 rfl
theorem PQ(a:Int)(u v:SV):Be a (yi (a+1) v [(a,u)])=some u:=by
 refine rt (fB ..) ?_
 refine(?_:cond (uc a a) _ _=_)
 refine rt ((Xe a a).mpr rfl ..) ?_
 rfl
theorem QQ(a:Int)(u v:SV):Be (a+1) (yi (a+1) v [(a,u)])=some v:=by
 refine rt (fB ..) ?_
 refine(?_:cond (uc a (a+1)) _ _=_)
 refine rt (sH ..) ?_
 exact Xw _ _
section
variable {W:Wd}{P:Pm}{D:Nat}{m m':Mm}{b b':Ck}{ms:List SV}{r:Rw}{ma v:SV}{a:Int}{o:AO}(e:Wo W P)
include e
theorem RQ(hz:r.zp.length+2<=1000):∀fd,ba (W.co.on fd) .nn (D+9) (.tp 547) [.ob 4,.it ((r.zp.length+0+0:Nat):Int)] (Mg P ⟨m,b,ms,r⟩ (El a 1++[o])) (.ok .nn) (cS P ⟨m,b,ms,r⟩++List.replicate 8 .ta):=by
 obtain⟨now,lg,rd⟩:=m
 obtain⟨s,la,er⟩:=b
 induction now using Option.casesOn<;>induction er using Option.casesOn<;>exact qp e (n:=60) (v:=.nn) qC qC (λi=>Nat.ble 46 i) [⟨341,14,41,.Ca true⟩,⟨285,40,53,.list [.it (a+1)]⟩,⟨285,12,25,.item (.ob 47)⟩,⟨341,14,41,.Ca true⟩,⟨285,40,53,.list [.it (a+1+1)]⟩,⟨285,12,25,.item (.ob 51)⟩,⟨341,14,41,.Ca false⟩] (List.range 39++73::List.range' 40 14) (st:=Tm P ⟨⟨_,lg,rd⟩,⟨s,la,_⟩,ms,r⟩ (El a 1++[o])) (F:=base P ⟨⟨_,lg,rd⟩,⟨s,la,_⟩,ms,r⟩++List.replicate 8 .ta) rfl (l:=[r.zp.length+0+1<=1000000,decide (((r.zp.length+0+1:Nat):Int)>((r.zp.length+0+0:Nat):Int))=true,((r.zp.length+0+0:Nat):Int)=((r.zp.length:Nat):Int),r.zp.length+1<=100000,Am [(a+1,SV.ob 47)] [.it (a+1)],Be (a+1) [(a+1,SV.ob 47)]=some (.ob 47),((r.zp.length+0+0:Nat):Int)=((r.zp.length:Nat):Int),r.zp.length+1<=100000,1+1<=100000,r.zp.length+0+0<=100000,r.zp.length+0+1<=1000000,decide (((r.zp.length+0+1:Nat):Int)>((r.zp.length+0+0:Nat):Int))=true,((r.zp.length+0+0:Nat):Int)=((r.zp.length:Nat):Int),r.zp.length+1<=100000,Am [(a+1+1,SV.ob 51)] [.it (a+1+1)],Be (a+1+1) [(a+1+1,SV.ob 51)]=some (.ob 51),((r.zp.length+0+0:Nat):Int)=((r.zp.length:Nat):Int),r.zp.length+1<=100000,0+1<=100000,r.zp.length+0+0<=1000000,decide (((r.zp.length+0+0:Nat):Int)>((r.zp.length+0+0:Nat):Int))=false]) (λz=>by kernel_rfl) ⟨lz hz (k:=1) (by decide) (by decide),decide_eq_true (Int.ofNat_lt.mpr (Nat.lt_add_of_pos_right (by decide))),rfl,lz hz (k:=1) (by decide) (by decide),eB _ _,Xw _ _,rfl,lz hz (k:=1) (by decide) (by decide),by decide,lz hz (k:=0) (by decide) (by decide),lz hz (k:=1) (by decide) (by decide),decide_eq_true (Int.ofNat_lt.mpr (Nat.lt_add_of_pos_right (by decide))),rfl,lz hz (k:=1) (by decide) (by decide),eB _ _,Xw _ _,rfl,lz hz (k:=1) (by decide) (by decide),by decide,lz hz (k:=0) (by decide) (by decide),decide_eq_false (Int.lt_irrefl _),trivial⟩
theorem tH(hz:r.zp.length+2<=1000):∀fd,ba (W.co.on fd) .nn (D+9) (.tp 547) [.ob 4,.it ((r.zp.length+0+0:Nat):Int)] (Mg P ⟨m,b,ms,r⟩ (Kg a 1 1++[o])) (.ok .nn) (cS P ⟨m,b,ms,r⟩++List.replicate 11 .ta):=by
 obtain⟨now,lg,rd⟩:=m
 obtain⟨s,la,er⟩:=b
 induction now using Option.casesOn<;>induction er using Option.casesOn<;>exact qp e (n:=60) (v:=.nn) qC qC (λi=>Nat.ble 46 i) [⟨341,14,41,.Ca true⟩,⟨285,40,53,.list [.it (a+1)]⟩,⟨285,12,25,.item (.ob 47)⟩,⟨341,14,41,.Ca true⟩,⟨285,40,53,.list [.it (a+1+1),.it (a+1+1+1)]⟩,⟨285,12,25,.item (.ob 51)⟩,⟨285,12,25,.item (.ob 54)⟩,⟨341,14,41,.Ca false⟩] (List.range 39++76::List.range' 40 17) (st:=Tm P ⟨⟨_,lg,rd⟩,⟨s,la,_⟩,ms,r⟩ (Kg a 1 1++[o])) (F:=base P ⟨⟨_,lg,rd⟩,⟨s,la,_⟩,ms,r⟩++List.replicate 11 .ta) rfl (l:=[r.zp.length+0+1<=1000000,decide (((r.zp.length+0+1:Nat):Int)>((r.zp.length+0+0:Nat):Int))=true,((r.zp.length+0+0:Nat):Int)=((r.zp.length:Nat):Int),r.zp.length+1<=100000,Am [(a+1,SV.ob 47)] [.it (a+1)],Be (a+1) [(a+1,SV.ob 47)]=some (.ob 47),((r.zp.length+0+0:Nat):Int)=((r.zp.length:Nat):Int),r.zp.length+1<=100000,2+1<=100000,r.zp.length+0+0<=100000,r.zp.length+0+1<=100000,r.zp.length+0+2<=1000000,decide (((r.zp.length+0+2:Nat):Int)>((r.zp.length+0+0:Nat):Int))=true,((r.zp.length+0+0:Nat):Int)=((r.zp.length:Nat):Int),r.zp.length+2<=100000,1<=100000,Am (yi (a+1+1+1) (SV.ob 54) [(a+1+1,SV.ob 51)]) [.it (a+1+1),.it (a+1+1+1)],Be (a+1+1) (yi (a+1+1+1) (SV.ob 54) [(a+1+1,SV.ob 51)])=some (.ob 51),Be (a+1+1+1) (yi (a+1+1+1) (SV.ob 54) [(a+1+1,SV.ob 51)])=some (.ob 54),((r.zp.length+0+0:Nat):Int)=((r.zp.length:Nat):Int),r.zp.length+2<=100000,0+1<=100000,0+1<=100000,r.zp.length+0+0<=1000000,decide (((r.zp.length+0+0:Nat):Int)>((r.zp.length+0+0:Nat):Int))=false]) (λz=>by kernel_rfl) ⟨lz hz (k:=1) (by decide) (by decide),decide_eq_true (Int.ofNat_lt.mpr (Nat.lt_add_of_pos_right (by decide))),rfl,lz hz (k:=1) (by decide) (by decide),eB _ _,Xw _ _,rfl,lz hz (k:=1) (by decide) (by decide),by decide,lz hz (k:=0) (by decide) (by decide),lz hz (k:=1) (by decide) (by decide),lz hz (k:=2) (by decide) (by decide),decide_eq_true (Int.ofNat_lt.mpr (Nat.lt_add_of_pos_right (by decide))),rfl,lz hz (k:=2) (by decide) (by decide),by decide,OQ _ _ _,PQ _ _ _,QQ _ _ _,rfl,lz hz (k:=2) (by decide) (by decide),by decide,by decide,lz hz (k:=0) (by decide) (by decide),decide_eq_false (Int.lt_irrefl _),trivial⟩
theorem iB{n:Nat}{X:St}{k:Nat}(hz:r.zp.length+2<=1000)(hs:b.xd+1<=1000000)(c:∀fd,ba (W.co.on fd) .nn (D+10) (.tp 1002) [.ob 0,te n ma,.it 0] (cS P ⟨m,b.Ub,ms,r⟩) (.ok .nn) (Mg P ⟨m',b',ms,r⟩ X))(s:∀fd,ba (W.co.on fd) .nn (D+13) (.tp 547) [.ob 4,.it ((r.zp.length+0+0:Nat):Int)] (Mg P ⟨m',b',ms,r⟩ X) (.ok .nn) (cS P ⟨m',b',ms,r⟩++List.replicate k .ta)):
  wa W P .nn (D+14) 897 [.ob 0,te n ma,.it 0] ⟨m,b,ms,r⟩ .nn ⟨m',b',ms,r⟩:=by
 have st:=jl e 897 (σ:=⟨m,b.Ub,ms,r⟩) (D:=D+13) (s:=sB 897 2) (X:=[]) (loc:=[(Ef,.ob 0),(Pi,te n ma),(rf,.it 0)]) (by kernel_rfl) (Nat.le_trans (Nat.le_add_right _ 2) hz) rfl
 exact jc e (n:=60) [⟨543,7,35,.Ca false⟩,⟨557,4,30,fo st⟩,⟨547,15,55,ho (ba.up c 2)⟩,⟨560,8,33,ho s⟩] (l:=[decide (b.xd+1>1000000)=false,_,_,_]) (by kernel_rfl) ⟨decide_eq_false (Int.not_lt.mpr hs),st,ba.up c 2,s,trivial⟩ rfl
end
end
set_option genCtorIdx true in
inductive Wy where
 |ok|next|Va|wb
noncomputable def Wy.md:Wy->Bool
 |.wb=>false
 |_=>true
noncomputable def Wy.go:Wy->Bool
 |.ok=>true
 |.next=>true
 |_=>false
noncomputable def Wy.Si:Wy->Bool
 |.ok=>true
 |_=>false
inductive Te where
 |nil|cons (a r:Te)|lc (k:Nat)|Se (l:Bool)|Gf (b:Te)|ue (b:Te)|Ec|wc (b:Te)|Ic (k:Nat) (b c:Te)|ifs (c:Te)
 |Pe (k:Nat) (b:Te)|qe (k:Nat) (b:Te)|Uc (m:Nat) (b:Te)|bare (b:Te)|Qe (k1 k2 k3:Nat) (b:Te)|Ti (k2 k3:Nat) (b:Te)|Jf (b:Te) (k:Nat)|Ui (b:Te) (k:Nat)
noncomputable def Te.ctorIdx(x:Te):Nat:=x.casesOn 0 (λ_ _=>1) (λ_=>2) (λ_=>3) (λ_=>4) (λ_=>5) 6 (λ_=>7) (λ_ _ _=>8) (λ_=>9) (λ_ _=>10) (λ_ _=>11) (λ_ _=>12) (λ_=>13) (λ_ _ _ _=>14) (λ_ _ _=>15) (λ_ _=>16) (λ_ _=>17)
noncomputable def Ye(x:SV):SV:=.tu [.st Vj,.it 1,x]
noncomputable def uH(l:Bool):Str:=cond l Oe tj
noncomputable def tr:Te->SV×List SV
 |.cons a r=>(.nn,(tr a).1::(tr r).2)
 |.lc k=>(Ye (Wa k),[])
 |.Se l=>(Ye (.tu [.st (uH l),.st q0]),[])
 |.Gf b=>(Ye (.tu [.st Zk,Kb (tr b).2]),[])
 |.ue b=>(Ye (.tu [.st rj,Kb (tr b).2]),[])
 |.wc b=>(Kb (tr b).2,[])
 |.Ic k b c=>((tr c).1,Ja k (Kb (tr b).2)::(tr c).2)
 |.ifs c=>(Tc (tr c).2 (tr c).1,[])
 |.Pe k b=>(Xj k (Kb (tr b).2),[])
 |.Uc m b=>(te m (Kb (tr b).2),[])
 |.bare b=>(.tu [.st Yo,.st q0,Kb (tr b).2],[])
 |.Qe k1 k2 k3 b=>(Zj k1 k2 k3 (Kb (tr b).2),[])
 |.Jf b k=>(Qm k (Kb (tr b).2),[])
 |.nil=>(.nn,[])
 |.Ec=>(.nn,[])
 |.qe _ _=>(.nn,[])
 |.Ti _ _ _=>(.nn,[])
 |.Ui _ _=>(.nn,[])
noncomputable abbrev ma(b:Te):SV:=Kb (tr b).2
noncomputable def Ad:Te->Nat
 |.nil=>1
 |.cons _ _=>1
 |.Ec=>2
 |.wc _=>2
 |.Ic _ _ _=>2
 |.qe _ _=>3
 |.Ti _ _ _=>3
 |.Ui _ _=>3
 |.lc _=>0
 |.Se _=>0
 |.Gf _=>0
 |.ue _=>0
 |.ifs _=>0
 |.Pe _ _=>0
 |.Uc _ _=>0
 |.bare _=>0
 |.Qe _ _ _ _=>0
 |.Jf _ _=>0
noncomputable def below:Nat->(Nat->Bool)->Bool
 |0,_=>false
 |h+1,f=>f h
noncomputable def sg:Te->Nat
 |.Ic _ _ c=>sg c+1
 |_=>0
noncomputable def Lf(b:Te)(f:Nat->Bool)(h:Nat):Bool:=(Nat.beq (Ad b) 1&&f h)&&Nat.ble (tr b).2.length 1000
noncomputable def Vb:Te->Nat->Bool
 |.cons a r=>λh=>(Nat.beq (Ad a) 0&&Vb a h)&&(Nat.beq (Ad r) 1&&Vb r h)
 |.Gf b=>λh=>below h (Lf b (Vb b))
 |.ue b=>λh=>below h (Lf b (Vb b))
 |.wc b=>Lf b (Vb b)
 |.Ic _ b c=>λh=>Lf b (Vb b) h&&(Nat.beq (Ad c) 2&&Vb c h)
 |.ifs c=>λh=>below h λh=>(Nat.beq (Ad c) 2&&Vb c h)&&(Nat.ble 1 (sg c)&&Nat.ble (sg c) 2)
 |.Pe _ b=>λh=>below h (Lf b (Vb b))
 |.qe _ b=>Lf b (Vb b)
 |.Uc _ b=>λh=>below h (Lf b (Vb b))
 |.bare b=>λh=>below h (Lf b (Vb b))
 |.Qe _ _ _ b=>λh=>below h (Lf b (Vb b))
 |.Ti _ _ b=>Lf b (Vb b)
 |.Jf b _=>λh=>below h (Lf b (Vb b))
 |.Ui b _=>Lf b (Vb b)
 |.nil=>λuu=>true
 |.lc _=>λuu=>true
 |.Se _=>λuu=>true
 |.Ec=>λuu=>true
theorem cc{x:SV}{l:List SV}(h:Ia x=true)(h2:clos l=true):clos (x::l)=true:=(Bool.and_eq_true _ _).mpr ⟨h,h2⟩
theorem vH{x:SV}(h:Ia x=true):∀m,clos (List.replicate m x)=true
 |0=>rfl
 |m+1=>cc h (vH h m)
theorem jB{l:List SV}(h:clos l=true):Ia (Kb l)=true:=cc (x:=.fl l) h (l:=[]) rfl
theorem cb{b:Te}(h:clos (tr b).2=true)(l:List SV)(hl:clos l=true):clos (ma b::l)=true:=cc (jB h) hl
theorem Fb(t:Te):Ia (tr t).1=true/\clos (tr t).2=true:=by
 induction t with
 |cons a r ha hr=>exact⟨rfl,cc ha.1 hr.2⟩
 |Se l=>induction l using Bool.casesOn<;>exact⟨rfl,rfl⟩
 |Gf b h=>exact⟨cc (x:=.tu [.st Zk,ma b]) (cb h.2 [] rfl) (l:=[]) rfl,rfl⟩
 |ue b h=>exact⟨cc (x:=.tu [.st rj,ma b]) (cb h.2 [] rfl) (l:=[]) rfl,rfl⟩
 |wc b h=>exact⟨jB h.2,rfl⟩
 |Ic k b c h hc=>exact⟨hc.1,cc (x:=Ja k (ma b)) (cb h.2 [] rfl) hc.2⟩
 |ifs c h=>exact⟨cc (x:=.fl (tr c).2) h.2 (cc h.1 (l:=[]) rfl),rfl⟩
 |Pe k b h=>exact⟨cb h.2 [.nn,.bo false] rfl,rfl⟩
 |Uc m b h=>exact⟨cc (x:=xp m) (cc (x:=.fl (List.replicate m (.tu [.st Kr,.it 1]))) (vH rfl m) (l:=[]) rfl) (cb h.2 [] rfl),rfl⟩
 |bare b h=>exact⟨cb h.2 [] rfl,rfl⟩
 |Qe k1 k2 k3 b h=>exact⟨cb h.2 [] rfl,rfl⟩
 |Jf b k h=>exact⟨cb h.2 [Wa k,.bo false] rfl,rfl⟩
 |_=>exact⟨rfl,rfl⟩
theorem Eb(b:Te):Ia (ma b)=true:=(Fb (.wc b)).1
noncomputable def jw(l:Bool):Wy:=cond l .Va .next
inductive Bs(L:List Ga):Te->Mm->Wy->Mm->Nat->Prop where
 |nil {m:Mm}:Bs L .nil m .ok m 0
 |cons {a r:Te} {m m1 m2:Mm} {w:Wy} {n1 n2:Nat}:Bs L a m .ok m1 n1->Bs L r m1 w m2 n2->Bs L (.cons a r) m w m2 (n2+n1)
 |Hc {a r:Te} {m m1:Mm} {w:Wy} {n:Nat}:w.Si=false->Bs L a m w m1 n->Bs L (.cons a r) m w m1 n
 |lc {k:Nat} {m m1:Mm} {c:Bool}:Dd L k m c m1->Bs L (.lc k) m .ok m1 2
 |wb {k:Nat} {m:Mm}:L[k]?=some .wb->Bs L (.lc k) m .wb m 2
 |Se {l:Bool} {m:Mm}:Bs L (.Se l) m (jw l) m 2
 |Gf {b:Te} {m m1:Mm} {w:Wy} {n:Nat}:w.md=true->Bs L b m w m1 n->Bs L (.Gf b) m w {m1 with now:=m.now} (n+1)
 |ue {b:Te} {m m1:Mm} {w:Wy} {n:Nat}:w=.ok\/w=.wb->Bs L b m w m1 n->Bs L (.ue b) m .ok {m1 with now:=m.now} (n+1)
 |Ec {m:Mm}:Bs L .Ec m .ok m 0
 |wc {b:Te} {m m1:Mm} {w:Wy} {n:Nat}:Bs L b m w m1 n->Bs L (.wc b) m w {m1 with now:=m.now} n
 |kB {k:Nat} {b c:Te} {m m1 m2:Mm} {w:Wy} {n:Nat}:Dd L k m true m1->Bs L b m1 w m2 n->Bs L (.Ic k b c) m w {m2 with now:=m1.now} (n+1)
 |lB {k:Nat} {b c:Te} {m m1 m2:Mm} {w:Wy} {n:Nat}:Dd L k m false m1->Bs L c m1 w m2 n->Bs L (.Ic k b c) m w m2 (n+1)
 |ifs {c:Te} {m m1:Mm} {w:Wy} {n:Nat}:w.md=true->Bs L c m w m1 n->Bs L (.ifs c) m w m1 (n+2)
 |bare {b:Te} {m m1:Mm} {w:Wy} {n:Nat}:w.md=true->Bs L b m w m1 n->Bs L (.bare b) m .ok {m1 with now:=m.now} (n+2)
 |Pe {k:Nat} {b:Te} {m m1:Mm} {n:Nat}:Bs L (.qe k b) m .ok m1 n->Bs L (.Pe k b) m .ok m1 (n+1)
 |mB {k:Nat} {b:Te} {m m1:Mm}:Dd L k m false m1->Bs L (.qe k b) m .ok {m1 with now:=m.now} 1
 |nB {k:Nat} {b:Te} {m m1 m2:Mm} {n:Nat}:Dd L k m true m1->Bs L b m1 .Va m2 n->Bs L (.qe k b) m .ok {m2 with now:=m.now} (n+2)
 |oB {k:Nat} {b:Te} {m m1 m2 m3:Mm} {w:Wy} {n n2:Nat}:Dd L k m true m1->w.go=true->Bs L b m1 w m2 n->Bs L (.qe k b) {m2 with now:=m.now} .ok m3 n2->Bs L (.qe k b) m .ok m3 (n2+n+2)
 |e1 {b:Te} {m m1:Mm} {w:Wy} {n:Nat}:w.md=true->Bs L b m w m1 n->Bs L (.Uc 1 b) m .ok {m1 with now:=m.now} (n+2)
 |pB {b:Te} {m m1:Mm} {n:Nat}:Bs L b m .Va m1 n->Bs L (.Uc 2 b) m .ok {m1 with now:=m.now} (n+2)
 |qB {b:Te} {m m1 m2:Mm} {w w2:Wy} {n n2:Nat}:w.go=true->Bs L b m w m1 n->w2.md=true->Bs L b {m1 with now:=m.now} w2 m2 n2->Bs L (.Uc 2 b) m .ok {m2 with now:=m.now} (n2+1+(n+1)+1)
 |Qe {k1 k2 k3:Nat} {b:Te} {m m1 m2:Mm} {c:Bool} {n:Nat}:Dd L k1 m c m1->Bs L (.Ti k2 k3 b) m1 .ok m2 n->Bs L (.Qe k1 k2 k3 b) m .ok {m2 with now:=m.now} (n+2)
 |rB {k2 k3:Nat} {b:Te} {m m1:Mm}:Dd L k2 m false m1->Bs L (.Ti k2 k3 b) m .ok m1 1
 |tB {k2 k3:Nat} {b:Te} {m m1 m2:Mm} {n:Nat}:Dd L k2 m true m1->Bs L b m1 .Va m2 n->Bs L (.Ti k2 k3 b) m .ok {m2 with now:=m1.now} (n+2)
 |uB {k2 k3:Nat} {b:Te} {m m1 m2 m3 m4:Mm} {w:Wy} {c:Bool} {n n2:Nat}:Dd L k2 m true m1->w.go=true->Bs L b m1 w m2 n->Dd L k3 {m2 with now:=m1.now} c m3->Bs L (.Ti k2 k3 b) m3 .ok m4 n2->Bs L (.Ti k2 k3 b) m .ok m4 (n2+1+(n+1)+1)
 |Jf {k:Nat} {b:Te} {m m1:Mm} {w:Wy} {n:Nat}:w.md=true->Bs L (.Ui b k) m w m1 n->Bs L (.Jf b k) m w m1 (n+1)
 |wB {k:Nat} {b:Te} {m m1 m2:Mm} {n:Nat}:Bs L b m .ok m1 n->Dd L k {m1 with now:=m.now} false m2->Bs L (.Ui b k) m .ok m2 (1+n+1)
 |xB {k:Nat} {b:Te} {m m1 m2 m3:Mm} {w:Wy} {n n2:Nat}:Bs L b m .ok m1 n->Dd L k {m1 with now:=m.now} true m2->Bs L (.Ui b k) m2 w m3 n2->Bs L (.Ui b k) m w m3 (n2+1+n+1)
 |yB {k:Nat} {b:Te} {m m1:Mm} {w:Wy} {n:Nat}:w.Si=false->Bs L b m w m1 n->Bs L (.Ui b k) m w {m1 with now:=m.now} (n+1)
noncomputable def Vi:Wy->Ex
 |.ok=>none
 |.next=>some (624,kl tj)
 |.Va=>some (624,kl Oe)
 |.wb=>some (605,ul Ri)
def Cy(W:Wd)(P:Pm)(D:Nat)(f:Addr)(x:SV):Ex->SV->Sg->Sg->Prop
 |none=>λv σ σ'=>Ia v=true/\wa W P .nn D f [.ob 0,x,.it 0] σ v σ'
 |some (C,fs)=>λuu σ σ'=>ae zd fs=true/\Er W P D f [.ob 0,x,.it 0] σ C fs σ'
noncomputable def dq:Nat->Nat
 |0=>0
 |h+1=>dq h+30
inductive Ue(P:Pm)(h n:Nat)(m m':Mm)(K:SV->List (Option Nat)->Sg->Sg->Prop)(b:Ck)(ms:List SV)(N:Nat):Prop where
 |mk (b':Ck) (sv:List (Option Nat)) (v:SV) (B:Bd m' b' N) (hs:sv.length<=n) (hb:backTo m'.now sv=m.now) (k:∀r,Rd h r ms (N+n)->clos ms=true->K v sv ⟨m,b,ms,r⟩ ⟨m',b',ms++ua P sv,r⟩)
def Za(P:Pm)(h n:Nat)(m m':Mm)(K:SV->List (Option Nat)->Sg->Sg->Prop):Prop:=∀b ms N,Bd m b (N+n)->Ue P h n m m' K b ms N
section
noncomputable def yp(v0 v:SV)(L:List SV):SV:=match L with
 |[]=>v0
 |_::_=>v
noncomputable abbrev KM:=SV->List (Option Nat)->Sg->Sg->Prop
def KB(W:Wd)(P:Pm)(h:Nat)(w:Wy)(b:Te):KM:=λv uu σ σ'=>∀v0,Ia v0=true->Ia (yp v0 v (tr b).2)=true/\Wj W P (dq h+30) (Vi w) (tr b).2 v0 σ (yp v0 v (tr b).2) σ'
def KC(W:Wd)(P:Pm)(D:Nat)(f:Addr)(x:SV)(w:Wy):KM:=λv uu σ σ'=>Cy W P D f x (Vi w) v σ σ'
def K0(X:SV->Sg->Sg->Prop):KM:=λv sv σ σ'=>sv=[]/\X v σ σ'
def SQ(W:Wd)(P:Pm)(D:Nat)(b:Te)(g:Bool):KM:=K0 λv σ σ'=>Ia v=true/\wa W P .nn D 932 [.ob 0,.st q0,ma b,.it 0] σ (.tu [.bo g,v]) σ'
section
variable {W:Wd}{P:Pm}{D h n:Nat}{b:Te}{w:Wy}{m m':Mm}{K K':KM}{c:Ck}{ms:List SV}{sv:List (Option Nat)}{r:Rw}{N:Nat}
theorem Bd.Ub{n:Nat}(B:Bd m c (n+1)):Bd m c.Ub n:=⟨by have:=B.st;refine(?_:c.xd+1+n<=_);lia,Nat.le_of_succ_le B.lg,Nat.le_of_succ_le B.rd,B.Zb⟩
theorem Bd.s1{n:Nat}(B:Bd m c (n+1)):c.xd+1<=1000000:=by have:=B.st;lia
theorem Bd.le{n k:Nat}(B:Bd m c (n+k)):Bd m c n:=⟨by have:=B.st;lia,Nat.le_trans (Nat.add_le_add_left (Nat.le_add_right n k) _) B.lg,Nat.le_trans (Nat.add_le_add_left (Nat.le_add_right n k) _) B.rd,B.Zb⟩
theorem Bd.now{n:Nat}{k:Nat}{c':Ck}{m0:Mm}(B:Bd m c n)(B0:Bd m0 c' k):Bd {m with now:=m0.now} c n:=⟨B.st,B.lg,B.rd,B0.Zb⟩
theorem Bd.er{n:Nat}(B:Bd m c n)(x:Str):Bd m (c.er x) n:=by
 obtain⟨s,l,e⟩:=c
 induction e using Option.casesOn<;>exact⟨B.st,B.lg,B.rd,B.Zb⟩
theorem Rd.le{n k:Nat}(R:Rd h r ms (n+k)):Rd h r ms n:=⟨Nat.le_trans (Nat.add_le_add_left (Nat.le_add_right n k) _) R.sv,R.zp⟩
theorem Rd.Ua{n:Nat}(R:Rd (h+1) r ms n):Rd h r ms n:=⟨R.sv,Nat.le_of_succ_le R.zp⟩
theorem Rd.more{n k:Nat}(R:Rd h r ms (n+k))(hs:sv.length<=k):Rd h r (ms++ua P sv) n:=⟨by
 have:=R.sv
 refine rt (List.length_append ..) (rt (show(ua P sv).length=sv.length from List.length_map _) ?_)
 lia,R.zp⟩
theorem Rd.vj{n:Nat}(R:Rd h r ms (N+n))(hs:sv.length<=n):r.pre.length+ms.length+sv.length<=100000:=by have:=R.sv;lia
theorem Rd.z{n:Nat}(R:Rd h r ms n):r.zp.length<=1000:=Nat.le_trans (Nat.le_trans (Nat.le_add_right _ _) R.zp) (by decide)
theorem wj{x:List SV}(hc:clos x=true):∀sv,clos (x++ua P sv)=true:=by
 induction x with
 |nil=>exact λsv=>sv.rec rfl λa l ih=>cc (by induction a using Option.casesOn<;>rfl) ih
 |cons y x ih=>exact λsv=>Na hc λa b=>cc a (ih b sv)
theorem Um:∀{a b:List (Option Nat)} {x y z:Option Nat},backTo x b=y->backTo y a=z->backTo x (a++b)=z
 |[],_,_,_,_,h,h'=>h.trans h'
 |_::_,_,_,_,_,_,h'=>h'
theorem ak(a b:List (Option Nat)):ms++ua P (a++b)=(ms++ua P a)++ua P b:=by
 exact(show ua P (a++b)=ua P a++ua P b from List.map_append).symm▸(List.append_assoc ..).symm▸rfl
theorem Vm(hb:backTo m'.now sv=m.now):m'.bk sv={m' with now:=m.now}:=congrArg (λo=>Mm.mk o m'.Qb m'.rd) hb
theorem ms0{m':Mm}{c':Ck}(hs:sv=[]):(⟨m',c',ms++ua P sv,r⟩:Sg)=⟨m',c',ms,r⟩:=by exact(hs ..).symm▸(show ua P []=[] from rfl).symm▸(List.append_nil ..).symm▸rfl
theorem Yw:∀{w:Wy} {C:Addr} {fs:List (Str×SV)},Vi w=some (C,fs)->ae zd fs=true
 |.next,_,_,h=>by cases h;rfl
 |.Va,_,_,h=>by cases h;rfl
 |.wb,_,_,h=>by cases h;rfl
 |.ok,_,_,h=>nomatch h
theorem Cy.up{x:SV}{e:Ex}{v:SV}{σ σ':Sg}{f:Addr}(c:Cy W P D f x e v σ σ')(k:Nat):Cy W P (D+k) f x e v σ σ':=match e,c with
 |none,c=>⟨c.1,ba.up c.2 k⟩
 |some _,c=>⟨c.1,ba.up c.2 k⟩
theorem Za.map(H:Za P h n m m' K)(f:∀v sv σ σ',K v sv σ σ'->K' v sv σ σ'):Za P h n m m' K':=λc ms N B=>match H c ms N B with
 |.mk c' sv v B hs hb k=>.mk c' sv v B hs hb λr R q=>f _ _ _ _ (k r R q)
variable (e:Wo W P)
include e
theorem Zw(hl:(tr b).2.length<=1000){v:SV}{σ σ':Sg}(H:KB W P h w b v sv σ σ'):Cy W P (dq h+32) 904 (ma b) (Vi w) (yp .nn v (tr b).2) σ σ':=by
 have q:=(H .nn rfl).2
 rcases x:Vi w with _|y
 ·replace q:=x▸q
  exact jQ e hl q
 replace q:=x▸q
 exact⟨Yw x,kQ e hl (Yw x) q⟩
theorem Ap(hl:(tr b).2.length<=1000)(H:Za P h n m m' (KB W P h w b)):Za P h n m {m' with now:=m.now} (K0 (Cy W P (dq h+36) 911 (ma b) (Vi w))):=λc ms N B=>match H c ms N B with
 |.mk c' sv v B' hs hb k=>.mk c' [] (yp .nn v (tr b).2) (B'.now B) (Nat.zero_le _) rfl λr R q=>⟨rfl,by
  have y:=Zw e hl (k r R q)
  refine rt (ms0 rfl ..) (rl (Vm hb ..) ?_)
  rcases x:Vi w with _|z
  ·replace y:=x▸y
   exact⟨y.1,ZP e y.1 (R.vj hs) y.2⟩
  replace y:=x▸y
  exact⟨y.1,aQ e y.1 (R.vj hs) y.2⟩⟩
theorem Bp{g:Bool}(hg:w.go=g)(hl:(tr b).2.length<=1000)(hw:w.md=true)(H:Za P h n m m' (KB W P h w b)):Za P h (n+1) m {m' with now:=m.now} (SQ W P (dq h+36) b g):=λc ms N B=>match H c.Ub ms N (Bd.Ub (n:=N+n) B) with
 |.mk c' sv v B' hs hb k=>.mk c' [] (cond w.Si (yp .nn v (tr b).2) .nn) (B'.now B) (Nat.zero_le _) rfl λr R q=>⟨rfl,by
  have y:=Zw e hl (k r (Rd.le (k:=1) R) q)
  have z:=Rd.vj (sv:=sv) R (Nat.le_succ_of_le hs)
  have s1:=Bd.s1 (n:=N+n) B
  refine rt (ms0 rfl ..) (rl (Vm hb ..) ?_)
  subst hg
  induction w using Wy.casesOn with
  |ok=>exact⟨y.1,bQ e y.1 s1 z y.2⟩
  |next=>exact⟨rfl,gH e (.inl rfl) s1 z y.2⟩
  |Va=>exact⟨rfl,gH e (.inr rfl) s1 z y.2⟩
  |wb=>exact nomatch hw⟩
theorem Wm{u:Str}{g:Addr}{l:List SV}(hk:Xh u g)(hl:clos l=true)(hn:l.length<=1000)(hw:w.md=true){j:Nat}(hd:D+4+j=dq h+60)(H:Za P h n m m' (KC W P D g (.tu (.st u::l)) w)):Za P (h+1) (n+1) m m' (KC W P (dq h+60) 897 (.tu (.st u::l)) w):=λc ms N B=>match H c.Ub ms N (Bd.Ub (n:=N+n) B) with
 |.mk c' sv v B' hs hb k=>.mk c' sv v B' (Nat.le_succ_of_le hs) hb λr R q=>by
  have y:Cy _ _ _ _ _ _ _ _ _:=k r (Rd.Ua (Rd.le (k:=1) R)) q
  have s1:=Bd.s1 (n:=N+n) B
  refine(?_:Cy _ _ (dq h+60) _ _ _ _ _ _)
  refine rl hd ?_
  refine Cy.up ?_ j
  induction w using Wy.casesOn with
  |ok=>exact⟨y.1,fH e hk hl hn y.1 R.z s1 y.2⟩
  |next=>exact⟨y.1,TA e hk hl hn R.z s1 y.2⟩
  |Va=>exact⟨y.1,TA e hk hl hn R.z s1 y.2⟩
  |wb=>exact nomatch hw
end
end
section
theorem Ld:2<=1000:=by decide
noncomputable abbrev KS(W:Wd)(P:Pm)(h:Nat)(w:Wy)(a:Te):KM:=KC W P (dq h+30) 897 (tr a).1 w
section
variable {W:Wd}{P:Pm}{D h n k:Nat}{b:Te}{w:Wy}{m m':Mm}{L:List Ga}{c:Bool}(e:Wo W P)
include e
theorem TQ(hL:P.L=L.map Ga.sv)(hl:L.length<=100000)(d:Dd L k m c m'):Za P h 2 m m' (KS W P h .ok (.lc k)):=λb ms N B=>by
 obtain⟨sv,hs,hb,B',z⟩:=uh (D:=dq h+15) (w:=.it 0) (h:=h) e hL hl d (Bd.Ub (n:=N+1) B)
 have y:Ia (vB c)=true:=by induction c using Bool.casesOn<;>rfl
 exact .mk b.Ub sv _ B' (Nat.le_succ_of_le hs) hb λr R q=>⟨y,fH e (l:=[.it 1,Wa k]) .expr rfl Ld y R.z (Bd.s1 (n:=N+1) B) (Mw e y (z ms r (Rd.le (k:=1) R)))⟩
theorem UQ(hL:P.L=L.map Ga.sv)(hl:L.length<=100000)(d:L[k]?=some .wb):Za P h 2 m m (KS W P h .wb (.lc k)):=λb ms N B=>
 .mk b.Ub [] .nn (Bd.Ub (n:=N) (Bd.le (n:=N+1) (k:=1) B)) (Nat.zero_le _) rfl λr R q=>by
  refine rt (ms0 rfl ..) ?_
  exact⟨rfl,gQ (D:=dq h+23) e rfl R.z (Bd.s1 (n:=N+1) B) (SA e rfl (fQ (D:=dq h+12) e (aH hL hl d)))⟩
theorem VQ{l:Bool}:Za P h 2 m m (KS W P h (jw l) (.Se l)):=λb ms N B=>
 .mk b.Ub [] .nn (Bd.Ub (n:=N) (Bd.le (n:=N+1) (k:=1) B)) (Nat.zero_le _) rfl λr R q=>by
  have y:∀{u:Str},u=tj\/u=Oe->Er W P (dq h+30) 897 [.ob 0,Ye (.tu [.st u,.st q0]),.it 0] ⟨m,b,ms,r⟩ 624 (kl u) ⟨m,b.Ub,ms,r⟩:=λhu=>TA e (l:=[.it 1,_]) .expr rfl Ld R.z (Bd.s1 (n:=N+1) B) (SA e rfl (eQ (D:=dq h+16) e hu))
  refine rt (ms0 rfl ..) ?_
  rcases l with _|_
  ·exact⟨rfl,y (.inl rfl)⟩
  exact⟨rfl,y (.inr rfl)⟩
theorem WQ(hl:(tr b).2.length<=1000)(hw:w.md=true)(H:Za P h n m m' (KB W P h w b)):Za P (h+1) (n+1) m {m' with now:=m.now} (KS W P (h+1) w (.Gf b)):=
 Wm e (l:=[.it 1,.tu [.st Zk,ma b]]) .expr (Fb (.Gf b)).1 Ld hw (j:=15) rfl ((Ap e hl H).map λv sv σ σ' z=>by
  have z:=z.2
  unfold KC
  rcases x:Vi w with _|y
  ·replace z:=x▸z
   exact⟨z.1,Mw e z.1 (cQ e z.1 z.2)⟩
  replace z:=x▸z
  exact⟨z.1,SA e z.1 (dQ e z.1 z.2)⟩)
theorem XQ(hl:(tr b).2.length<=1000)(hw:w=.ok\/w=.wb)(H:Za P h n m m' (KB W P h w b)):Za P (h+1) (n+1) m {m' with now:=m.now} (KS W P (h+1) .ok (.ue b)):=
 Wm (j:=2) e (l:=[.it 1,.tu [.st rj,ma b]]) .expr (Fb (.ue b)).1 Ld rfl rfl λc ms N B=>match H (c.er q0) ms N (B.er q0) with
  |.mk c' sv v B' hs hb k=>.mk (c'.er (cond w.Si q0 Ri)) [] .nn ((B'.now B).er _) (Nat.zero_le _) rfl λr R q=>by
   have y:=Zw e hl (k r R q)
   refine rt (ms0 rfl ..) (rl (Vm hb ..) ?_)
   rcases hw with rfl|rfl
   ·exact⟨rfl,Mw e rfl (EQ e (Eb b) y.1 (R.vj hs) y.2)⟩
   ·exact⟨rfl,Mw e rfl (FQ e (Eb b) (R.vj hs) y.2)⟩
theorem YQ(hl:(tr b).2.length<=1000)(hw:w.md=true)(H:Za P h n m m' (KB W P h w b)):Za P (h+1) (n+2) m {m' with now:=m.now} (KS W P (h+1) .ok (.bare b)):=
 Wm (j:=18) e (l:=[.st q0,ma b]) .bare (Fb (.bare b)).1 Ld rfl rfl ((Bp e rfl hl hw H).map λv sv σ σ' z=>⟨z.2.1,zQ e z.2.1 z.2.2⟩)
end
end
section
def KW(W:Wd)(P:Pm)(h k:Nat)(b:Te):KM:=K0 λuu σ σ'=>Wl W P (dq h+36) k (ma b) σ.ms σ.r σ.m σ.b σ'.m σ'.b
def KF(W:Wd)(P:Pm)(h k2 k3:Nat)(b:Te):KM:=λuu uu σ σ'=>Cl W P (dq h+36) k2 k3 (ma b) σ.r σ.m σ.b σ.ms σ'.m σ'.b σ'.ms
def KD(W:Wd)(P:Pm)(h k:Nat)(b:Te)(w:Wy):KM:=λuu uu σ σ'=>Dl W P (dq h+36) k (ma b) σ.r (Vi w) σ.m σ.b σ.ms σ'.m σ'.b σ'.ms
theorem zB:∀{w:Wy},w.go=true->w.md=true
 |.ok,_=>rfl
 |.next,_=>rfl
 |.Va,h=>nomatch h
 |.wb,h=>nomatch h
theorem Cp{a b:List (Option Nat)}{n:Nat}(ha:a.length<=1)(hb:b.length<=n):(a++b).length<=n+1:=by refine rt (List.length_append ..) ?_;lia
section
variable {W:Wd}{P:Pm}{D h n n2 k k1 k2 k3:Nat}{b:Te}{w:Wy}{m m1 m2 m3 m4:Mm}{L:List Ga}{c:Bool}(e:Wo W P)(hL:P.L=L.map Ga.sv)(hl:L.length<=100000)(hb:(tr b).2.length<=1000)
include e hL hl
theorem ZQ(d:Dd L k m false m1):Za P h 1 m {m1 with now:=m.now} (KW W P h k b):=λc ms N B=>by
 obtain⟨sv,hs,hk,B',z⟩:=uh (D:=dq h+27) (w:=.it 1) (h:=h) e hL hl d B
 exact .mk c [] .nn (B'.now B) (Nat.zero_le _) rfl λr R q=>⟨rfl,Vm hk▸.Hc (R.vj hs) (z ms r R)⟩
include hb
theorem aR(d:Dd L k m true m1)(H:Za P h n m1 m2 (KB W P h .Va b)):Za P h (n+2) m {m2 with now:=m.now} (KW W P h k b):=λc ms N B=>by
 obtain⟨sv,hs,hk,B',z⟩:=uh (D:=dq h+27) (w:=.it 1) (h:=h) e hL hl d (N:=N+(n+1)) B
 refine Ue.casesOn (Bp (g:=false) e rfl hb rfl H c (ms++ua P sv) N B') λc' Pb v B2 uu uu k2=>?_
 exact .mk c' [] .nn (B2.now B) (Nat.zero_le _) rfl λr R q=>by
  have y:=k2 r (Rd.more (n:=N+(n+1)) R hs) (wj q sv)
  have y2:=y.2.2
  replace y2:=(ms0 (ms:=ms++ua P sv) y.1 ..)▸y2
  exact⟨rfl,.Rb (R.vj (Nat.le_trans hs (Nat.le_add_left 1 _))) (z ms r R) y2 (λx=>nomatch x) λuu=>⟨(Vm (m':={m2 with now:=m1.now}) hk).symm,rfl⟩⟩
theorem bR(d:Dd L k m true m1)(hw:w.go=true)(H:Za P h n m1 m2 (KB W P h w b))(H3:Za P h n2 {m2 with now:=m.now} m3 (KW W P h k b)):Za P h (n2+n+2) m m3 (KW W P h k b):=λc ms N B=>by
 have a:=Nat.add_assoc N n2 (n+2)
 have B:Bd m c (N+n2+(n+2)):=a▸B
 obtain⟨sv,hs,hk,B',z⟩:=uh (D:=dq h+27) (w:=.it 1) (h:=h) e hL hl d (N:=N+n2+(n+1)) B
 refine Ue.casesOn (Bp e hw hb (zB hw) H c (ms++ua P sv) (N+n2) B') λc' Pb v B2 uu uu k2=>?_
 refine Ue.casesOn (H3 c' ms N (B2.now B)) λc3 bt v3 B3 et jt k3=>?_
 exact .mk c3 bt .nn B3 (Nat.le_trans et (Nat.le_add_right n2 (n+2))) jt λr R q=>by
  have R:Rd h r ms (N+n2+(n+2)):=a▸R
  have y:=k2 r (Rd.more (n:=N+n2+(n+1)) R hs) (wj q sv)
  have x:=k3 r (Rd.le R) q
  have y2:=y.2.2
  replace y2:=(ms0 (ms:=ms++ua P sv) y.1 ..)▸y2
  have x2:=x.2
  replace x2:=(show({m2 with now:=m.now}:Mm)=Mm.bk {m2 with now:=m1.now} sv from(Vm (m':={m2 with now:=m1.now}) hk).symm)▸x2
  exact⟨x.1,.Rb (R.vj (Nat.le_trans hs (Nat.le_add_left 1 _))) (z ms r R) y2 (λuu=>x2) λx=>nomatch x⟩
omit hL hl hb in
theorem cR(H:Za P h n m m1 (KW W P h k b)):Za P (h+1) (n+1) m m1 (KS W P (h+1) .ok (.Pe k b)):=
 Wm (j:=12) e (l:=[.st q0,Wa k,ma b,.nn,.bo false]) .Pe (Fb (.Pe k b)).1 (by exact(by decide:5<=1000)) rfl rfl λc ms N B=>match H c ms N B with
  |.mk c' sv v B' hs hk k=>.mk c' sv .nn B' hs hk λr R q=>⟨rfl,by
   have y:=k r R q
   refine rt (ms0 y.1 ..) ?_
   exact yQ e (Eb b) R.z y.2⟩
omit hb in
theorem dR(d:Dd L k2 m false m1):Za P h 1 m m1 (KF W P h k2 k3 b):=λc ms N B=>by
 obtain⟨sv,hs,hk,B',z⟩:=uh (D:=dq h+27) (w:=.it 1) (h:=h) e hL hl d B
 exact .mk c sv .nn B' hs hk λr R q=>.Hc (z ms r R)
theorem eR(d:Dd L k2 m true m1)(H:Za P h n m1 m2 (KB W P h .Va b)):Za P h (n+2) m {m2 with now:=m1.now} (KF W P h k2 k3 b):=λc ms N B=>by
 obtain⟨sv,hs,hk,B',z⟩:=uh (D:=dq h+27) (w:=.it 1) (h:=h) e hL hl d (N:=N+(n+1)) B
 refine Ue.casesOn (Bp (g:=false) e rfl hb rfl H c (ms++ua P sv) N B') λc' Pb v B2 uu uu k2=>?_
 exact .mk c' sv .nn B2 (Nat.le_trans hs (Nat.le_add_left 1 _)) hk λr R q=>by
  have y:=k2 r (Rd.more (n:=N+(n+1)) R hs) (wj q sv)
  have y2:=y.2.2
  replace y2:=(ms0 (ms:=ms++ua P sv) y.1 ..)▸y2
  exact .Va (z ms r R) y2
theorem gR(d:Dd L k2 m true m1)(hw:w.go=true)(H:Za P h n m1 m2 (KB W P h w b))(d3:Dd L k3 {m2 with now:=m1.now} c m3)(H3:Za P h n2 m3 m4 (KF W P h k2 k3 b)):Za P h (n2+1+(n+1)+1) m m4 (KF W P h k2 k3 b):=λc ms N B=>by
 have a:=Nat.add_assoc N (n2+1) (n+2)
 have B:Bd m c (N+(n2+1)+(n+2)):=a▸B
 obtain⟨sv,hs,hk,B',z⟩:=uh (D:=dq h+27) (w:=.it 1) (h:=h) e hL hl d (N:=N+n2+1+(n+1)) B
 refine Ue.casesOn (Bp e hw hb (zB hw) H c (ms++ua P sv) (N+n2+1) B') λc' Pb v B2 uu uu k2=>?_
 obtain⟨sw,yf,kt,B3,z'⟩:=uh (D:=dq h+27) (w:=.it 0) (h:=h) e hL hl d3 (N:=N+n2) B2
 refine Ue.casesOn (H3 c' ((ms++ua P sv)++ua P sw) N B3) λc3 bt v3 B3 et jt k3=>?_
 exact .mk c3 (sv++(sw++bt)) .nn B3 (Nat.le_trans (Cp hs (Cp yf et)) (by lia)) (Um (Um jt kt) hk) λr R q=>by
  have R:Rd h r ms (N+(n2+1)+(n+2)):=a▸R
  have q2:=wj (P:=P) q sv
  have R1:=Rd.more (P:=P) (n:=N+n2+1+(n+1)) R hs
  have R2:=Rd.le (n:=N+n2+1) R1
  have y:=k2 r R1 q2
  have y2:=y.2.2
  replace y2:=(ms0 (ms:=ms++ua P sv) y.1 ..)▸y2
  have x:=k3 r (Rd.more (n:=N+n2) R2 yf) (wj q2 sw)
  refine rt (ak ..) (rt (ak ..) ?_)
  exact .go (z ms r R) y2 (z' _ r R2) x
omit hb in
theorem iR(d:Dd L k1 m c m1)(H:Za P h n m1 m2 (KF W P h k2 k3 b)):Za P (h+1) (n+2) m {m2 with now:=m.now} (KS W P (h+1) .ok (.Qe k1 k2 k3 b)):=
 Wm (n:=n+1) (j:=14) e (l:=[.st q0,Wa k1,Wa k2,Wa k3,ma b]) .Qe (Fb (.Qe k1 k2 k3 b)).1 (by exact(by decide:5<=1000)) rfl rfl λc ms N B=>by
  obtain⟨sv,hs,hk,B',z⟩:=uh (D:=dq h+27) (w:=.it 0) (h:=h) e hL hl d (N:=N+n) B
  refine Ue.casesOn (H c (ms++ua P sv) N B') λc' Pb v B2 gq Ej k2=>?_
  exact .mk c' [] .nn (B2.now B) (Nat.zero_le _) rfl λr R q=>⟨rfl,by
   have y:Cl _ _ _ _ _ _ _ _ _ _ _ _ _:=k2 r (Rd.more (n:=N+n) R hs) (wj q sv)
   refine rt (ms0 rfl ..) (rl (Vm (Um Ej hk) ..) ?_)
   refine DQ e R.z (R.vj (Cp hs gq)) (z ms r R) (ak sv Pb▸y)⟩
end
end
section
inductive Pt(W:Wd)(P:Pm)(D:Nat)(x:Ex)(r:Rw)(ms:List SV):Te->Mm->Ck->List (Option Nat)->SV->Mm->Ck->List (Option Nat)->Prop where
 |Ec {m:Mm} {c:Ck} {s:List (Option Nat)}:x=none->Pt W P D x r ms .Ec m c s .nn m c s
 |wc {b:Te} {m m':Mm} {c c':Ck} {s:List (Option Nat)} {v:SV}:Cy W P D 911 (ma b) x v ⟨m,c,ms++ua P s,r⟩ ⟨m',c',ms++ua P s,r⟩->Pt W P D x r ms (.wc b) m c s v m' c' s
 |t {k:Nat} {b e:Te} {m m1 m':Mm} {c c':Ck} {s s1:List (Option Nat)} {v:SV}:wa W P .nn D 765 [.ob 0,Wa k,.it 1] ⟨m,c,ms++ua P s,r⟩ (vB true) ⟨m1,c,ms++ua P s1,r⟩->Cy W P D 911 (ma b) x v ⟨m1,c,ms++ua P s1,r⟩ ⟨m',c',ms++ua P s1,r⟩->Pt W P D x r ms (.Ic k b e) m c s v m' c' s1
 |f {k:Nat} {b e:Te} {m m1 m':Mm} {c c':Ck} {s s1 s2:List (Option Nat)} {v:SV}:wa W P .nn D 765 [.ob 0,Wa k,.it 1] ⟨m,c,ms++ua P s,r⟩ (vB false) ⟨m1,c,ms++ua P s1,r⟩->Pt W P D x r ms e m1 c s1 v m' c' s2->Pt W P D x r ms (.Ic k b e) m c s v m' c' s2
def KP(W:Wd)(P:Pm)(h:Nat)(w:Wy)(a:Te):KM:=λv sv σ σ'=>∀ms s,σ.ms=ms++ua P s->Pt W P (dq h+36) (Vi w) σ.r ms a σ.m σ.b s v σ'.m σ'.b (s++sv)
theorem wH{a:Te}(hs:Nat.beq (Ad a) 2=true)(hc:Nat.ble (sg a) 0=true):(tr a).2=[]:=by
 induction a using Te.casesOn<;>first|rfl|exact ft hs|exact ft hc
theorem jR{a:Te}{h:Nat}(hs:Nat.beq (Ad a) 2=true)(ho:Vb a h=true)(hc:Nat.ble (sg a) 1=true):(tr a).2=[]\/∃k b,(tr a).2=[Ja k (ma b)]:=by
 induction a using Te.casesOn<;>first|exact .inl rfl|exact ft hs|exact .inr ⟨_,_,congrArg (_::·) (Na ho λuu q=>Na q λq uu=>wH q hc)⟩
section
variable {W:Wd}{P:Pm}{D h n n2 k:Nat}{a b b2:Te}{w w2:Wy}{m m1 m2 m3 m':Mm}{L:List Ga}{c c':Ck}{ms:List SV}{r:Rw}{v:SV}{x:Ex}{sv:List (Option Nat)}(e:Wo W P)(hL:P.L=L.map Ga.sv)(hl:L.length<=100000)(hb:(tr b).2.length<=1000)
include e
theorem kR{l:List (Option Nat)}(h0:l=[])(h5:∀i,m'.now=some i->i<5)(hm:r.pre.length+ms.length+sv.length<=100000)(p:Pt W P D x r ms a m c l v m' c' sv)(ho:Vb a h=true)(h1:Nat.ble 1 (sg a)=true)(h2:Nat.ble (sg a) 2=true):Cy W P (D+6) 925 (Tc (tr a).2 (tr a).1) x v ⟨m,c,ms,r⟩ ⟨m',c',ms++ua P (Fe m'.now (backTo m'.now sv)),r⟩:=by
 induction p using Pt.casesOn with
 |Ec _=>exact ft h1
 |wc _=>exact ft h1
 |@t k b a _ m1 _ _ _ _ _ _ c1 c3=>
  replace c1:=(ms0 h0 ..)▸c1
  refine(?_:Cy _ _ _ _ (Tc (Ja k (ma b)::(tr a).2) (tr a).1) _ _ _ _)
  rcases Na ho λuu q=>Na q λq q'=>jR q q' h2 with q|⟨k2,x2,q⟩<;>refine rt q ?_
  ·rcases x with _|y
   ·exact⟨c3.1,lQ e h5 hm (Eb _) c3.1 c1 c3.2⟩
   exact⟨c3.1,mQ e h5 hm (Eb _) c3.1 c1 c3.2⟩
  ·rcases x with _|y
   ·exact⟨c3.1,qQ e h5 hm (Eb _) c3.1 c1 c3.2⟩
   exact⟨c3.1,rQ e h5 hm (Eb _) c3.1 c1 c3.2⟩
 |@f k b a _ m1 _ _ _ _ _ _ _ c1 p=>
  replace c1:=(ms0 h0 ..)▸c1
  induction p using Pt.casesOn with
  |Ec hx=>
   subst hx
   exact⟨rfl,nQ e h5 hm c1⟩
  |wc c3=>
   rcases x with _|y
   ·exact⟨c3.1,oQ e h5 hm (Eb _) c3.1 c1 c3.2⟩
   exact⟨c3.1,pQ e h5 hm (Eb _) c3.1 c1 c3.2⟩
  |@t k2 b2 a _ m2 _ _ _ _ _ _ c2 c3=>
   refine(?_:Cy _ _ _ _ (Tc (Ja k (ma b)::Ja k2 (ma b2)::(tr a).2) (tr a).1) _ _ _ _)
   refine rt (Na ho λuu q=>Na q λuu q=>Na q λuu q=>Na q λq uu=>wH q h2 ..) ?_
   rcases x with _|y
   ·exact⟨c3.1,sQ e h5 hm (Eb _) c3.1 c1 c2 c3.2⟩
   exact⟨c3.1,tQ e h5 hm (Eb _) c3.1 c1 c2 c3.2⟩
  |f c2 p=>
   induction p using Pt.casesOn with
   |Ec hx=>
    subst hx
    exact⟨rfl,uQ e h5 hm c1 c2⟩
   |wc c3=>
    rcases x with _|y
    ·exact⟨c3.1,vQ e h5 hm (Eb _) c3.1 c1 c2 c3.2⟩
    exact⟨c3.1,wQ e h5 hm (Eb _) c3.1 c1 c2 c3.2⟩
   |t _ _=>exact ft h2
   |f _ _=>exact ft h2
omit e in
theorem lR{now o:Option Nat}:backTo now (Fe now o)=o:=by
 unfold Fe
 by_cases q:o=now
 ·refine rt (if_pos q ..) (rt (q ..) ?_);rfl
 ·refine rt (if_neg q ..) ?_;rfl
omit e in
theorem mR{now o:Option Nat}:(Fe now o).length<=1:=by
 unfold Fe
 by_cases q:o=now
 ·refine rt (if_pos q ..) ?_;exact Nat.zero_le _
 ·refine rt (if_neg q ..) ?_;exact Nat.le_refl _
theorem nR(hw:w.md=true)(ho:Vb a h=true)(h1:Nat.ble 1 (sg a)=true)(h2:Nat.ble (sg a) 2=true)(H:Za P h n m m' (KP W P h w a)):Za P (h+1) (n+2) m m' (KS W P (h+1) w (.ifs a)):=
 Wm (n:=n+1) (j:=14) e (l:=[.fl (tr a).2,(tr a).1]) .ifs (Fb (.ifs a)).1 Ld hw rfl λc ms N B=>match H c ms N (Bd.le (n:=N+n) (k:=1) B) with
  |.mk c' sv v B' hs hb k=>.mk c' (Fe m'.now (backTo m'.now sv)) v B' (Nat.le_trans mR (Nat.le_add_left 1 n)) (lR.trans hb) λr R q=>
   kR e rfl B'.Zb (R.vj (Nat.le_succ_of_le hs)) (k r (Rd.le (k:=1) R) q ms [] (List.append_nil _).symm) ho h1 h2
omit e in
theorem oR:Za P h 0 m m (KP W P h .ok .Ec):=λc ms N B=>.mk c [] .nn B (Nat.zero_le _) rfl λr R q Yd s hs=>by
 rw[List.append_nil]
 exact .Ec rfl
theorem BX{ms Yd:List SV}{s:List (Option Nat)}(hs:ms=Yd++ua P s)(hv:sv=[]):(⟨m,c,ms++ua P sv,r⟩:Sg)=⟨m,c,Yd++ua P s,r⟩:=by exact(ms0 hv ..).symm▸(hs ..).symm▸rfl
include hb
theorem pR(H:Za P h n m m' (KB W P h w b)):Za P h n m {m' with now:=m.now} (KP W P h w (.wc b)):=λc ms N B=>match Ap e hb H c ms N B with
 |.mk c' sv v B' hs hb k=>.mk c' sv v B' hs hb λr R q Yd s hs=>by
  have y:=k r R q
  have hs:ms=Yd++ua P s:=hs
  have y2:=y.2
  replace y2:=(hs ..)▸(ms0 y.1 ..)▸y2
  rw[y.1,List.append_nil]
  exact .wc y2
include hL hl
theorem qR(d:Dd L k m true m1)(H:Za P h n m1 m2 (KB W P h w b)):Za P h (n+1) m {m2 with now:=m1.now} (KP W P h w (.Ic k b a)):=λc ms N B=>by
 obtain⟨sv,hs,hk,B',z⟩:=uh (D:=dq h+27) (w:=.it 1) (h:=h) e hL hl d (N:=N+n) B
 refine Ue.casesOn (Ap e hb H c (ms++ua P sv) N B') λc' Pb v B2 gq Ej k2=>?_
 exact .mk c' (sv++Pb) v B2 (Cp hs gq) (Um Ej hk) λr R q Yd s hx=>by
  have y:=k2 r (Rd.more (n:=N+n) R hs) (wj q sv)
  have y2:=y.2
  have hx:ms=Yd++ua P s:=hx
  have z:=z ms r R
  replace y2:=(ak ..).symm▸(hx ..)▸(ms0 (ms:=ms++ua P sv) y.1 ..)▸y2
  replace z:=(ak ..).symm▸(hx ..)▸z
  rw[y.1,List.append_nil]
  exact .t z y2
omit hb in
theorem rR(d:Dd L k m false m1)(H:Za P h n m1 m2 (KP W P h w a)):Za P h (n+1) m m2 (KP W P h w (.Ic k b a)):=λc ms N B=>by
 obtain⟨sv,hs,hk,B',z⟩:=uh (D:=dq h+27) (w:=.it 1) (h:=h) e hL hl d (N:=N+n) B
 refine Ue.casesOn (H c (ms++ua P sv) N B') λc' Pb v B2 gq Ej k2=>?_
 exact .mk c' (sv++Pb) v B2 (Cp hs gq) (Um Ej hk) λr R q Yd s hx=>by
  have hx:ms=Yd++ua P s:=hx
  have y:=k2 r (Rd.more (n:=N+n) R hs) (wj q sv) Yd (s++sv) (by exact(ak ..).symm▸(hx ..)▸rfl)
  have z:=z ms r R
  replace z:=(ak ..).symm▸(hx ..)▸z
  rw[<-List.append_assoc]
  exact .f z y
end
end
section
section
variable {W:Wd}{P:Pm}{D h n n2 k:Nat}{a b b2:Te}{w w2:Wy}{m m1 m2 m3 m':Mm}{L:List Ga}{c c':Ck}{ms:List SV}{r:Rw}{v:SV}{x:Ex}{sv:List (Option Nat)}(e:Wo W P)(hL:P.L=L.map Ga.sv)(hl:L.length<=100000)(hb:(tr b).2.length<=1000)
include e hL hl hb
theorem sR(H:Za P h n m m1 (KB W P h .ok b))(d:Dd L k {m1 with now:=m.now} false m2):Za P h (1+n+1) m m2 (KD W P h k b .ok):=λc ms N B=>by
 have a:=Nat.add_assoc N 1 (n+1)
 have B:Bd m c (N+1+(n+1)):=a▸(Nat.add_assoc 1 n 1▸B)
 refine Ue.casesOn (Ap e hb H c.Ub ms (N+1) (Bd.Ub (n:=N+1+n) B)) λc' sv v B' hs hk k=>?_
 obtain⟨sw,yf,kt,B3,z⟩:=uh (D:=dq h+27) (w:=.it 1) (h:=h) e hL hl d (N:=N) B'
 exact .mk c' sw .nn B3 (Nat.le_trans yf (Nat.le_add_left 1 _)) kt λr R q=>by
  have R:Rd h r ms (N+1+(n+1)):=a▸(Nat.add_assoc 1 n 1▸R)
  have y:=k r (Rd.le (k:=1) R) q
  have y2:=y.2.2
  replace y2:=(ms0 y.1 ..)▸y2
  exact .Rb (Bd.s1 (n:=N+1+n) B) y2 (z ms r (Rd.le R)) (λx=>nomatch x) λuu=>⟨rfl,rfl,rfl,rfl⟩
theorem tR(H:Za P h n m m1 (KB W P h .ok b))(d:Dd L k {m1 with now:=m.now} true m2)(H3:Za P h n2 m2 m3 (KD W P h k b w)):Za P h (n2+1+n+1) m m3 (KD W P h k b w):=λc ms N B=>by
 have a:=Nat.add_assoc N (n2+1) (n+1)
 have B:Bd m c (N+n2+1+(n+1)):=a▸B
 refine Ue.casesOn (Ap e hb H c.Ub ms (N+n2+1) (Bd.Ub (n:=N+n2+1+n) B)) λc' sv v B' hs hk k=>?_
 obtain⟨sw,yf,kt,B3,z⟩:=uh (D:=dq h+27) (w:=.it 1) (h:=h) e hL hl d (N:=N+n2) B'
 refine Ue.casesOn (H3 c' (ms++ua P sw) N B3) λc3 bt v3 B3 et jt k3=>?_
 exact .mk c3 (sw++bt) .nn B3 (Nat.le_trans (Cp yf et) (Nat.le_add_right _ (n+1))) (Um jt kt) λr R q=>by
  have R:Rd h r ms (N+n2+1+(n+1)):=a▸R
  have y:=k r (Rd.le (k:=1) R) q
  have y2:=y.2.2
  replace y2:=(ms0 y.1 ..)▸y2
  have R1:=Rd.le (n:=N+n2+1) R
  have x:=k3 r (Rd.more (n:=N+n2) R1 yf) (wj q sw)
  refine rt (ak ..) ?_
  exact .Rb (Bd.s1 (n:=N+n2+1+n) B) y2 (z ms r R1) (λuu=>x) λx=>nomatch x
omit hL hl in
theorem uR(hw:w.Si=false)(H:Za P h n m m1 (KB W P h w b)):Za P h (n+1) m {m1 with now:=m.now} (KD W P h k b w):=λc ms N B=>by
 refine Ue.casesOn (Ap e hb H c.Ub ms N (Bd.Ub (n:=N+n) B)) λc' sv v B' hs hk k=>?_
 exact .mk c' sv .nn B' (Nat.le_succ_of_le hs) hk λr R q=>by
  have y:=k r (Rd.le (k:=1) R) q
  have y2:=y.2
  have s1:=Bd.s1 (n:=N+n) B
  rw[ms0 y.1] at y2 ⊢
  induction w using Wy.casesOn with
  |ok=>exact nomatch hw
  |next=>exact .Nw s1 y2.2
  |Va=>exact .Nw s1 y2.2
  |wb=>exact .Nw s1 y2.2
omit hL hl hb in
theorem vR(hw:w.md=true)(H:Za P h n m m1 (KD W P h k b w)):Za P (h+1) (n+1) m m1 (KS W P (h+1) w (.Jf b k)):=
 Wm (j:=14) e (l:=[ma b,Wa k,.bo false]) .WP (Fb (.Jf b k)).1 (by exact(by decide:3<=1000)) hw rfl λc ms N B=>match H c ms N B with
  |.mk c' sv v B' hs hk k=>.mk c' sv .nn B' hs hk λr R q=>by
   have y:Dl _ _ _ _ _ _ _ _ _ _ _ _ _:=k r R q
   unfold KC
   rcases x:Vi w with _|z
   ·replace y:=x▸y
    exact⟨rfl,AQ e R.z y⟩
   replace y:=x▸y
   exact⟨Yw x,BQ e R.z (Yw x) y⟩
omit hL hl in
theorem ax{N:Nat}{g:Bool}(hg:w.go=g)(hw:w.md=true)(H:Za P h n m m1 (KB W P h w b))(B:Bd m c (N+(n+1))):∃c' v,Bd {m1 with now:=m.now} c' N/\∀(r:Rw) (ms:List SV) (k:Nat),Rd (h+1) r ms (N+(n+1)+(k+1))->Ia v=true/\∀(u z:List Value) (p:Value),u.length=r.pre.length+ms.length+1->z.length=r.zp.length+1->wa W P .nn (dq h+36) 932 [.ob 0,.st q0,ma b,.it 0] ⟨m,c,[],⟨u,z,p⟩⟩ (.tu [.bo g,v]) ⟨{m1 with now:=m.now},c',[],⟨u,z,p⟩⟩:=by
 refine Ue.casesOn (Bp e hg hb hw H c [] N B) λc' sv v B' hs hk f=>?_
 exact⟨c',v,B',λr ms k R=>by
   have y:∀(u z:List Value) (p:Value),u.length=r.pre.length+ms.length+1->z.length=r.zp.length+1->_:=λu z p hu hz=>f ⟨u,z,p⟩ ⟨by have:=R.sv;refine(?_:u.length+0+_<=_);lia,by have:=R.zp;show z.length+h<=_;lia⟩ rfl
   exact⟨(y (List.replicate _ r.pv) (r.pv::r.zp) r.pv List.length_replicate rfl).2.1,λu z p hu hz=>by
    have y:=y u z p hu hz
    have y2:=y.2.2
    replace y2:=(ms0 y.1 ..)▸y2
    exact y2⟩⟩
omit e hL hl hb in
theorem Rd.ez{n:Nat}(R:Rd (h+1) r ms (n+1)):r.pre.length+ms.length+1<=100000/\r.zp.length+2<=1000:=⟨by have:=R.sv;lia,by have:=R.zp;lia⟩
omit hL hl in
theorem wR(hw:w.md=true)(H:Za P h n m m1 (KB W P h w b)):Za P (h+1) (n+2) m {m1 with now:=m.now} (KS W P (h+1) .ok (.Uc 1 b)):=λc ms N B=>by
 have B1:=Bd.Ub (n:=N+(n+1)) B
 obtain⟨c',v,B',f⟩:=ax (c:=c.Ub.Tw) e hb rfl hw H ⟨B1.st,B1.lg,B1.rd,B.Zb⟩
 exact .mk c' [] .nn B' (Nat.zero_le _) rfl λr R q=>by
  have y:=f r ms 0 R
  refine rt (ms0 rfl ..) ?_
  exact⟨rfl,ba.up (iB e R.ez.2 (Bd.s1 (n:=N+(n+1)) B) (LQ e (Eb b) y.1 q R.ez.1 R.ez.2 y.2) (RQ e R.ez.2)) 10⟩
omit hL hl in
theorem xR(H:Za P h n m m1 (KB W P h .Va b)):Za P (h+1) (n+2) m {m1 with now:=m.now} (KS W P (h+1) .ok (.Uc 2 b)):=λc ms N B=>by
 have B1:=Bd.Ub (n:=N+(n+1)) B
 obtain⟨c',v,B',f⟩:=ax (c:=c.Ub.Rm) (g:=false) e hb rfl rfl H ⟨B1.st,B1.lg,B1.rd,B.Zb⟩
 exact .mk c' [] .nn B' (Nat.zero_le _) rfl λr R q=>by
  have y:=f r ms 0 R
  refine rt (ms0 rfl ..) ?_
  exact⟨rfl,ba.up (iB e R.ez.2 (Bd.s1 (n:=N+(n+1)) B) (MQ e (Eb b) y.1 q R.ez.1 R.ez.2 y.2) (tH e R.ez.2)) 10⟩
omit hL hl in
theorem yR(hw:w.go=true)(H:Za P h n m m1 (KB W P h w b))(ot:w2.md=true)(H2:Za P h n2 {m1 with now:=m.now} m2 (KB W P h w2 b)):Za P (h+1) (n2+1+(n+1)+1) m {m2 with now:=m.now} (KS W P (h+1) .ok (.Uc 2 b)):=λc ms N B=>by
 have a:=Nat.add_assoc N (n2+1) (n+1)
 have B1:Bd m c.Ub (N+(n2+1)+(n+1)):=a▸Bd.Ub (n:=N+(n2+1+(n+1))) B
 obtain⟨c1,v1,B',f⟩:=ax (c:=c.Ub.Rm) e hb hw (zB hw) H ⟨B1.st,B1.lg,B1.rd,B.Zb⟩
 obtain⟨c',v,B',f'⟩:=ax e hb rfl ot H2 B'
 exact .mk c' [] .nn B' (Nat.zero_le _) rfl λr R q=>by
  have R1:Rd (h+1) r ms (N+(n2+1)+(n+1)+1):=(congrArg (·+1) a)▸R
  have y:=f r ms 0 R1
  have y':=f' r ms (n+1) R1
  refine rt (ms0 rfl ..) ?_
  exact⟨rfl,ba.up (iB e R.ez.2 (Bd.s1 (n:=N+(n2+1+(n+1))) B) (NQ e y.1 (Eb b) y'.1 q R.ez.1 R.ez.2 y.2 y'.2) (tH e R.ez.2)) 10⟩
end
end
section
def KT(W:Wd)(P:Pm)(h:Nat)(w:Wy)(t:Te):KM:=match t with
 |.nil=>KB W P h w .nil
 |.cons a r=>KB W P h w (.cons a r)
 |.Ec=>KP W P h w .Ec
 |.wc b=>KP W P h w (.wc b)
 |.Ic k b c=>KP W P h w (.Ic k b c)
 |.qe k b=>KW W P h k b
 |.Ti k2 k3 b=>KF W P h k2 k3 b
 |.Ui b k=>KD W P h k b w
 |.lc k=>KS W P h w (.lc k)
 |.Se l=>KS W P h w (.Se l)
 |.Gf b=>KS W P h w (.Gf b)
 |.ue b=>KS W P h w (.ue b)
 |.ifs c=>KS W P h w (.ifs c)
 |.Pe k b=>KS W P h w (.Pe k b)
 |.Uc m b=>KS W P h w (.Uc m b)
 |.bare b=>KS W P h w (.bare b)
 |.Qe k1 k2 k3 b=>KS W P h w (.Qe k1 k2 k3 b)
 |.Jf b k=>KS W P h w (.Jf b k)
section
variable {W:Wd}{P:Pm}{h n n1 n2:Nat}{a b t:Te}{w:Wy}{m m1 m2 m':Mm}{L:List Ga}
theorem xH(hs:Nat.beq (Ad a) 0=true):KT W P h w a=KS W P h w a:=by induction a using Te.casesOn<;>first|rfl|exact ft hs
theorem AB(hs:Nat.beq (Ad a) 1=true):KT W P h w a=KB W P h w a:=by induction a using Te.casesOn<;>first|rfl|exact ft hs
theorem yH(hs:Nat.beq (Ad a) 2=true):KT W P h w a=KP W P h w a:=by induction a using Te.casesOn<;>first|rfl|exact ft hs
theorem xj{f:Nat->Bool}(ho:below h f=true)(K:∀h',f h'=true->Za P (h'+1) n m m' (KT W P (h'+1) w t)):Za P h n m m' (KT W P h w t):=by
 induction h using Nat.casesOn with
 |zero=>exact nomatch ho
 |succ h=>exact K h ho
theorem Mf{G:Prop}(ho:Lf b (Vb b) h=true)(H:∀h,Vb b h=true->Za P h n m m' (KT W P h w b))(K:(tr b).2.length<=1000->Za P h n m m' (KB W P h w b)->G):G:=Na ho λq hl=>Na q λhs ho=>K (Nat.le_of_ble_eq_true hl) (AB hs▸H h ho)
theorem zR:Za P h 0 m m (KB W P h .ok .nil):=λc ms N B=>.mk c [] .nn B (Nat.zero_le _) rfl λr R q v0 hv=>by
 refine rt (ms0 rfl ..) ?_
 exact⟨hv,.nil⟩
theorem AR(H1:Za P h n1 m m1 (KS W P h .ok a))(H2:Za P h n2 m1 m2 (KB W P h w b)):Za P h (n2+n1) m m2 (KB W P h w (.cons a b)):=λc ms N B=>by
 refine Ue.casesOn (H1 c ms (N+n2) (Nat.add_assoc N n2 n1▸B)) λc1 sv v1 B1 hs hb k=>?_
 refine Ue.casesOn (H2 c1 (ms++ua P sv) N B1) λc2 Pb v2 B2 gq Ej k2=>?_
 exact .mk c2 (sv++Pb) (yp v1 v2 (tr b).2) B2 (by refine rt (List.length_append ..) ?_;lia) (Um Ej hb) λr R q v0 hv=>by
  have R:Rd h r ms (N+n2+n1):=Nat.add_assoc N n2 n1▸R
  have y:=k r R q
  have z:=k2 r (Rd.more R hs) (wj q sv) v1 y.1
  refine rt (ak ..) ?_
  exact⟨z.1,.cons y.2 (Fb a).1 y.1 z.2⟩
theorem BR(hw:w.Si=false)(H1:Za P h n m m1 (KS W P h w a)):Za P h n m m1 (KB W P h w (.cons a b)):=λc ms N B=>by
 refine Ue.casesOn (H1 c ms N B) λc1 sv v1 B1 hs hb k=>?_
 exact .mk c1 sv .nn B1 hs hb λr R q v0 hv=>by
  have y:Cy _ _ _ _ _ _ _ _ _:=k r R q
  induction w using Wy.casesOn with
  |ok=>exact nomatch hw
  |next=>exact⟨rfl,.Hc y.2 (Fb a).1 y.1⟩
  |Va=>exact⟨rfl,.Hc y.2 (Fb a).1 y.1⟩
  |wb=>exact⟨rfl,.Hc y.2 (Fb a).1 y.1⟩
theorem CR(e:Wo W P)(hL:P.L=L.map Ga.sv)(hl:L.length<=100000)(H:Bs L t m w m' n):∀h,Vb t h=true->Za P h n m m' (KT W P h w t):=by
 induction H with
 |nil=>exact λh uu=>zR
 |cons _ _ i1 i2=>exact λh ho=>Na ho λp q=>Na p λp p'=>Na q λq q'=>AR (xH p▸i1 h p') (AB q▸i2 h q')
 |Hc hw _ i=>exact λh ho=>Na ho λp uu=>Na p λp p'=>BR hw (xH p▸i h p')
 |lc d=>exact λh uu=>TQ e hL hl d
 |wb d=>exact λh uu=>UQ e hL hl d
 |Se=>exact λh uu=>VQ e
 |Gf hw _ i=>exact λh ho=>xj ho λh ho=>Mf ho i λhb H=>WQ e hb hw H
 |ue hw _ i=>exact λh ho=>xj ho λh ho=>Mf ho i λhb H=>XQ e hb hw H
 |Ec=>exact λh uu=>oR
 |wc _ i=>exact λh ho=>Mf ho i λhb H=>pR e hb H
 |kB d _ i=>exact λh ho=>Na ho λp uu=>Mf p i λhb H=>qR e hL hl hb d H
 |lB d _ i=>exact λh ho=>Na ho λuu q=>Na q λq q'=>rR e hL hl d (yH q▸i h q')
 |ifs hw _ i=>exact λh ho=>xj ho λh ho=>Na ho λp q=>Na p λp p'=>Na q λq q'=>nR e hw p' q q' (yH p▸i h p')
 |bare hw _ i=>exact λh ho=>xj ho λh ho=>Mf ho i λhb H=>YQ e hb hw H
 |Pe _ i=>exact λh ho=>xj ho λh ho=>cR e (i h ho)
 |mB d=>exact λh ho=>ZQ e hL hl d
 |nB d _ i=>exact λh ho=>Mf ho i λhb H=>aR e hL hl hb d H
 |oB d hw _ _ i i2=>exact λh ho=>Mf ho i λhb H=>bR e hL hl hb d hw H (i2 h ho)
 |e1 hw _ i=>exact λh ho=>xj ho λh ho=>Mf ho i λhb H=>wR e hb hw H
 |pB _ i=>exact λh ho=>xj ho λh ho=>Mf ho i λhb H=>xR e hb H
 |qB hw _ ot _ i i2=>exact λh ho=>xj ho λh ho=>Mf ho i λhb H=>Mf ho i2 λuu H2=>yR e hb hw H ot H2
 |Qe d _ i=>exact λh ho=>xj ho λh ho=>iR e hL hl d (i h ho)
 |rB d=>exact λh ho=>dR e hL hl d
 |tB d _ i=>exact λh ho=>Mf ho i λhb H=>eR e hL hl hb d H
 |uB d hw _ d3 _ i i2=>exact λh ho=>Mf ho i λhb H=>gR e hL hl hb d hw H d3 (i2 h ho)
 |Jf hw _ i=>exact λh ho=>xj ho λh ho=>vR e hw (i h ho)
 |wB _ d i=>exact λh ho=>Mf ho i λhb H=>sR e hL hl hb H d
 |xB _ d _ i i2=>exact λh ho=>Mf ho i λhb H=>tR e hL hl hb H d (i2 h ho)
 |yB hw _ i=>exact λh ho=>Mf ho i λhb H=>uR e hb hw H
end
end
section
structure La(W:Wd):Prop where
 ok:W.Ok
 hT:∀m fd,lb ((W.mw m).on fd) TP.tb
section
variable {W:Wd}{hn:Hn}{D n N:Nat}{f:Addr}{vs:List SV}{S S':St}{v:SV}{l:List Prop}
theorem zH(e:La W)(hs:List Jd)(q:((Rn.cg TP.tb (Rn.Xa W.fi TP.tb n) hn D f vs ⟨[],S,hs⟩).bind λx=>some (x.1,x.2.1.st.take N,x.2.2))=some (.ok v,S',l))(hl:Me l)(hS:S.length=N/\S'.length=N)(hv:(De (λn=>Nat.blt n N) v&&S'.all (Ee λn=>Nat.blt n N))=true)(fd:List Addr):ba (W.fi.on fd) hn D (.tp f) vs S (.ok v) S':=obs q λx e1 e2=>by
 obtain⟨r,⟨loc,F,yf⟩,l'⟩:=x
 have e2:=Option.some.inj e2
 have ev:r=.ok v:=congrArg (·.1) e2
 have es:F.take N=S':=congrArg (·.2.1) e2
 have el:l'=l:=congrArg (·.2.2) e2
 subst ev el
 have c:=Gm (e.ok.mw _) (e.hT _) e1 hl.mem fd
 replace c:=(es ..)▸(List.take_append_drop N F ..).symm▸c
 exact Na hv λa b=>ba.Eg (W:=W.fi.on fd) hS.1 hS.2 a b (λuu uu=>rfl) c
theorem AH(c:∀fd,ba (W.fi.on fd) .nn D (.tp f) vs S (.ok v) S')(hS:S.length=N/\S'.length=N)(hv:(Mc (λn=>Nat.blt n N) (v::vs)&&(S.all (Ee λn=>Nat.blt n N)&&S'.all (Ee λn=>Nat.blt n N)))=true)(X:St)(fd:List Addr):ba (W.fi.on fd) .nn D (.tp f) vs (S++X) (.ok v) (S'++X):=
 Na hv λa b=>Na b λb b'=>ba.AG (W:=W.fi.on fd) hS.1 hS.2 (Na a λa a'=>(Bool.and_eq_true _ _).mpr ⟨a,a'⟩) b b' (λuu uu=>rfl) (.inl λuu=>rfl) rfl c
end
structure Rs where
 wd:Nat
 ds:List Ga
 left:Int
noncomputable def BB(cells:List SV)(wd:Int)(ds:List SV)(left:Int):St:=[.ct 1047,.ct 1202,.ns [(PG,.ob 3),(Oo,.it wd),(Zo,.ob 4),(SG,.it left)],.Ha cells,.ls [] ds []]
noncomputable def ck(cells:List Int)(s:Rs):St:=BB (cells.map SV.it) s.wd (s.ds.map Ga.sv) s.left
noncomputable def bx(cells:List Int)(a:Nat):Int:=cond (Nat.ble (a+1) cells.length) ((cells[a]?).getD 0) (5 * ((a:Int)+1)+((a:Int)+1).fdiv 3+1)
noncomputable def Aa(cells:List Int)(s:Rs)(m:Nat):Nat:=((bx cells s.wd).fmod m).toNat
noncomputable def Rs.tk(s:Rs):Rs:=⟨s.wd+1,s.ds,s.left⟩
noncomputable def Rs.dd(s:Rs)(d:Ga):Rs:=⟨s.wd,s.ds++[d],s.left⟩
noncomputable def Rs.fa(s:Rs):Rs:=⟨s.wd,s.ds,s.left - 1⟩
theorem BH{cells:List Int}{s:Rs}{m:Nat}(hm:0<m):(bx cells s.wd).fmod m=(Aa cells s m:Nat):=(Int.toNat_of_nonneg (Int.fmod_nonneg_of_pos _ (Int.ofNat_lt.mpr hm))).symm
theorem sf{cells:List Int}{s:Rs}{m:Nat}(hm:0<m):Aa cells s m<m:=by
 have h1:=BH (cells:=cells) (s:=s) hm
 have h2:=Int.fmod_lt_of_pos (bx cells s.wd) (Int.ofNat_lt.mpr hm)
 lia
theorem CH{N:Nat}:∀l:List Int,Mc (λn=>Nat.blt n N) (l.map SV.it)=true
 |[]=>rfl
 |_::l=>CH l
theorem DB{cells:List Int}{s:Rs}:(ck cells s).all (Ee λn=>Nat.blt n 5)=true:=by
 refine(?_:((Mc _ (cells.map SV.it)&&true)&&true)=true)
 refine rt (CH ..) ?_
 rfl
noncomputable abbrev DH(n:Nat):Bool:=Nat.blt n 5
def Bc(W:Wd)(cells:List Int)(D:Nat)(f:Addr)(vs:List SV)(s:Rs)(v:SV)(s':Rs):Prop:=∀fd,ba (W.fi.on fd) .nn D (.tp f) vs (ck cells s) (.ok v) (ck cells s')
section
variable {W:Wd}{cells:List Int}{D n:Nat}{f:Addr}{vs:List SV}{v:SV}{s s':Rs}{l:List Prop}(e:La W)
theorem Bc.up(c:Bc W cells D f vs s v s')(hv:Mc DH (v::vs)=true)(X:St)(fd:List Addr):ba (W.fi.on fd) .nn D (.tp f) vs (ck cells s++X) (.ok v) (ck cells s'++X):=AH c ⟨rfl,rfl⟩ ((Bool.and_eq_true _ _).mpr ⟨hv,(Bool.and_eq_true _ _).mpr ⟨DB,DB⟩⟩) X fd
include e
theorem Fc(hs:List Jd)(q:((Rn.cg TP.tb (Rn.Xa W.fi TP.tb n) .nn D f vs ⟨[],ck cells s,hs⟩).bind λx=>some (x.1,x.2.1.st.take 5,x.2.2))=some (.ok v,ck cells s',l))(hl:Me l)(hv:Ia v=true):Bc W cells D f vs s v s':=
 zH e hs q hl ⟨rfl,rfl⟩ ((Bool.and_eq_true _ _).mpr ⟨Nc hv,DB⟩)
theorem yj(hc:cells.length<=1000){m:Nat}(hm:0<m):Bc W cells (D+9) 1122 [.ob 2,.it m] s (.it (Aa cells s m:Nat)) s.tk:=by
 have hk:(cells.map SV.it).length<=1000000:=by refine rt (List.length_map ..) ?_;exact Nat.le_trans hc (by decide)
 have hm:(m:Int)≠0:=Int.ne_of_gt (Int.ofNat_lt.mpr hm)
 refine rl (BH (by omega) ..) ?_
 unfold bx
 rcases h:Nat.ble (s.wd+1) cells.length with _|_
 ·exact Fc e (n:=60) [⟨776,7,39,.Ca false⟩] (l:=[(cells.map SV.it).length<=1000000,decide ((s.wd:Int)+1<=((cells.map SV.it).length:Nat))=false,IntMulOk 5 ((s.wd:Int)+1),(3:Int)≠0/\Int.natAbs 3<1073741824,(m:Int)≠0]) (by kernel_rfl)
   ⟨hk,decide_eq_false (by refine rt (List.length_map ..) ?_;intro q;exact ft (h.symm.trans (Nat.ble_eq_true_of_le (Int.ofNat_le.mp q)))),.of_left (by decide),⟨by decide,by decide⟩,hm,trivial⟩ rfl
 have h1:=Nat.le_of_ble_eq_true h
 have hi:Rn.Ce (cells.map SV.it) ((s.wd:Int)+1 - 1)=some (.it ((cells[s.wd]?).getD 0)):=by
  refine rt (Int.add_sub_cancel ..) ?_
  unfold Rn.Ce
  refine rt (show Nat.ble (cells.map SV.it).length 1000000=true from Nat.ble_eq_true_of_le hk) ?_
  refine(?_:(cells.map SV.it)[s.wd]?=_)
  refine rt (List.getElem?_map ..) (rt (List.getElem?_eq_getElem h1 ..) ?_)
  rfl
 exact Fc e (n:=60) [⟨776,7,39,.Ca true⟩,⟨777,15,44,.item (.it ((cells[s.wd]?).getD 0))⟩] (l:=[(cells.map SV.it).length<=1000000,decide ((s.wd:Int)+1<=((cells.map SV.it).length:Nat))=true,_,(m:Int)≠0]) (by kernel_rfl) ⟨hk,decide_eq_true (by refine rt (List.length_map ..) ?_;exact Int.ofNat_le.mpr h1),hi,hm,trivial⟩ rfl
theorem EB(d:Ga)(hl:s.ds.length<=50000):Bc W cells (D+9) 1129 [.ob 2,d.sv] s (Wa s.ds.length) (s.dd d):=by
 have h1:0+(s.ds.map Ga.sv).length<=100000:=by refine rt (List.length_map ..) ?_;lia
 have h2:0+(s.ds.map Ga.sv++[d.sv]).length+0<=1000000:=by refine rt (List.length_append ..) (rt (List.length_map ..) ?_);refine(?_:0+(s.ds.length+1)+0<=_);lia
 have e1:ck cells (s.dd d)=BB (cells.map SV.it) s.wd (s.ds.map Ga.sv++[d.sv]) s.left:=by refine(?_:BB _ _ ((s.ds++[d]).map Ga.sv) _=_);refine rt (List.map_append ..) ?_;rfl
 have e2:(s.ds.length:Int)=((0+(s.ds.map Ga.sv++[d.sv]).length+0:Nat):Int) - 1:=by refine rt (List.length_append ..) (rt (List.length_map ..) ?_);refine(?_:_=((0+(s.ds.length+1)+0:Nat):Int) - 1);lia
 refine rt e2 ?_
 induction d using Ga.casesOn<;>exact Fc e (n:=60) [] (l:=[_,_]) (by refine rt e1 ?_;kernel_rfl) ⟨h1,h2,trivial⟩ rfl
end
end
section
theorem ltZ{P:Nat->Prop}{n w:Nat}(h:w<n+1)(a:P n)(b:w<n->P w):P w:=(Nat.lt_or_eq_of_le (Nat.le_of_lt_succ h)).elim b λe=>rt e a
@[elab_as_elim]
theorem lt11{P:Nat->Prop}{w:Nat}(h:w<11)(a0:P 0)(a1:P 1)(a2:P 2)(a3:P 3)(a4:P 4)(a5:P 5)(a6:P 6)(a7:P 7)(a8:P 8)(a9:P 9)(a10:P 10):P w:=
 ltZ h a10 λh=>ltZ h a9 λh=>ltZ h a8 λh=>ltZ h a7 λh=>ltZ h a6 λh=>ltZ h a5 λh=>ltZ h a4 λh=>ltZ h a3 λh=>ltZ h a2 λh=>ltZ h a1 λh=>ltZ h a0 λh=>absurd h (Nat.not_lt_zero _)
@[elab_as_elim]
theorem nat11{P:Nat->Prop}(n:Nat)(z:∀k,P (k+11))(a0:P 0)(a1:P 1)(a2:P 2)(a3:P 3)(a4:P 4)(a5:P 5)(a6:P 6)(a7:P 7)(a8:P 8)(a9:P 9)(a10:P 10):P n:=
 (Nat.lt_or_ge n 11).elim (λh=>lt11 h a0 a1 a2 a3 a4 a5 a6 a7 a8 a9 a10) λh=>Nat.sub_add_cancel h▸z (n - 11)
noncomputable abbrev Bu:=Rs->Te×Rs
noncomputable def Sr(w i j:Nat):Ga:=match w with
 |0=>.qb i
 |1=>.Rh j
 |_=>.Uh
section
variable (cells:List Int)
noncomputable def Rs.Ra(s:Rs):Rs:=s.tk.tk.tk.dd (Sr (Aa cells s 3) (Aa cells s.tk 5) (Aa cells s.tk.tk 5))
noncomputable def Rs.qb(s:Rs):Rs:=s.tk.dd (.qb (Aa cells s 5))
noncomputable def Rs.xc(s:Rs):Rs:=s.tk.tk.dd (.again (Aa cells s 3) (Aa cells s.tk 5))
noncomputable def Ng(f:Bu):Nat->Bu
 |0=>λs=>(.nil,s)
 |n+1=>λs=>(.cons (f s).1 (Ng f n (f s).2).1,(Ng f n (f s).2).2)
noncomputable def td(f:Bu):Bu:=λs=>Ng f (Aa cells s 3+1) s.tk
noncomputable def uf(d:Ga):Bu:=λs=>(.lc s.ds.length,s.dd d)
noncomputable def vh:Bu:=λs=>(.lc s.ds.length,s.qb cells)
noncomputable def on(g:Te->Te)(f:Bu):Bu:=λs=>(g (f s).1,(f s).2)
noncomputable def Ve:Bu:=λs=>match Aa cells s 2 with
 |0=>uf .zb s.tk
 |_=>vh cells s.tk
noncomputable def Ge(B:Bu):Bu:=λs=>match Aa cells s 2 with
 |0=>(.Ec,s.tk)
 |_=>on .wc B s.tk
noncomputable def Zh(B:Bu):Nat->Bu
 |0=>Ge cells B
 |n+1=>λs=>(.Ic s.ds.length (B (s.Ra cells)).1 (Zh B n (B (s.Ra cells)).2).1,(Zh B n (B (s.Ra cells)).2).2)
noncomputable def Wi:Te->Te->Te
 |.cons a r=>λt=>.cons a (Wi r t)
 |_=>λt=>t
noncomputable def ai(B:Bu):Bu:=λs=>match Aa cells (B s).2 2 with
 |0=>(.ue (B s).1,(B s).2.tk)
 |_=>(.ue (Wi (B s).1 (.cons (.lc (B s).2.ds.length) (.cons (.lc ((B s).2.tk.dd .wb).ds.length) .nil))),((B s).2.tk.dd .wb).dd .zb)
noncomputable def Xc(Bl Bt Bf:Bu)(lp:Bool):Nat->Bu
 |0=>uf .zb
 |1=>vh cells
 |2=>λs=>on .ifs (Zh cells Bl (Aa cells s 2+1)) s.tk
 |3=>λs=>on (.Pe s.ds.length) Bt (s.xc cells)
 |4=>λs=>on (.Uc (Aa cells s 2+1)) Bt s.tk
 |5=>on .bare Bt
 |6=>λs=>on (.Qe s.ds.length (s.qb cells).ds.length ((s.qb cells).xc cells).ds.length) Bt (((s.qb cells).xc cells).dd .zb)
 |7=>λs=>(.Jf (Bl s).1 (Bl s).2.ds.length,(Bl s).2.xc cells)
 |8=>on .Gf Bl
 |10=>ai cells Bf
 |_=>cond lp (λs=>(.Se (Nat.beq (Aa cells s 2) 1),s.tk)) (uf .zb)
noncomputable def wh:Nat->Bool->Bu
 |0=>λuu s=>Ve cells s.fa
 |d+1=>λlp s=>cond (decide (s.left - 1>0)) (Xc cells (td cells (wh d lp)) (td cells (wh d true)) (td cells (wh d false)) lp (Aa cells s.fa 11) s.fa.tk) (Ve cells s.fa)
end
def Gw(f:Bu):Prop:=∀s,s.ds<+:(f s).2.ds
def Bq(W:Wd)(cells:List Int)(D:Nat)(z:Int)(lp:Bool)(s:Rs)(x:Te×Rs):Prop:=x.2.ds.length<=50000->Bc W cells D 1153 [.ob 2,.it z,.bo lp] s (tr x.1).1 x.2
noncomputable abbrev cx(W:Wd)(cells:List Int)(D:Nat)(z:Int)(lp:Bool)(f:Bu):Prop:=∀s,Bq W cells D z lp s (f s)
def Nf(W:Wd)(cells:List Int)(D:Nat)(z:Int)(lp:Bool)(f:Bu):Prop:=∀s,(f s).2.ds.length<=50000->Bc W cells D 1148 [.ob 2,.it z,.bo lp] s (ma (f s).1) (f s).2
section
variable {cells:List Int}{f g B:Bu}{s:Rs}{d:Ga}
theorem ve:s.ds<+:(s.dd d).ds:=List.prefix_append _ _
theorem FB(h:Gw f):∀n,Gw (Ng f n)
 |0,_=>List.prefix_refl _
 |n+1,s=>(h s).trans (FB h n _)
theorem Ep(h:Gw f):Gw (td cells f):=λs=>FB h _ s.tk
theorem EH:Gw (Ve cells):=λs=>by
 unfold Ve
 induction Aa cells s 2 using Nat.casesOn<;>exact ve
theorem DR(h:Gw B):Gw (Ge cells B):=λs=>by
 unfold Ge
 induction Aa cells s 2 using Nat.casesOn with
 |zero=>exact List.prefix_refl _
 |succ _=>exact h s.tk
theorem GB(h:Gw B):∀n,Gw (Zh cells B n)
 |0=>DR h
 |n+1=>λs=>(ve (s:=s.tk.tk.tk)).trans ((h _).trans (GB h n _))
theorem ER(h:Gw B):Gw (ai cells B):=λs=>by
 unfold ai
 induction Aa cells (B s).2 2 using Nat.casesOn with
 |zero=>exact h s
 |succ _=>exact(h s).trans ((ve (s:=(B s).2.tk)).trans ve)
theorem FH:s.ds<+:(s.qb cells).ds:=ve (s:=s.tk)
theorem Il:s.ds<+:(s.xc cells).ds:=ve (s:=s.tk.tk)
theorem FR{Bl Bt Bf:Bu}(hl:Gw Bl)(ht:Gw Bt)(hf:Gw Bf)(lp:Bool):∀n,Gw (Xc cells Bl Bt Bf lp n)
 |0,_=>ve
 |1,_=>FH
 |2,s=>GB hl _ s.tk
 |3,_=>Il.trans (ht _)
 |4,s=>ht s.tk
 |5,s=>ht s
 |6,_=>FH.trans (Il.trans (ve.trans (ht _)))
 |7,s=>(hl s).trans Il
 |8,s=>hl s
 |9,_=>by
  rcases lp with _|_
  ·exact ve
  exact List.prefix_refl _
 |10,s=>ER hf s
 |_+11,_=>by
  rcases lp with _|_
  ·exact ve
  exact List.prefix_refl _
theorem Xi:∀d lp,Gw (wh cells d lp)
 |0,_,s=>EH s.fa
 |d+1,lp,s=>by
  refine(?_:_<+:(cond _ _ _:Te×Rs).2.ds)
  rcases decide (s.left - 1>0) with _|_
  ·exact EH s.fa
  exact FR (Ep (Xi d lp)) (Ep (Xi d true)) (Ep (Xi d false)) lp _ s.fa.tk
end
noncomputable def Qa(z:Int)(lp:Bool):St:=[.cell (some (.ob 2)),.cell (some (.it z)),.cell (some (.bo lp))]
theorem Ud{v:SV}{z:Int}{lp:Bool}(h:Ia v=true):Mc DH [v,.ob 2,.it z,.bo lp]=true:=(Bool.and_eq_true _ _).mpr ⟨Nc h,rfl⟩
section
variable {W:Wd}{cells:List Int}{D:Nat}{z:Int}{lp:Bool}{f:Bu}{s:Rs}(e:La W)(hc:cells.length<=1000)
include e hc
theorem Xb{m x:Nat}(h:Aa cells s m=x)(hm:0<m):Bc W cells (D+9) 1122 [.ob 2,.it m] s (.it (x:Nat)) s.tk:=h▸yj e hc hm
theorem GH(H:cx W cells (D+12) z lp f)(G:Gw f):Nf W cells (D+16) z lp (td cells f):=λs=>by
 have ac:=sf (cells:=cells) (s:=s) (m:=3) (by decide)
 have c0:∀{x},Aa cells s 3=x->_:=λh=>Bc.up (Xb (D:=D+6) e hc h (by decide)) rfl (Qa z lp)
 unfold td
 generalize h:Aa cells s 3=x at ac c0 ⊢
 rcases x with _|_|_|x
 ·intro hF
  have c1:=ba.up (Bc.up (H s.tk hF) (Ud (Fb _).1) (Qa z lp++[.ri 1 0])) 3
  exact Fc e (n:=60) [⟨788,77,95,ho (c0 rfl)⟩,⟨788,22,54,ho c1⟩] (l:=[_,(0:Int)<=1+0/\(1:Int)+0<=1000000,_]) (by kernel_rfl) ⟨c0 rfl,by decide,c1,trivial⟩ (Eb _)
 ·intro hF
  have l1:(f s.tk).2.ds.length<=50000:=Nat.le_trans (G (f s.tk).2).length_le hF
  have c1:=ba.up (Bc.up (H s.tk l1) (Ud (Fb _).1) (Qa z lp++[.ri 1 1])) 3
  have c2:=ba.up (Bc.up (H (f s.tk).2 hF) (Ud (Fb _).1) (Qa z lp++[.ri 2 0])) 3
  exact Fc e (n:=60) [⟨788,77,95,ho (c0 rfl)⟩,⟨788,22,54,ho c1⟩,⟨788,22,54,ho c2⟩] (l:=[_,(0:Int)<=1+1/\(1:Int)+1<=1000000,_,_]) (by kernel_rfl) ⟨c0 rfl,by decide,c1,c2,trivial⟩ (Eb _)
 ·intro hF
  have l2:(f (f s.tk).2).2.ds.length<=50000:=Nat.le_trans (G _).length_le hF
  have l1:(f s.tk).2.ds.length<=50000:=Nat.le_trans (G _).length_le l2
  have c1:=ba.up (Bc.up (H s.tk l1) (Ud (Fb _).1) (Qa z lp++[.ri 1 2])) 3
  have c2:=ba.up (Bc.up (H (f s.tk).2 l2) (Ud (Fb _).1) (Qa z lp++[.ri 2 1])) 3
  have c3:=ba.up (Bc.up (H (f (f s.tk).2).2 hF) (Ud (Fb _).1) (Qa z lp++[.ri 3 0])) 3
  exact Fc e (n:=60) [⟨788,77,95,ho (c0 rfl)⟩,⟨788,22,54,ho c1⟩,⟨788,22,54,ho c2⟩,⟨788,22,54,ho c3⟩] (l:=[_,(0:Int)<=1+2/\(1:Int)+2<=1000000,_,_,_]) (by kernel_rfl) ⟨c0 rfl,by decide,c1,c2,c3,trivial⟩ (Eb _)
 ·lia
end
end
section
section
variable {W:Wd}{cells:List Int}{D:Nat}{z:Int}{lp:Bool}{Bl Bt Bf:Bu}{s:Rs}(e:La W)(hc:cells.length<=1000)
include e hc
theorem Fp(hl:(s.Ra cells).ds.length<=50000):Bc W cells (D+11) 1136 [.ob 2] s (Wa s.ds.length) (s.Ra cells):=by
 have hl:s.ds.length<=50000:=Nat.le_trans (ve (s:=s.tk.tk.tk)).length_le hl
 have c1:=yj (s:=s) (D:=D+1) e hc (m:=3) (by decide)
 have c2:=yj (s:=s.tk) (D:=D+1) e hc (m:=5) (by decide)
 have c3:=yj (s:=s.tk.tk) (D:=D+1) e hc (m:=5) (by decide)
 have c4:=EB (s:=s.tk.tk.tk) (cells:=cells) (D:=D+1) e (Sr (Aa cells s 3) (Aa cells s.tk 5) (Aa cells s.tk.tk 5)) hl
 have lt:=sf (cells:=cells) (s:=s) (m:=3) (by decide)
 have hi:Rn.Ce [Ga.sv (.qb (Aa cells s.tk 5)),Ga.sv (.Rh (Aa cells s.tk.tk 5)),Ga.sv .Uh] (Aa cells s 3:Nat)=some (Sr (Aa cells s 3) (Aa cells s.tk 5) (Aa cells s.tk.tk 5)).sv:=by
  revert lt
  generalize Aa cells s 3=x
  rcases x with _|_|_|x<;>first|exact λuu=>rfl|lia
 exact Fc e (n:=60) [⟨783,10,28,ho c1⟩,⟨784,36,54,ho c2⟩,⟨784,67,85,ho c3⟩,⟨784,27,103,.item (Sr (Aa cells s 3) (Aa cells s.tk 5) (Aa cells s.tk.tk 5)).sv⟩,⟨784,11,104,ho c4⟩] (l:=[_,_,_,_,_]) (by kernel_rfl) ⟨c1,c2,c3,hi,c4,trivial⟩ rfl
theorem HB(hl:(s.xc cells).ds.length<=50000):Bc W cells (D+11) 1143 [.ob 2] s (Wa s.ds.length) (s.xc cells):=by
 have hl:s.ds.length<=50000:=Nat.le_trans Il.length_le hl
 have c1:=yj (s:=s) (D:=D+1) e hc (m:=3) (by decide)
 have c2:=yj (s:=s.tk) (D:=D+1) e hc (m:=5) (by decide)
 have c4:=EB (s:=s.tk.tk) (cells:=cells) (D:=D+1) e (.again (Aa cells s 3) (Aa cells s.tk 5)) hl
 exact Fc e (n:=60) [⟨786,37,55,ho c1⟩,⟨786,57,75,ho c2⟩,⟨786,11,77,ho c4⟩] (l:=[_,_,_]) (by kernel_rfl) ⟨c1,c2,c4,trivial⟩ rfl
theorem Yi(d:Ga)(hl:(s.dd d).ds.length<=50000):Bc W cells (D+9) 1129 [.ob 2,d.sv] s (Wa s.ds.length) (s.dd d):=EB e d (Nat.le_trans ve.length_le hl)
theorem GR(hz:decide (z>0)=false)(h:Aa cells s.fa 2=0)(hF:(uf .zb s.fa.tk).2.ds.length<=50000):Bc W cells (D+17) 1153 [.ob 2,.it z,.bo lp] s (tr (uf .zb s.fa.tk).1).1 (uf .zb s.fa.tk).2:=by
 have c1:=Bc.up (Xb (D:=D+7) e hc h (by decide)) rfl (Qa z lp)
 have c2:=Bc.up (Yi (D:=D+7) (s:=s.fa.tk) e hc .zb (hF)) rfl (Qa z lp)
 exact Fc e (n:=60) [⟨791,33,41,.Ca false⟩,⟨791,68,86,ho c1⟩,⟨793,27,53,ho c2⟩] (l:=[decide (z>0)=false,_,_]) (by kernel_rfl) ⟨hz,c1,c2,trivial⟩ (Fb _).1
theorem HR(hz:decide (z>0)=false)(h:Aa cells s.fa 2=1)(hF:(vh cells s.fa.tk).2.ds.length<=50000):Bc W cells (D+17) 1153 [.ob 2,.it z,.bo lp] s (tr (vh cells s.fa.tk).1).1 (vh cells s.fa.tk).2:=by
 have c1:=Bc.up (Xb (D:=D+7) e hc h (by decide)) rfl (Qa z lp)
 have c2:=Bc.up (yj (D:=D+7) (s:=s.fa.tk) (m:=5) e hc (by decide)) rfl (Qa z lp)
 have c3:=Bc.up (Yi (D:=D+7) (s:=s.fa.tk.tk) e hc (.qb (Aa cells s.fa.tk 5)) (hF)) rfl (Qa z lp)
 exact Fc e (n:=60) [⟨791,33,41,.Ca false⟩,⟨791,68,86,ho c1⟩,⟨795,51,69,ho c2⟩,⟨795,27,71,ho c3⟩] (l:=[decide (z>0)=false,_,_,_]) (by kernel_rfl) ⟨hz,c1,c2,c3,trivial⟩ (Fb _).1
theorem IR(hz:decide (z>0)=true)(hl:decide (s.left - 1>0)=false)(h:Aa cells s.fa 2=0)(hF:(uf .zb s.fa.tk).2.ds.length<=50000):Bc W cells (D+17) 1153 [.ob 2,.it z,.bo lp] s (tr (uf .zb s.fa.tk).1).1 (uf .zb s.fa.tk).2:=by
 have c1:=Bc.up (Xb (D:=D+7) e hc h (by decide)) rfl (Qa z lp)
 have c2:=Bc.up (Yi (D:=D+7) (s:=s.fa.tk) e hc .zb (hF)) rfl (Qa z lp)
 exact Fc e (n:=60) [⟨791,33,41,.Ca true⟩,⟨791,46,62,.Ca false⟩,⟨791,68,86,ho c1⟩,⟨793,27,53,ho c2⟩] (l:=[decide (z>0)=true,decide (s.left - 1>0)=false,_,_]) (by kernel_rfl) ⟨hz,hl,c1,c2,trivial⟩ (Fb _).1
theorem JR(hz:decide (z>0)=true)(hl:decide (s.left - 1>0)=false)(h:Aa cells s.fa 2=1)(hF:(vh cells s.fa.tk).2.ds.length<=50000):Bc W cells (D+17) 1153 [.ob 2,.it z,.bo lp] s (tr (vh cells s.fa.tk).1).1 (vh cells s.fa.tk).2:=by
 have c1:=Bc.up (Xb (D:=D+7) e hc h (by decide)) rfl (Qa z lp)
 have c2:=Bc.up (yj (D:=D+7) (s:=s.fa.tk) (m:=5) e hc (by decide)) rfl (Qa z lp)
 have c3:=Bc.up (Yi (D:=D+7) (s:=s.fa.tk.tk) e hc (.qb (Aa cells s.fa.tk 5)) (hF)) rfl (Qa z lp)
 exact Fc e (n:=60) [⟨791,33,41,.Ca true⟩,⟨791,46,62,.Ca false⟩,⟨791,68,86,ho c1⟩,⟨795,51,69,ho c2⟩,⟨795,27,71,ho c3⟩] (l:=[decide (z>0)=true,decide (s.left - 1>0)=false,_,_,_]) (by kernel_rfl) ⟨hz,hl,c1,c2,c3,trivial⟩ (Fb _).1
theorem KR(hz:decide (z>0)=true)(hl:decide (s.left - 1>0)=true)(h:Aa cells s.fa 11=0)(hF:(uf .zb s.fa.tk).2.ds.length<=50000):Bc W cells (D+17) 1153 [.ob 2,.it z,.bo lp] s (tr (uf .zb s.fa.tk).1).1 (uf .zb s.fa.tk).2:=by
 have c1:=Bc.up (Xb (D:=D+7) e hc h (by decide)) rfl (Qa z lp)
 have c2:=Bc.up (Yi (D:=D+7) (s:=s.fa.tk) e hc .zb (hF)) rfl (Qa z lp)
 exact Fc e (n:=60) [⟨791,33,41,.Ca true⟩,⟨791,46,62,.Ca true⟩,⟨791,10,29,ho c1⟩,⟨793,27,53,ho c2⟩] (l:=[decide (z>0)=true,decide (s.left - 1>0)=true,_,_]) (by kernel_rfl) ⟨hz,hl,c1,c2,trivial⟩ (Fb _).1
theorem LR(hz:decide (z>0)=true)(hl:decide (s.left - 1>0)=true)(h:Aa cells s.fa 11=1)(hF:(vh cells s.fa.tk).2.ds.length<=50000):Bc W cells (D+17) 1153 [.ob 2,.it z,.bo lp] s (tr (vh cells s.fa.tk).1).1 (vh cells s.fa.tk).2:=by
 have c1:=Bc.up (Xb (D:=D+7) e hc h (by decide)) rfl (Qa z lp)
 have c2:=Bc.up (yj (D:=D+7) (s:=s.fa.tk) (m:=5) e hc (by decide)) rfl (Qa z lp)
 have c3:=Bc.up (Yi (D:=D+7) (s:=s.fa.tk.tk) e hc (.qb (Aa cells s.fa.tk 5)) (hF)) rfl (Qa z lp)
 exact Fc e (n:=60) [⟨791,33,41,.Ca true⟩,⟨791,46,62,.Ca true⟩,⟨791,10,29,ho c1⟩,⟨795,51,69,ho c2⟩,⟨795,27,71,ho c3⟩] (l:=[decide (z>0)=true,decide (s.left - 1>0)=true,_,_,_]) (by kernel_rfl) ⟨hz,hl,c1,c2,c3,trivial⟩ (Fb _).1
theorem w3(hz:decide (z>0)=true)(hl:decide (s.left - 1>0)=true)(h:Aa cells s.fa 11=3)(B:Nf W cells (D+16) (z - 1) true Bt)(G:Gw Bt)(hF:(Xc cells Bl Bt Bf lp 3 s.fa.tk).2.ds.length<=50000):Bc W cells (D+17) 1153 [.ob 2,.it z,.bo lp] s (tr (Xc cells Bl Bt Bf lp 3 s.fa.tk).1).1 (Xc cells Bl Bt Bf lp 3 s.fa.tk).2:=by
 have c1:=Bc.up (Xb (D:=D+7) e hc h (by decide)) rfl (Qa z lp)
 have c2:=Bc.up (HB (D:=D+5) (s:=s.fa.tk) e hc (Nat.le_trans (G _).length_le hF)) rfl (Qa z lp)
 have c3:=Bc.up (B (s.fa.tk.xc cells) (hF)) (Ud (Eb _)) (Qa z lp)
 exact Fc e (n:=60) [⟨791,33,41,.Ca true⟩,⟨791,46,62,.Ca true⟩,⟨791,10,29,ho c1⟩,⟨800,29,46,ho c2⟩,⟨800,48,80,ho c3⟩] (l:=[decide (z>0)=true,decide (s.left - 1>0)=true,_,_,_]) (by kernel_rfl) ⟨hz,hl,c1,c2,c3,trivial⟩ (Fb _).1
theorem MR(hz:decide (z>0)=true)(hl:decide (s.left - 1>0)=true)(h:Aa cells s.fa 11=4)(h2:Aa cells s.fa.tk 2=0)(B:Nf W cells (D+16) (z - 1) true Bt)(G:Gw Bt)(hF:(on (.Uc 1) Bt s.fa.tk.tk).2.ds.length<=50000):Bc W cells (D+17) 1153 [.ob 2,.it z,.bo lp] s (tr (on (.Uc 1) Bt s.fa.tk.tk).1).1 (on (.Uc 1) Bt s.fa.tk.tk).2:=by
 have c1:=Bc.up (Xb (D:=D+7) e hc h (by decide)) rfl (Qa z lp)
 have c2:=Bc.up (Xb (D:=D+7) e hc h2 (by decide)) rfl (Qa z lp)
 have c3:=Bc.up (B (s.fa.tk.tk) (hF)) (Ud (Eb _)) (Qa z lp)
 exact Fc e (n:=60) [⟨791,33,41,.Ca true⟩,⟨791,46,62,.Ca true⟩,⟨791,10,29,ho c1⟩,⟨802,47,65,ho c2⟩,⟨803,53,85,ho c3⟩] (l:=[decide (z>0)=true,decide (s.left - 1>0)=true,_,_,(0:Int)<=1+0/\(1:Int)+0<=1000,_]) (by kernel_rfl) ⟨hz,hl,c1,c2,by decide,c3,trivial⟩ (Fb _).1
theorem NR(hz:decide (z>0)=true)(hl:decide (s.left - 1>0)=true)(h:Aa cells s.fa 11=4)(h2:Aa cells s.fa.tk 2=1)(B:Nf W cells (D+16) (z - 1) true Bt)(G:Gw Bt)(hF:(on (.Uc 2) Bt s.fa.tk.tk).2.ds.length<=50000):Bc W cells (D+17) 1153 [.ob 2,.it z,.bo lp] s (tr (on (.Uc 2) Bt s.fa.tk.tk).1).1 (on (.Uc 2) Bt s.fa.tk.tk).2:=by
 have c1:=Bc.up (Xb (D:=D+7) e hc h (by decide)) rfl (Qa z lp)
 have c2:=Bc.up (Xb (D:=D+7) e hc h2 (by decide)) rfl (Qa z lp)
 have c3:=Bc.up (B (s.fa.tk.tk) (hF)) (Ud (Eb _)) (Qa z lp)
 exact Fc e (n:=60) [⟨791,33,41,.Ca true⟩,⟨791,46,62,.Ca true⟩,⟨791,10,29,ho c1⟩,⟨802,47,65,ho c2⟩,⟨803,53,85,ho c3⟩] (l:=[decide (z>0)=true,decide (s.left - 1>0)=true,_,_,(0:Int)<=1+1/\(1:Int)+1<=1000,_]) (by kernel_rfl) ⟨hz,hl,c1,c2,by decide,c3,trivial⟩ (Fb _).1
theorem w5(hz:decide (z>0)=true)(hl:decide (s.left - 1>0)=true)(h:Aa cells s.fa 11=5)(B:Nf W cells (D+16) (z - 1) true Bt)(G:Gw Bt)(hF:(Xc cells Bl Bt Bf lp 5 s.fa.tk).2.ds.length<=50000):Bc W cells (D+17) 1153 [.ob 2,.it z,.bo lp] s (tr (Xc cells Bl Bt Bf lp 5 s.fa.tk).1).1 (Xc cells Bl Bt Bf lp 5 s.fa.tk).2:=by
 have c1:=Bc.up (Xb (D:=D+7) e hc h (by decide)) rfl (Qa z lp)
 have c3:=Bc.up (B (s.fa.tk) (hF)) (Ud (Eb _)) (Qa z lp)
 exact Fc e (n:=60) [⟨791,33,41,.Ca true⟩,⟨791,46,62,.Ca true⟩,⟨791,10,29,ho c1⟩,⟨805,28,60,ho c3⟩] (l:=[decide (z>0)=true,decide (s.left - 1>0)=true,_,_]) (by kernel_rfl) ⟨hz,hl,c1,c3,trivial⟩ (Fb _).1
theorem w6(hz:decide (z>0)=true)(hl:decide (s.left - 1>0)=true)(h:Aa cells s.fa 11=6)(B:Nf W cells (D+16) (z - 1) true Bt)(G:Gw Bt)(hF:(Xc cells Bl Bt Bf lp 6 s.fa.tk).2.ds.length<=50000):Bc W cells (D+17) 1153 [.ob 2,.it z,.bo lp] s (tr (Xc cells Bl Bt Bf lp 6 s.fa.tk).1).1 (Xc cells Bl Bt Bf lp 6 s.fa.tk).2:=by
 have l3:=Nat.le_trans (G _).length_le hF
 have l2:=Nat.le_trans ve.length_le l3
 have c1:=Bc.up (Xb (D:=D+7) e hc h (by decide)) rfl (Qa z lp)
 have c2:=Bc.up (yj (D:=D+7) (s:=s.fa.tk) (m:=5) e hc (by decide)) rfl (Qa z lp)
 have c3:=Bc.up (Yi (D:=D+7) (s:=s.fa.tk.tk) e hc (.qb (Aa cells s.fa.tk 5)) (Nat.le_trans Il.length_le l2)) rfl (Qa z lp)
 have c4:=Bc.up (HB (D:=D+5) (s:=s.fa.tk.qb cells) e hc (l2)) rfl (Qa z lp)
 have c5:=Bc.up (Yi (D:=D+7) (s:=(s.fa.tk.qb cells).xc cells) e hc .zb (l3)) rfl (Qa z lp)
 have c6:=Bc.up (B (((s.fa.tk.qb cells).xc cells).dd .zb) (hF)) (Ud (Eb _)) (Qa z lp)
 exact Fc e (n:=60) [⟨791,33,41,.Ca true⟩,⟨791,46,62,.Ca true⟩,⟨791,10,29,ho c1⟩,⟨807,40,58,ho c2⟩,⟨807,16,60,ho c3⟩,⟨808,35,52,ho c4⟩,⟨808,54,80,ho c5⟩,⟨808,82,114,ho c6⟩] (l:=[decide (z>0)=true,decide (s.left - 1>0)=true,_,_,_,_,_,_]) (by kernel_rfl) ⟨hz,hl,c1,c2,c3,c4,c5,c6,trivial⟩ (Fb _).1
theorem w7(hz:decide (z>0)=true)(hl:decide (s.left - 1>0)=true)(h:Aa cells s.fa 11=7)(B:Nf W cells (D+16) (z - 1) lp Bl)(G:Gw Bl)(hF:(Xc cells Bl Bt Bf lp 7 s.fa.tk).2.ds.length<=50000):Bc W cells (D+17) 1153 [.ob 2,.it z,.bo lp] s (tr (Xc cells Bl Bt Bf lp 7 s.fa.tk).1).1 (Xc cells Bl Bt Bf lp 7 s.fa.tk).2:=by
 have c1:=Bc.up (Xb (D:=D+7) e hc h (by decide)) rfl (Qa z lp)
 have c2:=Bc.up (B (s.fa.tk) (Nat.le_trans Il.length_le hF)) (Ud (Eb _)) (Qa z lp)
 have c3:=Bc.up (HB (D:=D+5) (s:=(Bl s.fa.tk).2) e hc (hF)) rfl (Qa z lp)
 exact Fc e (n:=60) [⟨791,33,41,.Ca true⟩,⟨791,46,62,.Ca true⟩,⟨791,10,29,ho c1⟩,⟨810,27,64,ho c2⟩,⟨810,66,83,ho c3⟩] (l:=[decide (z>0)=true,decide (s.left - 1>0)=true,_,_,_]) (by kernel_rfl) ⟨hz,hl,c1,c2,c3,trivial⟩ (Fb _).1
theorem w8(hz:decide (z>0)=true)(hl:decide (s.left - 1>0)=true)(h:Aa cells s.fa 11=8)(B:Nf W cells (D+16) (z - 1) lp Bl)(G:Gw Bl)(hF:(Xc cells Bl Bt Bf lp 8 s.fa.tk).2.ds.length<=50000):Bc W cells (D+17) 1153 [.ob 2,.it z,.bo lp] s (tr (Xc cells Bl Bt Bf lp 8 s.fa.tk).1).1 (Xc cells Bl Bt Bf lp 8 s.fa.tk).2:=by
 have c1:=Bc.up (Xb (D:=D+7) e hc h (by decide)) rfl (Qa z lp)
 have c3:=Bc.up (B (s.fa.tk) (hF)) (Ud (Eb _)) (Qa z lp)
 exact Fc e (n:=60) [⟨791,33,41,.Ca true⟩,⟨791,46,62,.Ca true⟩,⟨791,10,29,ho c1⟩,⟨812,39,76,ho c3⟩] (l:=[decide (z>0)=true,decide (s.left - 1>0)=true,_,_]) (by kernel_rfl) ⟨hz,hl,c1,c3,trivial⟩ (Fb _).1
theorem OR(hz:decide (z>0)=true)(hl:decide (s.left - 1>0)=true)(h:Aa cells s.fa 11=9)(h2:Aa cells s.fa.tk 2=0):Bc W cells (D+17) 1153 [.ob 2,.it z,.bo true] s (tr (.Se false)).1 s.fa.tk.tk:=by
 have c1:=Bc.up (Xb (D:=D+7) e hc h (by decide)) rfl (Qa z true)
 have c2:=Bc.up (Xb (D:=D+7) e hc h2 (by decide)) rfl (Qa z true)
 exact Fc e (n:=60) [⟨791,33,41,.Ca true⟩,⟨791,46,62,.Ca true⟩,⟨791,10,29,ho c1⟩,⟨818,41,59,ho c2⟩] (l:=[decide (z>0)=true,decide (s.left - 1>0)=true,_,_]) (by kernel_rfl) ⟨hz,hl,c1,c2,trivial⟩ (Fb _).1
theorem PR(hz:decide (z>0)=true)(hl:decide (s.left - 1>0)=true)(h:Aa cells s.fa 11=9)(h2:Aa cells s.fa.tk 2=1):Bc W cells (D+17) 1153 [.ob 2,.it z,.bo true] s (tr (.Se true)).1 s.fa.tk.tk:=by
 have c1:=Bc.up (Xb (D:=D+7) e hc h (by decide)) rfl (Qa z true)
 have c2:=Bc.up (Xb (D:=D+7) e hc h2 (by decide)) rfl (Qa z true)
 exact Fc e (n:=60) [⟨791,33,41,.Ca true⟩,⟨791,46,62,.Ca true⟩,⟨791,10,29,ho c1⟩,⟨818,41,59,ho c2⟩] (l:=[decide (z>0)=true,decide (s.left - 1>0)=true,_,_]) (by kernel_rfl) ⟨hz,hl,c1,c2,trivial⟩ (Fb _).1
theorem QR(hz:decide (z>0)=true)(hl:decide (s.left - 1>0)=true)(h:Aa cells s.fa 11=9)(hF:(uf .zb s.fa.tk).2.ds.length<=50000):Bc W cells (D+17) 1153 [.ob 2,.it z,.bo false] s (tr (uf .zb s.fa.tk).1).1 (uf .zb s.fa.tk).2:=by
 have c1:=Bc.up (Xb (D:=D+7) e hc h (by decide)) rfl (Qa z false)
 have c2:=Bc.up (Yi (D:=D+7) (s:=s.fa.tk) e hc .zb (hF)) rfl (Qa z false)
 exact Fc e (n:=60) [⟨791,33,41,.Ca true⟩,⟨791,46,62,.Ca true⟩,⟨791,10,29,ho c1⟩,⟨818,84,110,ho c2⟩] (l:=[decide (z>0)=true,decide (s.left - 1>0)=true,_,_]) (by kernel_rfl) ⟨hz,hl,c1,c2,trivial⟩ (Fb _).1
theorem RR(hz:decide (z>0)=true)(hl:decide (s.left - 1>0)=true)(h:Aa cells s.fa 11=10)(h2:Aa cells (Bf s.fa.tk).2 2=0)(B:Nf W cells (D+16) (z - 1) false Bf)(G:Gw Bf)(hF:(Bf s.fa.tk).2.ds.length<=50000):Bc W cells (D+17) 1153 [.ob 2,.it z,.bo lp] s (tr (.ue (Bf s.fa.tk).1)).1 (Bf s.fa.tk).2.tk:=by
 have c1:=Bc.up (Xb (D:=D+7) e hc h (by decide)) rfl (Qa z lp)
 have c2:=Bc.up (B (s.fa.tk) (hF)) (Ud (Eb _)) (Qa z lp)
 have c3:=Bc.up (Xb (D:=D+7) e hc h2 (by decide)) rfl (Qa z lp)
 exact Fc e (n:=60) [⟨791,33,41,.Ca true⟩,⟨791,46,62,.Ca true⟩,⟨791,10,29,ho c1⟩,⟨814,16,49,ho c2⟩,⟨815,11,29,ho c3⟩] (l:=[decide (z>0)=true,decide (s.left - 1>0)=true,_,_,_]) (by kernel_rfl) ⟨hz,hl,c1,c2,c3,trivial⟩ (Fb _).1
theorem SR(hz:decide (z>0)=true)(hl:decide (s.left - 1>0)=true)(h:Aa cells s.fa 11=10)(h2:Aa cells (Bf s.fa.tk).2 2=1)(B:Nf W cells (D+16) (z - 1) false Bf)(G:Gw Bf)(hA:∀t,(tr (Wi (Bf s.fa.tk).1 t)).2=(tr (Bf s.fa.tk).1).2++(tr t).2)(hL:(tr (Bf s.fa.tk).1).2.length<=3)(hF:(((Bf s.fa.tk).2.tk.dd .wb).dd .zb).ds.length<=50000):Bc W cells (D+17) 1153 [.ob 2,.it z,.bo lp] s (tr (.ue (Wi (Bf s.fa.tk).1 (.cons (.lc (Bf s.fa.tk).2.ds.length) (.cons (.lc ((Bf s.fa.tk).2.tk.dd .wb).ds.length) .nil))))).1 (((Bf s.fa.tk).2.tk.dd .wb).dd .zb):=by
 have l3:=Nat.le_trans ve.length_le hF
 refine(?_:Bc _ _ _ _ _ _ (Ye (.tu [.st rj,Kb (tr (Wi _ _)).2])) _)
 refine rt (hA ..) ?_
 have c1:=Bc.up (Xb (D:=D+7) e hc h (by decide)) rfl (Qa z lp)
 have c2:=Bc.up (B (s.fa.tk) (Nat.le_trans ve.length_le l3)) (Ud (Eb _)) (Qa z lp)
 have c3:=Bc.up (Xb (D:=D+7) e hc h2 (by decide)) rfl (Qa z lp)
 have c4:=Bc.up (Yi (D:=D+7) (s:=(Bf s.fa.tk).2.tk) e hc .wb (l3)) rfl (Qa z lp)
 have c5:=Bc.up (Yi (D:=D+7) (s:=(Bf s.fa.tk).2.tk.dd .wb) e hc .zb (hF)) rfl (Qa z lp)
 exact Fc e (n:=60) [⟨791,33,41,.Ca true⟩,⟨791,46,62,.Ca true⟩,⟨791,10,29,ho c1⟩,⟨814,16,49,ho c2⟩,⟨815,11,29,ho c3⟩,⟨816,41,66,ho c4⟩,⟨816,81,107,ho c5⟩] (l:=[decide (z>0)=true,decide (s.left - 1>0)=true,_,_,_,_,_,(tr (Bf s.fa.tk).1).2.length+2<=100000]) (by kernel_rfl) ⟨hz,hl,c1,c2,c3,c4,c5,Nat.le_trans (Nat.add_le_add_right hL 2) (by decide),trivial⟩ (hA (.cons (.lc (Bf s.fa.tk).2.ds.length) (.cons (.lc ((Bf s.fa.tk).2.tk.dd .wb).ds.length) .nil))▸(Fb (.ue (Wi (Bf s.fa.tk).1 (.cons (.lc (Bf s.fa.tk).2.ds.length) (.cons (.lc ((Bf s.fa.tk).2.tk.dd .wb).ds.length) .nil))))).1)
theorem TR(hz:decide (z>0)=true)(hl:decide (s.left - 1>0)=true)(h:Aa cells s.fa 11=2)(h2:Aa cells s.fa.tk 2=0)(h3:Aa cells (Bl (s.fa.tk.tk.Ra cells)).2 2=0)(B:Nf W cells (D+16) (z - 1) lp Bl)(G:Gw Bl)(hF:((Bl (s.fa.tk.tk.Ra cells)).2.tk).ds.length<=50000):Bc W cells (D+17) 1153 [.ob 2,.it z,.bo lp] s (tr (.ifs (.Ic s.fa.tk.tk.ds.length (Bl (s.fa.tk.tk.Ra cells)).1 .Ec))).1 (Bl (s.fa.tk.tk.Ra cells)).2.tk:=by
 have bj:((Bl (s.fa.tk.tk.Ra cells)).2).ds.length<=50000:=hF
 have zj:(s.fa.tk.tk.Ra cells).ds.length<=50000:=Nat.le_trans (G _).length_le bj
 have c1:=Bc.up (Xb (D:=D+7) e hc h (by decide)) rfl (Qa z lp)
 have c2:=Bc.up (Xb (D:=D+7) e hc h2 (by decide)) rfl (Qa z lp)
 have t0:=Bc.up (Fp (D:=D+5) (s:=s.fa.tk.tk) e hc zj) rfl (Qa z lp++[.ri 1 0])
 have b0:=Bc.up (B (s.fa.tk.tk.Ra cells) (bj)) (Ud (Eb _)) (Qa z lp++[.ri 1 0])
 have c3:=Bc.up (Xb (D:=D+7) e hc h3 (by decide)) rfl (Qa z lp++[.ta])
 exact Fc e (n:=60) [⟨791,33,41,.Ca true⟩,⟨791,46,62,.Ca true⟩,⟨791,10,29,ho c1⟩,⟨797,96,114,ho c2⟩,⟨797,18,33,ho t0⟩,⟨797,35,72,ho b0⟩,⟨798,37,55,ho c3⟩] (l:=[decide (z>0)=true,decide (s.left - 1>0)=true,_,_,(0:Int)<=1+0/\(1:Int)+0<=1000000,_,_,_]) (by kernel_rfl) ⟨hz,hl,c1,c2,by decide,t0,b0,c3,trivial⟩ (Fb _).1
theorem UR(hz:decide (z>0)=true)(hl:decide (s.left - 1>0)=true)(h:Aa cells s.fa 11=2)(h2:Aa cells s.fa.tk 2=0)(h3:Aa cells (Bl (s.fa.tk.tk.Ra cells)).2 2=1)(B:Nf W cells (D+16) (z - 1) lp Bl)(G:Gw Bl)(hF:((Bl (Bl (s.fa.tk.tk.Ra cells)).2.tk).2).ds.length<=50000):Bc W cells (D+17) 1153 [.ob 2,.it z,.bo lp] s (tr (.ifs (.Ic s.fa.tk.tk.ds.length (Bl (s.fa.tk.tk.Ra cells)).1 (.wc (Bl (Bl (s.fa.tk.tk.Ra cells)).2.tk).1)))).1 (Bl (Bl (s.fa.tk.tk.Ra cells)).2.tk).2:=by
 have bj:((Bl (s.fa.tk.tk.Ra cells)).2).ds.length<=50000:=Nat.le_trans (G ((Bl (s.fa.tk.tk.Ra cells)).2).tk).length_le hF
 have zj:(s.fa.tk.tk.Ra cells).ds.length<=50000:=Nat.le_trans (G _).length_le bj
 have c1:=Bc.up (Xb (D:=D+7) e hc h (by decide)) rfl (Qa z lp)
 have c2:=Bc.up (Xb (D:=D+7) e hc h2 (by decide)) rfl (Qa z lp)
 have t0:=Bc.up (Fp (D:=D+5) (s:=s.fa.tk.tk) e hc zj) rfl (Qa z lp++[.ri 1 0])
 have b0:=Bc.up (B (s.fa.tk.tk.Ra cells) (bj)) (Ud (Eb _)) (Qa z lp++[.ri 1 0])
 have c3:=Bc.up (Xb (D:=D+7) e hc h3 (by decide)) rfl (Qa z lp++[.ta])
 have c4:=Bc.up (B ((Bl (s.fa.tk.tk.Ra cells)).2.tk) (hF)) (Ud (Eb _)) (Qa z lp++[.ta])
 exact Fc e (n:=60) [⟨791,33,41,.Ca true⟩,⟨791,46,62,.Ca true⟩,⟨791,10,29,ho c1⟩,⟨797,96,114,ho c2⟩,⟨797,18,33,ho t0⟩,⟨797,35,72,ho b0⟩,⟨798,37,55,ho c3⟩,⟨798,66,103,ho c4⟩] (l:=[decide (z>0)=true,decide (s.left - 1>0)=true,_,_,(0:Int)<=1+0/\(1:Int)+0<=1000000,_,_,_,_]) (by kernel_rfl) ⟨hz,hl,c1,c2,by decide,t0,b0,c3,c4,trivial⟩ (Fb _).1
theorem VR(hz:decide (z>0)=true)(hl:decide (s.left - 1>0)=true)(h:Aa cells s.fa 11=2)(h2:Aa cells s.fa.tk 2=1)(h3:Aa cells (Bl ((Bl (s.fa.tk.tk.Ra cells)).2.Ra cells)).2 2=0)(B:Nf W cells (D+16) (z - 1) lp Bl)(G:Gw Bl)(hF:((Bl ((Bl (s.fa.tk.tk.Ra cells)).2.Ra cells)).2.tk).ds.length<=50000):Bc W cells (D+17) 1153 [.ob 2,.it z,.bo lp] s (tr (.ifs (.Ic s.fa.tk.tk.ds.length (Bl (s.fa.tk.tk.Ra cells)).1 (.Ic (Bl (s.fa.tk.tk.Ra cells)).2.ds.length (Bl ((Bl (s.fa.tk.tk.Ra cells)).2.Ra cells)).1 .Ec)))).1 (Bl ((Bl (s.fa.tk.tk.Ra cells)).2.Ra cells)).2.tk:=by
 have ut:((Bl ((Bl (s.fa.tk.tk.Ra cells)).2.Ra cells)).2).ds.length<=50000:=hF
 have fk:((Bl (s.fa.tk.tk.Ra cells)).2.Ra cells).ds.length<=50000:=Nat.le_trans (G _).length_le ut
 have bj:((Bl (s.fa.tk.tk.Ra cells)).2).ds.length<=50000:=Nat.le_trans (ve (s:=(Bl (s.fa.tk.tk.Ra cells)).2.tk.tk.tk)).length_le fk
 have zj:(s.fa.tk.tk.Ra cells).ds.length<=50000:=Nat.le_trans (G _).length_le bj
 have c1:=Bc.up (Xb (D:=D+7) e hc h (by decide)) rfl (Qa z lp)
 have c2:=Bc.up (Xb (D:=D+7) e hc h2 (by decide)) rfl (Qa z lp)
 have t0:=Bc.up (Fp (D:=D+5) (s:=s.fa.tk.tk) e hc zj) rfl (Qa z lp++[.ri 1 1])
 have b0:=Bc.up (B (s.fa.tk.tk.Ra cells) (bj)) (Ud (Eb _)) (Qa z lp++[.ri 1 1])
 have t1:=Bc.up (Fp (D:=D+5) (s:=(Bl (s.fa.tk.tk.Ra cells)).2) e hc fk) rfl (Qa z lp++[.ri 2 0])
 have b1:=Bc.up (B ((Bl (s.fa.tk.tk.Ra cells)).2.Ra cells) (ut)) (Ud (Eb _)) (Qa z lp++[.ri 2 0])
 have c3:=Bc.up (Xb (D:=D+7) e hc h3 (by decide)) rfl (Qa z lp++[.ta])
 exact Fc e (n:=60) [⟨791,33,41,.Ca true⟩,⟨791,46,62,.Ca true⟩,⟨791,10,29,ho c1⟩,⟨797,96,114,ho c2⟩,⟨797,18,33,ho t0⟩,⟨797,35,72,ho b0⟩,⟨797,18,33,ho t1⟩,⟨797,35,72,ho b1⟩,⟨798,37,55,ho c3⟩] (l:=[decide (z>0)=true,decide (s.left - 1>0)=true,_,_,(0:Int)<=1+1/\(1:Int)+1<=1000000,_,_,_,_,_]) (by kernel_rfl) ⟨hz,hl,c1,c2,by decide,t0,b0,t1,b1,c3,trivial⟩ (Fb _).1
theorem WR(hz:decide (z>0)=true)(hl:decide (s.left - 1>0)=true)(h:Aa cells s.fa 11=2)(h2:Aa cells s.fa.tk 2=1)(h3:Aa cells (Bl ((Bl (s.fa.tk.tk.Ra cells)).2.Ra cells)).2 2=1)(B:Nf W cells (D+16) (z - 1) lp Bl)(G:Gw Bl)(hF:((Bl (Bl ((Bl (s.fa.tk.tk.Ra cells)).2.Ra cells)).2.tk).2).ds.length<=50000):Bc W cells (D+17) 1153 [.ob 2,.it z,.bo lp] s (tr (.ifs (.Ic s.fa.tk.tk.ds.length (Bl (s.fa.tk.tk.Ra cells)).1 (.Ic (Bl (s.fa.tk.tk.Ra cells)).2.ds.length (Bl ((Bl (s.fa.tk.tk.Ra cells)).2.Ra cells)).1 (.wc (Bl (Bl ((Bl (s.fa.tk.tk.Ra cells)).2.Ra cells)).2.tk).1))))).1 (Bl (Bl ((Bl (s.fa.tk.tk.Ra cells)).2.Ra cells)).2.tk).2:=by
 have ut:((Bl ((Bl (s.fa.tk.tk.Ra cells)).2.Ra cells)).2).ds.length<=50000:=Nat.le_trans (G ((Bl ((Bl (s.fa.tk.tk.Ra cells)).2.Ra cells)).2).tk).length_le hF
 have fk:((Bl (s.fa.tk.tk.Ra cells)).2.Ra cells).ds.length<=50000:=Nat.le_trans (G _).length_le ut
 have bj:((Bl (s.fa.tk.tk.Ra cells)).2).ds.length<=50000:=Nat.le_trans (ve (s:=(Bl (s.fa.tk.tk.Ra cells)).2.tk.tk.tk)).length_le fk
 have zj:(s.fa.tk.tk.Ra cells).ds.length<=50000:=Nat.le_trans (G _).length_le bj
 have c1:=Bc.up (Xb (D:=D+7) e hc h (by decide)) rfl (Qa z lp)
 have c2:=Bc.up (Xb (D:=D+7) e hc h2 (by decide)) rfl (Qa z lp)
 have t0:=Bc.up (Fp (D:=D+5) (s:=s.fa.tk.tk) e hc zj) rfl (Qa z lp++[.ri 1 1])
 have b0:=Bc.up (B (s.fa.tk.tk.Ra cells) (bj)) (Ud (Eb _)) (Qa z lp++[.ri 1 1])
 have t1:=Bc.up (Fp (D:=D+5) (s:=(Bl (s.fa.tk.tk.Ra cells)).2) e hc fk) rfl (Qa z lp++[.ri 2 0])
 have b1:=Bc.up (B ((Bl (s.fa.tk.tk.Ra cells)).2.Ra cells) (ut)) (Ud (Eb _)) (Qa z lp++[.ri 2 0])
 have c3:=Bc.up (Xb (D:=D+7) e hc h3 (by decide)) rfl (Qa z lp++[.ta])
 have c4:=Bc.up (B ((Bl ((Bl (s.fa.tk.tk.Ra cells)).2.Ra cells)).2.tk) (hF)) (Ud (Eb _)) (Qa z lp++[.ta])
 exact Fc e (n:=60) [⟨791,33,41,.Ca true⟩,⟨791,46,62,.Ca true⟩,⟨791,10,29,ho c1⟩,⟨797,96,114,ho c2⟩,⟨797,18,33,ho t0⟩,⟨797,35,72,ho b0⟩,⟨797,18,33,ho t1⟩,⟨797,35,72,ho b1⟩,⟨798,37,55,ho c3⟩,⟨798,66,103,ho c4⟩] (l:=[decide (z>0)=true,decide (s.left - 1>0)=true,_,_,(0:Int)<=1+1/\(1:Int)+1<=1000000,_,_,_,_,_,_]) (by kernel_rfl) ⟨hz,hl,c1,c2,by decide,t0,b0,t1,b1,c3,c4,trivial⟩ (Fb _).1
end
end
section
noncomputable def HH:Nat->Nat
 |0=>5
 |d+1=>HH d+5
section
variable {W:Wd}{cells:List Int}{D:Nat}{z:Int}{lp:Bool}{F:Bool->Bu}{f:Bu}{s:Rs}
theorem IH{t:Te}:∀n s,(tr (Wi (Ng f n s).1 t)).2=(tr (Ng f n s).1).2++(tr t).2
 |0,_=>rfl
 |n+1,_=>congrArg (_::·) (IH n _)
theorem JH:∀n s,(tr (Ng f n s).1).2.length=n
 |0,_=>rfl
 |n+1,_=>congrArg (·+1) (JH n _)
theorem KH(t:Te):(tr (Wi (td cells f s).1 t)).2=(tr (td cells f s).1).2++(tr t).2:=IH _ _
theorem IB:(tr (td cells f s).1).2.length<=3:=by
 refine rt (show(tr (td cells f s).1).2.length=Aa cells s 3+1 from JH _ _) ?_
 exact sf (by decide)
theorem gk(cells:List Int)(s:Rs){G:Prop}(h0:Aa cells s 2=0->G)(h1:Aa cells s 2=1->G):G:=by
 have h:=sf (cells:=cells) (s:=s) (m:=2) (by decide)
 match q:Aa cells s 2,h with
 |0,_=>exact h0 q
 |1,_=>exact h1 q
variable (e:La W)(hc:cells.length<=1000)
include e hc
theorem XR(H:∀lp,cx W cells (D+12) (z - 1) lp (F lp))(G:∀lp,Gw (F lp))(hz:decide (z>0)=true):cx W cells (D+17) z lp (λs=>cond (decide (s.left - 1>0)) (Xc cells (td cells (F lp)) (td cells (F true)) (td cells (F false)) lp (Aa cells s.fa 11) s.fa.tk) (Ve cells s.fa)):=λs=>by
 have B:∀lp,Nf W cells (D+16) (z - 1) lp (td cells (F lp)):=λlp=>GH e hc (H lp) (G lp)
 have K:∀lp,Gw (td cells (F lp)):=λlp=>Ep (G lp)
 refine(?_:Bq _ _ _ _ _ _ (cond _ _ _))
 rcases hl:decide (s.left - 1>0) with _|_
 ·refine(?_:Bq _ _ _ _ _ _ (Ve cells s.fa))
  unfold Ve
  refine gk cells s.fa (λh=>?_) λh=>?_
  ·refine rt h ?_
   exact IR e hc hz hl h
  ·refine rt h ?_
   exact JR e hc hz hl h
 have ac:=sf (cells:=cells) (s:=s.fa) (m:=11) (by decide)
 refine(?_:Bq _ _ _ _ _ _ (Xc _ _ _ _ _ (Aa cells s.fa 11) s.fa.tk))
 generalize h:Aa cells s.fa 11=w at ac
 refine lt11 (P:=λw=>Aa cells s.fa 11=w->Bq _ _ _ _ _ _ (Xc _ _ _ _ _ w s.fa.tk)) ac ?_ ?_ ?_ ?_ ?_ ?_ ?_ ?_ ?_ ?_ ?_ h<;>intro h
 ·exact KR e hc hz hl h
 ·exact LR e hc hz hl h
 ·refine(?_:Bq _ _ _ _ _ _ (on .ifs (Zh _ _ (Aa cells s.fa.tk 2+1)) _))
  refine gk cells s.fa.tk (λh2=>?_) λh2=>?_
  ·refine rt h2 ?_
   refine(?_:Bq _ _ _ _ _ _ (.ifs (.Ic _ _ (Ge _ _ _).1),(Ge _ _ _).2))
   unfold Ge
   refine gk cells (td cells (F lp) (s.fa.tk.tk.Ra cells)).2 (λh3=>?_) λh3=>?_
   ·refine rt h3 ?_
    exact TR e hc hz hl h h2 h3 (B lp) (K lp)
   ·refine rt h3 ?_
    exact UR e hc hz hl h h2 h3 (B lp) (K lp)
  ·refine rt h2 ?_
   refine(?_:Bq _ _ _ _ _ _ (.ifs (.Ic _ _ (.Ic _ _ (Ge _ _ _).1)),(Ge _ _ _).2))
   unfold Ge
   refine gk cells (td cells (F lp) ((td cells (F lp) (s.fa.tk.tk.Ra cells)).2.Ra cells)).2 (λh3=>?_) λh3=>?_
   ·refine rt h3 ?_
    exact VR e hc hz hl h h2 h3 (B lp) (K lp)
   ·refine rt h3 ?_
    exact WR e hc hz hl h h2 h3 (B lp) (K lp)
 ·exact w3 e hc hz hl h (B true) (K true)
 ·refine(?_:Bq _ _ _ _ _ _ (on (.Uc (Aa cells s.fa.tk 2+1)) _ _))
  refine gk cells s.fa.tk (λh2=>?_) λh2=>?_
  ·refine rt h2 ?_
   exact MR e hc hz hl h h2 (B true) (K true)
  ·refine rt h2 ?_
   exact NR e hc hz hl h h2 (B true) (K true)
 ·exact w5 e hc hz hl h (B true) (K true)
 ·exact w6 e hc hz hl h (B true) (K true)
 ·exact w7 e hc hz hl h (B lp) (K lp)
 ·exact w8 e hc hz hl h (B lp) (K lp)
 ·rcases lp with _|_
  ·exact QR e hc hz hl h
  refine(?_:Bq _ _ _ _ _ _ (.Se (Nat.beq (Aa cells s.fa.tk 2) 1),s.fa.tk.tk))
  refine gk cells s.fa.tk (λh2=>?_) λh2=>?_
  ·refine rt h2 ?_
   exact λuu=>OR e hc hz hl h h2
  ·refine rt h2 ?_
   exact λuu=>PR e hc hz hl h h2
 ·refine(?_:Bq _ _ _ _ _ _ (ai _ _ _))
  unfold ai
  refine gk cells (td cells (F false) s.fa.tk).2 (λh2=>?_) λh2=>?_
  ·refine rt h2 ?_
   exact RR e hc hz hl h h2 (B false) (K false)
  ·refine rt h2 ?_
   exact SR e hc hz hl h h2 (B false) (K false) (λt=>KH t) IB
theorem LH:∀d lp,cx W cells (HH d+12) d lp (wh cells d lp)
 |0,lp=>λs=>by
  refine(?_:Bq _ _ _ _ _ _ (Ve cells s.fa))
  unfold Ve
  refine gk cells s.fa (λh=>?_) λh=>?_
  ·refine rt h ?_
   exact GR (D:=0) e hc (by decide) h
  ·refine rt h ?_
   exact HR (D:=0) e hc (by decide) h
 |d+1,lp=>XR e hc (F:=wh cells d) (λlp=>by refine rt (show((d+1:Nat):Int) - 1=d by lia) ?_;exact LH d lp) (Xi d) (decide_eq_true (by lia))
theorem jx:Nf W cells 36 3 false (td cells (wh cells 3 false)):=GH (D:=20) e hc (LH e hc 3 false) (Xi 3 false)
end
end
section
def Ln(f:Bu)(b:Nat):Prop:=∀s,(f s).2.ds.length<=s.ds.length+b
section
variable {cells:List Int}{f B Bl Bt Bf:Bu}{s:Rs}{d:Ga}{b b' h:Nat}
theorem ci:(s.dd d).ds.length=s.ds.length+1:=List.length_append
theorem Ln.le(h:Ln f b)(q:b<=b'):Ln f b':=λs=>Nat.le_trans (h s) (Nat.add_le_add_left q _)
theorem MH(h:Ln f b):∀n,Ln (Ng f n) (n * b)
 |0,_=>Nat.le_add_right _ _
 |n+1,s=>by
  have h1:=h s
  have h2:=MH h n (f s).2
  refine rt (Nat.succ_mul ..) ?_
  refine(?_:(Ng f n (f s).2).2.ds.length<=_)
  lia
theorem kx(h:Ln f b):Ln (td cells f) (3 * b):=λs=>Nat.le_trans (MH h _ s.tk) (Nat.add_le_add_left (Nat.mul_le_mul_right b (sf (by decide))) _)
theorem NH:Ln (Ve cells) 1:=λs=>by
 unfold Ve
 induction Aa cells s 2 using Nat.casesOn<;>exact Nat.le_of_eq ci
theorem YR(h:Ln B b):Ln (Ge cells B) b:=λs=>by
 unfold Ge
 induction Aa cells s 2 using Nat.casesOn with
 |zero=>exact Nat.le_add_right _ _
 |succ _=>exact h s.tk
theorem ZR:(s.Ra cells).ds.length=s.ds.length+1:=ci (s:=s.tk.tk.tk)
theorem Gp:(s.xc cells).ds.length=s.ds.length+1:=ci (s:=s.tk.tk)
theorem JB:(s.qb cells).ds.length=s.ds.length+1:=ci (s:=s.tk)
theorem OH(h:Ln B b):∀n,Ln (Zh cells B n) (b+n * (b+1))
 |0=>(YR h).le (Nat.le_add_right _ _)
 |n+1=>λs=>by
  have h1:=h (s.Ra cells)
  have h2:=OH h n (B (s.Ra cells)).2
  replace h1:=ZR▸h1
  refine rt (Nat.succ_mul ..) ?_
  refine(?_:(Zh cells B n (B (s.Ra cells)).2).2.ds.length<=_)
  lia
theorem aS(hl:Ln Bl b)(ht:Ln Bt b)(hf:Ln Bf b)(lp:Bool)(n:Nat):Ln (Xc cells Bl Bt Bf lp n) (3 * b+3):=λs=>by
 have tw:=λs=>sf (cells:=cells) (s:=s) (m:=2) (by decide)
 unfold Xc
 match n with
 |0=>exact Nat.le_trans (Nat.le_of_eq ci) (by lia)
 |1=>exact Nat.le_trans (Nat.le_of_eq JB) (by lia)
 |2=>
  have h1:=OH (cells:=cells) hl (Aa cells s 2+1) s.tk
  have h2:=Nat.mul_le_mul_right (b+1) (show Aa cells s 2+1<=2 from tw s)
  refine(?_:(Zh cells Bl (Aa cells s 2+1) s.tk).2.ds.length<=s.tk.ds.length+_)
  lia
 |3=>
  have h1:=ht (s.xc cells)
  replace h1:=Gp▸h1
  refine(?_:(Bt (s.xc cells)).2.ds.length<=_)
  lia
 |4=>exact Nat.le_trans (ht s.tk) (Nat.add_le_add_left (by lia) s.ds.length)
 |5=>exact Nat.le_trans (ht s) (Nat.add_le_add_left (by lia) _)
 |6=>
  have h1:=ht (((s.qb cells).xc cells).dd .zb)
  replace h1:=JB▸Gp▸ci▸h1
  refine(?_:(Bt (((s.qb cells).xc cells).dd .zb)).2.ds.length<=_)
  lia
 |7=>
  have h1:=hl s
  have h2:=Gp (cells:=cells) (s:=(Bl s).2)
  refine(?_:((Bl s).2.xc cells).ds.length<=_)
  lia
 |8=>exact Nat.le_trans (hl s) (Nat.add_le_add_left (by lia) _)
 |10=>
  have h1:=hf s
  refine(?_:(ai cells Bf s).2.ds.length<=_)
  unfold ai
  induction Aa cells (Bf s).2 2 using Nat.casesOn with
  |zero=>
   refine(?_:(Bf s).2.ds.length<=_)
   lia
  |succ _=>
   refine(?_:(((Bf s).2.tk.dd .wb).dd .zb).ds.length<=_)
   refine rt ci (rt ci ?_)
   refine(?_:(Bf s).2.ds.length+1+1<=_)
   lia
 |9=>
  rcases lp with _|_
  ·exact Nat.le_trans (Nat.le_of_eq ci) (by lia)
  exact Nat.le_add_right s.ds.length _
 |n+11=>
  rcases lp with _|_
  ·exact Nat.le_trans (Nat.le_of_eq ci) (by lia)
  exact Nat.le_add_right s.ds.length _
noncomputable def dB:Nat->Nat
 |0=>1
 |d+1=>3 * (3 * dB d)+3
theorem lx:∀d lp,Ln (wh cells d lp) (dB d)
 |0,_,s=>NH s.fa
 |d+1,lp,s=>by
  refine(?_:(cond _ _ _:Te×Rs).2.ds.length<=_)
  rcases decide (s.left - 1>0) with _|_
  ·exact Nat.le_trans (NH s.fa) (Nat.add_le_add_left (show 1<=3 * (3 * dB d)+3 by lia) s.ds.length)
  exact aS (kx (lx d lp)) (kx (lx d true)) (kx (lx d false)) lp _ s.fa.tk
def Sh(r h:Nat)(f:Bu):Prop:=∀s,Nat.beq (Ad (f s).1) r=true/\Vb (f s).1 h=true
theorem PH(H:Sh 0 h f):∀n,Sh 1 h (Ng f n)
 |0,_=>⟨rfl,rfl⟩
 |n+1,s=>⟨rfl,(Bool.and_eq_true _ _).mpr ⟨(Bool.and_eq_true _ _).mpr (H s),(Bool.and_eq_true _ _).mpr (PH H n _)⟩⟩
def Bo(h:Nat)(f:Bu):Prop:=∀s,Lf (f s).1 (Vb (f s).1) h=true
theorem QH(H:Sh 0 h f):Bo h (td cells f):=λs=>(Bool.and_eq_true _ _).mpr ⟨(Bool.and_eq_true _ _).mpr (PH H _ s.tk),Nat.ble_eq_true_of_le (Nat.le_trans IB (by decide))⟩
theorem RH(H:Bo h B):∀n,Sh 2 h (Zh cells B n)
 |0,s=>by
  refine(?_:Nat.beq (Ad (Ge cells B s).1) 2=true/\Vb (Ge cells B s).1 h=true)
  unfold Ge
  induction Aa cells s 2 using Nat.casesOn with
  |zero=>exact⟨rfl,rfl⟩
  |succ _=>exact⟨rfl,H s.tk⟩
 |n+1,s=>⟨rfl,(Bool.and_eq_true _ _).mpr ⟨H _,(Bool.and_eq_true _ _).mpr (RH H n _)⟩⟩
theorem LB:∀n s,sg (Zh cells B n s).1=n
 |0,s=>by
  refine(?_:sg (Ge cells B s).1=0)
  unfold Ge
  induction Aa cells s 2 using Nat.casesOn<;>rfl
 |n+1,s=>congrArg (·+1) (LB n _)
theorem SH{t:Te}(H:Sh 0 h f)(ht:Nat.beq (Ad t) 1=true/\Vb t h=true):∀n s,Nat.beq (Ad (Wi (Ng f n s).1 t)) 1=true/\Vb (Wi (Ng f n s).1 t) h=true
 |0,_=>ht
 |n+1,s=>⟨rfl,(Bool.and_eq_true _ _).mpr ⟨(Bool.and_eq_true _ _).mpr (H s),(Bool.and_eq_true _ _).mpr (SH H ht n _)⟩⟩
theorem MB:∀d lp,Sh 0 d (wh cells d lp)
 |0,_,s=>by
  refine(?_:Nat.beq (Ad (Ve cells s.fa).1) 0=true/\Vb (Ve cells s.fa).1 0=true)
  unfold Ve
  induction Aa cells s.fa 2 using Nat.casesOn<;>exact⟨rfl,rfl⟩
 |d+1,lp,s=>by
  have k:=λlp=>QH (cells:=cells) (MB d lp)
  refine(?_:Nat.beq (Ad (cond _ _ _:Te×Rs).1) 0=true/\Vb (cond _ _ _:Te×Rs).1 (d+1)=true)
  rcases decide (s.left - 1>0) with _|_
  ·refine(?_:Nat.beq (Ad (Ve cells s.fa).1) 0=true/\Vb (Ve cells s.fa).1 (d+1)=true)
   unfold Ve
   induction Aa cells s.fa 2 using Nat.casesOn<;>exact⟨rfl,rfl⟩
  refine(?_:Nat.beq (Ad (Xc _ _ _ _ _ (Aa cells s.fa 11) _).1) 0=true/\Vb (Xc _ _ _ _ _ (Aa cells s.fa 11) _).1 (d+1)=true)
  unfold Xc
  match Aa cells s.fa 11 with
  |0=>exact⟨rfl,rfl⟩
  |1=>exact⟨rfl,rfl⟩
  |2=>exact⟨rfl,(Bool.and_eq_true _ _).mpr ⟨(Bool.and_eq_true _ _).mpr (RH (k lp) _ _),(Bool.and_eq_true _ _).mpr ⟨by refine rt (LB ..) ?_;rfl,by refine rt (LB ..) ?_;exact Nat.ble_eq_true_of_le (sf (by decide))⟩⟩⟩
  |3=>exact⟨rfl,k true _⟩
  |4=>exact⟨rfl,k true _⟩
  |5=>exact⟨rfl,k true _⟩
  |6=>exact⟨rfl,k true _⟩
  |7=>exact⟨rfl,k lp _⟩
  |8=>exact⟨rfl,k lp _⟩
  |10=>
   refine(?_:Nat.beq (Ad (ai _ _ _).1) 0=true/\Vb (ai _ _ _).1 (d+1)=true)
   unfold ai
   induction Aa cells (td cells (wh cells d false) s.fa.tk).2 2 using Nat.casesOn with
   |zero=>exact⟨rfl,k false _⟩
   |succ _=>exact⟨rfl,(Bool.and_eq_true _ _).mpr ⟨(Bool.and_eq_true _ _).mpr (SH (MB d false) ⟨rfl,rfl⟩ _ _),Nat.ble_eq_true_of_le (by refine rt (KH ..) (rt (List.length_append ..) ?_);exact Nat.le_trans (Nat.add_le_add_right IB 2) (by decide))⟩⟩
  |9=>induction lp using Bool.casesOn<;>exact⟨rfl,rfl⟩
  |n+11=>induction lp using Bool.casesOn<;>exact⟨rfl,rfl⟩
end
end
section
theorem bS{j k v:Int}(h:j≠k)(r:List (Int×Int)):ag j (Yb k v r)=ag j r:=(Ft Xe k v j r).trans (if_neg h)
theorem NB(k v:Int)(r:List (Int×Int)):cnt k (Yb k v r)=v:=by unfold cnt;refine rt (Rr ..) ?_;rfl
theorem Ip{j k v:Int}(h:j≠k)(r:List (Int×Int)):cnt j (Yb k v r)=cnt j r:=by unfold cnt;exact rt (bS h ..) rfl
structure Nm(m:Mm):Prop where
 nn:∀j:Nat,0<=cnt j m.rd
 Zb:∀i,m.now=some i->i<5
 lg:∀i,some i∈m.Qb->i<5
structure Kp(lo hi:Nat)(m m':Mm):Prop where
 n:Nm m'
 st:∀j:Nat,j<lo\/hi<=j->cnt j m'.rd=cnt j m.rd
inductive Tt(L:List Ga)(t:Te)(lp:Bool)(lo hi c:Nat)(m:Mm):Prop where
 |mk {w:Wy} {m':Mm} {n:Nat}:Bs L t m w m' n->n<=c->Kp lo hi m m'->w.md=true->(lp=false->w=.ok)->Tt L t lp lo hi c m
section
variable {L:List Ga}{t b:Te}{lp:Bool}{lo hi cj Xg c c' k k2 n:Nat}{m m1 m2 m' m0:Mm}{s:Rs}{d:Ga}{cells:List Int}
theorem Kp.refl(h:Nm m):Kp lo hi m m:=⟨h,λuu uu=>rfl⟩
theorem Kp.trans(a:Kp lo hi m m1)(b:Kp lo hi m1 m2):Kp lo hi m m2:=⟨b.n,λj hj=>(b.st j hj).trans (a.st j hj)⟩
theorem Kp.Ba(a:Kp cj Xg m m1)(h1:lo<=cj)(h2:Xg<=hi):Kp lo hi m m1:=⟨a.n,λj hj=>a.st j (hj.elim (λh=>.inl (Nat.lt_of_lt_of_le h h1)) λh=>.inr (Nat.le_trans h2 h))⟩
theorem Kp.Pa(a:Kp lo hi m m1)(h:Nm m0):Kp lo hi m {m1 with now:=m0.now}:=⟨⟨a.n.nn,h.Zb,a.n.lg⟩,a.st⟩
theorem Tt.ok(h:Bs L t m .ok m' n)(hn:n<=c)(k:Kp lo hi m m'):Tt L t lp lo hi c m:=.mk h hn k rfl λuu=>rfl
theorem Tt.Ba(H:Tt L t lp cj Xg c m)(h1:lo<=cj)(h2:Xg<=hi)(hc:c<=c'):Tt L t lp lo hi c' m:=match H with
 |.mk h hn k l j=>.mk h (Nat.le_trans hn hc) (k.Ba h1 h2) l j
theorem Jl(h:(s.dd d).ds<+:L):L[s.ds.length]?=some d:=by
 obtain⟨E,rfl⟩:=h
 rw[List.getElem?_append_left (by rw[ci];exact Nat.lt_succ_self _)]
 exact List.getElem?_concat_length
theorem OB(hs:Nm m)(h:L[k]?=some .zb):Dd L k m true {m with Qb:=m.Qb++[m.now]}/\Kp lo hi m {m with Qb:=m.Qb++[m.now]}:=
 ⟨.zb h,⟨hs.nn,hs.Zb,λi q=>(List.mem_append.mp q).elim (hs.lg i) λq=>hs.Zb i (List.mem_singleton.mp q).symm⟩,λuu uu=>rfl⟩
theorem Nm.at(hs:Nm m){i:Nat}(h:i<5):Nm {m with now:=some i}:=⟨hs.nn,λj e=>Option.some.inj e▸h,hs.lg⟩
theorem PB{i:Nat}(hs:Nm m)(h:L[k]?=some (.qb i))(Xg:i<5):Dd L k m true {m with now:=some i}/\Kp lo hi m {m with now:=some i}:=⟨.qb h Xg,hs.at Xg,λuu uu=>rfl⟩
theorem fS(hs:Nm m)(h:(s.Ra cells).ds<+:L):∃q m1,Dd L s.ds.length m q m1/\Kp lo hi m m1:=by
 have g:=Jl (s:=s.tk.tk.tk) h
 have g:L[s.ds.length]?=some (Sr _ _ _):=g
 revert g
 rcases Aa cells s 3 with _|_|x
 ·exact λg=>⟨_,_,PB hs g (sf (by decide))⟩
 ·exact λg=>⟨_,_,.Rh g (sf (by decide)),hs.at (sf (by decide)),λuu uu=>rfl⟩
 ·exact λg=>⟨_,_,.Uh g,.refl hs⟩
theorem QB(hs:Nm m)(h:(s.xc cells).ds<+:L)(h1:lo<=s.ds.length)(h2:s.ds.length<hi):∃q m1,Dd L s.ds.length m q m1/\Kp lo hi m m1/\(q=true->cnt s.ds.length m.rd+1<=2/\cnt s.ds.length m1.rd=cnt s.ds.length m.rd+1):=by
 have g:L[s.ds.length]?=some (.again _ _):=Jl (s:=s.tk.tk) h
 have hm:=sf (cells:=cells) (s:=s) (m:=3) (by decide)
 have WJ:=sf (cells:=cells) (s:=s.tk) (m:=5) (by decide)
 have k0:=hs.nn s.ds.length
 have ne:∀j:Nat,j<lo\/hi<=j->(j:Int)≠s.ds.length:=λj q=>by lia
 by_cases e:cnt s.ds.length m.rd+1>(Aa cells s 3:Nat)
 ·refine⟨_,_,.no g e,⟨⟨λj=>?_,hs.Zb,hs.lg⟩,λj hj=>?_⟩,λq=>nomatch q⟩
  ·refine(?_:0<=cnt j (Yb _ 0 (Yb _ _ _)))
   by_cases q:(j:Int)=s.ds.length
   ·refine rt (q ..) (rt (NB ..) ?_)
    exact Int.le_refl _
   ·refine rt (Ip q ..) (rt (Ip q ..) ?_)
    exact hs.nn j
  ·refine(?_:cnt j (Yb _ 0 (Yb _ _ _))=_)
   exact(Ip (ne j hj) ..).symm▸(Ip (ne j hj) ..).symm▸rfl
 ·refine⟨_,_,.go g WJ e,⟨⟨λj=>?_,(hs.at WJ).Zb,hs.lg⟩,λj hj=>?_⟩,λuu=>⟨by lia,NB _ _ _⟩⟩
  ·refine(?_:0<=cnt j (Yb _ _ _))
   by_cases q:(j:Int)=s.ds.length
   ·refine rt (q ..) (rt (NB ..) ?_)
    exact Int.le_add_one k0
   ·refine rt (Ip q ..) ?_
    exact hs.nn j
  ·refine(?_:cnt j (Yb _ _ _)=_)
   exact rt (Ip (ne j hj) ..) rfl
theorem RB{P:Nat->Prop}(h:∀f,(∀g,f=g+1->P g)->P f)(f:Nat):P f:=by
 induction f with
 |zero=>exact h 0 λg e=>nomatch e
 |succ f ih=>exact h _ λg e=>Nat.succ.inj e▸ih
structure px(lo hi cj Xg k:Nat):Prop where
 l1:lo<=cj
 l2:Xg<=hi
 h1:lo<=k
 h2:k<hi
 o:k<cj\/Xg<=k
variable (r:px lo hi cj Xg s.ds.length)(hr:(s.xc cells).ds<+:L)
include r hr
theorem gS(ih:∀m,Nm m->Tt L b true cj Xg c m):∀(f:Nat) (m:Mm),Nm m->2 - cnt s.ds.length m.rd<=f->Tt L (.qe s.ds.length b) false lo hi (f * (c+2)+1) m:=RB λf H m hs hf=>by
  obtain⟨q,m1,d,k1,hq⟩:=QB hs hr r.h1 r.h2
  rcases q with _|_
  ·exact .ok (.mB d) (Nat.le_add_left _ _) (k1.Pa hs)
  obtain⟨q1,q2⟩:=hq rfl
  cases f with
  |zero=>lia
  |succ f=>
   have H:=H f rfl
   induction ih m1 k1.n using Tt.casesOn with
   |@mk w m2 n hb hn k2 l j=>
    have kk:=(k1.trans (k2.Ba r.l1 r.l2)).Pa hs
    have e:(f+1) * (c+2)=f * (c+2)+(c+2):=Nat.succ_mul _ _
    rcases g:w.go with _|_
    ·cases w with
     |Va=>exact .ok (.nB d hb) (by lia) kk
     |ok=>exact nomatch g
     |next=>exact nomatch g
     |wb=>exact nomatch l
    cases H {m2 with now:=m.now} kk.n (by refine(?_:2 - cnt _ m2.rd<=f);refine rt (k2.st _ r.o ..) (rt (q2 ..) ?_);lia) with
     |mk h3 cX k3 l3 j3=>
      cases j3 rfl
      exact .ok (.oB d g hb h3) (by lia) (kk.trans k3)
theorem iS(h3:L[k2]?=some .zb)(ih:∀m,Nm m->Tt L b true cj Xg c m):∀(f:Nat) (m:Mm),Nm m->2 - cnt s.ds.length m.rd<=f->Tt L (.Ti s.ds.length k2 b) false lo hi (f * (c+3)+1) m:=RB λf H m hs hf=>by
  obtain⟨q,m1,d,k1,hq⟩:=QB hs hr r.h1 r.h2
  rcases q with _|_
  ·exact .ok (.rB d) (Nat.le_add_left _ _) k1
  obtain⟨q1,q2⟩:=hq rfl
  cases f with
  |zero=>lia
  |succ f=>
   have H:=H f rfl
   induction ih m1 k1.n using Tt.casesOn with
   |@mk w m2 n hb hn k2 l j=>
    have kk:=(k1.trans (k2.Ba r.l1 r.l2)).Pa k1.n
    have e:(f+1) * (c+3)=f * (c+3)+(c+3):=Nat.succ_mul _ _
    rcases g:w.go with _|_
    ·cases w with
     |Va=>exact .ok (.tB d hb) (by lia) kk
     |ok=>exact nomatch g
     |next=>exact nomatch g
     |wb=>exact nomatch l
    have t:=OB (lo:=lo) (hi:=hi) kk.n h3
    cases H _ t.2.n (by refine(?_:2 - cnt _ m2.rd<=f);refine rt (k2.st _ r.o ..) (rt (q2 ..) ?_);lia) with
    |mk h4 YX k4 l4 j4=>
     cases j4 rfl
     exact .ok (.uB d g hb t.1 h4) (by lia) ((kk.trans t.2).trans k4)
theorem jS(ih:∀m,Nm m->Tt L b lp cj Xg c m):∀(f:Nat) (m:Mm),Nm m->2 - cnt s.ds.length m.rd<=f->Tt L (.Ui b s.ds.length) lp lo hi ((f+1) * (c+2)) m:=RB λf H m hs hf=>by
  have e:(f+1) * (c+2)=f * (c+2)+(c+2):=Nat.succ_mul _ _
  induction ih m hs using Tt.casesOn with
  |@mk w m1 n hb hn k1 l j=>
   have kk:=(k1.Ba r.l1 r.l2).Pa hs
   rcases g:w.Si with _|_
   ·exact .mk (.yB g hb) (by lia) kk l j
   induction w using Wy.casesOn with
   |ok=>
    obtain⟨q,m2,d,k2,hq⟩:=QB kk.n hr r.h1 r.h2
    rcases q with _|_
    ·exact .ok (.wB hb d) (by lia) (kk.trans k2)
    obtain⟨q1,q2⟩:=hq rfl
    have q1:cnt s.ds.length m1.rd+1<=2:=q1
    have q2:cnt s.ds.length m2.rd=cnt s.ds.length m1.rd+1:=q2
    have q0:=k1.st _ r.o
    cases f with
    |zero=>lia
    |succ f=>
     have H:=H f rfl
     cases H m2 k2.n (by lia) with
     |mk h3 cX k3 l3 j3=>
      exact .mk (.xB hb d h3) (by have:(f+1) * (c+2)=f * (c+2)+(c+2):=Nat.succ_mul _ _;lia) ((kk.trans k2).trans k3) l3 j3
   |next=>exact nomatch g
   |Va=>exact nomatch g
   |wb=>exact nomatch g
end
end
section
def xh(c:Nat)(lp:Bool)(f:Bu):Prop:=∀s L,(f s).2.ds<+:L->∀m,Nm m->Tt L (f s).1 lp s.ds.length (f s).2.ds.length c m
inductive Tu(L:List Ga)(t:Te)(lp:Bool)(lo hi c:Nat)(m:Mm):Prop where
 |mk {w:Wy} {m':Mm} {n:Nat}:Bs L t m w m' n->n<=c->Kp lo hi m m'->w.md=true->(lp=false->w=.ok)->(w=.ok->∀r w2 m2 n2,Bs L r m' w2 m2 n2->Bs L (Wi t r) m w2 m2 (n2+n))->Tu L t lp lo hi c m
def Jp(c:Nat)(lp:Bool)(f:Bu):Prop:=∀s L,(f s).2.ds<+:L->∀m,Nm m->Tu L (f s).1 lp s.ds.length (f s).2.ds.length c m
theorem Jp.TH{c:Nat}{lp:Bool}{f:Bu}(H:Jp c lp f):xh c lp f:=λs L h m hs=>match H s L h m hs with
 |.mk a b c d e _=>.mk a b c d e
section
variable {cells:List Int}{f B Bl Bt Bf:Bu}{lp:Bool}{c n:Nat}{L:List Ga}
theorem UH(H:xh c lp f)(G:Gw f):∀n,Jp (n * c) lp (Ng f n)
 |0,_,_,_,_,hs=>.mk .nil (Nat.zero_le _) (.refl hs) rfl (λuu=>rfl) λuu uu uu uu uu h=>h
 |n+1,s,L,h,m,hs=>by
  have e:(n+1) * c=n * c+c:=Nat.succ_mul _ _
  have g:=FB G n (f s).2
  induction H s L (g.trans h) m hs using Tt.casesOn with
  |@mk w m1 n1 h1 hn k l j=>
   have kk:=k.Ba (lo:=s.ds.length) (hi:=(Ng f n (f s).2).2.ds.length) (Nat.le_refl _) g.length_le
   rcases q:w.Si with _|_
   ·exact .mk (.Hc q h1) (by lia) kk l j λe=>by replace q:=e▸q;exact nomatch q
   induction w using Wy.casesOn with
   |ok=>
    refine Tu.casesOn (UH H G n (f s).2 L h m1 k.n) λh2 dX k2 l2 j2 a2=>?_
    exact .mk (.cons h1 h2) (by lia) (kk.trans (k2.Ba (G s).length_le (Nat.le_refl _))) l2 j2 λe r w2 m2 n2 y=>Nat.add_assoc ..▸.cons h1 (a2 e r w2 m2 n2 y)
   |next=>exact nomatch q
   |Va=>exact nomatch q
   |wb=>exact nomatch q
theorem rx(H:xh c lp f)(G:Gw f):Jp (3 * c) lp (td cells f):=λs L h m hs=>match UH H G _ s.tk L h m hs with
 |.mk a b c d e f=>.mk a (Nat.le_trans b (Nat.mul_le_mul_right _ (sf (by decide)))) c d e f
theorem tx:xh 2 lp (uf .zb):=λs L h m hs=>.ok (.lc (OB (lo:=s.ds.length) (hi:=(uf .zb s).2.ds.length) hs (Jl h)).1) (Nat.le_refl _) (OB hs (Jl h)).2
theorem VH:xh 2 lp (vh cells):=λs L h m hs=>
 have g:=Jl (s:=s.tk) h
 have q:=PB (lo:=s.ds.length) (hi:=(vh cells s).2.ds.length) hs g (sf (by decide))
 .ok (.lc q.1) (Nat.le_refl _) q.2
theorem WH:xh 2 lp (Ve cells):=λs L=>by
 unfold Ve
 induction Aa cells s 2 using Nat.casesOn with
 |zero=>exact tx s.tk L
 |succ _=>exact VH s.tk L
theorem XH(H:xh c lp B)(G:Gw B):∀n,xh (c+n) lp (Zh cells B n)
 |0,s,L=>by
  refine(?_:(Ge cells B s).2.ds<+:L->∀m,Nm m->Tt L (Ge cells B s).1 lp s.ds.length (Ge cells B s).2.ds.length c m)
  unfold Ge
  induction Aa cells s 2 using Nat.casesOn with
  |zero=>exact λh m hs=>.ok .Ec (Nat.zero_le _) (.refl hs)
  |succ _=>exact λh m hs=>match H s.tk L h m hs with
   |.mk h1 hn k l j=>.mk (.wc h1) hn (k.Pa hs) l j
 |n+1,s,L=>λh m hs=>by
  have g:=GB (cells:=cells) G n (B (s.Ra cells)).2
  have gb:=G (s.Ra cells)
  have gt:s.ds<+:(s.Ra cells).ds:=ve (s:=s.tk.tk.tk)
  have h2:=g.trans h
  obtain⟨q,m1,d,k⟩:=fS (lo:=s.ds.length) (hi:=(Zh cells B (n+1) s).2.ds.length) hs (gb.trans h2)
  rcases q with _|_
  ·refine Tt.casesOn (XH H G n (B (s.Ra cells)).2 L h m1 k.n) λh3 hn k2 l j=>?_
   exact .mk (.lB d h3) (Nat.succ_le_succ hn) (k.trans (k2.Ba (gt.trans gb).length_le (Nat.le_refl _))) l j
  refine Tt.casesOn (H (s.Ra cells) L h2 m1 k.n) λh3 hn k2 l j=>?_
  exact .mk (.kB d h3) (by lia) (k.trans ((k2.Ba gt.length_le g.length_le).Pa k.n)) l j
theorem kS(H:Jp c false B):xh (c+3) lp (ai cells B):=λs L=>by
 unfold ai
 induction Aa cells (B s).2 2 using Nat.casesOn with
 |zero=>exact λh m hs=>match H s L h m hs with
  |.mk h1 hn k l j _=>.ok (.ue (.inl (j rfl)) h1) (by lia) (k.Pa hs)
 |succ _=>
   intro h m hs
   have g1:((B s).2.tk.dd .wb).ds<+:(((B s).2.tk.dd .wb).dd .zb).ds:=ve
   have g0:(B s).2.ds<+:((B s).2.tk.dd .wb).ds:=ve (s:=(B s).2.tk)
   have e:L[(B s).2.ds.length]?=some .wb:=Jl (s:=(B s).2.tk) (g1.trans h)
   refine Tu.casesOn (H s L (g0.trans (g1.trans h)) m hs) λh1 hn k l j a=>?_
   exact .ok (.ue (.inr rfl) (a (j rfl) _ _ _ _ (.Hc rfl (.wb e)))) (by lia) ((k.Ba (Nat.le_refl _) (g0.trans g1).length_le).Pa hs)
theorem TB{m:Mm}(hs:Nm m)(k:Nat):2 - cnt k m.rd<=(2:Nat):=by have:=hs.nn k;lia
theorem nS(Hl:xh c lp Bl)(Ht:xh c true Bt)(Hf:Jp c false Bf)(gl:Gw Bl)(gt:Gw Bt)(n:Nat):xh (3 * c+10) lp (Xc cells Bl Bt Bf lp n):=λs L=>by
 refine nat11 n (λn=>?_) ?_ ?_ ?_ ?_ ?_ ?_ ?_ ?_ ?_ ?_ ?_
 ·rcases lp with _|_
  ·exact λh m hs=>(tx s L h m hs).Ba (Nat.le_refl _) (Nat.le_refl _) (by lia)
  exact λh m hs=>.mk .Se (by lia) (.refl hs) (by unfold jw;induction Nat.beq _ _ using Bool.casesOn<;>rfl) (λq=>nomatch q)
 ·exact λh m hs=>(tx s L h m hs).Ba (Nat.le_refl _) (Nat.le_refl _) (by lia)
 ·exact λh m hs=>(VH s L h m hs).Ba (Nat.le_refl _) (Nat.le_refl _) (by lia)
 ·exact λh m hs=>match XH Hl gl _ s.tk L h m hs with
  |.mk h1 hn k l j=>.mk (.ifs l h1) (by have:=sf (cells:=cells) (s:=s) (m:=2) (by decide);lia) k l j
 ·intro h m hs
  have h0:(s.xc cells).ds.length=_:=Gp
  have g:=gt (s.xc cells)
  have hi:=g.length_le
  have r:px s.ds.length (Bt (s.xc cells)).2.ds.length (s.xc cells).ds.length (Bt (s.xc cells)).2.ds.length s.ds.length:=⟨by lia,Nat.le_refl _,Nat.le_refl _,by lia,.inl (by lia)⟩
  refine Tt.casesOn (gS r (g.trans h) (Ht (s.xc cells) L h) 2 m hs (TB hs _)) λh1 hn k l j=>?_
  cases j rfl
  exact .ok (.Pe h1) (by lia) k
 ·intro h m hs
  have y:∀m,Nm m->Tt L (Bt s.tk).1 true s.ds.length (Bt s.tk).2.ds.length c m:=Ht s.tk L h
  refine(?_:Tt L (.Uc (Aa cells s 2+1) (Bt s.tk).1) lp s.ds.length (Bt s.tk).2.ds.length _ m)
  induction y m hs using Tt.casesOn with
  |@mk w m1 n1 h1 hn k l j=>
   refine gk cells s (λq=>?_) λq=>?_
   ·refine rt q ?_
    exact .ok (.e1 l h1) (by lia) (k.Pa hs)
   ·refine rt q ?_
    have kk:=k.Pa hs
    rcases g:w.go with _|_
    ·induction w using Wy.casesOn with
     |Va=>exact .ok (.pB h1) (by lia) kk
     |ok=>exact nomatch g
     |next=>exact nomatch g
     |wb=>exact nomatch l
    refine Tt.casesOn (y _ kk.n) λh2 dX k2 l2 j2=>?_
    exact .ok (.qB g h1 l2 h2) (by lia) ((kk.trans k2).Pa hs)
 ·exact λh m hs=>match Ht s L h m hs with
  |.mk h1 hn k l j=>.ok (.bare l h1) (by lia) (k.Pa hs)
 ·intro h m hs
  have h0:=JB (cells:=cells) (s:=s)
  have h1:=Gp (cells:=cells) (s:=s.qb cells)
  have h2:=ci (s:=(s.qb cells).xc cells) (d:=.zb)
  have g:=gt (((s.qb cells).xc cells).dd .zb)
  have hi:=g.length_le
  have g3:=g.trans h
  have g2:=(ve (s:=(s.qb cells).xc cells)).trans g3
  have q:=PB (lo:=s.ds.length) (hi:=(Bt (((s.qb cells).xc cells).dd .zb)).2.ds.length) hs (Jl (s:=s.tk) (Il.trans g2)) (sf (by decide))
  have r:px s.ds.length (Bt (((s.qb cells).xc cells).dd .zb)).2.ds.length (((s.qb cells).xc cells).dd .zb).ds.length (Bt (((s.qb cells).xc cells).dd .zb)).2.ds.length (s.qb cells).ds.length:=⟨by lia,Nat.le_refl _,by lia,by lia,.inl (by lia)⟩
  refine Tt.casesOn (iS r g2 (Jl g3) (Ht _ L h) 2 _ q.2.n (TB q.2.n _)) λh1 hn k l j=>?_
  cases j rfl
  exact .ok (.Qe q.1 h1) (by lia) ((q.2.trans k).Pa hs)
 ·intro h m hs
  have h0:=Gp (cells:=cells) (s:=(Bl s).2)
  have hi:=(gl s).length_le
  have r:px s.ds.length ((Bl s).2.xc cells).ds.length s.ds.length (Bl s).2.ds.length (Bl s).2.ds.length:=⟨Nat.le_refl _,by lia,hi,by lia,.inr (Nat.le_refl _)⟩
  refine Tt.casesOn (jS r h (Hl s L (Il.trans h)) 2 m hs (TB hs _)) λh1 hn k l j=>?_
  exact .mk (.Jf l h1) (by lia) k l j
 ·exact λh m hs=>match Hl s L h m hs with
  |.mk h1 hn k l j=>.mk (.Gf l h1) (by lia) (k.Pa hs) l j
 ·rcases lp with _|_
  ·exact λh m hs=>(tx s L h m hs).Ba (Nat.le_refl _) (Nat.le_refl _) (by lia)
  exact λh m hs=>.mk .Se (by lia) (.refl hs) (by unfold jw;induction Nat.beq _ _ using Bool.casesOn<;>rfl) (λq=>nomatch q)
 ·exact λh m hs=>(kS Hf s L h m hs).Ba (Nat.le_refl _) (Nat.le_refl _) (by lia)
noncomputable def cB:Nat->Nat
 |0=>2
 |d+1=>3 * (3 * cB d)+10
theorem ux:∀d lp,xh (cB d) lp (wh cells d lp)
 |0,_,s,L=>WH s.fa L
 |d+1,lp,s,L=>by
  refine(?_:(cond _ _ _:Te×Rs).2.ds<+:L->∀m,Nm m->Tt L (cond _ _ _:Te×Rs).1 lp s.ds.length (cond _ _ _:Te×Rs).2.ds.length _ m)
  rcases decide (s.left - 1>0) with _|_
  ·exact λh m hs=>(WH s.fa L h m hs).Ba (Nat.le_refl _) (Nat.le_refl _) (show 2<=3 * (3 * cB d)+10 by lia)
  exact nS (rx (ux d lp) (Xi d lp)).TH (rx (ux d true) (Xi d true)).TH (rx (ux d false) (Xi d false)) (Ep (Xi d lp)) (Ep (Xi d true)) _ s.fa.tk L
end
end
theorem dc.oS{W:Wd}(ok:W.Ok){N:Nat}{c:Cx}{D:Nat}{s:Stmt}{loc loc1 ub:Lc}{st S' G:St}(E:dc W.fi c D s loc st (.ok .next) loc1 (S'++G))(hS:st.length=N/\S'.length=N)(h2:S'.all (Ee λn=>Nat.blt n N)=true)(hl:∀x sv,lk x ub=some sv->lk x loc1=some sv/\De (λn=>Nat.blt n N) sv=true):dc W.fi c D s loc st (.ok .next) ub S':=λfd Γ ad s0 M uu=>by
 refine wpAny_mono (E fd Γ ad s0 M trivial) (λv s2 z=>?_) λuu uu z=>z.ok
 refine Po.casesOn z.po λia r M' x=>?_
 have la:ia.length=N+G.length:=M'.r.len.trans (by exact(List.length_append ..).symm▸(hS.2 ..).symm▸rfl)
 have nd:(List.range N).Nodup:=List.nodup_range
 have ac:∀p∈List.range N,p<ia.length:=λp m=>by refine rt la ?_;exact Nat.lt_of_lt_of_le (List.mem_range.mp m) (Nat.le_add_right _ _)
 have rn:∀n,n<N->ix (List.range N) n=some n:=λn h=>oh nd (List.getElem?_range h)
 have r1:=M'.r.mh (W:=W.fi.on fd) (F:=S'++G) .fi nd ac
 replace r1:=(Zv _ hS.2 h2 ..)▸r1
 have r':pb (W.fi.on fd) Γ.L ad s0 (Nd (List.range N) ia) s2:=⟨⟨λ{i a} e=>?_,λa m=>r.g.new a (kj ac a m)⟩,r.k,r.e⟩
 ·refine⟨.next,rfl,_,r',M.next (sx1:=⟨ub,_,[]⟩) (ok.mw _|>.on fd) r' r1 (M'.lo.imp λmm y=>⟨y.1,λx=>?_⟩),x⟩
  have:=y.2 x
  revert this
  rcases e:lk x ub with _|sv
  ·exact λuu=>trivial
  refine rt ((hl x sv e).1 ..) ?_
  refine Exists.imp λv z=>⟨z.1,?_⟩
  have b:=Oh (z:=λn=>(ia[n]?).getD 0) (ps:=List.range N) (k:=N+G.length) (λj h=>have h:=Nat.le_of_ble_eq_true h;⟨rn j h,Nat.lt_of_lt_of_le h (Nat.le_add_right ..)⟩) (hl x sv e).2
  have y:=(V.bf (Sk (W:=W.fi.on fd) ac (λuu uu uu=>rfl) λuu uu uu=>rfl) (by refine rt la ?_;exact b.1) v).mp z.2
  replace y:=b.2▸y
  exact V.fd (W:=W.fi) (fd1:=fd++Le (List.range N) ia) (fd2:=fd) (λb o e n=>⟨λm=>n (List.mem_append_left _ m),e⟩) y
 ·have hi:i<N:=hS.1▸M.r.len▸(List.getElem?_eq_some_iff.mp (Hb e)).1
  have this:=List.getElem?_range hi
  exact(Oj (ad:=ia) this (ac _ (List.mem_range.mpr hi))).elim λb y=>yc (Gh e) (sj y.2 (Hb (r.g.get e))▸y.1)
section
noncomputable def nv:Option Nat->SV
 |none=>.nn
 |some i=>.it (i:Nat)
noncomputable def pS:Bool->SV
 |true=>.bo true
 |false=>.nn
noncomputable def YH(ds:List SV)(m:Mm)(op:Bool):St:=[.ls [] ds [],.ns [(UG,nv m.now),(bp,.ob 2),(Dw,.ob 3),(VG,pS op)],.ls [] (m.Qb.map nv) [],.dz m.rd]
noncomputable abbrev Gb(L:List Ga)(m:Mm)(op:Bool):St:=YH (L.map Ga.sv) m op
noncomputable abbrev UB(n:Nat):Bool:=Nat.blt n 4
theorem VB{ds:List SV}{m:Mm}{op:Bool}:(YH ds m op).all (Ee UB)=true:=by
 obtain⟨now,l,r⟩:=m
 induction now using Option.casesOn<;>induction op using Bool.casesOn<;>rfl
def Ow(W:Wd)(L:List Ga)(D:Nat)(f:Addr)(vs:List SV)(m:Mm)(op:Bool)(v:SV)(m':Mm)(iq:Bool):Prop:=∀fd,ba (W.fi.on fd) .nn D (.tp f) vs (Gb L m op) (.ok v) (Gb L m' iq)
section
variable {W:Wd}{L:List Ga}{D n k N:Nat}{f:Addr}{vs:List SV}{v:SV}{m m':Mm}{op iq c:Bool}{l:List Prop}{b:Ck}(e:La W)
theorem Ow.up(c:Ow W L D f vs m op v m' iq)(hv:Mc UB (v::vs)=true)(X:St)(fd:List Addr):ba (W.fi.on fd) .nn D (.tp f) vs (Gb L m op++X) (.ok v) (Gb L m' iq++X):=AH c ⟨rfl,rfl⟩ ((Bool.and_eq_true _ _).mpr ⟨hv,(Bool.and_eq_true _ _).mpr ⟨VB,VB⟩⟩) X fd
theorem WB(hl:L.length<=100000){d:Ga}(h:L[k]?=some d):Rn.Ce (L.map Ga.sv++[]) (k:Int)=some d.sv:=by
 refine rt (List.append_nil ..) ?_
 unfold Rn.Ce
 refine(show Nat.ble (L.map Ga.sv).length 1000000=true from Nat.ble_eq_true_of_le (by rw[List.length_map];exact Nat.le_trans hl (by decide))).symm▸?_
 refine(?_:(L.map Ga.sv)[k]?=some d.sv)
 refine rt (List.getElem?_map ..) (rt (h ..) ?_)
 rfl
include e
theorem gi(hs:List Jd)(q:((Rn.cg TP.tb (Rn.Xa W.fi TP.tb n) .nn D f vs ⟨[],Gb L m op,hs⟩).bind λx=>some (x.1,x.2.1.st.take 4,x.2.2))=some (.ok v,Gb L m' iq,l))(hl:Me l)(hv:Ia v=true):Ow W L D f vs m op v m' iq:=
 zH e hs q hl ⟨rfl,rfl⟩ ((Bool.and_eq_true _ _).mpr ⟨Nc hv,VB⟩)
theorem qS(hl:L.length<=100000)(d:Dd L k m c m')(B:Bd m b (N+1)):Ow W L (D+9) 1160 [.ob 1,.ob 0,Wa k] m op (.bo c) m' op:=by
 have z:=λ{x}=>WB (L:=L) (k:=k) hl (d:=x)
 obtain⟨now,lg,rd⟩:=m
 induction d using Dd.casesOn with
 |zb h=>
  have e1:Gb L ⟨now,lg++[now],rd⟩ op=(Gb L ⟨now,lg,rd⟩ op).set 2 (.ls [] (lg.map nv++[nv now]) []):=by
   refine(?_:(Gb L ⟨now,lg,rd⟩ op).set 2 (.ls [] ((lg++[now]).map nv) [])=_)
   refine rt (List.map_append ..) ?_
   rfl
  induction now using Option.casesOn<;>exact gi e (n:=60) [⟨820,11,25,.item Ga.zb.sv⟩] (l:=[_,0+(lg.map nv).length<=100000]) (by refine rt e1 ?_;kernel_rfl) ⟨z h,by refine rt (List.length_map ..) ?_;have:lg.length+(N+1)<=50000:=B.lg;lia,trivial⟩ rfl
 |@qb i h hi=>exact gi e (n:=60) [⟨820,11,25,.item (Ga.qb i).sv⟩] (l:=[_]) (by kernel_rfl) ⟨z h,trivial⟩ rfl
 |@Rh i h hi=>exact gi e (n:=60) [⟨820,11,25,.item (Ga.Rh i).sv⟩] (l:=[_]) (by kernel_rfl) ⟨z h,trivial⟩ rfl
 |Uh h=>exact gi e (n:=60) [⟨820,11,25,.item Ga.Uh.sv⟩] (l:=[_]) (by kernel_rfl) ⟨z h,trivial⟩ rfl
 |@go mm i h hi hm=>
  exact gi e (n:=60) [⟨820,11,25,.item (Ga.again mm i).sv⟩,⟨827,33,62,.item (.it (cnt k rd))⟩,⟨828,11,33,.item (.it (cnt k rd+1))⟩,⟨828,11,43,.Ca false⟩]
   (l:=[_,some (((ag k rd).map SV.it).getD (.it 0))=some (.it (cnt k rd)),rd.length<=100000,Be k (gh (Yb k (cnt k rd+1) rd))=some (.it (cnt k rd+1)),decide (cnt k rd+1>mm)=false]) (by kernel_rfl)
   ⟨z h,by unfold cnt;induction ag k rd using Option.casesOn<;>rfl,Nat.le_of_succ_le B.r1,by refine rt (Pn ..) (rt (Rr ..) ?_);rfl,decide_eq_false hm,trivial⟩ rfl
 |@no mm i h hm=>
  exact gi e (n:=60) [⟨820,11,25,.item (Ga.again mm i).sv⟩,⟨827,33,62,.item (.it (cnt k rd))⟩,⟨828,11,33,.item (.it (cnt k rd+1))⟩,⟨828,11,43,.Ca true⟩]
   (l:=[_,some (((ag k rd).map SV.it).getD (.it 0))=some (.it (cnt k rd)),rd.length<=100000,Be k (gh (Yb k (cnt k rd+1) rd))=some (.it (cnt k rd+1)),decide (cnt k rd+1>mm)=true,(Yb k (cnt k rd+1) rd).length<=100000]) (by kernel_rfl)
   ⟨z h,by unfold cnt;induction ag k rd using Option.casesOn<;>rfl,Nat.le_of_succ_le B.r1,by refine rt (Pn ..) (rt (Rr ..) ?_);rfl,decide_eq_true hm,Nat.le_trans (Om k _ rd) B.r1,trivial⟩ rfl
theorem ZH(q:Ow W L D 1160 [.ob 1,.ob 0,Wa k] m false (.bo c) m' false):Ow W L (D+2) 1193 [.ob 1,.ob 0,Wa k] m false (.bo c) m' c:=by
 have a:=ba.up q 1
 induction c using Bool.casesOn<;>exact gi e (n:=60) [⟨886,7,34,ho a⟩] (l:=[_]) (by kernel_rfl) ⟨a,trivial⟩ rfl
end
end
section
noncomputable def wS:Wy->Str
 |.ok=>q0
 |.next=>tj
 |.Va=>Oe
 |.wb=>CA
noncomputable def Kl(f:Addr):Cx:=⟨(pp f).scope,om (pp f).scope.names [] 4,.nn,true,(pp f).me⟩
noncomputable def zW(Ls:List SV)(i:Nat):St:=[.cell (some (.ob 1)),.cell (some (.ob 0)),.li (.fl Ls) i]
noncomputable def we(b:SV):Option (SV×Str)->Lc
 |none=>[(Uj,b)]
 |some (x,w)=>[(Uj,b),(Pi,x),(Ew,.st w)]
noncomputable def Mp:Stmt:=iL 1 (Td (sB 1186 0))
noncomputable def aI:Wy->Fl
 |.wb=>.ret (.st CA)
 |.ok=>.next
 |.next=>.next
 |.Va=>.next
noncomputable def XB:Wy->Str
 |.wb=>q0
 |.ok=>q0
 |.next=>tj
 |.Va=>Oe
def Yc(W:Wd)(L:List Ga)(D:Nat)(x:SV)(m:Mm)(w:Wy)(m':Mm):Prop:=∀(b:SV) (Ls:List SV) (i:Nat),Ia b=true->clos Ls=true->dc W.fi (Kl 1186) D Mp (we b (some (x,q0))) (Gb L m false++zW Ls i) (.ok (aI w)) (we b (some (x,XB w))) (Gb L m' false++zW Ls i)
section
variable {W:Wd}{L:List Ga}{D n k:Nat}{m m1 m':Mm}{w:Wy}{x b v a1:SV}{Ls Lb:List SV}{i:Nat}{p:Option (SV×Str)}{hs:List Jd}{l:List Prop}{c:Bool}(e:La W)
include e
theorem vf{f:Fl}{loc ub:Lc}{st db:St}(hs:List Jd)(q:rep (Rn.pj W.fi (Rn.Xa W.fi TP.tb 50) TP.tb (Kl 1186) D Mp ⟨loc,st,hs⟩)=some (.ok f,ub,db,l))(hl:Me l):dc W.fi (Kl 1186) D Mp loc st (.ok f) ub db:=Jz (e.ok.mw _) (e.hT _) hs q hl
theorem rS(hl:L.length<=100000)(d:Dd L k m c m')(q:Ow W L D 1160 [.ob 1,.ob 0,Wa k] m false (.bo c) m' false):Yc W L D (Ye (Wa k)) m .ok m':=λb Ls i uu uu=>by
 have z:=λ{x}=>WB (L:=L) (k:=k) hl (d:=x)
 have a:=q.up rfl (zW Ls i)
 have go:∀{y:Ga},L[k]?=some y->y≠.wb->dc W.fi (Kl 1186) D Mp (we b (some (Ye (Wa k),q0))) (Gb L m false++zW Ls i) (.ok .next) (we b (some (Ye (Wa k),q0))) (Gb L m' false++zW Ls i):=λ{y} h hd=>
  vf e [⟨860,15,32,.item y.sv⟩,⟨862,12,42,ho a⟩] (l:=[_,_]) (by induction y using Ga.casesOn<;>first|exact absurd rfl hd|kernel_rfl) ⟨z h,a,trivial⟩
 induction d using Dd.casesOn with
 |zb h=>exact go h nofun
 |qb h=>exact go h nofun
 |Rh h=>exact go h nofun
 |Uh h=>exact go h nofun
 |go h=>exact go h nofun
 |no h=>exact go h nofun
theorem sS(hl:L.length<=100000)(h:L[k]?=some .wb):Yc W L D (Ye (Wa k)) m .wb m:=λb Ls i uu uu=>
 vf e [⟨860,15,32,.item Ga.wb.sv⟩] (l:=[_]) (by kernel_rfl) ⟨WB hl h,trivial⟩
theorem tS{l:Bool}:Yc W L D (Ye (.tu [.st (uH l),.st q0])) m (jw l) m:=λb Ls i uu uu=>by
 induction l using Bool.casesOn<;>exact vf e [] (l:=[]) (by kernel_rfl) trivial
omit e in
theorem yh{y:SV}(hv:Ia v=true)(hy:Ia y=true):Mc UB [v,.ob 1,.ob 0,y]=true:=(Bool.and_eq_true _ _).mpr ⟨Nc hv,Nc (x:=.tu [y]) (cc hy (l:=[]) rfl)⟩
theorem uS(q:Ow W L D 1167 [.ob 1,.ob 0,Kb Lb] m false v m' false)(hb:Ia (Kb Lb)=true)(hv:Ia v=true):Yc W L D (Ye (.tu [.st rj,Kb Lb])) m .ok m':=λb Ls i uu uu=>
 have a:=q.up (yh hv hb) (zW Ls i)
 vf e [⟨864,12,47,ho a⟩] (l:=[_]) (by kernel_rfl) ⟨a,trivial⟩
theorem vS(q:Ow W L D 1167 [.ob 1,.ob 0,Kb Lb] m false v m' false)(hb:Ia (Kb Lb)=true)(hv:Ia v=true):Yc W L D (.tu [.st Yo,.st q0,Kb Lb]) m .ok m':=λb Ls i uu uu=>
 have a:=q.up (yh hv hb) (zW Ls i)
 vf e [⟨873,12,44,ho a⟩] (l:=[_]) (by kernel_rfl) ⟨a,trivial⟩
theorem xS(hw:w.md=true)(q:Ow W L D 1167 [.ob 1,.ob 0,Kb Lb] m false (.st (wS w)) m' false)(hb:Ia (Kb Lb)=true):Yc W L D (Ye (.tu [.st Zk,Kb Lb])) m w m':=λb Ls i uu uu=>by
 have a:=q.up (yh rfl hb) (zW Ls i)
 induction w using Wy.casesOn with
 |wb=>exact nomatch hw
 |_=>exact vf e [⟨866,19,54,ho a⟩] (l:=[_]) (by kernel_rfl) ⟨a,trivial⟩
theorem yS{k1 k2 k3:Nat}(q:Ow W L D 1181 [.ob 1,.ob 0,Zj k1 k2 k3 a1] m false v m' false)(hb:Ia (Zj k1 k2 k3 a1)=true)(hv:Ia v=true):Yc W L D (Zj k1 k2 k3 a1) m .ok m':=λb Ls i uu uu=>
 have a:=q.up (yh hv hb) (zW Ls i)
 vf e [⟨875,12,42,ho a⟩] (l:=[_]) (by kernel_rfl) ⟨a,trivial⟩
theorem zS(q:Ow W L D 1174 [.ob 1,.ob 0,Xj k a1] m false v m' false)(hb:Ia (Xj k a1)=true)(hv:Ia v=true):Yc W L D (Xj k a1) m .ok m':=λb Ls i uu uu=>
 have a:=q.up (yh hv hb) (zW Ls i)
 vf e [⟨881,12,39,ho a⟩] (l:=[_]) (by kernel_rfl) ⟨a,trivial⟩
theorem YB(q:Ow W L D 1174 [.ob 1,.ob 0,te k a1] m false v m' false)(hb:Ia (te k a1)=true)(hv:Ia v=true):Yc W L D (te k a1) m .ok m':=λb Ls i uu uu=>
 have a:=q.up (yh hv hb) (zW Ls i)
 vf e [⟨881,12,39,ho a⟩] (l:=[_]) (by kernel_rfl) ⟨a,trivial⟩
end
end
section
section
variable {W:Wd}{L:List Ga}{D n k:Nat}{m m1 m':Mm}{w:Wy}{x b v a1:SV}{Ls Lb:List SV}{i:Nat}{p:Option (SV×Str)}{hs:List Jd}{l:List Prop}{c:Bool}
noncomputable abbrev FW(W:Wd)(D k:Nat)(loc:Lc)(st:St)(f:Except Nat Fl)(ub:Lc)(db:St):Prop:=Ch (Rn.Lh (Rn.Xa W.fi TP.tb 50) TP.tb (Kl 1186) D (Sd (sB 1186 0)) (Td (sB 1186 0)) (de (sB 1186 0)) 6) k loc st f ub db
theorem ZB:Rn.lh (Kl 1186) 6 ⟨we b p,Gb L m false++zW Ls i,hs⟩=(match Ls[i]? with
  |some v=>some (.ok (some v),⟨we b p,Gb L m false++zW Ls (i+1),hs⟩,[])
  |none=>some (.ok none,⟨we b p,Gb L m false++[.cell (some (.ob 1)),.cell (some (.ob 0)),.ta],hs⟩,[])):=by kernel_rfl
noncomputable def bI:Wy->Fl
 |.ok=>.next
 |w=>.ret (.st (wS w))
theorem AS(hi:Ls[i]?=none):FW W D 0 (we b p) (Gb L m false++zW Ls i) (.ok .next) (we b p) (Gb L m false++[.cell (some (.ob 1)),.cell (some (.ob 0)),.ta]):=by
 refine Ch.Df [] (l:=[]) ?_ trivial
 unfold Rn.Lh
 refine(?_:rep (Rn.bind _ _ _)=_)
 unfold Rn.bind
 refine rt ZB (rt hi ?_)
 rcases p with _|p
 ·kernel_rfl
 obtain⟨p1,p2⟩:=p;kernel_rfl
theorem BS(hb:Ia b=true)(hL:clos Ls=true){f:Except Nat Fl}{ub:Lc}{db:St}(hi:Ls[i]?=some x)(H:Yc W L D x m .ok m1)(rest:FW W D k (we b (some (x,q0))) (Gb L m1 false++zW Ls (i+1)) f ub db):FW W D (k+1) (we b p) (Gb L m false++zW Ls i) f ub db:=by
 have a:=H b Ls (i+1) hb hL
 refine Ch.nh [⟨859,8,39,fo a⟩] (l:=[_]) ?_ ⟨a,trivial⟩ rest
 unfold Rn.Lh
 refine(?_:rep (Rn.bind _ _ _)=_)
 unfold Rn.bind
 refine rt ZB (rt hi ?_)
 rcases p with _|p
 ·kernel_rfl
 obtain⟨p1,p2⟩:=p;kernel_rfl
theorem CS(hb:Ia b=true)(hL:clos Ls=true)(hi:Ls[i]?=some x)(hw:w.Si=false)(H:Yc W L D x m w m1):FW W D 0 (we b p) (Gb L m false++zW Ls i) (.ok (bI w)) (we b (some (x,XB w))) (Gb L m1 false++zW Ls (i+1)):=by
 have a:=H b Ls (i+1) hb hL
 refine Ch.Df [⟨859,8,39,fo a⟩] (l:=[_]) ?_ ⟨a,trivial⟩
 unfold Rn.Lh
 refine(?_:rep (Rn.bind _ _ _)=_)
 unfold Rn.bind
 refine rt ZB (rt hi ?_)
 induction w using Wy.casesOn with
 |ok=>exact nomatch hw
 |_=>
  rcases p with _|p
  ·kernel_rfl
  obtain⟨p1,p2⟩:=p;kernel_rfl
inductive Wk(W:Wd)(L:List Ga)(D:Nat):List SV->Mm->Wy->Mm->Prop where
 |nil {m:Mm}:Wk W L D [] m .ok m
 |cons {x:SV} {r:List SV} {m m1 m2:Mm} {w:Wy}:Yc W L D x m .ok m1->Wk W L D r m1 w m2->Wk W L D (x::r) m w m2
 |Hc {x:SV} {r:List SV} {m m1:Mm} {w:Wy}:w.Si=false->Yc W L D x m w m1->Wk W L D (x::r) m w m1
theorem DS(hb:Ia b=true){r:List SV}(h:Wk W L D r m w m'):∀(Ls:List SV) (i:Nat) (p:Option (SV×Str)),clos Ls=true->(∀j,Ls[i+j]?=r[j]?)->∃k ub X,FW W D k (we b p) (Gb L m false++zW Ls i) (.ok (bI w)) ub (Gb L m' false++X):=by
 induction h with
 |nil=>exact λLs i p hL hr=>⟨0,_,_,AS (hr 0)⟩
 |@cons x r m m1 m2 w h1 _ ih=>
  intro Ls i p hL hr
  obtain⟨k,ub,X,ch⟩:=ih Ls (i+1) (some (x,q0)) hL λj=>by have:=hr (j+1);replace this:=(Nat.add_right_comm ..)▸(Nat.add_assoc ..).symm▸this;exact this
  exact⟨k+1,ub,X,BS hb hL (hr 0) h1 ch⟩
 |Hc hw h1=>exact λLs i p hL hr=>⟨0,_,_,CS hb hL (hr 0) hw h1⟩
variable (e:La W)
include e
theorem cI(hc:clos Lb=true)(h:Wk W L D Lb m w m'):Ow W L (D+1) 1186 [.ob 1,.ob 0,Kb Lb] m false (.st (wS w)) m' false:=by
 obtain⟨k,ub,X,ch⟩:=DS (b:=Kb Lb) (jB hc) h Lb 0 none hc λj=>by exact rt (Nat.zero_add ..) rfl
 have ev:=dc.for (N:=6) (loc1:=we (Kb Lb) none) (st1:=Gb L m false++zW Lb 0) (s:=sB 1186 0) (st:=Gb L m false++[.cell (some (.ob 1)),.cell (some (.ob 0))]) (loc:=we (Kb Lb) none) (e.ok.mw _) (e.hT _) (by kernel_rfl) (by kernel_rfl) (l:=[]) (by kernel_rfl) trivial ch .ok
 induction w using Wy.casesOn<;>exact gi e (n:=51) [⟨857,4,23,fo ev⟩] (l:=[_]) (by kernel_rfl) ⟨ev,trivial⟩ rfl
theorem ES(hc:clos Lb=true)(h:Wk W L D Lb m w m'):Ow W L (D+2) 1167 [.ob 1,.ob 0,Kb Lb] m false (.st (wS w)) {m' with now:=m.now} false:=by
 have a:=cI e hc h
 exact gi e (n:=51) [⟨835,11,39,ho a⟩] (l:=[_]) (by kernel_rfl) ⟨a,trivial⟩ rfl
end
end
section
noncomputable def ii(x:SV)(kept:SV)(n:Int):Lc:=[(EA,.ob 1),(Zo,.ob 0),(Pi,x),(Qh,.it n),(RG,kept)]
noncomputable def dI(x:SV)(kept:SV):Lc:=[(EA,.ob 1),(Zo,.ob 0),(Pi,x),(RG,kept)]
inductive Lw(W:Wd)(L:List Ga)(D k:Nat)(b:SV)(kept:Option Nat):Mm->Mm->Prop where
 |Hc {m m1:Mm} {y:Option Nat}:Ow W L D 1160 [.ob 1,.ob 0,Wa k] {m with now:=kept} false (.bo false) m1 false->Lw W L D k b kept {m with now:=y} m1
 |Va {m m1 m2:Mm} {y:Option Nat}:Ow W L D 1160 [.ob 1,.ob 0,Wa k] {m with now:=kept} false (.bo true) m1 false->Ow W L D 1167 [.ob 1,.ob 0,b] m1 false (.st Oe) m2 false->Lw W L D k b kept {m with now:=y} m2
 |go {m m1 m2 m3:Mm} {y:Option Nat} {w:Wy}:Ow W L D 1160 [.ob 1,.ob 0,Wa k] {m with now:=kept} false (.bo true) m1 false->w.go=true->Ow W L D 1167 [.ob 1,.ob 0,b] m1 false (.st (wS w)) m2 false->Lw W L D k b kept m2 m3->Lw W L D k b kept {m with now:=y} m3
inductive Xm(W:Wd)(L:List Ga)(D k2 k3:Nat)(b:SV):Mm->Mm->Prop where
 |Hc {m m1:Mm}:Ow W L D 1160 [.ob 1,.ob 0,Wa k2] m false (.bo false) m1 false->Xm W L D k2 k3 b m m1
 |Va {m m1 m2:Mm}:Ow W L D 1160 [.ob 1,.ob 0,Wa k2] m false (.bo true) m1 false->Ow W L D 1167 [.ob 1,.ob 0,b] m1 false (.st Oe) m2 false->Xm W L D k2 k3 b m m2
 |go {m m1 m2 m3 m4:Mm} {w:Wy} {c:Bool}:Ow W L D 1160 [.ob 1,.ob 0,Wa k2] m false (.bo true) m1 false->w.go=true->Ow W L D 1167 [.ob 1,.ob 0,b] m1 false (.st (wS w)) m2 false->Ow W L D 1160 [.ob 1,.ob 0,Wa k3] m2 false (.bo c) m3 false->Xm W L D k2 k3 b m3 m4->Xm W L D k2 k3 b m m4
section
variable {W:Wd}{L:List Ga}{D k k1 k2 k3:Nat}{m m1 m2 m':Mm}{w w2:Wy}{b v kept:SV}{o:Option Nat}{c:Bool}
noncomputable abbrev LW(W:Wd)(D k:Nat)(loc:Lc)(st:St)(f:Except Nat Fl)(ub:Lc)(db:St):Prop:=Ch (Rn.nf (Rn.Xa W.fi TP.tb 50) (Dc 1174 .nn) D (Sd (sB 1174 1)) (Td (sB 1174 1)) (de (sB 1174 1))) k loc st f ub db
noncomputable abbrev LK(W:Wd)(D k:Nat)(loc:Lc)(st:St)(f:Except Nat Fl)(ub:Lc)(db:St):Prop:=Ch (Rn.nf (Rn.Xa W.fi TP.tb 50) (Dc 1181 .nn) D (Sd (sB 1181 2)) (Td (sB 1181 2)) (de (sB 1181 2))) k loc st f ub db
theorem FS(h:Lw W L D k b o m m'):∀n:Int,∃j n',LW W D j (ii (Xj k b) (nv o) n) (Gb L m false) (.ok .next) (ii (Xj k b) (nv o) n') (Gb L m' false):=by
 induction h with
 |Hc q=>exact λn=>⟨0,n,Ch.Df [⟨842,39,69,ho q⟩] (l:=[_]) (by kernel_rfl) ⟨q,trivial⟩⟩
 |Va q p=>exact λn=>⟨0,n+1,Ch.Df [⟨842,39,69,ho q⟩,⟨845,11,78,ho p⟩] (l:=[_,_]) (by kernel_rfl) ⟨q,p,trivial⟩⟩
 |@go m m1 m2 m3 y w q g p _ ih=>
  intro n
  obtain⟨j,n',ch⟩:=ih (n+1)
  refine⟨j+1,n',?_⟩
  induction w using Wy.casesOn with
  |ok=>exact Ch.nh [⟨842,39,69,ho q⟩,⟨845,11,78,ho p⟩] (l:=[_,_]) (by kernel_rfl) ⟨q,p,trivial⟩ ch
  |next=>exact Ch.nh [⟨842,39,69,ho q⟩,⟨845,11,78,ho p⟩] (l:=[_,_]) (by kernel_rfl) ⟨q,p,trivial⟩ ch
  |Va=>exact nomatch g
  |wb=>exact nomatch g
theorem GS(h:Xm W L D k2 k3 b m m'):∃j,LK W D j (dI (Zj k1 k2 k3 b) kept) (Gb L m false) (.ok .next) (dI (Zj k1 k2 k3 b) kept) (Gb L m' false):=by
 induction h with
 |Hc q=>exact⟨0,Ch.Df [⟨851,10,40,ho q⟩] (l:=[_]) (by kernel_rfl) ⟨q,trivial⟩⟩
 |Va q p=>exact⟨0,Ch.Df [⟨851,10,40,ho q⟩,⟨852,11,43,ho p⟩] (l:=[_,_]) (by kernel_rfl) ⟨q,p,trivial⟩⟩
 |@go m m1 m2 m3 m4 w c q g p r _ ih=>
  obtain⟨j,ch⟩:=ih
  refine⟨j+1,?_⟩
  induction w using Wy.casesOn with
  |ok=>exact Ch.nh [⟨851,10,40,ho q⟩,⟨852,11,43,ho p⟩,⟨854,8,38,ho r⟩] (l:=[_,_,_]) (by kernel_rfl) ⟨q,p,r,trivial⟩ ch
  |next=>exact Ch.nh [⟨851,10,40,ho q⟩,⟨852,11,43,ho p⟩,⟨854,8,38,ho r⟩] (l:=[_,_,_]) (by kernel_rfl) ⟨q,p,r,trivial⟩ ch
  |Va=>exact nomatch g
  |wb=>exact nomatch g
variable (e:La W)
include e
theorem HS(h:Lw W L D k b m.now m m'):Ow W L (D+1) 1174 [.ob 1,.ob 0,Xj k b] m false .nn {m' with now:=m.now} false:=by
 obtain⟨j,n',ch⟩:=FS h 0
 have ev:=dc.qe (s:=sB 1174 1) (e.ok.mw _) (e.hT _) (by kernel_rfl) ch .ok
 obtain⟨now,lg,rd⟩:=m
 induction now using Option.casesOn<;>exact gi e (n:=51) [⟨840,4,17,fo ev⟩] (l:=[_]) (by kernel_rfl) ⟨ev,trivial⟩ rfl
theorem IS(q:Ow W L D 1160 [.ob 1,.ob 0,Wa k1] m false (.bo c) m1 false)(h:Xm W L D k2 k3 b m1 m2):Ow W L (D+1) 1181 [.ob 1,.ob 0,Zj k1 k2 k3 b] m false .nn {m2 with now:=m.now} false:=by
 obtain⟨j,ch⟩:=GS (k1:=k1) (kept:=nv m.now) h
 have ev:=dc.qe (s:=sB 1181 2) (e.ok.mw _) (e.hT _) (by kernel_rfl) ch .ok
 obtain⟨now,lg,rd⟩:=m
 induction now using Option.casesOn<;>exact gi e (n:=51) [⟨850,4,34,ho q⟩,⟨851,4,38,fo ev⟩] (l:=[_,_]) (by kernel_rfl) ⟨q,ev,trivial⟩ rfl
omit e in
theorem eI{M n:Nat}(hn:n<M):some (uc (n:Int) ((List.replicate M (SV.tu [.st Kr,.it 1])).length:Nat))=some (xor false false):=by
 refine rt (List.length_replicate ..) ?_
 refine congrArg some ?_
 rw[Bool.xor_false,<-Bool.not_eq_true,Xe]
 lia
omit e in
theorem aC{M:Nat}(hM:M<=2):(List.replicate M (SV.tu [.st Kr,.it 1])).length<=1000000:=by
 refine rt (List.length_replicate ..) ?_
 exact Nat.le_trans hM (by decide)
omit e in
theorem gI{M:Nat}(hM:M<=2):LW W D 0 (ii (te M b) (nv o) M) (Gb L m false) (.ok .next) (ii (te M b) (nv o) M) (Gb L {m with now:=o} false):=
 Ch.Df [⟨842,100,124,.Ca true⟩] (l:=[_,some (uc (M:Int) ((List.replicate M (SV.tu [.st Kr,.it 1])).length:Nat))=some (xor true false)]) (by induction o using Option.casesOn<;>kernel_rfl) ⟨aC hM,by refine rt (List.length_replicate ..) ?_;exact congrArg some ((Xe _ _).mpr rfl),trivial⟩
omit e in
theorem bC{M n:Nat}{ub:Lc}{db:St}{j:Nat}(hM:M<=2)(hn:n<M)(g:w.go=true)(q:Ow W L D 1167 [.ob 1,.ob 0,b] {m with now:=o} false (.st (wS w)) m1 false)(ch:LW W D j (ii (te M b) (nv o) ((n:Int)+1)) (Gb L m1 false) (.ok .next) ub db):LW W D (j+1) (ii (te M b) (nv o) n) (Gb L m false) (.ok .next) ub db:=by
 induction w using Wy.casesOn with
 |Va=>exact nomatch g
 |wb=>exact nomatch g
 |_=>exact Ch.nh [⟨842,100,124,.Ca false⟩,⟨845,11,78,ho q⟩] (l:=[_,_,_]) (by induction o using Option.casesOn<;>kernel_rfl) ⟨aC hM,eI hn,q,trivial⟩ ch
omit e in
theorem iI{M n:Nat}(hM:M<=2)(hn:n<M)(q:Ow W L D 1167 [.ob 1,.ob 0,b] {m with now:=o} false (.st Oe) m1 false):LW W D 0 (ii (te M b) (nv o) n) (Gb L m false) (.ok .next) (ii (te M b) (nv o) ((n:Int)+1)) (Gb L m1 false):=
 Ch.Df [⟨842,100,124,.Ca false⟩,⟨845,11,78,ho q⟩] (l:=[_,_,_]) (by induction o using Option.casesOn<;>kernel_rfl) ⟨aC hM,eI hn,q,trivial⟩
theorem fC{M j:Nat}{n':Int}(ch:LW W D j (ii (te M b) (nv m.now) 0) (Gb L m false) (.ok .next) (ii (te M b) (nv m.now) n') (Gb L m' false)):Ow W L (D+1) 1174 [.ob 1,.ob 0,te M b] m false .nn {m' with now:=m.now} false:=by
 have ev:=dc.qe (s:=sB 1174 1) (e.ok.mw _) (e.hT _) (by kernel_rfl) ch .ok
 obtain⟨now,lg,rd⟩:=m
 induction now using Option.casesOn<;>exact gi e (n:=51) [⟨840,4,17,fo ev⟩] (l:=[_]) (by kernel_rfl) ⟨ev,trivial⟩ rfl
end
end
section
noncomputable def Np:Stmt->Stmt
 |.If _ _ e _=>iL 0 e
 |s=>s
noncomputable def vx:Stmt:=iL 1 (match Np (Np (Np (Np (Np (Np Mp))))) with
 |.If _ b _ _=>b
 |s=>[s])
inductive Lq(W:Wd)(L:List Ga)(D k:Nat)(b:SV):Wy->Mm->Wy->Mm->Prop where
 |Hc {m:Mm} {w:Wy}:w.Si=false->w.md=true->Lq W L D k b w m w m
 |no {m m1:Mm}:Ow W L D 1160 [.ob 1,.ob 0,Wa k] m false (.bo false) m1 false->Lq W L D k b .ok m .ok m1
 |go {m m1 m2 m3:Mm} {w w':Wy}:Ow W L D 1160 [.ob 1,.ob 0,Wa k] m false (.bo true) m1 false->Ow W L D 1167 [.ob 1,.ob 0,b] m1 false (.st (wS w)) m2 false->Lq W L D k b w m2 w' m3->Lq W L D k b .ok m w' m3
section
variable {W:Wd}{L:List Ga}{D k i:Nat}{m m0 m':Mm}{w w':Wy}{b bb x:SV}{Ls:List SV}{a:Te}{u:Str}
theorem wx:∀{w:Wy},w.md=true->XB w=wS w/\aI w=.next
 |.ok,_=>⟨rfl,rfl⟩
 |.next,_=>⟨rfl,rfl⟩
 |.Va,_=>⟨rfl,rfl⟩
 |.wb,h=>nomatch h
theorem JS(hb:Ia b=true)(h:Lq W L D k b w m w' m'):∃j,Ch (Rn.nf (Rn.Xa W.fi TP.tb 50) (Kl 1186) D (Sd vx) (Td vx) (de vx)) j (we bb (some (Qm k b,wS w))) (Gb L m false++zW Ls i) (.ok .next) (we bb (some (Qm k b,wS w'))) (Gb L m' false++zW Ls i):=by
 induction h with
 |@Hc m w hw hl=>
  induction w using Wy.casesOn with
  |ok=>exact nomatch hw
  |wb=>exact nomatch hl
  |_=>exact⟨0,Ch.Df [] (l:=[]) (by kernel_rfl) trivial⟩
 |no q=>
  have q:=q.up rfl (zW Ls i)
  exact⟨0,Ch.Df [⟨878,33,63,ho q⟩] (l:=[_]) (by kernel_rfl) ⟨q,trivial⟩⟩
 |go q p _ ih=>
  obtain⟨j,ch⟩:=ih
  have q:=q.up rfl (zW Ls i)
  have p:=p.up (yh rfl hb) (zW Ls i)
  exact⟨j+1,Ch.nh [⟨878,33,63,ho q⟩,⟨879,23,55,ho p⟩] (l:=[_,_]) (by kernel_rfl) ⟨q,p,trivial⟩ ch⟩
theorem jI{x:Str}{v:SV}{r:Lc}:∀{l:Lc},lk x l=some v->lk x (l++r)=some v
 |[],h=>nomatch h
 |p::l,h=>by
  have h:cond (Oa p.1 x) (some p.2) (lk x l)=some v:=h
  refine(?_:cond (Oa p.1 x) (some p.2) (lk x (l++r))=some v)
  revert h
  rcases Oa p.1 x with _|_
  ·exact jI
  exact id
theorem kI{f:SV->Bool}{x:Str}{v:SV}:∀{l:Lc},(l.all λp=>f p.2)=true->lk x l=some v->f v=true
 |[],_,h=>nomatch h
 |p::l,hl,h=>Na hl λh1 h2=>by
  have h:cond (Oa p.1 x) (some p.2) (lk x l)=some v:=h
  revert h
  rcases Oa p.1 x with _|_
  ·exact kI h2
  exact λh=>Option.some.inj h▸h1
inductive Pw(W:Wd)(L:List Ga)(D:Nat)(w:Wy):Te->Mm->Mm->Prop where
 |Ec {m:Mm}:w=.ok->Pw W L D w .Ec m m
 |wc {b:Te} {m m':Mm}:Ow W L D 1167 [.ob 1,.ob 0,ma b] m false (.st (wS w)) m' false->Pw W L D w (.wc b) m m'
 |t {k:Nat} {b c:Te} {m m1 m':Mm}:Ow W L D 1193 [.ob 1,.ob 0,Wa k] m false (.bo true) m1 true->Ow W L D 1167 [.ob 1,.ob 0,ma b] m1 false (.st (wS w)) m' false->Pw W L D w (.Ic k b c) m m'
 |f {k:Nat} {b c:Te} {m m1 m':Mm}:Ow W L D 1193 [.ob 1,.ob 0,Wa k] m false (.bo false) m1 false->Pw W L D w c m1 m'->Pw W L D w (.Ic k b c) m m'
def ik(W:Wd)(L:List Ga)(D:Nat)(x:SV)(m:Mm)(w:Wy)(m':Mm):Prop:=∀(b:SV) (Ls:List SV) (i:Nat),Ia b=true->clos Ls=true->∃ch c,dc W.fi (Kl 1186) D Mp (we b (some (x,q0))) (Gb L m false++zW Ls i) (.ok .next) (we b (some (x,wS w))++[(tP,ch),(xP,.bo c)]) (Gb L m' false++zW Ls i++[.ta])
variable (e:La W)
include e
theorem LS(hb:Ia b=true)(hw:w'.md=true)(q:Ow W L D 1167 [.ob 1,.ob 0,b] m false (.st (wS w)) m0 false)(h:Lq W L D k b w m0 w' m'):Yc W L D (Qm k b) m w' m':=λbb Ls i uu uu=>by
 obtain⟨j,ch⟩:=JS (bb:=bb) (Ls:=Ls) (i:=i) hb h
 have ev:=dc.qe (s:=vx) (e.ok.mw _) (e.hT _) (by kernel_rfl) ch .ok
 have q:=q.up (yh rfl hb) (zW Ls i)
 refine rt ((wx hw).1 ..) (rt ((wx hw).2 ..) ?_)
 exact vf e [⟨877,19,51,ho q⟩,⟨878,12,55,fo ev⟩] (l:=[_,_]) (by kernel_rfl) ⟨q,ev,trivial⟩
theorem ik.se(hx:Ia x=true)(hw:w.md=true)(H:ik W L D x m w m'):Yc W L D x m w m':=λb Ls i hb hL=>by
 obtain⟨ch,c,H⟩:=H b Ls i hb hL
 refine rt ((wx hw).1 ..) (rt ((wx hw).2 ..) ?_)
 refine dc.oS e.ok (N:=7) H ⟨rfl,rfl⟩ ?_ λy sv q=>⟨jI q,Nc (kI (f:=Ia) (l:=we b (some (x,wS w))) ((Bool.and_eq_true _ _).mpr ⟨hb,(Bool.and_eq_true _ _).mpr ⟨hx,rfl⟩⟩) q)⟩
 obtain⟨now,lg,rd⟩:=m'
 have:=Nc (p:=λn=>Nat.blt n 7) (x:=.fl Ls) hL
 induction now using Option.casesOn<;>(show(De _ (.fl Ls)&&true&&true)=true;refine rt this ?_;rfl)
omit e in
theorem lI{c:Te}(hs:Nat.beq (Ad c) 2=true)(h:Nat.ble (sg c) 0=true):(tr c).2=[]:=by
 induction c using Te.casesOn with
 |Ec=>rfl
 |wc=>rfl
 |Ic=>exact nomatch h
 |_=>exact ft hs
theorem mI{k:Nat}{b:Te}{v:SV}(q:Ow W L D 1193 [.ob 1,.ob 0,Wa k] m false (.bo true) m0 true)(r:Ow W L D 1167 [.ob 1,.ob 0,ma b] m0 false (.st (wS w)) m' false):ik W L D (Tc [Ja k (ma b)] v) m w m':=λbb Ls i hb hL=>by
   have q:=q.up rfl (zW Ls i++[.li (.fl [Ja k (ma b)]) 1])
   have r:=r.up (yh rfl (Eb b)) (zW Ls i++[.ta])
   exact⟨.fl [ma b],true,vf e [⟨868,80,109,ho q⟩,⟨871,23,83,ho r⟩] (l:=[_,_]) (by kernel_rfl) ⟨q,r,trivial⟩⟩
theorem MS{k k2:Nat}{b b2:Te}{v:SV}(q:Ow W L D 1193 [.ob 1,.ob 0,Wa k] m false (.bo true) m0 true)(r:Ow W L D 1167 [.ob 1,.ob 0,ma b] m0 false (.st (wS w)) m' false):ik W L D (Tc [Ja k (ma b),Ja k2 (ma b2)] v) m w m':=λbb Ls i hb hL=>by
   have q:=q.up rfl (zW Ls i++[.li (.fl [Ja k (ma b),Ja k2 (ma b2)]) 1])
   have r:=r.up (yh rfl (Eb b)) (zW Ls i++[.ta])
   exact⟨.fl [ma b],true,vf e [⟨868,80,109,ho q⟩,⟨871,23,83,ho r⟩] (l:=[_,_]) (by kernel_rfl) ⟨q,r,trivial⟩⟩
theorem NS{h k:Nat}{b c:Te}(q:Ow W L D 1193 [.ob 1,.ob 0,Wa k] m false (.bo true) m0 true)(r:Ow W L D 1167 [.ob 1,.ob 0,ma b] m0 false (.st (wS w)) m' false)(hs:Nat.beq (Ad c) 2=true)(hk:Vb c h=true)(h2:Nat.ble (sg c) 1=true):ik W L D (Tc (Ja k (ma b)::(tr c).2) (tr c).1) m w m':=by
 induction c using Te.casesOn with
 |Ic k2 b2 c2=>
  refine(?_:ik W L D (Tc (_::_::(tr c2).2) _) _ _ _)
  refine rt (lI (Na hk λuu hk=>Na hk λhs uu=>hs) h2 ..) ?_
  exact MS e q r
 |Ec=>exact mI e q r
 |wc=>exact mI e q r
 |_=>exact ft hs
theorem OS(p:Pw W L D w a m m')(hk:∃k,Vb a k=true)(h1:Nat.ble 1 (sg a)=true)(h2:Nat.ble (sg a) 2=true):ik W L D (Tc (tr a).2 (tr a).1) m w m':=by
 obtain⟨h,hk⟩:=hk
 induction p using Pw.casesOn with
 |Ec=>exact nomatch h1
 |wc=>exact nomatch h1
 |t q r=>exact Na hk λuu hk=>Na hk λhs hk=>NS e q r hs hk h2
 |@f k b c _ m1 _ q p=>induction p using Pw.casesOn with
  |Ec hw=>
   subst hw
   exact λbb Ls i hb hL=>by
    have q:=q.up rfl (zW Ls i++[.li (.fl [Ja k (ma b)]) 1])
    exact⟨.fl [],false,vf e [⟨868,80,109,ho q⟩] (l:=[_]) (by kernel_rfl) ⟨q,trivial⟩⟩
  |@wc rD _ _ r=>
   exact λbb Ls i hb hL=>by
    have q:=q.up rfl (zW Ls i++[.li (.fl [Ja k (ma b)]) 1])
    have r:=r.up (yh rfl (Eb rD)) (zW Ls i++[.ta])
    exact⟨.fl [],false,vf e [⟨868,80,109,ho q⟩,⟨871,23,83,ho r⟩] (l:=[_,_]) (by kernel_rfl) ⟨q,r,trivial⟩⟩
  |@t k2 b2 c2 _ m2 _ q2 r=>
   refine(?_:ik W L D (Tc (_::_::(tr c2).2) _) _ _ _)
   refine rt (lI (Na hk λuu hk=>Na hk λuu hk=>Na hk λuu hk=>Na hk λhs uu=>hs) h2 ..) ?_
   exact λbb Ls i hb hL=>by
    have q:=q.up rfl (zW Ls i++[.li (.fl [Ja k (ma b),Ja k2 (ma b2)]) 1])
    have q2:=q2.up rfl (zW Ls i++[.li (.fl [Ja k (ma b),Ja k2 (ma b2)]) 2])
    have r:=r.up (yh rfl (Eb b2)) (zW Ls i++[.ta])
    exact⟨.fl [ma b2],true,vf e [⟨868,80,109,ho q⟩,⟨868,80,109,ho q2⟩,⟨871,23,83,ho r⟩] (l:=[_,_,_]) (by kernel_rfl) ⟨q,q2,r,trivial⟩⟩
  |@f k2 b2 c2 _ m2 _ q2 p=>induction p using Pw.casesOn with
   |Ec hw=>
    subst hw
    exact λbb Ls i hb hL=>by
     have q:=q.up rfl (zW Ls i++[.li (.fl [Ja k (ma b),Ja k2 (ma b2)]) 1])
     have q2:=q2.up rfl (zW Ls i++[.li (.fl [Ja k (ma b),Ja k2 (ma b2)]) 2])
     exact⟨.fl [],false,vf e [⟨868,80,109,ho q⟩,⟨868,80,109,ho q2⟩] (l:=[_,_]) (by kernel_rfl) ⟨q,q2,trivial⟩⟩
   |@wc rD _ _ r=>
    exact λbb Ls i hb hL=>by
     have q:=q.up rfl (zW Ls i++[.li (.fl [Ja k (ma b),Ja k2 (ma b2)]) 1])
     have q2:=q2.up rfl (zW Ls i++[.li (.fl [Ja k (ma b),Ja k2 (ma b2)]) 2])
     have r:=r.up (yh rfl (Eb rD)) (zW Ls i++[.ta])
     exact⟨.fl [],false,vf e [⟨868,80,109,ho q⟩,⟨868,80,109,ho q2⟩,⟨871,23,83,ho r⟩] (l:=[_,_,_]) (by kernel_rfl) ⟨q,q2,r,trivial⟩⟩
   |t=>exact nomatch h2
   |f=>exact nomatch h2
end
end
section
noncomputable def dk:Nat->Nat
 |0=>0
 |h+1=>dk h+3
noncomputable abbrev dl(h:Nat):Nat:=dk h+12
def LT(W:Wd)(L:List Ga)(h:Nat)(w:Wy)(m m':Mm)(t:Te):Prop:=match t with
 |.nil=>Wk W L (dl h) [] m w m'
 |.cons a r=>Wk W L (dl h) ((tr a).1::(tr r).2) m w m'
 |.Ec=>Pw W L (dl h+3) w .Ec m m'
 |.wc b=>Pw W L (dl h+3) w (.wc b) m m'
 |.Ic k b c=>Pw W L (dl h+3) w (.Ic k b c) m m'
 |.qe k b=>∃m2,Lw W L (dl h+2) k (ma b) m.now m m2/\m'={m2 with now:=m.now}
 |.Ti k2 k3 b=>Xm W L (dl h+2) k2 k3 (ma b) m m'
 |.Ui b k=>w.md=true->∃w0 m0,Ow W L (dl h+3) 1167 [.ob 1,.ob 0,ma b] m false (.st (wS w0)) m0 false/\Lq W L (dl h+3) k (ma b) w0 m0 w m'
 |.lc k=>Yc W L (dl h) (tr (.lc k)).1 m w m'
 |.Se l=>Yc W L (dl h) (tr (.Se l)).1 m w m'
 |.Gf b=>Yc W L (dl h) (tr (.Gf b)).1 m w m'
 |.ue b=>Yc W L (dl h) (tr (.ue b)).1 m w m'
 |.ifs c=>Yc W L (dl h) (tr (.ifs c)).1 m w m'
 |.Pe k b=>Yc W L (dl h) (tr (.Pe k b)).1 m w m'
 |.Uc n b=>Yc W L (dl h) (tr (.Uc n b)).1 m w m'
 |.bare b=>Yc W L (dl h) (tr (.bare b)).1 m w m'
 |.Qe k1 k2 k3 b=>Yc W L (dl h) (tr (.Qe k1 k2 k3 b)).1 m w m'
 |.Jf b k=>Yc W L (dl h) (tr (.Jf b k)).1 m w m'
def LM(b:Ck)(n:Nat)(m m':Mm)(K:Prop):Prop:=∀N,Bd m b (N+n)->K/\Bd m' b N
section
variable {W:Wd}{L:List Ga}{D h k n n1 n2:Nat}{m m1 m2 m3 m':Mm}{w:Wy}{a b t:Te}{c:Bool}{K K':Prop}{u:Ck}
theorem zj(hs:Nat.beq (Ad a) 0=true):LT W L h w m m' a=Yc W L (dl h) (tr a).1 m w m':=by induction a using Te.casesOn<;>first|rfl|exact ft hs
theorem fk(hs:Nat.beq (Ad a) 1=true):LT W L h w m m' a=Wk W L (dl h) (tr a).2 m w m':=by induction a using Te.casesOn<;>first|rfl|exact ft hs
theorem nI(hs:Nat.beq (Ad a) 2=true):LT W L h w m m' a=Pw W L (dl h+3) w a m m':=by induction a using Te.casesOn<;>first|rfl|exact ft hs
theorem LM.map(H:LM u n m m' K)(f:K->K'):LM u n m m' K':=λN B=>(H N B).imp f id
theorem Aj{f:Nat->Bool}(ho:below h f=true)(K:∀h',f h'=true->LM u n m m' (LT W L (h'+1) w m m' t)):LM u n m m' (LT W L h w m m' t):=by
 induction h using Nat.casesOn with
 |zero=>exact nomatch ho
 |succ h=>exact K h ho
theorem Og(d:Dd L k m c m')(B:Bd m u (n+1)):Bd m' u n:=by
 induction d using Dd.casesOn with
 |zb q=>exact B.to (by refine rt (List.length_append ..) ?_;exact Nat.le_refl _) (Nat.le_succ _) B.Zb
 |qb q hi=>exact B.to (Nat.le_succ _) (Nat.le_succ _) λj e=>Option.some.inj e▸hi
 |Rh q hi=>exact B.to (Nat.le_succ _) (Nat.le_succ _) λj e=>Option.some.inj e▸hi
 |Uh q=>exact B.to (Nat.le_succ _) (Nat.le_succ _) B.Zb
 |go q hi hm=>exact B.to (Nat.le_succ _) (Om ..) λj e=>Option.some.inj e▸hi
 |no q hm=>exact B.to (Nat.le_succ _) (by refine rt (LA ..) ?_;exact Om ..) B.Zb
theorem Lw.any{k:Nat}{b:SV}{o y:Option Nat}(H:Lw W L D k b o m m'):Lw W L D k b o {m with now:=y} m':=by
 induction H using Lw.casesOn with
 |Hc q=>exact .Hc q
 |Va q p=>exact .Va q p
 |go q g p r=>exact .go q g p r
variable (e:La W)(hl:L.length<=100000)
include e
theorem wi(hs:Wk W L (dl h) (tr b).2 m w m')(j:Nat):Ow W L (dl h+2+j) 1167 [.ob 1,.ob 0,ma b] m false (.st (wS w)) {m' with now:=m.now} false:=
 ba.up (ES e (Fb b).2 hs) j
theorem Of{G:Prop}(ho:Lf b (Vb b) h=true)(H:∀h,Vb b h=true->LM u n m m' (LT W L h w m m' b))(K:LM u n m m' (∀j,Ow W L (dl h+2+j) 1167 [.ob 1,.ob 0,ma b] m false (.st (wS w)) {m' with now:=m.now} false)->G):G:=
 Na ho λq uu=>Na q λhs ho=>K ((H h ho).map λx=>wi e (fk hs▸x))
omit e in
theorem pI{M n D:Nat}{b:SV}{o:Option Nat}(hM:M<=2)(hn:n+1=M)(hw:w.md=true)(q:Ow W L D 1167 [.ob 1,.ob 0,b] {m with now:=o} false (.st (wS w)) m1 false):∃j n' m2,LW W D j (ii (te M b) (nv o) n) (Gb L m false) (.ok .next) (ii (te M b) (nv o) n') (Gb L m2 false)/\{m2 with now:=o}={m1 with now:=o}:=by
 subst hn
 induction w using Wy.casesOn with
 |Va=>exact⟨0,_,_,iI hM (Nat.lt_succ_self n) q,rfl⟩
 |wb=>exact nomatch hw
 |ok=>exact⟨1,_,_,bC hM (Nat.lt_succ_self n) rfl q (gI hM),rfl⟩
 |next=>exact⟨1,_,_,bC hM (Nat.lt_succ_self n) rfl q (gI hM),rfl⟩
include hl
theorem zh(d:Dd L k m c m')(B:Bd m u (n+1)):Ow W L (D+9) 1160 [.ob 1,.ob 0,Wa k] m false (.bo c) m' false:=qS e hl d B
theorem QS(H:Bs L t m w m' n):∀h,Vb t h=true->LM u n m m' (LT W L h w m m' t):=by
 induction H with
 |nil=>exact λh uu N B=>⟨.nil,B⟩
 |cons _ _ i1 i2=>exact λh ho=>Na ho λp q=>Na p λp p'=>Na q λq q'=>λN B=>have x:=i1 h p' _ (Nat.add_assoc N _ _▸B);have y:=i2 h q' _ x.2;⟨.cons (zj p▸x.1) (fk q▸y.1),y.2⟩
 |Hc hw _ i=>exact λh ho=>Na ho λp uu=>Na p λp p'=>(i h p').map λx=>.Hc hw (zj p▸x)
 |lc d=>exact λh uu N B=>⟨rS e hl d (zh e hl (D:=dk h+3) (n:=N+1) d B),(Og (n:=N+1) d B).le (k:=1)⟩
 |wb d=>exact λh uu N B=>⟨sS e hl d,B.le⟩
 |Se=>exact λh uu N B=>⟨tS e,B.le⟩
 |Gf hw _ i=>exact λh ho=>Aj ho λh ho=>Of e ho i λH N B=>have y:=H N (B.le (k:=1));⟨xS e hw (y.1 1) (Eb _),y.2.now B⟩
 |ue hw _ i=>exact λh ho=>Aj ho λh ho=>Of e ho i λH N B=>have y:=H N (B.le (k:=1));⟨uS e (y.1 1) (Eb _) rfl,y.2.now B⟩
 |Ec=>exact λh uu N B=>⟨.Ec rfl,B⟩
 |wc _ i=>exact λh ho=>Of e ho i λH N B=>have y:=H N B;⟨.wc (y.1 1),y.2.now B⟩
 |kB d _ i=>exact λh ho=>Na ho λp uu=>Of e p i λH N B=>have y:=H N (Og d B);⟨.t (ZH e (zh e hl (D:=dk h+4) d B)) (y.1 1),y.2.now (Og d B)⟩
 |lB d _ i=>exact λh ho=>Na ho λuu q=>Na q λq q' N B=>have y:=i h q' N (Og d B);⟨.f (ZH e (zh e hl (D:=dk h+4) d B)) (nI q▸y.1),y.2⟩
 |ifs hw _ i=>exact λh ho=>Aj ho λh ho=>Na ho λp q=>Na p λp p'=>Na q λq q' N B=>have y:=i h p' N (B.le (k:=2));⟨ik.se e (Fb (.ifs _)).1 hw (OS e (nI p▸y.1) ⟨h,p'⟩ q q'),y.2⟩
 |bare hw _ i=>exact λh ho=>Aj ho λh ho=>Of e ho i λH N B=>have y:=H N (B.le (k:=2));⟨vS e (y.1 1) (Eb _) rfl,y.2.now B⟩
 |Pe _ i=>exact λh ho=>Aj ho λh ho N B=>have y:=i h ho N (B.le (k:=1));⟨let⟨_,z,e1⟩:=y.1;e1▸zS e (HS e z) (Fb (.Pe _ _)).1 rfl,y.2⟩
 |@mB k b m m1 d=>exact λh ho N B=>⟨⟨_,.Hc (y:=m.now) (zh e hl (D:=dk h+5) d B),rfl⟩,(Og d B).now B⟩
 |@nB k b m m1 m2 n d _ i=>exact λh ho=>Of e ho i λH N B=>have y:=H N ((Og (n:=N+n+1) d B).le (k:=1));⟨⟨_,.Va (y:=m.now) (zh e hl (n:=N+n+1) (D:=dk h+5) d B) (y.1 0),rfl⟩,y.2.now B⟩
 |@oB k b m m1 m2 m3 w n n2 d hw _ _ i i2=>exact λh ho=>Of e ho i λH N B=>have B:Bd m u (N+n2+n+2):=Nat.add_assoc N n2 n▸B;have y:=H (N+n2) ((Og (n:=N+n2+n+1) d B).le (k:=1));have z:=i2 h ho N (y.2.now B);⟨let⟨m4,z,e1⟩:=z.1;⟨m4,.go (y:=m.now) (zh e hl (n:=N+n2+n+1) (D:=dk h+5) d B) hw (y.1 0) z.any,e1⟩,z.2⟩
 |e1 hw _ i=>exact λh ho=>Aj ho λh ho=>Of e ho i λH N B=>have y:=H N (B.le (k:=2));⟨let⟨_,_,_,c,e1⟩:=pI (M:=1) (by decide) rfl hw (y.1 0);YB e (e1▸fC e c) (Fb (.Uc 1 _)).1 rfl,y.2.now B⟩
 |@pB b m m1 n _ i=>exact λh ho=>Aj ho λh ho=>Of e ho i λH N B=>have y:=H N (B.le (k:=2));⟨YB e (fC e (m':={m1 with now:=m.now}) (iI (m:=m) (m1:={m1 with now:=m.now}) (o:=m.now) (M:=2) (n:=0) (by decide) (by decide) (y.1 0))) (Fb (.Uc 2 _)).1 rfl,y.2.now B⟩
 |@qB b m m1 m2 w w2 n n2 hw _ ot _ i i2=>exact λh ho=>Aj ho λh ho=>Of e ho i λH=>Of e ho i2 λH2 N B=>have B:Bd m u (N+n2+1+n+2):=Nat.add_assoc N (n2+1) (n+2)▸B;have y:=H (N+n2+1) (B.le (k:=2));have z:=H2 N ((y.2.le (k:=1)).now B);⟨let⟨_,_,_,c,e1⟩:=pI (m:={m1 with now:=m.now}) (o:=m.now) (M:=2) (n:=1) (by decide) rfl ot (z.1 0);YB e (e1▸fC e (bC (M:=2) (n:=0) (by decide) (by decide) hw (y.1 0) c)) (Fb (.Uc 2 _)).1 rfl,z.2.now B⟩
 |@Qe k1 k2 k3 b m m1 m2 c n d _ i=>exact λh ho=>Aj ho λh ho N B=>have y:=i h ho N ((Og (n:=N+n+1) d B).le (k:=1));⟨yS e (IS e (zh e hl (n:=N+n+1) (D:=dk h+5) d B) y.1) (Fb (.Qe _ _ _ _)).1 rfl,y.2.now B⟩
 |rB d=>exact λh ho N B=>⟨.Hc (zh e hl (D:=dk h+5) d B),Og d B⟩
 |@tB k2 k3 b m m1 m2 n d _ i=>exact λh ho=>Of e ho i λH N B=>have D:=Og (n:=N+n+1) d B;have y:=H N (D.le (k:=1));⟨.Va (zh e hl (n:=N+n+1) (D:=dk h+5) d B) (y.1 0),y.2.now D⟩
 |@uB k2 k3 b m m1 m2 m3 m4 w c n n2 d hw _ d3 _ i i2=>exact λh ho=>Of e ho i λH N B=>have B:Bd m u (N+n2+1+n+2):=Nat.add_assoc N (n2+1) (n+2)▸B;have D:=Og (n:=N+n2+1+n+1) d B;have y:=H (N+n2+1) (D.le (k:=1));have y':=y.2.now D;have z:=i2 h ho N (Og d3 y');⟨.go (zh e hl (n:=N+n2+1+n+1) (D:=dk h+5) d B) hw (y.1 0) (zh e hl (D:=dk h+5) d3 y') z.1,z.2⟩
 |Jf hw _ i=>exact λh ho=>Aj ho λh ho N B=>have y:=i h ho N (B.le (k:=1));⟨let⟨_,_,q,z⟩:=y.1 hw;LS e (Eb _) hw q z,y.2⟩
 |@wB k b m m1 m2 n _ d i=>exact λh ho=>Of e ho i λH N B=>have B:Bd m u (N+1+n+1):=Nat.add_assoc N 1 (n+1)▸B;have y:=H (N+1) (B.le (k:=1));have y':=y.2.now B;⟨λuu=>⟨.ok,_,y.1 1,.no (zh e hl (D:=dk h+6) d y')⟩,Og d y'⟩
 |@xB k b m m1 m2 m3 w n n2 _ d _ i i2=>exact λh ho=>Of e ho i λH N B=>have B:Bd m u (N+n2+1+n+1):=Nat.add_assoc N (n2+1) (n+1)▸B;have y:=H (N+n2+1) (B.le (k:=1));have y':=y.2.now B;have z:=i2 h ho N (Og d y');⟨λhw=>let⟨_,_,q,x⟩:=z.1 hw;⟨.ok,_,y.1 1,.go (zh e hl (D:=dk h+6) d y') q x⟩,z.2⟩
 |yB hw _ i=>exact λh ho=>Of e ho i λH N B=>have y:=H N (B.le (k:=1));⟨λl=>⟨_,_,y.1 1,.Hc hw l⟩,y.2.now B⟩
end
end
section
noncomputable def Gg(ps:List Nat):Nat->St->St
 |_,[]=>[]
 |j,x::l=>cond (ix ps j).isSome (Gg ps (j+1) l) (x::Gg ps (j+1) l)
theorem iC{ps:List Nat}:∀{l F:St} {j:Nat},F.length=l.length->Gg ps j F=Gg ps j l->jg ps j l F
 |[],_,_,_,_=>trivial
 |x::l,[],_,e,_=>nomatch e
 |x::l,y::F,j,e,h=>by
  replace e:=Nat.succ.inj e
  refine(?_:match ix ps j with|some _=>_|none=>_)
  replace h:cond (ix ps j).isSome (Gg ps (j+1) F) (y::Gg ps (j+1) F)=cond (ix ps j).isSome (Gg ps (j+1) l) (x::Gg ps (j+1) l):=h
  revert h
  rcases ix ps j with _|i
  ·exact λh=>⟨congrArg some (List.cons.inj h).1,iC e (List.cons.inj h).2⟩
  ·exact λh=>iC e h
theorem Ur{z:Nat->Addr}{ps:List Nat}{k:Nat}{x:SV}(h:Ia x=true):Hi k x=true/\Pa z ps x=x:=Oh (p:=λuu=>false) (λuu e=>nomatch e) (Nc h)
theorem qI:∀(i:Nat) (l:St),Od (λuu=>false) i l=l
 |_,[]=>rfl
 |i,o::l=>congrArg (o::·) (qI (i+1) l)
section
variable {W:Wd}{D N:Nat}{f:Addr}{vs cs:List SV}{v:SV}{S S' C C':St}
theorem ba.jC(ps:List Nat)(hc:(sr ps&&(ps.all (λp=>Nat.blt p N)&&(Fg N vs&&Ia v)))=true)(hl:S.length=N/\S'.length=N)(ho:Gg ps 0 S'=Gg ps 0 S)(h1:∀z,Md z ps S=C)(h2:∀z,(Md z ps S',cr z ps S')=(C',true))(ha:∀z,Af z ps vs=cs)(c:∀fd,ba (W.fi.on fd) .nn D (.tp f) cs C (.ok v) C')(fd:List Addr):ba (W.fi.on fd) .nn D (.tp f) vs S (.ok v) S':=
 Na hc λa b=>Na b λb c'=>Na c' λc1 c2=>by
 have e:qf ps S.length S'.length=ps:=by
  unfold qf
  refine rt (hl.1 ..) (rt (hl.2 ..) (rt (Nat.sub_self ..) ?_))
  exact List.append_nil _
 have e2:=λz=>Prod.mk.inj (h2 z)
 refine ba.frame (W:=W.fi.on fd) ps (Xv a) (λp m=>hl.1.symm▸Nat.le_of_ble_eq_true (List.all_eq_true.mp b p m)) (Nat.le_of_eq (hl.1.trans hl.2.symm)) (hl.1.symm▸c1) (iC (hl.2.trans hl.1.symm) ho) (λz=>e.symm▸(e2 z).2) (e.symm▸(Ur (z:=λuu=>0) (ps:=ps) c2).1) .fi λFd z=>?_
 refine rt (e ..) (rt (h1 ..) (rt ((e2 z).1 ..) (rt (ha ..) (rt (show Ao z ps (.ok v)=.ok v from congrArg Except.ok (Ur (k:=0) c2).2) ?_))))
 exact c Fd
end
noncomputable def Vr:Mm:=⟨none,[],[]⟩
noncomputable def bT(cells:List Int):Te×Rs:=td cells (wh cells 3 false) ⟨0,[],14⟩
structure Top(cells:List Int)(m:Mm)(n:Nat):Prop where
 bs:Bs (bT cells).2.ds (bT cells).1 Vr .ok m n
 le:n<=7104
 nm:Nm m
section
variable {W:Wd}{cells:List Int}{m:Mm}{n:Nat}
theorem RS(cells:List Int):∃m n,Top cells m n:=by
 have h:=rx (cells:=cells) (f:=wh cells 3 false) (ux 3 false) (Xi 3 false) ⟨0,[],14⟩ _ (List.prefix_refl _) Vr ⟨λuu=>Int.le_refl _,λuu e=>(nomatch e),λuu e=>nomatch e⟩
 refine Tu.casesOn h λh hn k l j uu=>?_
 cases j rfl
 exact⟨_,_,h,hn,k.n⟩
theorem kC:(bT cells).2.ds.length<=50000:=Nat.le_trans (kx (lx 3 false) ⟨0,[],14⟩) (by decide)
theorem rI:Lf (bT cells).1 (Vb (bT cells).1) 3=true:=QH (MB 3 false) _
variable (e:La W)(T:Top cells m n)
include e T
theorem sI:Ow W (bT cells).2.ds 22 1186 [.ob 1,.ob 0,ma (bT cells).1] Vr false (.st q0) m false/\m.Qb.length<=50000:=Na rI λq uu=>Na q λhs ho=>by
 have H:=QS (u:=⟨0,1,none⟩) e (Nat.le_trans kC (by decide)) T.bs 3 ho 42896 ⟨by have:=T.le;refine(?_:(0:Int)+_<=_);lia,by have:=T.le;show 0+_<=_;lia,by have:=T.le;show 0+_<=_;lia,λuu e=>nomatch e⟩
 exact⟨cI e (Fb _).2 (fk hs▸H.1),Nat.le_trans (Nat.le_add_right _ _) H.2.lg⟩
end
end
section
noncomputable def He(P:Pm)(σ:Sg)(b:Bool):St:=[
 .ls [] P.L [],
 .ct 1047,
 .ct 1202,
 cond b (.op .ta) .ta,cond b (.op .ta) .ta,cond b (.op .ta) .ta,cond b (.op .ta) .ta,
 .cell (some (.ob 0)),
 .cell (some (.fl (al P))),
 .cell (some (.ob 35)),
 .cell (some (.ob 36)),
 .ns [(Uo,.it 64),(Vo,.it 50),(qj,.it 1000000),(qg,.it 100000),(Yk,.it 10000)],
 .bc 825 11,
 cond b (.ns [(To,.ob 12),(Oe,.it σ.b.Va),(Yz,.ob 15)]) .ta,
 .bc 218 13,
 cond b (.ls σ.r.zp [] []) .ta,
 .ns [(Tj,.ob 14),(Zz,.nn),(aA,.ob 18),(bA,.ob 19)],
 .bc 564 16,
 .ns [],
 .ns [],
 .ns [(Tj,.ob 14),(xA,.ob 22),(yA,.it 0)],
 .bc 1111 20,
 cond b (.ns []) .ta,
 .ns [(Tj,.ob 14),(dA,.ob 17),(eA,.ob 21),(To,.ob 12),(fA,.ob 39),(gA,.ob 26),(iA,.ob 40),(jA,.ob 28),(kA,.ob 29),(mA,.ob 30),(nA,.ob 31),(oA,.ob 32),(pA,.ob 33),(Gr,mt σ.m.now),(qA,.ob 34),(qj,.it σ.b.xd),(rA,.nn),(sA,.nn),(tA,.nn)],
 .bc 754 23,
 cond b (.op .ta) .ta,
 .ns [],
 cond b (.op .ta) .ta,
 .ns [],.ns [],.Ha [],.Ha [],
 .ls σ.r.pre σ.ms [],
 .Ha [.ob 46],
 .dq JA (pr P σ.m.now),
 .ls [] (σ.m.Qb.map Bb) [],
 .dz σ.m.rd,
 .fn (Nr (iO (st 132) 3)) [(Dw,10),(GA,8),(bp,9),(Zo,7)],
 .fn (Nr (iO (st 132) 4)) [],
 .ns [(BA,.ob 37),(Aw,.ob 38),(Zk,.tp 1023),(tj,.tp 1016),(Oe,.tp 1016),(rj,.tp 1052)],
 .ns [(Vj,.tp 918),(Cw,.tp 925),(Mr,.tp 960),(ap,.tp 1002),(Yo,.tp 1009),(Ir,.tp 974),(Bw,.tp 967)],
 .ta,.ta,.ta,
 .Ha [.ob 42],
 .ns [(zw,.ob 44),(cA,.nn),(rf,.it 0),(Ro,.nn),(Dr,.st TG),(yw,.it 1)],
 .bc 733 45]
noncomputable def Op:List Nat:=[24,23,14,13,17,16,18,19,21,20,22,12,11,39,40,32,33,34,46,45,44,41,42,43,35,36,37,38,7,8,9,10,0,1,26,28,29,30,31,15,3,4,5,6,25,27]
noncomputable def Ym:Sg:=⟨Vr,⟨0,1,none⟩,[],⟨[],[],.none⟩⟩
noncomputable def Sg.jk(σ:Sg)(u:Value):Sg:=⟨σ.m,σ.b,σ.ms,⟨σ.r.pre,σ.r.zp,u⟩⟩
noncomputable def Pp:List (Nat×AO)->St->St
 |[],st=>st
 |p::l,st=>Pp l (st.set p.1 p.2)
noncomputable def lC(P:Pm):St:=Pp [(15,.Ha []),(32,.Ha []),(35,.Ha []),(34,.ns []),(36,.ns []),(41,.ns [(Ki,.it 1),(Qh,.it 1),(Li,.nn),(Mi,.ob 43),(Ni,.bo false),(Oi,.bo false),(Sj,.it 0),(xw,.nn)]),(42,.bc 59 41),(43,.Ha []),(25,.ns []),(27,.ns [])] (He P Ym true)
noncomputable def yx(P:Pm):St:=[.ls [] P.L [],.ct 1047,.ct 1202,.op .ta,.op .ta,.op .ta,.op .ta]
noncomputable def Wr(P:Pm)(σ:Sg)(b:Bool)(u:Value):St:=cond b (base P (σ.jk u)) (Pd qK 0 (cS P (σ.jk u)))
section
variable {W:Wd}{P:Pm}{σ τ:Sg}{D:Nat}{b:SV}{v:SV}{x:Bool}{f:Addr}{vs:List SV}
theorem tI(h:x=false\/σ=Ym)(u:Value)(z:Nat->Addr):(Md z Op ((He P σ x).set 44 (.Ha [.rw u])),cr z Op ((He P σ x).set 44 (.Ha [.rw u])))=(Wr P σ x u,true):=by
 rcases h with rfl|rfl
 ·obtain⟨⟨now,lg,rd⟩,k,ms,r⟩:=σ
  rcases now with _|i<;>kernel_rfl
 ·rcases x with _|_<;>kernel_rfl
theorem SS(u:Value):Gg Op 0 ((He P τ false).set 44 (.Ha [.rw u]))=Gg Op 0 ((He P σ x).set 44 (.Ha [.rw u])):=by kernel_rfl
theorem uI(h:x=false\/σ=Ym)(hv:Ia v=true)(ha:clos vs=true)(c:∀u fd,ba (W.fi.on fd) .nn D (.tp f) (.ob 0::vs) (Wr P σ x u) (.ok v) (Wr P τ false u))(fd:List Addr):ba (W.fi.on fd) .nn D (.tp f) (.ob 24::vs) (He P σ x) (.ok v) (He P τ false):=
 ba.nH (W:=W.fi.on fd) (S:=He P σ x) (S':=He P τ false) (i:=44) (y:=.ob 42) (Nat.le_of_ble_eq_true rfl) rfl λu=>by
 have y:=λz=>wr (z:=z) (ps:=Op) (k:=47) (p:=λuu=>false) (λuu e=>nomatch e) (Nc (x:=.tu vs) ha)
 exact ba.jC (W:=W) (N:=47) (S:=(He P σ x).set 44 (.Ha [.rw u])) (S':=(He P τ false).set 44 (.Ha [.rw u])) (C:=Wr P σ x u) (C':=Wr P τ false u) (vs:=.ob 24::vs) (cs:=.ob 0::vs) Op ((Bool.and_eq_true _ _).mpr ⟨by kernel_rfl,(Bool.and_eq_true _ _).mpr ⟨by kernel_rfl,(Bool.and_eq_true _ _).mpr ⟨(y λuu=>0).1,hv⟩⟩⟩) ⟨rfl,rfl⟩ (SS u) (λz=>(Prod.mk.inj (tI h u z)).1) (λz=>tI (.inl rfl) u z) (λz=>congrArg (SV.ob 0::·) (y z).2) (c u) fd
theorem US:nr Qd qK 0 (cS P σ)=true:=by
 obtain⟨⟨now,lg,rd⟩,⟨s,l,er⟩,ms,r⟩:=σ
 rcases now with _|i<;>rcases er with _|er<;>kernel_rfl
theorem mC:Cf Qd (λuu=>false) 0 (Pd qK 0 (cS P σ))=true/\nr Qd qK 0 (Pd qK 0 (cS P σ))=true/\Pd qK 0 (Pd qK 0 (cS P σ))=Pd qK 0 (cS P σ):=by
 obtain⟨⟨now,lg,rd⟩,⟨s,l,er⟩,ms,r⟩:=σ
 rcases now with _|i<;>rcases er with _|er<;>exact⟨by kernel_rfl,by kernel_rfl,by kernel_rfl⟩
variable (e:Wo W P)
include e
theorem VS(hb:Ia b=true)(hv:Ia v=true)(c:∀u,wa W P .nn D 904 [.ob 0,b,.it 0] (Ym.jk u) v (τ.jk u))(fd:List Addr):ba (W.fi.on fd) .nn D (.tp 904) [.ob 24,b,.it 0] (He P Ym true) (.ok v) (He P τ false):=
 have Tx:clos [b,.it 0]=true:=(Bool.and_eq_true _ _).mpr ⟨hb,rfl⟩
 uI (vs:=[b,.it 0]) (.inr rfl) hv Tx (λu=>ba.fi (W:=W) (m:=Qd) (q:=qC) (q':=qK) (st:=base P (Ym.jk u)) (F:=cS P (τ.jk u)) (c u) rfl Iw.2 US jp ((Bool.and_eq_true _ _).mpr ⟨rfl,(Bool.and_eq_true _ _).mpr ⟨rfl,Nc (x:=.tu [b,.it 0]) Tx⟩⟩) nofun) fd
theorem WS(sv:List (Option Nat))(hp:σ.r.pre=[])(h:sv.length<=100000)(hn:backTo σ.m.now sv=none)(fd:List Addr):ba (W.fi.on fd) .nn (D+3) (.tp 392) [.ob 24,.it 0] (He P ⟨σ.m,σ.b,ua P sv,σ.r⟩ false) (.ok .nn) (He P ⟨⟨none,σ.m.Qb,σ.m.rd⟩,σ.b,[],σ.r⟩ false):=
 uI (vs:=[.it 0]) (.inl rfl) rfl rfl (λu fd=>by
  have l:=cH (m:=σ.m) (b:=σ.b) (ms0:=[]) (r:=⟨σ.r.pre,σ.r.zp,u⟩) (y:=true) (D:=D) (hn:=.nn) e (mark:=0) (by refine rt hp ?_;rfl) sv (by refine rt hp ?_;refine(?_:0+0+sv.length<=100000);lia)
  replace l:=hn▸l
  have l2:=ba.fi (W:=W) (m:=Qd) (hn:=.nn) (D:=D+3) (fv:=.tp 392) (vs:=[.ob 0,.it 0]) (b:=.nn) (q:=λuu=>false) (q':=qK) (st:=Pd qK 0 (cS P ⟨σ.m,σ.b,ua P sv,⟨σ.r.pre,σ.r.zp,u⟩⟩)) (F:=Pd qK 0 (cS P ⟨⟨none,σ.m.Qb,σ.m.rd⟩,σ.b,[],⟨σ.r.pre,σ.r.zp,u⟩⟩)) (by refine rt (qI ..) ?_;exact l) rfl mC.1 mC.2.1 jp rfl nofun fd
  replace l2:=mC.2.2▸l2
  exact l2) fd
end
end
section
section
variable {W W':Wd}{ad ia:List Addr}{h h':Heap}
theorem Vs.pC{l:List SV}(c:clos l=true)(x:Tr h (W.out ad) h' (W'.out ia))(v:List Value)(q:Vs W.fi ad h l v):Vs W' ia h' l v:=Vs.tr (W:=W.mw λuu=>true) x (λuu uu e=>nomatch e) v (Vs.co (m:=λuu=>true) (Nc (x:=.tu l) c) v q)
noncomputable def vI:AO->AO
 |.ct P=>.ct P
 |_=>.ta
theorem XS{P:Addr->AO->Prop}{a:Addr}{x:AO}(h0:P a .ta)(h1:∀p,x=.ct p->P a (.ct p)):P a (vI x):=by
 rcases x with _|_|_|_|_|_|_|_|_|_|_|p|_|_|_|_|_|_
 case ct=>exact h1 p rfl
 all_goals exact h0
end
section
variable {W:Wd}{fd:List Addr}{hn:Hn}{D n:Nat}{fv:SV}{vs L r:List SV}{st F:St}
theorem ba.YS(c:ba (W.fi.on fd) hn D fv vs st (.ok (.tu (.ob n::r))) F)(hF:F[n]?=some (.ls [] L []))(h0:st.length<=n)(h1:st.length<=F.length)(hr:clos r=true):ba (W.fi.on fd) hn D fv vs st (.ok (.tu (.fl L::r))) ((F.take st.length).map vI):=λA Ma ad s v ws C hh q1 q2 Rq hQ hE=>by
 refine c A Ma ad s v ws C hh q1 q2 Rq (λb e res s' p=>?_) λn e=>nomatch e
 replace e:=Except.ok.inj e
 subst e
 refine Pc.casesOn p λia g r1 x=>?_
 have G:∀i a,ad[i]?=some a->ia[i]?=some a:=λi a e=>g.g.get e
 have T:Tr s'.heap ((W.fi.on fd).out ia) s'.heap ((W.fi.on fd).out ad):=
  have O:∀a,(W.fi.on fd).out ia a->(W.fi.on fd).out ad a:=λa m=>⟨λq=>(List.getElem?_of_mem q).elim λi e=>m.1 (List.mem_of_getElem? (G i a e)),m.2⟩
  ⟨λa o e m uu=>⟨e,O a m⟩,λT o ts fl e m h1 h2 h3=>⟨O T m,o,ts,fl,e,h1,h2,h3⟩⟩
 refine hQ _ rfl res _ ⟨ad,⟨.refl,g.k,g.e⟩,⟨?_,C.r.nd,λa m=>⟨(C.r.lt a m).1,Nat.lt_of_lt_of_le (C.r.lt a m).2 g.k.size⟩,λa m=>⟨(C.r.lf a m).1,Nat.lt_of_lt_of_le (C.r.lf a m).2 g.k.size⟩,λi a o e1 e2=>?_,λuu uu=>rfl⟩,?_⟩
 ·refine rt (List.length_map ..) (rt (List.length_take ..) (rt (Nat.min_eq_left h1 ..) ?_))
  exact C.r.len
 ·replace e2:=(List.getElem?_map ..)▸e2
  obtain⟨y,e3,rfl⟩:=Option.map_eq_some_iff.mp e2
  refine XS (P:=λa o=>Ob (W.fi.on fd) ad s'.heap a o) trivial λp e=>?_
  subst e
  have hi:i<st.length:=C.r.len▸(List.getElem?_eq_some_iff.mp e1).1
  replace e3:=(List.getElem?_take_of_lt hi ..)▸e3
  exact(r1.ob i a _ (G i a e1) e3).imp λo q=>⟨q.1,q.2.1,Fj.imp (W:=W.fi.on fd) (fd:=fd) (m:=λuu=>false) T q.2.2⟩
 ·refine fb.casesOn (x:fb ..) λa us k e q m=>?_
  induction(q:Ta ..) using Ta.casesOn with
   |mk u ur q z=>
    obtain⟨an,f1,rfl⟩:=q
    replace f1:=Hb f1
    obtain⟨o,e1,cL,_,ZX,k',e2,y⟩:=r1.ob n an _ f1 hF
    induction y using Ac.casesOn with
    |mk v1 v2 y1 y2=>
     cases(show v2=[] from y2)
     refine fb.mk a _ k e (.mk _ ur (fb.mk an v1 k' (by refine(e1 ..).symm▸(e2 ..).symm▸(List.append_nil ..).symm▸?_;rfl) (Vs.pC (W:=W.on fd) (W':=W.fi.on fd) cL T v1 y1) ⟨λm=>?_,λm=>?_⟩) (Vs.pC (W:=W.on fd) (W':=W.fi.on fd) hr T ur z)) (T.p a _ e m (.of rfl rfl)).2
     ·obtain⟨i,hi⟩:=List.getElem?_of_mem m
      have:=(List.getElem?_inj (List.getElem?_eq_some_iff.mp (G i an hi)).1 r1.nd).mp ((G i an hi).trans f1.symm)
      have:=(List.getElem?_eq_some_iff.mp hi).1
      have:=C.r.len
      lia
     ·exact absurd (C.r.lf an m).2 (Nat.not_lt.mpr ((g.g.new an (List.mem_of_getElem? f1)).resolve_left λm=>by
       obtain⟨i,hi⟩:=List.getElem?_of_mem m
       have:=(List.getElem?_inj (List.getElem?_eq_some_iff.mp (G i an hi)).1 r1.nd).mp ((G i an hi).trans f1.symm)
       have:=(List.getElem?_eq_some_iff.mp hi).1
       have:=C.r.len
       lia))
end
end
section
inductive Re:AO->AO->Prop where
 |dq {k:List Str}:Re (.ns []) (.dq k .nn)
 |dz:Re (.ns []) (.dz [])
 |ls:Re (.Ha []) (.ls [] [] [])
 |op {x:AO}:Nat.beq x.ctorIdx 0=false->Re x (.op .ta)
inductive nk:List (Nat×AO)->St->Prop where
 |nil {st:St}:nk [] st
 |cons {n:Nat} {x y:AO} {l:List (Nat×AO)} {st:St}:st[n]?=some x->Re x y->nk l (st.set n y)->nk ((n,y)::l) st
 |ta {n:Nat} {l:List (Nat×AO)} {st:St}:nk l (st.set n .ta)->nk ((n,.ta)::l) st
section
variable {W:Wd}{fd ad:List Addr}{h:Heap}{a:Addr}{hn:Hn}{D:Nat}{fv:SV}{vs:List SV}{st F:St}{o:Except Nat SV}
theorem Ed.no{K:Type}{kv:K->Tok->Value}{hs:K->Int}{es:List DictEntry}(q:Ed W ad h kv hs [] es):es=[]:=by cases q;rfl
theorem Re.ob{x y:AO}(e:Re x y)(q:Ob W ad h a x):Ob W ad h a y:=by
 induction e using Re.casesOn with
 |dq=>
  obtain⟨o,e,es,n,rfl,z,_⟩:=q
  exact⟨_,e,.inl ⟨⟨n,z.no▸rfl⟩,rfl⟩⟩
 |dz=>
  obtain⟨o,e,es,n,rfl,z,_⟩:=q
  exact⟨_,e,es,n,rfl,z.no▸.nil,List.nodup_nil⟩
 |ls=>
  obtain⟨o,e,us,n,rfl,z⟩:=q
  cases(show us=[] from z)
  exact⟨_,e,rfl,(λuu m=>nomatch m),[],n,rfl,.mk (pre:=[]) [] [] rfl rfl⟩
 |op e=>exact(Ob.at q λz=>by replace e:=z▸e;exact nomatch e).imp λo q=>⟨q.1,q.2.cls⟩
theorem nk.r{l:List (Nat×AO)}(q:nk l st):R W ad h st->R W ad h (Pp l st):=by
 induction q with
 |nil=>exact id
 |cons e q _ ih=>exact λr=>ih (r.swap λa z=>q.ob (r.ob _ a _ z e))
 |ta _ ih=>exact λr=>ih (r.swap λa z=>trivial)
theorem ba.re{l:List (Nat×AO)}(q:nk l st)(c:ba W hn D fv vs (Pp l st) o F):ba W hn D fv vs st o F:=c.pre λuu uu=>q.r
end
noncomputable def wI:List (Nat×AO):=[(15,.ls [] [] []),(32,.ls [] [] []),(35,.ls [] [] []),(34,.dq JA .nn),(36,.dz []),(41,.ta),(42,.ta),(43,.ta),(25,.op .ta),(27,.op .ta)]
theorem ZS{P:Pm}:nk wI (lC P):=
 .cons (by kernel_rfl) .ls (.cons (by kernel_rfl) .ls (.cons (by kernel_rfl) .ls (.cons (by kernel_rfl) .dq (.cons (by kernel_rfl) .dz (.ta (.ta (.ta (.cons (x:=.ns []) (by kernel_rfl) (.op rfl) (.cons (x:=.ns []) (by kernel_rfl) (.op rfl) .nil)))))))))
theorem aT{P:Pm}:Pp wI (lC P)=He P Ym true:=by kernel_rfl
noncomputable def zx:Str:=(Ph zA (st 132) [] (some 1206)).qual++Str.ofString ".<locals>."++Str.ofString "deed"
noncomputable def Ax:Str:=(Ph zA (st 132) [] (some 1206)).qual++Str.ofString ".<locals>."++Str.ofString "listed"
noncomputable def Yr:St:=[.ta,.ct 1047,.ct 1202,.ta,.ta,.ta,.ta]
section
variable {W:Wd}{P:Pm}{σ:Sg}{D:Nat}{b v:SV}{cells:List Int}{m:Mm}{n:Nat}(e:Wo W P)(wt:W.qn 912=zx)(xt:W.qn 915=Ax)
include e wt xt
theorem cT(hm:Ia (mt σ.m.now)=true)(q1:∀fd,ba (W.fi.on fd) .nn (D+59) (.tp 904) [.ob 24,b,.it 0] (lC P) (.ok v) (He P σ false))(q2:∀fd,ba (W.fi.on fd) .nn (D+59) (.tp 392) [.ob 24,.it 0] (He P σ false) (.ok .nn) (He P ⟨⟨none,σ.m.Qb,σ.m.rd⟩,σ.b,[],σ.r⟩ false))(fd:List Addr):
  ba (W.fi.on fd) .nn (D+60) (.tp 1207) [.ob 0,.fl (al P),b] (yx P) (.ok (.tu [.fl (σ.m.Qb.map Bb),mt σ.m.now,.nn,.nn])) Yr:=by
 have c:∀fd,ba (W.fi.on fd) .nn (D+60) (.tp 1207) [.ob 0,.fl (al P),b] (yx P) (.ok (.tu [.ob 35,mt σ.m.now,.nn,.nn])) (He P ⟨⟨none,σ.m.Qb,σ.m.rd⟩,σ.b,[],σ.r⟩ false):=by
  obtain⟨⟨now,lg,rd⟩,k,ms,r⟩:=σ
  rcases now with _|i<;>exact Km (e.ok.mw _) e.hF (n:=60) [⟨919,28,50,.Ca true⟩,⟨920,4,27,ho q1⟩,⟨922,4,17,ho q2⟩] (l:=[_,_,([]:List SV).length<=100000,_,_]) (by kernel_rfl) ⟨wt,xt,Nat.zero_le _,q1,q2,trivial⟩
 exact ba.YS (W:=W) (c fd) (L:=σ.m.Qb.map Bb) rfl (Nat.le_of_ble_eq_true rfl) (Nat.le_of_ble_eq_true rfl) ((Bool.and_eq_true _ _).mpr ⟨hm,rfl⟩)
theorem dT(hL:P.L=(bT cells).2.ds.map Ga.sv)(T:Top cells m n)(fd:List Addr):
  ba (W.fi.on fd) .nn 123 (.tp 1207) [.ob 0,.fl (al P),ma (bT cells).1] (yx P) (.ok (.tu [.fl (m.Qb.map Bb),mt m.now,.nn,.nn])) Yr:=Na rI λq hl=>Na q λhs ho=>by
 have le:=T.le
 refine Ue.casesOn (CR e hL (Nat.le_trans kC (by decide)) T.bs 3 ho ⟨0,1,none⟩ [] 0 ⟨by refine(?_:(0:Int)+_<=_);lia,by show 0+_<=_;lia,by show 0+_<=_;lia,λuu e=>nomatch e⟩) λb' sv v B hv hb k=>?_
 have k:=λu=>Zw e (Nat.le_of_ble_eq_true hl) (AB hs▸k ⟨[],[],u⟩ ⟨by refine(?_:0+0+_<=_);lia,Nat.le_of_ble_eq_true rfl⟩ rfl)
 have hm:Ia (mt m.now)=true:=by rcases m.now with _|_<;>rfl
 have q1:=λfd=>ba.re ZS (aT.symm▸VS (τ:=⟨m,b',ua P sv,⟨[],[],.none⟩⟩) (D:=122) e (Eb _) (k .none).1 (λu=>(k u).2) fd)
 have q2:=WS (σ:=⟨m,b',[],⟨[],[],.none⟩⟩) (D:=119) e sv rfl (by lia) hb
 exact cT (σ:=⟨m,b',ua P sv,⟨[],[],.none⟩⟩) (D:=63) e wt xt hm q1 q2 fd
end
end
section
noncomputable def Wd.ug(W:Wd)(E:Frag):Wd:={W with K:=W.K++E}
noncomputable def xI:AO->Bool
 |.ls _ _ _=>true
 |.ct _=>true
 |.op x=>Nat.beq x.ctorIdx 0
 |_=>false
theorem yI{W:Wd}{E:Frag}{fd ad:List Addr}{h:Heap}{a:Addr}{x:AO}(s:xI x=true):Ob ((W.ug E).fi.on fd) ad h a x=Ob (W.fi.on fd) ad h a x:=by
 induction x using AO.casesOn with
 |ls p L l=>kernel_rfl
 |ct P=>kernel_rfl
 |op x=>induction x using AO.casesOn with
  |ta=>kernel_rfl
  |_=>exact nomatch s
 |_=>exact nomatch s
theorem eT{W:Wd}{E:Frag}{fd ad:List Addr}{h:Heap}{x:List SV}{v:List Value}:Vs ((W.ug E).fi.on fd) ad h x v=Vs (W.fi.on fd) ad h x v:=by kernel_rfl
theorem zI{W:Wd}{E:Frag}{fd ad:List Addr}{h:Heap}{x:SV}{v:Value}:V ((W.ug E).fi.on fd) ad h x v=V (W.fi.on fd) ad h x v:=by kernel_rfl
theorem Qp{K E:Frag}{a:Addr}:(K++E).lookup a=(K.lookup a).elim (E.lookup a) some:=by
 induction K with
 |nil=>rfl
 |cons p K ih=>
  obtain⟨k,v⟩:=p
  refine(?_:(match a==k with|true=>some v|false=>(K++E).lookup a)=(match a==k with|true=>some v|false=>K.lookup a).elim _ _)
  rcases a==k with _|_
  ·exact ih
  rfl
noncomputable def solid(qs:List Nat)(ad:List Addr)(h:Heap):Frag:=qs.map λq=>((ad[q]?).getD 0,(h.get? ((ad[q]?).getD 0)).getD default)
theorem rC{qs:List Nat}{ad:List Addr}{h:Heap}{a:Addr}{o:Obj}(e:(solid qs ad h).lookup a=some o):∃q∈qs,a=(ad[q]?).getD 0/\o=(h.get? a).getD default:=by
 induction qs with
 |nil=>exact nomatch e
 |cons q qs ih=>
  replace e:(match a==(ad[q]?).getD 0 with|true=>some ((h.get? ((ad[q]?).getD 0)).getD default)|false=>(solid qs ad h).lookup a)=some o:=e
  rcases hb:a==(ad[q]?).getD 0 with _|_
  ·replace e:=hb▸e
   exact(ih e).imp λq' z=>⟨.tail _ z.1,z.2⟩
  replace e:=hb▸e
  have:=eq_of_beq hb
  exact⟨q,.head _,this,by refine rt this ?_;exact(Option.some.inj e).symm⟩
noncomputable def AI:AO->Bool
 |.bc _ _=>true
 |.ns _=>true
 |_=>false
section
variable {W:Wd}{fd:List Addr}{hn:Hn}{D:Nat}{fv v:SV}{vs:List SV}{st G F:St}{n:Nat}{qs:List Nat}
theorem ba.solid(hG:G.length=st.length)(eX:∀(i:Nat) (o:AO),G[i]?=some o->o=.ta\/∃P,o=.ct P/\i<n/\F[i]?=some (.ct P))(fX:hn.isNone=true)(hle:n<=st.length)(hq:∀q∈qs,n<=q/\∃o,st[q]?=some o/\AI o=true)(hs:∀z,(Md z (List.range n) st).all xI=true)(hv:Ia v=true)(jq:Fg st.length (fv::vs)=true)
  (H:∀ad h Fd,R (W.fi.on fd) ad h st->ba ((W.ug (Mine.solid qs ad h)).fi.on Fd) hn D (Pa (λn=>(ad[n]?).getD 0) (List.range n) fv) (Af (λn=>(ad[n]?).getD 0) (List.range n) vs) (Md (λn=>(ad[n]?).getD 0) (List.range n) st) (.ok v) F):
  ba (W.fi.on fd) hn D fv vs st (.ok v) G:=λA Ma ad s f ws C hh q1 q2 Rq hQ hE=>by
 have r:=C.r
 have ac:∀p∈List.range n,p<ad.length:=λp m=>Nat.lt_of_lt_of_le (List.mem_range.mp m) (r.len.symm▸hle)
 have sub:=kj ac
 have fm:=Sk (W:=W.fi.on fd) ac (λuu uu uu=>rfl) λuu uu uu=>rfl
 have r2:=r.part List.nodup_range ac (λuu uu uu=>rfl) (λuu uu uu=>rfl) λuu uu=>rfl
 have jq:=(Bool.and_eq_true _ _).mp (r.len.symm▸jq:Fg ad.length (fv::vs)=true)
 have df:∀a o,(W.K++Mine.solid qs ad s.heap).lookup a=some o->W.K.lookup a=some o\/(s.heap.get? a=some o/\o.cls≠.type "tuple"/\a∉Nd (List.range n) ad):=λa o e=>by
  replace e:=Qp▸e
  rcases hk:W.K.lookup a with _|o'
  ·replace e:=hk▸e
   obtain⟨q,m,ha,e2⟩:=rC e
   obtain⟨hn,o1,e1,z⟩:=hq q m
   have hl:=(List.getElem?_eq_some_iff.mp e1).1
   have ea:ad[q]?=some a:=by rw[List.getElem?_eq_getElem (r.len.symm▸hl)] at ha ⊢;exact congrArg some ha.symm
   have ho:∃o',s.heap.get? a=some o'/\o'.cls≠.type "tuple":=by
    have b:=r.ob q a o1 ea e1
    induction o1 using AO.casesOn with
    |bc c d=>
     obtain⟨o',b1,da,_,b2⟩:=b
     exact⟨o',b1,by refine rt b2 ?_;exact nofun⟩
    |ns fs=>
     obtain⟨o',b1,es,k,b2,_⟩:=b
     exact⟨o',b1,by refine rt b2 ?_;exact λe=>absurd (Value.type.inj e) (by decide)⟩
    |_=>exact nomatch z
   obtain⟨o',b1,b2⟩:=ho
   replace e2:=b1▸e2
   have e2:o=o':=e2
   subst e2
   exact .inr ⟨b1,b2,br r.nd ea (λm=>absurd (List.mem_range.mp m) (Nat.not_lt.mpr hn)) ac⟩
  replace e:=hk▸e;exact .inl e
 refine H ad s.heap (fd++Le (List.range n) ad) r A Ma (Nd (List.range n) ad) s f ws ⟨λa o e=>(df a o e).elim (C.ib a o) λz=>z.1,⟨r2.len,r2.nd,λa m=>⟨?_,(r2.lt a m).2⟩,λa m=>⟨λo e=>(df a o e).elim ((r2.lf a m).1 o) λz=>z.2.1,(r2.lf a m).2⟩,λi a o e1 e2=>(yI (List.all_eq_true.mp (hs _) o (List.mem_of_getElem? e2))).symm▸r2.ob i a o e1 e2,r2.hi⟩,C.fr,λenv m=>(C.ff env m).imp id λz=>z.imp λuu z=>z.imp λuu z=>⟨z.1,z.2.1,λq=>z.2.2.1 (sub _ q),z.2.2.2⟩,C.je,C.un,C.gf⟩ ?_ (zI.symm▸(V.bf (W:=W.fi.on fd) fm jq.1 f).mp q1) (eT.symm▸(Vs.bf (W:=W.fi.on fd) fm jq.2 ws).mp q2) Rq (λb e res s' p=>?_) λn e=>nomatch e
 ·refine(?_:(W.K++Mine.solid qs ad s.heap).lookup a=none)
  rcases hk:(W.K++Mine.solid qs ad s.heap).lookup a with _|o
  ·rfl
  exact(df a o hk).elim (λe=>nomatch e.symm.trans (show W.K.lookup a=none from(r2.lt a m).1)) λz=>absurd m z.2.2
 ·induction hn using Hn.casesOn<;>first|exact hh|exact nomatch fX
 ·replace e:=Except.ok.inj e
  subst e
  refine Pc.casesOn p λia g r1 x=>?_
  have T:Tr s'.heap ((W.fi.on (fd++Le (List.range n) ad)).out ia) s'.heap ((W.fi.on fd).out ad):=
   have O:∀a,(W.fi.on (fd++Le (List.range n) ad)).out ia a->(W.fi.on fd).out ad a:=λa m=>(fm.out a).mpr ⟨λq=>(List.getElem?_of_mem q).elim λi e=>m.1 (List.mem_of_getElem? (g.g.get e)),m.2⟩
   ⟨λa o e m uu=>⟨e,O a m⟩,λT o ts fl e m h1 h2 h3=>⟨O T m,o,ts,fl,e,h1,h2,h3⟩⟩
  refine hQ _ rfl res _ ⟨ad,⟨.refl,g.k.GF sub,g.e⟩,⟨hG▸r.len,r.nd,λa m=>⟨(r.lt a m).1,Nat.lt_of_lt_of_le (r.lt a m).2 g.k.size⟩,λa m=>⟨(r.lf a m).1,Nat.lt_of_lt_of_le (r.lf a m).2 g.k.size⟩,λi a o e1 e2=>?_,λuu uu=>rfl⟩,?_⟩
  ·rcases eX i o e2 with rfl|⟨P,rfl,hi,hf⟩
   ·trivial
   ·obtain⟨a',g1,g2⟩:=Oj (ad:=ad) (List.getElem?_range hi) (ac i (List.mem_range.mpr hi))
    replace g1:=(sj g2 e1 ..)▸g1
    exact(r1.ob i a _ (Hb (g.g.get (yc rfl g1))) hf|>λz=>(yI (x:=.ct P) rfl▸z:Ob (W.fi.on (fd++Le (List.range n) ad)) ia s'.heap a (.ct P))).imp λo q=>⟨q.1,q.2.1,Fj.imp (W:=W.fi.on (fd++Le (List.range n) ad)) (fd:=fd) (m:=λuu=>false) T q.2.2⟩
  ·exact(Vs.pC (l:=[v]) (W:=W.on (fd++Le (List.range n) ad)) (W':=W.fi.on fd) ((Bool.and_eq_true _ _).mpr ⟨hv,rfl⟩) T [res] (.mk res [] (zI▸x) rfl))|>λz=>by cases(z:Ta ..) with|mk _ _ q _=>exact q
end
end
section
theorem gT{qs:List Nat}{ad:List Addr}{h:Heap}{q:Nat}{a:Addr}(m:q∈qs)(e:ad[q]?=some a):∃o,(solid qs ad h).lookup a=some o:=by
 induction qs with
 |nil=>exact nomatch m
 |cons p qs ih=>
  refine(?_:∃o,(match a==(ad[p]?).getD 0 with|true=>some ((h.get? ((ad[p]?).getD 0)).getD default)|false=>(solid qs ad h).lookup a)=some o)
  rcases hb:a==(ad[p]?).getD 0 with _|_
  ·rcases List.mem_cons.mp m with rfl|m
   ·replace hb:=e▸hb
    exact ft (hb.symm.trans (beq_self_eq_true a))
   ·exact ih m
  exact⟨_,rfl⟩
theorem Bx{W:Wd}{qs:List Nat}{ad:List Addr}{h:Heap}{q:Nat}{a:Addr}{o:Obj}(m:q∈qs)(e:ad[q]?=some a)(fr:W.fr a)(ho:h.get? a=some o):(W.ug (solid qs ad h)).K.lookup a=some o:=by
 refine(?_:(W.K++solid qs ad h).lookup a=_)
 refine rt (Qp ..) (rt (show W.K.lookup a=none from fr) ?_)
 obtain⟨o',h1⟩:=gT (h:=h) m e
 obtain⟨_,_,_,h2⟩:=rC h1
 replace h2:=ho▸h2
 exact h1.trans (congrArg some h2)
noncomputable def Bj(n:Nat)(i:Int):St:=[.Ha [],.ns [(rh,.it i)],.ns [(uA,.ob n),(vA,.it 1),(wA,.it 0),(qh,.ob (n+1))],.bc 846 (n+2)]
noncomputable def Pg(ds:List SV):St:=[.ls [] ds [],.ct 1047,.ct 1202,.op .ta,.op .ta,.op .ta,.op .ta]++(Bj 7 0++(Bj 11 1++(Bj 15 2++(Bj 19 3++Bj 23 4))))
noncomputable def Pf:List Nat:=[8,9,10,12,13,14,16,17,18,20,21,22,24,25,26]
noncomputable def rk(ds:List SV)(ad:List Addr):Pm:=⟨λi=>(ad[4 * i+10]?).getD 0,λi=>(ad[4 * i+8]?).getD 0,ds⟩
structure sC(W:Wd)(E:Frag):Prop where
 ok:(W.ug E).Ok
 tb:∀m fd,lb (((W.ug E).mw m).on fd) TP.tb
 cp:ru (W.ug E) 846
section
variable {W:Wd}{fd ad:List Addr}{h:Heap}{ds:List SV}{i:Nat}(r:R (W.fi.on fd) ad h (Pg ds))
include r
theorem Zm{j:Nat}(hj:j<27):ad[j]?=some ((ad[j]?).getD 0):=by rw[List.getElem?_eq_getElem (r.len.symm▸hj)];rfl
omit r in
theorem BI(hi:i<5):(Pg ds)[4 * i+8]?=some (.ns [(rh,.it (Int.ofNat i))])/\(Pg ds)[4 * i+9]?=some (.ns [(uA,.ob (4 * i+7)),(vA,.it 1),(wA,.it 0),(qh,.ob (4 * i+8))])/\(Pg ds)[4 * i+10]?=some (.bc 846 (4 * i+9))/\4 * i+8∈Pf/\4 * i+9∈Pf/\4 * i+10∈Pf:=by
 rcases i with _|_|_|_|_|i<;>first|exact⟨rfl,rfl,rfl,by decide,by decide,by decide⟩|(exfalso;lia)
theorem iT{m:Nat->Bool}{Fd:List Addr}(f:vq (((W.ug (solid Pf ad h)).mw m).on Fd) 846 qh)(hi:i<5):Qy (((W.ug (solid Pf ad h)).mw m).on Fd) ((rk ds ad).pa i) qh (.tp ((rk ds ad).da i))/\Fk (((W.ug (solid Pf ad h)).mw m).on Fd) ((rk ds ad).da i) rh (.it (Int.ofNat i)):=by
 obtain⟨t1,t2,t3,m1,m2,m3⟩:=BI (ds:=ds) hi
 have a1:=Zm r (j:=4 * i+8) (by lia)
 have a2:=Zm r (j:=4 * i+9) (by lia)
 have a3:=Zm r (j:=4 * i+10) (by lia)
 obtain⟨o1,g1,b1⟩:=r.ob _ _ _ a1 t1
 obtain⟨o2,g2,es,k,rfl,d2,d3⟩:=r.ob _ _ _ a2 t2
 obtain⟨o3,g3,da,c1,rfl⟩:=r.ob _ _ _ a3 t3
 replace g3:=(sj a2 c1 ..).symm▸g3
 have k1:=Bx (W:=W) m1 a1 (r.lt _ (List.mem_of_getElem? a1)).1 g1
 have k2:=Bx (W:=W) m2 a2 (r.lt _ (List.mem_of_getElem? a2)).1 g2
 have k3:=Bx (W:=W) m3 a3 (r.lt _ (List.mem_of_getElem? a3)).1 g3
 refine⟨⟨.ref ((rk ds ad).da i),λuu uu uu uu uu=>rfl,λA s Q E ex K q=>?_⟩,?_⟩
 ·have y:=Ed.get (W:=W.fi.on fd) (name:=qh) d2
  obtain⟨v,g,a,z,rfl⟩:=(y:∃v,getL qh es=some (some v)/\V (W.fi.on fd) ad h (.ob (4 * i+8)) v)
  replace g:=(sj a1 (Hb z) ..).symm▸g
  exact MD f K (AK (K _ _ k3) rfl rfl rfl (K _ _ k2)) g rfl (q _)
 ·exact rc.dict (W:=W.fi.on fd) (sK (W.fi.on fd)) g1 b1 λkvs d kv uu=>by
   obtain⟨o',QC,ep,e,d⟩:=d
   have y:=kv.df Zg rh
   obtain⟨v,y1,y2⟩:=(y:∃v,valueAt kvs rh=some v/\V (W.fi.on fd) ad h (.it i) v)
   exact⟨kvs,v,λh' K=>⟨o',QC,ep,sj g1 e▸K _ _ k1,d⟩,y1,λuu uu uu uu uu=>y2⟩
theorem jT(sD:W.K.lookup 385≠none):(rk ds ad).Ok:=by
 have inj:∀c,c<=10->∀i j,i<5->j<5->(ad[4 * i+c]?).getD 0=(ad[4 * j+c]?).getD 0->i=j:=λc hc i j hi hj e=>by
  have a1:=Zm r (j:=4 * i+c) (by lia)
  have a2:=Zm r (j:=4 * j+c) (by lia)
  have:=Iv r.nd (List.getElem?_eq_some_iff.mp a1).1 (a1.trans (e▸a2.symm))
  lia
 refine⟨inj 10 (Nat.le_refl _),inj 8 (by decide),λi hi e=>?_⟩
 have a1:=Zm r (j:=4 * i+8) (by lia)
 exact sD ((show(ad[4 * i+8]?).getD 0=385 from e)▸(r.lt _ (List.mem_of_getElem? a1)).1)
end
theorem DI{f:Nat->Addr}{a:Addr}{g:Nat->SV}{x:SV}(e:(Zb.find? λi=>f i==a).map g=some x):∃i,i<5/\f i=a/\x=g i:=
 have⟨i,z1,z2⟩:=Option.map_eq_some_iff.mp e
 ⟨i,Qr.mp (List.mem_of_find?_eq_some z1),eq_of_beq (List.find?_some z1:),z2.symm⟩
theorem kT{W:Wd}{P:Pm}(t:lb W TP.tb)(ka:∀i,i<5->Qy W (P.pa i) qh (.tp (P.da i))/\Fk W (P.da i) rh (.it (Int.ofNat i)))(cq:∀i,i<5->IE W (.tp (P.pa i))):lb W (Wb P) where
 jf:=t.jf
 kf:=t.kf
 gl:=t.gl
 fn:=t.fn
 me:=t.me
 cf:=t.cf
 sd a k g e:=by
  replace e:(match TP.tb.sd a k with|some x=>some x|none=>cond (Oa k rh) ((Zb.find? λi=>P.da i==a).map λi=>SV.it (Int.ofNat i)) none)=some g:=e
  rcases h:TP.tb.sd a k with _|x
  ·replace e:=h▸e
   replace e:cond (Oa k rh) ((Zb.find? λi=>P.da i==a).map λi=>SV.it (Int.ofNat i)) none=some g:=e
   rcases q:Oa k rh with _|_
   ·replace e:=q▸e;exact nomatch e
   replace e:=q▸e
   obtain⟨i,hi,rfl,rfl⟩:=DI e
   exact Je.mp q▸(ka i hi).2
  replace e:=h▸e;exact t.sd _ _ _ (h.trans e)
 kp:=t.kp
 We:=t.We
 Ih:=t.Ih
 xm:=t.xm
 zg:=t.zg
 pe:=t.pe
 cp:=t.cp
 xr:=t.xr
 ct:=t.ct
 ka a n x e:=by
  replace e:cond (Oa n qh) ((Zb.find? λi=>P.pa i==a).map λi=>SV.tp (P.da i)) none=some x:=e
  rcases q:Oa n qh with _|_
  ·replace e:=q▸e;exact nomatch e
  replace e:=q▸e
  obtain⟨i,hi,rfl,rfl⟩:=DI e
  exact Je.mp q▸(ka i hi).1
 cq x e:=by
  rcases e with rfl|⟨i,m,rfl⟩
  ·exact .inl rfl
  ·exact cq i (Qr.mp m)
noncomputable def EI:St:=Yr++List.replicate 20 .ta
section
variable {W:Wd}{cells:List Int}{m:Mm}{n:Nat}
theorem FI:Ia (.tu [.fl (m.Qb.map Bb),mt m.now,.nn,.nn])=true:=by
 have hc:clos (m.Qb.map Bb)=true:=by
  induction m.Qb with
  |nil=>rfl
  |cons x l ih=>exact cc (by rcases x with _|_<;>rfl) ih
 exact cc (x:=.fl _) hc (cc (by rcases m.now with _|_<;>rfl) (l:=[.nn,.nn]) rfl)
theorem mT(T:Top cells m n)(tC:W.qn 739=gp)(wt:W.qn 912=zx)(xt:W.qn 915=Ax)(sD:W.K.lookup 385≠none)(pg:∀fd ad h,R (W.fi.on fd) ad h (Pg ((bT cells).2.ds.map Ga.sv))->sC W (solid Pf ad h))(fd:List Addr):
  ba (W.fi.on fd) .nn 123 (.tp 1207) [.ob 0,.fl [.ob 10,.ob 14,.ob 18,.ob 22,.ob 26],ma (bT cells).1] (Pg ((bT cells).2.ds.map Ga.sv)) (.ok (.tu [.fl (m.Qb.map Bb),mt m.now,.nn,.nn])) EI:=by
 have b:=λz=>Ur (z:=z) (ps:=List.range 7) (k:=27) (Eb (bT cells).1)
 refine ba.solid (n:=7) (qs:=Pf) (F:=Yr) rfl (λi o h=>?_) rfl (Nat.le_of_ble_eq_true rfl) (λq m=>?_) (λz=>by kernel_rfl) FI ((Bool.and_eq_true _ _).mpr ⟨rfl,(Bool.and_eq_true _ _).mpr ⟨rfl,(Bool.and_eq_true _ _).mpr ⟨rfl,(Bool.and_eq_true _ _).mpr ⟨(b λuu=>0).1,rfl⟩⟩⟩⟩) λad h Fd r=>?_
 ·rcases i with _|_|_|i
  ·exact .inl (Option.some.inj h).symm
  ·exact .inr ⟨1047,(Option.some.inj h).symm,by decide,rfl⟩
  ·exact .inr ⟨1202,(Option.some.inj h).symm,by decide,rfl⟩
  ·exact .inl (List.eq_of_mem_replicate (n:=24) (List.mem_of_getElem? (i:=i) h))
 ·have a:(Pf.all λq=>Nat.ble 7 q&&((Pg ((bT cells).2.ds.map Ga.sv))[q]?).any AI)=true:=by kernel_rfl
  exact Na (List.all_eq_true.mp a q m) λa b=>⟨Nat.le_of_ble_eq_true a,by
   revert b
   rcases(Pg ((bT cells).2.ds.map Ga.sv))[q]? with _|o
   ·exact nofun
   ·exact λb=>⟨o,rfl,b⟩⟩
 ·have p:=pg fd ad h r
  have e:Wo (W.ug (solid Pf ad h)) (rk ((bT cells).2.ds.map Ga.sv) ad):=⟨p.ok,λm fd=>kT (p.tb m fd) (λi hi=>iT r ((p.tb m fd).jf 846 qh (by kernel_rfl)) hi) λi hi=>?_,jT r sD,tC⟩
  ·have c:=dT e wt xt rfl T Fd
   refine Eq.mp (congrArg (λl=>ba ((W.ug (solid Pf ad h)).fi.on Fd) .nn 123 (.tp 1207) l (yx (rk ((bT cells).2.ds.map Ga.sv) ad)) (.ok (.tu [.fl (m.Qb.map Bb),mt m.now,.nn,.nn])) Yr) (?_:[.ob 0,.fl (al (rk ((bT cells).2.ds.map Ga.sv) ad)),ma (bT cells).1]=_)) c
   exact congrArg (λx=>[SV.ob 0,.fl (al (rk ((bT cells).2.ds.map Ga.sv) ad)),x]) (b _).2.symm
  ·obtain⟨_,_,t3,_,_,m3⟩:=BI (ds:=(bT cells).2.ds.map Ga.sv) hi
   have a3:=Zm r (j:=4 * i+10) (by lia)
   obtain⟨o3,g3,da,_,rfl⟩:=r.ob _ _ _ a3 t3
   exact .inr ⟨_,846,rfl,λh' K=>p.cp.at_ h' _ da K (K _ _ (Bx m3 a3 (r.lt _ (List.mem_of_getElem? a3)).1 g3))⟩
end
end
section
section
variable {α β:Type}{T:Tb}{o:Ka}{c:Cx}{D N k:Nat}{t elt:PySem.Expr}{v y:SV}{sx sx1 xa Px:Sx}{acc:List SV}{u:Unit}
theorem Zi{m:Rn α}{f:α->Rn β}{a:α}(e:m sx=some (.ok a,sx1,[])):(m>>=f) sx=f a sx1:=by
 refine(?_:Rn.bind m f sx=_)
 unfold Rn.bind
 refine rt e ?_
 show(match f a sx1 with
   |none=>none
   |some q=>some q)=_
 rcases f a sx1 with _|_<;>rfl
theorem nT(e1:Rn.lh c N sx=some (.ok (some v),sx1,[]))(e2:Rn.wm t N sx1=some (.ok (),sx1,[]))(e3:Rn.vm o T c D t v sx1=some (.ok u,xa,[]))(e4:o.ev c D elt xa=some (.ok y,Px,[])):
  Rn.og o T c D t elt [] N (k+1) acc sx=Rn.og o T c D t elt [] N k (acc++[y]) Px:=
 (Zi e1).trans ((Zi e2).trans ((Zi e3).trans ((Zi (m:=Rn.YF o c D []) (a:=true) rfl).trans (Zi e4))))
end
noncomputable def Ah:Stmt->Str×Pos×PySem.Expr×Scope×Pos
 |.Assign [.Name x p] e _=>(x,p,e,(match e with|.ListComp _ _ s q=>(s,q)|_=>(default,p)))
 |s=>(q0,s.pos,.Constant .none s.pos.line s.pos,default,s.pos)
noncomputable def pT:PySem.Expr->PySem.Expr×PySem.Expr×PySem.Expr
 |.ListComp e [⟨t,i,_,_⟩] _ _=>(e,t,i)
 |e=>(e,e,e)
noncomputable abbrev wf:Stmt:=sB 1212 5
noncomputable abbrev ud:PySem.Expr×PySem.Expr×PySem.Expr:=pT (Ah wf).2.2.1
noncomputable abbrev Ll:Scope:=(Ah wf).2.2.2.1
theorem qT:wf=.Assign [.Name (Ah wf).1 (Ah wf).2.1] (.ListComp ud.1 [⟨ud.2.1,ud.2.2,[],0⟩] Ll (Ah wf).2.2.2.2) wf.pos:=by kernel_rfl
noncomputable def Zr:Cx:=⟨Rn.nj Ll (Dc 1212 .nn).scope,[],.nn,false,none⟩
noncomputable def Qg(x2 x3 x4 own Qb rd:AO):St:=[.ct 1047,.ct 1202,x2,x3,x4,.ta]++(Bj 6 0++(Bj 10 1++(Bj 14 2++(Bj 18 3++(Bj 22 4++[own,Qb,rd])))))
noncomputable def Cd(v:SV):AO:=.ns [(UG,v),(bp,.ob 27),(Dw,.ob 28),(VG,.nn)]
section
variable {W:Wd}{D:Nat}{x2 x3 x4 ow rd:AO}{lg:List (Option Nat)}{L:List SV}{i:Nat}{loc:Lc}
noncomputable abbrev Qf(x2 x3 x4 ow rd:AO)(L:List SV)(o:AO):St:=Qg x2 x3 x4 ow (.Ha L) rd++[o]
theorem GI:Rn.lh Zr 29 ⟨loc,Qf x2 x3 x4 ow rd L (.li (.ob 27) i),[]⟩=match L[i]? with
 |some v=>some (.ok (some v),⟨loc,Qf x2 x3 x4 ow rd L (.li (.ob 27) (i+1)),[]⟩,[])
 |none=>some (.ok none,⟨loc,Qf x2 x3 x4 ow rd L .ta,[]⟩,[]):=by kernel_rfl
noncomputable def Ml:Option SV->Lc
 |none=>[]
 |some y=>[(Oo,y)]
theorem rT{a:Option Nat}(h5:∀i,a=some i->i<5):(Rn.Xa W TP.tb 50).ev Zr D ud.1 ⟨Ml (some (nv a)),Qf x2 x3 x4 ow rd L (.li (.ob 27) i),[]⟩=some (.ok (Bb a),⟨Ml (some (nv a)),Qf x2 x3 x4 ow rd L (.li (.ob 27) i),[]⟩,[]):=by
 rcases a with _|j
 ·kernel_rfl
 ·have:=h5 j rfl
  rcases j with _|_|_|_|_|j<;>first|(exfalso;lia)|kernel_rfl
theorem HI:∀(l p:List (Option Nat)) (k:Nat) (acc:List SV) (y:Option SV),lg=p++l->(∀i,some i∈l->i<5)->l.length<k->
  ∃z,Rn.og (Rn.Xa W TP.tb 50) TP.tb Zr D ud.2.1 ud.1 [] 29 k acc ⟨Ml y,Qf x2 x3 x4 ow rd (lg.map nv) (.li (.ob 27) p.length),[]⟩=some (.ok (acc++l.map Bb),⟨Ml z,Qf x2 x3 x4 ow rd (lg.map nv) .ta,[]⟩,[])
 |_,_,0,_,_,_,_,h=>absurd h (Nat.not_lt_zero _)
 |[],p,k+1,acc,y,e,h5,hk=>⟨y,by
  have e1:(lg.map nv)[p.length]?=none:=by refine rt (e ..) (rt (List.append_nil ..) ?_);exact List.getElem?_eq_none (by refine rt (List.length_map ..) ?_;exact Nat.le_refl _)
  have e2:=GI (x2:=x2) (x3:=x3) (x4:=x4) (ow:=ow) (rd:=rd) (L:=lg.map nv) (i:=p.length) (loc:=Ml y)
  replace e2:=e1▸e2
  refine(Zi e2).trans ?_
  refine rt (List.map_nil ..) (rt (List.append_nil ..) ?_)
  rfl⟩
 |a::l,p,k+1,acc,y,e,h5,hk=>by
  have e1:(lg.map nv)[p.length]?=some (nv a):=by refine rt (e ..) (rt (List.getElem?_map ..) (rt (List.getElem?_append_right (Nat.le_refl _) ..) (rt (Nat.sub_self ..) ?_)));rfl
  have e2:=GI (x2:=x2) (x3:=x3) (x4:=x4) (ow:=ow) (rd:=rd) (L:=lg.map nv) (i:=p.length) (loc:=Ml y)
  replace e2:=e1▸e2
  obtain⟨z,ih⟩:=HI l (p++[a]) k (acc++[Bb a]) (some (nv a)) (e.trans (List.append_assoc p [a] l).symm) (λi m=>h5 i (.tail _ m)) (Nat.lt_of_succ_lt_succ hk)
  replace ih:=(List.append_assoc ..)▸(List.length_append ..)▸ih
  exact⟨z,(nT (u:=()) e2 (by kernel_rfl) (by rcases y with _|y<;>kernel_rfl) (rT λi e=>h5 i (e▸.head _))).trans ih⟩
noncomputable def Ug(cells:List SV)(b:SV):Lc:=[(GP,.fl cells),(EP,.ob 2),(Uj,b),(GA,.fl [.ob 9,.ob 13,.ob 17,.ob 21,.ob 25]),(EA,.ob 26)]
theorem sT{cells:List SV}{b:SV}{v:SV}(h5:∀i,some i∈lg->i<5)(hl:lg.length<60000):
  Rn.oj (Rn.Xa W TP.tb 50) TP.tb (Dc 1212 .nn) D (Ah wf).1 ud.1 ud.2.1 ud.2.2 [] Ll ⟨Ug cells b,Qg x2 x3 x4 (Cd v) (.Ha (lg.map nv)) rd,[]⟩=
   some (.ok .next,⟨Ug cells b++[(bp,.fl (lg.map Bb))],Qf x2 x3 x4 (Cd v) rd (lg.map nv) .ta,[]⟩,[]):=by
 obtain⟨z,h⟩:=HI (W:=W) (D:=D) (x2:=x2) (x3:=x3) (x4:=x4) (ow:=Cd v) (rd:=rd) lg [] 60000 [] none rfl h5 hl
 have a1:Rn.oj (Rn.Xa W TP.tb 50) TP.tb (Dc 1212 .nn) D (Ah wf).1 ud.1 ud.2.1 ud.2.2 [] Ll ⟨Ug cells b,Qg x2 x3 x4 (Cd v) (.Ha (lg.map nv)) rd,[]⟩=
  (Rn.Bz (Rn.Xa W TP.tb 50) TP.tb Zr D ud.1 ud.2.1 [] 29>>=λv=>Rn.Kd (Dc 1212 .nn) (Ah wf).1 v>>=λuu=>Pure.pure .next) ⟨Ug cells b,Qf x2 x3 x4 (Cd v) rd (lg.map nv) (.li (.ob 27) 0),[]⟩:=by
  have s1:Rn.oj (Rn.Xa W TP.tb 50) TP.tb (Dc 1212 .nn) D (Ah wf).1 ud.1 ud.2.1 ud.2.2 [] Ll ⟨Ug cells b,Qg x2 x3 x4 (Cd v) (.Ha (lg.map nv)) rd,[]⟩=(Rn.Ea (Rn.Uk (Dc 1212 .nn).cells Ll.names [])>>=λcl=>(Rn.Xa W TP.tb 50).ev (Dc 1212 .nn) D ud.2.2>>=λx=>Rn.Kj x>>=λi=>Rn.Ea i.mf>>=λN=>Rn.Bz (Rn.Xa W TP.tb 50) TP.tb ⟨Rn.nj Ll (Dc 1212 .nn).scope,cl,.nn,false,none⟩ D ud.1 ud.2.1 [] N>>=λv=>Rn.Kd (Dc 1212 .nn) (Ah wf).1 v>>=λuu=>Pure.pure .next) ⟨Ug cells b,Qg x2 x3 x4 (Cd v) (.Ha (lg.map nv)) rd,[]⟩:=by kernel_rfl
  exact s1.trans ((Zi (a:=[]) (sx1:=⟨Ug cells b,Qg x2 x3 x4 (Cd v) (.Ha (lg.map nv)) rd,[]⟩) (by kernel_rfl)).trans ((Zi (a:=.ob 27) (sx1:=⟨Ug cells b,Qg x2 x3 x4 (Cd v) (.Ha (lg.map nv)) rd,[]⟩) (by kernel_rfl)).trans ((Zi (a:=.ob 29) (sx1:=⟨Ug cells b,Qf x2 x3 x4 (Cd v) rd (lg.map nv) (.li (.ob 27) 0),[]⟩) (by kernel_rfl)).trans (Zi (a:=29) (sx1:=⟨Ug cells b,Qf x2 x3 x4 (Cd v) rd (lg.map nv) (.li (.ob 27) 0),[]⟩) (by kernel_rfl)))))
 refine a1.trans ((Zi (a:=.fl (lg.map Bb)) (sx1:=⟨Ug cells b,Qf x2 x3 x4 (Cd v) rd (lg.map nv) .ta,[]⟩) ?_).trans (by kernel_rfl))
 refine(?_:(Rn.og _ _ _ _ _ _ _ _ _ _ ⟨Ml none,_,_⟩).bind _=_)
 refine rt (show(Rn.og (Rn.Xa W TP.tb 50) TP.tb Zr D ud.2.1 ud.1 [] 29 60000 [] ⟨Ml none,Qf x2 x3 x4 (Cd v) rd (lg.map nv) (.li (.ob 27) 0),[]⟩)=_ from h) ?_
 rfl
variable (e:La W)
include e
theorem tT{cells:List SV}{b:SV}{v:SV}(h5:∀i,some i∈lg->i<5)(hl:lg.length<60000):dc W.fi (Dc 1212 .nn) D wf (Ug cells b) (Qg x2 x3 x4 (Cd v) (.Ha (lg.map nv)) rd) (.ok .next) (Ug cells b++[(bp,.fl (lg.map Bb))]) (Qf x2 x3 x4 (Cd v) rd (lg.map nv) .ta):=λfd Γ ad s0 M x=>by
 have h:=So.oj (θ:=⟨W.fi.on fd,Dc 1212 .nn,D⟩) (T:=TP.tb) (o:=Rn.Xa W.fi TP.tb 50) (X:=λuu uu=>True) (x:=(Ah wf).1) (np:=(Ah wf).2.1) (elt:=ud.1) (t:=ud.2.1) (it:=ud.2.2) (ifs:=[]) (scope:=Ll) (cpos:=(Ah wf).2.2.2.2) (pos:=wf.pos) ((e.ok.mw _).on fd) (λFd=>e.hT _ Fd) (λFd=>Pj (e.ok.mw _) (e.hT _) 50 Fd) Da.true (by kernel_rfl) Γ ad ⟨Ug cells b,Qg x2 x3 x4 (Cd v) (.Ha (lg.map nv)) rd,[]⟩ s0 (M.as rfl rfl) x
 have h:=h.get (sT h5 hl) λuu m=>nomatch m
 replace h:=qT.symm▸h
 exact h
end
end
section
theorem uT(st:St)(n:Nat)(o:Option Nat):Rn.Zc st (n+2) (Bb o) (Bb o)=some true:=by
 rcases o with _|i
 ·rfl
 ·refine(show Rn.Zc st (n+2) (Bb (some i)) (Bb (some i))=some (Oa (Ff i) (Ff i)&&(Oa (Ff i) (Ff i)&&(uc (Int.ofNat i) (Int.ofNat i)&&true))) by kernel_rfl).trans ?_
  refine rt (Je.mpr rfl ..) (rt ((Xe _ _).mpr rfl ..) ?_)
  rfl
theorem II(st:St)(n:Nat):∀l:List (Option Nat),Rn.Ij (Rn.Zc st (n+2)) (l.map Bb) (l.map Bb)=some true
 |[]=>rfl
 |o::l=>by
  refine(?_:(Rn.Zc st (n+2) (Bb o) (Bb o)).bind (λa=>(Rn.Ij (Rn.Zc st (n+2)) (l.map Bb) (l.map Bb)).bind λb=>some (a&&b))=some true)
  refine rt (uT ..) (rt (II st n l ..) ?_)
  rfl
theorem wT(st:St)(l:List (Option Nat))(o:Option Nat):Rn.Zc st 60 (.tu [.fl (l.map Bb),mt o,.nn,.nn]) (.tu [.fl (l.map Bb),mt o,.nn,.nn])=some true:=by
 have r:Rn.Zc st 59 (.fl (l.map Bb)) (.fl (l.map Bb))=some true:=by
  refine(show Rn.Zc st 59 (.fl (l.map Bb)) (.fl (l.map Bb))=cond (Nat.beq (l.map Bb).length (l.map Bb).length) (Rn.Ij (Rn.Zc st 58) (l.map Bb) (l.map Bb)) (some false) by kernel_rfl).trans ?_
  refine rt (Nat.beq_refl ..) ?_
  exact II st 56 l
 rcases o with _|i
 ·refine(show Rn.Zc st 60 (.tu [.fl (l.map Bb),mt none,.nn,.nn]) (.tu [.fl (l.map Bb),mt none,.nn,.nn])=(Rn.Zc st 59 (.fl (l.map Bb)) (.fl (l.map Bb))).bind λa=>some (a&&true) by kernel_rfl).trans ?_
  refine rt r ?_
  rfl
 ·refine(show Rn.Zc st 60 (.tu [.fl (l.map Bb),mt (some i),.nn,.nn]) (.tu [.fl (l.map Bb),mt (some i),.nn,.nn])=(Rn.Zc st 59 (.fl (l.map Bb)) (.fl (l.map Bb))).bind λa=>some (a&&(Oa (Ff i) (Ff i)&&true&&true)) by kernel_rfl).trans ?_
  refine rt (r ..) (rt (Je.mpr rfl ..) ?_)
  rfl
theorem xT(cells:List Int):∃c:List Int,Rn.cz (cells.map SV.it) none (some 50)=c.map SV.it/\c.length<=1000:=by
 have fm:∀r:List Nat,r.filterMap (λx=>(cells.map SV.it)[x]?)=(r.filterMap λx=>cells[x]?).map SV.it:=λr=>by
  induction r with
  |nil=>rfl
  |cons x r ih=>
   refine rt (List.filterMap_cons ..) (rt (List.filterMap_cons ..) (rt (List.getElem?_map ..) (rt (ih ..) ?_)))
   rcases cells[x]? with _|_<;>rfl
 refine⟨_,fm _,Nat.le_trans (List.length_filterMap_le _ _) ?_⟩
 unfold sliceRange
 refine rt (List.length_map ..) (rt (List.length_range ..) ?_)
 simp only [sliceBounds,List.length_map]
 simp
 lia
noncomputable def Rp(a l:Int):AO:=.ns [(PG,.ob 3),(Oo,.it a),(Zo,.ob 4),(SG,.it l)]
noncomputable def js(rd:AO):St:=[.ct 1047,.ct 1202]++(List.replicate 26 .ta++[rd,.ta])
section
variable {W:Wd}{c:List Int}{m:Mm}{n:Nat}{x2 x3:AO}(e:La W)(T:Top c m n)
include e
theorem yT(hc:c.length<=1000)(fd:List Addr):ba (W.fi.on fd) .nn 36 (.tp 1148) [.ob 2,.it 3,.bo false] [.ct 1047,.ct 1202,Rp 0 14,.Ha (c.map SV.it),.Ha []] (.ok (ma (bT c).1)) (ck c (bT c).2):=
 ba.re (l:=[(4,.ls [] [] [])]) (.cons rfl .ls .nil) (jx e hc ⟨0,[],14⟩ kC fd)
include T
theorem zT(fd:List Addr):ba (W.fi.on fd) .nn 22 (.tp 1186) [.ob 26,.ob 4,ma (bT c).1] (Qg x2 x3 (.ls [] ((bT c).2.ds.map Ga.sv) []) (Cd .nn) (.Ha []) (.ns [])) (.ok (.st q0)) (Qg x2 x3 (.ls [] ((bT c).2.ds.map Ga.sv) []) (Cd (nv m.now)) (.Ha (m.Qb.map nv)) (.dz m.rd)):=by
 have b:=λz=>Ur (z:=z) (ps:=[4,26,27,28]) (k:=29) (Eb (bT c).1)
 refine ba.post (F:=Qg x2 x3 (.ls [] ((bT c).2.ds.map Ga.sv) []) (Cd (nv m.now)) (.ls [] (m.Qb.map nv) []) (.dz m.rd)) (ba.re (l:=[(27,.ls [] [] []),(28,.dz [])]) (.cons rfl .ls (.cons rfl .dz .nil)) ?_) λad h r=>r.swap (i:=27) (y:=.Ha (m.Qb.map nv)) λa z=>?_
 ·exact ba.jC (W:=W) (N:=29) (vs:=[.ob 26,.ob 4,ma (bT c).1]) (v:=.st q0) (S:=Qg x2 x3 (.ls [] ((bT c).2.ds.map Ga.sv) []) (Cd .nn) (.ls [] [] []) (.dz [])) (S':=Qg x2 x3 (.ls [] ((bT c).2.ds.map Ga.sv) []) (Cd (nv m.now)) (.ls [] (m.Qb.map nv) []) (.dz m.rd)) (C:=Gb (bT c).2.ds Vr false) (C':=Gb (bT c).2.ds m false) (cs:=[.ob 1,.ob 0,ma (bT c).1]) [4,26,27,28] ((Bool.and_eq_true _ _).mpr ⟨by kernel_rfl,(Bool.and_eq_true _ _).mpr ⟨by kernel_rfl,(Bool.and_eq_true _ _).mpr ⟨(Bool.and_eq_true _ _).mpr ⟨rfl,(Bool.and_eq_true _ _).mpr ⟨rfl,(Bool.and_eq_true _ _).mpr ⟨(b λuu=>0).1,rfl⟩⟩⟩,rfl⟩⟩⟩) ⟨rfl,rfl⟩ (by kernel_rfl) (λz=>by kernel_rfl) (λz=>by obtain⟨now,lg,rd⟩:=m;rcases now with _|_<;>kernel_rfl) (λz=>congrArg (λx=>[SV.ob 1,.ob 0,x]) (b z).2) (sI e T).1 fd
 ·obtain⟨o,g,q⟩:=r.ob 27 a _ z rfl
  obtain⟨_,_,us,k,e1,q⟩:=q
  induction q using Ac.casesOn with
  |mk v1 v2 q1 q2=>
   cases(show v2=[] from q2)
   exact⟨o,g,v1,k,by refine rt (e1 ..) (rt (List.append_nil ..) ?_);rfl,q1⟩
end
end
section
structure JI(W:Wd):Prop where
 la:La W
 tC:W.qn 739=gp
 AT:W.qn 912=zx
 CT:W.qn 915=Ax
 no:W.K.lookup 385≠none
 pg:∀fd ad h ds,R (W.fi.on fd) ad h (Pg ds)->sC W (solid Pf ad h)
noncomputable def LI:List Nat:=[4,0,1,2,3,26,27,6,7,8,9,10,11,12,13,14,15,16,17,18,19,20,21,22,23,24,25]
section
variable {W:Wd}{c:List Int}{m:Mm}{n:Nat}{a l:Int}{v:SV}{L cs:List SV}{rd:AO}(e:JI W)(T:Top c m n)
include e T
theorem DT(fd:List Addr):ba (W.fi.on fd) .nn 123 (.tp 1207) [.ob 4,.fl [.ob 9,.ob 13,.ob 17,.ob 21,.ob 25],ma (bT c).1] (Qf (Rp a l) (.Ha cs) (.ls [] ((bT c).2.ds.map Ga.sv) []) (Cd v) rd L .ta) (.ok (.tu [.fl (m.Qb.map Bb),mt m.now,.nn,.nn])) (js rd):=by
 have b:=λz=>Ur (z:=z) (ps:=LI) (k:=30) (Eb (bT c).1)
 refine ba.re (l:=[(2,.op .ta),(3,.op .ta),(26,.op .ta),(27,.op .ta)]) (.cons (x:=Rp a l) rfl (.op rfl) (.cons (x:=.Ha cs) rfl (.op rfl) (.cons (x:=Cd v) rfl (.op rfl) (.cons (x:=.Ha L) rfl (.op rfl) .nil)))) ?_
 exact ba.jC (W:=W) (N:=30) (vs:=[.ob 4,.fl [.ob 9,.ob 13,.ob 17,.ob 21,.ob 25],ma (bT c).1]) (v:=.tu [.fl (m.Qb.map Bb),mt m.now,.nn,.nn]) (S:=Pp [(2,.op .ta),(3,.op .ta),(26,.op .ta),(27,.op .ta)] (Qf (Rp a l) (.Ha cs) (.ls [] ((bT c).2.ds.map Ga.sv) []) (Cd v) rd L .ta)) (S':=js rd) (C:=Pg ((bT c).2.ds.map Ga.sv)) (C':=EI) (cs:=[.ob 0,.fl [.ob 10,.ob 14,.ob 18,.ob 22,.ob 26],ma (bT c).1]) LI
  ((Bool.and_eq_true _ _).mpr ⟨by kernel_rfl,(Bool.and_eq_true _ _).mpr ⟨by kernel_rfl,(Bool.and_eq_true _ _).mpr ⟨(Bool.and_eq_true _ _).mpr ⟨rfl,(Bool.and_eq_true _ _).mpr ⟨rfl,(Bool.and_eq_true _ _).mpr ⟨(b λuu=>0).1,rfl⟩⟩⟩,FI⟩⟩⟩) ⟨rfl,rfl⟩ (by kernel_rfl) (λz=>by kernel_rfl) (λz=>by kernel_rfl) (λz=>congrArg (λx=>[SV.ob 0,.fl [.ob 10,.ob 14,.ob 18,.ob 22,.ob 26],x]) (b z).2) (mT T e.tC e.AT e.CT e.no λfd ad h r=>e.pg fd ad h _ r) fd
omit T in
theorem ET{cells:List Int}(hc:cells.length<=100000):∃rd,∀fd,ba (W.fi.on fd) .nn 124 (.tp 1212) [.fl (cells.map SV.it)] [.ct 1047,.ct 1202] (.ok (.bo true)) (js rd):=by
 obtain⟨c,e1,hl⟩:=xT cells
 obtain⟨m,n,T⟩:=RS c
 have hb:=ba.up (yT e.la hl) 87
 have hw:=ba.up (zT (x2:=Rp (bT c).2.wd (bT c).2.left) (x3:=.Ha (c.map SV.it)) e.la T) 101
 have hg:=tT (D:=123) (x2:=Rp (bT c).2.wd (bT c).2.left) (x3:=.Ha (c.map SV.it)) (x4:=.ls [] ((bT c).2.ds.map Ga.sv) []) (rd:=.dz m.rd) (cells:=cells.map SV.it) (b:=ma (bT c).1) (v:=nv m.now) e.la T.nm.lg (Nat.lt_of_le_of_lt (sI e.la T).2 (by decide))
 have hp:=DT (a:=(bT c).2.wd) (l:=(bT c).2.left) (v:=nv m.now) (L:=m.Qb.map nv) (cs:=c.map SV.it) (rd:=.dz m.rd) e T
 have h5:=T.nm.Zb
 have hq:=wT (js (.dz m.rd)) m.Qb m.now
 obtain⟨now,lg,rd⟩:=m
 refine⟨.dz rd,?_⟩
 have hlen:(cells.map SV.it).length<=100000:=by refine rt (List.length_map ..) ?_;exact hc
 rcases now with _|i
 ·exact Km (e.la.ok.mw _) (e.la.hT _) (n:=51) [⟨925,21,32,.list (c.map SV.it)⟩,⟨926,12,38,ho hb⟩,⟨929,4,40,ho hw⟩,⟨930,4,101,fo hg⟩,⟨932,11,53,ho hp⟩,⟨932,11,80,.Ca true⟩]
   (l:=[_,_,_,(0:Int)<=5/\(5:Int)<=1000000,_,_,_,_]) (by kernel_rfl) ⟨hlen,e1,hb,by decide,hw,hg,hp,hq,trivial⟩
 ·exact Km (e.la.ok.mw _) (e.la.hT _) (n:=51) [⟨925,21,32,.list (c.map SV.it)⟩,⟨926,12,38,ho hb⟩,⟨929,4,40,ho hw⟩,⟨930,4,101,fo hg⟩,⟨931,44,63,.item (.st (Ff i))⟩,⟨932,11,53,ho hp⟩,⟨932,11,80,.Ca true⟩]
   (l:=[_,_,_,(0:Int)<=5/\(5:Int)<=1000000,_,_,_,_,_]) (by kernel_rfl) ⟨hlen,e1,hb,by decide,hw,hg,Fw (h5 i rfl),hp,hq,trivial⟩
end
end
section
theorem Gx{α:Type}{o:Option α}{p:α->Bool}(h:o.any p=true):∃a,o=some a/\p a=true:=by
 rcases o with _|a
 ·contradiction
 exact⟨a,rfl,h⟩
theorem Bh{α:Type}{a:Nat}{x:α}:∀{l:List (Nat×α)},aLk a l=some x->(a,x)∈l
 |[],e=>by contradiction
 |p::r,e=>Ic (b:=Nat.beq p.1 a) (x:=some p.2) (y:=aLk a r) e (λh q=>by
   replace q:=Option.some.inj q;subst q
   refine rl (Nat.eq_of_beq_eq_true h ..) ?_
   exact List.mem_cons_self ..) λq=>List.mem_cons_of_mem _ (Bh q)
theorem Dx{α:Type}{a:Str}{x:α}:∀{l:List (Str×α)},sLk a l=some x->(a,x)∈l
 |[],e=>by contradiction
 |p::r,e=>Ic (b:=Oa p.1 a) (x:=some p.2) (y:=sLk a r) e (λh q=>by
   replace q:=Option.some.inj q;subst q
   refine rl (Je.mp h ..) ?_
   exact List.mem_cons_self ..) λq=>List.mem_cons_of_mem _ (Dx q)
theorem MI{a:Str}:∀{l:List Str},sIn a l=true->a∈l
 |[],e=>by contradiction
 |p::r,e=>Ic (b:=Oa p a) (x:=true) (y:=sIn a r) e (λh uu=>by
   refine rl (Je.mp h ..) ?_
   exact List.mem_cons_self ..) λq=>List.mem_cons_of_mem _ (MI q)
section
variable {α β:Type}{f:Nat->α->Bool}{g:Nat->β->α->Bool}
theorem NI{l:List (Nat×α)}(h:(l.all λp=>f p.1 p.2)=true){a:Nat}{x:α}(e:aLk a l=some x):f a x=true:=List.all_eq_true.mp h _ (Bh e)
theorem all2{g:Nat->Str->Bool}{l:List (Nat×List Str)}(h:(l.all λp=>p.2.all λn=>g p.1 n)=true){a:Nat}{n:Str}(e:(match aLk a l with|some l=>sIn n l|none=>false)=true):g a n=true:=by
 generalize hx:aLk a l=o at e
 rcases o with _|x
 ·contradiction
 exact List.all_eq_true.mp (List.all_eq_true.mp h _ (Bh hx)) _ (MI e)
theorem OI{g:Nat->Str->β->Bool}{l:List (Nat×List (Str×β))}(h:(l.all λp=>p.2.all λn=>g p.1 n.1 n.2)=true){a:Nat}{n:Str}{x:β}(e:((aLk a l).bind λl=>sLk n l)=some x):g a n x=true:=by
 obtain⟨l',h1,h2⟩:=Option.bind_eq_some_iff.mp e
 exact List.all_eq_true.mp (List.all_eq_true.mp h _ (Bh h1)) _ (Dx h2)
theorem PI{g:Nat->Nat->β->Bool}{l:List (Nat×List (Nat×β))}(h:(l.all λp=>p.2.all λn=>g p.1 n.1 n.2)=true){a n:Nat}{x:β}(e:((aLk a l).bind λl=>aLk n l)=some x):g a n x=true:=by
 obtain⟨l',h1,h2⟩:=Option.bind_eq_some_iff.mp e
 exact List.all_eq_true.mp (List.all_eq_true.mp h _ (Bh h1)) _ (Bh h2)
end
theorem Ab{a b:Bool}(h:(a&&b)=true):a=true/\b=true:=Bool.and_eq_true_iff.mp h
section
variable {W:Wd}{C:Addr}{n:Str}
noncomputable def uC(K:Frag)(C:Addr)(n:Str):Bool:=(plainGet K C n||(findIn K (.ref C) "__getattribute__"==some (some (.builtin Yl))&&((findIn K (.ref C) "__getattr__").isSome&&mroIn K C (.type "BaseException")==some true)))&&(hasDictIn K C&&(findIn K (.ref C) n).any (noGet K))
theorem FT(h:uC W.K C n=true):vq W C n:=by
 obtain⟨h1,h⟩:=Ab h
 obtain⟨h2,h3⟩:=Ab h
 refine⟨?_,h2,?_⟩
 ·rcases Bool.or_eq_true_iff.mp h1 with h|h
  ·exact .inl h
  ·obtain⟨q1,h⟩:=Ab h
   obtain⟨q2,q3⟩:=Ab h
   exact .inr ⟨beq_iff_eq.mp q1,Option.isSome_iff_exists.mp q2,beq_iff_eq.mp q3⟩
 ·rcases e:findIn W.K (.ref C) n with _|a
  ·replace h3:=e▸h3;contradiction
  replace h3:=e▸h3;exact⟨a,rfl,h3⟩
noncomputable def vC(K:Frag)(C:Addr)(n:Str):Bool:=findIn K (.ref C) "__setattr__"==some (some (.builtin "object.__setattr__"))&&((clsIn K C).any (λcd=>onlyObject cd.mro||exOver cd.mro)&&(takerIn K C n==some none&&hasDictIn K C))
theorem GT(h:vC W.K C n=true):Gn W C n:=by
 obtain⟨h1,h⟩:=Ab h
 obtain⟨h2,h⟩:=Ab h
 obtain⟨h3,h4⟩:=Ab h
 exact⟨beq_iff_eq.mp h1,h2,beq_iff_eq.mp h3,h4⟩
noncomputable def vInt:Value->Option Int
 |.int j _=>some j
 |_=>none
theorem vInt_is{v:Value}{i:Int}(h:vInt v=some i):∃k,v=.int i k:=by
 induction v using Value.casesOn with
 |int j k=>exact⟨k,congrArg (Value.int · k) (Option.some.inj h)⟩
 |_=>contradiction
noncomputable def vStr:Value->Option Str
 |.str j _=>some j
 |_=>none
theorem vStr_is{v:Value}{i:Str}(h:vStr v=some i):∃k,v=.str i k:=by
 induction v using Value.casesOn with
 |str j k=>exact⟨k,congrArg (Value.str · k) (Option.some.inj h)⟩
 |_=>contradiction
noncomputable def gv1(g:SV)(v:Value):Bool:=match g with
 |.tp a=>v==.ref a
 |.bu s=>v==.builtin s.nm&&handedIn v
 |.ty s=>v==.type s.nm
 |.it i=>vInt v==some i
 |.st s=>vStr v==some s
 |.bo b=>v==.bool b
 |_=>false
theorem wC{g:SV}{v:Value}(h:gv1 g v=true)(ad:List Addr)(hp:Heap):V W ad hp g v:=by
 induction g using SV.casesOn with
 |tp a=>exact beq_iff_eq.mp h
 |bu s=>exact⟨beq_iff_eq.mp (Ab h).1,(Ab h).2⟩
 |ty s=>exact beq_iff_eq.mp h
 |it i=>exact vInt_is (beq_iff_eq.mp h)
 |st s=>exact vStr_is (beq_iff_eq.mp h)
 |bo b=>exact beq_iff_eq.mp h
 |_=>contradiction
noncomputable def bn:List SV->List Value->Bool
 |[],[]=>true
 |x::l,v::r=>gv1 x v&&bn l r
 |_,_=>false
theorem xC(ad:List Addr)(hp:Heap):∀{l:List SV} {vs:List Value},bn l vs=true->Vs W ad hp l vs
 |[],[],_=>rfl
 |[],_::_,h=>by contradiction
 |_::_,[],h=>by contradiction
 |x::l,v::r,h=>.mk v r (wC (Ab h).1 ad hp) (xC ad hp (Ab h).2)
noncomputable def seqOf:Data->Option (Array Value)
 |.seq vs _=>some vs
 |_=>none
theorem seqOf_is{d:Data}{l:Array Value}(h:seqOf d=some l):∃k,d=.seq l k:=by
 induction d using Data.casesOn with
 |seq j k=>exact⟨k,congrArg (Data.seq · k) (Option.some.inj h)⟩
 |_=>contradiction
noncomputable def tpl(l:List SV)(o:Obj):Bool:=o.cls==.type "tuple"&&(o.dict==none&&(o.slots.size==0&&(seqOf o.data).any λvs=>bn l vs.toList))
theorem tpl_is{l:List SV}{o:Obj}(h:tpl l o=true):∃vs n,bn l vs.toList=true/\o=⟨.type "tuple",none,.seq vs n,#[]⟩:=by
 rcases o with⟨c,d,dt,sl⟩
 have q:=Ab h
 have q2:=Ab q.2
 have q3:=Ab q2.2
 obtain⟨vs,q4,q5⟩:=Gx q3.2
 obtain⟨n,q4⟩:=seqOf_is q4
 refine⟨vs,n,q5,?_⟩
 refine rt (show c=_ from beq_iff_eq.mp q.1) ?_
 refine rt (show d=_ from beq_iff_eq.mp q2.1) ?_
 refine rt (show sl=_ from Array.eq_empty_of_size_eq_zero (beq_iff_eq.mp q3.1)) ?_
 exact rt (show dt=_ from q4) rfl
noncomputable def vRef:Value->Option Addr
 |.ref a=>some a
 |_=>none
theorem vRef_is{v:Value}{a:Addr}(h:vRef v=some a):v=.ref a:=by
 induction v using Value.casesOn with
 |ref j=>exact congrArg Value.ref (Option.some.inj h)
 |_=>contradiction
noncomputable def cGv(K:Frag)(g:SV)(v:Value):Bool:=gv1 g v||g.On.any λl=>(vRef v).any λa=>(K.lookup a).any (tpl l)
theorem QI{g:SV}{v:Value}(h:cGv W.K g v=true):GV W g v:=by
 rcases Bool.or_eq_true_iff.mp h with h|h
 ·exact λad hp uu uu uu=>wC h ad hp
 obtain⟨l,r1,h⟩:=Gx h
 obtain⟨a,r2,h⟩:=Gx h
 obtain⟨o,e,h⟩:=Gx h
 obtain⟨vs,n,q,z⟩:=tpl_is h
 refine rt (SV.Cq r1) (rt (vRef_is r2) λad hp hK hf gX=>fb.mk a vs.toList n (hK _ _ (e.trans (congrArg some z))) (xC ad hp q) ⟨λm=>?_,λm=>gX a m _ (e.trans (congrArg some z)) rfl⟩)
 replace e:=(show W.K.lookup a=none from hf a m)▸e;contradiction
noncomputable def cGl(K:Frag)(x:Str)(g:SV):Bool:=match nsIn K mainGlobals x with
 |some (some v)=>cGv K g v
 |some none=>(match nsIn K builtinsNs x with
  |some (some v)=>cGv K g v
  |_=>false)
 |none=>false
theorem HT{g:SV}(h:cGl W.K n g=true):Jt W n g:=by
 unfold cGl at h
 rcases e:nsIn W.K mainGlobals n with _|_|v
 ·replace h:=e▸h;contradiction
 ·replace h:=e▸h
  rcases e2:nsIn W.K builtinsNs n with _|_|v
  ·replace h:=e2▸h;contradiction
  ·replace h:=e2▸h;contradiction
  replace h:=e2▸h
  exact⟨v,.inr ⟨e,e2⟩,QI h⟩
 replace h:=e▸h
 exact⟨v,.inl e,QI h⟩
noncomputable def yC(K:Frag)(C:Addr)(n:Str)(f:Addr):Bool:=findIn K (.ref C) "__getattribute__"==some (some (.builtin "object.__getattribute__"))&&(findIn K (.ref C) "__getattr__"==some none&&(findIn K (.ref C) n==some (some (.ref f))&&(typeIn K (.ref f)==some (.type "function")&&keepIn K (.ref f))))
theorem IT{f:Addr}(h:yC W.K C n f=true):EE W C n f:=by
 obtain⟨h1,h⟩:=Ab h
 obtain⟨h2,h⟩:=Ab h
 obtain⟨h3,h⟩:=Ab h
 obtain⟨h4,h5⟩:=Ab h
 exact⟨beq_iff_eq.mp h1,beq_iff_eq.mp h2,beq_iff_eq.mp h3,beq_iff_eq.mp h4,h5⟩
noncomputable def valOf:CFound->Value
 |.val v=>v
 |_=>.none
theorem valOf_is{c:CFound}{g:Addr}(h:valOf c=.ref g):c=.val (.ref g):=by
 induction c using CFound.casesOn with
 |val v=>exact congrArg CFound.val h
 |_=>contradiction
noncomputable def cCf(K:Frag)(C:Addr)(n:Str)(f:Addr):Bool:=specialIn K (.ref C) "__getattribute__"==some (some (.builtin "type.__getattribute__"))&&(readsIn K C (.type "type")&&((findCls K (.ref C) (.type "type") n).any (λc=>valOf c==.ref f)&&keepIn K (.ref f)))
theorem JT{f:Addr}(h:cCf W.K C n f=true):FE W C n f:=by
 obtain⟨h1,h⟩:=Ab h
 obtain⟨h2,h⟩:=Ab h
 obtain⟨h3,h4⟩:=Ab h
 obtain⟨g,e,h3⟩:=Gx h3
 exact⟨beq_iff_eq.mp h1,⟨_,h2,e.trans (congrArg some (valOf_is (beq_iff_eq.mp h3)))⟩,h4⟩
noncomputable def zC(K:Frag)(C:Addr)(c:Addr)(b:Bool):Bool:=plainGet K C "__class__"&&(hasDictIn K C&&(findIn K (.ref C) "__class__"==some (some (.builtin "object.__class__"))&&(specialIn K (.builtin "object.__class__") "__get__"==some (some (.builtin "getset_descriptor.__get__"))&&(takesIn K (.builtin "object.__class__")==some true&&(mroIn K C (.type "object")==some true&&kitOne K (.ref C) (.ref c)==some b)))))
theorem MT{c:Addr}{b:Bool}(h:zC W.K C c b=true):HE W C (.tp c) b:=by
 obtain⟨h1,h⟩:=Ab h
 obtain⟨h2,h⟩:=Ab h
 obtain⟨h3,h⟩:=Ab h
 obtain⟨h4,h⟩:=Ab h
 obtain⟨h5,h⟩:=Ab h
 obtain⟨h6,h7⟩:=Ab h
 exact⟨h1,h2,beq_iff_eq.mp h3,beq_iff_eq.mp h4,beq_iff_eq.mp h5,beq_iff_eq.mp h6,beq_iff_eq.mp h7⟩
noncomputable def AC(K:Frag)(C f:Addr):Bool:=makesIn K C&&(findIn K (.ref C) "__init__"==some (some (.ref f))&&(keepIn K (.ref f)&&isFn K (.ref f)))
theorem NT{f:Addr}(h:AC W.K C f=true):Ny W C f:=by
 obtain⟨h1,h⟩:=Ab h
 obtain⟨h2,h⟩:=Ab h
 obtain⟨h3,h4⟩:=Ab h
 exact⟨h1,beq_iff_eq.mp h2,h3,h4⟩
noncomputable def BC(K:Frag)(C:Addr):Bool:=mroIn K C (.type "BaseException")==some true&&typeIn K (.ref C)==some (.type "type")
theorem OT(h:BC W.K C=true):Oy W C:=⟨beq_iff_eq.mp (Ab h).1,beq_iff_eq.mp (Ab h).2⟩
end
end
section
noncomputable def KX(P:Params)(E:Frag):Frag:=Kf P++E
section
variable (P:Params)(E:Frag)
theorem PT:(TP.jf.all λp=>p.2.all λn=>uC (KX P E) p.1 n)=true:=by kernel_rfl
theorem QT:(TP.kf.all λp=>p.2.all λn=>vC (KX P E) p.1 n)=true:=by kernel_rfl
theorem RT:(TP.gl.all λp=>cGl (KX P E) p.1 p.2)=true:=by kernel_rfl
theorem ST:(TP.me.all λp=>p.2.all λn=>yC (KX P E) p.1 n.1 n.2)=true:=by kernel_rfl
theorem TT:(TP.cf.all λp=>p.2.all λn=>cCf (KX P E) p.1 n.1 n.2)=true:=by kernel_rfl
theorem UT:(TP.kp.all λp=>keepIn (KX P E) (.ref p.1))=true:=by kernel_rfl
theorem VT:(TP.We.all λp=>p.2.all λn=>zC (KX P E) p.1 n.1 n.2)=true:=by kernel_rfl
theorem WT:(TP.xm.all λp=>p.2.all λn=>exmOne (KX P E) (.ref p.1) (.ref n.1)==some n.2)=true:=by kernel_rfl
theorem XT:(TP.zg.all λp=>AC (KX P E) p.1 p.2)=true:=by kernel_rfl
theorem YT:(TP.xr.all λp=>BC (KX P E) p.1)=true:=by kernel_rfl
end
end
noncomputable def CC(slots:List (Str×Value))(p:Str×Value):List (Str×Value):=if(slots.lookup p.1).isNone=true then slots++[(p.1,p.2)] else slots
noncomputable def ss(ns:List Str)(ws items:List Value):Option (List (Str×Value)):=
 match((ns.take (ns.length - (items.drop (items.length - ns.length)).length)).filter λn=>((ns.zip ws).lookup n).isNone).isEmpty with
 |true=>some (ns.filterMap λn=>((((ns.drop (ns.length - (items.drop (items.length - ns.length)).length)).zip (items.drop (items.length - ns.length))).foldl CC (ns.zip ws)).lookup n).map (n,·))
 |false=>none
theorem DC:∀(l:List (Str×Value)) (s:List (Str×Value)),(forIn l s λx t=>if(t.lookup x.1).isNone=true then(Pure.pure (ForInStep.yield (t++[(x.1,x.2)])):Sem _) else Pure.pure (ForInStep.yield t))=Pure.pure (l.foldl CC s)
 |[],s=>rfl
 |p::l,s=>by
  rw[List.forIn_cons,List.foldl_cons]
  unfold CC
  by_cases h:(s.lookup p.1).isNone=true
  ·rw[if_pos h,if_pos h,pure_bind]
   exact DC l _
  ·rw[if_neg h,if_neg h,pure_bind]
   exact DC l _
theorem ZT{fd:FuncData}{as:List Arg}{kwd:List (Option PySem.Expr)}{ds:List PySem.Expr}(hp:fd.params=⟨[],as,none,[],kwd,none,ds⟩){ws:List Value}{ns:List Str}(hn:as.map (·.arg)=ns){items:List Value}{r:List (Str×Value)}(h:ss ns ws items=some r)(hw:ws.length<=ns.length):
  ∃k:Option (Array Value)->Sem (List (Str×Value)),bindArgs fd ⟨ws,[]⟩=seqItems? fd.defaults>>=k/\k (some items.toArray)=Pure.pure r:=by
 induction fd using FuncData.casesOn
 subst hp hn
 have h1:¬((decide (ws.length>(as.map (·.arg)).length)&&(none:Option Arg).isNone)=true):=by rw[decide_eq_false (Nat.not_lt.mpr hw)];exact ft
 refine⟨_,jF rfl,(if_neg h1).trans ?_⟩
 revert h
 unfold ss
 rcases hm:List.isEmpty _ with _|_
 ·exact λe=>nomatch e
 intro h
 replace h:=Option.some.inj h
 subst h
 refine(if_neg λq=>?_).trans ((congrArg (·>>=_) (DC _ _)).trans ?_)
 ·exact ft (hm.symm.trans ((Bool.not_eq_true' _).mp q)).symm
 ·refine congrArg (Pure.pure (f:=Sem)) ?_
  exact congrArg (List.filterMap _) (List.append_nil _)
theorem aU(b:Value):∀ws:List Value,ws.length<=4->4<=ws.length+1->ss [Ef,IA,rf,DA] ws [b]=some ([Ef,IA,rf,DA].zip (ws++[b].drop (ws.length+1 - 4)))
 |[],_,h=>by simp at h
 |[_],_,h=>by simp at h
 |[_,_],_,h=>by simp at h
 |[_,_,_],_,_=>by kernel_rfl
 |[_,_,_,_],_,_=>by kernel_rfl
 |_::_::_::_::_::_,h,_=>by simp at h
theorem bU(i1 i2 i3 i4 i5:Value):∀ws:List Value,ws.length<=6->6<=ws.length+5->ss [HA,Uo,Vo,qj,qg,Yk] ws [i1,i2,i3,i4,i5]=some ([HA,Uo,Vo,qj,qg,Yk].zip (ws++[i1,i2,i3,i4,i5].drop (ws.length+5 - 6)))
 |[],_,h=>by simp at h
 |[_],_,_=>by kernel_rfl
 |[_,_],_,_=>by kernel_rfl
 |[_,_,_],_,_=>by kernel_rfl
 |[_,_,_,_],_,_=>by kernel_rfl
 |[_,_,_,_,_],_,_=>by kernel_rfl
 |[_,_,_,_,_,_],_,_=>by kernel_rfl
 |_::_::_::_::_::_::_::_,h,_=>by simp at h
section
noncomputable def fnOf:Data->Option FuncData
 |.func d=>some d
 |_=>none
theorem fnOf_is{d:Data}{fd:FuncData}(h:fnOf d=some fd):d=.func fd:=by
 induction d using Data.casesOn with
 |func x=>exact congrArg Data.func (Option.some.inj h)
 |_=>contradiction
noncomputable def fdOf(o:Option Obj):Option FuncData:=o.bind λo=>fnOf o.data
noncomputable def RI(fd:FuncData):Scope×FuncBody×List Str:=(fd.scope,fd.body,fd.params.args.map (·.arg))
noncomputable def Nh:List Str->Bool
 |[]=>true
 |x::l=>l.all (λy=>!Oa x y)&&Nh l
theorem EC:∀{l:List Str},Nh l=true->l.Nodup
 |[],_=>List.nodup_nil
 |x::l,h=>by
  obtain⟨h1,h2⟩:=Ab (show(l.all (λy=>!Oa x y)&&Nh l)=true from h)
  refine List.nodup_cons.mpr ⟨λm=>?_,EC h2⟩
  have:=List.all_eq_true.mp h1 x m
  replace this:=(Je.mpr rfl ..)▸this
  contradiction
noncomputable def cFn(K:Frag)(fi:ah)(fd:FuncData):Bool:=
 fd.closure.isEmpty&&(Nat.beq fd.globals mainGlobals&&(Nat.beq fd.builtins builtinsNs&&(codeIn K fd.code fd.qualname&&((match fi.me with
  |none=>true
  |some p=>vRef fd.code==some p.1&&Oa (fd.qualname++Str.ofString ".<locals>.") p.2)&&(!fi.scope.isCoroutine&&(!fi.scope.isGenerator&&(Nh fi.params&&
  (fd.params.posonlyargs.isEmpty&&(fd.params.vararg.isNone&&(fd.params.kwonlyargs.isEmpty&&fd.params.kwarg.isNone))))))))))
noncomputable def dflOk(K:Frag)(l:List SV)(fd:FuncData):Bool:=(vRef fd.defaults).any λT=>(K.lookup T).any λo=>(seqOf o.data).any λvs=>bn l vs.toList
section
variable (P:Params)(E:Frag)
theorem cU:(TP.fn.map λp=>(fdOf ((KX P E).lookup p.1)).map RI)=TP.fn.map λp=>some (p.2.scope,.stmts p.2.body,p.2.params):=by kernel_rfl
theorem eU:(TP.fn.all λp=>(fdOf ((KX P E).lookup p.1)).any (cFn (KX P E) p.2))=true:=by kernel_rfl
theorem fU:(TP.fn.all λp=>match p.2.Xf with
  |[]=>(fdOf ((KX P E).lookup p.1)).any λfd=>fd.defaults==.none
  |_=>Nat.beq p.1 1045||Nat.beq p.1 822)=true:=by kernel_rfl
theorem gU:(fdOf ((KX P E).lookup 1045)).any (dflOk (KX P E) [.bo false])=true:=by kernel_rfl
theorem hU:(fdOf ((KX P E).lookup 822)).any (dflOk (KX P E) [.it 64,.it 50,.it 1000000,.it 100000,.it 10000])=true:=by kernel_rfl
theorem SI:aLk 1045 TP.fn=some (Ph q0 (st 114) [.bo false] none)/\(Ph q0 (st 114) [.bo false] none).params=[Ef,IA,rf,DA]:=⟨by kernel_rfl,by kernel_rfl⟩
theorem TI:aLk 822 TP.fn=some (Ph q0 (iO (st 78) 0) [.it 64,.it 50,.it 1000000,.it 100000,.it 10000] none)/\(Ph q0 (iO (st 78) 0) [.it 64,.it 50,.it 1000000,.it 100000,.it 10000] none).params=[HA,Uo,Vo,qj,qg,Yk]:=⟨by kernel_rfl,by kernel_rfl⟩
end
theorem iU{o:Option Obj}{fd:FuncData}(h:fdOf o=some fd):∃ob,o=some ob/\ob.data=.func fd:=(Option.bind_eq_some_iff.mp h).imp λob z=>⟨z.1,fnOf_is z.2⟩
theorem args_is{p:Arguments}(h:(p.posonlyargs.isEmpty&&(p.vararg.isNone&&(p.kwonlyargs.isEmpty&&p.kwarg.isNone)))=true):∃as kwd ds,p=⟨[],as,none,[],kwd,none,ds⟩/\as=p.args:=by
 rcases p with⟨a1,a2,a3,a4,a5,a6,a7⟩
 rcases a1 with _|⟨_,_⟩
 ·rcases a3 with _|_
  ·rcases a4 with _|⟨_,_⟩
   ·rcases a6 with _|_
    ·exact⟨a2,a5,a7,rfl,rfl⟩
    exact(Bool.false_ne_true h).elim
   exact(Bool.false_ne_true h).elim
  exact(Bool.false_ne_true h).elim
 exact(Bool.false_ne_true h).elim
section
variable {W:Wd}{P:Params}{E:Frag}{f:Addr}{fi:ah}
theorem jU{K:Frag}{l:List SV}{fd:FuncData}(h:dflOk K l fd=true):∃T oT items n,fd.defaults=.ref T/\K.lookup T=some oT/\oT.data=.seq (List.toArray items) n/\bn l items=true:=by
 obtain⟨T,h1,h⟩:=Gx h
 obtain⟨o,h2,h⟩:=Gx h
 obtain⟨vs,h3,h⟩:=Gx h
 obtain⟨n,h3⟩:=seqOf_is h3
 exact⟨T,o,vs.toList,n,vRef_is h1,h2,h3,h⟩
theorem FC:∀{l:List SV} {vs:List Value},bn l vs=true->vs.length=l.length
 |[],[],_=>rfl
 |[],_::_,h=>by contradiction
 |_::_,[],h=>by contradiction
 |_::_,_::_,h=>congrArg (·+1) (FC (Ab h).2)
theorem ys{l:List Value}{n:Nat}(h:l.length=n+1):∃a r,l=a::r/\r.length=n:=by
 rcases l with _|⟨a,r⟩
 ·exact nomatch h
 ·exact⟨a,r,rfl,Nat.succ.inj h⟩
theorem UI{l:List Value}(h:l.length=1):∃a,l=[a]:=(ys h).imp λa z=>z.elim λr z=>List.eq_nil_of_length_eq_zero z.2▸z.1
theorem kU{l:List Value}(h:l.length=5):∃a b c d e,l=[a,b,c,d,e]:=by
 have⟨a,r,e1,h⟩:=ys h
 have⟨b,r,e2,h⟩:=ys h
 have⟨c,r,e3,h⟩:=ys h
 have⟨d,r,e4,h⟩:=ys h
 have⟨e,e5⟩:=UI h
 exact⟨a,b,c,d,e,by rw[e1,e2,e3,e4,e5]⟩
theorem lU(hK:W.K=KX P E)(e:aLk f TP.fn=some fi):Kk W f fi:=by
 have m:=Bh e
 have v:=List.map_inj_left.mp (cU P E) _ m
 have c:=List.all_eq_true.mp (eU P E) _ m
 have d:=List.all_eq_true.mp (fU P E) _ m
 obtain⟨fd,e1,c⟩:=Gx c
 obtain⟨o,ho,hd⟩:=iU e1
 dsimp only at v d e1 ho
 replace v:=e1▸v
 have v:=Option.some.inj (show some (RI fd)=_ from v)
 have v1:fd.scope=fi.scope:=congrArg (·.1) v
 have v2:fd.body=.stmts fi.body:=congrArg (·.2.1) v
 have v3:fd.params.args.map (·.arg)=fi.params:=congrArg (·.2.2) v
 obtain⟨c1,c⟩:=Ab c
 obtain⟨c2,c⟩:=Ab c
 obtain⟨c3,c⟩:=Ab c
 obtain⟨c4,c⟩:=Ab c
 obtain⟨c5,c⟩:=Ab c
 obtain⟨c6,c⟩:=Ab c
 obtain⟨c7,c⟩:=Ab c
 obtain⟨c8,c⟩:=Ab c
 obtain⟨as,kwd,ds,hp,has⟩:=args_is c
 have hn:as.map (·.arg)=fi.params:=by refine has.symm▸?_;exact v3
 have Sf:∀p,fi.me=some p->fd.code=.ref p.1/\fd.qualname++Str.ofString ".<locals>."=p.2:=λp hp=>by
  replace c5:=hp▸c5
  obtain⟨q1,q2⟩:=Ab c5
  exact⟨vRef_is (beq_iff_eq.mp q1),Je.mp q2⟩
 have Vg:W.K.lookup f=some o:=by refine hK.symm▸?_;exact ho
 have Up:codeIn W.K fd.code fd.qualname=true:=by refine hK.symm▸?_;exact c4
 have x1:fd.closure=[]:=List.isEmpty_iff.mp c1
 have x2:fd.globals=mainGlobals:=Nat.eq_of_beq_eq_true c2
 have x3:fd.builtins=builtinsNs:=Nat.eq_of_beq_eq_true c3
 have x6:fi.scope.isCoroutine=false:=by simpa using c6
 have x7:fi.scope.isGenerator=false:=by simpa using c7
 have aK:∀l:List SV,fi.Xf=l->(fdOf ((KX P E).lookup f)).any (dflOk (KX P E) l)=true->(∀(items ws:List Value),bn l items=true->ws.length<=fi.params.length->fi.params.length<=ws.length+items.length->ss fi.params ws items=some (fi.params.zip (ws++items.drop (ws.length+items.length - fi.params.length))))->Kk W f fi:=by
  intro l hl h hb
  obtain⟨Fd,e2,h⟩:=Gx h
  replace e2:=e1▸e2
  replace e2:=Option.some.inj e2;subst e2
  obtain⟨T,oT,items,n,h1,h2,h3,h4⟩:=jU h
  exact ZM Vg hd v1 x1 v2 x2 x3 Up Sf x6 x7 (by refine hK.symm▸?_;exact h2) h3 h1 (λad hp=>by refine hl.symm▸?_;exact xC ad hp h4) λws w1 w2=>ZT hp hn (hb items ws h4 w1 w2) w1
 rcases Rl:fi.Xf with _|⟨y,l⟩
 ·replace d:=Rl▸d
  obtain⟨Fd,e2,d⟩:=Gx d
  replace e2:=e1▸e2
  replace e2:=Option.some.inj e2;subst e2
  exact oM Vg hd v1 x1 v2 x2 x3 Up Sf x6 x7 hp (beq_iff_eq.mp d) hn (EC c8) Rl
 replace d:=Rl▸d
 rcases Bool.or_eq_true_iff.mp d with d|d
 ·have hf:=Nat.eq_of_beq_eq_true d
  have hi:=Option.some.inj ((show aLk 1045 TP.fn=some fi from rl hf e).symm.trans SI.1)
  refine aK _ (congrArg (·.Xf) hi) (rt hf (gU P E)) λitems ws h4=>?_
  refine rt (show fi.params=_ from(congrArg (·.params) hi).trans SI.2) ?_
  intro w1 w2
  obtain⟨i1,rfl⟩:=UI (FC h4)
  exact aU i1 ws w1 w2
 ·have hf:=Nat.eq_of_beq_eq_true d
  have hi:=Option.some.inj ((show aLk 822 TP.fn=some fi from rl hf e).symm.trans TI.1)
  refine aK _ (congrArg (·.Xf) hi) (rt hf (hU P E)) λitems ws h4=>?_
  refine rt (show fi.params=_ from(congrArg (·.params) hi).trans TI.2) ?_
  intro w1 w2
  obtain⟨i1,i2,i3,i4,i5,rfl⟩:=kU (FC h4)
  exact bU i1 i2 i3 i4 i5 ws w1 w2
end
end
section
noncomputable def sk:Data->ClassData
 |.cls d=>d
 |_=>default
noncomputable def VI:Data->Array Value
 |.fields v=>v
 |_=>#[]
noncomputable def WI:Value->Str×Tok
 |.str s t=>(s,t)
 |_=>default
noncomputable def Hx:Value->Int×Tok
 |.int s t=>(s,t)
 |_=>default
noncomputable def mU:Value->Bool
 |.bool b=>b
 |_=>false
noncomputable abbrev Rf(K:Frag)(a:Addr):Obj:=(K.lookup a).getD default
noncomputable abbrev zs(K:Frag)(C:Addr):List Value:=(sk (Rf K C).data).mro.tail
noncomputable def GC(C:Addr)(nw:String)(d:Option Addr)(c:ClassData)(s:Array (Option Value)):Obj:=excClassObj c.name c.qualname C c.ns c.bases c.mro.tail c.hasDict c.slotNames c.subclasses c.abstract c.collection d (s.getD 0 none) (s.getD 1 none) (s.getD 2 none) (s.getD 3 none) (s.getD 5 none) nw
noncomputable abbrev cn(K:Frag)(C:Addr)(nw:String):Obj:=GC C nw (Rf K C).dict (sk (Rf K C).data) (Rf K C).slots
noncomputable def HC(K:Frag)(C f:Addr):Bool:=((zs K C).contains (.type "Exception")&&(!(zs K C).contains (.type "AttributeError")&&!(zs K C).contains (.type "NameError")))&&(findIn K (.ref C) "__init__"==some (some (.ref f))&&typeIn K (.ref f)==some (.type "function"))
section
variable {W:Wd}{C f c P:Addr}
theorem nU(x:W.K.lookup C=some (cn W.K C "Exception.__new__"))(h:HC W.K C f=true):nu W C f:=by
 unfold cn GC at x
 exact Na h λh1 h=>Na h1 λa h1=>Na h1 λb c=>Na h λh2 h3=>⟨⟨_,_,_,_,_,_,_,_,_,_,_,_,_,_,_,_,x,a,Hm b,Hm c⟩,beq_iff_eq.mp h2,(Option.map_eq_some_iff.mp (beq_iff_eq.mp h3)).imp λuu z=>z⟩
theorem oU(x:W.K.lookup C=some (cn W.K C "object.__new__"))(e:zs W.K C=[.type "object"])(h:(nsOkIn W.K (sk (Rf W.K C).data).ns&&(nsIn W.K (sk (Rf W.K C).data).ns "__eq__"==some none&&nsIn W.K (sk (Rf W.K C).data).ns "__ne__"==some none))=true):ru W C:=
 Na h λh1 h=>Na h λh2 h3=>⟨λhp y d X hx=>by
  have G:=Heap.Ns.of_isNs (isNs_of_in X h1)
  have x:=X _ _ x
  unfold cn GC at x
  rw[show(sk (Rf W.K C).data).mro.tail=_ from e] at x
  exact⟨_,_,_,_,_,_,_,_,_,_,_,_,_,_,_,_,_,_,hx,rfl,x,G,ns_none_of X G (beq_iff_eq.mp h2),ns_none_of X G (beq_iff_eq.mp h3)⟩⟩
theorem nb{a b:Nat}(h:Nat.beq a b=false):a≠b:=Nat.ne_of_beq_eq_false h
structure XI(K:Frag)(c P:Addr)(vs:Array Value):Prop where
 o:K.lookup c=some ⟨.type "code",(Rf K c).dict,.fields vs,(Rf K c).slots⟩
 p:vs[11]?=some (.ref P)
 q:vs.getD 11 .none=.ref P
 f:vs.getD 18 .none=.str (WI (vs.getD 18 .none)).1 (WI (vs.getD 18 .none)).2
 g:vs.getD 7 .none=.int (Hx (vs.getD 7 .none)).1 (Hx (vs.getD 7 .none)).2
 b:vs.getD 9 .none=.bool (mU (vs.getD 9 .none))
 t:vs.getD 10 .none=.int (Hx (vs.getD 10 .none)).1 (Hx (vs.getD 10 .none)).2
 n:Nat.beq c P=false
set_option tactic.hygienic true in
theorem YI{K:Frag}{h:Heap}{N:Addr}{mg:Str->Option Value}{n:Str}{v:Value}(X:K.In h)(G:h.Ns N mg)(e:nsIn K N n=some (some v)):mg n=some v:=by
 obtain⟨o,es,ep,ho,hd,_,hf⟩:=G
 unfold nsIn at e
 split at e
 ·rename_i c d QC n' sl q
  have:=X _ _ q
  replace this:=ho▸this
  replace this:=Option.some.inj this;subst this
  cases hd
  split at e
  ·rename_i en he
   cases e
   refine(hf ..)▸?_
   unfold nsFind findBy
   refine(Array.find?_toList ..)▸(he ..).symm▸?_
   rfl
  ·split at e<;>cases e
 ·contradiction
structure ZI(K:Frag)(P bm:Addr):Prop where
 m:nsOkIn K mainGlobals=true
 n:Nat.beq mainGlobals P=false
 b:nsIn K mainGlobals "__builtins__"=some (some (.ref bm))
 o:K.lookup bm=some ⟨.type "module",some builtinsNs,.plain,(Rf K bm).slots⟩
 x:(Nat.beq bm builtinsNs||(Nat.beq bm mainGlobals||Nat.beq bm P))=false
theorem pU{vs:Array Value}{bm:Addr}(d:XI W.K c P vs)(q:ZI W.K P bm):Py W c P:=
 have x:=Bool.or_eq_false_iff.mp q.x
 have y:=Bool.or_eq_false_iff.mp x.2
 ⟨λhp X=>⟨⟨_,vs,_,_,_,_,_,_,_,X _ _ d.o,rfl,rfl,d.p,d.q,d.f,d.g,d.b,d.t,nb d.n⟩,have G:=Heap.Ns.of_isNs (isNs_of_in X q.m);⟨_,G,bm,_,YI X G q.b,nb x.1,nb y.1,nb y.2,X _ _ q.o,rfl,rfl,rfl⟩⟩,nb q.n⟩
end
end
theorem qU(w:World)(os:OsState):(Sz w os).abs=⟨H1 w.params,⟨[]⟩,{},Xk,os⟩:=by kernel_rfl
theorem rU(w:World)(os:OsState):topRun treeTable pw w 11 (some (.ref 6)) (12+(1+m0)) ⟨boot_heap w.params,⟨[]⟩,boot_drawn,boot_toks,os⟩ (topStub pw)=some ⟨H1 w.params,⟨[]⟩,{},Xk,os⟩:=by
 rw[<-qU];exact GG w os
theorem sU:Nat.ble (12+(1+m0)) 20000=true:=by kernel_rfl
theorem tU{Yf:Shared->List (Option Obj)}{Ya:World->List (Option Obj)}(h:∀(w:World) (os:OsState),Yf ⟨H1 w.params,⟨[]⟩,{},Xk,os⟩=Ya w)(w:World):(λos:OsState=>((staticsOk (importedModules pw.main.body) (boot_heap w.params) (H1 w.params)&&namesBound pw (H1 w.params)&&gensDone ⟨H1 w.params,⟨[]⟩,{},Xk,os⟩&&laidKept (boot_heap w.params) (H1 w.params)),
    openSeen qv Im (importedModules pw.main.body) Br true ⟨H1 w.params,⟨[]⟩,{},Xk,os⟩,Yf ⟨H1 w.params,⟨[]⟩,{},Xk,os⟩))=λ_=>(true,openGood qv Im,Ya w):=
 funext λos=>looks_pair (BO w os) (looks_pair (CO w os) (h w os))
theorem uU:LeftO pw qv Im Br No.obs No.val 20000:=
 LeftO.of_pieces xO yO rU sU (tU JO)
noncomputable def vU:Stmt->List Stmt
 |.FunctionDef _ _ b _ _ _ _ _ _ _=>b
 |_=>[]
noncomputable def wU:Stmt->Pos
 |.FunctionDef _ _ _ _ _ _ _ _ _ p=>p
 |_=>default
noncomputable def dL:DefRec:=⟨S "law",aO (st 133),vU (st 133),sO (st 133),wU (st 133)⟩
noncomputable abbrev rL:OpenRow:=PySem.Challenge.rw_qz0126_01.row
theorem xU:defOf qv rL.name=some (dL,[]):=by kernel_rfl
theorem yU:rL.prog.theDef rL.name=some (dL.params,dL.body,dL.scope):=by kernel_rfl
theorem zU:kwWritten? dL.params.kwonlyargs dL.params.kw_defaults=some []:=by kernel_rfl
theorem AU:(!rL.writes||rL.records.isEmpty)=true:=by kernel_rfl
theorem BU:(chainsOk qv&&opensWell rL.prog&&(frees rL.toRowW&&rL.within.isEmpty))=true:=by kernel_rfl
theorem CU:rL.prog.bare:=⟨rfl,rfl,rfl,rfl,rfl,by decide+kernel⟩
theorem DU(h:rL.wellSaid=true):rL.toRowW.promised:=⟨[.list [.int 3,.int 1]],by decide+kernel,by decide+kernel⟩
theorem EU(s:Shared)(e:Br s=true):XL qv [] (s.heap.nsMap mainGlobals) s.heap:=xl_of s (Bool.and_eq_true_iff.mp e).1
theorem FU(s:Shared)(e:Br s=true):RecFacts rL.records s.heap:=recFacts_of (Bool.and_eq_true_iff.mp e).2
theorem GU(Vx:rL.wellSaid=true)(call:WalkO qv Im (XL qv []) No.says rL.toRowW dL [] λf vs=>PySem.call f vs):rL.Holds:=
 holds_open (r:=rL) (kwd:=[]) (d:=dL) (N:=20000) uU No.of No.keeps EU XL.keeps xU yU zU FU AU Vx BU CU (DU Vx) call
section
section
variable (P:Params)(E:Frag)
theorem HU:(TP.pe.all λp=>HC (KX P E) p.1 p.2)=true:=by kernel_rfl
theorem IU:TP.pe.map (λp=>(KX P E).lookup p.1)=TP.pe.map λp=>some (cn (KX P E) p.1 "Exception.__new__"):=by kernel_rfl
theorem JU{c q:Addr}(e:aLk c TP.ct=some q):∃vs,XI (KX P E) c q vs/\ZI (KX P E) q 4:=by
 have m:(c,q)∈[(1051,1047),(1206,1202)]:=Bh e
 rcases List.mem_cons.mp m with m|m
 ·cases m
  exact⟨VI (Rf (KX P E) 1051).data,⟨by kernel_rfl,by kernel_rfl,by kernel_rfl,by kernel_rfl,by kernel_rfl,by kernel_rfl,by kernel_rfl,by kernel_rfl⟩,⟨by kernel_rfl,by kernel_rfl,by kernel_rfl,by kernel_rfl,by kernel_rfl⟩⟩
 ·cases List.mem_singleton.mp m
  exact⟨VI (Rf (KX P E) 1206).data,⟨by kernel_rfl,by kernel_rfl,by kernel_rfl,by kernel_rfl,by kernel_rfl,by kernel_rfl,by kernel_rfl,by kernel_rfl⟩,⟨by kernel_rfl,by kernel_rfl,by kernel_rfl,by kernel_rfl,by kernel_rfl⟩⟩
theorem aJ:(KX P E).lookup 846=some (cn (KX P E) 846 "object.__new__")/\zs (KX P E) 846=[.type "object"]:=⟨by kernel_rfl,by kernel_rfl⟩
theorem KU:(nsOkIn (KX P E) (sk (Rf (KX P E) 846).data).ns&&(nsIn (KX P E) (sk (Rf (KX P E) 846).data).ns "__eq__"==some none&&nsIn (KX P E) (sk (Rf (KX P E) 846).data).ns "__ne__"==some none))=true:=by kernel_rfl
theorem LU:(TP.We.all λp=>[0,1,2].all λk=>kitOne (KX P E) (.type (Ci k)) (.ref p.1)==some false)=true:=by kernel_rfl
theorem MU:(kitOne (KX P E) (.type (Ci 0)) (.type "str")==some false&&(kitOne (KX P E) (.type (Ci 1)) (.type "str")==some true&&kitOne (KX P E) (.type (Ci 2)) (.type "str")==some false))=true:=by kernel_rfl
noncomputable def notTb(o:Obj):Bool:=o.cls !=.type "traceback"&&o.cls !=.type "frame"
theorem NU{o:Obj}(h:notTb o=true):o.cls≠.type "traceback"/\o.cls≠.type "frame":=⟨bne_iff_ne.mp (Ab h).1,bne_iff_ne.mp (Ab h).2⟩
theorem OU:((Kf P).all λp=>notTb p.2)=true:=by kernel_rfl
theorem PU:((KX P E).lookup sysModules).isSome=true:=by kernel_rfl
theorem QU:(nsOkIn (KX P E) cStatics&&nsIn (KX P E) cStatics "sys.recursionlimit"==some none)=true:=by kernel_rfl
noncomputable def dictOf:Data->Option (List DictEntry×Nat)
 |.dict es n=>some (es.toList,n)
 |_=>none
theorem dictOf_is{d:Data}{l:List DictEntry}{n:Nat}(h:dictOf d=some (l,n)):d=.dict l.toArray n:=by
 induction d using Data.casesOn with
 |dict es k=>exact congrArg (λp=>Data.dict (List.toArray p.1) p.2) (Option.some.inj h)
 |_=>contradiction
noncomputable def sdOf(o:Option Obj):Option (List DictEntry×Nat):=o.bind λo=>cond (o.cls==.type "dict"&&(o.dict==none&&o.slots.size==0)) (dictOf o.data) none
theorem RU{o:Option Obj}{es:List DictEntry}{n:Nat}(h:sdOf o=some (es,n)):o=some ⟨.type "dict",none,.dict es.toArray n,#[]⟩:=by
 obtain⟨⟨c,d,dt,sl⟩,e,h⟩:=Option.bind_eq_some_iff.mp h
 refine rt e (congrArg some (Ic h (λq h=>?_) λh=>nomatch h))
 refine rt (show c=_ from beq_iff_eq.mp (Ab q).1) ?_
 refine rt (show d=_ from beq_iff_eq.mp (Ab (Ab q).2).1) ?_
 refine rt (show sl=_ from Array.eq_empty_of_size_eq_zero (beq_iff_eq.mp (Ab (Ab q).2).2)) ?_
 exact rt (show dt=_ from dictOf_is h) rfl
noncomputable def Nl:List (Str×SV):=((aLk 385 TP.sd).getD [])
noncomputable def esB:List (Str×SV)->List DictEntry->Bool
 |[],[]=>true
 |p::l,e::r=>(match e.key with
  |.str s _=>Oa s p.1
  |_=>false)&&(gv1 p.2 e.val&&esB l r)
 |_,_=>false
theorem SU:((sdOf ((KX P E).lookup 385)).any λq=>esB Nl q.1)=true:=by kernel_rfl
theorem TU:TP.sd=[(385,Nl)]:=by kernel_rfl
theorem UU:Nh (Nl.map (·.1))=true:=by kernel_rfl
end
theorem VU(w:World)(E:Frag):(sdOf ((KX w.params E).lookup 385)).map (λq=>q.1.map (·.hash))=some (Nl.map λp=>hashStr w p.1):=by kernel_rfl
end
section
noncomputable def WU(l:Nat):Str:=match Nat.beq l 739 with
 |true=>gp
 |false=>match Nat.beq l 912 with
  |true=>zx
  |false=>Ax
noncomputable def WX(w:World)(n:Nat)(fd:List Addr)(m:Nat->Bool)(E:Frag):Wd:=⟨rL.prog,w,KX w.params E,n,fd,WU,m⟩
section
variable {w:World}{n:Nat}{fd:List Addr}{m:Nat->Bool}{E:Frag}
set_option tactic.hygienic true in
theorem bJ{W:Wd}(hp:Heap):∀{fs:List (Str×SV)} {es:List DictEntry},esB fs es=true->es.map (·.hash)=fs.map (λp=>hashStr W.w p.1)->Es W [] hp W.hs fs es
 |[],[],_,_=>.nil
 |[],_::_,h,_=>by contradiction
 |_::_,[],h,_=>by contradiction
 |p::l,e::r,h,hh=>by
  obtain⟨h1,h⟩:=Ab h
  obtain⟨h2,h3⟩:=Ab h
  have e1:∃t,e.key=.str p.1 t:=by
   split at h1
   ·rename_i s t ek
    exact⟨t,by exact(ek ..).symm▸(Je.mp h1 ..).symm▸rfl⟩
   ·contradiction
  obtain⟨t,e1⟩:=e1
  simp only [List.map_cons,List.cons.injEq] at hh
  exact .cons t e1 hh.1 (wC h2 [] hp) (bJ hp h3 hh.2)
noncomputable def cJ:SV->Bool
 |.tp _=>true
 |_=>false
theorem XU{g:SV}(h:cJ g=true):∃a,g=.tp a:=by
 induction g using SV.casesOn with
 |tp a=>exact⟨a,rfl⟩
 |_=>contradiction
theorem YU:(Nl.all λp=>cJ p.2)=true:=by kernel_rfl
theorem ZU{a:Addr}{k:Str}{g:SV}(e:((aLk a TP.sd).bind λl=>sLk k l)=some g):Fk (WX w n fd m E) a k g:=by
 replace e:=TU▸e
 obtain⟨l,e1,e2⟩:=Option.bind_eq_some_iff.mp e
 cases List.mem_singleton.mp (Bh e1)
 obtain⟨⟨es,k0⟩,h1,h2⟩:=Gx (SU w.params E)
 have h3:=VU w E
 replace h3:=h1▸h3
 have h3:es.map (·.hash)=Nl.map λp=>hashStr w p.1:=Option.some.inj h3
 have ho:=RU h1
 have q:Es (WX w n fd m E) [] default (WX w n fd m E).hs Nl es:=bJ (W:=WX w n fd m E) default h2 h3
 obtain⟨kvs,z1,z2,z3⟩:=q.kv (sK (WX w n fd m E))
 have nd:=EC UU
 have hl:∀l:List (Str×SV),sLk k l=some g->lk k l=some g:=λl=>by
  induction l with
  |nil=>exact id
  |cons p r ih=>
   refine(?_:(match Oa p.1 k with|true=>some p.2|false=>sLk k r)=some g->cond (Oa p.1 k) (some p.2) (lk k r)=some g)
   rcases Oa p.1 k with _|_
   ·exact ih
   exact id
 have hv:=z2.df Zg k
 replace hv:=(show Jc Oa k Nl=some g from hl _ e2)▸hv
 obtain⟨v,v1,v2⟩:=hv
 refine⟨kvs,v,λhp X=>⟨_,es.toArray,k0,X _ _ ho,⟨rfl,rfl,rfl⟩,rfl,λe m=>z3 e (by simpa using m),z1,by refine(z2.Ag ..).symm▸?_;exact nd⟩,v1,λad hp uu uu uu=>?_⟩
 obtain⟨b,rfl⟩:=XU (List.all_eq_true.mp YU _ (Dx e2))
 exact v2
set_option tactic.hygienic true in
theorem tbl_ok{W:Wd}{t:TL}{K:Frag}(hK:W.K=K)(iX:(t.jf.all λp=>p.2.all λn=>uC K p.1 n)=true)(jX:(t.kf.all λp=>p.2.all λn=>vC K p.1 n)=true)(kX:(t.gl.all λp=>cGl K p.1 p.2)=true)(Sf:(t.me.all λp=>p.2.all λn=>yC K p.1 n.1 n.2)=true)(lX:(t.cf.all λp=>p.2.all λn=>cCf K p.1 n.1 n.2)=true)(mX:(t.kp.all λp=>keepIn K (.ref p.1))=true)(nX:(t.We.all λp=>p.2.all λn=>zC K p.1 n.1 n.2)=true)(oX:(t.We.all λp=>[0,1,2].all λk=>kitOne K (.type (Ci k)) (.ref p.1)==some false)=true)(pX:(t.xm.all λp=>p.2.all λn=>exmOne K (.ref p.1) (.ref n.1)==some n.2)=true)(qX:(t.zg.all λp=>AC K p.1 p.2)=true)(rX:(t.pe.all λp=>HC K p.1 p.2)=true)(sX:(t.xr.all λp=>BC K p.1)=true)(tX:t.pe.map (λp=>K.lookup p.1)=t.pe.map λp=>some (cn K p.1 "Exception.__new__"))(aq:∀c P,aLk c t.ct=some P->Py W c P)
  (uX:(kitOne K (.type (Ci 0)) (.type "str")==some false&&(kitOne K (.type (Ci 1)) (.type "str")==some true&&kitOne K (.type (Ci 2)) (.type "str")==some false))=true) (Os:∀f fi,aLk f t.fn=some fi->Kk W f fi) (vX:∀a k g,((aLk a t.sd).bind λl=>sLk k l)=some g->Fk W a k g):lb W t.tb:=by
 subst hK
 exact {
  jf:=λuu uu e=>FT (all2 iX e)
  kf:=λuu uu e=>GT (all2 jX e)
  gl:=λx g e=>HT (List.all_eq_true.mp kX _ (Dx e))
  fn:=λuu uu e=>Os _ _ e
  me:=λuu uu uu e=>IT (OI Sf e)
  cf:=λuu uu uu e=>JT (OI lX e)
  sd:=λuu uu uu e=>vX _ _ _ e
  kp:=λa e=>by
   have e:(match aLk a t.kp with
    |some _=>true
    |none=>false)=true:=e
   split at e
   ·rename_i u hu
    exact List.all_eq_true.mp mX _ (Bh hu)
   ·contradiction
  We:=λC c b e=>by
   induction c using SV.casesOn with
   |tp a=>exact MT (PI nX e)
   |_=>contradiction
  Ih:=λk c b e=>by
   have pn:∀k:Nat,k=0\/k=1\/Ci k=Ci 2:=λk=>by
    rcases k with _|_|k
    ·exact .inl rfl
    ·exact .inr (.inl rfl)
    ·exact .inr (.inr rfl)
   obtain⟨s0,s⟩:=Ab uX
   obtain⟨s1,s2⟩:=Ab s
   induction c using SV.casesOn with
   |tp a=>
    obtain⟨l,e1,e2⟩:=Option.bind_eq_some_iff.mp (show((aLk a t.We).bind λuu=>some false)=some b from e)
    replace e2:=Option.some.inj e2;subst e2
    have h:=List.all_eq_true.mp oX _ (Bh e1)
    obtain⟨h0,h⟩:=Ab (show(_&&_)=true from h)
    obtain⟨h1,h⟩:=Ab h
    obtain⟨h2,_⟩:=Ab h
    rcases pn k with rfl|rfl|q
    ·exact beq_iff_eq.mp h0
    ·exact beq_iff_eq.mp h1
    ·refine q.symm▸?_;exact beq_iff_eq.mp h2
   |ty t=>
    induction t using Ty.casesOn with
    |str=>
     rcases k with _|_|k
     ·cases e;exact beq_iff_eq.mp s0
     ·cases e;exact beq_iff_eq.mp s1
     ·cases e;exact beq_iff_eq.mp s2
    |_=>contradiction
   |_=>contradiction
  xm:=λC c b e=>by
   induction c using SV.casesOn with
   |tp a=>exact beq_iff_eq.mp (PI (g:=λC a b=>exmOne (W.K) (.ref C) (.ref a)==some b) pX e)
   |_=>contradiction
  zg:=λuu uu e=>NT (NI qX e)
  pe:=λuu uu e=>nU (List.map_inj_left.mp tX _ (Bh e)) (NI rX e)
  cp:=λuu e=>by contradiction
  xr:=λC e=>by
   have e:(match aLk C t.xr with
    |some _=>true
    |none=>false)=true:=e
   split at e
   ·rename_i u hu
    exact OT (List.all_eq_true.mp sX _ (Bh hu))
   ·contradiction
  ct:=λuu uu e=>aq _ _ e
  ka:=λuu uu uu e=>by contradiction
  cq:=λuu e=>e.elim}
theorem dJ:(WX w n fd m E).K=KX w.params E:=rfl
theorem fnX:∀f fi,aLk f TP.fn=some fi->Kk (WX w n fd m E) f fi:=λuu uu e=>lU dJ e
theorem IC:lb (WX w n fd m E) TP.tb:=
 tbl_ok (K:=KX w.params E) dJ (PT _ E) (QT _ E) (RT _ E) (ST _ E) (TT _ E) (UT _ E) (VT _ E) (LU _ E) (WT _ E) (XT _ E) (HU _ E) (YT _ E) (IU _ E) (λuu uu e=>(JU w.params E e).elim λuu z=>pU z.1 z.2) (MU _ E) fnX λuu uu uu e=>ZU e
end
end
section
section
variable {w:World}{n:Nat}{fd:List Addr}{m:Nat->Bool}{E:Frag}
theorem eJ{p:Obj->Bool}:∀{l:Frag},(l.all λq=>p q.2)=true->∀a o,l.lookup a=some o->p o=true
 |[],_,_,_,e=>by contradiction
 |(b,o')::l,h,a,o,e=>by
  obtain⟨h1,h2⟩:=Ab (show(p o'&&l.all λq=>p q.2)=true from h)
  rw[List.lookup_cons] at e
  split at e
  ·cases e;exact h1
  ·exact eJ h2 a o e
theorem fJ(hE:∀a o,E.lookup a=some o->o.cls≠.type "traceback"/\o.cls≠.type "frame"):(WX w n fd m E).Ok where
 plain a o e:=by
  have e:(Kf w.params++E).lookup a=some o:=e
  replace e:=Qp▸e
  rcases hk:(Kf w.params).lookup a with _|o'
  ·replace e:=hk▸e
   exact hE a o e
  ·replace e:=hk▸e
   exact Option.some.inj e▸NU (eJ (OU w.params) a _ hk)
 sm:=Option.isSome_iff_exists.mp (PU w.params E)
 nl hp X:=by
  obtain⟨h1,h2⟩:=Ab (QU w.params E)
  have G:=Heap.Ns.of_isNs (isNs_of_in X h1)
  exact⟨_,G,ns_none_of X G (beq_iff_eq.mp h2)⟩
theorem JC{S:Frag}:(WX w n fd m E).ug S=WX w n fd m (E++S):=by
 refine(?_:Wd.mk _ _ ((Kf w.params++E)++S) _ _ _ _=Wd.mk _ _ (Kf w.params++(E++S)) _ _ _ _)
 refine(List.append_assoc ..).symm▸?_
 rfl
theorem aV:((KX w.params E).lookup 385).isSome=true:=by kernel_rfl
theorem bV(ds:List SV):(Pf.all λq=>((Pg ds)[q]?).any λo=>!Nat.beq o.ctorIdx 0)=true:=by kernel_rfl
theorem cV{ad:List Addr}{h:Heap}{ds:List SV}(r:R ((WX w n [] m []).fi.on fd) ad h (Pg ds)):sC (WX w n [] m []) (solid Pf ad h):=by
 refine⟨JC▸fJ λa o hs=>?_,λm' Fd=>?_,JC▸oU (aJ w.params _).1 (aJ w.params _).2 (KU w.params _)⟩
 ·obtain⟨q,mm,ha,ho⟩:=rC hs
  obtain⟨x,e1,e2⟩:∃x,(Pg ds)[q]?=some x/\x≠.ta:=by
   have:=List.all_eq_true.mp (bV ds) q mm
   revert this
   rcases(Pg ds)[q]? with _|x
   ·exact nofun
   ·exact λb=>⟨x,rfl,λz=>by replace b:=z▸b;exact nomatch b⟩
  have ea:ad[q]?=some a:=by rw[List.getElem?_eq_getElem (r.len.symm▸(List.getElem?_eq_some_iff.mp e1).1)] at ha ⊢;exact congrArg some ha.symm
  obtain⟨o',g,c⟩:=(r.ob q a x ea e1).at e2
  replace ho:=g▸ho
  exact rt (show o=o' from ho) (tf c.cls)
 ·have e:(((WX w n [] m []).ug (solid Pf ad h)).mw m').on Fd=WX w n Fd m' (solid Pf ad h):=congrArg (λW:Wd=>(W.mw m').on Fd) JC
  refine e.symm▸?_
  exact IC
theorem eV:JI (WX w n [] m []):=⟨⟨fJ (λuu uu e=>nomatch e),λm fd=>IC (fd:=fd) (m:=m)⟩,rfl,rfl,rfl,(λe=>by
 have:=aV (w:=w) (E:=[])
 replace this:=(show(KX w.params []).lookup 385=none from e)▸this
 exact nomatch this),λuu uu uu uu r=>cV r⟩
end
end
theorem fV(P:Params):((ph P).get 1047).getD default=tabObj #[]:=by kernel_rfl
theorem gV(P:Params):((ph P).get 1202).getD default=tabObj #[]:=by kernel_rfl
theorem hV(P:Params):(nsOkIn (KX P []) mainGlobals&&nsIn (KX P []) mainGlobals rL.name==some (some (.ref 1212)))=true:=by kernel_rfl
theorem LC(P:Params):((KX P []).lookup 1047).isNone=true/\((KX P []).lookup 1202).isNone=true:=⟨by kernel_rfl,by kernel_rfl⟩
theorem gJ:aLk 1051 TP.ct=some 1047/\aLk 1206 TP.ct=some 1202:=⟨by kernel_rfl,by kernel_rfl⟩
theorem iV{K1 K2:Frag}{h:Heap}(x:(K1++K2).In h):K1.In h:=λa o e=>x a o (by refine Qp.symm▸e.symm▸?_;rfl)
theorem wint{P:Params}{h:Heap}{v:Value}{d:WData}{i:Int}(q:Well P h v d)(e:d=.int i):∃t,v=.int i t:=by
 induction q using Well.casesOn with
 |int j t=>exact⟨t,congrArg (Value.int · t) (WData.int.inj e)⟩
 |_=>contradiction
theorem wall{P:Params}{h:Heap}{vs:List Value}{D:List WData}(q:WellAll P h vs D){d:WData}{l:List WData}(e:D=d::l):∃v r,vs=v::r/\(Well P h v d/\WellAll P h r l):=by
 induction q using WellAll.casesOn with
 |nil=>contradiction
 |cons x y=>exact⟨_,_,rfl,(List.cons.inj e).1▸x,(List.cons.inj e).2▸y⟩
theorem wnil{P:Params}{h:Heap}{vs:List Value}{D:List WData}(q:WellAll P h vs D)(e:D=[]):vs=[]:=by
 induction q using WellAll.casesOn with
 |nil=>rfl
 |cons x y=>contradiction
theorem jV{W:Wd}{ad:List Addr}{P:Params}{h:Heap}:∀{l:List Int} {vs:List Value},WellAll P h vs (l.map WData.int)->Vs W ad h (l.map SV.it) vs
 |[],_,q=>wnil q rfl
 |i::l,_,q=>(wall q rfl).elim λv z=>z.elim λr z=>(wint z.2.1 rfl).elim λt e=>rt z.1 (.mk v r ⟨t,e⟩ (jV z.2.2))
theorem lV{l:List Int}(h:rL.pre.holds [] {args:=[.list (l.map WData.int)]}=true):l.length<=63:=by
 have e:rL.pre.value [] {args:=[.list (l.map WData.int)]}=some (.bool (!decide ((63:Int)<((l.map WData.int).length:Nat)))):=by
  show(match some (WData.bool (!decide ((63:Int)<((l.map WData.int).length:Nat)))) with
   |some (WData.bool false)=>some (WData.bool false)
   |some (WData.bool true)=>some (WData.bool true)
   |_=>none)=_
  induction !decide ((63:Int)<((l.map WData.int).length:Nat)) using Bool.casesOn<;>rfl
 unfold WTm.holds at h
 replace h:=e▸h
 by_cases q:(63:Int)<((l.map WData.int).length:Nat)
 ·replace h:=(decide_eq_true q ..)▸h;contradiction
 ·clear h;replace q:=(List.length_map ..)▸q;lia
theorem wlist{P:Params}{h:Heap}{v:Value}{d:WData}{l:List WData}(q:Well P h v d)(e:d=.list l):∃A vs,v=.ref A/\(h.get? A=some {cls:=.type "list",data:=.seq (List.toArray vs)}/\WellAll P h vs l):=by
 induction q using Well.casesOn with
 |list x y=>exact⟨_,_,rfl,x,WData.list.inj e▸y⟩
 |_=>contradiction
theorem args_of{args:List WData}(p:WShape.hasAll rL.records args [.list .int]=true):∃l:List Int,args=[.list (l.map WData.int)]:=by
 obtain⟨d,r,e,xX,hr⟩:=hasAllW_cons p
 obtain⟨xs,e2,hi⟩:=hasW_list xX
 obtain⟨l,e3⟩:=items_int hi
 exact⟨l,by rw[e,e2,e3,hasAllW_nil hr]⟩
theorem mV:WalkO qv Im (XL qv []) No.says rL.toRowW dL [] λf vs=>PySem.call f vs:=by
 intro w s0 s1 mg mb G Y a o pm cd doc dV kV ho hd hc Rl mD hg args vals as Ys aY bY wX cY
 clear cY bY aY Rl hc hd ho
 have Y:(Ks w.params).In s1.heap:=Y
 replace Y:=(EO ..)▸Y
 have K0:(Kf w.params).In s1.heap:=iV Y
 have KI:(KX w.params []).In s1.heap:=by
  unfold KX
  refine(List.append_nil ..).symm▸?_
  exact K0
 obtain⟨g1,g2⟩:=Ab (hV w.params)
 have ea:a=1212:=by
  have h1:mg rL.name=some (.ref a):=mD
  replace h1:=(YI KI G.T.g (beq_iff_eq.mp g2) ..)▸h1
  exact(Value.ref.inj (Option.some.inj h1)).symm
 refine rt ea ?_
 obtain⟨p1,p2⟩:=pre_splitW Ys
 obtain⟨l,ha⟩:=args_of p1
 have hlen:l.length<=63:=lV (rl ha p2)
 obtain⟨v0,r0,e0,q,q2⟩:=wall wX ha
 obtain⟨A,vs,e1,hA,jq⟩:=wlist q rfl
 refine rt ha (rt e0 (rt (wnil q2 rfl) (rt e1 ?_)))
 have T1:s1.heap.get? 1047=some (tabObj #[]):=by
  have:=Y 1047 (((ph w.params).get 1047).getD default) (by
   refine Qp.symm▸?_
   have:=(LC w.params).1
   unfold KX at this
   replace this:=(List.append_nil ..)▸this
   refine(Option.isNone_iff_eq_none.mp this ..).symm▸?_
   rfl)
  replace this:=(fV ..)▸this
  exact this
 have T2:s1.heap.get? 1202=some (tabObj #[]):=by
  have:=Y 1202 (((ph w.params).get 1202).getD default) (by
   refine Qp.symm▸?_
   have:=(LC w.params).2
   unfold KX at this
   replace this:=(List.append_nil ..)▸this
   refine(Option.isNone_iff_eq_none.mp this ..).symm▸?_
   rfl)
  replace this:=(gV ..)▸this
  exact this
 let W:Wd:=WX w s1.heap.objs.size [] (λuu=>false) []
 have tb:lb (W.fi.on []) TP.tb:=IC
 obtain⟨rd,c⟩:=ET (W:=W) eV (cells:=l) (by lia)
 have aq:∀P,s1.heap.get? P=some (tabObj #[])->Ob (W.fi.on []) [1047,1202] s1.heap P (.ct P):=λP e=>⟨_,e,rfl,#[],rfl,trivial,λpos cv h=>by cases h⟩
 have R0:R (W.fi.on []) [1047,1202] s1.heap [.ct 1047,.ct 1202]:=by
  refine⟨rfl,by decide,λa m=>?_,(λa m=>by cases m),λi a o e1 e2=>?_,λuu uu=>rfl⟩
  ·have fr:=LC w.params
   simp only [List.mem_cons,List.not_mem_nil,or_false] at m
   rcases m with rfl|rfl
   ·exact⟨Option.isNone_iff_eq_none.mp fr.1,Heap.lt_size T1⟩
   ·exact⟨Option.isNone_iff_eq_none.mp fr.2,Heap.lt_size T2⟩
  ·rcases i with _|_|i
   ·cases e1;cases e2;exact aq _ T1
   ·cases e1;cases e2;exact aq _ T2
   ·cases e1
 have C0:Cs (W.fi.on []) 124 callerA [] [1047,1202] [.ct 1047,.ct 1202] s1:=
  ⟨KI,R0,rfl,(λuu m=>by cases m),by decide,by decide,Nat.le_refl _⟩
 have yX:A∉[1047,1202]:=λm=>by
  simp only [List.mem_cons,List.not_mem_nil,or_false] at m
  rcases m with rfl|rfl
  ·replace hA:=(T1 ..)▸hA;cases hA
  ·replace hA:=(T2 ..)▸hA;cases hA
 refine wpAny_call (c [] callerA [] [1047,1202] s1 (.ref 1212) [.ref A] C0 rfl rfl (.mk _ _ (fb.mk A vs 0 hA (jV jq) ⟨yX,λm=>by cases m⟩) rfl) _ (λb eb v s' p=>?_) λn e=>nomatch e)
 cases eb
 cases p with
 |mk ia g r1 x=>
 have x:v=.bool true:=x
 subst x
 have fin:∀i P,[1047,1202][i]?=some P->(js rd)[i]?=some (AO.ct P)->∃ps,s'.heap.get? P=some (tabObj ps):=λi P e e2=>by
  obtain⟨_,y,_,ps,z,_⟩:=r1.ob i P _ (g.g.get e) e2
  exact⟨ps,z▸y⟩
 have old:∀b o,s1.heap.get? b=some o->asItWas s1.heap s'.heap b o/\∃o',s'.heap.get? b=some o':=λb o e=>by
  by_cases m:b∈[1047,1202]
  ·have tab:∀P c,s1.heap.get? P=some (tabObj #[])->aLk c TP.ct=some P->(∃ps,s'.heap.get? P=some (tabObj ps))->s1.heap.get? P=some o->asItWas s1.heap s'.heap P o/\∃o',s'.heap.get? P=some o':=λP c e1 e2 ⟨ps,e3⟩ e4=>by
    replace e4:=e1▸e4
    cases e4
    have cd:=((tb.ct c P e2).at_ s1.heap KI).1
    exact⟨.inr (.inl ⟨(cd.tab e1).isCodeTable,rfl,#[],ps,rfl,by refine e3.symm▸?_;simp⟩),_,e3⟩
   simp only [List.mem_cons,List.not_mem_nil,or_false] at m
   rcases m with rfl|rfl
   ·exact tab _ _ T1 gJ.1 (fin 0 _ rfl rfl) e
   ·exact tab _ _ T2 gJ.2 (fin 1 _ rfl rfl) e
  ·have:=g.k.old b o (Heap.lt_size e) e m id
   exact⟨.inl this,o,this⟩
 refine⟨.inl ⟨.bool true,.bool true,[],rfl,λuu=>rfl,.bool true,?_,λuu=>⟨List.nodup_nil,λuu m=>by cases m⟩⟩,⟨λb o e=>(old b o e).1,λb o e=>(old b o e).2⟩,by exact(g.e ..).symm▸rfl,.of_eq (by refine(g.e ..).symm▸?_;exact hg)⟩
 kernel_rfl
noncomputable abbrev nV:OpenLaw:=PySem.Challenge.rw_qz0126_01
theorem oV:nV.wellSaid=true:=by
 delta OpenLaw.wellSaid
 repeat' with_reducible refine look_both ?_ ?_
 ·delta OpenRow.wellSaid OpenRow.partSaid looksOpen
  repeat' with_reducible refine look_both ?_ ?_
  all_goals decide+kernel
 all_goals decide+kernel
theorem all_holds:PySem.Challenge.rw_qz0126_01.Holds:=holds_law oV λVx=>GU Vx mV
end Mine
end
theorem PySem.Challenge.cw_qz0126_01_holds : PySem.Challenge.rw_qz0126_01.Holds :=
 Mine.all_holds
