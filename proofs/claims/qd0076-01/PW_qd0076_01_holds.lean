import PyProof.Rows.All
import Wide.All
import OpenK.AllK
import Wide.FinOn
import Lean
import PySem.Challenge.RW_qd0076_01
set_option Elab.async false
set_option linter.all false
set_option maxRecDepth 100000
set_option backward.match.sparseCases false
set_option genSizeOf false
set_option genInjectivity false
set_option genCtorIdx false
noncomputable section
namespace Mine
open PySem PySem.W PyProof.Rows PySem.Calls
inductive D where
 |none
 |bool (b:Bool)
 |int (i:Int)
 |str (s:Str)
 |tup (l:List D)
 |lst (l:List D)
 |inst (C:Addr) (ks:List Str) (l:List D)
noncomputable abbrev D.ctorIdx (x:D):Nat:= @D.casesOn (λ_=>Nat) x 0 (λ_=>1) (λ_=>2) (λ_=>3) (λ_=>4) (λ_=>5) (λ_ _ _=>6)
noncomputable abbrev Gh:=Addr->Option Obj
noncomputable abbrev tupObj (vs:List Value)(n:Nat):Obj:= {cls:=.type "tuple",data:=.seq vs.toArray n}
noncomputable abbrev lstObj (vs:List Value)(n:Nat):Obj:= {cls:=.type "list",data:=.seq vs.toArray n}
noncomputable def KeysAre:List DictEntry->List Str->List Value->Prop
 | [],[],[]=>True
 |e::es,k::ks,v::vs=>(∃t,e.key=.str k t)/\e.val=v/\KeysAre es ks vs
 |_,_,_=>False
mutual
inductive RepD (G:Gh):Value->D->Prop
 |none:RepD G .none .none
 |bool (b:Bool):RepD G (.bool b) (.bool b)
 |int (i:Int) (t:Tok):RepD G (.int i t) (.int i)
 |str (s:Str) (t:Tok):RepD G (.str s t) (.str s)
 |tup {a:Addr} {n:Nat} {vs:List Value} {l:List D}:G a=some (tupObj vs n)->RepDs G vs l->RepD G (.ref a) (.tup l)
 |lst {a:Addr} {n:Nat} {vs:List Value} {l:List D}:G a=some (lstObj vs n)->RepDs G vs l->RepD G (.ref a) (.lst l)
 |inst {a C d:Addr} {n:Nat} {es:List DictEntry} {ks:List Str} {vs:List Value} {l:List D}:G a=some (instObj C d)->G d=some (dictOf es n)->KeysAre es ks vs->RepDs G vs l->RepD G (.ref a) (.inst C ks l)
inductive RepDs (G:Gh):List Value->List D->Prop
 |nil:RepDs G [] []
 |cons {v:Value} {d:D} {vs:List Value} {l:List D}:RepD G v d->RepDs G vs l->RepDs G (v::vs) (d::l)
end
def Sub (G G':Gh):Prop:=∀a o,G a=some o->G' a=some o
theorem Sub.refl (G:Gh):Sub G G:=λ_ _ e=>e
theorem Sub.trans {G G' G'':Gh}(x:Sub G G')(y:Sub G' G''):Sub G G'':=λa o e=>y a o (x a o e)
theorem RepD.mono {G G':Gh}(k:Sub G G'){v:Value}{d:D}(h:RepD G v d):RepD G' v d:=
 RepD.rec (motive_1:=λv d _=>RepD G' v d) (motive_2:=λvs l _=>RepDs G' vs l) .none .bool .int .str (λe _ r=>.tup (k _ _ e) r) (λe _ r=>.lst (k _ _ e) r) (λe f ks _ r=>.inst (k _ _ e) (k _ _ f) ks r) .nil (λ_ _=>.cons) h
inductive TupR (G:Gh)(v:Value)(l:List D):Prop
 |mk (a:Addr) (n:Nat) (vs:List Value) (e:v=.ref a) (g:G a=some (tupObj vs n)) (r:RepDs G vs l)
inductive LstR (G:Gh)(v:Value)(l:List D):Prop
 |mk (a:Addr) (n:Nat) (vs:List Value) (e:v=.ref a) (g:G a=some (lstObj vs n)) (r:RepDs G vs l)
inductive InsR (G:Gh)(v:Value)(C:Addr)(ks:List Str)(l:List D):Prop
 |mk (a d:Addr) (n:Nat) (es:List DictEntry) (vs:List Value) (e:v=.ref a) (g:G a=some (instObj C d)) (h:G d=some (dictOf es n)) (k:KeysAre es ks vs) (r:RepDs G vs l)
noncomputable def RepI (G:Gh)(v:Value):D->Prop
 | .none=>v=.none
 | .bool b=>v=.bool b
 | .int i=>∃t,v=.int i t
 | .str s=>∃t,v=.str s t
 | .tup l=>TupR G v l
 | .lst l=>LstR G v l
 | .inst C ks l=>InsR G v C ks l
theorem RepD.inv {G:Gh}{v:Value}{d:D}(h:RepD G v d):RepI G v d:=by
 cases h with
 |int=>exact⟨_,rfl⟩
 |str=>exact⟨_,rfl⟩
 |tup e r=>exact⟨_,_,_,rfl,e,r⟩
 |lst e r=>exact⟨_,_,_,rfl,e,r⟩
 |inst e f k r=>exact⟨_,_,_,_,_,rfl,e,f,k,r⟩
 |_=>rfl
theorem RepDs.inv {G:Gh}{vs:List Value}{d:D}{l:List D}(h:RepDs G vs (d::l)):∃v r,vs=v::r/\RepD G v d/\RepDs G r l:=by
 cases h with
 |cons r rs=>exact⟨_,_,rfl,r,rs⟩
theorem RepDs.inv0 {G:Gh}{vs:List Value}(h:RepDs G vs []):vs=[]:=by cases h;rfl
theorem RepDs.mono {G G':Gh}(k:Sub G G'){vs:List Value}{l:List D}(h:RepDs G vs l):RepDs G' vs l:=by
 induction l generalizing vs with
 |nil=>exact h.inv0▸ .nil
 |cons d l ih=>
  obtain⟨v,r,rfl,h1,h2⟩:=h.inv
  exact .cons (h1.mono k) (ih h2)
inductive AV where
 |none
 |bool (b:Bool)
 |int (i:Int)
 |str (s:Str)
 |ref (i:Nat)
 |dat (d:D)
 |fn (a:Addr)
 |cls (a:Addr)
 |sdict (a:Addr)
 |blt (id:String)
 |typ (n:String)
noncomputable abbrev AV.ctorIdx (x:AV):Nat:= @AV.casesOn (λ_=>Nat) x 0 (λ_=>1) (λ_=>2) (λ_=>3) (λ_=>4) (λ_=>5) (λ_=>6) (λ_=>7) (λ_=>8) (λ_=>9) (λ_=>10)
noncomputable def RepV (ρ:List Addr)(G:Gh):AV->Value->Prop
 | .none,v=>v=.none
 | .bool b,v=>v=.bool b
 | .int i,v=>∃t,v=.int i t
 | .str s,v=>∃t,v=.str s t
 | .ref i,v=>∃a,ρ[i]? =some a/\v=.ref a
 | .dat d,v=>RepD G v d
 | .fn a,v=>v=.ref a
 | .cls a,v=>v=.ref a
 | .sdict a,v=>v=.ref a
 | .blt id,v=>v=.builtin id
 | .typ n,v=>v=.type n
noncomputable def RepVs (ρ:List Addr)(G:Gh):List AV->List Value->Prop
 | [],[]=>True
 |x::xs,v::vs=>RepV ρ G x v/\RepVs ρ G xs vs
 |_,_=>False
def PreA (ρ ρ':List Addr):Prop:=∀ (i:Nat) (a:Addr),ρ[i]? =some a->ρ'[i]? =some a
theorem PreA.refl (ρ:List Addr):PreA ρ ρ:=λ_ _ e=>e
theorem PreA.trans {a b c:List Addr}(x:PreA a b)(y:PreA b c):PreA a c:=λi z e=>y i z (x i z e)
theorem PreA.app (ρ δ:List Addr):PreA ρ (ρ++δ):=λi a e=>by
 rw[List.getElem?_append_left]
 ·exact e
 ·exact(List.getElem?_eq_some_iff.mp e).1
theorem RepV.mono {ρ ρ':List Addr}{G G':Gh}(p:PreA ρ ρ')(k:Sub G G'):∀ {x:AV} {v:Value},RepV ρ G x v->RepV ρ' G' x v:=by
 intro x v h
 cases x with
 |ref i=>obtain⟨a,e,h⟩:=h;exact⟨a,p i a e,h⟩
 |dat d=>exact RepD.mono k h
 |_=>exact h
theorem RepVs.ind {ρ:List Addr}{G:Gh}{P:List AV->List Value->Prop}(n:P [] [])(c:∀a v as vs,RepV ρ G a v->RepVs ρ G as vs->P as vs->P (a::as) (v::vs)){as:List AV}:∀ {vs:List Value},RepVs ρ G as vs->P as vs:=by
 induction as with
 |nil=>
  intro vs h
  cases vs with
  |nil=>exact n
  |cons _ _=>exact h.elim
 |cons a as ih=>
  intro vs h
  cases vs with
  |nil=>exact h.elim
  |cons v vs=>exact c a v as vs h.1 h.2 (ih h.2)
theorem RepVs.inv {ρ:List Addr}{G:Gh}{as:List AV}{v:Value}{vs:List Value}(h:RepVs ρ G as (v::vs)):∃a r,as=a::r/\RepV ρ G a v/\RepVs ρ G r vs:=by
 cases as with
 |nil=>exact h.elim
 |cons a r=>exact⟨a,r,rfl,h⟩
theorem RepVs.inv' {ρ:List Addr}{G:Gh}{a:AV}{as:List AV}{vs:List Value}(h:RepVs ρ G (a::as) vs):∃v r,vs=v::r/\RepV ρ G a v/\RepVs ρ G as r:=by
 cases vs with
 |nil=>exact h.elim
 |cons v r=>exact⟨v,r,rfl,h⟩
theorem RepVs.inv0 {ρ:List Addr}{G:Gh}{vs:List Value}(h:RepVs ρ G [] vs):vs=[]:=by
 cases vs with
 |nil=>rfl
 |cons v r=>exact h.elim
theorem RepVs.mp {ρ ρ':List Addr}{G G':Gh}{fv:AV->AV}{xs:List AV}{vs:List Value}(h:RepVs ρ G xs vs):(∀x∈xs,∀v,RepV ρ G x v->RepV ρ' G' (fv x) v)->RepVs ρ' G' (xs.map fv) vs:=
 h.ind (P:=λxs vs=>(∀x∈xs,∀v,RepV ρ G x v->RepV ρ' G' (fv x) v)->RepVs ρ' G' (xs.map fv) vs) (λ_=>trivial) λ_ _ _ _ r _ ih hv=>⟨hv _ (.head _) _ r,ih λx hx=>hv x (.tail _ hx)⟩
theorem RepVs.mono {ρ ρ':List Addr}{G G':Gh}(p:PreA ρ ρ')(k:Sub G G'){xs:List AV}{vs:List Value}(h:RepVs ρ G xs vs):RepVs ρ' G' xs vs:=
 h.ind (P:=RepVs ρ' G') trivial λ_ _ _ _ r _ ih=>⟨r.mono p k,ih⟩
inductive AO where
 |inst (C:Addr) (j:Nat)
 |ns (ks:List Str) (xs:List AV)
 |list (xs:List AV)
 |tup (xs:List AV)
 |exc (C:Addr) (ks:List Str) (l:List D)
 |dead
 |raw (o:Obj)
 |exc0 (C:Addr)
 |excl (C:Addr) (j:Nat)
 |dlist (l:List D)
 |tab (l:List (Int×Int))
noncomputable abbrev AO.ctorIdx (x:AO):Nat:= @AO.casesOn (λ_=>Nat) x (λ_ _=>0) (λ_ _=>1) (λ_=>2) (λ_=>3) (λ_ _ _=>4) 5 (λ_=>6) (λ_=>7) (λ_ _=>8) (λ_=>9) (λ_=>10)
noncomputable def TabIs:List Value->List (Int×Int)->Prop
 | [],[]=>True
 | .int a _:: .int b _::_::r,(x,y)::l=>a=x/\b=y/\TabIs r l
 |_,_=>False
noncomputable abbrev excObj (C d:Addr)(vs:Array Value):Obj:= {cls:=.ref C,dict:=some d,data:=.fields vs}
noncomputable def RepO (ρ:List Addr)(G:Gh):AO->Obj->Prop
 | .inst C j,o=>∃d,ρ[j]? =some d/\o=instObj C d
 | .ns ks xs,o=>∃es n vs,o=dictOf es n/\KeysAre es ks vs/\RepVs ρ G xs vs
 | .list xs,o=>∃vs n,o=lstObj vs n/\RepVs ρ G xs vs
 | .tup xs,o=>∃vs n,o=tupObj vs n/\n=0/\RepVs ρ G xs vs
 | .exc C ks l,o=>∃d fs es n vs,o=excObj C d fs/\fs.size=6/\fs[1]? =some .none/\G d=some (dictOf es n)/\KeysAre es ks vs/\RepDs G vs l
 | .dead,_=>True
 | .raw o',o=>o=o'
 | .exc0 C,o=>∃fs,o=({cls:=.ref C,dict:=none,data:=.fields fs}:Obj)/\fs.size=6/\fs[1]? =some .none
 | .excl C j,o=>∃d fs,ρ[j]? =some d/\o=excObj C d fs/\fs.size=6/\fs[1]? =some .none
 | .dlist l,o=>∃vs n,o=lstObj vs n/\RepDs G vs l
 | .tab l,o=>∃ps,o=tabObj ps/\TabIs ps.toList l
noncomputable def AO.vals:AO->List AV
 | .ns _ xs=>xs
 | .list xs=>xs
 | .tup xs=>xs
 |_=>[]
noncomputable def AO.ixs:AO->List Nat
 | .inst _ j=>[j]
 | .excl _ j=>[j]
 |_=>[]
noncomputable def AO.mp (fi:Nat->Nat)(fv:AV->AV):AO->AO
 | .inst C j=>.inst C (fi j)
 | .ns ks xs=>.ns ks (xs.map fv)
 | .list xs=>.list (xs.map fv)
 | .tup xs=>.tup (xs.map fv)
 | .excl C j=>.excl C (fi j)
 |o=>o
theorem AO.mp_id (x:AO):x.mp id id=x:=by
 cases x with
 |ns ks xs=>exact congrArg (AO.ns ks) (List.map_id xs)
 |list xs=>exact congrArg AO.list (List.map_id xs)
 |tup xs=>exact congrArg AO.tup (List.map_id xs)
 |_=>rfl
theorem RepO.mp {ρ ρ':List Addr}{G G':Gh}{fi:Nat->Nat}{fv:AV->AV}{x:AO}{o:Obj}(hv:∀y∈x.vals,∀v,RepV ρ G y v->RepV ρ' G' (fv y) v)(hi:∀j∈x.ixs,∀d,ρ[j]? =some d->ρ'[fi j]? =some d)(k:Sub G G')(h:RepO ρ G x o):RepO ρ' G' (x.mp fi fv) o:=by
 cases x with
 |inst C j=>exact let⟨d,a,b⟩:=h;⟨d,hi _ (.head _) _ a,b⟩
 |ns ks xs=>exact let⟨es,n,vs,a,b,c⟩:=h;⟨es,n,vs,a,b,c.mp hv⟩
 |list xs=>exact let⟨vs,n,a,c⟩:=h;⟨vs,n,a,c.mp hv⟩
 |tup xs=>exact let⟨vs,n,a,z,c⟩:=h;⟨vs,n,a,z,c.mp hv⟩
 |exc C ks l=>exact let⟨d,fs,es,n,vs,a,b,c,e,f,g⟩:=h;⟨d,fs,es,n,vs,a,b,c,k _ _ e,f,RepDs.mono k g⟩
 |excl C j=>exact let⟨d,fs,a,b⟩:=h;⟨d,fs,hi _ (.head _) _ a,b⟩
 |dlist l=>exact let⟨vs,n,a,c⟩:=h;⟨vs,n,a,RepDs.mono k c⟩
 |_=>exact h
theorem RepO.mono {ρ ρ':List Addr}{G G':Gh}(p:PreA ρ ρ')(k:Sub G G'){x:AO}{o:Obj}(h:RepO ρ G x o):RepO ρ' G' x o:=
 x.mp_id▸h.mp (λ_ _ _=>RepV.mono p k) (λj _=>p j) k
inductive Live (ρ:List Addr)(G:Gh)(s:Shared)(i:Nat)(ao:AO):Prop
 |mk (a:Addr) (o:Obj) (at':ρ[i]? =some a) (here:s.heap.get? a=some o) (rep:RepO ρ G ao o) (low:G a=none)
structure HOk (B:Heap)(ρ:List Addr)(G:Gh)(obj:List AO)(s:Shared):Prop where
 base:∀b o,B.get? b=some o->G b=some o
 frz:∀b o,G b=some o->s.heap.get? b=some o
 len:ρ.length=obj.length
 nd:ρ.Nodup
 there:∀a∈ρ,∃o,s.heap.get? a=some o
 live:∀ (i:Nat) (ao:AO),obj[i]? =some ao->ao≠ .dead->Live ρ G s i ao
 gens:s.gens= #[]
theorem Live.to {ρ:List Addr}{G:Gh}{s s':Shared}{i:Nat}{ao:AO}(h:Live ρ G s i ao)(k:∀a o,ρ[i]? =some a->G a=none->s.heap.get? a=some o->s'.heap.get? a=some o):Live ρ G s' i ao:=by
 obtain⟨a,o,h1,h2,h3,h4⟩:=h
 exact⟨a,o,h1,k a o h1 h4 h2,h3,h4⟩
structure En where
 H:Heap
 ρ:List Addr
 G:Gh
 outer:List Env
 os:OsState
noncomputable def En.outL (e:En):List Addr:=e.outer.filterMap (·.frame)
def KeepX (e:En)(h:Heap):Prop:=∀b o,e.H.get? b=some o->b∉e.ρ->(b∉e.outL->h.get? b=some o)/\(b∈e.outL->∃sl,h.get? b=some {o with slots:=sl})
structure Rel (e:En)(ρ:List Addr)(G:Gh)(s:Shared):Prop where
 keep:KeepX e s.heap
 pre:PreA e.ρ ρ
 newA:∀a∈ρ,a∈e.ρ\/e.H.get? a=none
 newG:∀a o,G a=some o->(∃o',e.G a=some o')\/a∈e.ρ\/e.H.get? a=none
 os:s.os=e.os
 gsub:Sub e.G G
def FrOK (h:Heap)(ρ:List Addr)(G:Gh)(fr:List Env):Prop:=
 ∀env∈fr,env.scope.kind≠ .module/\∃L o,env.frame=some L/\h.get? L=some o/\(∀vs,o.data≠ .fields vs)/\L∉ρ/\G L=none
structure Rm (A:Around)(n:Nat)(fr:List Env):Prop where
 depth:A.depth+n<recursionLimit
 units:A.units+10*n+400<cLine
 handled:A.handled=none
 guards:A.guards=some []
 frames:A.frames=some fr
structure Fm where
 cn:Str
 cs:Scope
 L:Addr
 a:Addr
 cd:Value
 cl:List (Str×Addr)
 fr:Option (List (Str×Addr))
noncomputable abbrev Fm.env (f:Fm):Env:=envX f.cn f.cs f.L f.a f.cd (f.fr.getD f.cl)
noncomputable def seq (a b:Str):Bool:=decide (a=b)
noncomputable def lk {α:Type}:List (Str×α)->Str->Option α
 | [],_=>none
 | (y,v)::r,x=>match decide (y=x)with
  |true=>some v
  |false=>lk r x
noncomputable def put {α:Type}:List (Str×α)->Str->α->List (Str×α)
 | [],x,v=>[(x,v)]
 | (y,u)::r,x,v=>match decide (y=x)with
  |true=>(x,v)::r
  |false=>(y,u)::put r x v
theorem lk_hit {α:Type}{y x:Str}{v:α}{r:List (Str×α)}(h:y=x):lk ((y,v)::r) x=some v:=by
 show(match decide (y=x)with|true=>some v|false=>lk r x)=_
 rw[decide_eq_true h]
theorem lk_miss {α:Type}{y x:Str}{v:α}{r:List (Str×α)}(h:¬y=x):lk ((y,v)::r) x=lk r x:=by
 show(match decide (y=x)with|true=>some v|false=>lk r x)=_
 rw[decide_eq_false h]
theorem put_hit {α:Type}{y x:Str}{u v:α}{r:List (Str×α)}(h:y=x):put ((y,u)::r) x v=(x,v)::r:=by
 show(match decide (y=x)with|true=>(x,v)::r|false=>(y,u)::put r x v)=_
 rw[decide_eq_true h]
theorem put_miss {α:Type}{y x:Str}{u v:α}{r:List (Str×α)}(h:¬y=x):put ((y,u)::r) x v=(y,u)::put r x v:=by
 show(match decide (y=x)with|true=>(x,v)::r|false=>(y,u)::put r x v)=_
 rw[decide_eq_false h]
theorem lk_put {α:Type}(x:Str)(v:α)(y:Str)(l:List (Str×α)):lk (put l x v) y=if x=y then some v else lk l y:=by
 have one:∀r:List (Str×α),lk ((x,v)::r) y=if x=y then some v else lk r y:=λr=>by
  by_cases h:x=y
  ·rw[lk_hit h,if_pos h]
  ·rw[lk_miss h,if_neg h]
 induction l with
 |nil=>exact one []
 |cons p r ih=>
  obtain⟨z,u⟩:=p
  by_cases h:z=x
  ·rw[put_hit h,one]
   by_cases q:x=y
   ·rw[if_pos q,if_pos q]
   ·rw[if_neg q,if_neg q,lk_miss λe=>q (h.symm.trans e)]
  ·rw[put_miss h]
   by_cases q:z=y
   ·rw[lk_hit q,lk_hit q,if_neg λe=>h (q.trans e.symm)]
   ·rw[lk_miss q,lk_miss q,ih]
structure CellI (f:Fm)(e:En)(loc:List (Str×AV))(ρ:List Addr)(G:Gh)(s:Shared)(x:Str)(c:Addr)(o:Obj)(u:Option Value):Prop where
 kd:f.env.kindOf x=some .cell
 nρ:c∉ρ
 nG:G c=none
 nH:e.H.get? c=none
 nL:c≠f.L
 here:s.heap.get? c=some o
 dat:o.data=.cell u
 val:∀av,lk loc x=some av->∃v,u=some v/\RepV ρ G av v
 apart:∀y,f.cl.lookup y=some c->y=x
structure FOk (f:Fm)(e:En)(loc:List (Str×AV))(ρ:List Addr)(G:Gh)(s:Shared):Prop where
 ns:∃m,s.heap.Ns f.L m/\∀x av,lk loc x=some av->f.env.kindOf x≠some .cell->∃v,m x=some v/\RepV ρ G av v
 own:f.L∉ρ
 gown:G f.L=none
 fresh:e.H.get? f.L=none
 cells:∀x c,f.cl.lookup x=some c->∃o u,CellI f e loc ρ G s x c o u
structure St where
 loc:List (Str×AV)
 obj:List AO
structure In (B:Heap)(f:Fm)(e:En)(c:St)(ρ:List Addr)(G:Gh)(s:Shared):Prop where
 h:HOk B ρ G c.obj s
 r:Rel e ρ G s
 f:FOk f e c.loc ρ G s
section
variable {B:Heap}{f:Fm}{e:En}{c:St}{ρ:List Addr}{G:Gh}{s:Shared}
theorem HOk.pre (x:HOk B ρ G c.obj s):∀b o,B.get? b=some o->s.heap.get? b=some o:=λb o q=>x.frz b o (x.base b o q)
theorem HOk.low (x:HOk B ρ G c.obj s){i:Nat}{ao:AO}(q:c.obj[i]? =some ao)(nd:ao≠ .dead){a:Addr}(ha:ρ[i]? =some a):G a=none:=
 let⟨_,_,h1,_,_,h4⟩:=x.live i ao q nd;Option.some.inj (ha.symm.trans h1)▸h4
theorem snoc_get {α:Type}{l:List α}{x y:α}{i:Nat}(h:(l++[x])[i]? =some y):l[i]? =some y\/i=l.length/\x=y:=by
 rcases Nat.lt_or_ge i l.length with q|q
 ·exact .inl ((List.getElem?_append_left q).symm.trans h)
 ·have e:=(List.getElem?_eq_some_iff.mp h).1
  rw[List.length_append]at e
  obtain rfl:=Nat.le_antisymm (Nat.le_of_lt_succ e) q
  exact .inr ⟨rfl,Option.some.inj (List.getElem?_concat_length.symm.trans h)⟩
theorem snoc_mem {α:Type}{l:List α}{x y:α}(h:y∈l++[x]):y∈l\/y=x:=(List.mem_append.mp h).imp_right List.mem_singleton.mp
theorem none_of {h:Heap}{a:Addr}{o:Obj}{P:Prop}(x:h.get? a=none)(y:h.get? a=some o):P:=nomatch x.symm.trans y
theorem HOk.fresh {obj:List AO}(x:HOk B ρ G obj s){a:Addr}(hn:s.heap.get? a=none):a∉ρ/\G a=none:=
 ⟨λz=>let⟨_,q⟩:=x.there a z;none_of hn q,Option.eq_none_iff_forall_not_mem.mpr λo q=>none_of hn (x.frz a o q)⟩
theorem HOk.alloc {obj:List AO}(x:HOk B ρ G obj s){s':Shared}{a:Addr}{o:Obj}{ao:AO}(k:∀b o,s.heap.get? b=some o->s'.heap.get? b=some o)(hn:s.heap.get? a=none)(ho:s'.heap.get? a=some o)
  (hr:RepO (ρ++[a]) G ao o) (hg:s'.gens=s.gens):HOk B (ρ++[a]) G (obj++[ao]) s':=by
 obtain⟨nm,hG⟩:=x.fresh hn
 refine⟨x.base,λb o q=>k _ _ (x.frz b o q),by rw[List.length_append,List.length_append,x.len];rfl,List.nodup_append.mpr ⟨x.nd,List.nodup_cons.mpr ⟨List.not_mem_nil,List.nodup_nil⟩,λb hb b' hb' z=>nm (List.mem_singleton.mp hb'▸z▸hb)⟩,λb hb=>?_,λi ao' q nd=>?_,hg.trans x.gens⟩
 ·rcases snoc_mem hb with hb|rfl
  ·exact let⟨o,q⟩:=x.there b hb;⟨o,k _ _ q⟩
  ·exact⟨o,ho⟩
 ·rcases snoc_get q with q| ⟨rfl,rfl⟩
  ·exact let⟨a',o',h1,h2,h3,h4⟩:=x.live i ao' q nd;⟨a',o',PreA.app ρ [a] _ _ h1,k _ _ h2,h3.mono (PreA.app ρ [a]) (Sub.refl G),h4⟩
  ·exact⟨a,o,by rw[<-x.len];exact List.getElem?_concat_length,ho,hr,hG⟩
theorem KeepX.to {h h':Heap}(K:KeepX e h)(k:∀b o o',e.H.get? b=some o'->b∉e.ρ->h.get? b=some o->h'.get? b=some o):KeepX e h':=λb o q n=>
 ⟨λz=>k b o o q n ((K b o q n).1 z),λz=>let⟨sl,w⟩:=(K b o q n).2 z;⟨sl,k _ _ _ q n w⟩⟩
theorem FOk.to {loc:List (Str×AV)}(F:FOk f e loc ρ G s){ρ':List Addr}{G':Gh}{s':Shared}(p:PreA ρ ρ')(g:Sub G G')(hL:∀o,s.heap.get? f.L=some o->s'.heap.get? f.L=some o)(own:f.L∉ρ')(gown:G' f.L=none)
  (hc:∀c o,s.heap.get? c=some o->c∉ρ->G c=none->s'.heap.get? c=some o/\c∉ρ'/\G' c=none):FOk f e loc ρ' G' s':=
 ⟨let⟨m,⟨o,es,ep,e1,e2⟩,n2⟩:=F.ns;⟨m,⟨o,es,ep,hL o e1,e2⟩,λy w q z=>let⟨v,u1,u2⟩:=n2 y w q z;⟨v,u1,u2.mono p g⟩⟩,own,gown,F.fresh,λx c q=>
  let⟨o,u,i⟩:=F.cells x c q;let⟨h1,h2,h3⟩:=hc c o i.here i.nρ i.nG;⟨o,u,i.kd,h2,h3,i.nH,i.nL,h1,i.dat,λav w=>let⟨v,v1,v2⟩:=i.val av w;⟨v,v1,v2.mono p g⟩,i.apart⟩⟩
theorem In.ext (x:In B f e c ρ G s){s':Shared}(k:∀b o,s.heap.get? b=some o->s'.heap.get? b=some o)(hg:s'.gens=s.gens)(hos:s'.os=s.os):In B f e c ρ G s':=
 let⟨H,R,F⟩:=x
 ⟨⟨H.base,λb o q=>k _ _ (H.frz b o q),H.len,H.nd,λa ha=>let⟨o,q⟩:=H.there a ha;⟨o,k _ _ q⟩,λi ao q nd=>(H.live i ao q nd).to λa o _ _=>k a o,hg.trans H.gens⟩,
  ⟨R.keep.to λb o _ _ _=>k b o,R.pre,R.newA,R.newG,hos.trans R.os,R.gsub⟩,F.to (PreA.refl _) (Sub.refl _) (k _) F.own F.gown λc o q n g=>⟨k _ _ q,n,g⟩⟩
theorem ns_same {h:Heap}{L:Addr}{m m':Str->Option Value}(a:h.Ns L m)(b:h.Ns L m'):m=m':=by
 obtain⟨o,es,ep,e1,e2,_,e3⟩:=a
 obtain⟨o',es',ep',f1,f2,_,f3⟩:=b
 obtain rfl:=Option.some.inj (e1.symm.trans f1)
 rw[e2]at f2;cases f2
 exact funext λy=>(e3 y).symm.trans (f3 y)
theorem In.store (x:In B f e c ρ G s){s':Shared}{m:Str->Option Value}{nm:Str}{av:AV}{v:Value}(k:∀b o,b≠f.L->s.heap.get? b=some o->s'.heap.get? b=some o)
  (hm:s.heap.Ns f.L m) (hm':s'.heap.Ns f.L (λy=>if y=nm then some v else m y)) (hr:RepV ρ G av v) (hloc:f.env.kindOf nm=some .local) (hg:s'.gens=s.gens) (hos:s'.os=s.os):
  In B f e ⟨put c.loc nm av,c.obj⟩ ρ G s':=by
 obtain⟨H,R,F⟩:=x
 refine⟨⟨H.base,λb o q=>k _ _ (λz=>by rw[z,F.gown]at q;cases q) (H.frz b o q),H.len,H.nd,λa ha=>let⟨o,q⟩:=H.there a ha;⟨o,k _ _ (λz=>F.own (z▸ha)) q⟩,λi ao q nd=>(H.live i ao q nd).to λa o h1 _=>k a o λz=>F.own (z▸List.mem_of_getElem? h1),hg.trans H.gens⟩,
  ⟨R.keep.to λb o o' q _=>k b o λz=>none_of F.fresh (z▸q),R.pre,R.newA,R.newG,hos.trans R.os,R.gsub⟩,⟨⟨_,hm',λy w q hc=>?_⟩,F.own,F.gown,F.fresh,λx c q=>let⟨o,u,i⟩:=F.cells x c q;⟨o,u,i.kd,i.nρ,i.nG,i.nH,i.nL,k _ _ i.nL i.here,i.dat,λav w=>?_,i.apart⟩⟩⟩
 ·obtain⟨m₀,n1,n2⟩:=F.ns
  obtain rfl:=ns_same n1 hm
  dsimp only at q
  rw[lk_put]at q
  by_cases h:nm=y
  ·rw[if_pos h]at q;cases q
   exact⟨v,if_pos h.symm,hr⟩
  ·rw[if_neg h]at q
   exact let⟨u,u1,u2⟩:=n2 y w q hc;⟨u,(if_neg λz=>h z.symm).trans u1,u2⟩
 ·dsimp only at w
  rw[lk_put,if_neg (λz=>nomatch (z▸hloc).symm.trans i.kd)]at w
  exact i.val av w
theorem In.new (x:In B f e c ρ G s){a:Addr}(hn:s.heap.get? a=none):a∉ρ/\G a=none/\a≠f.L/\e.H.get? a=none:=by
 obtain⟨h1,h2⟩:=x.h.fresh hn
 refine⟨h1,h2,λz=>let⟨_,⟨_,_,_,q,_⟩,_⟩:=x.f.ns;none_of (z▸hn) q,Option.eq_none_iff_forall_not_mem.mpr λo' q=>?_⟩
 have k:=x.r.keep a o' q λh=>let⟨i,hi⟩:=List.getElem?_of_mem h;h1 (List.mem_of_getElem? (x.r.pre i a hi))
 by_cases g:a∈e.outL
 ·exact let⟨_,w⟩:=k.2 g;none_of hn w
 ·exact none_of hn (k.1 g)
theorem In.alloc (x:In B f e c ρ G s){s':Shared}{a:Addr}{o:Obj}{ao:AO}(k:∀b o,s.heap.get? b=some o->s'.heap.get? b=some o)(hn:s.heap.get? a=none)(ho:s'.heap.get? a=some o)
  (hr:RepO (ρ++[a]) G ao o) (hg:s'.gens=s.gens) (hos:s'.os=s.os):In B f e ⟨c.loc,c.obj++[ao]⟩ (ρ++[a]) G s':=by
 obtain⟨hnm,hG,hL,hH⟩:=x.new hn
 obtain⟨H,R,F⟩:=x
 exact⟨H.alloc k hn ho hr hg,⟨R.keep.to λb o _ _ _=>k b o,R.pre.trans (PreA.app ρ [a]),λb hb=>(snoc_mem hb).elim (R.newA b) λz=>.inr (z▸hH),R.newG,hos.trans R.os,R.gsub⟩,
  F.to (PreA.app ρ [a]) (Sub.refl _) (k _) (λz=>(snoc_mem z).elim F.own (Ne.symm hL)) F.gown λc o q n g=>⟨k _ _ q,λz=>(snoc_mem z).elim n λz=>none_of hn (z▸q),g⟩⟩
theorem nodup_ix {l:List Addr}(nd:l.Nodup){i j:Nat}{a:Addr}(h:l[i]? =some a)(h':l[j]? =some a):i=j:=
 let⟨li,ei⟩:=List.getElem?_eq_some_iff.mp h;let⟨lj,ej⟩:=List.getElem?_eq_some_iff.mp h';(List.getElem_inj (h₀:=li) (h₁:=lj) nd).mp (ei.trans ej.symm)
theorem In.upd (x:In B f e c ρ G s){s':Shared}{i:Nat}{a:Addr}{o:Obj}{ao ao':AO}(hi:c.obj[i]? =some ao)(hnd:ao≠ .dead)(ha:ρ[i]? =some a)(k:∀b o,b≠a->s.heap.get? b=some o->s'.heap.get? b=some o)
  (ho:s'.heap.get? a=some o) (hr:RepO ρ G ao' o) (hg:s'.gens=s.gens) (hos:s'.os=s.os):In B f e ⟨c.loc,c.obj.set i ao'⟩ ρ G s':=by
 obtain⟨H,R,F⟩:=x
 have hG:G a=none:=H.low hi hnd ha
 have hm:a∈ρ:=List.mem_of_getElem? ha
 refine⟨⟨H.base,λb o q=>k _ _ (λz=>by rw[z,hG]at q;cases q) (H.frz b o q),H.len.trans List.length_set.symm,H.nd,λb hb=>?_,λj ao₂ q nd=>?_,hg.trans H.gens⟩,
  ⟨R.keep.to λb o o' q n=>k b o λz=>(R.newA a hm).elim (λy=>n (z▸y)) λy=>none_of y (z▸q),R.pre,R.newA,R.newG,hos.trans R.os,R.gsub⟩,F.to (PreA.refl _) (Sub.refl _) (λo=>k _ o λz=>F.own (z▸hm)) F.own F.gown λc o q n g=>⟨k _ _ (λz=>n (z▸hm)) q,n,g⟩⟩
 ·by_cases z:b=a
  ·exact⟨o,z▸ho⟩
  ·exact let⟨o',q⟩:=H.there b hb;⟨o',k _ _ z q⟩
 ·dsimp only at q
  by_cases hj:i=j
  ·subst hj
   rw[List.getElem?_set_self (List.getElem?_eq_some_iff.mp hi).1]at q
   cases q
   exact⟨a,o,ha,ho,hr,hG⟩
  ·rw[List.getElem?_set_ne hj]at q
   exact(H.live j ao₂ q nd).to λb o₂ h1 _=>k b o₂ λz=>hj (nodup_ix H.nd ha (z▸h1))
end
inductive Rv where
 |ok (a:AV)
 |ex (C:Addr) (ks:List Str) (l:List D)
noncomputable abbrev Rv.ctorIdx (x:Rv):Nat:= @Rv.casesOn (λ_=>Nat) x (λ_=>0) (λ_ _ _=>1)
inductive HeadI (own:Option Addr)(e:En)(s:Shared)(G:Gh)(a:Addr)(fs:Array Value):Prop
 |mk (T:Addr) (ts:Array Value) (oT:Obj) (head:fs[1]? =some (.ref T)) (here:s.heap.get? T=some oT) (data:oT.data=.fields ts) (says:ts[3]? =some .none\/∃L,own=some L/\ts[3]? =some (rawInt L)) (ne:T≠a) (low:G T=none) (new:T∈e.ρ\/e.H.get? T=none)
structure FlyI (B:Heap)(own:Option Addr)(e:En)(C:Addr)(ks:List Str)(l:List D)(G₀:Gh)(x:Value)(s:Shared)(G:Gh)(a d:Addr)(fs:Array Value)(es:List DictEntry)(n:Nat)(vs:List Value):Prop where
 isRef:x=.ref a
 sub:Sub G₀ G
 here:s.heap.get? a=some (excObj C d fs)
 size:fs.size=6
 head:(fs[1]? =some .none/\own≠none)\/HeadI own e s G a fs
 dict:G d=some (dictOf es n)
 keys:KeysAre es ks vs
 rep:RepDs G vs l
 low:G a=none
 new:a∈e.ρ\/e.H.get? a=none
 base:∀b o,B.get? b=some o->G b=some o
 frz:∀b o,G b=some o->s.heap.get? b=some o
 newG:∀b o,G b=some o->(∃o',e.G b=some o')\/b∈e.ρ\/e.H.get? b=none
 lowL:∀L,own=some L->G L=none
inductive FlyE (B:Heap)(own:Option Addr)(e:En)(C:Addr)(ks:List Str)(l:List D)(G₀:Gh)(x:Value)(s:Shared):Prop
 |mk (G:Gh) (a d:Addr) (fs:Array Value) (es:List DictEntry) (n:Nat) (vs:List Value) (h:FlyI B own e C ks l G₀ x s G a d fs es n vs)
structure Fly (B:Heap)(own:Option Addr)(e:En)(C:Addr)(ks:List Str)(l:List D)(G₀:Gh)(x:Value)(s:Shared):Prop where
 it:FlyE B own e C ks l G₀ x s
 keep:KeepX e s.heap
 fresh:∀L,own=some L->e.H.get? L=none/\∃o,s.heap.get? L=some o/\∀vs,o.data≠ .fields vs
 gens:s.gens= #[]
 os:s.os=e.os
inductive Aft (B:Heap)(f:Fm)(e:En)(ρ:List Addr)(G:Gh)(c':St)(s':Shared)(P:List Addr->Gh->Prop):Prop
 |mk (ρ':List Addr) (G':Gh) (p:PreA ρ ρ') (q:Sub G G') (i:In B f e c' ρ' G' s') (r:P ρ' G')
inductive Aft0 (B:Heap)(f:Fm)(e:En)(ρ:List Addr)(G:Gh)(c':St)(s':Shared):Prop
 |mk (ρ':List Addr) (G':Gh) (p:PreA ρ ρ') (q:Sub G G') (i:In B f e c' ρ' G' s')
section
variable (B:Heap)(f:Fm)(e:En)(ρ:List Addr)(G:Gh)
def QV (r:Rv)(c':St)(v:Value)(s':Shared):Prop:=match r with
 | .ok av=>Aft B f e ρ G c' s' λρ' G'=>RepV ρ' G' av v
 | .ex .. =>False
def QX (r:Rv)(x:Value)(s':Shared):Prop:=match r with
 | .ok _=>False
 | .ex C ks l=>Fly B (some f.L) e C ks l G x s'
end
structure Tab where
 glob:List (Str×AV)
 meth:List (Addr×List (Str×Addr))
 flds:List (Addr×List Str)
 dicts:List Addr
 keeps:List Addr
structure Cx where
 prog:Program
 w:World
 B:Heap
 K:Frag
 T:Tab
 f:Fm
 e:En
 n:Nat
def TV (X:Cx)(t:Sem Value)(c:St)(r:Rv)(c':St):Prop:=
 ∀ (A:Around) (ρ:List Addr) (G:Gh) (s:Shared),Rm A X.n (X.f.env::X.e.outer)->FrOK X.e.H X.e.ρ X.e.G X.e.outer->In X.B X.f X.e c ρ G s->
  wpAny (model X.prog X.w) A t (QV X.B X.f X.e ρ G r c') (QX X.B X.f X.e G r) s
inductive Rs where
 |ok (a:List AV)
 |ex (C:Addr) (ks:List Str) (l:List D)
noncomputable abbrev Rs.ctorIdx (x:Rs):Nat:= @Rs.casesOn (λ_=>Nat) x (λ_=>0) (λ_ _ _=>1)
def QVs (B:Heap)(f:Fm)(e:En)(ρ:List Addr)(G:Gh)(r:Rs)(c':St)(vs:List Value)(s':Shared):Prop:=match r with
 | .ok av=>Aft B f e ρ G c' s' λρ' G'=>RepVs ρ' G' av vs
 | .ex .. =>False
def QXs (B:Heap)(f:Fm)(e:En)(G:Gh)(r:Rs)(x:Value)(s':Shared):Prop:=match r with
 | .ok _=>False
 | .ex C ks l=>Fly B (some f.L) e C ks l G x s'
def TVs (X:Cx)(t:Sem (List Value))(c:St)(r:Rs)(c':St):Prop:=
 ∀ (A:Around) (ρ:List Addr) (G:Gh) (s:Shared),Rm A X.n (X.f.env::X.e.outer)->FrOK X.e.H X.e.ρ X.e.G X.e.outer->In X.B X.f X.e c ρ G s->
  wpAny (model X.prog X.w) A t (QVs X.B X.f X.e ρ G r c') (QXs X.B X.f X.e G r) s
inductive Rb where
 |ok (b:Bool)
 |ex (C:Addr) (ks:List Str) (l:List D)
noncomputable abbrev Rb.ctorIdx (x:Rb):Nat:= @Rb.casesOn (λ_=>Nat) x (λ_=>0) (λ_ _ _=>1)
def QB (B:Heap)(f:Fm)(e:En)(ρ:List Addr)(G:Gh)(r:Rb)(c':St)(b:Bool)(s':Shared):Prop:=match r with
 | .ok b'=>b=b'/\Aft0 B f e ρ G c' s'
 | .ex .. =>False
def QXb (B:Heap)(f:Fm)(e:En)(G:Gh)(r:Rb)(x:Value)(s':Shared):Prop:=match r with
 | .ok _=>False
 | .ex C ks l=>Fly B (some f.L) e C ks l G x s'
def TB (X:Cx)(t:Sem Bool)(c:St)(r:Rb)(c':St):Prop:=
 ∀ (A:Around) (ρ:List Addr) (G:Gh) (s:Shared),Rm A X.n (X.f.env::X.e.outer)->FrOK X.e.H X.e.ρ X.e.G X.e.outer->In X.B X.f X.e c ρ G s->
  wpAny (model X.prog X.w) A t (QB X.B X.f X.e ρ G r c') (QXb X.B X.f X.e G r) s
inductive Fl where
 |next
 |ret (a:AV)
 |ex (C:Addr) (ks:List Str) (l:List D)
noncomputable abbrev Fl.ctorIdx (x:Fl):Nat:= @Fl.casesOn (λ_=>Nat) x 0 (λ_=>1) (λ_ _ _=>2)
def QF (B:Heap)(f:Fm)(e:En)(ρ:List Addr)(G:Gh)(r:Fl)(c':St)(fl:Flow)(s':Shared):Prop:=match r,fl with
 | .next,.next=>Aft0 B f e ρ G c' s'
 | .ret a,.ret v=>Aft B f e ρ G c' s' λρ' G'=>RepV ρ' G' a v
 |_,_=>False
def QXf (B:Heap)(f:Fm)(e:En)(G:Gh)(r:Fl)(x:Value)(s':Shared):Prop:=match r with
 | .ex C ks l=>Fly B (some f.L) e C ks l G x s'
 |_=>False
def TF (X:Cx)(t:Sem Flow)(c:St)(r:Fl)(c':St):Prop:=
 ∀ (A:Around) (ρ:List Addr) (G:Gh) (s:Shared),Rm A X.n (X.f.env::X.e.outer)->FrOK X.e.H X.e.ρ X.e.G X.e.outer->In X.B X.f X.e c ρ G s->
  wpAny (model X.prog X.w) A t (QF X.B X.f X.e ρ G r c') (QXf X.B X.f X.e G r) s
theorem Fly.sub {B:Heap}{own:Option Addr}{e:En}{C:Addr}{ks:List Str}{l:List D}{G G':Gh}{x:Value}{s:Shared}(k:Sub G G')(h:Fly B own e C ks l G' x s):Fly B own e C ks l G x s:=by
 obtain⟨⟨G'',a,d,fs,es,n,vs,h⟩,r1,r2,r3,r4⟩:=h
 exact⟨⟨G'',a,d,fs,es,n,vs,{h with sub:=k.trans h.sub}⟩,r1,r2,r3,r4⟩
section
variable {X:Cx}{c c₁ c₂:St}
theorem In.toks {B:Heap}{f:Fm}{e:En}{c:St}{ρ:List Addr}{G:Gh}{s:Shared}{t:Nat}(x:In B f e c ρ G s):In B f e c ρ G {s with toks:=t}:=x.ext (λ_ _ q=>q) rfl rfl
theorem tv_none {k pos}:TV X (eval (.Constant .none k pos) X.f.env) c (.ok .none) c:=λ_ ρ G _ _ _ i=>wpAny_Constant_none ⟨ρ,G,PreA.refl _,Sub.refl _,i,rfl⟩
theorem tv_bool {b k pos}:TV X (eval (.Constant (.bool b) k pos) X.f.env) c (.ok (.bool b)) c:=λ_ ρ G _ _ _ i=>wpAny_Constant_bool ⟨ρ,G,PreA.refl _,Sub.refl _,i,rfl⟩
theorem tv_int {z k pos}:TV X (eval (.Constant (.int z) k pos) X.f.env) c (.ok (.int z)) c:=λ_ ρ G s _ _ i=>wpAny_Constant_int ⟨ρ,G,PreA.refl _,Sub.refl _,i.toks,s.toks,rfl⟩
theorem tv_str {z k pos}:TV X (eval (.Constant (.str z) k pos) X.f.env) c (.ok (.str z)) c:=λ_ ρ G s _ _ i=>wpAny_Constant_str ⟨ρ,G,PreA.refl _,Sub.refl _,i.toks,s.toks,rfl⟩
theorem tv_local {x pos}{av:AV}(hk:X.f.cs.kind=.function)(hl:X.f.env.kindOf x=some .local)(hd:(x==("__debug__" :Str))=false)(h:lk c.loc x=some av):TV X (eval (.Name x pos) X.f.env) c (.ok av) c:=λA ρ G s _ _ i=>by
 obtain⟨m,n1,n2⟩:=i.f.ns
 obtain⟨v,v1,v2⟩:=n2 x av h (by rw[hl];decide)
 exact wpAny_Name (wpAny_loadName_local hk hl n1 v1 ⟨ρ,G,PreA.refl _,Sub.refl _,i,v2⟩) hd
theorem QV.up {B:Heap}{f:Fm}{e:En}{ρ ρ₁:List Addr}{G G₁:Gh}{r:Rv}{c:St}{v:Value}{s:Shared}(p:PreA ρ ρ₁)(q:Sub G G₁)(h:QV B f e ρ₁ G₁ r c v s):QV B f e ρ G r c v s:=by
 cases r with
 |ok av=>obtain⟨ρ',G',p',q',i',r'⟩:=h;exact⟨ρ',G',p.trans p',q.trans q',i',r'⟩
 |ex=>exact h
theorem QX.up {B:Heap}{f:Fm}{e:En}{G G₁:Gh}{r:Rv}{v:Value}{s:Shared}(q:Sub G G₁)(h:QX B f e G₁ r v s):QX B f e G r v s:=by
 cases r with
 |ok av=>exact h
 |ex=>exact Fly.sub q h
theorem QB.up {B:Heap}{f:Fm}{e:En}{ρ ρ₁:List Addr}{G G₁:Gh}{r:Rb}{c:St}{v:Bool}{s:Shared}(p:PreA ρ ρ₁)(q:Sub G G₁)(h:QB B f e ρ₁ G₁ r c v s):QB B f e ρ G r c v s:=by
 cases r with
 |ok av=>obtain⟨z,ρ',G',p',q',i'⟩:=h;exact⟨z,ρ',G',p.trans p',q.trans q',i'⟩
 |ex=>exact h
theorem QXb.up {B:Heap}{f:Fm}{e:En}{G G₁:Gh}{r:Rb}{v:Value}{s:Shared}(q:Sub G G₁)(h:QXb B f e G₁ r v s):QXb B f e G r v s:=by
 cases r with
 |ok av=>exact h
 |ex=>exact Fly.sub q h
theorem QF.up {B:Heap}{f:Fm}{e:En}{ρ ρ₁:List Addr}{G G₁:Gh}{r:Fl}{c:St}{v:Flow}{s:Shared}(p:PreA ρ ρ₁)(q:Sub G G₁)(h:QF B f e ρ₁ G₁ r c v s):QF B f e ρ G r c v s:=by
 cases r with
 |next=>
  cases v<;>first|exact h.elim|skip
  obtain⟨ρ',G',p',q',i'⟩:=h;exact⟨ρ',G',p.trans p',q.trans q',i'⟩
 |ret a=>
  cases v<;>first|exact h.elim|skip
  obtain⟨ρ',G',p',q',i',r'⟩:=h;exact⟨ρ',G',p.trans p',q.trans q',i',r'⟩
 |ex=>cases v<;>exact h.elim
theorem QXf.up {B:Heap}{f:Fm}{e:En}{G G₁:Gh}{r:Fl}{v:Value}{s:Shared}(q:Sub G G₁)(h:QXf B f e G₁ r v s):QXf B f e G r v s:=by
 cases r with
 |ex=>exact Fly.sub q h
 |_=>exact h
theorem wp_then {t:Sem Value}{av:AV}{A:Around}{ρ:List Addr}{G:Gh}{s:Shared}{Q:Value->Shared->Prop}{E:Value->Shared->Prop}(h:TV X t c (.ok av) c₁)(rm:Rm A X.n (X.f.env::X.e.outer))(fo:FrOK X.e.H X.e.ρ X.e.G X.e.outer)(i:In X.B X.f X.e c ρ G s)
  (k:∀v s' ρ' G',PreA ρ ρ'->Sub G G'->In X.B X.f X.e c₁ ρ' G' s'->RepV ρ' G' av v->Q v s'):wpAny (model X.prog X.w) A t Q E s:=
 wpAny_mono (h A ρ G s rm fo i) (λv s' ⟨ρ',G',p,q,i',r⟩=>k v s' ρ' G' p q i' r) λ_ _ z=>z.elim
theorem wp_ex {t:Sem Value}{C ks l}{A:Around}{ρ:List Addr}{G:Gh}{s:Shared}{Q:Value->Shared->Prop}{E:Value->Shared->Prop}(h:TV X t c (.ex C ks l) c₁)(rm:Rm A X.n (X.f.env::X.e.outer))(fo:FrOK X.e.H X.e.ρ X.e.G X.e.outer)(i:In X.B X.f X.e c ρ G s)
  (k:∀x s',Fly X.B (some X.f.L) X.e C ks l G x s'->E x s'):wpAny (model X.prog X.w) A t Q E s:=
 wpAny_mono (h A ρ G s rm fo i) (λ_ _ z=>z.elim) λx s' z=>k x s' z
theorem wps_then {t:Sem (List Value)}{av:List AV}{A:Around}{ρ:List Addr}{G:Gh}{s:Shared}{Q:List Value->Shared->Prop}{E:Value->Shared->Prop}(h:TVs X t c (.ok av) c₁)(rm:Rm A X.n (X.f.env::X.e.outer))(fo:FrOK X.e.H X.e.ρ X.e.G X.e.outer)(i:In X.B X.f X.e c ρ G s)
  (k:∀v s' ρ' G',PreA ρ ρ'->Sub G G'->In X.B X.f X.e c₁ ρ' G' s'->RepVs ρ' G' av v->Q v s'):wpAny (model X.prog X.w) A t Q E s:=
 wpAny_mono (h A ρ G s rm fo i) (λv s' ⟨ρ',G',p,q,i',r⟩=>k v s' ρ' G' p q i' r) λ_ _ z=>z.elim
theorem wps_ex {t:Sem (List Value)}{C ks l}{A:Around}{ρ:List Addr}{G:Gh}{s:Shared}{Q:List Value->Shared->Prop}{E:Value->Shared->Prop}(h:TVs X t c (.ex C ks l) c₁)(rm:Rm A X.n (X.f.env::X.e.outer))(fo:FrOK X.e.H X.e.ρ X.e.G X.e.outer)(i:In X.B X.f X.e c ρ G s)
  (k:∀x s',Fly X.B (some X.f.L) X.e C ks l G x s'->E x s'):wpAny (model X.prog X.w) A t Q E s:=
 wpAny_mono (h A ρ G s rm fo i) (λ_ _ z=>z.elim) λx s' z=>k x s' z
theorem wpb_then {t:Sem Bool}{b:Bool}{A:Around}{ρ:List Addr}{G:Gh}{s:Shared}{Q:Bool->Shared->Prop}{E:Value->Shared->Prop}(h:TB X t c (.ok b) c₁)(rm:Rm A X.n (X.f.env::X.e.outer))(fo:FrOK X.e.H X.e.ρ X.e.G X.e.outer)(i:In X.B X.f X.e c ρ G s)
  (k:∀s' ρ' G',PreA ρ ρ'->Sub G G'->In X.B X.f X.e c₁ ρ' G' s'->Q b s'):wpAny (model X.prog X.w) A t Q E s:=
 wpAny_mono (h A ρ G s rm fo i) (λv s' ⟨z,ρ',G',p,q,i'⟩=>z▸k s' ρ' G' p q i') λ_ _ z=>z.elim
theorem wpb_ex {t:Sem Bool}{C ks l}{A:Around}{ρ:List Addr}{G:Gh}{s:Shared}{Q:Bool->Shared->Prop}{E:Value->Shared->Prop}(h:TB X t c (.ex C ks l) c₁)(rm:Rm A X.n (X.f.env::X.e.outer))(fo:FrOK X.e.H X.e.ρ X.e.G X.e.outer)(i:In X.B X.f X.e c ρ G s)
  (k:∀x s',Fly X.B (some X.f.L) X.e C ks l G x s'->E x s'):wpAny (model X.prog X.w) A t Q E s:=
 wpAny_mono (h A ρ G s rm fo i) (λ_ _ z=>z.elim) λx s' z=>k x s' z
def Op1 (X:Cx)(t:Value->Sem Value)(a:AV)(c:St)(r:Rv)(c':St):Prop:=
 ∀ (A:Around) (ρ:List Addr) (G:Gh) (s:Shared) (va:Value),Rm A X.n (X.f.env::X.e.outer)->FrOK X.e.H X.e.ρ X.e.G X.e.outer->In X.B X.f X.e c ρ G s->RepV ρ G a va->
  wpAny (model X.prog X.w) A (t va) (QV X.B X.f X.e ρ G r c') (QX X.B X.f X.e G r) s
def Op2 (X:Cx)(t:Value->Value->Sem Value)(a b:AV)(c:St)(r:Rv)(c':St):Prop:=
 ∀ (A:Around) (ρ:List Addr) (G:Gh) (s:Shared) (va vb:Value),Rm A X.n (X.f.env::X.e.outer)->FrOK X.e.H X.e.ρ X.e.G X.e.outer->In X.B X.f X.e c ρ G s->RepV ρ G a va->RepV ρ G b vb->
  wpAny (model X.prog X.w) A (t va vb) (QV X.B X.f X.e ρ G r c') (QX X.B X.f X.e G r) s
theorem tv_binop {env:Env}{l r op pos}{a b:AV}{rv:Rv}{c₃:St}(hl:TV X (eval l env) c (.ok a) c₁)(hr:TV X (eval r env) c₁ (.ok b) c₂)(h:Op2 X (binaryOp op) a b c₂ rv c₃):
  TV X (eval (.BinOp l op r pos) env) c rv c₃:=λA ρ G s rm fo i=>by
 refine wpAny_BinOp (wp_then hl rm fo i λva s₁ ρ₁ G₁ p₁ q₁ i₁ r₁=>wp_then hr rm fo i₁ λvb s₂ ρ₂ G₂ p₂ q₂ i₂ r₂=>?_)
 exact wpAny_mono (h A ρ₂ G₂ s₂ va vb rm fo i₂ (r₁.mono p₂ q₂) r₂) (λv s'=>QV.up (p₁.trans p₂) (q₁.trans q₂)) λx s'=>QX.up (q₁.trans q₂)
theorem tv_binop_l {l r op pos C ks d}(hl:TV X (eval l X.f.env) c (.ex C ks d) c₁):TV X (eval (.BinOp l op r pos) X.f.env) c (.ex C ks d) c₁:=λA ρ G s rm fo i=>
 wpAny_BinOp (wp_ex hl rm fo i λx s' z=>z)
theorem tv_binop_r {l r op pos C ks d}{a:AV}(hl:TV X (eval l X.f.env) c (.ok a) c₁)(hr:TV X (eval r X.f.env) c₁ (.ex C ks d) c₂):TV X (eval (.BinOp l op r pos) X.f.env) c (.ex C ks d) c₂:=λA ρ G s rm fo i=>
 wpAny_BinOp (wp_then hl rm fo i λva s₁ ρ₁ G₁ p₁ q₁ i₁ r₁=>wp_ex hr rm fo i₁ λx s' z=>Fly.sub q₁ z)
theorem tv_unop {x op pos}{a:AV}{rv:Rv}(hl:TV X (eval x X.f.env) c (.ok a) c₁)(h:Op1 X (unaryOp op) a c₁ rv c₂):TV X (eval (.UnaryOp op x pos) X.f.env) c rv c₂:=λA ρ G s rm fo i=>by
 refine wpAny_UnaryOp (wp_then hl rm fo i λva s₁ ρ₁ G₁ p₁ q₁ i₁ r₁=>?_)
 exact wpAny_mono (h A ρ₁ G₁ s₁ va rm fo i₁ r₁) (λv s'=>QV.up p₁ q₁) λx s'=>QX.up q₁
theorem tv_unop_x {x op pos C ks d}(hl:TV X (eval x X.f.env) c (.ex C ks d) c₁):TV X (eval (.UnaryOp op x pos) X.f.env) c (.ex C ks d) c₁:=λA ρ G s rm fo i=>
 wpAny_UnaryOp (wp_ex hl rm fo i λx s' z=>z)
theorem tv_cmp {l r op pos}{a b:AV}{rv:Rv}{c₃:St}(hl:TV X (eval l X.f.env) c (.ok a) c₁)(hr:TV X (eval r X.f.env) c₁ (.ok b) c₂)(h:Op2 X (compareOp op) a b c₂ rv c₃)(hm:behindInMarks op r=false):
  TV X (eval (.Compare l [op] [r] pos) X.f.env) c rv c₃:=λA ρ G s rm fo i=>by
 refine wpAny_Compare1 (wp_then hl rm fo i λva s₁ ρ₁ G₁ p₁ q₁ i₁ r₁=>wp_then hr rm fo i₁ λvb s₂ ρ₂ G₂ p₂ q₂ i₂ r₂=>?_) hm
 exact wpAny_mono (h A ρ₂ G₂ s₂ va vb rm fo i₂ (r₁.mono p₂ q₂) r₂) (λv s'=>QV.up (p₁.trans p₂) (q₁.trans q₂)) λx s'=>QX.up (q₁.trans q₂)
theorem tv_cmp_l {l r op pos C ks d}(hl:TV X (eval l X.f.env) c (.ex C ks d) c₁)(hm:behindInMarks op r=false):TV X (eval (.Compare l [op] [r] pos) X.f.env) c (.ex C ks d) c₁:=λA ρ G s rm fo i=>
 wpAny_Compare1 (wp_ex hl rm fo i λx s' z=>z) hm
theorem tv_cmp_r {l r op pos C ks d}{a:AV}(hl:TV X (eval l X.f.env) c (.ok a) c₁)(hr:TV X (eval r X.f.env) c₁ (.ex C ks d) c₂)(hm:behindInMarks op r=false):TV X (eval (.Compare l [op] [r] pos) X.f.env) c (.ex C ks d) c₂:=λA ρ G s rm fo i=>
 wpAny_Compare1 (wp_then hl rm fo i λva s₁ ρ₁ G₁ p₁ q₁ i₁ r₁=>wp_ex hr rm fo i₁ λx s' z=>Fly.sub q₁ z) hm
theorem tv_ifexp {t b o pos}{bb:Bool}{rv:Rv}(ht:TB X (isTrue t X.f.env (eval t X.f.env)) c (.ok bb) c₁)(h:TV X (eval (if bb then b else o) X.f.env) c₁ rv c₂):TV X (eval (.IfExp t b o pos) X.f.env) c rv c₂:=λA ρ G s rm fo i=>by
 refine wpAny_IfExp (wpb_then ht rm fo i λs₁ ρ₁ G₁ p₁ q₁ i₁=>?_)
 have:=wpAny_mono (h A ρ₁ G₁ s₁ rm fo i₁) (λv s'=>QV.up p₁ q₁) λx s'=>QX.up q₁
 cases bb<;>exact this
theorem tv_ifexp_x {t b o pos C ks d}(ht:TB X (isTrue t X.f.env (eval t X.f.env)) c (.ex C ks d) c₁):TV X (eval (.IfExp t b o pos) X.f.env) c (.ex C ks d) c₁:=λA ρ G s rm fo i=>
 wpAny_IfExp (wpb_ex ht rm fo i λx s' z=>z)
theorem tvs_nil {env:Env}{pos}:TVs X (spliced (backTo pos (starEach [] env))) c (.ok []) c:=λA ρ G s rm fo i=>wpAny_items_nil ⟨ρ,G,PreA.refl _,Sub.refl _,i,trivial⟩
noncomputable def notStar:Expr->Bool
 | .Starred .. =>false
 |_=>true
theorem star_cons {e:Expr}{rest:List Expr}{env:Env}(h:notStar e=true):starEach (e::rest) env=(false,eval e env)::starEach rest env:=by
 cases e<;>first|rfl|cases h
theorem tvs_cons {env:Env}{e rest pos}{a:AV}{as:List AV}(hs:notStar e=true)(he:TV X (eval e env) c (.ok a) c₁)(hr:TVs X (spliced (backTo pos (starEach rest env))) c₁ (.ok as) c₂):
  TVs X (spliced (backTo pos (starEach (e::rest) env))) c (.ok (a::as)) c₂:=λA ρ G s rm fo i=>
 wpAny_items_cons (wp_then he rm fo i λva s₁ ρ₁ G₁ p₁ q₁ i₁ r₁=>wps_then hr rm fo i₁ λvs s₂ ρ₂ G₂ p₂ q₂ i₂ r₂=>⟨ρ₂,G₂,p₁.trans p₂,q₁.trans q₂,i₂,r₁.mono p₂ q₂,r₂⟩) (star_cons hs)
theorem tvs_cons_x {e rest pos C ks d}(hs:notStar e=true)(he:TV X (eval e X.f.env) c (.ex C ks d) c₁):TVs X (spliced (backTo pos (starEach (e::rest) X.f.env))) c (.ex C ks d) c₁:=λA ρ G s rm fo i=>
 wpAny_items_cons (wp_ex he rm fo i λx s' z=>z) (star_cons hs)
theorem tvs_cons_y {e rest pos C ks d}{a:AV}(hs:notStar e=true)(he:TV X (eval e X.f.env) c (.ok a) c₁)(hr:TVs X (spliced (backTo pos (starEach rest X.f.env))) c₁ (.ex C ks d) c₂):
  TVs X (spliced (backTo pos (starEach (e::rest) X.f.env))) c (.ex C ks d) c₂:=λA ρ G s rm fo i=>
 wpAny_items_cons (wp_then he rm fo i λva s₁ ρ₁ G₁ p₁ q₁ i₁ r₁=>wps_ex hr rm fo i₁ λx s' z=>Fly.sub q₁ z) (star_cons hs)
end
section
variable {X:Cx}{c c₁ c₂ c₃:St}
def OpB (X:Cx)(a:AV)(c:St)(r:Rb)(c':St):Prop:=
 ∀ (A:Around) (ρ:List Addr) (G:Gh) (s:Shared) (va:Value),Rm A X.n (X.f.env::X.e.outer)->FrOK X.e.H X.e.ρ X.e.G X.e.outer->In X.B X.f X.e c ρ G s->RepV ρ G a va->
  wpAny (model X.prog X.w) A (truthy va) (QB X.B X.f X.e ρ G r c') (QXb X.B X.f X.e G r) s
theorem opb_bool {b:Bool}:OpB X (.bool b) c (.ok b) c:=λA ρ G s va _ _ i r=>by
 cases r;exact wpAny_truthy_bool ⟨rfl,ρ,G,PreA.refl _,Sub.refl _,i⟩
noncomputable def byValue:Expr->Bool
 | .UnaryOp .Not _ _=>false
 | .BoolOp .. =>false
 | .IfExp .. =>false
 | .Compare .. =>false
 |_=>true
theorem isTrue_byValue {e:Expr}{env:Env}{whole:Sem Value}(h:byValue e=true):isTrue e env whole=(do let v<-whole;standAt e.pos;holding [v] (truthy v)):=by
 cases e<;>first|rfl|cases h|skip
 rename_i op x p
 cases op<;>first|rfl|cases h
theorem tb_value {e:Expr}{a:AV}{rb:Rb}(hv:byValue e=true)(h:TV X (eval e X.f.env) c (.ok a) c₁)(ht:OpB X a c₁ rb c₂):TB X (isTrue e X.f.env (eval e X.f.env)) c rb c₂:=λA ρ G s rm fo i=>
 wpAny_isTrue_value (wp_then h rm fo i λva s₁ ρ₁ G₁ p₁ q₁ i₁ r₁=>wpAny_mono (ht A ρ₁ G₁ s₁ va rm fo i₁ r₁) (λv s'=>QB.up p₁ q₁) λx s'=>QXb.up q₁) (isTrue_byValue hv)
theorem tb_value_x {e:Expr}{C ks d}(hv:byValue e=true)(h:TV X (eval e X.f.env) c (.ex C ks d) c₁):TB X (isTrue e X.f.env (eval e X.f.env)) c (.ex C ks d) c₁:=λA ρ G s rm fo i=>
 wpAny_isTrue_value (wp_ex h rm fo i λx s' z=>z) (isTrue_byValue hv)
theorem tb_not {x pos}{b:Bool}(h:TB X (isTrue x X.f.env (eval x X.f.env)) c (.ok b) c₁):TB X (isTrue (.UnaryOp .Not x pos) X.f.env (eval (.UnaryOp .Not x pos) X.f.env)) c (.ok (!b)) c₁:=λA ρ G s rm fo i=>
 wpAny_isTrue_Not (wpb_then h rm fo i λs₁ ρ₁ G₁ p₁ q₁ i₁=>⟨rfl,ρ₁,G₁,p₁,q₁,i₁⟩)
theorem tb_not_x {x pos C ks d}(h:TB X (isTrue x X.f.env (eval x X.f.env)) c (.ex C ks d) c₁):TB X (isTrue (.UnaryOp .Not x pos) X.f.env (eval (.UnaryOp .Not x pos) X.f.env)) c (.ex C ks d) c₁:=λA ρ G s rm fo i=>
 wpAny_isTrue_Not (wpb_ex h rm fo i λx s' z=>z)
theorem tb_cmp {l r op pos}{a b:AV}{t:Bool}(hl:TV X (eval l X.f.env) c (.ok a) c₁)(hr:TV X (eval r X.f.env) c₁ (.ok b) c₂)(h:Op2 X (compareOp op) a b c₂ (.ok (.bool t)) c₃)(hm:behindInMarks op r=false):
  TB X (isTrue (.Compare l [op] [r] pos) X.f.env (eval (.Compare l [op] [r] pos) X.f.env)) c (.ok t) c₃:=λA ρ G s rm fo i=>by
 refine wpAny_isTrue_Compare1 (wp_then hl rm fo i λva s₁ ρ₁ G₁ p₁ q₁ i₁ r₁=>wp_then hr rm fo i₁ λvb s₂ ρ₂ G₂ p₂ q₂ i₂ r₂=>?_) hm
 refine wpAny_mono (h A ρ₂ G₂ s₂ va vb rm fo i₂ (r₁.mono p₂ q₂) r₂) (λv s' z=>?_) λx s' z=>z.elim
 obtain⟨ρ₃,G₃,p₃,q₃,i₃,r₃⟩:=z
 cases r₃
 exact wpAny_truthy_bool ⟨rfl,ρ₃,G₃,(p₁.trans p₂).trans p₃,(q₁.trans q₂).trans q₃,i₃⟩
theorem tb_cmp_l {l r op pos C ks d}(hl:TV X (eval l X.f.env) c (.ex C ks d) c₁)(hm:behindInMarks op r=false):TB X (isTrue (.Compare l [op] [r] pos) X.f.env (eval (.Compare l [op] [r] pos) X.f.env)) c (.ex C ks d) c₁:=λA ρ G s rm fo i=>
 wpAny_isTrue_Compare1 (wp_ex hl rm fo i λx s' z=>z) hm
theorem tb_cmp_r {l r op pos C ks d}{a:AV}(hl:TV X (eval l X.f.env) c (.ok a) c₁)(hr:TV X (eval r X.f.env) c₁ (.ex C ks d) c₂)(hm:behindInMarks op r=false):TB X (isTrue (.Compare l [op] [r] pos) X.f.env (eval (.Compare l [op] [r] pos) X.f.env)) c (.ex C ks d) c₂:=λA ρ G s rm fo i=>
 wpAny_isTrue_Compare1 (wp_then hl rm fo i λva s₁ ρ₁ G₁ p₁ q₁ i₁ r₁=>wp_ex hr rm fo i₁ λx s' z=>Fly.sub q₁ z) hm
theorem tb_ifexp {t b o pos}{bb:Bool}{rb:Rb}(ht:TB X (isTrue t X.f.env (eval t X.f.env)) c (.ok bb) c₁)(h:TB X (isTrue (if bb then b else o) X.f.env (eval (if bb then b else o) X.f.env)) c₁ rb c₂):
  TB X (isTrue (.IfExp t b o pos) X.f.env (eval (.IfExp t b o pos) X.f.env)) c rb c₂:=λA ρ G s rm fo i=>by
 show wpAny _ _ (do if<-isTrue t X.f.env (eval t X.f.env)then isTrue b X.f.env (eval b X.f.env)else isTrue o X.f.env (eval o X.f.env)) _ _ _
 refine wpAny_bind (wpb_then ht rm fo i λs₁ ρ₁ G₁ p₁ q₁ i₁=>?_)
 have:=wpAny_mono (h A ρ₁ G₁ s₁ rm fo i₁) (λv s'=>QB.up p₁ q₁) λx s'=>QXb.up q₁
 cases bb<;>exact this
def TAll (X:Cx)(op:BoolOp)(l:List Expr)(c:St)(r:Rb)(c':St):Prop:=TB X (allTrue op l X.f.env) c r c'
theorem tall_nil {op}:TAll X op [] c (.ok (match op with| .And=>true| .Or=>false)) c:=λA ρ G s rm fo i=>by
 cases op
 ·exact wpAny_allTrue_And_nil ⟨rfl,ρ,G,PreA.refl _,Sub.refl _,i⟩
 ·exact wpAny_allTrue_Or_nil ⟨rfl,ρ,G,PreA.refl _,Sub.refl _,i⟩
theorem tall_and {x rest}{rb:Rb}(h:TB X (isTrue x X.f.env (eval x X.f.env)) c (.ok true) c₁)(hr:TAll X .And rest c₁ rb c₂):TAll X .And (x::rest) c rb c₂:=λA ρ G s rm fo i=>
 wpAny_allTrue_And_cons (wpb_then h rm fo i λs₁ ρ₁ G₁ p₁ q₁ i₁=>wpAny_mono (hr A ρ₁ G₁ s₁ rm fo i₁) (λv s'=>QB.up p₁ q₁) λx s'=>QXb.up q₁)
theorem tall_and_no {x rest}(h:TB X (isTrue x X.f.env (eval x X.f.env)) c (.ok false) c₁):TAll X .And (x::rest) c (.ok false) c₁:=λA ρ G s rm fo i=>
 wpAny_allTrue_And_cons (wpb_then h rm fo i λs₁ ρ₁ G₁ p₁ q₁ i₁=>⟨rfl,ρ₁,G₁,p₁,q₁,i₁⟩)
theorem tall_or {x rest}{rb:Rb}(h:TB X (isTrue x X.f.env (eval x X.f.env)) c (.ok false) c₁)(hr:TAll X .Or rest c₁ rb c₂):TAll X .Or (x::rest) c rb c₂:=λA ρ G s rm fo i=>
 wpAny_allTrue_Or_cons (wpb_then h rm fo i λs₁ ρ₁ G₁ p₁ q₁ i₁=>wpAny_mono (hr A ρ₁ G₁ s₁ rm fo i₁) (λv s'=>QB.up p₁ q₁) λx s'=>QXb.up q₁)
theorem tall_or_yes {x rest}(h:TB X (isTrue x X.f.env (eval x X.f.env)) c (.ok true) c₁):TAll X .Or (x::rest) c (.ok true) c₁:=λA ρ G s rm fo i=>
 wpAny_allTrue_Or_cons (wpb_then h rm fo i λs₁ ρ₁ G₁ p₁ q₁ i₁=>⟨rfl,ρ₁,G₁,p₁,q₁,i₁⟩)
theorem tall_x {op x rest C ks d}(h:TB X (isTrue x X.f.env (eval x X.f.env)) c (.ex C ks d) c₁):TAll X op (x::rest) c (.ex C ks d) c₁:=λA ρ G s rm fo i=>by
 cases op
 ·exact wpAny_allTrue_And_cons (wpb_ex h rm fo i λx s' z=>z)
 ·exact wpAny_allTrue_Or_cons (wpb_ex h rm fo i λx s' z=>z)
theorem tb_bool {op l pos}{rb:Rb}(h:TAll X op l c rb c₁):TB X (isTrue (.BoolOp op l pos) X.f.env (eval (.BoolOp op l pos) X.f.env)) c rb c₁:=λA ρ G s rm fo i=>wpAny_isTrue_BoolOp (h A ρ G s rm fo i)
def TBo (X:Cx)(pos:Pos)(op:BoolOp)(l:List Expr)(c:St)(r:Rv)(c':St):Prop:=TV X (boolOp pos op (evalEach l X.f.env)) c r c'
theorem tbo_one {pos op x}{rv:Rv}(h:TV X (eval x X.f.env) c rv c₁):TBo X pos op [x] c rv c₁:=h
set_option backward.match.sparseCases true in
theorem boolOp_two (pos:Pos)(op:BoolOp)(x y:Expr)(rest:List Expr)(env:Env):boolOp pos op (evalEach (x::y::rest) env)=(do
  let v<-eval x env
  standAt pos
  let t<-holding [v] (truthy v)
  match op,t with
  | .And,false| .Or,true=>pure v
  |_,_=>boolOp pos op (evalEach (y::rest) env)):=rfl
theorem tbo_go {pos op x y rest}{a:AV}{rv:Rv}(h:TV X (eval x X.f.env) c (.ok a) c₁)(ht:OpB X a c₁ (.ok (match op with| .And=>true| .Or=>false)) c₂)(hr:TBo X pos op (y::rest) c₂ rv c₃):TBo X pos op (x::y::rest) c rv c₃:=λA ρ G s rm fo i=>by
 rw[boolOp_two]
 refine wpAny_bind (wp_then h rm fo i λva s₁ ρ₁ G₁ p₁ q₁ i₁ r₁=>wpAny_bind (wpAny_standAt (wpAny_bind (wpAny_holding (wpAny_mono (ht A ρ₁ G₁ s₁ va rm fo i₁ r₁) (λb s' z=>?_) λ_ _ z=>z.elim)))))
 obtain⟨rfl,ρ₂,G₂,p₂,q₂,i₂⟩:=z
 have:=wpAny_mono (hr A ρ₂ G₂ s' rm fo i₂) (λv s'=>QV.up (p₁.trans p₂) (q₁.trans q₂)) λx s'=>QX.up (q₁.trans q₂)
 cases op<;>exact this
theorem tbo_end {pos op x y rest}{a:AV}(h:TV X (eval x X.f.env) c (.ok a) c₁)(ht:OpB X a c₁ (.ok (match op with| .And=>false| .Or=>true)) c₂):TBo X pos op (x::y::rest) c (.ok a) c₂:=λA ρ G s rm fo i=>by
 rw[boolOp_two]
 refine wpAny_bind (wp_then h rm fo i λva s₁ ρ₁ G₁ p₁ q₁ i₁ r₁=>wpAny_bind (wpAny_standAt (wpAny_bind (wpAny_holding (wpAny_mono (ht A ρ₁ G₁ s₁ va rm fo i₁ r₁) (λb s' z=>?_) λ_ _ z=>z.elim)))))
 obtain⟨rfl,ρ₂,G₂,p₂,q₂,i₂⟩:=z
 cases op<;>exact wpAny_pure ⟨ρ₂,G₂,p₁.trans p₂,q₁.trans q₂,i₂,r₁.mono p₂ q₂⟩
theorem tbo_x {pos op x y rest C ks d}(h:TV X (eval x X.f.env) c (.ex C ks d) c₁):TBo X pos op (x::y::rest) c (.ex C ks d) c₁:=λA ρ G s rm fo i=>by
 rw[boolOp_two]
 exact wpAny_bind (wp_ex h rm fo i λx s' z=>z)
theorem tv_boolop {pos op l}{rv:Rv}(h:TBo X pos op l c rv c₁):TV X (eval (.BoolOp op l pos) X.f.env) c rv c₁:=h
theorem chain2 (pos:Pos)(a:Value)(o₁ o₂:CmpOp)(r₁ r₂:Sem Value):compareChain pos a [o₁,o₂] [r₁,r₂]=(do
  let rv<-holding [a] r₁
  standAt pos
  let c<-holding [a,rv] (compareOp o₁ a rv)
  release [a,rv] [c]
  if<-holding [c,rv] (truthy c)then(do
   let rw<-holding [rv] r₂
   standAt pos
   operate [rv,rw] (compareOp o₂ rv rw))else pure c):=rfl
theorem tchain2 (pos:Pos)(a:Value)(o₁ o₂:CmpOp)(r₁ r₂:Sem Value):testChain pos a [o₁,o₂] [r₁,r₂]=(do
  let rv<-holding [a] r₁
  standAt pos
  let c<-holding [a,rv] (compareOp o₁ a rv)
  release [a,rv] [c]
  if<-holding [c,rv] (truthy c)then(do
   let rw<-holding [rv] r₂
   standAt pos
   let c<-operate [rv,rw] (compareOp o₂ rv rw)
   holding [c] (truthy c))else pure false):=rfl
theorem tv_chain2 {l o₁ o₂ x y pos}{a b d:AV}{t₁:Bool}{t₂:Bool}{c₄ c₅:St}(hl:TV X (eval l X.f.env) c (.ok a) c₁)(hx:TV X (eval x X.f.env) c₁ (.ok b) c₂)(h₁:Op2 X (compareOp o₁) a b c₂ (.ok (.bool t₁)) c₃)
  (h₂:t₁=true->TV X (eval y X.f.env) c₃ (.ok d) c₄/\Op2 X (compareOp o₂) b d c₄ (.ok (.bool t₂)) c₅) (hn:t₁=false->c₅=c₃) (hm:lastMarks [o₁,o₂] [x,y]=false):
  TV X (eval (.Compare l [o₁,o₂] [x,y] pos) X.f.env) c (.ok (.bool (t₁&&t₂))) c₅:=λA ρ G s rm fo i=>by
 refine Compare_chain (wp_then hl rm fo i λva s₁ ρ₁ G₁ p₁ q₁ i₁ r₁=>?_) hm
 show wpAny _ _ (compareChain pos va [o₁,o₂] [eval x X.f.env,eval y X.f.env]) _ _ _
 rw[chain2]
 refine wpAny_bind (wpAny_holding (wp_then hx rm fo i₁ λvb s₂ ρ₂ G₂ p₂ q₂ i₂ r₂=>?_))
 refine wpAny_bind (wpAny_standAt (wpAny_bind (wpAny_holding (wpAny_mono (h₁ A ρ₂ G₂ s₂ va vb rm fo i₂ (r₁.mono p₂ q₂) r₂) (λv s' z=>?_) λ_ _ z=>z.elim))))
 obtain⟨ρ₃,G₃,p₃,q₃,i₃,r₃⟩:=z
 cases r₃
 refine wpAny_bind (wpAny_release' (wpAny_bind (wpAny_holding (wpAny_truthy_bool ?_))))
 cases t₁ with
 |false=>
  rw[hn rfl]
  exact wpAny_pure ⟨ρ₃,G₃,(p₁.trans p₂).trans p₃,(q₁.trans q₂).trans q₃,i₃,rfl⟩
 |true=>
  obtain⟨ha,hb⟩:=h₂ rfl
  refine wpAny_bind (wpAny_holding (wp_then ha rm fo i₃ λvd s₄ ρ₄ G₄ p₄ q₄ i₄ r₄=>wpAny_bind (wpAny_standAt (wpAny_operate' ?_))))
  exact wpAny_mono (hb A ρ₄ G₄ s₄ vb vd rm fo i₄ (r₂.mono (p₃.trans p₄) (q₃.trans q₄)) r₄) (λv s'=>QV.up (((p₁.trans p₂).trans p₃).trans p₄) (((q₁.trans q₂).trans q₃).trans q₄)) λ_ _ z=>z.elim
theorem tb_chain2 {l o₁ o₂ x y pos}{a b d:AV}{t₁:Bool}{t₂:Bool}{c₄ c₅:St}(hl:TV X (eval l X.f.env) c (.ok a) c₁)(hx:TV X (eval x X.f.env) c₁ (.ok b) c₂)(h₁:Op2 X (compareOp o₁) a b c₂ (.ok (.bool t₁)) c₃)
  (h₂:t₁=true->TV X (eval y X.f.env) c₃ (.ok d) c₄/\Op2 X (compareOp o₂) b d c₄ (.ok (.bool t₂)) c₅) (hn:t₁=false->c₅=c₃) (hm:lastMarks [o₁,o₂] [x,y]=false):
  TB X (isTrue (.Compare l [o₁,o₂] [x,y] pos) X.f.env (eval (.Compare l [o₁,o₂] [x,y] pos) X.f.env)) c (.ok (t₁&&t₂)) c₅:=λA ρ G s rm fo i=>by
 refine isTrue_chain (wp_then hl rm fo i λva s₁ ρ₁ G₁ p₁ q₁ i₁ r₁=>?_) hm
 show wpAny _ _ (testChain pos va [o₁,o₂] [eval x X.f.env,eval y X.f.env]) _ _ _
 rw[tchain2]
 refine wpAny_bind (wpAny_holding (wp_then hx rm fo i₁ λvb s₂ ρ₂ G₂ p₂ q₂ i₂ r₂=>?_))
 refine wpAny_bind (wpAny_standAt (wpAny_bind (wpAny_holding (wpAny_mono (h₁ A ρ₂ G₂ s₂ va vb rm fo i₂ (r₁.mono p₂ q₂) r₂) (λv s' z=>?_) λ_ _ z=>z.elim))))
 obtain⟨ρ₃,G₃,p₃,q₃,i₃,r₃⟩:=z
 cases r₃
 refine wpAny_bind (wpAny_release' (wpAny_bind (wpAny_holding (wpAny_truthy_bool ?_))))
 cases t₁ with
 |false=>
  rw[hn rfl]
  exact wpAny_pure ⟨rfl,ρ₃,G₃,(p₁.trans p₂).trans p₃,(q₁.trans q₂).trans q₃,i₃⟩
 |true=>
  obtain⟨ha,hb⟩:=h₂ rfl
  refine wpAny_bind (wpAny_holding (wp_then ha rm fo i₃ λvd s₄ ρ₄ G₄ p₄ q₄ i₄ r₄=>wpAny_bind (wpAny_standAt (wpAny_bind (wpAny_operate' ?_)))))
  refine wpAny_mono (hb A ρ₄ G₄ s₄ vb vd rm fo i₄ (r₂.mono (p₃.trans p₄) (q₃.trans q₄)) r₄) (λv s' z=>?_) λ_ _ z=>z.elim
  obtain⟨ρ₅,G₅,p₅,q₅,i₅,r₅⟩:=z
  cases r₅
  exact wpAny_holding (wpAny_truthy_bool ⟨rfl,ρ₅,G₅,(((p₁.trans p₂).trans p₃).trans p₄).trans p₅,(((q₁.trans q₂).trans q₃).trans q₄).trans q₅,i₅⟩)
end
section
variable {X:Cx}{c c₁ c₂ c₃:St}
noncomputable def isFun (f:Fm):Bool:=f.cs.kind==.function
noncomputable def isLocal (f:Fm)(x:Str):Bool:=f.env.kindOf x==some .local
theorem isFun_eq {f:Fm}(h:isFun f=true):f.cs.kind=.function:=by
 unfold isFun at h
 cases q:f.cs.kind<;>first|rfl| (rw[q]at h;exact absurd h (by decide))
theorem isLocal_eq {f:Fm}{x:Str}(h:isLocal f x=true):f.env.kindOf x=some .local:=by
 unfold isLocal at h
 cases q:f.env.kindOf x with
 |none=>rw[q]at h;exact absurd h (by decide)
 |some k=>rw[q]at h;cases k<;>first|rfl|exact absurd h (by decide)
theorem wp_store {A:Around}{ρ:List Addr}{G:Gh}{s:Shared}{x:Str}{v:Value}{av:AV}{Q:Unit->Shared->Prop}{E:Value->Shared->Prop}(hk:isFun X.f=true)(hl:isLocal X.f x=true)(i:In X.B X.f X.e c ρ G s)(r:RepV ρ G av v)
  (k:∀s',In X.B X.f X.e ⟨put c.loc x av,c.obj⟩ ρ G s'->Q () s'):wpAny (model X.prog X.w) A (storeName X.f.env x v) Q E s:=by
 obtain⟨m,n1,n2⟩:=i.f.ns
 refine wpAny_storeName_local (isLocal_eq hl) n1 (λh' hn hs=>?_) (by show(X.f.cs.kind==.class|| (X.f.cs.kind==.module&&X.f.L !=mainGlobals))=false;rw[isFun_eq hk];rfl)
 exact k _ (i.store (λb o nb q=>(hs.2 b nb).trans q) n1 hn r (isLocal_eq hl) rfl rfl)
theorem tf_nil:TF X (execs [] X.f.env) c .next c:=λA ρ G s rm fo i=>wpAny_execs_nil ⟨ρ,G,PreA.refl _,Sub.refl _,i⟩
theorem tf_cons {st rest}{fl:Fl}(h:TF X (exec st X.f.env) c .next c₁)(hr:TF X (execs rest X.f.env) c₁ fl c₂):TF X (execs (st::rest) X.f.env) c fl c₂:=λA ρ G s rm fo i=>
 wpAny_execs_cons (wpAny_mono (h A ρ G s rm fo i) (λf s' z=>by
  cases f<;>first|exact z.elim|skip
  obtain⟨ρ',G',p,q,i'⟩:=z
  exact wpAny_mono (hr A ρ' G' s' rm fo i') (λv s'=>QF.up p q) λx s'=>QXf.up q) λ_ _ z=>z.elim)
theorem tf_cons_ret {st rest}{a:AV}(h:TF X (exec st X.f.env) c (.ret a) c₁):TF X (execs (st::rest) X.f.env) c (.ret a) c₁:=λA ρ G s rm fo i=>
 wpAny_execs_cons (wpAny_mono (h A ρ G s rm fo i) (λf s' z=>by
  cases f<;>first|exact z.elim|exact z) λ_ _ z=>z.elim)
theorem tf_cons_x {st rest C ks d}(h:TF X (exec st X.f.env) c (.ex C ks d) c₁):TF X (execs (st::rest) X.f.env) c (.ex C ks d) c₁:=λA ρ G s rm fo i=>
 wpAny_execs_cons (wpAny_mono (h A ρ G s rm fo i) (λf s' z=>by cases f<;>exact z.elim) λ_ _ z=>z)
theorem tf_if {t b o pos}{bb:Bool}{fl:Fl}(ht:TB X (isTrue t X.f.env (eval t X.f.env)) c (.ok bb) c₁)(h:TF X (execs (if bb then b else o) X.f.env) c₁ fl c₂):TF X (exec (.If t b o pos) X.f.env) c fl c₂:=λA ρ G s rm fo i=>by
 refine wpAny_If (wpb_then ht rm fo i λs₁ ρ₁ G₁ p₁ q₁ i₁=>?_)
 have:=wpAny_mono (h A ρ₁ G₁ s₁ rm fo i₁) (λv s'=>QF.up p₁ q₁) λx s'=>QXf.up q₁
 cases bb<;>exact this
theorem tf_if_x {t b o pos C ks d}(ht:TB X (isTrue t X.f.env (eval t X.f.env)) c (.ex C ks d) c₁):TF X (exec (.If t b o pos) X.f.env) c (.ex C ks d) c₁:=λA ρ G s rm fo i=>
 wpAny_If (wpb_ex ht rm fo i λx s' z=>z)
theorem tf_ret {e pos}{a:AV}(h:TV X (eval e X.f.env) c (.ok a) c₁):TF X (exec (.Return (some e) pos) X.f.env) c (.ret a) c₁:=λA ρ G s rm fo i=>
 wpAny_Return_some (wp_then h rm fo i λv s₁ ρ₁ G₁ p₁ q₁ i₁ r₁=>⟨ρ₁,G₁,p₁,q₁,i₁,r₁⟩)
theorem tf_ret_x {e pos C ks d}(h:TV X (eval e X.f.env) c (.ex C ks d) c₁):TF X (exec (.Return (some e) pos) X.f.env) c (.ex C ks d) c₁:=λA ρ G s rm fo i=>
 wpAny_Return_some (wp_ex h rm fo i λx s' z=>z)
theorem tf_ret0 {pos}:TF X (exec (.Return none pos) X.f.env) c (.ret .none) c:=λA ρ G s rm fo i=>wpAny_Return_none ⟨ρ,G,PreA.refl _,Sub.refl _,i,rfl⟩
noncomputable def saysNo (t:Sem Bool):Bool:=match pureOf t with
 |some b=> !b
 |none=>false
theorem saysNo_eq {t:Sem Bool}(h:saysNo t=true):t=pure false:=by
 unfold saysNo at h
 split at h
 ·rename_i b q
  cases b with
  |false=>exact of_pureOf q
  |true=>cases h
 ·cases h
theorem inter_no {f:Fm}(hk:isFun f=true):interactive f.env=false:=by
 show(f.cs.kind==.module&&_)=false
 rw[isFun_eq hk];rfl
theorem tf_expr {e pos}{a:AV}(hk:isFun X.f=true)(hs:saysNo (swapsWith e none pos.line X.f.env)=true)(h:TV X (eval e X.f.env) c (.ok a) c₁):TF X (exec (.Expr e pos) X.f.env) c .next c₁:=λA ρ G s rm fo i=>
 wpAny_Expr_any (wp_then h rm fo i λv s₁ ρ₁ G₁ p₁ q₁ i₁ r₁=>⟨ρ₁,G₁,p₁,q₁,i₁⟩) (inter_no hk) (saysNo_eq hs)
theorem tf_expr_x {e pos C ks d}(hk:isFun X.f=true)(hs:saysNo (swapsWith e none pos.line X.f.env)=true)(h:TV X (eval e X.f.env) c (.ex C ks d) c₁):TF X (exec (.Expr e pos) X.f.env) c (.ex C ks d) c₁:=λA ρ G s rm fo i=>
 wpAny_Expr_any (wp_ex h rm fo i λx s' z=>z) (inter_no hk) (saysNo_eq hs)
theorem tf_assign {x pos' value pos}{a:AV}(hk:isFun X.f=true)(hl:isLocal X.f x=true)(hs:saysNo (swapsWith value (some (.Name x pos')) pos.line X.f.env)=true)(h:TV X (eval value X.f.env) c (.ok a) c₁):
  TF X (exec (.Assign [.Name x pos'] value pos) X.f.env) c .next ⟨put c₁.loc x a,c₁.obj⟩:=λA ρ G s rm fo i=>
 wpAny_Assign_Name (wp_then h rm fo i λv s₁ ρ₁ G₁ p₁ q₁ i₁ r₁=>wp_store hk hl i₁ r₁ λs' i'=>⟨ρ₁,G₁,p₁,q₁,i'⟩) (saysNo_eq hs)
theorem tf_assign_x {x pos' value pos C ks d}(hs:saysNo (swapsWith value (some (.Name x pos')) pos.line X.f.env)=true)(h:TV X (eval value X.f.env) c (.ex C ks d) c₁):
  TF X (exec (.Assign [.Name x pos'] value pos) X.f.env) c (.ex C ks d) c₁:=λA ρ G s rm fo i=>
 wpAny_Assign_Name (wp_ex h rm fo i λx s' z=>z) (saysNo_eq hs)
def Set2 (X:Cx)(attr:Str)(o v:AV)(c:St)(c':St):Prop:=
 ∀ (A:Around) (ρ:List Addr) (G:Gh) (s:Shared) (vo vv:Value),Rm A X.n (X.f.env::X.e.outer)->FrOK X.e.H X.e.ρ X.e.G X.e.outer->In X.B X.f X.e c ρ G s->RepV ρ G o vo->RepV ρ G v vv->
  wpAny (model X.prog X.w) A (setAttr vo attr vv) (λ_ s'=>Aft0 X.B X.f X.e ρ G c' s') (λ_ _=>False) s
theorem tf_setattr {o attr pos' value pos}{a b:AV}(hs:saysNo (swapsWith value (some (.Attribute o attr pos')) pos.line X.f.env)=true)(hv:TV X (eval value X.f.env) c (.ok a) c₁)(ho:TV X (eval o X.f.env) c₁ (.ok b) c₂)(h:Set2 X attr b a c₂ c₃):
  TF X (exec (.Assign [.Attribute o attr pos'] value pos) X.f.env) c .next c₃:=λA ρ G s rm fo i=>by
 refine plainObj_wpAny_Assign_Attribute (wp_then hv rm fo i λva s₁ ρ₁ G₁ p₁ q₁ i₁ r₁=>wp_then ho rm fo i₁ λvb s₂ ρ₂ G₂ p₂ q₂ i₂ r₂=>?_) (saysNo_eq hs)
 refine wpAny_mono (h A ρ₂ G₂ s₂ vb va rm fo i₂ r₂ (r₁.mono p₂ q₂)) (λ_ s' z=>?_) λ_ _ z=>z.elim
 obtain⟨ρ₃,G₃,p₃,q₃,i₃⟩:=z
 exact⟨ρ₃,G₃,(p₁.trans p₂).trans p₃,(q₁.trans q₂).trans q₃,i₃⟩
theorem tf_setattr_x {o attr pos' value pos C ks d}(hs:saysNo (swapsWith value (some (.Attribute o attr pos')) pos.line X.f.env)=true)(hv:TV X (eval value X.f.env) c (.ex C ks d) c₁):
  TF X (exec (.Assign [.Attribute o attr pos'] value pos) X.f.env) c (.ex C ks d) c₁:=λA ρ G s rm fo i=>
 plainObj_wpAny_Assign_Attribute (wp_ex hv rm fo i λx s' z=>z) (saysNo_eq hs)
def Set3 (X:Cx)(o k v:AV)(c:St)(c':St):Prop:=
 ∀ (A:Around) (ρ:List Addr) (G:Gh) (s:Shared) (vo vk vv:Value),Rm A X.n (X.f.env::X.e.outer)->FrOK X.e.H X.e.ρ X.e.G X.e.outer->In X.B X.f X.e c ρ G s->RepV ρ G o vo->RepV ρ G k vk->RepV ρ G v vv->
  wpAny (model X.prog X.w) A (setItem vo vk vv) (λ_ s'=>Aft0 X.B X.f X.e ρ G c' s') (λ_ _=>False) s
theorem tf_setitem {o k pos' value pos}{a b d:AV}{c₄:St}(hs:saysNo (swapsWith value (some (.Subscript o k pos')) pos.line X.f.env)=true)(hv:TV X (eval value X.f.env) c (.ok a) c₁)(ho:TV X (eval o X.f.env) c₁ (.ok b) c₂)(hk:TV X (eval k X.f.env) c₂ (.ok d) c₃)(h:Set3 X b d a c₃ c₄):
  TF X (exec (.Assign [.Subscript o k pos'] value pos) X.f.env) c .next c₄:=λA ρ G s rm fo i=>by
 refine wpAny_Assign_Subscript (wp_then hv rm fo i λva s₁ ρ₁ G₁ p₁ q₁ i₁ r₁=>wp_then ho rm fo i₁ λvb s₂ ρ₂ G₂ p₂ q₂ i₂ r₂=>wp_then hk rm fo i₂ λvd s₃ ρ₃ G₃ p₃ q₃ i₃ r₃=>?_) (saysNo_eq hs)
 refine wpAny_mono (h A ρ₃ G₃ s₃ vb vd va rm fo i₃ (r₂.mono p₃ q₃) r₃ (r₁.mono (p₂.trans p₃) (q₂.trans q₃))) (λ_ s' z=>?_) λ_ _ z=>z.elim
 obtain⟨ρ₄,G₄,p₄,q₄,i₄⟩:=z
 exact⟨ρ₄,G₄,((p₁.trans p₂).trans p₃).trans p₄,((q₁.trans q₂).trans q₃).trans q₄,i₄⟩
noncomputable def namesOf:List Expr->Option (List Str)
 | []=>some []
 | .Name x _::r=>(namesOf r).map (x:: ·)
 |_::_=>none
noncomputable def putAll (loc:List (Str×AV)):List Str->List AV->List (Str×AV)
 |x::xs,a::as=>putAll (put loc x a) xs as
 |_,_=>loc
theorem each_of {env:Env}(es:List Expr):∀ {xs:List Str},namesOf es=some xs->(assignEach es env).length=es.length/\(assignEach es env).findIdx? (·.1)=none/\es.length=xs.length:=by
 induction es with
 |nil=>intro xs h;cases h;exact⟨rfl,rfl,rfl⟩
 |cons e r ih=>
  intro xs h
  cases e with
  |Name x p=>
   obtain⟨ys,hy,rfl⟩:=Option.map_eq_some_iff.mp (show(namesOf r).map (x:: ·)=some xs from h)
   obtain⟨a,b,d⟩:=ih hy
   have e:assignEach (.Name x p::r) env=(false,assign (.Name x p) env)::assignEach r env:=rfl
   refine⟨by rw[e,List.length_cons,a];rfl,?_,by simp[d]⟩
   rw[e,List.findIdx?_cons,b];rfl
  |_=>cases h
theorem wp_binds {A:Around}{G:Gh}{Q:Unit->Shared->Prop}{E:Value->Shared->Prop}{ρ:List Addr}(hk:isFun X.f=true){xs:List Str}:∀ {vs:List Value} {as:List AV} {s:Shared} {c:St},xs.all (isLocal X.f)=true->xs.length=as.length->
  In X.B X.f X.e c ρ G s->RepVs ρ G as vs->(∀s',In X.B X.f X.e ⟨putAll c.loc xs as,c.obj⟩ ρ G s'->Q () s')->wpAny (model X.prog X.w) A (assignInOrder (xs.map λn=>bindName X.f.env n) vs) Q E s:=by
 induction xs with
 |nil=>exact λ_ _ i _ k=>assignInOrder_nil (k _ i)
 |cons x rest ih=>
  intro vs as s c hl hlen i r k
  rw[List.all_cons,Bool.and_eq_true]at hl
  cases as with
  |nil=>cases hlen
  |cons a as=>
   obtain⟨v,vs,rfl,r1,r2⟩:=r.inv'
   exact assignInOrder_cons (wpAny_bindName (wp_store hk hl.1 i r1 λs' i'=>ih hl.2 (Nat.succ.inj hlen) i' r2 k))
theorem wp_names {A:Around}{G:Gh}{Q:Unit->Shared->Prop}{E:Value->Shared->Prop}{ρ:List Addr}(hk:isFun X.f=true)(es:List Expr):∀ {xs:List Str} {vs:List Value} {as:List AV} {s:Shared} {c:St},namesOf es=some xs->xs.all (isLocal X.f)=true->xs.length=as.length->
  In X.B X.f X.e c ρ G s->RepVs ρ G as vs->(∀s',In X.B X.f X.e ⟨putAll c.loc xs as,c.obj⟩ ρ G s'->Q () s')->wpAny (model X.prog X.w) A (assignInOrder ((assignEach es X.f.env).map (·.2)) vs) Q E s:=by
 induction es with
 |nil=>intro xs vs as s c h _ _ i r k;obtain rfl:=Option.some.inj h;exact assignInOrder_nil (k s i)
 |cons e rest ih=>
  intro xs vs as s c h hl hlen i r k
  cases e with
  |Name x p=>
   obtain⟨ys,hy,rfl⟩:=Option.map_eq_some_iff.mp (show(namesOf rest).map (x:: ·)=some xs from h)
   rw[List.all_cons,Bool.and_eq_true]at hl
   cases as with
   |nil=>cases hlen
   |cons a as=>
    obtain⟨v,vs,rfl,r1,r2⟩:=r.inv'
    exact assignInOrder_cons (t:=assign (.Name x p) X.f.env) (ts:=(assignEach rest X.f.env).map (·.2)) (wpAny_bind (wpAny_standAt (wpAny_bindName (wp_store hk hl.1 i r1 λs' i'=>ih hy hl.2 (Nat.succ.inj hlen) i' r2 k))))
  |_=>cases h
theorem RepVs.len {ρ:List Addr}{G:Gh}{as:List AV}{vs:List Value}(h:RepVs ρ G as vs):vs.length=as.length:=
 h.ind (P:=λas vs=>vs.length=as.length) rfl λ_ _ _ _ _ _ ih=>congrArg (· +1) ih
theorem RepVs.app {ρ:List Addr}{G:Gh}{as:List AV}{vs:List Value}{bs:List AV}{ws:List Value}(h:RepVs ρ G as vs)(q:RepVs ρ G bs ws):RepVs ρ G (as++bs) (vs++ws):=
 h.ind (P:=λas vs=>RepVs ρ G (as++bs) (vs++ws)) q λ_ _ _ _ r _ ih=>⟨r,ih⟩
theorem RepVs.rev {ρ:List Addr}{G:Gh}{as:List AV}{vs:List Value}(h:RepVs ρ G as vs):RepVs ρ G as.reverse vs.reverse:=
 h.ind (P:=λas vs=>RepVs ρ G as.reverse vs.reverse) trivial λa v as vs r _ ih=>by
  rw[List.reverse_cons,List.reverse_cons]
  exact RepVs.app ih ⟨r,trivial⟩
noncomputable def avD:D->AV
 | .none=>.none| .bool b=>.bool b| .int i=>.int i| .str s=>.str s|d=>.dat d
noncomputable def partsOfD (l:List D):List AV:=l.map avD
theorem avD_rep {ρ:List Addr}{G:Gh}{v:Value}{d:D}(r:RepD G v d):RepV ρ G (avD d) v:=by
 cases d with
 |none=>exact r.inv
 |bool=>exact r.inv
 |int=>exact r.inv
 |str=>exact r.inv
 |_=>exact r
theorem parts_rep {ρ:List Addr}{G:Gh}{l:List D}:∀ {vs:List Value},RepDs G vs l->RepVs ρ G (partsOfD l) vs:=by
 induction l with
 |nil=>exact λh=>h.inv0▸trivial
 |cons d l ih=>
  intro vs h
  obtain⟨v,r,rfl,h1,h2⟩:=h.inv
  exact⟨avD_rep h1,ih h2⟩
noncomputable def tupA:AO->Option (List AV)
 | .tup xs=>some xs
 |_=>none
theorem tupA_at {ao:AO}{xs:List AV}(h:tupA ao=some xs):ao=.tup xs:=by cases ao<;>first|exact congrArg _ (Option.some.inj h)|cases h
noncomputable def tupD:D->Option (List D)
 | .tup l=>some l
 |_=>none
theorem tupD_at {d:D}{l:List D}(h:tupD d=some l):d=.tup l:=by cases d<;>first|exact congrArg _ (Option.some.inj h)|cases h
noncomputable def tupleAt (c:St):AV->Option (List AV)
 | .dat d=>(tupD d).map partsOfD
 | .ref i=>c.obj[i]?.bind tupA
 |_=>none
theorem tuple_at {ρ:List Addr}{G:Gh}{s:Shared}{a:AV}{as:List AV}{v:Value}(h:tupleAt c a=some as)(i:In X.B X.f X.e c ρ G s)(r:RepV ρ G a v):∃t vs,v=.ref t/\IsTup s.heap t vs.toArray/\RepVs ρ G as vs:=by
 cases a with
 |dat d=>
  obtain⟨l,h1,rfl⟩:=Option.map_eq_some_iff.mp h
  rw[tupD_at h1]at r
  obtain⟨_,_,_,rfl,e,rs⟩:=RepD.inv r
  exact⟨_,_,rfl,⟨_,i.h.frz _ _ e,rfl,_,rfl⟩,parts_rep rs⟩
 |ref j=>
  obtain⟨ao,q,h1⟩:=Option.bind_eq_some_iff.mp h
  rw[tupA_at h1]at q
  obtain⟨t,ht,e⟩:=r
  obtain⟨t',o,h1,h2,⟨vs,n,h4,_,h3⟩,_⟩:=i.h.live j _ q nofun
  exact⟨t,vs,e,⟨_,Option.some.inj (h1.symm.trans ht)▸h4▸h2,rfl,_,rfl⟩,h3⟩
 |_=>cases h
noncomputable def swapOf (t:Sem (Option (List Str))):Option (Option (List Str)):=pureOf t
theorem tf_tuple {elts k tpos value pos}{a:AV}{as:List AV}{xs:List Str}(hk:isFun X.f=true)(hn:namesOf elts=some xs)(hl:xs.all (isLocal X.f)=true)(hlen:xs.length=as.length)
  (hs:saysNo (swapsWithSole [.Tuple elts k tpos] value pos.line X.f.env)=true) (hw:swapOf (swappedStores [.Tuple elts k tpos] value X.f.env)=some none)
  (h:TV X (eval value X.f.env) c (.ok a) c₁) (ht:tupleAt c₁ a=some as):TF X (exec (.Assign [.Tuple elts k tpos] value pos) X.f.env) c .next ⟨putAll c₁.loc xs as,c₁.obj⟩:=λA ρ G s rm fo i=>by
 refine Assign_Tuple (wp_then h rm fo i λv s₁ ρ₁ G₁ p₁ q₁ i₁ r₁=>?_) (saysNo_eq hs) (of_pureOf hw)
 obtain⟨t,vs,rfl,htup,hrs⟩:=tuple_at ht i₁ r₁
 obtain⟨e1,e2,e3⟩:=each_of (env:=X.f.env) _ hn
 refine assign_Tuple_tuple rm.handled htup (by rw[e1,e3,hlen,<-hrs.len,List.size_toArray]) e2 λh' hx=>?_
 have i₂:=i₁.ext (s':= {s₁ with heap:=h'}) (λb o q=>hx b o (Nat.ne_of_lt (Heap.lt_size q)) q) rfl rfl
 exact wp_names hk _ hn hl hlen i₂ hrs λs' i'=>⟨ρ₁,G₁,p₁,q₁,i'⟩
theorem tf_tuple_x {elts k tpos value pos C ks d}
  (hs:saysNo (swapsWithSole [.Tuple elts k tpos] value pos.line X.f.env)=true) (hw:swapOf (swappedStores [.Tuple elts k tpos] value X.f.env)=some none)
  (h:TV X (eval value X.f.env) c (.ex C ks d) c₁):TF X (exec (.Assign [.Tuple elts k tpos] value pos) X.f.env) c (.ex C ks d) c₁:=λA ρ G s rm fo i=>
 Assign_Tuple (wp_ex h rm fo i λx s' z=>z) (saysNo_eq hs) (of_pureOf hw)
theorem tf_swapped {elts k tpos value pos}{a:AV}{as:List AV}{xs:List Str}(hk:isFun X.f=true)(hl:xs.all (isLocal X.f)=true)(hlen:xs.length=as.length)
  (hs:saysNo (swapsWithSole [.Tuple elts k tpos] value pos.line X.f.env)=true) (hw:swapOf (swappedStores [.Tuple elts k tpos] value X.f.env)=some (some xs))
  (h:TV X (eval value X.f.env) c (.ok a) c₁) (ht:tupleAt c₁ a=some as):TF X (exec (.Assign [.Tuple elts k tpos] value pos) X.f.env) c .next ⟨putAll c₁.loc xs.reverse as.reverse,c₁.obj⟩:=λA ρ G s rm fo i=>by
 refine Assign_Tuple_swapped (wp_then h rm fo i λv s₁ ρ₁ G₁ p₁ q₁ i₁ r₁=>?_) (saysNo_eq hs) (of_pureOf hw)
 obtain⟨t,vs,rfl,htup,hrs⟩:=tuple_at ht i₁ r₁
 have hv:xs.length=vs.toArray.size:=by rw[List.size_toArray,hrs.len,hlen]
 rw[hv]
 refine unpackItems_tuple rm.handled htup λh' hx=>?_
 have i₂:=i₁.ext (s':= {s₁ with heap:=h'}) (λb o q=>hx b o (Nat.ne_of_lt (Heap.lt_size q)) q) rfl rfl
 exact wp_binds hk (by simpa using hl) (by simpa using hlen) i₂ hrs.rev λs' i'=>⟨ρ₁,G₁,p₁,q₁,i'⟩
theorem tf_swapped_x {elts k tpos value pos C ks d}{xs:List Str}
  (hs:saysNo (swapsWithSole [.Tuple elts k tpos] value pos.line X.f.env)=true) (hw:swapOf (swappedStores [.Tuple elts k tpos] value X.f.env)=some (some xs))
  (h:TV X (eval value X.f.env) c (.ex C ks d) c₁):TF X (exec (.Assign [.Tuple elts k tpos] value pos) X.f.env) c (.ex C ks d) c₁:=λA ρ G s rm fo i=>
 Assign_Tuple_swapped (wp_ex h rm fo i λx s' z=>z) (saysNo_eq hs) (of_pureOf hw)
end
inductive Out where
 |ret (a:AV)
 |ex (C:Addr) (ks:List Str) (l:List D)
noncomputable abbrev Out.ctorIdx (x:Out):Nat:= @Out.casesOn (λ_=>Nat) x (λ_=>0) (λ_ _ _=>1)
inductive AftC (B:Heap)(e:En)(ρ:List Addr)(G:Gh)(obj':List AO)(s':Shared)(av:AV)(v:Value):Prop
 |mk (ρ':List Addr) (G':Gh) (p:PreA ρ ρ') (q:Sub G G') (h:HOk B ρ' G' obj' s') (l:Rel e ρ' G' s') (r:RepV ρ' G' av v)
def QC (B:Heap)(e:En)(ρ:List Addr)(G:Gh)(out:Out)(obj':List AO)(r:Result)(s':Shared):Prop:=match r,out with
 | .ok (.ret v),.ret av=>AftC B e ρ G obj' s' av v
 | .error x,.ex C ks l=>Fly B none e C ks l G x s'
 |_,_=>False
def CallOK (prog:Program)(w:World)(B:Heap)(n:Nat)(fv:Value)(args:List AV)(obj:List AO)(out:Out)(obj':List AO):Prop:=
 ∀ (A:Around) (ρ:List Addr) (G:Gh) (s:Shared) (vs:List Value) (fr:List Env),Rm A n fr->FrOK s.heap ρ G fr->HOk B ρ G obj s->RepVs ρ G args vs->
  codeAny (model prog w) A (.call fv ⟨vs,[]⟩) (QC B ⟨s.heap,ρ,G,fr,s.os⟩ ρ G out obj') s
noncomputable def ixOf:List Nat->Nat->Option Nat
 | [],_=>none
 |j::r,i=>cond (Nat.beq j i) (some 0) ((ixOf r i).map (· +1))
theorem ixOf_spec {sel:List Nat}{i:Nat}:∀ {k:Nat},ixOf sel i=some k->sel[k]? =some i:=by
 induction sel with
 |nil=>exact nofun
 |cons j r ih=>
  intro k h
  have h:cond (Nat.beq j i) (some 0) ((ixOf r i).map (· +1))=some k:=h
  cases q:Nat.beq j i with
  |true=>rw[q]at h;obtain rfl:=Option.some.inj h;rw[Nat.eq_of_beq_eq_true q];rfl
  |false=>
   rw[q]at h
   obtain⟨m,z,rfl⟩:=Option.map_eq_some_iff.mp h
   exact ih z
theorem of_cond {α:Type}{b:Bool}{x y:α}(h:cond b (some x) none=some y):b=true/\x=y:=by
 cases b with
 |true=>exact⟨rfl,Option.some.inj h⟩
 |false=>cases h
noncomputable def okI (sel:List Nat)(i:Nat):Bool:=(ixOf sel i).isSome
noncomputable def mvI (sel:List Nat)(i:Nat):Nat:=(ixOf sel i).getD 0
noncomputable def okV (sel:List Nat):AV->Bool
 | .ref i=>okI sel i
 |_=>true
noncomputable def mvV (sel:List Nat):AV->AV
 | .ref i=>.ref (mvI sel i)
 |a=>a
noncomputable def toV (sel:List Nat)(a:AV):Option AV:=cond (okV sel a) (some (mvV sel a)) none
noncomputable def toVs (sel:List Nat)(as:List AV):Option (List AV):=cond (as.all (okV sel)) (some (as.map (mvV sel))) none
noncomputable def canO:AO->Bool
 | .dead=>false
 | .raw _=>false
 | .tab _=>false
 |_=>true
noncomputable def toO (sel:List Nat)(o:AO):Option AO:=cond (canO o&& (o.vals.all (okV sel)&&o.ixs.all (okI sel))) (some (o.mp (mvI sel) (mvV sel))) none
noncomputable def viewO (sel:List Nat)(obj:List AO):List Nat->Option (List AO)
 | []=>some []
 |i::r=>obj[i]?.bind λo=>(toO sel o).bind λo'=>(viewO sel obj r).map (o':: ·)
noncomputable def backI (sel:List Nat)(base:Nat)(j:Nat):Nat:=sel[j]?.getD (base+(j-sel.length))
noncomputable def backV (sel:List Nat)(base:Nat):AV->AV
 | .ref j=>.ref (backI sel base j)
 |a=>a
noncomputable def backO (sel:List Nat)(base:Nat):AO->AO:=AO.mp (backI sel base) (backV sel base)
noncomputable def putBack (sel:List Nat)(base:Nat):List Nat->List AO->List AO->List AO
 | [],os,obj=>obj++os.map (backO sel base)
 |i::r,os,obj=>putBack sel base r os.tail (obj.set i (backO sel base (os.headD .dead)))
noncomputable def selA (ρ:List Addr)(sel:List Nat):List Addr:=sel.map λi=>ρ.getD i 0
theorem selA_get {ρ:List Addr}{sel:List Nat}(hs:∀i∈sel,i<ρ.length){k i:Nat}(h:sel[k]? =some i):(selA ρ sel)[k]? =ρ[i]? :=by
 unfold selA
 rw[List.getElem?_map,h]
 have hi:=hs i (List.mem_of_getElem? h)
 rw[Option.map_some,List.getD_eq_getElem?_getD,List.getElem?_eq_getElem hi];rfl
theorem mvI_rep {ρ:List Addr}{sel:List Nat}(hs:∀i∈sel,i<ρ.length){i:Nat}{d:Addr}(h:okI sel i=true)(r:ρ[i]? =some d):(selA ρ sel)[mvI sel i]? =some d:=by
 obtain⟨k,hk⟩:=Option.isSome_iff_exists.mp h
 unfold mvI
 rw[hk];exact(selA_get hs (ixOf_spec hk)).trans r
theorem mvV_rep {ρ:List Addr}{G:Gh}{sel:List Nat}(hs:∀i∈sel,i<ρ.length){a:AV}{v:Value}(h:okV sel a=true)(r:RepV ρ G a v):RepV (selA ρ sel) G (mvV sel a) v:=by
 cases a with
 |ref i=>exact let⟨t,ht,e⟩:=r;⟨t,mvI_rep hs h ht,e⟩
 |_=>exact r
theorem toV_rep {ρ:List Addr}{G:Gh}{sel:List Nat}(hs:∀i∈sel,i<ρ.length){a b:AV}{v:Value}(h:toV sel a=some b)(r:RepV ρ G a v):RepV (selA ρ sel) G b v:=
 let⟨q,e⟩:=of_cond h;e▸mvV_rep hs q r
theorem toVs_rep {ρ:List Addr}{G:Gh}{sel:List Nat}(hs:∀i∈sel,i<ρ.length){as bs:List AV}{vs:List Value}(h:toVs sel as=some bs)(r:RepVs ρ G as vs):RepVs (selA ρ sel) G bs vs:=
 let⟨q,e⟩:=of_cond h;e▸r.mp λx hx _=>mvV_rep hs (List.all_eq_true.mp q x hx)
theorem toO_rep {ρ:List Addr}{G:Gh}{sel:List Nat}(hs:∀i∈sel,i<ρ.length){a b:AO}{o:Obj}(h:toO sel a=some b)(r:RepO ρ G a o):RepO (selA ρ sel) G b o:=by
 have⟨q,e⟩:=of_cond h
 rw[Bool.and_eq_true,Bool.and_eq_true]at q
 rw[<-e]
 have h1:∀y∈a.vals,∀v,RepV ρ G y v->RepV (selA ρ sel) G (mvV sel y) v:=λy hy v=>mvV_rep hs (List.all_eq_true.mp q.2.1 y hy)
 have h2:∀j∈a.ixs,∀d,ρ[j]? =some d->(selA ρ sel)[mvI sel j]? =some d:=λj hj d=>mvI_rep hs (List.all_eq_true.mp q.2.2 j hj)
 exact RepO.mp h1 h2 (Sub.refl G) r
theorem viewO_spec {sel:List Nat}{obj:List AO}{l:List Nat}:∀ {view:List AO},viewO sel obj l=some view->view.length=l.length/\∀ (k:Nat) (o':AO),view[k]? =some o'->∃i o,l[k]? =some i/\obj[i]? =some o/\toO sel o=some o':=by
 induction l with
 |nil=>intro view h;obtain rfl:=Option.some.inj h;exact⟨rfl,λk o' q=>by cases q⟩
 |cons i r ih=>
  intro view h
  obtain⟨o,q,h⟩:=Option.bind_eq_some_iff.mp h
  obtain⟨o₁,z,h⟩:=Option.bind_eq_some_iff.mp h
  obtain⟨os,y,rfl⟩:=Option.map_eq_some_iff.mp h
  obtain⟨a,b⟩:=ih y
  refine⟨congrArg (· +1) a,λk o' e=>?_⟩
  cases k with
  |zero=>exact⟨i,o,rfl,q,Option.some.inj e▸z⟩
  |succ k=>exact b k o' e
section
variable {ρ ρ' δ:List Addr}{G:Gh}{sel:List Nat}
theorem backI_rep (hs:∀i∈sel,i<ρ.length){j:Nat}{d:Addr}(h:(selA ρ sel++δ)[j]? =some d):(ρ++δ)[backI sel ρ.length j]? =some d:=by
 unfold backI
 have hlen:(selA ρ sel).length=sel.length:=List.length_map ..
 cases q:sel[j]? with
 |some i=>
  rw[List.getElem?_append_left (by rw[hlen];exact(List.getElem?_eq_some_iff.mp q).1),selA_get hs q]at h
  exact(List.getElem?_append_left (hs i (List.mem_of_getElem? q))).trans h
 |none=>
  rw[List.getElem?_append_right (by rw[hlen];exact List.getElem?_eq_none_iff.mp q),hlen]at h
  exact(List.getElem?_append_right (Nat.le_add_right ..)).trans (by rw[Nat.add_sub_cancel_left];exact h)
theorem backV_rep (hs:∀i∈sel,i<ρ.length){a:AV}{v:Value}(r:RepV (selA ρ sel++δ) G a v):RepV (ρ++δ) G (backV sel ρ.length a) v:=by
 cases a with
 |ref j=>exact let⟨t,ht,e⟩:=r;⟨t,backI_rep hs ht,e⟩
 |_=>exact r
theorem backO_rep (hs:∀i∈sel,i<ρ.length){a:AO}{o:Obj}(r:RepO (selA ρ sel++δ) G a o):RepO (ρ++δ) G (backO sel ρ.length a) o:=
 r.mp (λ_ _ _=>backV_rep hs) (λ_ _ _=>backI_rep hs) (Sub.refl _)
end
theorem backO_dead {sel:List Nat}{b:Nat}{o:AO}(h:backO sel b o≠ .dead):o≠ .dead:=λz=>by subst z;exact h rfl
theorem putBack_spec (sel:List Nat)(base:Nat)(l:List Nat):∀ (os obj:List AO),l.length<=os.length->l.Nodup->(∀i∈l,i<obj.length)->
  (putBack sel base l os obj).length=obj.length+(os.length-l.length)/\
  ∀ (i:Nat) (o:AO),(putBack sel base l os obj)[i]? =some o->(∃ (k:Nat) (o':AO),l[k]? =some i/\os[k]? =some o'/\o=backO sel base o')\/(i∉l/\obj[i]? =some o)\/(∃o',obj.length<=i/\os[l.length+(i-obj.length)]? =some o'/\o=backO sel base o'):=by
 induction l with
 |nil=>
  intro os obj _ _ _
  refine⟨by show(obj++os.map _).length=_;rw[List.length_append,List.length_map];rfl,λi o h=>?_⟩
  have h:(obj++os.map (backO sel base))[i]? =some o:=h
  by_cases hi:i<obj.length
  ·rw[List.getElem?_append_left hi]at h;exact .inr (.inl ⟨List.not_mem_nil,h⟩)
  ·rw[List.getElem?_append_right (Nat.le_of_not_lt hi),List.getElem?_map]at h
   obtain⟨o',h1,h2⟩:=Option.map_eq_some_iff.mp h
   exact .inr (.inr ⟨o',Nat.le_of_not_lt hi,(Nat.zero_add _).symm▸h1,h2.symm⟩)
 |cons j r ih=>
  intro os obj h hn hl
  cases os with
  |nil=>cases h
  |cons o₀ os=>
   obtain⟨a,b⟩:=ih os (obj.set j (backO sel base o₀)) (Nat.le_of_succ_le_succ h) (List.nodup_cons.mp hn).2 (λi hi=>by rw[List.length_set];exact hl i (.tail _ hi))
   rw[List.length_set]at a
   refine⟨a.trans (by rw[List.length_cons,List.length_cons,Nat.add_sub_add_right]),λi o q=>?_⟩
   rcases b i o q with⟨k,o',h1,h2,h3⟩| ⟨h1,h2⟩| ⟨o',h1,h2,h3⟩
   ·exact .inl ⟨k+1,o',h1,h2,h3⟩
   ·by_cases hi:j=i
    ·subst hi
     rw[List.getElem?_set_self (hl j (.head _))]at h2
     exact .inl ⟨0,o₀,rfl,rfl,(Option.some.inj h2).symm⟩
    ·rw[List.getElem?_set_ne hi]at h2
     exact .inr (.inl ⟨λz=>(List.mem_cons.mp z).elim (λz=>hi z.symm) h1,h2⟩)
   ·rw[List.length_set]at h1 h2
    exact .inr (.inr ⟨o',h1,by rw[List.length_cons,Nat.add_right_comm];exact h2,h3⟩)
theorem pre_split {a b:List Addr}(p:PreA a b):b=a++b.drop a.length:=by
 have hl:a.length<=b.length:=by
  cases h:a.length with
  |zero=>exact Nat.zero_le _
  |succ n=>
   have hn:n<a.length:=by lia
   have:=p n a[n] (List.getElem?_eq_getElem hn)
   have:=(List.getElem?_eq_some_iff.mp this).1
   lia
 have ht:b.take a.length=a:=by
  apply List.ext_getElem?
  intro i
  by_cases h:i<a.length
  ·rw[List.getElem?_take,if_pos h,p i a[i] (List.getElem?_eq_getElem h),List.getElem?_eq_getElem h]
  ·rw[List.getElem?_take,if_neg h,List.getElem?_eq_none_iff.mpr (Nat.le_of_not_lt h)]
 conv=>lhs;rw[<-List.take_append_drop a.length b,ht]
section
variable {B:Heap}{f:Fm}{e:En}{c:St}{ρ:List Addr}{G:Gh}{s:Shared}
theorem In.outer_not (x:In B f e c ρ G s)(fo:FrOK e.H e.ρ e.G e.outer):∀env∈e.outer,∃L o,env.frame=some L/\s.heap.get? L=some o/\(∀vs,o.data≠ .fields vs)/\L∉ρ/\G L=none/\L≠f.L:=λenv he=>by
 obtain⟨_,L,o,h1,h2,h3,h4,h5⟩:=fo env he
 have hm:L∈e.outL:=List.mem_filterMap.mpr ⟨env,he,h1⟩
 obtain⟨sl,h6⟩:=(x.r.keep L o h2 h4).2 hm
 refine⟨L,_,h1,h6,h3,λz=>?_,?_,λz=>?_⟩
 ·rcases x.r.newA L z with y|y
  ·exact h4 y
  ·rw[h2]at y;cases y
 ·cases q:G L with
  |none=>rfl
  |some o'=>
   rcases x.r.newG L o' q with⟨o₂,y⟩|y|y
   ·rw[h5]at y;cases y
   ·exact absurd y h4
   ·rw[h2]at y;cases y
 ·rw[z,x.f.fresh]at h2;cases h2
theorem In.own (x:In B f e c ρ G s):∃o,s.heap.get? f.L=some o/\∀vs,o.data≠ .fields vs:=by
 obtain⟨m,⟨o,es,ep,h1,h2,_⟩,_⟩:=x.f.ns
 exact⟨o,h1,λvs z=>by rw[h2]at z;cases z⟩
theorem In.frames (x:In B f e c ρ G s)(hk:isFun f=true)(fo:FrOK e.H e.ρ e.G e.outer){ρc:List Addr}(hs:∀a∈ρc,a∈ρ):FrOK s.heap ρc G (f.env::e.outer):=λenv he=>by
 rcases List.mem_cons.mp he with rfl|he
 ·obtain⟨o,h1,h2⟩:=x.own
  exact⟨by show f.cs.kind≠ .module;rw[isFun_eq hk];decide,f.L,o,rfl,h1,h2,λz=>x.f.own (hs _ z),x.f.gown⟩
 ·obtain⟨L,o,h1,h2,h3,h4,h5,_⟩:=x.outer_not fo env he
  exact⟨(fo env he).1,L,o,h1,h2,h3,λz=>h4 (hs _ z),h5⟩
noncomputable def selOK (c:St)(sel:List Nat):Bool:=decide sel.Nodup&&sel.all λi=>decide (i<c.obj.length)
theorem selA_mem {ρ:List Addr}{sel:List Nat}(hs:∀i∈sel,i<ρ.length){a:Addr}(h:a∈selA ρ sel):a∈ρ:=by
 obtain⟨i,hi,rfl⟩:=List.mem_map.mp h
 rw[List.getD_eq_getElem?_getD,List.getElem?_eq_getElem (hs i hi)]
 exact List.getElem_mem _
theorem selA_nodup {ρ:List Addr}(hn:ρ.Nodup):∀ {sel:List Nat},sel.Nodup->(∀i∈sel,i<ρ.length)->(selA ρ sel).Nodup
 | [],_,_=>List.nodup_nil
 |i::r,hd,hs=>by
  obtain⟨h1,h2⟩:=List.nodup_cons.mp hd
  refine List.nodup_cons.mpr ⟨λz=>?_,selA_nodup hn h2 λj hj=>hs j (.tail _ hj)⟩
  obtain⟨j,hj,e⟩:=List.mem_map.mp z
  dsimp only at e
  rw[List.getD_eq_getElem?_getD,List.getD_eq_getElem?_getD,List.getElem?_eq_getElem (hs i (.head _)),List.getElem?_eq_getElem (hs j (.tail _ hj)),Option.getD_some,Option.getD_some]at e
  have:=(List.getElem_inj (xs:=ρ) hn).mp e
  exact h1 (this▸hj)
theorem In.view (x:In B f e c ρ G s){sel:List Nat}{view:List AO}(hsel:selOK c sel=true)(hv:viewO sel c.obj sel=some view):HOk B (selA ρ sel) G view s:=by
 unfold selOK at hsel
 rw[Bool.and_eq_true,List.all_eq_true]at hsel
 have hd:=of_decide_eq_true hsel.1
 have hs:∀i∈sel,i<ρ.length:=λi hi=>by rw[x.h.len];exact of_decide_eq_true (hsel.2 i hi)
 obtain⟨v1,v2⟩:=viewO_spec hv
 refine⟨x.h.base,x.h.frz,by rw[v1];simp[selA],selA_nodup x.h.nd hd hs,λa ha=>x.h.there a (selA_mem hs ha),λk ao q nd=>?_,x.h.gens⟩
 obtain⟨i,o,h1,h2,h3⟩:=v2 k ao q
 obtain⟨a,ob,g1,g2,g3,g4⟩:=x.h.live i o h2 (λz=>by subst z;cases h3)
 exact⟨a,ob,(selA_get hs h1).trans g1,g2,toO_rep hs h3 g3,g4⟩
noncomputable abbrev En.inn (e:En)(f:Fm)(r:List Addr)(G:Gh)(s:Shared):En:=⟨s.heap,r,G,f.env::e.outer,s.os⟩
abbrev NewG (e:En)(G:Gh):Prop:=∀b o,G b=some o->(∃o',e.G b=some o')\/b∈e.ρ\/e.H.get? b=none
theorem new_none {e:En}{G':Gh}(g:NewG e G'){a:Addr}{o:Obj}(hg:e.G a=none)(hr:a∉e.ρ)(ho:e.H.get? a=some o):G' a=none:=
 Option.eq_none_iff_forall_not_mem.mpr λo' z=>(g a o' z).elim (λ⟨_,y⟩=>nomatch hg.symm.trans y) λy=>y.elim hr λy=>none_of y ho
section
variable {r:List Addr}{h':Heap}{G':Gh}
theorem In.keepOut (x:In B f e c ρ G s)(hr:∀a∈r,a∈ρ)(k:KeepX (e.inn f r G s) h'):KeepX e h':=λb o hb hn=>
 have hbs:b∉r:=λz=>(x.r.newA b (hr b z)).elim hn λy=>none_of y hb
 have⟨k1,k2⟩:=x.r.keep b o hb hn
 ⟨λz=>(k b o (k1 z) hbs).1 λy=>(List.mem_cons.mp (show b∈f.L::e.outL from y)).elim (λy=>none_of x.f.fresh (y▸hb)) z,λz=>let⟨_,w⟩:=k2 z;let⟨sl,w⟩:=(k b _ w hbs).2 (show b∈f.L::e.outL from .tail _ z);⟨sl,w⟩⟩
theorem In.newOut (x:In B f e c ρ G s)(hr:∀a∈r,a∈ρ)(g:NewG (e.inn f r G s) G'):NewG e G':=λb o hb=>
 (g b o hb).elim (λ⟨o',y⟩=>x.r.newG b o' y) λy=>.inr (y.elim (λy=>x.r.newA b (hr b y)) λy=>.inr (x.new y).2.2.2)
theorem In.keepL (x:In B f e c ρ G s)(hr:∀a∈r,a∈ρ)(k:KeepX (e.inn f r G s) h'){o:Obj}(h:s.heap.get? f.L=some o):∃sl,h'.get? f.L=some {o with slots:=sl}:=
 (k f.L o h λz=>x.f.own (hr _ z)).2 (show f.L∈f.L::e.outL from .head _)
theorem In.lowL (x:In B f e c ρ G s)(hr:∀a∈r,a∈ρ)(g:NewG (e.inn f r G s) G'):G' f.L=none:=
 let⟨_,h,_⟩:=x.own;new_none g x.f.gown (λz=>x.f.own (hr _ z)) h
end
theorem In.back (x:In B f e c ρ G s)(fo:FrOK e.H e.ρ e.G e.outer){sel:List Nat}{view obj':List AO}{s':Shared}{ρ':List Addr}{G':Gh}(hsel:selOK c sel=true)(hv:viewO sel c.obj sel=some view)
  (p:PreA (selA ρ sel) ρ') (q:Sub G G') (H':HOk B ρ' G' obj' s') (R':Rel (e.inn f (selA ρ sel) G s) ρ' G' s'):
  ∃δ,ρ'=selA ρ sel++δ/\In B f e ⟨c.loc,putBack sel ρ.length sel obj' c.obj⟩ (ρ++δ) G' s':=by
 unfold selOK at hsel
 rw[Bool.and_eq_true,List.all_eq_true]at hsel
 have hd:=of_decide_eq_true hsel.1
 have hlen:=x.h.len
 have hsc:∀i∈sel,i<c.obj.length:=λi hi=>of_decide_eq_true (hsel.2 i hi)
 have hs:∀i∈sel,i<ρ.length:=λi hi=>by rw[hlen];exact hsc i hi
 have hr:∀a∈selA ρ sel,a∈ρ:=λ_=>selA_mem hs
 have hAl:(selA ρ sel).length=sel.length:=List.length_map ..
 obtain⟨δ,rfl⟩:∃δ,ρ'=selA ρ sel++δ:=⟨_,pre_split p⟩
 refine⟨δ,rfl,?_⟩
 have nd':=List.nodup_append.mp H'.nd
 have δnew:∀a∈δ,s.heap.get? a=none:=λa ha=>(R'.newA a (List.mem_append_right _ ha)).elim (λz=>absurd rfl (nd'.2.2 a z a ha)) id
 have stay:∀b o,s.heap.get? b=some o->b∉selA ρ sel->b≠f.L->b∉e.outL->s'.heap.get? b=some o:=λb o h1 h2 h3 h4=>
  (R'.keep b o h1 h2).1 λz=>(List.mem_cons.mp (show b∈f.L::e.outL from z)).elim h3 h4
 have stayρ:∀b o,s.heap.get? b=some o->b∉selA ρ sel->b∈ρ->s'.heap.get? b=some o:=λb o h1 h2 h3=>stay b o h1 h2 (λz=>x.f.own (z▸h3)) λz=>by
  obtain⟨env,he,hf⟩:=List.mem_filterMap.mp z
  obtain⟨L,_,h1,_,_,h4,_⟩:=x.outer_not fo env he
  exact h4 (Option.some.inj (h1.symm.trans hf)▸h3)
 obtain⟨v1,v2⟩:=viewO_spec hv
 obtain⟨b1,b2⟩:=putBack_spec sel ρ.length sel obj' c.obj (by rw[<-H'.len,List.length_append,hAl];exact Nat.le_add_right ..) hd hsc
 have pre:PreA ρ (ρ++δ):=PreA.app ρ δ
 refine⟨⟨H'.base,H'.frz,?_,List.nodup_append.mpr ⟨x.h.nd,nd'.2.1,λa ha b hb z=>(x.new (δnew b hb)).1 (z▸ha)⟩,λa ha=>?_,λi ao hi nd=>?_,H'.gens⟩,
  ⟨x.keepOut hr R'.keep,x.r.pre.trans pre,λa ha=>(List.mem_append.mp ha).elim (x.r.newA a) λha=>.inr (x.new (δnew a ha)).2.2.2,x.newOut hr R'.newG,R'.os.trans x.r.os,x.r.gsub.trans R'.gsub⟩,
  ⟨?_,λz=>(List.mem_append.mp z).elim x.f.own λz=>(x.new (δnew _ z)).2.2.1 rfl,x.lowL hr R'.newG,x.f.fresh,λy cc q'=>?_⟩⟩
 ·show(ρ++δ).length=(putBack sel ρ.length sel obj' c.obj).length
  rw[b1,List.length_append,<-H'.len,List.length_append,hAl,hlen,Nat.add_sub_cancel_left]
 ·by_cases h:a∈selA ρ sel
  ·exact H'.there a (List.mem_append_left _ h)
  ·exact(List.mem_append.mp ha).elim (λha=>let⟨o,ho⟩:=x.h.there a ha;⟨o,stayρ a o ho h ha⟩) λha=>H'.there a (List.mem_append_right _ ha)
 ·rcases b2 i ao hi with⟨k,o',h1,h2,rfl⟩| ⟨h1,h2⟩| ⟨o',h1,h2,rfl⟩
  ·obtain⟨a,ob,g1,g2,g3,g4⟩:=H'.live k o' h2 (backO_dead nd)
   refine⟨a,ob,?_,g2,backO_rep hs g3,g4⟩
   rw[List.getElem?_append_left (by rw[hAl];exact(List.getElem?_eq_some_iff.mp h1).1),selA_get hs h1]at g1
   exact pre i a g1
  ·obtain⟨a,ob,g1,g2,g3,g4⟩:=x.h.live i ao h2 nd
   have hm:=List.mem_of_getElem? g1
   have hns:a∉selA ρ sel:=λz=>by
    obtain⟨j,hj,ej⟩:=List.mem_map.mp z
    rw[List.getD_eq_getElem?_getD,List.getElem?_eq_getElem (hs j hj),Option.getD_some]at ej
    exact h1 (nodup_ix x.h.nd g1 (ej▸List.getElem?_eq_getElem (hs j hj))▸hj)
   exact⟨a,ob,pre i a g1,stayρ a ob g2 hns hm,g3.mono pre q,new_none R'.newG g4 hns g2⟩
  ·obtain⟨a,ob,g1,g2,g3,g4⟩:=H'.live _ o' h2 (backO_dead nd)
   refine⟨a,ob,?_,g2,backO_rep hs g3,g4⟩
   rw[List.getElem?_append_right (by rw[hAl];exact Nat.le_add_right ..),hAl,Nat.add_sub_cancel_left]at g1
   rw[List.getElem?_append_right (by rw[hlen];exact h1),hlen];exact g1
 ·obtain⟨m,⟨o,es,ep,m1,m2,m3,m4⟩,n2⟩:=x.f.ns
  obtain⟨_,w⟩:=x.keepL hr R'.keep m1
  exact⟨m,⟨_,es,ep,w,m2,m3,m4⟩,λy v hy hc=>(n2 y v hy hc).imp λu z=>⟨z.1,z.2.mono pre q⟩⟩
 ·obtain⟨oc,u,j⟩:=x.f.cells y cc q'
  have nsel:cc∉selA ρ sel:=λz=>j.nρ (selA_mem hs z)
  refine⟨oc,u,j.kd,λz=>(List.mem_append.mp z).elim j.nρ λz=>none_of (δnew cc z) j.here,new_none R'.newG j.nG nsel j.here,j.nH,j.nL,stay cc oc j.here nsel j.nL λz=>?_,j.dat,λav w=>(j.val av w).imp λv z=>⟨z.1,z.2.mono pre q⟩,j.apart⟩
  obtain⟨env,he,hf⟩:=List.mem_filterMap.mp z
  obtain⟨_,L,_,h1,h2,_⟩:=fo env he
  exact none_of j.nH (Option.some.inj (h1.symm.trans hf)▸h2)
theorem In.thrown (x:In B f e c ρ G s){sel:List Nat}(hsel:selOK c sel=true){C:Addr}{ks:List Str}{l:List D}{v:Value}{s':Shared}
  (h:Fly B none (e.inn f (selA ρ sel) G s) C ks l G v s'):Fly B (some f.L) e C ks l G v s':=by
 unfold selOK at hsel
 rw[Bool.and_eq_true,List.all_eq_true]at hsel
 have hr:∀a∈selA ρ sel,a∈ρ:=λ_=>selA_mem λi hi=>by rw[x.h.len];exact of_decide_eq_true (hsel.2 i hi)
 have nw:∀a,a∈selA ρ sel\/s.heap.get? a=none->a∈e.ρ\/e.H.get? a=none:=λa z=>z.elim (λz=>x.r.newA a (hr a z)) λz=>.inr (x.new z).2.2.2
 obtain⟨⟨G',a,d,fs,es,n,vs,h⟩,k,_,hg,ho⟩:=h
 obtain⟨o,m1,m2⟩:=x.own
 obtain⟨_,w⟩:=x.keepL hr k m1
 refine⟨⟨G',a,d,fs,es,n,vs,h.isRef,h.sub,h.here,h.size,.inr ?_,h.dict,h.keys,h.rep,h.low,nw a h.new,h.base,h.frz,x.newOut hr h.newG,λL hL=>Option.some.inj hL▸x.lowL hr h.newG⟩,x.keepOut hr k,λL hL=>Option.some.inj hL▸⟨x.f.fresh,_,w,m2⟩,hg,ho.trans x.r.os⟩
 rcases h.head with z| ⟨T,ts,oT,t1,t2,t3,t4,t5,t6,t7⟩
 ·exact absurd rfl z.2
 ·exact⟨T,ts,oT,t1,t2,t3,t4.imp_right nofun,t5,t6,nw T t7⟩
end
section
variable {X:Cx}{c:St}
noncomputable def rvOf (sel:List Nat)(base:Nat):Out->Rv
 | .ret a=>.ok (backV sel base a)
 | .ex C ks l=>.ex C ks l
theorem wp_call {A:Around}{ρ:List Addr}{G:Gh}{s:Shared}{fv:Value}{vs:List Value}{as args:List AV}{sel:List Nat}{view obj':List AO}{out:Out}{k:Nat}(hk:isFun X.f=true)(rm:Rm A X.n (X.f.env::X.e.outer))(fo:FrOK X.e.H X.e.ρ X.e.G X.e.outer)(i:In X.B X.f X.e c ρ G s)(r:RepVs ρ G as vs)
  (hn:k<=X.n) (hsel:selOK c sel=true) (hv:viewO sel c.obj sel=some view) (ha:toVs sel as=some args) (h:CallOK X.prog X.w X.B k fv args view out obj'):
  wpAny (model X.prog X.w) A (call fv vs)
   (QV X.B X.f X.e ρ G (rvOf sel c.obj.length out) ⟨c.loc,putBack sel c.obj.length sel obj' c.obj⟩)
   (QX X.B X.f X.e G (rvOf sel c.obj.length out)) s:=by
 have hsel':=hsel
 unfold selOK at hsel'
 rw[Bool.and_eq_true,List.all_eq_true]at hsel'
 have hs:∀i∈sel,i<ρ.length:=λj hj=>by rw[i.h.len];exact of_decide_eq_true (hsel'.2 j hj)
 have rm':Rm A k (X.f.env::X.e.outer):=⟨Nat.lt_of_le_of_lt (Nat.add_le_add_left hn _) rm.depth,Nat.lt_of_le_of_lt (by have:=Nat.mul_le_mul_left 10 hn;lia) rm.units,rm.handled,rm.guards,rm.frames⟩
 have z:=h A (selA ρ sel) G s vs (X.f.env::X.e.outer) rm' (i.frames hk fo λa ha=>selA_mem hs ha) (i.view hsel hv) (toVs_rep hs ha r)
 refine wpAny_call (codeAny_mono z λres s' q=>?_)
 rw[<-i.h.len]
 cases out with
 |ret a=>
  rcases res with x| (v|_|_|_)<;>first|exact q.elim|skip
  obtain⟨ρ',G',p,g,H',R',rv⟩:=q
  obtain⟨δ,rfl,i'⟩:=i.back fo hsel hv p g H' R'
  exact⟨ρ++δ,G',PreA.app _ _,g,i',backV_rep hs rv⟩
 |ex C ks l=>
  rcases res with x| (v|_|_|_)<;>first|exact q.elim|skip
  exact i.thrown hsel q
end
section
variable {M:Model}{A:Around}{E:Value->Shared->Prop}{s:Shared}
inductive NotedAt (L e:Addr)(fr:List Addr)(vs:Array Value)(cls:Value)(dict:Option Addr)(h h':Heap):Prop
 |mk (T:Addr) (oT:Obj) (ts:Array Value) (n1:h.get? T=none) (n2:h'.get? e=some {cls:=cls,dict:=dict,data:=.fields (vs.setIfInBounds 1 (.ref T))}) (n3:h'.get? T=some oT) (n4:oT.data=.fields ts) (n5:ts[3]? =some (rawInt L))
  (n6:∀b o,b≠e->h.get? b=some o->(b∉fr->h'.get? b=some o)/\∃sl,h'.get? b=some {o with slots:=sl})
theorem note_core {env:Env}{outer:List Env}{L e:Addr}{cls:Value}{dict:Option Addr}{vs:Array Value}{head:Value}{hadNext:Bool}{Q:Unit->Shared->Prop}
  (hfr:A.frames=some (env::outer)) (hl:s.heap.FunFrames {} (env::outer)) (hf:env.frame=some L)
  (he:s.heap.get? e=some {cls:=cls,dict:=dict,data:=.fields vs}) (hsz:1<vs.size)
  (h:∀h',NotedAt L e ((env::outer).filterMap (·.frame)) vs cls dict s.heap h'->Q () {s with heap:=h'}):
  wpAny M A (do let a<-frameOf env;let pl<-entryPlaceOf L hadNext;let b<-EntryCells.newEntry head a .none (rawInt L) .none pl;setField (.ref e) 1 b) Q E s:=by
 have hene:e∉ (env::outer).filterMap (·.frame):=λhm=>by
  obtain⟨_,o,ho,hnf⟩:=hl.mem hm
  rw[he]at ho;injection ho with ho;subst ho;exact hnf vs rfl
 refine wpAny_bind (wpAny_frameOf_fun hfr hl hf λh₁ hs₁=>?_)
 refine wpAny_bind (wpAny_entryPlaceOf λpl hpl=>?_)
 unfold EntryCells.newEntry newFields
 refine wpAny_bind (wpAny_newObj_type ?_ (hpl.sizeOk5 _ _ _ _ _))
 have he₁:h₁.get? e=some _:=(hs₁.2.1 e hene).trans he
 have he₂:=Heap.get?_push_of_some (h:=h₁) {cls:=.type "traceback",dict:=none,data:=.fields ([head,.ref L,.none,rawInt L,.none]++(if pl.isEmpty then List.replicate 6 Value.none else pl)).toArray} he₁
 refine wpAny_setField he₂ rfl hsz ?_
 have hTe:h₁.objs.size≠e:=Nat.ne_of_gt (Heap.lt_size he₁)
 have he₃:=Heap.get?_update_self (Obj.mapFields (·.setIfInBounds 1 (Value.ref h₁.objs.size))) he₂ rfl
 have hT₃:=(Heap.get?_update_other (h₁.push {cls:=.type "traceback",dict:=none,data:=.fields ([head,.ref L,.none,rawInt L,.none]++(if pl.isEmpty then List.replicate 6 Value.none else pl)).toArray})
  (Obj.mapFields (·.setIfInBounds 1 (Value.ref h₁.objs.size))) (Ne.symm hTe)).trans (Heap.get?_push_size h₁ rfl)
 refine h _ ⟨h₁.objs.size,_,_,?_,he₃,hT₃,rfl,?_,λb o hbe hb=>?_⟩
 ·have:s.heap.get? h₁.objs.size=none:=Heap.get?_none_of_le (Nat.le_of_eq hs₁.1.symm)
  exact this
 ·rcases hpl with rfl| ⟨_,_,_,_,_,_,_,rfl⟩<;>rfl
 ·have hbT:h₁.objs.size≠b:=λz=>by
   have:=Heap.lt_size hb
   rw[<-hs₁.1,z]at this
   exact Nat.lt_irrefl _ this
  have go:∀o',h₁.get? b=some o'->((h₁.push {cls:=.type "traceback",dict:=none,data:=.fields ([head,.ref L,.none,rawInt L,.none]++(if pl.isEmpty then List.replicate 6 Value.none else pl)).toArray}).update e (Obj.mapFields (·.setIfInBounds 1 (Value.ref h₁.objs.size)))).get? b=some o':=λo' hb'=>by
   rw[Heap.get?_update_other _ _ (Ne.symm hbe)]
   exact Heap.get?_push_of_some _ hb'
  refine⟨λhn=>go _ ((hs₁.2.1 b hn).trans hb),?_⟩
  obtain⟨sl,w⟩:=hs₁.2.2 b o hb
  exact⟨sl,go _ w⟩
end
structure FlyJ (B:Heap)(L:Addr)(v:Value)(e:En)(C:Addr)(ks:List Str)(l:List D)(G₀:Gh)(x:Value)(a T:Addr)(fs:Array Value)(ts:Array Value)(s:Shared)(G:Gh)(d:Addr)(oT:Obj)(es:List DictEntry)(n:Nat)(vs:List Value):Prop where
 isRef:x=.ref a
 sub:Sub G₀ G
 here:s.heap.get? a=some (excObj C d fs)
 size:fs.size=6
 head:fs[1]? =some (.ref T)
 tHere:s.heap.get? T=some oT
 tData:oT.data=.fields ts
 tIn:ts[3]? =some v
 ne:T≠a
 tLow:G T=none
 tNew:T∈e.ρ\/e.H.get? T=none
 dict:G d=some (dictOf es n)
 keys:KeysAre es ks vs
 rep:RepDs G vs l
 low:G a=none
 new:a∈e.ρ\/e.H.get? a=none
 base:∀b o,B.get? b=some o->G b=some o
 frz:∀b o,G b=some o->s.heap.get? b=some o
 newG:∀b o,G b=some o->(∃o',e.G b=some o')\/b∈e.ρ\/e.H.get? b=none
 lowL:G L=none
inductive FlyTE (B:Heap)(L:Addr)(v:Value)(e:En)(C:Addr)(ks:List Str)(l:List D)(G₀:Gh)(x:Value)(a T:Addr)(fs:Array Value)(ts:Array Value)(s:Shared):Prop
 |mk (G:Gh) (d:Addr) (oT:Obj) (es:List DictEntry) (n:Nat) (vs:List Value) (h:FlyJ B L v e C ks l G₀ x a T fs ts s G d oT es n vs)
structure FlyT (B:Heap)(L:Addr)(v:Value)(e:En)(C:Addr)(ks:List Str)(l:List D)(G₀:Gh)(x:Value)(a T:Addr)(fs:Array Value)(ts:Array Value)(s:Shared):Prop where
 it:FlyTE B L v e C ks l G₀ x a T fs ts s
 keep:KeepX e s.heap
 gens:s.gens= #[]
 os:s.os=e.os
section
variable {M:Model}{A:Around}{E:Value->Shared->Prop}{s:Shared}{B:Heap}{e:En}{C:Addr}{ks:List Str}{l:List D}{G:Gh}{x:Value}
theorem Fly.funFrames {env:Env}{L:Addr}(h:Fly B (some L) e C ks l G x s)(fo:FrOK e.H e.ρ e.G e.outer)(hf:env.frame=some L)(hk:env.scope.kind≠ .module):s.heap.FunFrames {} (env::e.outer):=by
 have emp:∀b,(Heap.get? {} b:Option Obj)=none:=λb=>Heap.get?_none_of_le (Nat.zero_le _)
 obtain⟨_,o,h1,h2⟩:=h.fresh L rfl
 refine⟨hk,⟨L,o,hf,emp L,h1,h2⟩,?_⟩
 have all:∀fr:List Env,(∀env∈fr,env∈e.outer)->s.heap.FunFrames {} fr:=by
  intro fr
  induction fr with
  |nil=>intro _;trivial
  |cons a r ih=>
   intro hs
   obtain⟨k,L',o',f1,f2,f3,f4,f5⟩:=fo a (hs a (.head _))
   obtain⟨sl,w⟩:=(h.keep L' o' f2 f4).2 (List.mem_filterMap.mpr ⟨a,hs a (.head _),f1⟩)
   exact⟨k,⟨L',_,f1,emp L',w,f3⟩,ih λenv he=>hs env (.tail _ he)⟩
 exact all _ λ_ h=>h
theorem Fly.outG {G':Gh}(fo:FrOK e.H e.ρ e.G e.outer)(hn:NewG e G'){b:Addr}(hb:b∈e.outL):G' b=none:=by
 obtain⟨env,he,hf⟩:=List.mem_filterMap.mp hb
 obtain⟨_,L',o',f1,f2,f3,f4,f5⟩:=fo env he
 rw[<-Option.some.inj (f1.symm.trans hf)]
 exact new_none hn f5 f4 f2
theorem note_fly {env:Env}{L:Addr}{Q:Unit->Shared->Prop}(hf:env.frame=some L)(hk:env.scope.kind≠ .module)(hfr:A.frames=some (env::e.outer))(fo:FrOK e.H e.ρ e.G e.outer)(h:Fly B (some L) e C ks l G x s)
  (k:∀s' a T fs ts,FlyT B L (rawInt L) e C ks l G x a T fs ts s'->(∃o,s'.heap.get? L=some o/\∀vs,o.data≠ .fields vs)->Q () s'):wpAny M A (noteFrame x env) Q E s:=by
 have ff:=h.funFrames fo hf hk
 obtain⟨⟨G',a,d,fs,es,n,vs,rfl,h2,h3,h4,h5,h6,h7,h8,h9,h10,h11,h12,h13,h14⟩,hkeep,hfresh,hg,hos⟩:=h
 obtain⟨hLn,oL,hL1,hL2⟩:=hfresh L rfl
 have hGL:G' L=none:=h14 L rfl
 have hn:((Value.ref a)==Value.none)=false:=rfl
 unfold noteFrame
 simp only[hf]
 have fin:∀ (s₁:Shared),s₁.heap.get? a=some (excObj C d fs)->s₁.gens= #[]->s₁.os=e.os->KeepX e s₁.heap->s₁.heap.get? L=some oL->(∀b o,G' b=some o->s₁.heap.get? b=some o)->
   s₁.heap.FunFrames {} (env::e.outer)->
   ∀head hadNext,wpAny M A (do let a'<-frameOf env;let pl<-entryPlaceOf L hadNext;let b<-EntryCells.newEntry head a' .none (rawInt L) .none pl;setField (.ref a) 1 b) Q E s₁:=by
  intro s₁ k1 k2 k3 k4 k5 k6 k7 head hadNext
  refine note_core hfr k7 hf k1 (by lia) λh' hN=>?_
  obtain⟨T,oT,ts,n1,n2,n3,n4,n5,n6⟩:=hN
  have nG:∀b o,G' b=some o->b≠a/\b∉ ((env::e.outer).filterMap (·.frame)):=λb o q=>by
   refine⟨λz=>(by rw[z,h9]at q;cases q),λz=>?_⟩
   rw[List.filterMap_cons,hf]at z
   rcases List.mem_cons.mp z with z|z
   ·rw[z,hGL]at q;cases q
   ·rw[Fly.outG fo h13 z]at q;cases q
  refine k _ a T _ ts ⟨⟨G',d,oT,es,n,vs,rfl,h2,n2,by simp[h4],?_,n3,n4,n5,λz=>?_,?_,?_,h6,h7,h8,h9,h10,h11,λb o q=>?_,h13,hGL⟩,λb o q nr=>?_,k2,k3⟩ ?_
  ·rw[Array.getElem?_setIfInBounds_self_of_lt (by lia)]
  ·rw[z,k1]at n1;cases n1
  ·cases q:G' T with
   |none=>rfl
   |some o=>rw[k6 T o q]at n1;cases n1
  ·by_cases hr:T∈e.ρ
   ·exact .inl hr
   ·refine .inr ?_
    cases q:e.H.get? T with
    |none=>rfl
    |some o=>
     obtain⟨c1,c2⟩:=k4 T o q hr
     by_cases ho:T∈e.outL
     ·obtain⟨sl,w⟩:=c2 ho;rw[w]at n1;cases n1
     ·rw[c1 ho]at n1;cases n1
  ·obtain⟨m1,m2⟩:=nG b o q
   exact(n6 b o m1 (k6 b o q)).1 m2
  ·have ba:b≠a:=λz=>h10.elim (λy=>nr (z▸y)) λy=>by rw[z,y]at q;cases q
   have bL:b≠L:=λz=>by rw[z,hLn]at q;cases q
   obtain⟨c1,c2⟩:=k4 b o q nr
   refine⟨λz=>(n6 b o ba (c1 z)).1 ?_,λz=>?_⟩
   ·rw[List.filterMap_cons,hf]
    intro y
    rcases List.mem_cons.mp y with y|y
    ·exact bL y
    ·exact z y
   ·obtain⟨sl,w⟩:=c2 z
    obtain⟨sl',w'⟩:=(n6 b _ ba w).2
    exact⟨sl',w'⟩
  ·obtain⟨sl,w⟩:=(n6 L oL (λz=>by subst z;rw[k1]at k5;cases k5;exact hL2 fs rfl) k5).2
   exact⟨_,w,hL2⟩
 rcases h5 with⟨z,_⟩| ⟨T,ts,oT,t1,t2,t3,t4,t5,t6,t7⟩
 ·refine wpAny_bind (wpAny_field h3 rfl z ?_)
  rw[if_neg (by decide)]
  exact fin s h3 hg hos hkeep hL1 h12 ff _ _
 ·refine wpAny_bind (wpAny_field h3 rfl t1 ?_)
  rw[if_pos (show(Value.ref T !=Value.none)=true from by simp)]
  rcases t4 with t4| ⟨L',z,t4⟩
  ·refine wpAny_bind (wpAny_field t2 t3 t4 ?_)
   rw[if_neg (show¬ ((Value.none==rawInt L)=true) from by simp[rawInt])]
   refine wpAny_bind (wpAny_setField t2 t3 (Array.getElem?_eq_some_iff.mp t4).1 ?_)
   have other:∀b,b≠T->(s.heap.update T (Obj.mapFields (·.setIfInBounds 3 Value.none))).get? b=s.heap.get? b:=λb hb=>Heap.get?_update_other _ _ (Ne.symm hb)
   have LT:L≠T:=λz=>by rw[<-z,hL1]at t2;cases t2;exact hL2 _ t3
   refine fin {s with heap:=s.heap.update T (Obj.mapFields (·.setIfInBounds 3 Value.none))} ((other a (Ne.symm t5)).trans h3) hg hos (λb o q nr=>?_) ((other L LT).trans hL1) (λb o q=>?_) (ff.of_keeps λb o hb hnf=>⟨o,(other b λz=>?_).trans hb,rfl⟩) _ _
   ·have bT:b≠T:=λz=>t7.elim (λy=>nr (z▸y)) λy=>by rw[z,y]at q;cases q
    obtain⟨c1,c2⟩:=hkeep b o q nr
    exact⟨λz=>(other b bT).trans (c1 z),λz=>let⟨sl,w⟩:=c2 z;⟨sl,(other b bT).trans w⟩⟩
   ·exact(other b λz=>by rw[z,t6]at q;cases q).trans (h12 b o q)
   ·rw[z,t2]at hb;cases hb;exact hnf _ t3
  ·cases z
   refine wpAny_bind (wpAny_field t2 t3 t4 ?_)
   rw[if_pos (show((rawInt L==rawInt L)=true) from by simp)]
   exact wpAny_pure (k s a T fs ts ⟨⟨G',d,oT,es,n,vs,rfl,h2,h3,h4,t1,t2,t3,t4,t5,t6,t7,h6,h7,h8,h9,h10,h11,h12,h13,hGL⟩,hkeep,hg,hos⟩ ⟨oL,hL1,hL2⟩)
theorem leave_fly {env:Env}{L:Addr}{Q:Unit->Shared->Prop}(hf:env.frame=some L)(hk:env.scope.kind≠ .module)(hfr:A.frames=some (env::e.outer))(fo:FrOK e.H e.ρ e.G e.outer)(h:Fly B (some L) e C ks l G x s)
  (k:∀s',Fly B none e C ks l G x s'->Q () s'):wpAny M A (leaving env x) Q E s:=by
 unfold leaving
 refine wpAny_bind (note_fly hf hk hfr fo h λs' a T fs ts hT hL=>?_)
 obtain⟨⟨G',d,oT,es,n,vs,rfl,h2,h3,h4,t1,t2,t3,t4,t5,t6,t7,h6,h7,h8,h9,h10,h11,h12,h13,h14⟩,hkeep,hg,ho⟩:=hT
 unfold setFlight
 refine wpAny_bind (wpAny_field h3 rfl t1 ?_)
 rw[if_pos (show(Value.ref T !=Value.none)=true from by simp)]
 refine wpAny_setField t2 t3 (Array.getElem?_eq_some_iff.mp t4).1 (k _ ?_)
 have other:∀b,b≠T->(s'.heap.update T (Obj.mapFields (·.setIfInBounds 3 Value.none))).get? b=s'.heap.get? b:=λb hb=>Heap.get?_update_other _ _ (Ne.symm hb)
 have hd:=Obj.data_mapFields t3 (·.setIfInBounds 3 Value.none)
 have hT':=Heap.get?_update_self (Obj.mapFields (·.setIfInBounds 3 Value.none)) t2 (Obj.isFreed_of_fields hd)
 refine⟨⟨G',a,d,fs,es,n,vs,rfl,h2,(other a (Ne.symm t5)).trans h3,h4,.inr ⟨T,_,_,t1,hT',hd,.inl ?_,t5,t6,t7⟩,h6,h7,h8,h9,h10,h11,λb o q=>(other b λz=>?_).trans (h12 b o q),h13,λL z=>(by cases z)⟩,λb o q nr=>?_,λL z=>(by cases z),hg,ho⟩
 ·rw[Array.getElem?_setIfInBounds_self_of_lt (Array.getElem?_eq_some_iff.mp t4).1]
 ·rw[z,t6]at q;cases q
 ·have bT:b≠T:=λz=>t7.elim (λy=>nr (z▸y)) λy=>by rw[z,y]at q;cases q
  obtain⟨c1,c2⟩:=hkeep b o q nr
  exact⟨λz=>(other b bT).trans (c1 z),λz=>let⟨sl,w⟩:=c2 z;⟨sl,(other b bT).trans w⟩⟩
end
def Binds (K:Frag)(fd:FuncData)(k:Nat)(names:List Str)(dvs:List Value):Prop:=
 ∀ (s:Shared) (vs:List Value),K.In s.heap->vs.length=k->BindsTo s fd ⟨vs,[]⟩ (names.zip (vs++dvs))
def StatVs (as:List AV)(vs:List Value):Prop:=∀ρ G,RepVs ρ G as vs
noncomputable def outOf:Fl->Out
 | .next=>.ret .none
 | .ret a=>.ret a
 | .ex C ks l=>.ex C ks l
theorem zip_lk {ρ:List Addr}{G:Gh}:∀ {names:List Str} {as:List AV} {vs:List Value},names.Nodup->RepVs ρ G as vs->∀x av,lk (names.zip as) x=some av->∃v,(names.zip vs).reverse.lookup x=some v/\RepV ρ G av v
 | [],_,_,_,_,x,av,h=>by cases h
 |n::ns,[],[],_,_,x,av,h=>by cases h
 |n::ns,a::as,v::vs,hd,⟨r1,r2⟩,x,av,h=>by
  obtain⟨d1,d2⟩:=List.nodup_cons.mp hd
  have hcut:∀ (l:List (Str×Value)) (p:Str×Value) (y:Str),(l++[p]).lookup y=match l.lookup y with|some u=>some u|none=>if y=p.1 then some p.2 else none:=by
   intro l p y
   induction l with
   |nil=>
    show List.lookup y [p]=_
    simp only[List.lookup]
    by_cases h:y=p.1
    ·rw[show(y==p.1)=true from by simpa using h,if_pos h]
    ·rw[show(y==p.1)=false from by simpa using h,if_neg h]
   |cons q l ih=>
    simp only[List.cons_append,List.lookup]
    by_cases h:y=q.1
    ·rw[show(y==q.1)=true from by simpa using h]
    ·rw[show(y==q.1)=false from by simpa using h];exact ih
  rw[List.zip_cons_cons,List.reverse_cons,hcut]
  unfold lk at h
  rw[List.zip_cons_cons]at h
  dsimp only at h
  by_cases e:n=x
  ·rw[decide_eq_true e]at h
   cases h
   have:(ns.zip vs).reverse.lookup x=none:=by
    have:∀l:List (Str×Value),(∀p∈l,p.1≠x)->l.lookup x=none:=by
     intro l
     induction l with
     |nil=>intro _;rfl
     |cons q l ih=>intro hq;simp only[List.lookup];rw[show(x==q.1)=false from by simpa using λz=>hq q (.head _) z.symm];exact ih λp hp=>hq p (.tail _ hp)
    refine this _ λp hp=>?_
    rw[List.mem_reverse]at hp
    obtain⟨p1,p2⟩:=p
    have:=(List.of_mem_zip hp).1
    intro z
    exact d1 (by rw[e,<-z];exact this)
   rw[this]
   exact⟨v,by simp[e],r1⟩
  ·rw[decide_eq_false e]at h
   obtain⟨u,u1,u2⟩:=zip_lk d2 r2 x av h
   exact⟨u,by rw[u1],u2⟩
inductive AftW (B:Heap)(f:Fm)(e:En)(G:Gh)(c':St)(s':Shared)(P:List Addr->Gh->Prop):Prop
 |mk (ρ':List Addr) (G':Gh) (q:Sub G G') (i:In B f e c' ρ' G' s') (r:P ρ' G')
inductive AftW0 (B:Heap)(f:Fm)(e:En)(G:Gh)(c':St)(s':Shared):Prop
 |mk (ρ':List Addr) (G':Gh) (q:Sub G G') (i:In B f e c' ρ' G' s')
def QF' (B:Heap)(f:Fm)(e:En)(G:Gh)(r:Fl)(c':St)(fl:Flow)(s':Shared):Prop:=match r,fl with
 | .next,.next=>AftW0 B f e G c' s'
 | .ret a,.ret v=>AftW B f e G c' s' λρ' G'=>RepV ρ' G' a v
 |_,_=>False
def TF' (X:Cx)(t:Sem Flow)(c:St)(r:Fl)(c':St):Prop:=
 ∀ (A:Around) (ρ:List Addr) (G:Gh) (s:Shared),Rm A X.n (X.f.env::X.e.outer)->FrOK X.e.H X.e.ρ X.e.G X.e.outer->In X.B X.f X.e c ρ G s->
  wpAny (model X.prog X.w) A t (QF' X.B X.f X.e G r c') (QXf X.B X.f X.e G r) s
theorem QF.weak {B:Heap}{f:Fm}{e:En}{ρ:List Addr}{G:Gh}{r:Fl}{c:St}{fl:Flow}{s:Shared}(h:QF B f e ρ G r c fl s):QF' B f e G r c fl s:=by
 cases r<;>cases fl<;>first|exact h.elim|skip
 ·obtain⟨ρ',G',p,q,i⟩:=h;exact⟨ρ',G',q,i⟩
 ·obtain⟨ρ',G',p,q,i,r⟩:=h;exact⟨ρ',G',q,i,r⟩
theorem TF.weak {X:Cx}{t:Sem Flow}{c c':St}{r:Fl}(h:TF X t c r c'):TF' X t c r c':=λA ρ G s rm fo i=>wpAny_mono (h A ρ G s rm fo i) (λ_ _ z=>z.weak) λ_ _ z=>z
theorem call_def {prog:Program}{w:World}{B:Heap}{K:Frag}{T:Tab}{n k:Nat}{f:Addr}{name qual:Str}{params:Arguments}{body:List Stmt}{scope:Scope}{dV kV doc pm cdv ct oc:Value}{an od:Option Addr}{osl:Array (Option Value)}
  {names:List Str} {das:List AV} {dvs:List Value} {args:List AV} {obj obj':List AO} {fl:Fl}
  (X:K.In B) (hlim:B.NoLimit)
  (ho:K.lookup f=some ⟨oc,od,.func (fnOf name qual params body scope dV kV doc pm an cdv ct),osl⟩) (hcd:codeIn K cdv qual=true)
  (hb:Binds K (fnOf name qual params body scope dV kV doc pm an cdv ct) k names dvs) (hs:StatVs das dvs) (hk:args.length=k) (hnd:names.Nodup)
  (hloc:∀y∈names,scope.names.lookup y=some .local) (hcell:∀x∈scope.names,x.2≠ .cell)
  (h:∀e L,e.ρ.length=obj.length->∃loc',TF' ⟨prog,w,B,K,T,⟨qual,scope,L,f,cdv,[],none⟩,e,n⟩ (execs body (envOf qual scope L f cdv)) ⟨names.zip (args++das),obj⟩ fl ⟨loc',obj'⟩)
  (hco:scope.isCoroutine=false:=by rfl) (hgen:scope.isGenerator=false:=by rfl) (hkd:scope.kind=.function:=by rfl):
  CallOK prog w B (n+1) (.ref f) args obj (outOf fl) obj':=by
 intro A ρ G s vs fr rm fo H r
 have pre:=H.pre (c:=⟨[],obj⟩)
 have XS:K.In s.heap:=X.keeps pre
 have hL:s.heap.get? s.heap.objs.size=none:=Heap.get?_none_of_le (Nat.le_refl _)
 refine codeAny_call_def (fd:=fnOf name qual params body scope dV kV doc pm an cdv ct) (body:=body) (binds:=names.zip (vs++dvs)) (by have:=rm.depth;lia) (XS _ _ ho) rfl (hlim.keeps pre) (codeRec_of XS hcd) rfl (hb s vs XS (by rw[r.len,hk])) hcell
  (λy hy=>hloc _ (List.of_mem_zip (a:=y.1) (b:=y.2) hy).1) (λh₀ hns hkeep=>?_) hco hgen hkd
 obtain⟨loc',hT⟩:=h ⟨s.heap,ρ,G,fr,s.os⟩ s.heap.objs.size H.len
 have hLρ:s.heap.objs.size∉ρ:=λz=>by obtain⟨o,q⟩:=H.there _ z;rw[hL]at q;cases q
 have hLG:G s.heap.objs.size=none:=by
  cases q:G s.heap.objs.size with
  |none=>rfl
  |some o=>rw[H.frz _ o q]at hL;cases hL
 have I:In B ⟨qual,scope,s.heap.objs.size,f,cdv,[],none⟩ ⟨s.heap,ρ,G,fr,s.os⟩ ⟨names.zip (args++das),obj⟩ ρ G {s with heap:=h₀,toks:=s.toks+(names.zip (vs++dvs)).length}:=by
  refine⟨⟨H.base,λb o q=>hkeep _ _ (H.frz b o q),H.len,H.nd,λa ha=>let⟨o,q⟩:=H.there a ha;⟨o,hkeep _ _ q⟩,λi ao q nd=>?_,H.gens⟩,⟨λb o q nr=>⟨λ_=>hkeep _ _ q,λ_=>⟨o.slots,hkeep _ _ q⟩⟩,PreA.refl _,λa ha=>.inl ha,λa o ha=>.inl ⟨o,ha⟩,rfl,Sub.refl _⟩,⟨⟨_,hns,λx av q _=>zip_lk hnd (RepVs.app r (hs ρ G)) x av q⟩,hLρ,hLG,hL,λx c q=>by cases q⟩⟩
  obtain⟨a,o,h1,h2,h3,h4⟩:=H.live i ao q nd
  exact⟨a,o,h1,hkeep _ _ h2,h3,h4⟩
 have rm':Rm (A.deeper (envOf qual scope s.heap.objs.size f cdv)) n (envOf qual scope s.heap.objs.size f cdv::fr):=
  ⟨by have:=rm.depth;show A.depth+1+n<_;lia,by have:=rm.units;show A.units+3+_+_<_;lia,rm.handled,rm.guards,Around.frames_deeper rm.frames⟩
 refine wpAny_mono (hT _ ρ G _ rm' fo I) (λv s' z=>?_) λx s' z=>?_
 ·cases fl with
  |next=>
   cases v<;>first|exact z.elim|skip
   obtain⟨ρ',G',q,i⟩:=z
   exact⟨ρ',G',i.r.pre,q,i.h,i.r,rfl⟩
  |ret a=>
   cases v<;>first|exact z.elim|skip
   obtain⟨ρ',G',q,i,r⟩:=z
   exact⟨ρ',G',i.r.pre,q,i.h,i.r,r⟩
  |ex=>cases v<;>exact z.elim
 ·cases fl with
  |ex C ks l=>
   refine leave_fly (e:=⟨s.heap,ρ,G,fr,s.os⟩) rfl ?_ (Around.frames_deeper rm.frames) fo z λs'' z'=>z'
   show scope.kind≠ .module
   rw[hkd];decide
  |_=>exact z.elim
noncomputable def nsA:AO->Option (List Str×List AV)
 | .ns ks xs=>some (ks,xs)
 |_=>none
theorem nsA_at {ao:AO}{p:List Str×List AV}(h:nsA ao=some p):ao=.ns p.1 p.2:=by cases ao<;>first| (cases h;rfl)|cases h
theorem nsA_get {obj:List AO}{j:Nat}{p:List Str×List AV}(h:obj[j]?.bind nsA=some p):obj[j]? =some (.ns p.1 p.2):=
 let⟨_,q,h⟩:=Option.bind_eq_some_iff.mp h;nsA_at h▸q
noncomputable def instA:AO->Option (Addr×Nat)
 | .inst C j=>some (C,j)
 |_=>none
theorem instA_at {ao:AO}{p:Addr×Nat}(h:instA ao=some p):ao=.inst p.1 p.2:=by cases ao<;>first| (cases h;rfl)|cases h
noncomputable def lkk {α:Type}(ks:List Str)(vs:List α)(x:Str):Option α:=lk (ks.zip vs) x
noncomputable def putK {α:Type}:List Str->List α->Str->α->List Str×List α
 | [],_,x,u=>([x],[u])
 |k::ks,vs,x,u=>cond (decide (k=x)) (k::ks,u::vs.tail) (k::(putK ks vs.tail x u).1,vs.headD u::(putK ks vs.tail x u).2)
theorem KeysAre.ind {P:List DictEntry->List Str->List Value->Prop}(n:P [] [] [])(c:∀e es k ks vs t,e.key=.str k t->KeysAre es ks vs->P es ks vs->P (e::es) (k::ks) (e.val::vs)){es:List DictEntry}:∀ {ks:List Str} {vs:List Value},KeysAre es ks vs->P es ks vs:=by
 induction es with
 |nil=>
  intro ks vs h
  cases ks with
  |nil=>
   cases vs with
   |nil=>exact n
   |cons _ _=>exact h.elim
  |cons _ _=>exact h.elim
 |cons e es ih=>
  intro ks vs h
  cases ks with
  |nil=>exact h.elim
  |cons k ks=>
   cases vs with
   |nil=>exact h.elim
   |cons v vs=>
    obtain⟨⟨t,h1⟩,rfl,h3⟩:=h
    exact c e es k ks vs t h1 h3 (ih h3)
theorem keys_str {es:List DictEntry}{ks:List Str}{vs:List Value}(h:KeysAre es ks vs):(es.any (·.refKey))=false/\es.length=ks.length:=
 h.ind (P:=λes ks _=>(es.any (·.refKey))=false/\es.length=ks.length) ⟨rfl,rfl⟩ λe es k ks vs t q _ ih=>⟨by rw[List.any_cons,ih.1,Bool.or_false];unfold DictEntry.refKey;rw[q],congrArg (· +1) ih.2⟩
theorem isStr_at {e:DictEntry}{k x:Str}{t:Tok}(h:e.key=.str k t):e.key.isStr x=decide (k=x):=by
 rw[h];show(k==x)=_
 by_cases q:k=x<;>simp[q]
noncomputable def Found (ρ:List Addr)(G:Gh)(x:Str)(es:List DictEntry):Option AV->Prop
 |some a=>∃e,es.find? (·.key.isStr x)=some e/\RepV ρ G a e.val
 |none=>es.find? (·.key.isStr x)=none
theorem keys_find {ρ:List Addr}{G:Gh}(x:Str){es:List DictEntry}{ks:List Str}{vs:List Value}(h:KeysAre es ks vs):∀ {xs:List AV},RepVs ρ G xs vs->Found ρ G x es (lkk ks xs x):=
 h.ind (P:=λes ks vs=>∀ {xs:List AV},RepVs ρ G xs vs->Found ρ G x es (lkk ks xs x)) (λ_=>rfl) λe es k ks vs t h1 _ ih xs r=>by
  obtain⟨a,xs,rfl,r1,r2⟩:=r.inv
  have ih:=ih r2
  by_cases q:k=x
  ·rw[show lkk (k::ks) (a::xs) x=some a from lk_hit q]
   exact⟨e,by rw[List.find?_cons,isStr_at h1,decide_eq_true q],r1⟩
  ·rw[show lkk (k::ks) (a::xs) x=lkk ks xs x from lk_miss q]
   have e1:(e::es).find? (·.key.isStr x)=es.find? (·.key.isStr x):=by rw[List.find?_cons,isStr_at h1,decide_eq_false q]
   unfold Found at ih ⊢
   rw[e1];exact ih
theorem lookIn_some {ρ:List Addr}{G:Gh}{es:List DictEntry}{n:Nat}{x:Str}{ks:List Str}{vs:List Value}{xs:List AV}{a:AV}(k:KeysAre es ks vs)(r:RepVs ρ G xs vs)(h:lkk ks xs x=some a):
  ∃v,lookIn x (dictOf es n)=some (some v)/\RepV ρ G a v:=by
 have:=keys_find x k r
 rw[h]at this
 obtain⟨e,e1,e2⟩:=this
 exact⟨e.val,by unfold lookIn;simp only[];rw[e1],e2⟩
theorem lookIn_none {ρ:List Addr}{G:Gh}{es:List DictEntry}{n:Nat}{x:Str}{ks:List Str}{vs:List Value}{xs:List AV}(k:KeysAre es ks vs)(r:RepVs ρ G xs vs)(h:lkk ks xs x=none):
  lookIn x (dictOf es n)=some none:=by
 have:=keys_find x k r
 rw[h]at this
 unfold lookIn;simp only[];rw[this]
 dsimp only
 rw[(keys_str k).1];rfl
theorem keys_put {ρ:List Addr}{G:Gh}{x:Str}{a:AV}{v:Value}{hsh:Int}{t:Tok}(r₀:RepV ρ G a v)(es:List DictEntry){ks:List Str}{vs:List Value}{xs:List AV}(h:KeysAre es ks vs)(r:RepVs ρ G xs vs):
  ∃vs',KeysAre (putIn (·.key.isStr x) (λe=> {e with val:=v}) ⟨hsh,.str x t,v⟩ es) (putK ks xs x a).1 vs'/\RepVs ρ G (putK ks xs x a).2 vs':=
 h.ind (P:=λes ks vs=>∀ {xs:List AV},RepVs ρ G xs vs->∃vs',KeysAre (putIn (·.key.isStr x) (λe=> {e with val:=v}) ⟨hsh,.str x t,v⟩ es) (putK ks xs x a).1 vs'/\RepVs ρ G (putK ks xs x a).2 vs')
  (λ_=>⟨[v],⟨⟨t,rfl⟩,rfl,trivial⟩,r₀,trivial⟩) (λe es k ks vs t' h1 h3 ih xs r=>by
   obtain⟨b,xs,rfl,r1,r2⟩:=r.inv
   obtain⟨vs',a1,a2⟩:=ih r2
   cases q:decide (k=x)with
   |true=>
    rw[putIn_hit (λe:DictEntry=>e.key.isStr x) _ _ e es ((isStr_at h1).trans q)]
    unfold putK
    rw[q]
    exact⟨v::vs,⟨⟨t',h1⟩,rfl,h3⟩,r₀,r2⟩
   |false=>
    rw[putIn_miss (λe:DictEntry=>e.key.isStr x) _ _ e es ((isStr_at h1).trans q)]
    unfold putK
    rw[q]
    exact⟨e.val::vs',⟨⟨t',h1⟩,rfl,a1⟩,r1,a2⟩) r
noncomputable def instD:D->Option (Addr×List Str×List AV)
 | .inst C ks l=>some (C,ks,partsOfD l)
 |_=>none
noncomputable def instAt (c:St):AV->Option (Addr×List Str×List AV)
 | .ref i=>(c.obj[i]?.bind instA).bind λp=>(c.obj[p.2]?.bind nsA).map λq=>(p.1,q)
 | .dat d=>instD d
 |_=>none
theorem inst_at {B:Heap}{f:Fm}{e:En}{c:St}{ρ:List Addr}{G:Gh}{s:Shared}{a:AV}{v:Value}{C:Addr}{ks:List Str}{xs:List AV}(h:instAt c a=some (C,ks,xs))(i:In B f e c ρ G s)(r:RepV ρ G a v):
  ∃x dx es n vs,v=.ref x/\InstAt s.heap x (instObj C dx) C (some (dictOf es n))/\KeysAre es ks vs/\RepVs ρ G xs vs:=by
 cases a with
 |ref j=>
  obtain⟨⟨C',k⟩,h1,h⟩:=Option.bind_eq_some_iff.mp h
  obtain⟨ao,q,h1⟩:=Option.bind_eq_some_iff.mp h1
  rw[instA_at h1]at q
  obtain⟨⟨ks',xs'⟩,h2,h⟩:=Option.map_eq_some_iff.mp h
  have q':=nsA_get h2
  cases h
  obtain⟨x,hx,hv⟩:=r
  obtain⟨x',o,h1,h2,⟨dx,h3,ho⟩,_⟩:=i.h.live j _ q nofun
  obtain⟨dx',o',g1,g2,⟨es,n,vs,g3,g4,g5⟩,_⟩:=i.h.live k _ q' nofun
  exact⟨x,dx,es,n,vs,hv,⟨Option.some.inj (h1.symm.trans hx)▸ho▸h2,rfl,rfl,Option.some.inj (g1.symm.trans h3)▸g3▸g2⟩,g4,g5⟩
 |dat d=>
  cases d with
  |inst C' ks' l=>
   cases h
   obtain⟨_,_,_,_,_,rfl,e1,e2,k,rs⟩:=RepD.inv r
   exact⟨_,_,_,_,_,rfl,⟨i.h.frz _ _ e1,rfl,rfl,i.h.frz _ _ e2⟩,k,parts_rep rs⟩
  |_=>cases h
 |_=>cases h
noncomputable def notBlt:AV->Bool
 | .blt _=>false
 |_=>true
theorem handed_of {ρ:List Addr}{G:Gh}{a:AV}{v:Value}(h:notBlt a=true)(r:RepV ρ G a v):handedIn v=true:=by
 cases a with
 |blt=>cases h
 |dat d=>cases r<;>rfl
 |ref=>obtain⟨_,_,rfl⟩:=r;rfl
 |int=>obtain⟨_,rfl⟩:=r;rfl
 |str=>obtain⟨_,rfl⟩:=r;rfl
 |_=>obtain rfl:=r;rfl
noncomputable def plainAttr (K:Frag)(C:Addr)(x:Str):Bool:=
 (clsIn K C).any (·.hasDict)&&findIn K (.ref C) x==some none&&findIn K (.ref C) "__getattribute__" ==some (some (.builtin "object.__getattribute__"))
section
variable {X:Cx}{c c₁ c₂ c₃:St}
theorem get_attr {A:Around}{ρ:List Addr}{G:Gh}{s:Shared}{a b:AV}{v:Value}{C:Addr}{ks:List Str}{xs:List AV}{x:Str}{expr:Bool}{Q:Value->Shared->Prop}{E:Value->Shared->Prop}(K:X.K.In X.B)(i:In X.B X.f X.e c ρ G s)(r:RepV ρ G a v)
  (h:instAt c a=some (C,ks,xs)) (hx:lkk ks xs x=some b) (hp:plainAttr X.K C x=true) (hb:notBlt b=true)
  (k:∀u,RepV ρ G b u->Q u {s with toks:=s.toks+1}):wpAny (model X.prog X.w) A (getAttr v x expr) Q E s:=by
 obtain⟨y,dx,es,n,vs,rfl,I,hk,hv⟩:=inst_at h i r
 obtain⟨u,hu,ru⟩:=lookIn_some (n:=n) hk hv hx
 unfold plainAttr at hp
 simp only[Bool.and_eq_true,beq_iff_eq]at hp
 obtain⟨⟨p1,p2⟩,p3⟩:=hp
 obtain⟨cd,hc,hd⟩:=any_some p1
 refine get_value (K.keeps i.h.pre) I p3 (v:=u) ?_ (handed_of hb ru) (k u ru)
 unfold findObj
 rw[hc,Option.bind_some,p2,Option.bind_some]
 dsimp only
 rw[Option.bind_some,Option.bind_some]
 dsimp only
 unfold PySem.W.ownOf
 rw[hd,if_pos rfl]
 dsimp only
 rw[hu,Option.bind_some]
theorem tv_attr {o attr pos}{a b:AV}{C:Addr}{ks:List Str}{xs:List AV}(K:X.K.In X.B)(ho:TV X (eval o X.f.env) c (.ok a) c₁)(h:instAt c₁ a=some (C,ks,xs))(hx:lkk ks xs attr=some b)(hp:plainAttr X.K C attr=true)(hb:notBlt b=true)
  (he:eval (.Attribute o attr pos) X.f.env=(do
   let o'<-eval o X.f.env
   standAt pos.atName
   let r<-holding [o'] (getAttr o' attr true)
   letTemporaryGo o o' r
   pure r)):TV X (eval (.Attribute o attr pos) X.f.env) c (.ok b) c₁:=λA ρ G s rm fo i=>by
 refine Attribute_any_ (wp_then ho rm fo i λva s₁ ρ₁ G₁ p₁ q₁ i₁ r₁=>get_attr K i₁ r₁ h hx hp hb λu ru=>⟨ρ₁,G₁,p₁,q₁,i₁.toks,ru⟩) he
theorem tv_attr_x {o attr pos C ks d}(ho:TV X (eval o X.f.env) c (.ex C ks d) c₁)
  (he:eval (.Attribute o attr pos) X.f.env=(do
   let o'<-eval o X.f.env
   standAt pos.atName
   let r<-holding [o'] (getAttr o' attr true)
   letTemporaryGo o o' r
   pure r)):TV X (eval (.Attribute o attr pos) X.f.env) c (.ex C ks d) c₁:=λA ρ G s rm fo i=>
 Attribute_any_ (wp_ex ho rm fo i λx s' z=>z) he
noncomputable def setsAttr (K:Frag)(C:Addr)(x:Str):Bool:=
 (clsIn K C).any (·.hasDict)&&findIn K (.ref C) x==some none&&plainOver K C&&findIn K (.ref C) "__setattr__" ==some (some (.builtin "object.__setattr__"))
theorem set_attr {A:Around}{ρ:List Addr}{G:Gh}{s:Shared}{b:AV}{v u:Value}{C:Addr}{j k:Nat}{ks:List Str}{xs:List AV}{x:Str}{Q:Unit->Shared->Prop}{E:Value->Shared->Prop}(K:X.K.In X.B)(i:In X.B X.f X.e c ρ G s)(r:RepV ρ G (.ref j) v)(r':RepV ρ G b u)
  (h1:c.obj[j]? =some (.inst C k)) (h2:c.obj[k]? =some (.ns ks xs)) (hp:setsAttr X.K C x=true) (hz:ks.length<=900)
  (hQ:∀s',In X.B X.f X.e ⟨c.loc,c.obj.set k (.ns (putK ks xs x b).1 (putK ks xs x b).2)⟩ ρ G s'->Q () s'):wpAny (model X.prog X.w) A (setAttr v x u) Q E s:=by
 have KS:=K.keeps i.h.pre
 obtain⟨y,hy,rfl⟩:=r
 obtain⟨y',o,g1,g2,⟨dx,g3,rfl⟩,_⟩:=i.h.live j _ h1 (by intro z;cases z)
 rw[hy]at g1;cases g1
 obtain⟨dx',o',f1,f2,⟨es,n,vs,rfl,f4,f5⟩,f6⟩:=i.h.live k _ h2 (by intro z;cases z)
 rw[g3]at f1;cases f1
 have I:InstAt s.heap y (instObj C dx) C (some (dictOf es n)):=⟨g2,rfl,rfl,f2⟩
 unfold setsAttr at hp
 simp only[Bool.and_eq_true,beq_iff_eq]at hp
 obtain⟨⟨⟨p1,p2⟩,p3⟩,p4⟩:=hp
 obtain⟨cd,hc,hd⟩:=any_some p1
 refine set_plain KS I p4 ?_
 refine osa_open (s:= {s with toks:=s.toks+1}) KS I p3 (r:=none) (by unfold takerIn;rw[p2];rfl) λb'=>?_
 refine wpAny_bind (wpAny_pure (wpAny_bind (wpAny_bind (wpAny_loadPart g2 ?_))))
 dsimp only
 refine wpAny_bind ((looks_clsIn KS hc) _ _ _ _ (λ_ _ e=>e) ?_)
 rw[hd]
 refine wpAny_pure (a:=some dx) (wpAny_bind (wpAny_pure (wpAny_bind ?_)))
 unfold nsSet
 refine wpAny_bind (wpAny_bind (wpAny_askSetting (wpAny_pure (wpAny_bind (wpAny_mkText (wpAny_bind (wpAny_loadPart f2 ?_)))))))
 dsimp only
 have c0:(!es.toArray.any (·.key.isStr x)&&es.toArray.any (·.refKey))=false:=by
  rw[<-Array.any_toList,<-Array.any_toList]
  show(_&&es.any (·.refKey))=false
  rw[(keys_str f4).1,Bool.and_false]
 rw[aRefKeyMayBeTheName_at,c0]
 refine wpAny_updatePart f2 ?_
 obtain⟨vs',w1,w2⟩:=keys_put (hsh:=PyData.keyHash X.w.params x) (t:=s.toks+1) (x:=x) r' es f4 f5
 have hl:=(keys_str w1).2
 have hlen:(putK ks xs x b).1.length<=ks.length+1:=by
  have:∀ (ks:List Str) (xs:List AV),(putK ks xs x b).1.length<=ks.length+1:=by
   intro ks
   induction ks with
   |nil=>intro xs;exact Nat.le_refl _
   |cons a r ih=>
    intro xs
    unfold putK
    cases decide (a=x)with
    |true=>exact Nat.le_succ _
    |false=>exact Nat.succ_le_succ (ih xs.tail)
  exact this ks xs
 have D':=Heap.get?_update_self (Obj.putName x (PyData.keyHash X.w.params x) (.str x (s.toks+1)) u) f2 (by rw[putName_eq];rfl)
 rw[putName_eq]at D'
 refine wpAny_bind (wpAny_lookBehind D' (pastItsLine_dict (by rw[List.size_toArray,hl,sizeLine_eq];lia)) ?_)
 refine wpAny_pure (hQ _ ?_)
 refine i.upd h2 (by intro z;cases z) g3 (λb o nb q=>?_) D' ⟨_,_,vs',rfl,w1,w2⟩ rfl rfl
 exact(Heap.get?_update_other _ _ (Ne.symm nb)).trans q
end
section
variable {X:Cx}{c c₁ c₂ c₃:St}
noncomputable def plainArgs (l:List Expr):Bool:=l.all notStar
theorem plain_any {pos:Pos}{env:Env}:∀ {l:List Expr},plainArgs l=true->(backTo pos (starEach l env)).any (·.1)=false
 | [],_=>rfl
 |e::r,h=>by
  have h:=Bool.and_eq_true_iff.mp h
  rw[star_cons h.1]
  exact plain_any h.2
theorem evalArgs_nil_of {M:Model}{A:Around}{E:Value->Shared->Prop}{s:Shared}{f:Value}{Q:Args->Shared->Prop}
  (h:wpAny M A (spliced []) (λvs s'=>Q ⟨vs,[]⟩ s') E s):wpAny M A (evalArgs f true [] []) Q E s:=by
 unfold evalArgs
 show wpAny M A (spliced []>>=_) Q E s
 refine wpAny_bind (wpAny_mono h (λvs s' h'=>?_) λ_ _ x=>x)
 refine wpAny_bind (wpAny_pure ?_)
 refine wpAny_holding ?_
 exact wpAny_bind (wpAny_pure (wpAny_bind (wpAny_pure (wpAny_pure h'))))
theorem wp_callP {env:Env}{A:Around}{s:Shared}{fv:Value}{first:List Value}{args:List Expr}{pos:Pos}{Q:Value->Shared->Prop}{E:Value->Shared->Prop}{P:Heap->Prop}
  (hk:∀h,P h->∃k,(k=Keeper.frame\/k=Keeper.machine\/k=Keeper.boundFrame)/\Looks (model X.prog X.w) h (keeperOf fv) k) (hp:plainArgs args=true) (h:wpAny (model X.prog X.w) A (spliced (backTo pos (starEach args env))) (λvs s'=>P s'.heap/\wpAny (model X.prog X.w) A (call fv (first++vs)) Q E s') E s):
  wpAny (model X.prog X.w) A (callWith pos fv first (backTo pos (starEach args env)) []) Q E s:=by
 have z:=plain_any (pos:=pos) (env:=env) hp
 cases args with
 |nil=>exact callWith_of rfl hk (evalArgs_nil_of h)
 |cons e rest=>
  rw[star_cons (List.all_eq_true.mp hp e (.head _))]at h z ⊢
  exact callWith_of (by rw[Bool.or_eq_false_iff];exact⟨z,rfl⟩) hk (evalArgs_plain h)
theorem wp_callWith {env:Env}{A:Around}{s:Shared}{fv:Value}{first:List Value}{args:List Expr}{pos:Pos}{Q:Value->Shared->Prop}{E:Value->Shared->Prop}
  (hk:keepIn X.K fv=true) (hp:plainArgs args=true) (h:wpAny (model X.prog X.w) A (spliced (backTo pos (starEach args env))) (λvs s'=>X.K.In s'.heap/\wpAny (model X.prog X.w) A (call fv (first++vs)) Q E s') E s):
  wpAny (model X.prog X.w) A (callWith pos fv first (backTo pos (starEach args env)) []) Q E s:=wp_callP (keeps_K hk) hp h
theorem wp_callM {env:Env}{A:Around}{s:Shared}{fv:Value}{first:List Value}{args:List Expr}{pos:Pos}{Q:Value->Shared->Prop}{E:Value->Shared->Prop}
  (hk:∀h,Looks (model X.prog X.w) h (keeperOf fv) .machine) (hp:plainArgs args=true) (h:wpAny (model X.prog X.w) A (spliced (backTo pos (starEach args env))) (λvs s'=>wpAny (model X.prog X.w) A (call fv (first++vs)) Q E s') E s):
  wpAny (model X.prog X.w) A (callWith pos fv first (backTo pos (starEach args env)) []) Q E s:=wp_callP (P:=λ_=>True) (λh _=>⟨.machine,.inr (.inl rfl),hk h⟩) hp (wpAny_mono h (λ_ _ z=>⟨trivial,z⟩) λ_ _ z=>z)
theorem tv_call {env:Env}{func args pos}{fa:AV}{fv:Value}{as args':List AV}{sel:List Nat}{view obj':List AO}{out:Out}{k:Nat}(K:X.K.In X.B)(hfun:isFun X.f=true)
  (hf:TV X (eval func env) c (.ok fa) c₁) (hv:∀ρ G v,RepV ρ G fa v->v=fv) (hkeep:keepIn X.K fv=true) (hp:plainArgs args=true) (ha:TVs X (spliced (backTo pos (starEach args env))) c₁ (.ok as) c₂)
  (hn:k<=X.n) (hsel:selOK c₂ sel=true) (hw:viewO sel c₂.obj sel=some view) (ht:toVs sel as=some args') (hc:CallOK X.prog X.w X.B k fv args' view out obj')
  (he:eval (.Call func args [] pos) env=(do callWith pos (<-eval func env) [] (backTo pos (starEach args env)) (backToKw pos (keywordEach [] env)))):
  TV X (eval (.Call func args [] pos) env) c (rvOf sel c₂.obj.length out) ⟨c₂.loc,putBack sel c₂.obj.length sel obj' c₂.obj⟩:=λA ρ G s rm fo i=>by
 refine Call_ (wp_then hf rm fo i λv s₁ ρ₁ G₁ p₁ q₁ i₁ r₁=>?_) he
 cases hv _ _ _ r₁
 refine wp_callWith hkeep hp ?_
 refine wps_then ha rm fo i₁ λvs s₂ ρ₂ G₂ p₂ q₂ i₂ r₂=>⟨K.keeps i₂.h.pre,?_⟩
 exact wpAny_mono (wp_call hfun rm fo i₂ r₂ hn hsel hw ht hc) (λv s' z=>QV.up (p₁.trans p₂) (q₁.trans q₂) z) λx s' z=>QX.up (q₁.trans q₂) z
theorem tv_call_x {func args pos}{fa:AV}{fv:Value}{C ks d}(K:X.K.In X.B)
  (hf:TV X (eval func X.f.env) c (.ok fa) c₁) (hv:∀ρ G v,RepV ρ G fa v->v=fv) (hkeep:keepIn X.K fv=true) (hp:plainArgs args=true) (ha:TVs X (spliced (backTo pos (starEach args X.f.env))) c₁ (.ex C ks d) c₂)
  (he:eval (.Call func args [] pos) X.f.env=(do callWith pos (<-eval func X.f.env) [] (backTo pos (starEach args X.f.env)) (backToKw pos (keywordEach [] X.f.env)))):
  TV X (eval (.Call func args [] pos) X.f.env) c (.ex C ks d) c₂:=λA ρ G s rm fo i=>by
 refine Call_ (wp_then hf rm fo i λv s₁ ρ₁ G₁ p₁ q₁ i₁ r₁=>?_) he
 cases hv _ _ _ r₁
 refine wp_callWith hkeep hp ?_
 exact wps_ex ha rm fo i₁ λx s' z=>Fly.sub q₁ z
noncomputable def methOK (K:Frag)(C:Addr)(x:Str)(f:Addr):Bool:=
 findIn K (.ref C) "__getattribute__" ==some (some (.builtin "object.__getattribute__"))&&findIn K (.ref C) "__getattr__" ==some none&&findIn K (.ref C) x==some (some (.ref f))&&typeIn K (.ref f)==some (.type "function")&&keepIn K (.ref f)
theorem get_method {A:Around}{ρ:List Addr}{G:Gh}{s:Shared}{a:AV}{v:Value}{C f:Addr}{ks:List Str}{xs:List AV}{x:Str}{pl:Sem Bool}{Q:Value×List Value->Shared->Prop}{E:Value->Shared->Prop}(K:X.K.In X.B)(i:In X.B X.f X.e c ρ G s)(r:RepV ρ G a v)
  (h:instAt c a=some (C,ks,xs)) (hx:lkk ks xs x=none) (hm:methOK X.K C x f=true) (k:Q (.ref f,[v]) s):wpAny (model X.prog X.w) A (getMethod v x pl) Q E s:=by
 obtain⟨y,dx,es,n,vs,rfl,I,hk,hv⟩:=inst_at h i r
 unfold methOK at hm
 simp only[Bool.and_eq_true,beq_iff_eq]at hm
 obtain⟨⟨⟨⟨m1,m2⟩,m3⟩,m4⟩,m5⟩:=hm
 exact method_fn (K.keeps i.h.pre) I m1 m2 m3 m4 (by unfold shadowIn;dsimp only;rw[lookIn_none (n:=n) hk hv hx];rfl) k
theorem tv_method {env:Env}{pl:Sem Bool}{o name apos args pos}{a:AV}{f:Addr}{C:Addr}{ks:List Str}{xs:List AV}{as args':List AV}{sel:List Nat}{view obj':List AO}{out:Out}{k:Nat}(K:X.K.In X.B)(hfun:isFun X.f=true)
  (ho:TV X (eval o env) c (.ok a) c₁) (h:instAt c₁ a=some (C,ks,xs)) (hx:lkk ks xs name=none) (hm:methOK X.K C name f=true) (hp:plainArgs args=true) (ha:TVs X (spliced (backTo pos (starEach args env))) c₁ (.ok as) c₂)
  (hn:k<=X.n) (hsel:selOK c₂ sel=true) (hw:viewO sel c₂.obj sel=some view) (ht:toVs sel (a::as)=some args') (hc:CallOK X.prog X.w X.B k (.ref f) args' view out obj')
  (he:eval (.Call (.Attribute o name apos) args [] pos) env=(do
   let ov<-eval o env
   standAt apos.atName
   let(f,first) <-holding [ov] (getMethod ov name pl)
   callWith pos f first (backTo pos (starEach args env)) [])):
  TV X (eval (.Call (.Attribute o name apos) args [] pos) env) c (rvOf sel c₂.obj.length out) ⟨c₂.loc,putBack sel c₂.obj.length sel obj' c₂.obj⟩:=λA ρ G s rm fo i=>by
 refine MethodCall_ (wp_then ho rm fo i λv s₁ ρ₁ G₁ p₁ q₁ i₁ r₁=>get_method K i₁ r₁ h hx hm ?_) he
 have hm':=hm
 unfold methOK at hm'
 rw[Bool.and_eq_true]at hm'
 refine wp_callWith hm'.2 hp ?_
 refine wps_then ha rm fo i₁ λvs s₂ ρ₂ G₂ p₂ q₂ i₂ r₂=>⟨K.keeps i₂.h.pre,?_⟩
 exact wpAny_mono (wp_call (vs:=v::vs) (as:=a::as) hfun rm fo i₂ ⟨r₁.mono p₂ q₂,r₂⟩ hn hsel hw ht hc) (λv s' z=>QV.up (p₁.trans p₂) (q₁.trans q₂) z) λx s' z=>QX.up (q₁.trans q₂) z
theorem tv_method_o {pl:Sem Bool}{o name apos args pos}{C ks d}
  (ho:TV X (eval o X.f.env) c (.ex C ks d) c₁)
  (he:eval (.Call (.Attribute o name apos) args [] pos) X.f.env=(do
   let ov<-eval o X.f.env
   standAt apos.atName
   let(f,first) <-holding [ov] (getMethod ov name pl)
   callWith pos f first (backTo pos (starEach args X.f.env)) [])):
  TV X (eval (.Call (.Attribute o name apos) args [] pos) X.f.env) c (.ex C ks d) c₁:=λA ρ G s rm fo i=>
 MethodCall_ (wp_ex ho rm fo i λx s' z=>z) he
theorem tv_method_x {pl:Sem Bool}{o name apos args pos}{a:AV}{f:Addr}{C:Addr}{ks:List Str}{xs:List AV}{C' ks' d}(K:X.K.In X.B)
  (ho:TV X (eval o X.f.env) c (.ok a) c₁) (h:instAt c₁ a=some (C,ks,xs)) (hx:lkk ks xs name=none) (hm:methOK X.K C name f=true) (hp:plainArgs args=true) (ha:TVs X (spliced (backTo pos (starEach args X.f.env))) c₁ (.ex C' ks' d) c₂)
  (he:eval (.Call (.Attribute o name apos) args [] pos) X.f.env=(do
   let ov<-eval o X.f.env
   standAt apos.atName
   let(f,first) <-holding [ov] (getMethod ov name pl)
   callWith pos f first (backTo pos (starEach args X.f.env)) [])):
  TV X (eval (.Call (.Attribute o name apos) args [] pos) X.f.env) c (.ex C' ks' d) c₂:=λA ρ G s rm fo i=>by
 refine MethodCall_ (wp_then ho rm fo i λv s₁ ρ₁ G₁ p₁ q₁ i₁ r₁=>get_method K i₁ r₁ h hx hm ?_) he
 have hm':=hm
 unfold methOK at hm'
 rw[Bool.and_eq_true]at hm'
 exact wp_callWith hm'.2 hp (wps_ex ha rm fo i₁ λx s' z=>Fly.sub q₁ z)
end
section
variable {B:Heap}{s s₂ s':Shared}{ρ δ:List Addr}{G:Gh}{fr:List Env}
theorem FrOK.made {hh h₂:Heap}(fo:FrOK hh ρ G fr)(k:∀b o,hh.get? b=some o->h₂.get? b=some o)(no:∀a∈δ,hh.get? a=none):FrOK h₂ (ρ++δ) G fr:=λenv he=>by
 obtain⟨k',L,o,f1,f2,f3,f4,f5⟩:=fo env he
 exact⟨k',L,o,f1,k L o f2,f3,λz=>(List.mem_append.mp z).elim f4 λz=>none_of (no L z) f2,f5⟩
theorem AftC.made {obj':List AO}{av:AV}{v:Value}{x:Addr}{i:Nat}(k:∀b o,s.heap.get? b=some o->s₂.heap.get? b=some o)(no:∀a∈δ,s.heap.get? a=none)(hos:s₂.os=s.os)(hi:(ρ++δ)[i]? =some x)
  (z:AftC B ⟨s₂.heap,ρ++δ,G,fr,s₂.os⟩ (ρ++δ) G obj' s' av v):AftC B ⟨s.heap,ρ,G,fr,s.os⟩ ρ G obj' s' (.ref i) (.ref x):=by
 obtain⟨ρ',G',z1,z2,z3,z4,z5⟩:=z
 have fin:∀a,(a∈ρ++δ\/s₂.heap.get? a=none)->a∈ρ\/s.heap.get? a=none:=λa y=>y.elim (λy=>(List.mem_append.mp y).imp_right (no a)) λy=>.inr (Option.eq_none_iff_forall_not_mem.mpr λo q=>none_of y (k a o q))
 have p:=(PreA.app ρ δ).trans z1
 exact⟨ρ',G',p,z2,z3,⟨λb o q n=>z4.keep b o (k b o q) λy=>(List.mem_append.mp y).elim n λy=>none_of (no b y) q,p,λa ha=>fin a (z4.newA a ha),λa o ha=>(z4.newG a o ha).imp_right (fin a),z4.os.trans hos,z4.gsub⟩,_,z1 _ _ hi,rfl⟩
theorem Rm.made {A:Around}{n:Nat}{C:Addr}{vs:List Value}(rm:Rm A (n+2) fr):Rm (A.under (.builtin "type.__call__" ⟨.ref C::vs,[]⟩)) n fr:=
 ⟨by have:=rm.depth;show A.depth+1+n<_;lia,by have:=rm.units;show A.units+(Code.builtin "type.__call__" ⟨.ref C::vs,[]⟩).cUnits+10*n+400<_;rw[show(Code.builtin "type.__call__" ⟨.ref C::vs,[]⟩).cUnits=1 from by kernel_rfl];lia,rm.handled,rm.guards,rm.frames⟩
theorem CallOK.made {prog:Program}{w:World}{n i:Nat}{A:Around}{fI:Addr}{args:List AV}{vs:List Value}{obj ex obj':List AO}{x C:Addr}(h:CallOK prog w B n (.ref fI) (.ref i::args) (obj++ex) (.ret .none) obj')(rm:Rm A (n+2) fr)(fo:FrOK s.heap ρ G fr)
  (k:∀b o,s.heap.get? b=some o->s₂.heap.get? b=some o) (no:∀a∈δ,s.heap.get? a=none) (hos:s₂.os=s.os) (hi:(ρ++δ)[i]? =some x) (H:HOk B (ρ++δ) G (obj++ex) s₂) (r:RepVs ρ G args vs):
  codeAny (model prog w) (A.under (.builtin "type.__call__" ⟨.ref C::vs,[]⟩)) (.call (.ref fI) ⟨.ref x::vs,[]⟩) (InitBack x (QC B ⟨s.heap,ρ,G,fr,s.os⟩ ρ G (.ret (.ref i)) obj')) s₂:=by
 refine codeAny_mono (h _ _ G s₂ (.ref x::vs) fr rm.made (fo.made k no) H ⟨⟨_,hi,rfl⟩,r.mono (PreA.app ρ δ) (Sub.refl G)⟩) λres s' z=>?_
 rcases res with x| (v|_|_|_)<;>first|exact z.elim|skip
 have z:AftC B _ _ _ _ _ _ _:=z
 refine⟨?_,AftC.made k no hos hi z⟩
 obtain⟨_,_,_,_,_,_,z5⟩:=z
 exact z5
end
theorem make_ok {prog:Program}{w:World}{B:Heap}{K:Frag}{n:Nat}{C fI:Addr}{args:List AV}{obj obj':List AO}(X:K.In B)(hm:makesIn K C=true)(hi:findIn K (.ref C) "__init__" =some (some (.ref fI)))(hf:typeIn K (.ref fI)=some (.type "function"))
  (h:CallOK prog w B n (.ref fI) (.ref (obj.length+1)::args) (obj++[.ns [] [],.inst C obj.length]) (.ret .none) obj'):CallOK prog w B (n+2) (.ref C) args obj (.ret (.ref (obj.length+1))) obj':=by
 intro A ρ G s vs fr rm fo H r
 have KS:K.In s.heap:=X.keeps (H.pre (c:=⟨[],obj⟩))
 have k1:∀b o,s.heap.get? b=some o->(s.heap.push emptyDict).get? b=some o:=λb o q=>Heap.get?_push_of_some _ q
 have ge:=Heap.get?_push_size s.heap (o:=emptyDict) rfl
 have H₁:=H.alloc (s':= {s with heap:=s.heap.push emptyDict}) (ao:=.ns [] []) k1 (Heap.get?_none_of_le (Nat.le_refl _)) ge ⟨[],0,[],rfl,trivial,trivial⟩ rfl
 have gx:((s.heap.push emptyDict).push (instObj C s.heap.objs.size)).get? (s.heap.objs.size+1)=some (instObj C s.heap.objs.size):=by heap_get
 have H₂:=H₁.alloc (s':= {s with heap:=(s.heap.push emptyDict).push (instObj C s.heap.objs.size)}) (ao:=.inst C obj.length) (λb o q=>Heap.get?_push_of_some _ q) (Heap.get?_none_of_le (by rw[Heap.size_push];exact Nat.le_refl _)) gx
  ⟨_,by rw[<-H.len,List.append_assoc,List.getElem?_append_right (Nat.le_refl _),Nat.sub_self];rfl,rfl⟩ rfl
 rw[List.append_assoc,List.append_assoc]at H₂
 refine make_core (makes_of KS hm) (looks_findIn KS hi) (λself=>bind_fn KS self hf) (.inl rfl) (CallOK.made (s:=s) h rm fo (λb o q=>Heap.get?_push_of_some _ (k1 b o q)) (λa ha=>Heap.get?_none_of_le ?_) rfl ?_ H₂ r)
 ·rcases List.mem_cons.mp ha with rfl|ha
  ·exact Nat.le_refl _
  ·exact List.mem_singleton.mp ha▸Nat.le_succ _
 ·rw[<-H.len,List.getElem?_append_right (Nat.le_add_right _ 1),Nat.add_sub_cancel_left];rfl
noncomputable def dOf:AV->Option D
 | .none=>some .none
 | .bool b=>some (.bool b)
 | .int i=>some (.int i)
 | .str s=>some (.str s)
 | .dat d=>some d
 |_=>none
noncomputable def dsOf:List AV->Option (List D)
 | []=>some []
 |a::r=>(dOf a).bind λd=>(dsOf r).map (d:: ·)
theorem dsOf_cons {a:AV}{r:List AV}{d:D}{l:List D}(h:dOf a=some d)(h2:dsOf r=some l):dsOf (a::r)=some (d::l):=by
 show(dOf a).bind _=_
 rw[h,Option.bind_some,h2];rfl
theorem dOf_rep {ρ:List Addr}{G:Gh}{a:AV}{d:D}{v:Value}(h:dOf a=some d)(r:RepV ρ G a v):RepD G v d:=by
 cases a with
 |none=>cases h;obtain rfl:=r;exact .none
 |bool b=>cases h;obtain rfl:=r;exact .bool b
 |int i=>cases h;obtain⟨t,rfl⟩:=r;exact .int i t
 |str i=>cases h;obtain⟨t,rfl⟩:=r;exact .str i t
 |dat d=>cases h;exact r
 |_=>cases h
theorem dsOf_rep {ρ:List Addr}{G:Gh}{as:List AV}:∀ {l:List D} {vs:List Value},dsOf as=some l->RepVs ρ G as vs->RepDs G vs l:=by
 induction as with
 |nil=>
  intro l vs h r
  cases vs with
  |nil=>obtain rfl:=Option.some.inj h;exact .nil
  |cons _ _=>exact r.elim
 |cons a as ih=>
  intro l vs h r
  obtain⟨d,h1,h⟩:=Option.bind_eq_some_iff.mp h
  obtain⟨l,h2,rfl⟩:=Option.map_eq_some_iff.mp h
  cases vs with
  |nil=>exact r.elim
  |cons v vs=>exact .cons (dOf_rep h1 r.1) (ih h2 r.2)
noncomputable def frzA (obj:List AO):AO->Option D
 | .list xs=>(dsOf xs).map .lst
 | .tup xs=>(dsOf xs).map .tup
 | .inst C j=>(obj[j]?.bind nsA).bind λp=>(dsOf p.2).map (.inst C p.1)
 | .dlist l=>some (.lst l)
 |_=>none
noncomputable def frzD (obj:List AO)(i:Nat):Option D:=obj[i]?.bind (frzA obj)
noncomputable def kill (obj:List AO)(i:Nat):List AO:=((obj[i]?.bind instA).elim obj λq=>obj.set q.2 .dead).set i .dead
noncomputable def subV (i:Nat)(d:D):AV->AV
 | .ref j=>match Nat.beq j i with
  |true=>.dat d
  |false=>.ref j
 |a=>a
noncomputable def subO (i:Nat)(d:D):AO->AO:=AO.mp id (subV i d)
noncomputable def frzObj (obj:List AO)(i:Nat)(d:D):List AO:=(kill obj i).map (subO i d)
theorem subV_rep {ρ:List Addr}{G:Gh}{i:Nat}{d:D}(h:∀v,RepV ρ G (.ref i) v->RepD G v d){a:AV}{v:Value}(r:RepV ρ G a v):RepV ρ G (subV i d a) v:=by
 cases a with
 |ref j=>
  show RepV ρ G (match Nat.beq j i with|true=>.dat d|false=>.ref j) v
  cases q:Nat.beq j i with
  |true=>rw[Nat.eq_of_beq_eq_true q]at r;exact h v r
  |false=>exact r
 |_=>exact r
theorem subO_rep {ρ:List Addr}{G:Gh}{i:Nat}{d:D}(h:∀v,RepV ρ G (.ref i) v->RepD G v d){a:AO}{o:Obj}(r:RepO ρ G a o):RepO ρ G (subO i d a) o:=
 r.mp (λ_ _ _=>subV_rep h) (λ_ _ _ e=>e) (Sub.refl _)
theorem HOk.sub {B:Heap}{ρ:List Addr}{G:Gh}{obj:List AO}{s:Shared}{i:Nat}{d:D}(h:∀v,RepV ρ G (.ref i) v->RepD G v d)(H:HOk B ρ G obj s):HOk B ρ G (obj.map (subO i d)) s:=by
 refine⟨H.base,H.frz,by simp[H.len],H.nd,H.there,λj ao q nd=>?_,H.gens⟩
 rw[List.getElem?_map]at q
 obtain⟨ao',q',rfl⟩:=Option.map_eq_some_iff.mp q
 obtain⟨a,o,h1,h2,h3,h4⟩:=H.live j ao' q' (λz=>nd (by rw[z];rfl))
 exact⟨a,o,h1,h2,subO_rep h h3,h4⟩
noncomputable def addG (G:Gh)(a:Addr)(o:Obj):Gh:=λb=>if b=a then some o else G b
theorem addG_sub {G:Gh}{a:Addr}{o:Obj}(h:G a=none):Sub G (addG G a o):=λb o' q=>by
 unfold addG
 by_cases z:b=a
 ·rw[z,h]at q;cases q
 ·rw[if_neg z];exact q
theorem addG_at (G:Gh)(a:Addr)(o:Obj):addG G a o a=some o:=if_pos rfl
theorem addG_ne {G:Gh}{a b:Addr}{o:Obj}(h:b≠a):addG G a o b=G b:=if_neg h
theorem HOk.froze {B:Heap}{ρ:List Addr}{G:Gh}{obj:List AO}{s:Shared}{i:Nat}{ao:AO}{a:Addr}{o:Obj}(H:HOk B ρ G obj s)(hi:obj[i]? =some ao)(ha:ρ[i]? =some a)(ho:s.heap.get? a=some o)(hG:G a=none):
  HOk B ρ (addG G a o) (obj.set i .dead) s:=by
 have k:=addG_sub (o:=o) hG
 refine⟨λb o' q=>k b o' (H.base b o' q),λb o' q=>?_,by simp[H.len],H.nd,H.there,λj ao' q nd=>?_,H.gens⟩
 ·by_cases z:b=a
  ·rw[z,addG_at]at q;cases q;rw[z];exact ho
  ·rw[addG_ne z]at q;exact H.frz b o' q
 ·by_cases z:i=j
  ·subst z
   rw[List.getElem?_set_self (List.getElem?_eq_some_iff.mp hi).1]at q
   cases q;exact absurd rfl nd
  ·rw[List.getElem?_set_ne z]at q
   obtain⟨b,o',h1,h2,h3,h4⟩:=H.live j ao' q nd
   refine⟨b,o',h1,h2,h3.mono (PreA.refl _) k,?_⟩
   rw[addG_ne (λ(y:b=a)=>z (nodup_ix H.nd ha (y▸h1)))];exact h4
theorem addG_or {G:Gh}{ρ:List Addr}{i:Nat}{a b:Addr}{o o':Obj}(h:ρ[i]? =some a)(z:addG G a o b=some o'):G b=some o'\/b∈ρ:=by
 by_cases y:b=a
 ·exact .inr (y▸List.mem_of_getElem? h)
 ·rw[addG_ne y]at z;exact .inl z
section
variable {B:Heap}{ρ:List Addr}{G:Gh}{obj:List AO}{s:Shared}{i:Nat}{ao:AO}{d:D}
theorem HOk.frzOne (H:HOk B ρ G obj s)(q:obj[i]? =some ao)(nd:ao≠ .dead)(hr:∀a o G',ρ[i]? =some a->RepO ρ G ao o->Sub G G'->G' a=some o->RepD G' (.ref a) d):
  ∃G',Sub G G'/\HOk B ρ G' ((obj.set i .dead).map (subO i d)) s/\(∀a o,G' a=some o->G a=some o\/a∈ρ)/\∀v,RepV ρ G' (.ref i) v->RepD G' v d:=by
 obtain⟨a,o,h1,h2,h3,h4⟩:=H.live i _ q nd
 have k:=addG_sub (o:=o) h4
 have rep:∀v,RepV ρ (addG G a o) (.ref i) v->RepD (addG G a o) v d:=λv ⟨a',r1,r2⟩=>by
  rw[r2,<-Option.some.inj (h1.symm.trans r1)];exact hr a o _ h1 h3 k (addG_at ..)
 exact⟨_,k,(H.froze q h1 h2 h4).sub rep,λb o' z=>addG_or h1 z,rep⟩
theorem HOk.re {ao':AO}(H:HOk B ρ G obj s)(hi:obj[i]? =some ao)(nd:ao≠ .dead)(h:∀o,RepO ρ G ao o->RepO ρ G ao' o):HOk B ρ G (obj.set i ao') s:=by
 refine⟨H.base,H.frz,H.len.trans List.length_set.symm,H.nd,H.there,λj ao₂ q nd₂=>?_,H.gens⟩
 by_cases hj:i=j
 ·subst hj
  rw[List.getElem?_set_self (List.getElem?_eq_some_iff.mp hi).1]at q
  obtain rfl:=Option.some.inj q
  exact let⟨a,o,h1,h2,h3,h4⟩:=H.live i _ hi nd;⟨a,o,h1,h2,h _ h3,h4⟩
 ·rw[List.getElem?_set_ne hj]at q
  exact H.live j ao₂ q nd₂
theorem HOk.frz1 (H:HOk B ρ G obj s)(h:frzD obj i=some d):
  ∃G',Sub G G'/\HOk B ρ G' (frzObj obj i d) s/\(∀a o,G' a=some o->G a=some o\/a∈ρ)/\∀v,RepV ρ G' (.ref i) v->RepD G' v d:=by
 obtain⟨ao,q,h⟩:=Option.bind_eq_some_iff.mp h
 unfold frzObj kill
 rw[q]
 cases ao with
 |list xs=>
  obtain⟨l,hl,rfl⟩:=Option.map_eq_some_iff.mp h
  exact H.frzOne q nofun λa o G' _ ⟨vs,n,e,h3⟩ k ho=>.lst (e▸ho) ((dsOf_rep hl h3).mono k)
 |tup xs=>
  obtain⟨l,hl,rfl⟩:=Option.map_eq_some_iff.mp h
  exact H.frzOne q nofun λa o G' _ ⟨vs,n,e,_,h3⟩ k ho=>.tup (e▸ho) ((dsOf_rep hl h3).mono k)
 |dlist l=>
  obtain rfl:=Option.some.inj h
  exact H.frzOne q nofun λa o G' _ ⟨vs,n,e,h3⟩ k ho=>.lst (e▸ho) (h3.mono k)
 |inst C j=>
  obtain⟨⟨ks,xs⟩,h5,h⟩:=Option.bind_eq_some_iff.mp h
  have q':=nsA_get h5
  obtain⟨l,hl,rfl⟩:=Option.map_eq_some_iff.mp h
  obtain⟨dx,o',g1,g2,⟨es,n,vs,rfl,g3,g5⟩,g4⟩:=H.live j _ q' nofun
  have k:=addG_sub (o:=dictOf es n) g4
  have q₂:(obj.set j .dead)[i]? =some (.inst C j):=by rw[List.getElem?_set_ne λz=>nomatch (z▸q').symm.trans q];exact q
  obtain⟨G',k',H',hn,rep⟩:=(H.froze q' g1 g2 g4).frzOne (d:=.inst C ks l) q₂ nofun λa o G' _ ⟨d',hd,e'⟩ k2 ho=>
   .inst (n:=n) (es:=es) (d:=dx) ((Option.some.inj (g1.symm.trans hd)).symm▸e'▸ho) (k2 _ _ (addG_at ..)) g3 ((dsOf_rep hl g5).mono (k.trans k2))
  exact⟨G',k.trans k',H',λb o z=>(hn b o z).elim (addG_or g1) .inr,rep⟩
 |_=>cases h
theorem HOk.dl {xs:List AV}{l:List D}(H:HOk B ρ G obj s)(hi:obj[i]? =some (.list xs))(hl:dsOf xs=some l):HOk B ρ G (obj.set i (.dlist l)) s:=
 H.re hi nofun λ_ ⟨vs,n,h3,h4⟩=>⟨vs,n,h3,dsOf_rep hl h4⟩
end
theorem CallOK.to {prog:Program}{w:World}{B:Heap}{n:Nat}{fv:Value}{args:List AV}{obj obj' obj'':List AO}{a a':AV}(h:CallOK prog w B n fv args obj (.ret a) obj')
  (k:∀e ρ ρ' G' s' v,ρ.length=obj.length->PreA ρ ρ'->HOk B ρ' G' obj' s'->Rel e ρ' G' s'->e.ρ=ρ->RepV ρ' G' a v->AftC B e ρ G' obj'' s' a' v):CallOK prog w B n fv args obj (.ret a') obj'':=λA ρ G s vs fr rm fo H r=>
 codeAny_mono (h A ρ G s vs fr rm fo H r) λres s' z=>by
  rcases res with x| (v|_|_|_)<;>first|exact z.elim|skip
  obtain⟨ρ',G',p,q,H',R',r'⟩:=z
  obtain⟨ρ₂,G₂,p₂,q₂,w1,w2,w3⟩:=k _ ρ ρ' G' s' _ H.len p H' R' rfl r'
  exact⟨ρ₂,G₂,p₂,q.trans q₂,w1,w2,w3⟩
theorem CallOK.dl {prog:Program}{w:World}{B:Heap}{n:Nat}{fv:Value}{args:List AV}{obj obj':List AO}{a:AV}{i:Nat}{xs:List AV}{l:List D}(h:CallOK prog w B n fv args obj (.ret a) obj')(hi:obj'[i]? =some (.list xs))(hl:dsOf xs=some l):
  CallOK prog w B n fv args obj (.ret a) (obj'.set i (.dlist l)):=h.to λ_ _ ρ' G' _ _ _ p H' R' _ r'=>⟨ρ',G',p,Sub.refl _,H'.dl hi hl,R',r'⟩
theorem Rel.more {e:En}{ρ:List Addr}{G G':Gh}{s:Shared}(R:Rel e ρ G s)(k:Sub G G')(h:∀a o,G' a=some o->G a=some o\/a∈ρ):Rel e ρ G' s:=
 ⟨R.keep,R.pre,R.newA,λa o q=>(h a o q).elim (λy=>R.newG a o y) λy=>(R.newA a y).elim (λz=>.inr (.inl z)) λz=>.inr (.inr z),R.os,R.gsub.trans k⟩
theorem CallOK.frz {prog:Program}{w:World}{B:Heap}{n:Nat}{fv:Value}{args:List AV}{obj obj':List AO}{a:AV}{d:D}{i:Nat}(h:CallOK prog w B n fv args obj (.ret a) obj')(hd:frzD obj' i=some d):
  CallOK prog w B n fv args obj (.ret (subV i d a)) (frzObj obj' i d):=h.to λ_ _ ρ' G' _ _ _ p H' R' _ rv=>by
 obtain⟨G₂,k,H₂,hn,rep⟩:=H'.frz1 hd
 exact⟨ρ',G₂,p,k,H₂,R'.more k hn,subV_rep rep (rv.mono (PreA.refl _) k)⟩
noncomputable def closedV (n:Nat):AV->Bool
 | .ref i=>Nat.blt i n
 |_=>true
noncomputable def closedO (n:Nat)(o:AO):Bool:=o.vals.all (closedV n)&&o.ixs.all λj=>Nat.blt j n
theorem blt_lt {i n:Nat}(h:Nat.blt i n=true):i<n:=Nat.le_of_ble_eq_true h
theorem closedV_rep {ρ δ:List Addr}{G:Gh}{a:AV}{v:Value}(h:closedV ρ.length a=true)(r:RepV (ρ++δ) G a v):RepV ρ G a v:=by
 cases a with
 |ref i=>
  obtain⟨t,ht,rfl⟩:=r
  rw[List.getElem?_append_left (blt_lt h)]at ht
  exact⟨t,ht,rfl⟩
 |_=>exact r
theorem closedO_rep {ρ δ:List Addr}{G:Gh}{a:AO}{o:Obj}(h:closedO ρ.length a=true)(r:RepO (ρ++δ) G a o):RepO ρ G a o:=by
 unfold closedO at h
 rw[Bool.and_eq_true]at h
 have h1:∀y∈a.vals,∀v,RepV (ρ++δ) G y v->RepV ρ G (id y) v:=λy hy v=>closedV_rep (List.all_eq_true.mp h.1 y hy)
 have h2:∀j∈a.ixs,∀d,(ρ++δ)[j]? =some d->ρ[id j]? =some d:=λj hj d q=>(List.getElem?_append_left (blt_lt (List.all_eq_true.mp h.2 j hj))).symm.trans q
 exact a.mp_id▸RepO.mp h1 h2 (Sub.refl G) r
theorem HOk.trim {B:Heap}{ρ:List Addr}{G:Gh}{obj extra:List AO}{s:Shared}(H:HOk B ρ G (obj++extra) s)(h:obj.all (closedO obj.length)=true):∃δ,ρ=ρ.take obj.length++δ/\(ρ.take obj.length).length=obj.length/\HOk B (ρ.take obj.length) G obj s:=by
 have hl:=H.len
 rw[List.length_append]at hl
 have e:ρ=ρ.take obj.length++ρ.drop obj.length:=(List.take_append_drop ..).symm
 have hlen:(ρ.take obj.length).length=obj.length:=by rw[List.length_take];lia
 refine⟨_,e,hlen,H.base,H.frz,hlen,?_,λa ha=>H.there a (List.mem_of_mem_take ha),λi ao q nd=>?_,H.gens⟩
 ·have:=H.nd;rw[e]at this;exact(List.nodup_append.mp this).1
 ·have hi:=(List.getElem?_eq_some_iff.mp q).1
  obtain⟨a,o,h1,h2,h3,h4⟩:=H.live i ao (by rw[List.getElem?_append_left hi];exact q) nd
  rw[e,List.getElem?_append_left (by rw[hlen];exact hi)]at h1
  rw[e]at h3
  refine⟨a,o,h1,h2,closedO_rep ?_ h3,h4⟩
  rw[hlen]
  exact List.all_eq_true.mp h ao (List.mem_of_getElem? q)
theorem CallOK.trim {prog:Program}{w:World}{B:Heap}{n:Nat}{fv:Value}{args:List AV}{obj obj' extra:List AO}{a:AV}(h:CallOK prog w B n fv args obj (.ret a) (obj'++extra))(hl:Nat.ble obj.length obj'.length=true)(hc:obj'.all (closedO obj'.length)=true)(ha:closedV obj'.length a=true):
  CallOK prog w B n fv args obj (.ret a) obj':=h.to λE ρ ρ' G' s' v hρ p H' R' eρ rv=>by
 obtain⟨δ,e,hlen,H₂⟩:=H'.trim hc
 have p₂:PreA ρ (ρ'.take obj'.length):=λi b hb=>by
  have:=p i b hb
  rwa [e,List.getElem?_append_left (by rw[hlen];exact Nat.lt_of_lt_of_le (hρ▸(List.getElem?_eq_some_iff.mp hb).1) (Nat.le_of_ble_eq_true hl))]at this
 rw[e]at rv
 exact⟨_,G',p₂,Sub.refl _,H₂,⟨R'.keep,eρ▸p₂,λb hb=>R'.newA b (List.mem_of_mem_take hb),λa o q=>R'.newG a o q,R'.os,R'.gsub⟩,closedV_rep (by rw[hlen];exact ha) rv⟩
noncomputable def exclA:AO->Option (Addr×Nat)
 | .excl C j=>some (C,j)
 |_=>none
theorem exclA_at {ao:AO}{p:Addr×Nat}(h:exclA ao=some p):ao=.excl p.1 p.2:=by cases ao<;>first| (cases h;rfl)|cases h
noncomputable def frzX (obj:List AO)(i:Nat):Option (List AO):=(obj[i]?.bind exclA).bind λq=>(obj[q.2]?.bind nsA).bind λp=>(dsOf p.2).map λl=>(obj.set q.2 .dead).set i (.exc q.1 p.1 l)
theorem HOk.frzX {B:Heap}{ρ:List Addr}{G:Gh}{obj obj':List AO}{s:Shared}{i:Nat}(H:HOk B ρ G obj s)(h:Mine.frzX obj i=some obj'):
  ∃G',Sub G G'/\HOk B ρ G' obj' s/\(∀a o,G' a=some o->G a=some o\/a∈ρ):=by
 obtain⟨⟨C,j⟩,h1,h⟩:=Option.bind_eq_some_iff.mp h
 obtain⟨ao,q,h1⟩:=Option.bind_eq_some_iff.mp h1
 rw[exclA_at h1]at q
 obtain⟨⟨ks,xs⟩,h5,h⟩:=Option.bind_eq_some_iff.mp h
 have q':=nsA_get h5
 obtain⟨l,hl,rfl⟩:=Option.map_eq_some_iff.mp h
 obtain⟨dx,o',g1,g2,⟨es,n,vs,rfl,g3,g5⟩,g4⟩:=H.live j _ q' nofun
 have k:=addG_sub (o:=dictOf es n) g4
 have q₂:(obj.set j .dead)[i]? =some (.excl C j):=by rw[List.getElem?_set_ne λz=>nomatch (z▸q').symm.trans q];exact q
 exact⟨_,k,(H.froze q' g1 g2 g4).re q₂ nofun λo ⟨d',fs,r1,r2,r3,r4⟩=>⟨d',fs,es,n,vs,r2,r3,r4,(Option.some.inj (g1.symm.trans r1))▸addG_at G dx (dictOf es n),g3,(dsOf_rep hl g5).mono k⟩,λb o z=>addG_or g1 z⟩
theorem CallOK.frzX {prog:Program}{w:World}{B:Heap}{n:Nat}{fv:Value}{args:List AV}{obj obj' obj'':List AO}{a:AV}{i:Nat}(h:CallOK prog w B n fv args obj (.ret a) obj')(hd:Mine.frzX obj' i=some obj''):
  CallOK prog w B n fv args obj (.ret a) obj'':=h.to λ_ _ ρ' G' _ _ _ p H' R' _ rv=>by
 obtain⟨G₂,k,H₂,hn⟩:=H'.frzX hd
 exact⟨ρ',G₂,p,k,H₂,R'.more k hn,rv.mono (PreA.refl _) k⟩
end Mine
namespace Mine
open PySem PySem.W PyProof.Rows PySem.Calls PySem.SeqAt
noncomputable def AllP:List Prop->Prop
 | []=>True
 |p::r=>p/\AllP r
structure Lf (M:AV->Prop) where
 r:AV
 p:List Prop
 ok:AllP p->M r
theorem AllP.l:∀ {a b:List Prop},AllP (a++b)->AllP a
 | [],_,_=>trivial
 |_::_,_,h=>⟨h.1,AllP.l h.2⟩
theorem AllP.r:∀ {a b:List Prop},AllP (a++b)->AllP b
 | [],_,h=>h
 |_::_,_,h=>AllP.r h.2
section
variable {β:Type}
noncomputable def gd (b:Bool)(k:b=true->Option β):Option β:=match b,k with
 |true,k=>k rfl
 |false,_=>none
noncomputable def gn (b:Bool)(k:b=false->Option β):Option β:=match b,k with
 |true,_=>none
 |false,k=>k rfl
noncomputable def ofB (b:Bool)(k:b=true->Option β)(k':b=false->Option β):Option β:=match b,k,k' with
 |true,k,_=>k rfl
 |false,_,k=>k rfl
noncomputable def ofS {α:Type}(x:Option α)(k:∀a,x=some a->Option β):Option β:=match x,k with
 |some a,k=>k a rfl
 |none,_=>none
end
theorem ofS_inv {α β:Type}{x:Option α}{k:∀a,x=some a->Option β}{z:β}(h:ofS x k=some z):∃a,∃q:x=some a,k a q=some z:=match x,k,h with
 |some a,_,h=>⟨a,rfl,h⟩
noncomputable def listO:AO->Option (List AV)
 | .list xs=>some xs
 | .dlist l=>some (partsOfD l)
 |_=>none
noncomputable def listD:D->Option (List AV)
 | .lst l=>some (partsOfD l)
 |_=>none
noncomputable def listAt (c:St):AV->Option (List AV)
 | .dat d=>listD d
 | .ref i=>ofS c.obj[i]? λo _=>listO o
 |_=>none
section
variable {B:Heap}{f:Fm}{e:En}{c:St}{ρ:List Addr}{G:Gh}{s:Shared}{a b:AV}{as:List AV}{v u:Value}{A:Around}
theorem listO_rep {ao:AO}{o:Obj}(h:listO ao=some as)(r:RepO ρ G ao o):∃vs n,o=lstObj vs n/\RepVs ρ G as vs:=by
 cases ao with
 |list xs=>cases h;exact r
 |dlist l=>
  obtain⟨vs,n,e,h3⟩:=r
  cases h;exact⟨vs,n,e,parts_rep h3⟩
 |_=>cases h
theorem listD_rep {d:D}(h:listD d=some as)(r:RepD G v d):∃t vs n,v=.ref t/\G t=some (lstObj vs n)/\RepVs ρ G as vs:=by
 cases d with
 |lst l=>
  obtain⟨_,_,_,rfl,e,rs⟩:=r.inv
  cases h;exact⟨_,_,_,rfl,e,parts_rep rs⟩
 |_=>cases h
theorem listO_dead {ao:AO}(h:listO ao=some as):ao≠ .dead:=λz=>by subst z;cases h
theorem list_at (h:listAt c a=some as)(i:In B f e c ρ G s)(r:RepV ρ G a v):∃t vs,v=.ref t/\s.heap.IsList t vs.toArray/\RepVs ρ G as vs:=by
 cases a with
 |dat d=>
  obtain⟨t,vs,n,e,h1,h2⟩:=listD_rep h r
  exact⟨t,vs,e,⟨_,i.h.frz _ _ h1,rfl,_,rfl⟩,h2⟩
 |ref j=>
  obtain⟨ao,q,h⟩:=ofS_inv h
  obtain⟨t,ht,e⟩:=r
  obtain⟨t',o,h1,h2,h3,_⟩:=i.h.live j _ q (listO_dead h)
  obtain⟨vs,n,e',h4⟩:=listO_rep h h3
  exact⟨t,vs,e,⟨_,Option.some.inj (ht.symm.trans h1)▸e'▸h2,rfl,_,rfl⟩,h4⟩
 |_=>cases h
end
@[elab_as_elim] theorem rN {ρ:List Addr} {G:Gh} {M:Value->Prop} {v:Value} (r:RepV ρ G .none v) (k:M .none):M v:=Eq.symm r▸k
@[elab_as_elim] theorem rB {ρ:List Addr} {G:Gh} {b:Bool} {M:Value->Prop} {v:Value} (r:RepV ρ G (.bool b) v) (k:M (.bool b)):M v:=Eq.symm r▸k
@[elab_as_elim] theorem rI {ρ:List Addr} {G:Gh} {i:Int} {M:Value->Prop} {v:Value} (r:RepV ρ G (.int i) v) (k:∀t,M (.int i t)):M v:=r.elim λt e=>e.symm▸k t
@[elab_as_elim] theorem rS {ρ:List Addr} {G:Gh} {i:Str} {M:Value->Prop} {v:Value} (r:RepV ρ G (.str i) v) (k:∀t,M (.str i t)):M v:=r.elim λt e=>e.symm▸k t
noncomputable def isNil {α:Type}:List α->Bool
 | []=>true
 |_=>false
section
variable {X:Cx}{c:St}
theorem Rm.room {A:Around}{n:Nat}{fr:List Env}(r:Rm A n fr):A.units<cLine:=Nat.lt_of_le_of_lt (Nat.le_trans (Nat.le_add_right _ _) (Nat.le_add_right _ _)) r.units
def EqS (X:Cx)(c:St)(a b:AV)(k:Bool):Prop:=∀ {A:Around} {ρ:List Addr} {G:Gh} {s:Shared} {v u:Value},A.units<cLine->In X.B X.f X.e c ρ G s->RepV ρ G a v->RepV ρ G b u->RcAt A s v u k/\RcNeAt A s v u (!k)
theorem reps_nil {ρ:List Addr}{G:Gh}:∀ {as:List AV} {vs:List Value},RepVs ρ G as vs->isNil as=isNil vs:=λ{as vs} h=>by cases as<;>cases vs<;>first|rfl|exact h.elim
theorem eq_lst {a b:AV}{xs:List AV}(ha:listAt c a=some xs)(hb:listAt c b=some []):EqS X c a b (isNil xs):=λhu i r₁ r₂=>by
 obtain⟨t,vs,rfl,hl,hr⟩:=list_at ha i r₁
 obtain⟨t',vs',rfl,hl',hr'⟩:=list_at hb i r₂
 rw[reps_nil hr]
 have e:=reps_nil hr'
 cases vs' with
 |cons=>cases e
 |nil=>
  cases vs with
  |nil=>exact⟨RcAt.lists (e:=λ_=>true) hl hl' rfl hu λj h=>absurd h (Nat.not_lt_zero _),RcNeAt.lists (e:=λ_=>true) hl hl' rfl hu λj h=>absurd h (Nat.not_lt_zero _)⟩
  |cons=>exact⟨RcAt.lists_lengths hl hl' rfl hu,RcNeAt.lists_lengths hl hl' rfl hu⟩
theorem eq_ntup {a b:AV}{ys:List AV}{k:Value->Prop}(hb:tupleAt c b=some ys)(ha:∀ {ρ G v},RepV ρ G a v->k v)(hk:∀ {A:Around} {s:Shared} {v:Value} {t:Addr} {vs:Array Value},k v->s.heap.IsTuple t vs->A.units<cLine->RcAt A s v (.ref t) false/\RcNeAt A s v (.ref t) true):EqS X c a b false:=λhu i r₁ r₂=>by
 obtain⟨t,vs,rfl,hl,hr⟩:=tuple_at hb i r₂
 exact hk (ha r₁) hl hu
noncomputable def eqSeq (a b:AV):Option {k//EqS X c a b k}:=ofB (listAt c b).isSome
 (λ_=>ofS (listAt c b) λys hb=>ofS (listAt c a) λxs ha=>match ys,hb with
  | [],hb=>some ⟨isNil xs,eq_lst ha hb⟩
  |_::_,_=>none)
 λ_=>ofS (tupleAt c b) λys hb=>match a with
  | .int _=>some ⟨false,eq_ntup (k:=λv=>∃t,v=.int _ t) hb id λ⟨_,e⟩ hl hu=>e▸⟨.int_tuple _ _ hl hu,.int_tuple _ _ hl hu⟩⟩
  | .str _=>some ⟨false,eq_ntup (k:=λv=>∃t,v=.str _ t) hb id λ⟨_,e⟩ hl hu=>e▸⟨.str_tuple _ _ hl hu,.str_tuple _ _ hl hu⟩⟩
  | .none=>some ⟨false,eq_ntup (k:=λv=>v=.none) hb id λe hl hu=>e▸⟨.none_tuple hl hu,.none_tuple hl hu⟩⟩
  |_=>none
noncomputable def eqN (b:AV):Option {k//EqS X c .none b k}:=match b with
 | .none=>some ⟨true,λ_ _ r₁ r₂=>rN r₁ (rN r₂ ⟨.none_none,.none_none⟩)⟩
 | .bool _=>some ⟨false,λ_ _ r₁ r₂=>rN r₁ (rB r₂ ⟨.none_bool _,.none_bool _⟩)⟩
 | .int _=>some ⟨false,λ_ _ r₁ r₂=>rN r₁ (rI r₂ λ_=>⟨.none_int _ _,.none_int _ _⟩)⟩
 | .str _=>some ⟨false,λ_ _ r₁ r₂=>rN r₁ (rS r₂ λ_=>⟨.none_str _ _,.none_str _ _⟩)⟩
 |b=>eqSeq .none b
noncomputable def eqB (a:Bool)(b:AV):Option {k//EqS X c (.bool a) b k}:=match b with
 | .none=>some ⟨false,λ_ _ r₁ r₂=>rB r₁ (rN r₂ ⟨.bool_none _,.bool_none _⟩)⟩
 | .bool b=>some ⟨a==b,λ_ _ r₁ r₂=>rB r₁ (rB r₂ ⟨.bool_bool _ _,.bool_bool _ _⟩)⟩
 |b=>eqSeq (.bool a) b
noncomputable def eqI (a:Int)(b:AV):Option {k//EqS X c (.int a) b k}:=match b with
 | .none=>some ⟨false,λ_ _ r₁ r₂=>rI r₁ λ_=>rN r₂ ⟨.int_none _ _,.int_none _ _⟩⟩
 | .int b=>some ⟨decide (a=b),λ_ _ r₁ r₂=>rI r₁ λ_=>rI r₂ λ_=>⟨.int_int _ _ _ _,.int_int _ _ _ _⟩⟩
 | .str _=>some ⟨false,λ_ _ r₁ r₂=>rI r₁ λ_=>rS r₂ λ_=>⟨.int_str _ _ _ _,.int_str _ _ _ _⟩⟩
 |b=>eqSeq (.int a) b
noncomputable def eqT (a:Str)(b:AV):Option {k//EqS X c (.str a) b k}:=match b with
 | .none=>some ⟨false,λ_ _ r₁ r₂=>rS r₁ λ_=>rN r₂ ⟨.str_none _ _,.str_none _ _⟩⟩
 | .int _=>some ⟨false,λ_ _ r₁ r₂=>rS r₁ λ_=>rI r₂ λ_=>⟨.str_int _ _ _ _,.str_int _ _ _ _⟩⟩
 | .str b=>some ⟨decide (a=b),λ_ _ r₁ r₂=>rS r₁ λ_=>rS r₂ λ_=>⟨.str_str _ _ _ _,.str_str _ _ _ _⟩⟩
 |b=>eqSeq (.str a) b
noncomputable def eqA (a b:AV):Option {k//EqS X c a b k}:=match a with
 | .none=>eqN b
 | .bool a=>eqB a b
 | .int a=>eqI a b
 | .str a=>eqT a b
 |a=>eqSeq a b
noncomputable def isND:D->Bool
 | .none=>true
 |_=>false
theorem isn_d {G:Gh}{v:Value}{d:D}(r:RepD G v d):(v==.none)=isND d:=by cases r<;>rfl
noncomputable def noneA (a:AV):Option {k// ∀ {ρ G v},RepV ρ G a v->(v==.none)=k}:=match a with
 | .none=>some ⟨true,λr=>rN r rfl⟩
 | .bool _=>some ⟨false,λr=>rB r rfl⟩
 | .int _=>some ⟨false,λr=>rI r λ_=>rfl⟩
 | .str _=>some ⟨false,λr=>rS r λ_=>rfl⟩
 | .ref _=>some ⟨false,λ⟨_,_,e⟩=>e▸rfl⟩
 | .fn _=>some ⟨false,λe=>Eq.symm e▸rfl⟩
 | .cls _=>some ⟨false,λe=>Eq.symm e▸rfl⟩
 | .dat _=>some ⟨_,λr=>isn_d r⟩
 |_=>none
noncomputable def strOf (a:AV):Option {x//a=.str x}:=match a with
 | .str x=>some ⟨x,rfl⟩
 |_=>none
noncomputable def isS (x:Str):Value->Bool
 | .str y _=>y==x
 |_=>false
def MemS (x:Str)(as:List AV)(k:Bool):Prop:=∀ {ρ:List Addr} {G:Gh} {vs:List Value},RepVs ρ G as vs->vs.any (isS x)=k/\∀v∈vs,∃y t,v=.str y t
theorem memS_nil {x:Str}:MemS x [] false:=λ{ρ G vs} r=>by
 cases vs with
 |nil=>exact⟨rfl,λv hv=>(List.not_mem_nil hv).elim⟩
 |cons=>exact r.elim
theorem memS_cons {x y:Str}{as:List AV}{k:Bool}(h:MemS x as k):MemS x (.str y::as) (match decide (y=x)with|true=>true|false=>k):=λ{ρ G vs} r=>by
 cases vs with
 |nil=>exact r.elim
 |cons v vs=>
  obtain⟨⟨t,rfl⟩,r2⟩:=r
  obtain⟨a1,a2⟩:=h r2
  refine⟨?_,λu hu=>(List.mem_cons.mp hu).elim (λz=>⟨y,t,z⟩) (a2 u)⟩
  rw[List.any_cons,a1]
  show(decide (y=x)||k)=_
  cases decide (y=x)<;>rfl
noncomputable def memS (x:Str)(as:List AV):Option {k//MemS x as k}:=match as with
 | []=>some ⟨false,memS_nil⟩
 |a::r=>ofS (strOf a) λy _=>ofS (memS x r) λk _=>some ⟨_,y.2▸memS_cons k.2⟩
end
noncomputable def sdictAt (K:Frag)(T:Tab)(a:Addr)(x:Str):Option (Option Value):=gd (T.dicts.any (Nat.beq a)) λ_=>nsIn K a x
noncomputable def dictO (o:Obj):Option {p:Array DictEntry×Nat//o=⟨.type "dict",none,.dict p.1 p.2,#[]⟩}:=match o with
 | ⟨.type t,none,.dict es n,⟨[]⟩⟩=>if h:t= "dict" then some ⟨(es,n),h▸rfl⟩else none
 |_=>none
noncomputable def isDictIn (K:Frag)(a:Addr):Bool:=(ofS (K.lookup a) λo _=>(dictO o).map λ_=>()).isSome&& !(Nat.beq a sysModules)
def GlobRep (K:Frag)(av:AV)(v:Value):Prop:=∀ρ G,(∀a o,K.lookup a=some o->G a=some o)->RepV ρ G av v
noncomputable def methA (T:Tab)(C:Addr)(x:Str):Option Addr:=match T.meth.find? (λp=>Nat.beq p.1 C)with
 |some p=>lk p.2 x
 |none=>none
noncomputable def fldA (T:Tab)(C:Addr)(x:Str):Bool:=match T.flds.find? (λp=>Nat.beq p.1 C)with
 |some p=>p.2.any λy=>decide (y=x)
 |none=>false
structure Know (prog:Program)(w:World)(B:Heap)(K:Frag)(T:Tab):Prop where
 k:K.In B
 sys:∃o,B.get? sysModules=some o
 top:∃loose mg mb,TopRead prog loose mg mb B
 dict:∀d,T.dicts.any (Nat.beq d)=true->isDictIn K d=true/\∀c dd es n sl,K.lookup d=some ⟨c,dd,.dict es n,sl⟩->KeysLit w.params es.toList
 glob:∀x av,lk T.glob x=some av->((x==("__debug__" :Str))=false)/\((∃v,nsIn K mainGlobals x=some (some v)/\GlobRep K av v)\/∃v,nsIn K mainGlobals x=some none/\bootBuiltins x=some v/\x≠ "__name__" /\GlobRep K av v)
 keep:∀f,T.keeps.any (Nat.beq f)=true->keepIn K (.ref f)=true
 meth:∀C x f,methA T C x=some f->methOK K C x f=true
 flds:∀C x,fldA T C x=true->plainAttr K C x=true/\setsAttr K C x=true
abbrev Ok (X:Cx):Prop:=Know X.prog X.w X.B X.K X.T/\isFun X.f=true
section
variable {X:Cx}{c:St}
theorem gd_inv {β:Type}{b:Bool}{k:b=true->Option β}{z:β}(h:gd b k=some z):∃q:b=true,k q=some z:=match b,k,h with
 |true,_,h=>⟨rfl,h⟩
theorem dict_inv {K:Frag}{d:Addr}(h:isDictIn K d=true):∃es n,K.lookup d=some ⟨.type "dict",none,.dict es n,#[]⟩/\(d==sysModules)=false:=by
 obtain⟨h1,h2⟩:_=true/\_=true:=Bool.and_eq_true_iff.mp h
 obtain⟨_,h1⟩:=Option.isSome_iff_exists.mp h1
 obtain⟨o,q,h1⟩:=ofS_inv h1
 obtain⟨p,_⟩:=Option.map_eq_some_iff.mp h1
 exact⟨p.1.1,p.1.2,q.trans (congrArg some p.2),Bool.eq_false_iff.mpr λz=>by rw[beq_iff_eq.mp z]at h2;exact absurd h2 (by decide)⟩
theorem sd_map (O:Ok X){ρ:List Addr}{G:Gh}{s:Shared}{d:Addr}{x:Str}{r:Option Value}(i:In X.B X.f X.e c ρ G s)(h:sdictAt X.K X.T d x=some r):
  (d==sysModules)=false/\∃f:Str->Option Value,s.heap.MapOf (PySem.strKind X.prog X.w) d f/\f x=r:=by
 obtain⟨hd,h⟩:=gd_inv h
 obtain⟨d1,d2⟩:=O.1.dict d hd
 obtain⟨es,n,hl,lo⟩:=dict_inv d1
 exact⟨lo,_,mapOf_K (prog:=X.prog) (O.1.k.keeps i.h.pre) hl (d2 _ _ _ _ _ hl),find_K hl h⟩
def CmpS (X:Cx)(c:St)(op:CmpOp)(a b:AV)(k:Bool):Prop:=Op2 X (compareOp op) a b c (.ok (.bool k)) c
theorem fin0 {ρ:List Addr}{G:Gh}{s:Shared}{k:Bool}(i:In X.B X.f X.e c ρ G s):QV X.B X.f X.e ρ G (.ok (.bool k)) c (.bool k) s:=⟨ρ,G,PreA.refl _,Sub.refl _,i,rfl⟩
theorem finT {ρ:List Addr}{G:Gh}{s:Shared}{k:Bool}{t:Nat}(i:In X.B X.f X.e c ρ G s):QV X.B X.f X.e ρ G (.ok (.bool k)) c (.bool k) {s with toks:=t}:=⟨ρ,G,PreA.refl _,Sub.refl _,i.toks,rfl⟩
def InS (X:Cx)(c:St)(a b:AV)(k:Bool):Prop:=CmpS X c .In a b k/\CmpS X c .NotIn a b (!k)
theorem in_str {x y:Str}:InS X c (.str x) (.str y) (Txt.contains y x):=
 ⟨λA ρ G s va vb rm fo i r₁ r₂=>rS r₁ λ_=>rS r₂ λ_=>SB.contains (finT i),λA ρ G s va vb rm fo i r₁ r₂=>rS r₁ λ_=>rS r₂ λ_=>SB.notContains (finT i)⟩
theorem in_sd (O:Ok X){x:Str}{d:Addr}{r:Option Value}(h:sdictAt X.K X.T d x=some r):InS X c (.str x) (.sdict d) r.isSome:=
 ⟨λA ρ G s va vb rm fo i r₁ r₂=>by
  obtain⟨lo,f,hm,rfl⟩:=sd_map O i h
  cases r₂
  exact rS r₁ λt=>wpAny_in_of (strKind_is X.prog X.w x t) lo hm (finT i),
  λA ρ G s va vb rm fo i r₁ r₂=>by
  obtain⟨lo,f,hm,rfl⟩:=sd_map O i h
  cases r₂
  exact rS r₁ λt=>wpAny_notIn_of (strKind_is X.prog X.w x t) lo hm (finT i)⟩
theorem in_tup {x:Str}{b:AV}{xs:List AV}{k:Bool}(h:MemS x xs k)(q:tupleAt c b=some xs):InS X c (.str x) b k:=by
 have key:∀ {ρ G s u t} {A:Around},In X.B X.f X.e c ρ G s->RepV ρ G b u->∃p vs,u=.ref p/\s.heap.IsTuple p vs/\vs.any (isS x)=k/\∀y,y∈vs->EqAt A.in1 s y (.str x t) (isS x y):=λ{ρ G s u t A} i r₂=>by
  obtain⟨p,vs,rfl,hl,hr⟩:=tuple_at q i r₂
  obtain⟨m1,m2⟩:=h hr
  refine⟨p,vs.toArray,rfl,hl,by rw[<-m1];simp,λy hy=>?_⟩
  obtain⟨z,t',rfl⟩:=m2 y (by simpa using hy)
  exact EqAt.str_str z t' x t
 exact⟨λA ρ G s va vb rm fo i r₁ r₂=>rS r₁ λt=>let⟨p,vs,e,hl,m,he⟩:=key i r₂;e.symm▸in_tupleAt (isS x) hl he (m.symm▸fin0 i),
  λA ρ G s va vb rm fo i r₁ r₂=>rS r₁ λt=>let⟨p,vs,e,hl,m,he⟩:=key i r₂;e.symm▸notIn_tupleAt (isS x) hl he (m.symm▸fin0 i)⟩
noncomputable def inT (O:Ok X)(c:St)(x:Str)(b:AV):Option {k//InS X c (.str x) b k}:=match b with
 | .str _=>some ⟨_,in_str⟩
 | .sdict d=>ofS (sdictAt X.K X.T d x) λ_ h=>some ⟨_,in_sd O h⟩
 |b=>ofS (tupleAt c b) λxs q=>ofS (memS x xs) λk _=>some ⟨k.1,in_tup k.2 q⟩
noncomputable def inA (O:Ok X)(c:St)(a b:AV):Option {k//InS X c a b k}:=match a with
 | .str x=>inT O c x b
 |_=>none
noncomputable def i2 {M:AV->AV->Type}(k:∀i j,Option (M (.int i) (.int j)))(a b:AV):Option (M a b):=match a with
 | .int i=>match b with
  | .int j=>k i j
  |_=>none
 |_=>none
noncomputable def toNone {M:AV->Type}(k:Option (M .none))(a:AV):Option (M a):=match a with
 | .none=>k
 |_=>none
noncomputable def cmpA (O:Ok X)(c:St)(op:CmpOp)(a b:AV):Option {k//CmpS X c op a b k}:=match op with
 | .Eq=>ofS (eqA (X:=X) (c:=c) a b) λk _=>some ⟨k.1,λA ρ G s va vb rm fo i r₁ r₂=>EqBoolInt.of_rc (k.2 rm.room i r₁ r₂).1 (fin0 i)⟩
 | .NotEq=>ofS (eqA (X:=X) (c:=c) a b) λk _=>some ⟨!k.1,λA ρ G s va vb rm fo i r₁ r₂=>EqBoolInt.of_rcne (k.2 rm.room i r₁ r₂).2 (fin0 i)⟩
 | .Lt=>i2 (M:=λa b=> {k//CmpS X c .Lt a b k}) (λi j=>some ⟨decide (i<j),λA ρ G s va vb rm fo i r₁ r₂=>rI r₁ λ_=>rI r₂ λ_=>P.lt_int (fin0 i)⟩) a b
 | .LtE=>i2 (M:=λa b=> {k//CmpS X c .LtE a b k}) (λi j=>some ⟨decide (i<=j),λA ρ G s va vb rm fo i r₁ r₂=>rI r₁ λ_=>rI r₂ λ_=>P.le_int (fin0 i)⟩) a b
 | .Gt=>i2 (M:=λa b=> {k//CmpS X c .Gt a b k}) (λi j=>some ⟨decide (i>j),λA ρ G s va vb rm fo i r₁ r₂=>rI r₁ λ_=>rI r₂ λ_=>P.gt_int (fin0 i)⟩) a b
 | .GtE=>i2 (M:=λa b=> {k//CmpS X c .GtE a b k}) (λi j=>some ⟨decide (i≥j),λA ρ G s va vb rm fo i r₁ r₂=>rI r₁ λ_=>rI r₂ λ_=>P.ge_int (fin0 i)⟩) a b
 | .Is=>toNone (M:=λb=> {k//CmpS X c .Is a b k}) (ofS (noneA a) λk _=>some ⟨k.1,λA ρ G s va vb rm fo i r₁ r₂=>rN r₂ (is_none_gen (by rw[k.2 r₁];exact fin0 i))⟩) b
 | .IsNot=>toNone (M:=λb=> {k//CmpS X c .IsNot a b k}) (ofS (noneA a) λk _=>some ⟨!k.1,λA ρ G s va vb rm fo i r₁ r₂=>rN r₂ (isnot_none_gen (by rw[k.2 r₁];exact fin0 i))⟩) b
 | .In=>ofS (inA O c a b) λk _=>some ⟨k.1,k.2.1⟩
 | .NotIn=>ofS (inA O c a b) λk _=>some ⟨!k.1,k.2.2⟩
theorem op2_cmp (O:Ok X){op:CmpOp}{a b:AV}{k:Bool}(h:(cmpA O c op a b).map (·.1)=some k):Op2 X (compareOp op) a b c (.ok (.bool k)) c:=by
 cases q:cmpA O c op a b with
 |none=>rw[q]at h;cases h
 |some z=>rw[q]at h;cases h;exact z.2
end
section
variable {X:Cx}{c c₁ c₂ c₃:St}
noncomputable def isGlobal (f:Fm)(x:Str):Bool:=f.env.kindOf x==some .globalImplicit
theorem isGlobal_eq {f:Fm}{x:Str}(h:isGlobal f x=true):f.env.kindOf x=some .globalImplicit:=by
 unfold isGlobal at h
 cases q:f.env.kindOf x with
 |none=>rw[q]at h;exact absurd h (by decide)
 |some k=>rw[q]at h;cases k<;>first|rfl|exact absurd h (by decide)
theorem tv_global (O:Ok X){x pos}{av:AV}(hx:isGlobal X.f x=true)(h:lk X.T.glob x=some av):TV X (eval (.Name x pos) X.f.env) c (.ok av) c:=λA ρ G s rm fo i=>by
 obtain⟨hd,z⟩:=O.1.glob x av h
 obtain⟨loose,mg,mb,T⟩:=O.1.top
 have pre:=i.h.pre
 have hg:∀a o,X.K.lookup a=some o->G a=some o:=λa o q=>i.h.base a o (O.1.k a o q)
 have hk:=isFun_eq O.2
 rcases z with⟨v,e,r⟩| ⟨v,e,hv,hn,r⟩
 ·exact Name_function_global hk (isGlobal_eq hx) (loadGlobal_global (env:=X.f.env) (T.g.keeps pre) (mg_of O.1.k T.g e) ⟨ρ,G,PreA.refl _,Sub.refl _,i,r ρ G hg⟩) hd
 ·exact Name_function_global hk (isGlobal_eq hx) (loadGlobal_builtin (env:=X.f.env) (T.g.keeps pre) (mg_none_of O.1.k T.g e) (T.b.keeps pre) ((T.builtins x hn).trans hv) ⟨ρ,G,PreA.refl _,Sub.refl _,i,r ρ G hg⟩) hd
theorem tv_local' {x pos}{av:AV}(hk:isFun X.f=true)(hl:isLocal X.f x=true)(hd:(x==("__debug__" :Str))=false)(h:lk c.loc x=some av):TV X (eval (.Name x pos) X.f.env) c (.ok av) c:=
 tv_local (isFun_eq hk) (isLocal_eq hl) hd h
theorem In.allocG {B:Heap}{f:Fm}{e:En}{ρ:List Addr}{G:Gh}{s s':Shared}{a:Addr}{o:Obj}(x:In B f e c ρ G s)(k:∀b o,s.heap.get? b=some o->s'.heap.get? b=some o)(hn:s.heap.get? a=none)(ho:s'.heap.get? a=some o)
  (hg:s'.gens=s.gens) (hos:s'.os=s.os):Sub G (addG G a o)/\In B f e c ρ (addG G a o) s':=by
 obtain⟨h1,h2,h3,h4⟩:=x.new hn
 have y:=x.ext k hg hos
 have q:=addG_sub (o:=o) h2
 refine⟨q,⟨⟨λb o' z=>q _ _ (y.h.base b o' z),λb o' z=>?_,y.h.len,y.h.nd,y.h.there,λi ao hi nd=>?_,y.h.gens⟩,⟨y.r.keep,y.r.pre,y.r.newA,λb o' z=>?_,y.r.os,y.r.gsub.trans q⟩,⟨?_,y.f.own,?_,y.f.fresh,λx' cc z=>?_⟩⟩⟩
 ·by_cases w:b=a
  ·rw[w,addG_at]at z;cases z;rw[w];exact ho
  ·rw[addG_ne w]at z;exact y.h.frz b o' z
 ·obtain⟨b,o',g1,g2,g3,g4⟩:=y.h.live i ao hi nd
  refine⟨b,o',g1,g2,g3.mono (PreA.refl _) q,?_⟩
  rw[addG_ne (λ(z:b=a)=>h1 (z▸List.mem_of_getElem? g1))];exact g4
 ·by_cases w:b=a
  ·exact .inr (.inr (w▸h4))
  ·rw[addG_ne w]at z;exact y.r.newG b o' z
 ·obtain⟨m,n1,n2⟩:=y.f.ns
  exact⟨m,n1,λx av z hc=>let⟨v,v1,v2⟩:=n2 x av z hc;⟨v,v1,v2.mono (PreA.refl _) q⟩⟩
 ·rw[addG_ne (Ne.symm h3)];exact y.f.gown
 ·obtain⟨oc,u,j⟩:=y.f.cells x' cc z
  obtain⟨oc',_,j'⟩:=x.f.cells x' cc z
  refine⟨oc,u,j.kd,j.nρ,?_,j.nH,j.nL,j.here,j.dat,λav w=>let⟨v,v1,v2⟩:=j.val av w;⟨v,v1,v2.mono (PreA.refl _) q⟩,j.apart⟩
  have d1:=j'.here
  rw[addG_ne (λw=>by rw[w,hn]at d1;cases d1)];exact j.nG
theorem fresh_size (s:Shared):s.heap.get? s.heap.objs.size=none:=Heap.get?_none_of_le (Nat.le_refl _)
theorem push_keeps (h:Heap)(o:Obj):∀b o',h.get? b=some o'->(h.push o).get? b=some o':=λb o' q=>Heap.get?_push_of_some _ q
theorem tv_tuple_frz {elts k pos}{as:List AV}{l:List D}(h:TVs X (spliced (backTo pos (starEach elts X.f.env))) c (.ok as) c₁)(hd:dsOf as=some l)(hz:as.length<=1000):
  TV X (eval (.Tuple elts k pos) X.f.env) c (.ok (.dat (.tup l))) c₁:=λA ρ G s rm fo i=>
 wpAny_Tuple (wps_then h rm fo i λvs s₁ ρ₁ G₁ p₁ q₁ i₁ r₁=>by
  refine⟨by rw[r₁.len,sizeLine_eq];lia,?_⟩
  have hp:=Heap.get?_push_size s₁.heap (o:= {cls:=.type "tuple",data:=.seq vs.toArray}) rfl
  obtain⟨q₂,i₂⟩:=In.allocG (s':= {s₁ with heap:=s₁.heap.push {cls:=.type "tuple",data:=.seq vs.toArray}}) i₁ (push_keeps _ _) (fresh_size s₁) hp rfl rfl
  exact⟨ρ₁,_,p₁,q₁.trans q₂,i₂,.tup (n:=0) (addG_at ..) ((dsOf_rep hd r₁).mono q₂)⟩)
theorem tv_tuple_live {elts k pos}{as:List AV}(h:TVs X (spliced (backTo pos (starEach elts X.f.env))) c (.ok as) c₁)(hz:as.length<=1000):
  TV X (eval (.Tuple elts k pos) X.f.env) c (.ok (.ref c₁.obj.length)) ⟨c₁.loc,c₁.obj++[.tup as]⟩:=λA ρ G s rm fo i=>
 wpAny_Tuple (wps_then h rm fo i λvs s₁ ρ₁ G₁ p₁ q₁ i₁ r₁=>by
  refine⟨by rw[r₁.len,sizeLine_eq];lia,?_⟩
  have hp:=Heap.get?_push_size s₁.heap (o:= {cls:=.type "tuple",data:=.seq vs.toArray}) rfl
  refine⟨ρ₁++[s₁.heap.objs.size],G₁,p₁.trans (PreA.app _ _),q₁,i₁.alloc (s':= {s₁ with heap:=s₁.heap.push {cls:=.type "tuple",data:=.seq vs.toArray}}) (push_keeps _ _) (fresh_size s₁) hp ⟨vs,0,rfl,rfl,r₁.mono (PreA.app _ _) (Sub.refl _)⟩ rfl rfl,_,?_,rfl⟩
  rw[List.getElem?_append_right (by rw[i₁.h.len];exact Nat.le_refl _),i₁.h.len,Nat.sub_self];rfl)
theorem tv_list_frz {elts pos}{as:List AV}{l:List D}(h:TVs X (spliced (backTo pos (starEach elts X.f.env))) c (.ok as) c₁)(hd:dsOf as=some l)(hz:as.length<=1000):
  TV X (eval (.List elts pos) X.f.env) c (.ok (.dat (.lst l))) c₁:=λA ρ G s rm fo i=>
 wpAny_List (wps_then h rm fo i λvs s₁ ρ₁ G₁ p₁ q₁ i₁ r₁=>by
  refine⟨by rw[r₁.len,sizeLine_eq];lia,?_⟩
  have hp:=Heap.get?_push_size s₁.heap (o:= {cls:=.type "list",data:=.seq vs.toArray}) rfl
  obtain⟨q₂,i₂⟩:=In.allocG (s':= {s₁ with heap:=s₁.heap.push {cls:=.type "list",data:=.seq vs.toArray}}) i₁ (push_keeps _ _) (fresh_size s₁) hp rfl rfl
  exact⟨ρ₁,_,p₁,q₁.trans q₂,i₂,.lst (n:=0) (addG_at ..) ((dsOf_rep hd r₁).mono q₂)⟩)
theorem tv_list_live {elts pos}{as:List AV}(h:TVs X (spliced (backTo pos (starEach elts X.f.env))) c (.ok as) c₁)(hz:as.length<=1000):
  TV X (eval (.List elts pos) X.f.env) c (.ok (.ref c₁.obj.length)) ⟨c₁.loc,c₁.obj++[.list as]⟩:=λA ρ G s rm fo i=>
 wpAny_List (wps_then h rm fo i λvs s₁ ρ₁ G₁ p₁ q₁ i₁ r₁=>by
  refine⟨by rw[r₁.len,sizeLine_eq];lia,?_⟩
  have hp:=Heap.get?_push_size s₁.heap (o:= {cls:=.type "list",data:=.seq vs.toArray}) rfl
  refine⟨ρ₁++[s₁.heap.objs.size],G₁,p₁.trans (PreA.app _ _),q₁,i₁.alloc (s':= {s₁ with heap:=s₁.heap.push {cls:=.type "list",data:=.seq vs.toArray}}) (push_keeps _ _) (fresh_size s₁) hp ⟨vs,0,rfl,r₁.mono (PreA.app _ _) (Sub.refl _)⟩ rfl rfl,_,?_,rfl⟩
  rw[List.getElem?_append_right (by rw[i₁.h.len];exact Nat.le_refl _),i₁.h.len,Nat.sub_self];rfl)
theorem tv_tuple_x {elts k pos C ks d}(h:TVs X (spliced (backTo pos (starEach elts X.f.env))) c (.ex C ks d) c₁):TV X (eval (.Tuple elts k pos) X.f.env) c (.ex C ks d) c₁:=λA ρ G s rm fo i=>
 wpAny_Tuple (wps_ex h rm fo i λx s' z=>z)
theorem tv_list_x {elts pos C ks d}(h:TVs X (spliced (backTo pos (starEach elts X.f.env))) c (.ex C ks d) c₁):TV X (eval (.List elts pos) X.f.env) c (.ex C ks d) c₁:=λA ρ G s rm fo i=>
 wpAny_List (wps_ex h rm fo i λx s' z=>z)
noncomputable abbrev BinR (X:Cx)(c:St)(op:Operator)(a b:AV):=Lf λr=>Op2 X (binaryOp op) a b c (.ok r) c
theorem finI {ρ:List Addr}{G:Gh}{s:Shared}{k:Int}{t n:Nat}(i:In X.B X.f X.e c ρ G s):QV X.B X.f X.e ρ G (.ok (.int k)) c (.int k t) {s with toks:=n}:=⟨ρ,G,PreA.refl _,Sub.refl _,i.toks,t,rfl⟩
theorem finS {ρ:List Addr}{G:Gh}{s:Shared}{k:Str}{t n:Nat}(i:In X.B X.f X.e c ρ G s):QV X.B X.f X.e ρ G (.ok (.str k)) c (.str k t) {s with toks:=n}:=⟨ρ,G,PreA.refl _,Sub.refl _,i.toks,t,rfl⟩
theorem op2_mod {i j:Int}(h:(j==0)=false):Op2 X (binaryOp .Mod) (.int i) (.int j) c (.ok (.int (i.fmod j))) c:=λA ρ G s va vb rm fo I r₁ r₂=>rI r₁ λ_=>rI r₂ λ_=>AutoIntOps.mod_1 (by rw[h];decide) (finI I)
noncomputable def binA (op:Operator)(a b:AV):Option (BinR X c op a b):=match op with
 | .Add=>match a with
  | .str x=>match b with
   | .str y=>some ⟨.str (x++y),[x.length+y.length<=sizeLine],λhp A ρ G s va vb rm fo I r₁ r₂=>rS r₁ λ_=>rS r₂ λ_=>SB.add (λt k=>finS I) hp.1⟩
   |_=>none
  |a=>i2 (M:=BinR X c .Add) (λi j=>some ⟨.int (i+j),[],λ_ A ρ G s va vb rm fo I r₁ r₂=>rI r₁ λ_=>rI r₂ λ_=>P.add_int (finI I)⟩) a b
 | .Sub=>i2 (M:=BinR X c .Sub) (λi j=>some ⟨.int (i-j),[],λ_ A ρ G s va vb rm fo I r₁ r₂=>rI r₁ λ_=>rI r₂ λ_=>P.sub_int (finI I)⟩) a b
 | .Mult=>i2 (M:=BinR X c .Mult) (λi j=>some ⟨.int (i*j),[IntMulOk i j],λhp A ρ G s va vb rm fo I r₁ r₂=>rI r₁ λ_=>rI r₂ λ_=>P.mul_int (finI I) hp.1⟩) a b
 | .FloorDiv=>i2 (M:=BinR X c .FloorDiv) (λi j=>some ⟨.int (i.fdiv j),[(j==0)=false/\Builtin.divisionGoesByPylong i j=false],λhp A ρ G s va vb rm fo I r₁ r₂=>rI r₁ λ_=>rI r₂ λ_=>AutoIntOps.floordiv_1 (by rw[hp.1.1];decide) (by rw[hp.1.2];decide) (finI I)⟩) a b
 | .Mod=>i2 (M:=BinR X c .Mod) (λi j=>some ⟨.int (i.fmod j),[(j==0)=false],λhp=>op2_mod hp.1⟩) a b
 |_=>none
theorem op1_neg {a:Int}:Op1 X (unaryOp .USub) (.int a) c (.ok (.int (-a))) c:=λA ρ G s va rm fo i r₁=>by
 obtain⟨_,rfl⟩:=r₁
 exact P.neg_int ⟨ρ,G,PreA.refl _,Sub.refl _,i.toks,_,rfl⟩
theorem rep_get {ρ:List Addr}{G:Gh}{as:List AV}:∀ {vs:List Value} {n:Nat} {a:AV},RepVs ρ G as vs->as[n]? =some a->∃v,vs[n]? =some v/\RepV ρ G a v:=by
 induction as with
 |nil=>intro vs n a _ h;cases h
 |cons b as ih=>
  intro vs n a r h
  cases vs with
  |nil=>exact r.elim
  |cons w vs=>
   cases n with
   |zero=>exact⟨w,rfl,Option.some.inj h▸r.1⟩
   |succ n=>exact ih (vs:=vs) (n:=n) r.2 h
noncomputable def litAV (v:Value):Option {a// ∀ρ G,RepV ρ G a v}:=match v with
 | .none=>some ⟨.none,λ_ _=>rfl⟩
 | .int i t=>some ⟨.int i,λ_ _=>⟨t,rfl⟩⟩
 | .str s t=>some ⟨.str s,λ_ _=>⟨t,rfl⟩⟩
 | .bool b=>some ⟨.bool b,λ_ _=>rfl⟩
 |_=>none
noncomputable def notSlice:Expr->Bool
 | .Slice .. =>false
 |_=>true
theorem subscripted_plain {slice:Expr}{o i:Value}(h:notSlice slice=true):subscripted slice false o i=operate [o,i] (getItem o i):=by
 cases slice<;>first|rfl|cases h
def ItemW (X:Cx)(c:St)(a k b:AV):Prop:=∀ {value slice:Expr},notSlice slice=true->∀ {A:Around} {ρ:List Addr} {G:Gh} {s:Shared} {va vk:Value} {Q:Value->Shared->Prop} {E:Value->Shared->Prop},In X.B X.f X.e c ρ G s->RepV ρ G a va->RepV ρ G k vk->
  (∀v t,RepV ρ G b v->Q v {s with toks:=t})->wpAny (model X.prog X.w) A (subscriptTail value slice va vk) Q E s
theorem item_list {a b:AV}{xs:List AV}{k:Int}(h:listAt c a=some xs)(h0:0<=k)(h1:k<2^63)(hx:xs[k.toNat]? =some b):ItemW X c a (.int k) b:=λhs _ _ _ s _ _ _ _ i r₁ r₂ hQ=>by
 obtain⟨t,vs,rfl,hl,hr⟩:=list_at h i r₁
 obtain⟨v,hv,rv⟩:=rep_get hr hx
 exact rI r₂ λ_=>tail_any hl.typeIs slot_list_getitem.lookup (wpAny_getItem_list hl h0 h1 (List.getElem?_toArray.trans hv) (hQ v s.toks rv)) (subscripted_plain hs)
theorem item_tup {a b:AV}{xs:List AV}{k:Int}(h:tupleAt c a=some xs)(h0:0<=k)(h1:k<2^63)(hx:xs[k.toNat]? =some b):ItemW X c a (.int k) b:=λhs _ _ _ s _ _ _ _ i r₁ r₂ hQ=>by
 obtain⟨t,vs,rfl,hl,hr⟩:=tuple_at h i r₁
 obtain⟨v,hv,rv⟩:=rep_get hr hx
 exact rI r₂ λ_=>tail_any hl.typeIs slot_tuple_getitem.lookup (getItem_tuple hl (Int.le_trans (by decide) h0) h1 (seqIndex_of h0 ((Int.toNat_lt h0).mp (List.getElem?_eq_some_iff.mp hv).1)) (List.getElem?_toArray.trans hv) (hQ v s.toks rv)) (subscripted_plain hs)
theorem item_str {x:Str}{k:Int}(h: -(x.length:Int)<=k/\k<x.length/\(x.length:Int)<9223372036854775808):ItemW X c (.str x) (.int k) (.str (Txt.item x k)):=λhs _ _ _ s _ _ _ _ i r₁ r₂ hQ=>
 rS r₁ λ_=>rI r₂ λ_=>tail_any (typeIs_str s _ _) F.slot_str_getitem.lookup (SB.getItem (fitsSsize_of (N:=9223372036854775808) (Int.lt_of_lt_of_le (Int.neg_lt_neg h.2.2) h.1) (Int.lt_trans h.2.1 h.2.2) (Int.le_refl _)) (charAt_isSome h.1 h.2.1) (hQ _ _ ⟨_,rfl⟩)) (subscripted_plain hs)
theorem item_dict (O:Ok X){d:Addr}{x:Str}{v:Value}{b:AV}(h:sdictAt X.K X.T d x=some (some v))(hv:∀ρ G,RepV ρ G b v):ItemW X c (.sdict d) (.str x) b:=λhs _ ρ G s _ _ _ _ i r₁ r₂ hQ=>by
 obtain⟨lo,f,hm,e⟩:=sd_map O i h
 cases r₁
 exact rS r₂ λt=>tail_any hm.typeIs slot_dict_getitem.lookup (wpAny_getItem_of (strKind_is X.prog X.w _ t) hm e (hQ _ _ (hv ρ G))) (subscripted_plain hs)
theorem tv_item {value slice pos}{a k b:AV}(hs:notSlice slice=true)(hv:TV X (eval value X.f.env) c (.ok a) c₁)(hk:TV X (eval slice X.f.env) c₁ (.ok k) c₂)(h:ItemW X c₂ a k b):
  TV X (eval (.Subscript value slice pos) X.f.env) c (.ok b) c₂:=λA ρ G s rm fo i=>
 Subscript_ (wp_then hv rm fo i λva s₁ ρ₁ G₁ p₁ q₁ i₁ r₁=>wp_then hk rm fo i₁ λvk s₂ ρ₂ G₂ p₂ q₂ i₂ r₂=>h hs i₂ (r₁.mono p₂ q₂) r₂ λv t rv=>⟨ρ₂,G₂,p₁.trans p₂,q₁.trans q₂,i₂.toks,rv⟩)
end
section
variable {X:Cx}{c c₁ c₂:St}
def CallW (X:Cx)(fa:AV)(as:List AV)(c:St)(b:AV):Prop:=
 ∀ (A:Around) (ρ:List Addr) (G:Gh) (s:Shared) (fv:Value) (vs:List Value),Rm A X.n (X.f.env::X.e.outer)->FrOK X.e.H X.e.ρ X.e.G X.e.outer->In X.B X.f X.e c ρ G s->RepV ρ G fa fv->RepVs ρ G as vs->
  wpAny (model X.prog X.w) A (call fv vs) (QV X.B X.f X.e ρ G (.ok b) c) (QX X.B X.f X.e G (.ok b)) s
@[elab_as_elim] theorem rv1 {ρ:List Addr} {G:Gh} {a:AV} {M:List Value->Prop} {vs:List Value} (r:RepVs ρ G [a] vs) (k:∀v,RepV ρ G a v->M [v]):M vs:=by
 cases vs with
 |nil=>exact r.elim
 |cons v vs=>cases vs with
  |nil=>exact k v r.1
  |cons=>exact r.2.elim
@[elab_as_elim] theorem rv2 {ρ:List Addr} {G:Gh} {a b:AV} {M:List Value->Prop} {vs:List Value} (r:RepVs ρ G [a,b] vs) (k:∀v u,RepV ρ G a v->RepV ρ G b u->M [v,u]):M vs:=by
 cases vs with
 |nil=>exact r.elim
 |cons v vs=>exact rv1 r.2 λu r2=>k v u r.1 r2
theorem sizeOK {α:Type}{l:List α}{n:Nat}(h:l.length=n)(k:(n:Int)<2^63):((l.toArray.size:Nat):Int)<2^63:=by rw[List.size_toArray,h];exact k
theorem QV.mk {ρ:List Addr}{G:Gh}{s:Shared}{b:AV}{v:Value}(i:In X.B X.f X.e c ρ G s)(r:RepV ρ G b v):QV X.B X.f X.e ρ G (.ok b) c v s:=⟨ρ,G,PreA.refl _,Sub.refl _,i,r⟩
theorem callw_len_str {x:Str}(h:(x.length:Int)<2^63):CallW X (.blt "len") [.str x] c (.int x.length):=λA ρ G s fv vs rm fo i rf rs=>by
 cases rf
 exact rv1 rs λv r=>rS r λ_=>P.len_str (Int.not_le.mpr h) (finI i)
theorem callw_len_list {a:AV}{xs:List AV}(q:listAt c a=some xs)(h:(xs.length:Int)<2^63):CallW X (.blt "len") [a] c (.int xs.length):=λA ρ G s fv vs rm fo i rf rs=>by
 cases rf
 refine rv1 rs λv r=>?_
 obtain⟨t,ws,rfl,hl,hr⟩:=list_at q i r
 exact len_list hl (sizeOK hr.len h) (QV.mk i.toks ⟨_,by rw[List.size_toArray,hr.len]⟩)
theorem callw_len_tup {a:AV}{xs:List AV}(q:tupleAt c a=some xs)(h:(xs.length:Int)<2^63):CallW X (.blt "len") [a] c (.int xs.length):=λA ρ G s fv vs rm fo i rf rs=>by
 cases rf
 refine rv1 rs λv r=>?_
 obtain⟨t,ws,rfl,hl,hr⟩:=tuple_at q i r
 exact len_tuple (t:=t) (items:=ws.toArray) hl (sizeOK hr.len h) (QV.mk i.toks ⟨_,by rw[List.size_toArray,hr.len]⟩)
theorem rep_ite {ρ:List Addr}{G:Gh}{p:Prop}[Decidable p]{a b:Int}{t t':Tok}:RepV ρ G (.int (if p then a else b)) (if p then .int a t else .int b t'):=by
 split<;>exact⟨_,rfl⟩
theorem callw_max {a b:Int}:CallW X (.blt "max") [.int a,.int b] c (.int (if b>a then b else a)):=λA ρ G s fv vs rm fo i rf rs=>by
 cases rf
 exact rv2 rs λv u r r'=>rI r λ_=>rI r' λ_=>max_two_ints rm.handled λh' tk hk=>QV.mk (i.ext (s':= {s with heap:=h',toks:=tk}) hk rfl rfl) rep_ite
theorem callw_min {a b:Int}:CallW X (.blt "min") [.int a,.int b] c (.int (if b<a then b else a)):=λA ρ G s fv vs rm fo i rf rs=>by
 cases rf
 exact rv2 rs λv u r r'=>rI r λ_=>rI r' λ_=>min_two_ints rm.handled λh' tk hk=>QV.mk (i.ext (s':= {s with heap:=h',toks:=tk}) hk rfl rfl) rep_ite
theorem callw_int_int {a:Int}:CallW X (.typ "int") [.int a] c (.int a):=λA ρ G s fv vs rm fo i rf rs=>by
 cases rf
 exact rv1 rs λv r=>rI r λ_=>call_int_int (QV.mk i ⟨_,rfl⟩)
theorem callw_int_bool {b:Bool}:CallW X (.typ "int") [.bool b] c (.int (if b then 1 else 0)):=λA ρ G s fv vs rm fo i rf rs=>by
 cases rf
 exact rv1 rs λv r=>rB r (call_int_bool (finI i))
theorem callw_str_int {a:Int}(h:a.natAbs.log2<1920):CallW X (.typ "str") [.int a] c (.str (toString a)):=λA ρ G s fv vs rm fo i rf rs=>by
 cases rf
 exact rv1 rs λv r=>rI r λ_=>P.str_of_int h (finS i)
theorem callw_tuple {a:AV}{xs:List AV}{l:List D}(q:listAt c a=some xs)(h2:dsOf xs=some l)(h3:xs.length<=1000):CallW X (.typ "tuple") [a] c (.dat (.tup l)):=λA ρ G s fv vs rm fo i rf rs=>by
 cases rf
 refine rv1 rs λv r=>?_
 obtain⟨t,ws,rfl,hl,hr⟩:=list_at q i r
 refine call_tuple_list hl (λh' hk=>?_) (by rw[List.size_toArray,hr.len,sizeLine_eq];exact Nat.le_trans h3 (by decide))
 have hp:=Heap.get?_push_size h' (o:= {cls:=.type "tuple",data:=.seq ws.toArray}) rfl
 have hn:s.heap.get? h'.objs.size=none:=Option.eq_none_iff_forall_not_mem.mpr λo q=>absurd (Heap.lt_size (hk _ _ q)) (Nat.lt_irrefl _)
 obtain⟨q₂,i₂⟩:=In.allocG (s':= {s with heap:=h'.push {cls:=.type "tuple",data:=.seq ws.toArray}}) i (λb o q=>Heap.get?_push_of_some _ (hk b o q)) hn hp rfl rfl
 exact⟨ρ,_,PreA.refl _,q₂,i₂,.tup (n:=0) (addG_at ..) ((dsOf_rep h2 hr).mono q₂)⟩
def IsiW (X:Cx)(c:St)(a b:AV)(k:Bool):Prop:=∀ {A:Around} {ρ:List Addr} {G:Gh} {s:Shared} {v u:Value},In X.B X.f X.e c ρ G s->RepV ρ G a v->RepV ρ G b u->wpAny (model X.prog X.w) A (call (.builtin "isinstance") [v,u]) (QV X.B X.f X.e ρ G (.ok (.bool k)) c) (QX X.B X.f X.e G (.ok (.bool k))) s
theorem callw_isi {a b:AV}{k:Bool}(h:IsiW X c a b k):CallW X (.blt "isinstance") [a,b] c (.bool k):=λA ρ G s fv vs rm fo i rf rs=>by
 cases rf
 exact rv2 rs λv u r r'=>h i r r'
theorem isi_of {a:AV}{t T:String}{k:Bool}(e:t=T)(h:∀ {A:Around} {ρ:List Addr} {G:Gh} {s:Shared} {v:Value},In X.B X.f X.e c ρ G s->RepV ρ G a v->wpAny (model X.prog X.w) A (call (.builtin "isinstance") [v,.type T]) (QV X.B X.f X.e ρ G (.ok (.bool k)) c) (QX X.B X.f X.e G (.ok (.bool k))) s):IsiW X c a (.typ t) k:=λi r r'=>by
 cases r'
 exact e▸h i r
theorem isi_tup {a:AV}{xs:List AV}{t:String}{k:Bool}(q:tupleAt c a=some xs)(h:∀ {A:Around} {s:Shared} {p:Addr} {o:Obj} {Q:Value->Shared->Prop} {E:Value->Shared->Prop},s.heap.get? p=some o->o.cls=.type "tuple" ->Q (.bool k) s->(∀t,Q (.bool k) {s with toks:=t})->wpAny (model X.prog X.w) A (call (.builtin "isinstance") [.ref p,.type t]) Q E s):IsiW X c a (.typ t) k:=λi r r'=>by
 cases r'
 obtain⟨t,ws,rfl,⟨o,ho,hc,_⟩,hr⟩:=tuple_at q i r
 exact h ho hc (fin0 i) λt=>finT i
theorem isi_two {a:Int}{j:Nat}(h:c.obj[j]? =some (.tup [.typ "str",.typ "tuple"])):IsiW X c (.int a) (.ref j) false:=λi r r'=>by
 obtain⟨t,rfl⟩:=r
 obtain⟨p,hp,rfl⟩:=r'
 obtain⟨p',o,h1,h2,⟨ws,n,rfl,rfl,h3⟩,h4⟩:=i.h.live _ _ h nofun
 obtain rfl:=Option.some.inj (hp.symm.trans h1)
 refine rv2 (M:=λws=>_=some (tupObj ws 0)->_) h3 (λw1 w2 e1 e2 h2=>?_) h2
 cases e1
 cases e2
 exact IsiPair.tupleOf (vs:=[false,false]) (.cons (.of_false_int (by decide) (by first|rfl|kernel_rfl) (by rw[isSubtype_type];kernel_rfl)) (.cons (.of_false_int (by decide) (by first|rfl|kernel_rfl) (by rw[isSubtype_type];kernel_rfl)) .nil)) (typeIs_int _ _ _) h2 λtk=>finT i
noncomputable def isiI (a:Int)(t:String):Option {k//IsiW X c (.int a) (.typ t) k}:=
 if h:t= "int" then some ⟨true,isi_of h λi r=>rI r λ_=>IsiPair.int_int (fin0 i)⟩else
 if h:t= "str" then some ⟨false,isi_of h λi r=>rI r λ_=>IsiPair.int_str (finT i)⟩else
 if h:t= "tuple" then some ⟨false,isi_of h λi r=>rI r λ_=>IsiPair.int_tuple (finT i)⟩else none
noncomputable def isiS (a:Str)(t:String):Option {k//IsiW X c (.str a) (.typ t) k}:=
 if h:t= "int" then some ⟨false,isi_of h λi r=>rS r λ_=>IsiPair.str_int (finT i)⟩else
 if h:t= "str" then some ⟨true,isi_of h λi r=>rS r λ_=>IsiPair.str_str (fin0 i)⟩else
 if h:t= "tuple" then some ⟨false,isi_of h λi r=>rS r λ_=>IsiPair.str_tuple (finT i)⟩else none
noncomputable def isiT (a:AV)(xs:List AV)(q:tupleAt c a=some xs)(t:String):Option {k//IsiW X c a (.typ t) k}:=
 if h:t= "int" then some ⟨false,isi_tup q λh1 h2 _ k=>h▸IsiPair.tuple_int h1 h2 (k _)⟩else
 if h:t= "str" then some ⟨false,isi_tup q λh1 h2 _ k=>h▸IsiPair.tuple_str h1 h2 (k _)⟩else
 if h:t= "tuple" then some ⟨true,isi_tup q λh1 h2 k _=>h▸IsiPair.tuple_tuple h1 h2 k⟩else none
noncomputable def isiA (a b:AV):Option {k//IsiW X c a b k}:=match b with
 | .typ t=>match a with
  | .int a=>isiI a t
  | .str a=>isiS a t
  |a=>ofS (tupleAt c a) λxs q=>isiT a xs q t
 | .ref j=>match a with
  | .int a=>ofS c.obj[j]? λo q=>match o,q with
   | .tup [.typ x,.typ y],q=>if h:x= "str" then if h':y= "tuple" then some ⟨false,isi_two (h▸h'▸q)⟩else none else none
   |_,_=>none
  |_=>none
 |_=>none
noncomputable def isBltV:AV->Bool
 | .blt _=>true
 | .typ _=>true
 |_=>false
theorem looks_blt {fa:AV}{ρ:List Addr}{G:Gh}{v:Value}(hb:isBltV fa=true)(r:RepV ρ G fa v)(h:Heap):Looks (model X.prog X.w) h (keeperOf v) .machine:=by
 cases fa with
 |blt id=>cases r;exact Looks.of_pure rfl
 |typ n=>cases r;exact Looks.of_pure rfl
 |_=>cases hb
theorem tv_bltW {env:Env}{func args pos}{fa b:AV}{as:List AV}(hb:isBltV fa=true)(hf:TV X (eval func env) c (.ok fa) c₁)(hp:plainArgs args=true)(ha:TVs X (spliced (backTo pos (starEach args env))) c₁ (.ok as) c₂)(h:CallW X fa as c₂ b)
  (he:eval (.Call func args [] pos) env=(do callWith pos (<-eval func env) [] (backTo pos (starEach args env)) (backToKw pos (keywordEach [] env)))):
  TV X (eval (.Call func args [] pos) env) c (.ok b) c₂:=λA ρ G s rm fo i=>
 Call_ (wp_then hf rm fo i λv s₁ ρ₁ G₁ p₁ q₁ i₁ r₁=>wp_callM (looks_blt hb r₁) hp (wps_then ha rm fo i₁ λvs s₂ ρ₂ G₂ p₂ q₂ i₂ r₂=>
  wpAny_mono (h A ρ₂ G₂ s₂ v vs rm fo i₂ (r₁.mono p₂ q₂) r₂) (λu s'=>QV.up (p₁.trans p₂) (q₁.trans q₂)) λu s'=>QX.up (q₁.trans q₂))) he
theorem tv_bltW_x {env:Env}{func args pos}{fa:AV}{C ks d}(hb:isBltV fa=true)(hf:TV X (eval func env) c (.ok fa) c₁)(hp:plainArgs args=true)(ha:TVs X (spliced (backTo pos (starEach args env))) c₁ (.ex C ks d) c₂)
  (he:eval (.Call func args [] pos) env=(do callWith pos (<-eval func env) [] (backTo pos (starEach args env)) (backToKw pos (keywordEach [] env)))):
  TV X (eval (.Call func args [] pos) env) c (.ex C ks d) c₂:=λA ρ G s rm fo i=>
 Call_ (wp_then hf rm fo i λv s₁ ρ₁ G₁ p₁ q₁ i₁ r₁=>wp_callM (looks_blt hb r₁) hp (wps_ex ha rm fo i₁ λx s' z=>Fly.sub q₁ z)) he
end
noncomputable def joinS (sep:Str):List Str->Str
 | [x]=>x
 |l=>Builtin.Str.glued sep l
section
variable {X:Cx}{c c₁ c₂:St}
theorem rep_strs {ρ:List Addr}{G:Gh}{xs:List Str}:∀ {vs:List Value},RepVs ρ G (xs.map .str) vs->∃l:List (Str×Tok),vs=strValues l/\l.map (·.1)=xs:=by
 induction xs with
 |nil=>
  intro vs r
  cases vs with
  |nil=>exact⟨[],rfl,rfl⟩
  |cons=>exact r.elim
 |cons x xs ih=>
  intro vs r
  cases vs with
  |nil=>exact r.elim
  |cons v vs=>
   obtain⟨⟨t,rfl⟩,r2⟩:=r
   obtain⟨l,rfl,rfl⟩:=ih r2
   exact⟨(x,t)::l,rfl,rfl⟩
theorem rep_app {ρ:List Addr}{G:Gh}{a:AV}{ys:List AV}:∀ {vs:List Value},RepVs ρ G (ys++[a]) vs->∃ws v,vs=ws++[v]/\RepVs ρ G ys ws/\RepV ρ G a v:=by
 induction ys with
 |nil=>exact λr=>rv1 r λv r=>⟨[],v,rfl,trivial,r⟩
 |cons y ys ih=>
  intro vs r
  cases vs with
  |nil=>exact r.elim
  |cons u vs=>
   obtain⟨ws,v,rfl,h1,h2⟩:=ih r.2
   exact⟨u::ws,v,rfl,⟨r.1,h1⟩,h2⟩
theorem RepDs.len {G:Gh}{vs:List Value}{l:List D}(h:RepDs G vs l):vs.length=l.length:=(parts_rep (ρ:=[]) h).len.trans (List.length_map _)
theorem RepDs.app {G:Gh}{vs us:List Value}{l m:List D}(h:RepDs G vs l)(h':RepDs G us m):RepDs G (vs++us) (l++m):=by
 induction l generalizing vs with
 |nil=>exact h.inv0▸h'
 |cons d l ih=>
  obtain⟨v,r,rfl,h1,h2⟩:=h.inv
  exact .cons h1 (ih h2)
theorem repD_app {G:Gh}{y:D}{ys:List D}:∀ {vs:List Value},RepDs G vs (ys++[y])->∃ws v,vs=ws++[v]/\RepDs G ws ys/\RepD G v y:=by
 induction ys with
 |nil=>
  intro vs h
  obtain⟨v,r,rfl,h1,h2⟩:=h.inv
  exact⟨[],v,by rw[h2.inv0];rfl,.nil,h1⟩
 |cons d ys ih=>
  intro vs h
  obtain⟨v,r,rfl,h1,h2⟩:=h.inv
  obtain⟨ws,w,rfl,h3,h4⟩:=ih h2
  exact⟨v::ws,w,rfl,.cons h1 h3,h4⟩
def GetM (X:Cx)(c:St)(nm:Str)(a:AV)(id:String):Prop:=∀ {A:Around} {ρ:List Addr} {G:Gh} {s:Shared} {v:Value} {pl:Sem Bool} {Q:Value×List Value->Shared->Prop} {E:Value->Shared->Prop},
 In X.B X.f X.e c ρ G s->RepV ρ G a v->Q (.builtin id,[v]) s->wpAny (model X.prog X.w) A (getMethod v nm pl) Q E s
theorem obj_at {ρ:List Addr}{G:Gh}{s:Shared}{v:Value}{j:Nat}{ao:AO}(i:In X.B X.f X.e c ρ G s)(q:c.obj[j]? =some ao)(nd:ao≠ .dead)(r:RepV ρ G (.ref j) v):∃t o,v=.ref t/\ρ[j]? =some t/\s.heap.get? t=some o/\RepO ρ G ao o/\G t=none:=by
 obtain⟨t,ht,e⟩:=r
 obtain⟨t',o,h1,h2,h3,h4⟩:=i.h.live j _ q nd
 obtain rfl:=Option.some.inj (ht.symm.trans h1)
 exact⟨t,o,e,ht,h2,h3,h4⟩
theorem get_list {nm:Str}{id:String}{j:Nat}{ao:AO}{as:List AV}(q:c.obj[j]? =some ao)(h:listO ao=some as)(hs:Slot "list" nm id)(ht:typeOf (.builtin id)=pure (.type "method_descriptor")):GetM X c nm (.ref j) id:=λi r k=>by
 obtain⟨t,o,rfl,_,h2,h3,_⟩:=obj_at i q (listO_dead h) r
 obtain⟨vs,n,rfl,_⟩:=listO_rep h h3
 exact getMethod_builtin (T:= "list") ⟨_,h2,rfl⟩ F.plainAttrs_list hs ht (λt' e=>by cases e;exact⟨_,h2,rfl⟩) k
theorem get_edict {j:Nat}(q:c.obj[j]? =some (.ns [] [])):GetM X c "get" (.ref j) "dict.get" :=λi r k=>by
 obtain⟨t,o,rfl,_,h2,⟨es,n,vs,rfl,_⟩,_⟩:=obj_at i q nofun r
 exact getMethod_builtin (T:= "dict") ⟨_,h2,rfl⟩ F.plainAttrs_dict F.slot_dict_get F.type_dict_get (λt' e=>by cases e;exact⟨_,h2,rfl⟩) k
theorem get_sdict (O:Ok X){d:Addr}(hd:X.T.dicts.any (Nat.beq d)=true):GetM X c "get" (.sdict d) "dict.get" :=λi r k=>by
 cases r
 obtain⟨es,n,hl,_⟩:=dict_inv (O.1.dict d hd).1
 have h2:=O.1.k.keeps i.h.pre _ _ hl
 exact getMethod_builtin (T:= "dict") ⟨_,h2,rfl⟩ F.plainAttrs_dict F.slot_dict_get F.type_dict_get (λt' e=>by cases e;exact⟨_,h2,rfl⟩) k
theorem get_bits {a:Int}:GetM X c "bit_length" (.int a) "int.bit_length" :=λi r k=>by
 obtain⟨t,rfl⟩:=r
 exact getMethod_int_bit_length k
theorem get_join {a:Str}:GetM X c "join" (.str a) "str.join" :=λi r k=>by
 obtain⟨t,rfl⟩:=r
 exact getMethod_builtin (T:= "str") (typeIs_str _ _ _) F.plainAttrs_str F.slot_str_join F.type_str_join nofun k
noncomputable def ifN (nm:Str){id:String}(x:Str){a:AV}(k:GetM X c x a id):Option {id//GetM X c nm a id}:=if h:nm=x then some ⟨id,h▸k⟩else none
noncomputable def alt {α:Type}(a b:Option α):Option α:=match a with
 |some a=>some a
 |none=>b
noncomputable def methR (nm:Str)(j:Nat):Option {id//GetM X c nm (.ref j) id}:=ofS c.obj[j]? λo q=>alt (ofS (listO o) λas h=>alt (ifN nm "append" (get_list q h F.slot_list_append F.type_list_append)) (ifN nm "pop" (get_list q h F.slot_list_pop F.type_list_pop))) (match o,q with
 | .ns [] [],q=>ifN nm "get" (get_edict q)
 |_,_=>none)
noncomputable def methId (O:Ok X)(c:St)(nm:Str)(a:AV):Option {id//GetM X c nm a id}:=match a with
 | .ref j=>methR nm j
 | .sdict d=>gd (X.T.dicts.any (Nat.beq d)) λh=>ifN nm "get" (get_sdict O h)
 | .int _=>ifN nm "bit_length" get_bits
 | .str _=>ifN nm "join" get_join
 |_=>none
def MethW (X:Cx)(c:St)(id:String)(a:AV)(as:List AV)(b:AV)(c':St):Prop:=∀ {A:Around} {ρ:List Addr} {G:Gh} {s:Shared} {v:Value} {vs:List Value} {Q:Value->Shared->Prop} {E:Value->Shared->Prop},
 In X.B X.f X.e c ρ G s->RepV ρ G a v->RepVs ρ G as vs->(∀u s',In X.B X.f X.e c' ρ G s'->RepV ρ G b u->Q u s')->wpAny (model X.prog X.w) A (call (.builtin id) (v::vs)) Q E s
theorem meth_append {i:Nat}{ao ao':AO}{xs:List AV}{a:AV}(q:c.obj[i]? =some ao)(h:listO ao=some xs)(h':∀ {ρ G u vs n},RepV ρ G a u->RepO ρ G ao (lstObj vs n)->RepO ρ G ao' (lstObj (vs++[u]) (n+1)))(hz:xs.length<=sizeLine):MethW X c "list.append" (.ref i) [a] .none ⟨c.loc,c.obj.set i ao'⟩:=λ{A ρ G s v vs Q E} I r rs hQ=>by
 obtain⟨t,o,rfl,ht,h2,h3,_⟩:=obj_at I q (listO_dead h) r
 obtain⟨vs,n,rfl,h4⟩:=listO_rep h h3
 refine rv1 rs λu ru=>append_at h2 (λhp hs ho=>hQ _ _ (I.upd (s':= {s with heap:=hp}) q (listO_dead h) ht (λb o nb z=>(hs.2 b nb).trans z) ho ?_ rfl rfl) rfl) (by rw[List.size_toArray,h4.len];exact hz)
 rw[List.push_toArray]
 exact h' ru h3
theorem meth_appendL {i:Nat}{xs:List AV}{a:AV}(q:c.obj[i]? =some (.list xs))(hz:xs.length<=sizeLine):MethW X c "list.append" (.ref i) [a] .none ⟨c.loc,c.obj.set i (.list (xs++[a]))⟩:=
 meth_append (ao':=.list (xs++[a])) q rfl (λru ⟨vs,n,e,r⟩=>by cases e;exact⟨_,_,rfl,RepVs.app r ⟨ru,trivial⟩⟩) hz
theorem meth_appendD {i:Nat}{l:List D}{a:AV}{d:D}(q:c.obj[i]? =some (.dlist l))(hd:dOf a=some d)(hz:l.length<=sizeLine):MethW X c "list.append" (.ref i) [a] .none ⟨c.loc,c.obj.set i (.dlist (l++[d]))⟩:=
 meth_append (ao':=.dlist (l++[d])) q rfl (λru ⟨vs,n,e,r⟩=>by cases e;exact⟨_,_,rfl,RepDs.app r (.cons (dOf_rep hd ru) .nil)⟩) (by rw[partsOfD,List.length_map];exact hz)
theorem meth_pop {i:Nat}{ao ao':AO}{xs:List AV}{b:AV}(q:c.obj[i]? =some ao)(h:listO ao=some xs)(h':∀ {ρ G vs n},RepO ρ G ao (lstObj vs n)->∃ws u,vs=ws++[u]/\RepV ρ G b u/\RepO ρ G ao' (lstObj ws (n+1)))(hz:xs.length<=sizeLine):MethW X c "list.pop" (.ref i) [] b ⟨c.loc,c.obj.set i ao'⟩:=λ{A ρ G s v vs Q E} I r rs hQ=>by
 obtain⟨t,o,rfl,ht,h2,h3,_⟩:=obj_at I q (listO_dead h) r
 obtain⟨vs',n,rfl,h4⟩:=listO_rep h h3
 obtain⟨ws,u,rfl,ru,h5⟩:=h' h3
 cases vs with
 |cons=>exact rs.elim
 |nil=>exact Copied.pop_at (its:=(ws++[u]).toArray) h2 (by simp) (λhp hs ho=>hQ _ _ (I.upd (s':= {s with heap:=hp}) q (listO_dead h) ht (λb o nb z=>(hs.2 b nb).trans z) (ho.trans (by rw[List.pop_toArray,List.dropLast_concat])) h5 rfl rfl) ru) (by rw[List.size_toArray,h4.len];exact hz)
theorem meth_popL {i:Nat}{xs ys:List AV}{b:AV}(q:c.obj[i]? =some (.list xs))(h:xs=ys++[b]/\ys.length<sizeLine):MethW X c "list.pop" (.ref i) [] b ⟨c.loc,c.obj.set i (.list ys)⟩:=by
 obtain⟨rfl,h⟩:=h
 refine meth_pop (ao':=.list ys) q rfl (λr=>?_) (by rw[List.length_append];exact h)
 obtain⟨vs,n,e,r⟩:=r
 obtain⟨ws,u,rfl,r1,r2⟩:=rep_app r
 cases e
 exact⟨ws,u,rfl,r2,ws,_,rfl,r1⟩
theorem meth_popD {i:Nat}{xs ys:List D}{b:D}(q:c.obj[i]? =some (.dlist xs))(h:xs=ys++[b]/\ys.length<sizeLine):MethW X c "list.pop" (.ref i) [] (avD b) ⟨c.loc,c.obj.set i (.dlist ys)⟩:=by
 obtain⟨rfl,h⟩:=h
 refine meth_pop (ao':=.dlist ys) q rfl (λr=>?_) (by rw[partsOfD,List.length_map,List.length_append];exact h)
 obtain⟨vs,n,e,r⟩:=r
 obtain⟨ws,u,rfl,r1,r2⟩:=repD_app r
 cases e
 exact⟨ws,u,rfl,avD_rep r2,ws,_,rfl,r1⟩
theorem meth_get (O:Ok X){d:Addr}{x:Str}{r:Option Value}{e b:AV}(h:sdictAt X.K X.T d x=some r)(hb:∀ {ρ G u},RepV ρ G e u->RepV ρ G b (r.getD u)):MethW X c "dict.get" (.sdict d) [.str x,e] b c:=λi r rs hQ=>by
 obtain⟨lo,f,hm,rfl⟩:=sd_map O i h
 cases r
 exact rv2 rs λv u r1 r2=>rS r1 λt=>call_meetsIn F.slot_dict_get hm.typeIs F.entry_dict_get (F.args_dict_get_3 _ _ _) (meets_dict_get_default _ _ (strKind_is X.prog X.w _ t) lo _) ⟨_,hm,hQ _ _ i.toks (hb r2)⟩
theorem meth_get_empty (O:Ok X){j:Nat}{x:Str}{e:AV}(q:c.obj[j]? =some (.ns [] [])):MethW X c "dict.get" (.ref j) [.str x,e] e c:=λ{A ρ G s v vs Q E} i r rs hQ=>by
 obtain⟨p,o,rfl,_,g2,⟨es,n,ws,rfl,g3,g5⟩,g4⟩:=obj_at i q nofun r
 obtain rfl:es=[]:=List.length_eq_zero_iff.mp (keys_str g3).2
 have lo:(p==sysModules)=false:=Bool.eq_false_iff.mpr λz=>by
  obtain⟨o,ho⟩:=O.1.sys
  have:=i.h.base _ _ ho
  rw[<-beq_iff_eq.mp z,g4]at this;cases this
 have hm:s.heap.MapOf (PySem.strKind X.prog X.w) p (λ_=>none):=⟨_,#[],n,g2,⟨rfl,rfl,rfl⟩,rfl,λe he=>(Array.not_mem_empty _ he).elim,λk=>rfl⟩
 exact rv2 rs λv u r1 r2=>rS r1 λt=>call_meetsIn F.slot_dict_get hm.typeIs F.entry_dict_get (F.args_dict_get_3 _ _ _) (meets_dict_get_default _ _ (strKind_is X.prog X.w _ t) lo _) ⟨_,hm,hQ _ _ i.toks r2⟩
theorem meth_bits {a:Int}:MethW X c "int.bit_length" (.int a) [] (.int (Builtin.Int.intBits a)) c:=λ{A ρ G s v vs Q E} i r rs hQ=>by
 obtain⟨t,rfl⟩:=r
 cases vs with
 |cons=>exact rs.elim
 |nil=>exact call_int_bit_length (hQ _ _ i.toks ⟨_,rfl⟩)
theorem meth_join {s:Str}{l:AV}{xs:List Str}(h1:listAt c l=some (xs.map .str))(h2:Builtin.Str.tooLong (xs.toArray.foldl (· + ·.length+s.length) 0)=false)(h3:(joinS s xs).length<=sizeLine):MethW X c "str.join" (.str s) [l] (.str (joinS s xs)) c:=λi r rs hQ=>by
 obtain⟨t,rfl⟩:=r
 refine rv1 rs λu ru=>?_
 obtain⟨p,ws,rfl,hl,hr⟩:=list_at h1 i ru
 obtain⟨l,rfl,rfl⟩:=rep_strs hr
 refine call_meets F.slot_str_join (typeIs_str _ _ _) F.entry_str_join (F.args_str_join_2 _ _) (PySem.meets_str_join_list _ t p l h2) ⟨hl,?_⟩
 cases l with
 |nil=>exact⟨h3,hQ _ _ i.toks ⟨_,rfl⟩⟩
 |cons q l=>cases l with
  |nil=>exact hQ _ _ i ⟨_,rfl⟩
  |cons q' l=>exact⟨h3,hQ _ _ i.toks ⟨_,rfl⟩⟩
theorem tv_meth {pl:Sem Bool}{o name apos args pos}{a b:AV}{id:String}{as:List AV}{c₃:St}(ho:TV X (eval o X.f.env) c (.ok a) c₁)(hm:GetM X c₁ name a id)(hp:plainArgs args=true)
  (ha:TVs X (spliced (backTo pos (starEach args X.f.env))) c₁ (.ok as) c₂) (h:MethW X c₂ id a as b c₃)
  (he:eval (.Call (.Attribute o name apos) args [] pos) X.f.env=(do
   let ov<-eval o X.f.env
   standAt apos.atName
   let(f,first) <-holding [ov] (getMethod ov name pl)
   callWith pos f first (backTo pos (starEach args X.f.env)) [])):
  TV X (eval (.Call (.Attribute o name apos) args [] pos) X.f.env) c (.ok b) c₃:=λA ρ G s rm fo i=>
 MethodCall_ (wp_then ho rm fo i λv s₁ ρ₁ G₁ p₁ q₁ i₁ r₁=>hm i₁ r₁ (wp_callM (λh=>Looks.of_pure rfl) hp (wps_then ha rm fo i₁ λvs s₂ ρ₂ G₂ p₂ q₂ i₂ r₂=>h i₂ (r₁.mono p₂ q₂) r₂ λu s' i' ru=>⟨ρ₂,G₂,p₁.trans p₂,q₁.trans q₂,i',ru⟩))) he
theorem tv_meth_x {pl:Sem Bool}{o name apos args pos}{a:AV}{id:String}{C ks d}(ho:TV X (eval o X.f.env) c (.ok a) c₁)(hm:GetM X c₁ name a id)(hp:plainArgs args=true)
  (ha:TVs X (spliced (backTo pos (starEach args X.f.env))) c₁ (.ex C ks d) c₂)
  (he:eval (.Call (.Attribute o name apos) args [] pos) X.f.env=(do
   let ov<-eval o X.f.env
   standAt apos.atName
   let(f,first) <-holding [ov] (getMethod ov name pl)
   callWith pos f first (backTo pos (starEach args X.f.env)) [])):
  TV X (eval (.Call (.Attribute o name apos) args [] pos) X.f.env) c (.ex C ks d) c₂:=λA ρ G s rm fo i=>
 MethodCall_ (wp_then ho rm fo i λv s₁ ρ₁ G₁ p₁ q₁ i₁ r₁=>hm i₁ r₁ (wp_callM (λh=>Looks.of_pure rfl) hp (wps_ex ha rm fo i₁ λx s' z=>Fly.sub q₁ z))) he
end
section
variable {prog:Program}{w:World}{A:Around}{R:Result->Shared->Prop}{s:Shared}
theorem while_step {test:Expr}{body orelse:List Stmt}{env:Env}
  (h:wpAny (model prog w) A (isTrue test env (eval test env)) (λb s₂=>
    if b then wpAny (model prog w) A (execs body env) (λf s₃=>match f with
      | .next| .cont=>codeAny (model prog w) A (.whileLoop test body orelse env) R s₃
      | .brk=>R (.ok .next) s₃
      | .ret v=>R (.ok (.ret v)) s₃) (notedBy (model prog w) A env λe s'=>R (.error e) s') s₂
    else wpAny (model prog w) A (execs orelse env) (λf s₃=>R (.ok f) s₃) (notedBy (model prog w) A env λe s'=>R (.error e) s') s₂)
    (notedBy (model prog w) A env λe s'=>R (.error e) s') s):codeAny (model prog w) A (.whileLoop test body orelse env) R s:=by
 refine codeAny_of_tree ?_
 show wpAny _ A ((whileTurn test body orelse env).onRaise (λx=>do noteFrame x env;theTreesLotGoes x)) _ _ s
 refine wpAny_noted ?_
 simp only[whileTurn]
 refine wpAny_bind (wpAny_mono h (λb s₂ h₂=>?_) λ_ _ h'=>h')
 cases b with
 |false=>
  simp only[Bool.false_eq_true,if_false]at h₂ ⊢
  exact wpAny_bind (wpAny_mono h₂ (λf s₃ h₃=>wpAny_pure h₃) λ_ _ h'=>h')
 |true=>
  simp only[if_true]at h₂ ⊢
  refine wpAny_bind (wpAny_mono h₂ (λf s₃ h₃=>?_) λ_ _ h'=>h')
  cases f with
  |next=>exact wpAny_pure ⟨rfl,h₃⟩
  |cont=>exact wpAny_pure ⟨rfl,h₃⟩
  |brk=>exact wpAny_pure h₃
  |ret v=>exact wpAny_pure h₃
theorem for_step {target:Expr}{it:Value}{body orelse:List Stmt}{env:Env}
  (h:wpAny (model prog w) A (pyNext it) (λr s₁=>match r with
   |none=>wpAny (model prog w) A (execs orelse env) (λf s₃=>R (.ok f) s₃) (notedBy (model prog w) A env λe s'=>R (.error e) s') s₁
   |some v=>wpAny (model prog w) A (assign target env v) (λ_ s₂=>wpAny (model prog w) A (execs body env) (λf s₃=>match f with
     | .next| .cont=>codeAny (model prog w) A (.forLoop target it body orelse env) R s₃
     | .brk=>R (.ok .next) s₃
     | .ret v=>R (.ok (.ret v)) s₃) (notedBy (model prog w) A env λe s'=>R (.error e) s') s₂) (notedBy (model prog w) A env λe s'=>R (.error e) s') s₁) (notedBy (model prog w) A env λe s'=>R (.error e) s') s)
  (ht:∀v,letOwnedTupleGo target it v=pure ()):codeAny (model prog w) A (.forLoop target it body orelse env) R s:=by
 refine codeAny_of_tree ?_
 show wpAny _ A ((forTurn target it body orelse env).onRaise (λx=>do noteFrame x env;theTreesLotGoes x)) _ _ s
 refine wpAny_noted ?_
 simp only[forTurn]
 refine wpAny_bind (wpAny_standAt (wpAny_bind (wpAny_onRaise (wpAny_mono h (λr s₁ h₁=>?_) λ_ _ h'=>wpAny_standAt h'))))
 cases r with
 |none=>exact wpAny_pure ⟨rfl,codeAny_block h₁⟩
 |some v=>
  refine wpAny_bind (wpAny_of_eq (ht v) ?_)
  refine wpAny_bind (wpAny_mono h₁ (λ_ s₂ h₂=>wpAny_bind (wpAny_mono h₂ (λf s₃ h₃=>?_) λ_ _ h'=>h')) λ_ _ h'=>h')
  cases f with
  |next=>exact wpAny_pure ⟨rfl,h₃⟩
  |cont=>exact wpAny_pure ⟨rfl,h₃⟩
  |brk=>exact wpAny_pure h₃
  |ret v=>exact wpAny_pure h₃
end
section
variable {M:Model}{A:Around}{E:Value->Shared->Prop}{s:Shared}{B:Heap}{e:En}{C:Addr}{ks:List Str}{l:List D}{G:Gh}{x:Value}
theorem fly_back {env:Env}{L:Addr}{Q:Value->Shared->Prop}(hf:env.frame=some L)(hk:env.scope.kind≠ .module)(hfr:A.frames=some (env::e.outer))(fo:FrOK e.H e.ρ e.G e.outer)(h:Fly B (some L) e C ks l G x s)
  (k:∀s',Fly B (some L) e C ks l G x s'->Q x s'):notedBy M A env (cameBackBy M A env Q) x s:=by
 have hLn:=(h.fresh L rfl).1
 refine note_fly hf hk hfr fo h λs' a T fs ts hT hL=>?_
 obtain⟨⟨G',d,oT,es,n,vs,rfl,h2,h3,h4,t1,t2,t3,t4,t5,t6,t7,h6,h7,h8,h9,h10,h11,h12,h13,h14⟩,hkeep,hg,ho⟩:=hT
 unfold cameBackBy
 refine wpAny_bind (wpAny_field h3 rfl t1 ?_)
 rw[if_neg (show¬ ((Value.ref T==Value.none)=true) from by simp)]
 unfold setFlight
 refine wpAny_bind (wpAny_field h3 rfl t1 ?_)
 rw[if_pos (show(Value.ref T !=Value.none)=true from by simp),hf]
 refine wpAny_setField t2 t3 (Array.getElem?_eq_some_iff.mp t4).1 (k _ ?_)
 have other:∀b,b≠T->(s'.heap.update T (Obj.mapFields (·.setIfInBounds 3 (rawInt L)))).get? b=s'.heap.get? b:=λb hb=>Heap.get?_update_other _ _ (Ne.symm hb)
 have hd:=Obj.data_mapFields t3 (·.setIfInBounds 3 (rawInt L))
 have hT':=Heap.get?_update_self (Obj.mapFields (·.setIfInBounds 3 (rawInt L))) t2 (Obj.isFreed_of_fields hd)
 obtain⟨oL,hL1,hL2⟩:=hL
 have LT:L≠T:=λz=>by rw[<-z,hL1]at t2;cases t2;exact hL2 _ t3
 refine⟨⟨G',a,d,fs,es,n,vs,rfl,h2,(other a (Ne.symm t5)).trans h3,h4,.inr ⟨T,_,_,t1,hT',hd,.inr ⟨L,rfl,?_⟩,t5,t6,t7⟩,h6,h7,h8,h9,h10,h11,λb o q=>(other b λz=>?_).trans (h12 b o q),h13,λL' z=>(by cases z;exact h14)⟩,λb o q nr=>?_,λL' z=>(by cases z;exact⟨hLn,oL,(other L LT).trans hL1,hL2⟩),hg,ho⟩
 ·rw[Array.getElem?_setIfInBounds_self_of_lt (Array.getElem?_eq_some_iff.mp t4).1]
 ·rw[z,t6]at q;cases q
 ·have bT:b≠T:=λz=>t7.elim (λy=>nr (z▸y)) λy=>by rw[z,y]at q;cases q
  obtain⟨c1,c2⟩:=hkeep b o q nr
  exact⟨λz=>(other b bT).trans (c1 z),λz=>let⟨sl,w⟩:=c2 z;⟨sl,(other b bT).trans w⟩⟩
end
section
variable {X:Cx}{c c₁ c₂ c₃:St}
def QW (X:Cx)(A:Around)(ρ:List Addr)(G:Gh)(fl:Fl)(c':St)(r:Result)(s':Shared):Prop:=match r with
 | .ok f=>QF X.B X.f X.e ρ G fl c' f s'
 | .error e=>cameBackBy (model X.prog X.w) A X.f.env (QXf X.B X.f X.e G fl) e s'
theorem QW.up {A:Around}{ρ ρ₁:List Addr}{G G₁:Gh}{fl:Fl}{c:St}{r:Result}{s:Shared}(p:PreA ρ ρ₁)(q:Sub G G₁)(h:QW X A ρ₁ G₁ fl c r s):QW X A ρ G fl c r s:=by
 cases r with
 |ok f=>exact QF.up p q h
 |error e=>exact wpAny_mono (M:=model X.prog X.w) (Q':=λ_ s''=>QXf X.B X.f X.e G fl e s'') h (λ_ s' z=>QXf.up q z) λ_ s' z=>QXf.up q z
def TW (X:Cx)(test:Expr)(body:List Stmt)(c:St)(fl:Fl)(c':St):Prop:=
 ∀ (A:Around) (ρ:List Addr) (G:Gh) (s:Shared),Rm A X.n (X.f.env::X.e.outer)->FrOK X.e.H X.e.ρ X.e.G X.e.outer->In X.B X.f X.e c ρ G s->
  codeAny (model X.prog X.w) A (.whileLoop test body [] X.f.env) (QW X A ρ G fl c') s
theorem fun_kind (hk:isFun X.f=true):X.f.env.scope.kind≠ .module:=by show X.f.cs.kind≠ .module;rw[isFun_eq hk];decide
theorem back_fly (hk:isFun X.f=true){A:Around}{ρ:List Addr}{G G₁:Gh}{C ks l}{c':St}{x:Value}{s:Shared}(rm:Rm A X.n (X.f.env::X.e.outer))(fo:FrOK X.e.H X.e.ρ X.e.G X.e.outer)(q:Sub G G₁)(h:Fly X.B (some X.f.L) X.e C ks l G₁ x s):
  notedBy (model X.prog X.w) A X.f.env (λe s'=>QW X A ρ G (.ex C ks l) c' (.error e) s') x s:=
 fly_back (M:=model X.prog X.w) rfl (fun_kind hk) rm.frames fo h λs' z=>Fly.sub q z
theorem tw_false {test body}(ht:TB X (isTrue test X.f.env (eval test X.f.env)) c (.ok false) c₁):TW X test body c .next c₁:=λA ρ G s rm fo i=>by
 refine while_step (wpb_then ht rm fo i λs₁ ρ₁ G₁ p₁ q₁ i₁=>?_)
 rw[if_neg (by decide)]
 exact wpAny_execs_nil ⟨ρ₁,G₁,p₁,q₁,i₁⟩
theorem tw_true {test body}{fl:Fl}(ht:TB X (isTrue test X.f.env (eval test X.f.env)) c (.ok true) c₁)(hb:TF X (execs body X.f.env) c₁ .next c₂)(h:TW X test body c₂ fl c₃):TW X test body c fl c₃:=λA ρ G s rm fo i=>by
 refine while_step (wpb_then ht rm fo i λs₁ ρ₁ G₁ p₁ q₁ i₁=>?_)
 rw[if_pos rfl]
 refine wpAny_mono (hb A ρ₁ G₁ s₁ rm fo i₁) (λf s' z=>?_) λ_ _ z=>z.elim
 cases f<;>first|exact z.elim|skip
 obtain⟨ρ₂,G₂,p₂,q₂,i₂⟩:=z
 exact codeAny_mono (h A ρ₂ G₂ s' rm fo i₂) λr s'' z=>QW.up (p₁.trans p₂) (q₁.trans q₂) z
theorem tw_ret {test body}{a:AV}(ht:TB X (isTrue test X.f.env (eval test X.f.env)) c (.ok true) c₁)(hb:TF X (execs body X.f.env) c₁ (.ret a) c₂):TW X test body c (.ret a) c₂:=λA ρ G s rm fo i=>by
 refine while_step (wpb_then ht rm fo i λs₁ ρ₁ G₁ p₁ q₁ i₁=>?_)
 rw[if_pos rfl]
 refine wpAny_mono (hb A ρ₁ G₁ s₁ rm fo i₁) (λf s' z=>?_) λ_ _ z=>z.elim
 cases f<;>first|exact z.elim|skip
 exact QF.up (r:=.ret a) p₁ q₁ z
theorem tw_x (hk:isFun X.f=true){test body}{C ks l}(ht:TB X (isTrue test X.f.env (eval test X.f.env)) c (.ok true) c₁)(hb:TF X (execs body X.f.env) c₁ (.ex C ks l) c₂):TW X test body c (.ex C ks l) c₂:=λA ρ G s rm fo i=>by
 refine while_step (wpb_then ht rm fo i λs₁ ρ₁ G₁ p₁ q₁ i₁=>?_)
 rw[if_pos rfl]
 exact wpAny_mono (hb A ρ₁ G₁ s₁ rm fo i₁) (λf s' z=>by cases f<;>exact z.elim) λx s' z=>back_fly hk rm fo q₁ z
theorem tf_while {test body pos}{fl:Fl}(h:TW X test body c fl c₁):TF X (exec (.While test body [] pos) X.f.env) c fl c₁:=λA ρ G s rm fo i=>by
 rw[exec_While]
 refine wpAny_bind (wpAny_standAt (wpAny_runOwn ?_))
 exact codeAny_mono (h A ρ G s rm fo i) λr s' z=>by cases r<;>exact z
end
structure Src (prog:Program)(w:World)(G:Gh)(xs:List AV)(P:Nat->Obj->Prop):Prop where
 item:∀ (A:Around) (E:Value->Shared->Prop) (s:Shared) (it:Addr) (o:Obj) (i:Nat) (a:AV) (Q:Option Value->Shared->Prop),A.handled=none->(∀b o,G b=some o->s.heap.get? b=some o)->s.heap.get? it=some o->G it=none->P i o->xs[i]? =some a->
  (∀h' tk v o',h'.get? it=some o'->P (i+1) o'->(∀b ob,b≠it->s.heap.get? b=some ob->h'.get? b=some ob)->(∀ρ,RepV ρ G a v)->Q (some v) {s with heap:=h',toks:=tk})->wpAny (model prog w) A (pyNext (.ref it)) Q E s
 fin:∀ (A:Around) (E:Value->Shared->Prop) (s:Shared) (it:Addr) (o:Obj) (i:Nat) (Q:Option Value->Shared->Prop),A.handled=none->(∀b o,G b=some o->s.heap.get? b=some o)->s.heap.get? it=some o->G it=none->P i o->xs[i]? =none->
  (∀h' tk,(∀b ob,b≠it->s.heap.get? b=some ob->h'.get? b=some ob)->Q none {s with heap:=h',toks:=tk})->wpAny (model prog w) A (pyNext (.ref it)) Q E s
section
variable {B:Heap}{f:Fm}{e:En}{ρ:List Addr}{G:Gh}{s:Shared}{it:Addr}{loc:List (Str×AV)}{obj:List AO}{o:Obj}
theorem lk_mem {x:Str}{av:AV}:∀ {l:List (Str×AV)},lk l x=some av->∃y,(y,av)∈l
 | [],h=>by cases h
 | (y,u)::r,h=>by
  unfold lk at h
  cases q:decide (y=x)with
  |true=>rw[q]at h;cases h;exact⟨y,.head _⟩
  |false=>rw[q]at h;obtain⟨z,hz⟩:=lk_mem h;exact⟨z,.tail _ hz⟩
theorem In.dropLast (x:In B f e ⟨loc,obj++[.raw o]⟩ (ρ++[it]) G s)(hp:PreA e.ρ ρ)(hl:∀p∈loc,closedV obj.length p.2=true)(ho:∀p∈obj,closedO obj.length p=true):In B f e ⟨loc,obj⟩ ρ G s:=by
 have hlen:ρ.length=obj.length:=by have:=x.h.len;simp at this;exact this
 obtain⟨δ,e1,e2,H⟩:=x.h.trim (List.all_eq_true.mpr ho)
 have ht:(ρ++[it]).take obj.length=ρ:=by rw[<-hlen,List.take_left]
 rw[ht]at H
 obtain⟨m,n1,n2⟩:=x.f.ns
 refine⟨H,⟨x.r.keep,hp,λa ha=>x.r.newA a (List.mem_append_left _ ha),x.r.newG,x.r.os,x.r.gsub⟩,⟨⟨m,n1,λy av q hc=>?_⟩,λz=>x.f.own (List.mem_append_left _ z),x.f.gown,x.f.fresh,λy cc q=>?_⟩⟩
 ·obtain⟨v,v1,v2⟩:=n2 y av q hc
  obtain⟨z,hz⟩:=lk_mem q
  exact⟨v,v1,closedV_rep (by rw[hlen];exact hl _ hz) v2⟩
 ·obtain⟨oc,u,i⟩:=x.f.cells y cc q
  exact⟨oc,u,i.kd,λz=>i.nρ (List.mem_append_left _ z),i.nG,i.nH,i.nL,i.here,i.dat,λav w=>let⟨v,v1,v2⟩:=i.val av w;let⟨z,hz⟩:=lk_mem w;⟨v,v1,closedV_rep (by rw[hlen];exact hl _ hz) v2⟩,i.apart⟩
theorem In.extBut {c:St}(x:In B f e c ρ G s){s':Shared}(hi:it∉ρ)(hg:G it=none)(hL:it≠f.L)(hn:it∈e.ρ\/e.H.get? it=none)(hc:∀x cc,f.cl.lookup x=some cc->cc≠it)(k:∀b ob,b≠it->s.heap.get? b=some ob->s'.heap.get? b=some ob)(hgn:s'.gens=s.gens)(hos:s'.os=s.os):In B f e c ρ G s':=by
 obtain⟨H,R,F⟩:=x
 have nG:∀b o,G b=some o->b≠it:=λb o q z=>by rw[z,hg]at q;cases q
 refine⟨⟨H.base,λb o q=>k _ _ (nG b o q) (H.frz b o q),H.len,H.nd,λa ha=>let⟨o,q⟩:=H.there a ha;⟨o,k _ _ (λz=>hi (z▸ha)) q⟩,λi ao q nd=>?_,hgn.trans H.gens⟩,⟨λb o q n=>?_,R.pre,R.newA,R.newG,hos.trans R.os,R.gsub⟩,⟨?_,F.own,F.gown,F.fresh,λx cc q=>let⟨o,u,i⟩:=F.cells x cc q;⟨o,u,i.kd,i.nρ,i.nG,i.nH,i.nL,k _ _ (hc x cc q) i.here,i.dat,i.val,i.apart⟩⟩⟩
 ·obtain⟨a,o,h1,h2,h3,h4⟩:=H.live i ao q nd
  exact⟨a,o,h1,k _ _ (λz=>hi (z▸List.mem_of_getElem? h1)) h2,h3,h4⟩
 ·have nb:b≠it:=λz=>hn.elim (λy=>n (z▸y)) λy=>by rw[z,y]at q;cases q
  obtain⟨a1,a2⟩:=R.keep b o q n
  exact⟨λz=>k _ _ nb (a1 z),λz=>let⟨sl,w⟩:=a2 z;⟨sl,k _ _ nb w⟩⟩
 ·obtain⟨m,n1,n2⟩:=F.ns
  exact⟨m,n1.extBut (b:=it) (λb o nb q=>k b o nb q) (Ne.symm hL),n2⟩
end
section
variable {X:Cx}{c c₁ c₂ c₃:St}
def TFo (X:Cx)(x:Str)(p:Pos)(body:List Stmt)(xs:List AV)(i:Nat)(c:St)(fl:Fl)(c':St):Prop:=
 ∀ (P:Nat->Obj->Prop) (G₀:Gh) (A:Around) (ρ:List Addr) (G:Gh) (s:Shared) (it:Addr) (o:Obj),Src X.prog X.w G₀ xs P->Sub G₀ G->Rm A X.n (X.f.env::X.e.outer)->FrOK X.e.H X.e.ρ X.e.G X.e.outer->PreA X.e.ρ ρ->
  In X.B X.f X.e ⟨c.loc,c.obj++[.raw o]⟩ (ρ++[it]) G s->P i o->codeAny (model X.prog X.w) A (.forLoop (.Name x p) (.ref it) body [] X.f.env) (QW X A ρ G fl c') s
theorem raw_at {B:Heap}{f:Fm}{e:En}{ρ:List Addr}{G:Gh}{s:Shared}{it:Addr}{loc:List (Str×AV)}{obj:List AO}{o:Obj}(i:In B f e ⟨loc,obj++[.raw o]⟩ (ρ++[it]) G s):s.heap.get? it=some o/\G it=none/\it≠f.L/\it∉ρ/\(it∈e.ρ\/e.H.get? it=none)/\ρ.length=obj.length:=by
 have hlen:ρ.length=obj.length:=by have:=i.h.len;simp at this;exact this
 obtain⟨a,o',h1,h2,rfl,h4⟩:=i.h.live obj.length (.raw o) (by simp) (by intro z;cases z)
 rw[<-hlen]at h1
 have:a=it:=by simpa using h1.symm
 subst this
 refine⟨h2,h4,λz=>i.f.own (z▸by simp),λz=>?_,i.r.newA _ (by simp),hlen⟩
 have:=List.nodup_append.mp i.h.nd
 exact this.2.2 _ z _ (by simp) rfl
theorem tfo_nil {x:Str}{p:Pos}{body:List Stmt}{xs:List AV}{i:Nat}(hi:xs[i]? =none)(hl:∀p∈c.loc,closedV c.obj.length p.2=true)(ho:∀p∈c.obj,closedO c.obj.length p=true):TFo X x p body xs i c .next c:=
 λP G₀ A ρ G s it o S sub rm fo hp I hP=>by
  obtain⟨r1,r2,r3,r4,r5,r6⟩:=raw_at I
  have hG:G₀ it=none:=by
   cases q:G₀ it with
   |none=>rfl
   |some o'=>rw[sub _ _ q]at r2;cases r2
  refine for_step (S.fin A _ s it o i _ rm.handled (λb o q=>I.h.frz _ _ (sub _ _ q)) r1 hG hP hi λh' tk k=>?_) (λv=>rfl)
  exact wpAny_execs_nil ⟨ρ,G,PreA.refl _,Sub.refl _,(I.dropLast hp hl ho).extBut r4 r2 r3 r5 (λx cc q z=>let⟨_,_,i⟩:=I.f.cells x cc q;i.nρ (z▸by simp)) k rfl rfl⟩
theorem draw {A:Around}{x:Str}{p:Pos}{body:List Stmt}{xs:List AV}{i:Nat}{a:AV}{P:Nat->Obj->Prop}{G₀:Gh}{ρ:List Addr}{G:Gh}{s:Shared}{it:Addr}{o:Obj}{R:Result->Shared->Prop}(hk:isFun X.f=true)(hloc:isLocal X.f x=true)(hi:xs[i]? =some a)(S:Src X.prog X.w G₀ xs P)(sub:Sub G₀ G)
  (rm:Rm A X.n (X.f.env::X.e.outer)) (I:In X.B X.f X.e ⟨c.loc,c.obj++[.raw o]⟩ (ρ++[it]) G s) (hP:P i o)
  (k:∀s' o',In X.B X.f X.e ⟨put c.loc x a,c.obj++[.raw o']⟩ (ρ++[it]) G s'->P (i+1) o'->wpAny (model X.prog X.w) A (execs body X.f.env) (λf s₃=>match f with
     | .next| .cont=>codeAny (model X.prog X.w) A (.forLoop (.Name x p) (.ref it) body [] X.f.env) R s₃
     | .brk=>R (.ok .next) s₃
     | .ret v=>R (.ok (.ret v)) s₃) (notedBy (model X.prog X.w) A X.f.env λe s'=>R (.error e) s') s'):
  codeAny (model X.prog X.w) A (.forLoop (.Name x p) (.ref it) body [] X.f.env) R s:=by
 obtain⟨r1,r2,r3,r4,r5,r6⟩:=raw_at I
 have hG:G₀ it=none:=by
  cases q:G₀ it with
  |none=>rfl
  |some o'=>rw[sub _ _ q]at r2;cases r2
 refine for_step (S.item A _ s it o i a _ rm.handled (λb o q=>I.h.frz _ _ (sub _ _ q)) r1 hG hP hi λh' tk v o' e1 e2 e3 e4=>?_) (λv=>rfl)
 have I₂:In X.B X.f X.e ⟨c.loc,c.obj++[.raw o']⟩ (ρ++[it]) G {s with heap:=h',toks:=tk}:=by
  have:=I.upd (s':= {s with heap:=h',toks:=tk}) (i:=c.obj.length) (ao:=.raw o) (ao':=.raw o') (a:=it) (o:=o') (by simp) (by intro z;cases z) (by rw[<-r6];simp) e3 e1 rfl rfl rfl
  simpa using this
 refine wpAny_assign_Name (wp_store (c:=⟨c.loc,c.obj++[.raw o']⟩) hk hloc I₂ ((e4 _).mono (PreA.refl _) sub) λs' i'=>?_)
 exact k s' o' i' e2
theorem tfo_cons (hk:isFun X.f=true){x:Str}{p:Pos}{body:List Stmt}{xs:List AV}{i:Nat}{a:AV}{fl:Fl}(hloc:isLocal X.f x=true)(hi:xs[i]? =some a)(hlen:c₁.obj.length=c.obj.length)
  (hb:∀o,TF X (execs body X.f.env) ⟨put c.loc x a,c.obj++[.raw o]⟩ .next ⟨c₁.loc,c₁.obj++[.raw o]⟩) (h:TFo X x p body xs (i+1) c₁ fl c₂):TFo X x p body xs i c fl c₂:=
 λP G₀ A ρ G s it o S sub rm fo hp I hP=>draw hk hloc hi S sub rm I hP λs' o' I' hP'=>by
  refine wpAny_mono (hb o' A _ G s' rm fo I') (λf s₃ z=>?_) λ_ _ z=>z.elim
  cases f<;>first|exact z.elim|skip
  obtain⟨ρ₂,G₂,p₂,q₂,i₂⟩:=z
  have hr:=i₂.h.len
  have e:ρ₂=ρ++[it]:=by
   have:=pre_split p₂
   have h1:ρ₂.length=(ρ++[it]).length:=by rw[hr];simp[hlen,(raw_at I).2.2.2.2.2]
   rw[this,List.length_append]at h1
   have:ρ₂.drop (ρ++[it]).length=[]:=List.length_eq_zero_iff.mp (by lia)
   rw[‹ρ₂=_›,this,List.append_nil]
  subst e
  exact codeAny_mono (h P G₀ A ρ G₂ s₃ it o' S (sub.trans q₂) rm fo hp i₂ hP') λr s'' z=>QW.up (PreA.refl _) q₂ z
theorem tfo_x (hk:isFun X.f=true){x:Str}{p:Pos}{body:List Stmt}{xs:List AV}{i:Nat}{a:AV}{C ks l}(hloc:isLocal X.f x=true)(hi:xs[i]? =some a)
  (hb:∀o,TF X (execs body X.f.env) ⟨put c.loc x a,c.obj++[.raw o]⟩ (.ex C ks l) c₁):TFo X x p body xs i c (.ex C ks l) c₂:=
 λP G₀ A ρ G s it o S sub rm fo hp I hP=>draw hk hloc hi S sub rm I hP λs' o' I' hP'=>
  wpAny_mono (hb o' A _ G s' rm fo I') (λf s₃ z=>by cases f<;>exact z.elim) λx s₃ z=>back_fly hk rm fo (Sub.refl G) z
def ItOK (X:Cx)(iter:Expr)(c:St)(xs:List AV)(c':St):Prop:=
 ∀ (A:Around) (ρ:List Addr) (G:Gh) (s:Shared) (Q:Value->Shared->Prop) (E:Value->Shared->Prop),Rm A X.n (X.f.env::X.e.outer)->FrOK X.e.H X.e.ρ X.e.G X.e.outer->In X.B X.f X.e c ρ G s->
  (∀s' ρ' G' it o P,PreA ρ ρ'->Sub G G'->In X.B X.f X.e ⟨c'.loc,c'.obj++[.raw o]⟩ (ρ'++[it]) G' s'->PreA X.e.ρ ρ'->P 0 o->Src X.prog X.w G' xs P->Q (.ref it) s')->
  wpAny (model X.prog X.w) A (eval iter X.f.env) (λv s₁=>wpAny (model X.prog X.w) A (pyIter v) Q E s₁) E s
theorem tf_for {x:Str}{p:Pos}{iter:Expr}{body:List Stmt}{pos:Pos}{xs:List AV}{fl:Fl}(hi:ItOK X iter c xs c₁)(h:TFo X x p body xs 0 c₁ fl c₂)(hs:∀v,foldedSetIterable iter X.f.env v=pure v):TF X (exec (.For (.Name x p) iter body [] pos) X.f.env) c fl c₂:=λA ρ G s rm fo i=>by
 refine wpAny_For (hi A ρ G s _ _ rm fo i λs' ρ' G' it o P p₁ q₁ I hp hP S=>?_) hs
 refine codeAny_mono (h P G' A ρ' G' s' it o S (Sub.refl _) rm fo hp I hP) λr s'' z=>?_
 have:=QW.up p₁ q₁ z
 cases r<;>exact this
end
theorem rep_none {ρ:List Addr}{G:Gh}:∀ {as:List AV} {vs:List Value} {n:Nat},RepVs ρ G as vs->as[n]? =none->vs[n]? =none
 |as,vs,n,r,h=>by
  rw[List.getElem?_eq_none_iff]at h ⊢
  rw[r.len];exact h
section
variable {prog:Program}{w:World}{G:Gh}
theorem Src.list {t:Addr}{vs:List Value}{n:Nat}{l:List D}(ht:G t=some (lstObj vs n))(hr:RepDs G vs l):Src prog w G (partsOfD l) (λi o=>o.cls=.type "list_iterator" /\o.data=.fields #[.ref t,.int i 0]) where
 item A E s it o i a Q hh hG ho hg hP hx k:=by
  obtain⟨v,hv,rv⟩:=rep_get (ρ:=[]) (G:=G) (parts_rep hr) hx
  refine wpAny_pyNext_list_item (l:=t) (i:=i) (items:=vs.toArray) (x:=v) ⟨o,ho,hP.1,hP.2⟩ ⟨_,hG _ _ ht,rfl,n,rfl⟩ (by simpa using hv) λh' hit hs=>?_
  obtain⟨o',ho',hc',hd'⟩:=hit
  refine k h' s.toks v o' ho' ⟨hc',hd'⟩ (λb ob nb q=>(hs.2 b nb).trans q) λρ=>?_
  obtain⟨v',hv',rv'⟩:=rep_get (ρ:=ρ) (G:=G) (parts_rep hr) hx
  rw[hv]at hv';cases hv';exact rv'
 fin A E s it o i Q hh hG ho hg hP hx k:=by
  have hv:=rep_none (ρ:=[]) (G:=G) (parts_rep hr) hx
  exact wpAny_pyNext_list_end (l:=t) (i:=i) (items:=vs.toArray) hh ⟨o,ho,hP.1,hP.2⟩ ⟨_,hG _ _ ht,rfl,n,rfl⟩ (by simpa using hv) λh' hs=>k h' s.toks λb ob nb q=>hs b ob nb q
theorem Src.tup {t:Addr}{vs:List Value}{n:Nat}{l:List D}(ht:G t=some (tupObj vs n))(hr:RepDs G vs l):Src prog w G (partsOfD l) (λi o=>o.cls=.type "tuple_iterator" /\o.data=.fields #[.ref t,.int i 0]) where
 item A E s it o i a Q hh hG ho hg hP hx k:=by
  obtain⟨v,hv,rv⟩:=rep_get (ρ:=[]) (G:=G) (parts_rep hr) hx
  refine wpAny_pyNext_tuple_item (t:=t) (i:=i) (items:=vs.toArray) (x:=v) ⟨o,ho,hP.1,hP.2⟩ ⟨_,hG _ _ ht,rfl,n,rfl⟩ (by simpa using hv) λh' hit hs=>?_
  obtain⟨o',ho',hc',hd'⟩:=hit
  refine k h' s.toks v o' ho' ⟨hc',hd'⟩ (λb ob nb q=>(hs.2 b nb).trans q) λρ=>?_
  obtain⟨v',hv',rv'⟩:=rep_get (ρ:=ρ) (G:=G) (parts_rep hr) hx
  rw[hv]at hv';cases hv';exact rv'
 fin A E s it o i Q hh hG ho hg hP hx k:=by
  have hv:=rep_none (ρ:=[]) (G:=G) (parts_rep hr) hx
  exact wpAny_pyNext_tuple_end (t:=t) (i:=i) (items:=vs.toArray) hh ⟨o,ho,hP.1,hP.2⟩ ⟨_,hG _ _ ht,rfl,n,rfl⟩ (by simpa using hv) λh' hs=>k h' s.toks λb ob nb q=>hs b ob nb q
noncomputable def rangeAV (n:Nat):List AV:=(List.range n).map λ(k:Nat)=>AV.int (k:Int)
theorem Src.range (n:Nat):Src prog w G (rangeAV n) (λi o=>o= {cls:=.type "range_iterator",dict:=none,data:=.fields #[rawInt (i:Int),rawInt ((n:Int)-i),rawInt 1],slots:= #[]}) where
 item A E s it o i a Q hh hG ho hg hP hx k:=by
  subst hP
  have hi:i<n:=by have:=(List.getElem?_eq_some_iff.mp hx).1;simpa [rangeAV]using this
  have ha:a=.int (i:Int):=by
   unfold rangeAV at hx
   rw[List.getElem?_map,List.getElem?_range hi]at hx
   simpa using hx.symm
  subst ha
  refine wpAny_pyNext_range_item ho (by lia) λh' hit hs=>k h' (s.toks+1) _ _ hit ?_ (λb ob nb q=>(hs.2 b nb).trans q) λρ=>⟨_,rfl⟩
  rw[show((i:Int)+1)=((i+1:Nat):Int) from by lia,show((n:Int)-i-1)=(n:Int)- ((i+1:Nat):Int) from by lia]
 fin A E s it o i Q hh hG ho hg hP hx k:=by
  subst hP
  have hi:n<=i:=by have:=List.getElem?_eq_none_iff.mp hx;simpa [rangeAV]using this
  exact wpAny_pyNext_range_end hh ho (by lia) λh' hs=>k h' s.toks λb ob nb q=>hs b ob nb q
end
section
variable {X:Cx}{c c₁ c₂:St}
theorem it_list {iter:Expr}{l:List D}(h:TV X (eval iter X.f.env) c (.ok (.dat (.lst l))) c₁):ItOK X iter c (partsOfD l) c₁:=λA ρ G s Q E rm fo i k=>by
 have hE:PreA X.e.ρ ρ:=i.r.pre
 refine wp_then h rm fo i λv s₁ ρ₁ G₁ p₁ q₁ i₁ r₁=>?_
 obtain⟨t,n,vs,rfl,e1,rs⟩:=RepD.inv r₁
 ·refine wpAny_pyIter_list (items:=vs.toArray) ⟨_,i₁.h.frz _ _ e1,rfl,n,rfl⟩ ?_
  have hp:=Heap.get?_push_size s₁.heap (o:= {cls:=.type "list_iterator",data:=.fields #[.ref t,.int 0 0]}) rfl
  exact k _ ρ₁ G₁ _ _ _ p₁ q₁ (i₁.alloc (ao:=.raw {cls:=.type "list_iterator",data:=.fields #[.ref t,.int 0 0]}) (s':= {s₁ with heap:=s₁.heap.push {cls:=.type "list_iterator",data:=.fields #[.ref t,.int 0 0]}}) (push_keeps _ _) (fresh_size s₁) hp rfl rfl rfl) i₁.r.pre ⟨rfl,rfl⟩ (Src.list e1 rs)
theorem it_tup {iter:Expr}{l:List D}(h:TV X (eval iter X.f.env) c (.ok (.dat (.tup l))) c₁):ItOK X iter c (partsOfD l) c₁:=λA ρ G s Q E rm fo i k=>by
 refine wp_then h rm fo i λv s₁ ρ₁ G₁ p₁ q₁ i₁ r₁=>?_
 obtain⟨t,n,vs,rfl,e1,rs⟩:=RepD.inv r₁
 ·refine wpAny_pyIter_tuple (items:=vs.toArray) ⟨_,i₁.h.frz _ _ e1,rfl,n,rfl⟩ ?_
  have hp:=Heap.get?_push_size s₁.heap (o:= {cls:=.type "tuple_iterator",data:=.fields #[.ref t,.int 0 0]}) rfl
  exact k _ ρ₁ G₁ _ _ _ p₁ q₁ (i₁.alloc (ao:=.raw {cls:=.type "tuple_iterator",data:=.fields #[.ref t,.int 0 0]}) (s':= {s₁ with heap:=s₁.heap.push {cls:=.type "tuple_iterator",data:=.fields #[.ref t,.int 0 0]}}) (push_keeps _ _) (fresh_size s₁) hp rfl rfl rfl) i₁.r.pre ⟨rfl,rfl⟩ (Src.tup e1 rs)
theorem range_small {n:Int}(h1: -1000000<n)(h2:n<1000000):Builtin.Range.small 0 n 1=true:=by
 unfold Builtin.Range.small Builtin.Range.rangeSize
 simp only[show(1:Int)>0 from by decide,if_true,Int.ediv_one]
 have f:∀k:Int,-2000000<k->k<2000000->Builtin.Range.rangeFitsLong k=true:=λk a b=>by
  unfold Builtin.Range.rangeFitsLong
  simp only[Bool.and_eq_true,decide_eq_true_eq]
  lia
 rw[f 0 (by lia) (by lia),f n (by lia) (by lia),f 1 (by lia) (by lia),f (n+(1-1)) (by lia) (by lia)]
 by_cases q:(0:Int)<n
 ·rw[if_pos q,f _ (by lia) (by lia)];simp
 ·rw[if_neg q,f _ (by lia) (by lia)];simp
theorem it_range {func:Expr}{args:List Expr}{pos:Pos}{n:Int}(h1: -1000000<n)(h2:n<1000000)(hf:TV X (eval func X.f.env) c (.ok (.typ "range")) c₁)(hp:plainArgs args=true)(ha:TVs X (spliced (backTo pos (starEach args X.f.env))) c₁ (.ok [.int n]) c₂)
  (he:eval (.Call func args [] pos) X.f.env=(do callWith pos (<-eval func X.f.env) [] (backTo pos (starEach args X.f.env)) (backToKw pos (keywordEach [] X.f.env)))):ItOK X (.Call func args [] pos) c (rangeAV n.toNat) c₂:=λA ρ G s Q E rm fo i k=>by
 refine Call_ (wp_then hf rm fo i λv s₁ ρ₁ G₁ p₁ q₁ i₁ r₁=>?_) he
 obtain rfl:=r₁
 refine wp_callM (first:=[]) (λh=>Looks.of_pure rfl) hp (wps_then ha rm fo i₁ λvs s₂ ρ₂ G₂ p₂ q₂ i₂ r₂=>rv1 r₂ λu ⟨t,hu⟩=>?_)
 subst hu
 refine call_range_1 (wpAny_pyIter_range (IsRange.new _ _ _ _ _ _ _) (range_small h1 h2) ?_)
 have i₃:=i₂.ext (s':= {s₂ with heap:=s₂.heap.push {cls:=.type "range",data:=.fields #[.int 0 s₂.toks,.int n t,.int 1 (s₂.toks+1)]},toks:=s₂.toks+1+1}) (push_keeps _ _) rfl rfl
 have hpz:=fresh_size {s₂ with heap:=s₂.heap.push {cls:=.type "range",data:=.fields #[.int 0 s₂.toks,.int n t,.int 1 (s₂.toks+1)]},toks:=s₂.toks+1+1}
 have hp:=Heap.get?_push_size (s₂.heap.push {cls:=.type "range",data:=.fields #[.int 0 s₂.toks,.int n t,.int 1 (s₂.toks+1)]}) (o:= {cls:=.type "range_iterator",data:=.fields #[rawInt 0,rawInt (Builtin.Range.rangeSize 0 n 1),rawInt 1]}) rfl
 refine k _ ρ₂ G₂ _ _ _ (p₁.trans p₂) (q₁.trans q₂) (i₃.alloc (ao:=.raw {cls:=.type "range_iterator",data:=.fields #[rawInt 0,rawInt (Builtin.Range.rangeSize 0 n 1),rawInt 1]}) (s':= {heap:=(s₂.heap.push {cls:=.type "range",data:=.fields #[.int 0 s₂.toks,.int n t,.int 1 (s₂.toks+1)]}).push {cls:=.type "range_iterator",data:=.fields #[rawInt 0,rawInt (Builtin.Range.rangeSize 0 n 1),rawInt 1]},gens:=s₂.gens,drawn:=s₂.drawn,toks:=s₂.toks+1+1,os:=s₂.os}) (push_keeps _ _) hpz hp rfl rfl rfl) i₂.r.pre ?_ (Src.range n.toNat)
 rw[rangeSize_one]
 have:(if(0:Int)<n then n-0 else 0)=(n.toNat:Int)- ((0:Nat):Int):=by split<;>lia
 rw[this];rfl
end
noncomputable def isExc (K:Frag)(C:Addr):Bool:=mroIn K C (.type "BaseException")==some true&&typeIn K (.ref C)==some (.type "type")
section
variable {X:Cx}{c c₁ c₂:St}
theorem raise_core {K:Frag}{C:Addr}{env:Env}{M:Model}{A:Around}{E:Value->Shared->Prop}{Q:Flow->Shared->Prop}{s:Shared}{t:Sem Value}(hx:isExc K C=true)(hh:A.handled=none)
  (h:wpAny M A t (λv s₁=>K.In s₁.heap/\∃a dd fs,v=.ref a/\s₁.heap.get? a=some ({cls:=.ref C,dict:=dd,data:=.fields fs}:Obj)/\fs[1]? =some .none/\E (.ref a) s₁) E s):wpAny M A (raiseStmt env (some t) none) Q E s:=by
 unfold isExc at hx
 rw[Bool.and_eq_true,beq_iff_eq,beq_iff_eq]at hx
 unfold raiseStmt
 refine wpAny_bind (wpAny_mono h (λv s₁ h₁=>?_) λ_ _ x=>x)
 obtain⟨KS,a,dd,fs,rfl,ha,hf,hE⟩:=h₁
 obtain⟨hp,g,d,tk,os⟩:=s₁
 have it:Looks M hp (isType (.ref a)) false:=(Looks.ld ha).andThen .now
 have ty:Looks M hp (typeOf (.ref a)) (.ref C):=(Looks.ld ha).andThen .now
 have ii:Looks M hp (isInstance (.ref a) (.type "BaseException")) true:=ty.andThen (looks_mroIn KS hx.1)
 have tc:Looks M hp (typeOf (.ref C)) (.type "type"):=looks_typeIn KS hx.2
 refine wpAny_bind (wpAny_pure (wpAny_bind (wpAny_holding ?_)))
 unfold excFromValue isExcClass
 refine wpAny_bind (wpAny_bind (it.at ?_))
 refine wpAny_pure ?_
 rw[if_neg (by decide)]
 refine wpAny_bind (ii.at ?_)
 rw[if_pos rfl]
 refine wpAny_pure ?_
 dsimp only
 refine wpAny_bind (it.at ?_)
 rw[if_neg (by decide)]
 unfold raisedInstance
 refine wpAny_bind (wpAny_bind (ty.at (wpAny_bind (tc.at ?_))))
 rw[if_pos (by decide+kernel)]
 refine wpAny_pure ?_
 unfold setFlight
 refine wpAny_bind (wpAny_bind (wpAny_field ha rfl hf ?_))
 rw[if_neg (by decide)]
 refine wpAny_pure ?_
 exact wpAny_raiseNew_none hh hE
theorem tf_raise (O:Ok X){e pos}{i:Nat}{C ks l}(h:TV X (eval e X.f.env) c (.ok (.ref i)) c₁)(hi:c₁.obj[i]? =some (.exc C ks l))(hx:isExc X.K C=true):TF X (exec (.Raise (some e) none pos) X.f.env) c (.ex C ks l) c₁:=λA ρ G s rm fo I=>by
 rw[arm_exec_Raise]
 refine wpAny_bind (wpAny_standAt (raise_core (K:=X.K) hx rm.handled ?_))
 refine wpAny_bind (wp_then h rm fo I λv s₁ ρ₁ G₁ p₁ q₁ i₁ r₁=>wpAny_bind (wpAny_standAt (wpAny_pure ?_)))
 obtain⟨a,ha,rfl⟩:=r₁
 obtain⟨a',o,h1,h2,⟨d,fs,es,n,vs,rfl,h5,h6,h7,h8,h9⟩,h4⟩:=i₁.h.live i _ hi (by intro z;cases z)
 rw[ha]at h1;cases h1
 refine⟨O.1.k.keeps i₁.h.pre,a,some d,fs,rfl,h2,h6,?_⟩
 exact⟨⟨G₁,a,d,fs,es,n,vs,rfl,q₁,h2,h5,.inl ⟨h6,by simp⟩,h7,h8,h9,h4,i₁.r.newA _ (List.mem_of_getElem? ha),i₁.h.base,i₁.h.frz,i₁.r.newG,λL hL=>by cases hL;exact i₁.f.gown⟩,i₁.r.keep,λL hL=>by cases hL;exact⟨i₁.f.fresh,i₁.own⟩,i₁.h.gens,i₁.r.os⟩
theorem tf_raise_x {e pos}{C ks l}(h:TV X (eval e X.f.env) c (.ex C ks l) c₁):TF X (exec (.Raise (some e) none pos) X.f.env) c (.ex C ks l) c₁:=λA ρ G s rm fo I=>by
 rw[arm_exec_Raise]
 refine wpAny_bind (wpAny_standAt ?_)
 unfold raiseStmt
 exact wpAny_bind (wpAny_bind (wp_ex h rm fo I λx s' z=>z))
end
noncomputable abbrev excNew (C t:Addr):Obj:= {cls:=.ref C,data:=.fields #[.ref t,.none,.none,.none,.bool false,.none]}
noncomputable def clsO (o:Obj):Option ClassData:=match o.data with
 | .cls cd=>some cd
 |_=>none
theorem clsO_at {o:Obj}{cd:ClassData}(h:clsO o=some cd):o.data=.cls cd:=by
 unfold clsO at h
 cases q:o.data<;>rw[q]at h<;>first|exact congrArg _ (Option.some.inj h)|cases h
noncomputable def excIn2 (K:Frag)(C:Addr):Bool:=(K.lookup C).any λo=>(clsO o).any λcd=>
 o.cls==.type "type" &&cd.mro==.ref C::cd.mro.tail&&o.slots== #[o.slots.getD 0 none,o.slots.getD 1 none,o.slots.getD 2 none,o.slots.getD 3 none,some (.builtin "Exception.__new__"),o.slots.getD 5 none]&& !cd.hasDel&&
  cd.mro.tail.contains (.type "Exception")&& !cd.mro.tail.contains (.type "AttributeError")&& !cd.mro.tail.contains (.type "NameError")
inductive ExcAt (K:Frag)(C:Addr):Prop
 |mk (nm q:Str) (N:Addr) (bs bm:List Value) (hd:Bool) (sn:List Str) (sub:List Value) (ab:Bool) (col:Option Bool) (dd:Option Addr) (k0 k1 k2 k3 k5:Option Value) (at':K.lookup C=some (excClassObj nm q C N bs bm hd sn sub ab col dd k0 k1 k2 k3 k5 "Exception.__new__"))
  (hB:bm.contains (.type "Exception")=true) (hA:bm.contains (.type "AttributeError")=false) (hN:bm.contains (.type "NameError")=false)
theorem excIn2_at {K:Frag}{C:Addr}(h:excIn2 K C=true):ExcAt K C:=by
 obtain⟨⟨cls,dd,data,sl⟩,ho,h⟩:=any_some h
 obtain⟨⟨nm,bs,mro,ns,qn,hd,sn,sub,ab,col,del⟩,hc,h⟩:=any_some h
 simp only[Bool.and_eq_true,beq_iff_eq,Bool.not_eq_true']at h
 obtain⟨⟨⟨⟨⟨⟨h1,h2⟩,h3⟩,h4⟩,h5⟩,h6⟩,h7⟩:=h
 have hc:=clsO_at hc
 dsimp only at hc
 obtain⟨bm,rfl⟩:∃bm,mro=.ref C::bm:=⟨_,h2⟩
 exact⟨nm,qn,ns,bs,bm,hd,sn,sub,ab,col,dd,_,_,_,_,_,by rw[ho,h1,hc,h3,h4],h5,h6,h7⟩
noncomputable def excMakes (K:Frag)(C:Addr):Bool:=excIn2 K C&&specialIn K (.ref C) "__call__" ==some (some (.builtin "type.__call__"))&&instIn K (.ref C) (.type "type")==some true
section
variable {prog:Program}{w:World}{A:Around}{R:Result->Shared->Prop}{h:Heap}{g:Array GenState}{d:Drawn}{t:Nat}{os:OsState}
variable {nm q:Str}{C N:Addr}{bs bm:List Value}{hdct:Bool}{sn:List Str}{sub:List Value}{ab:Bool}{col:Option Bool}{dd:Option Addr}{k0 k1 k2 k3 k5:Option Value}
theorem exc_new (hB:bm.contains (.type "Exception")=true)(hA:bm.contains (.type "AttributeError")=false)(hN:bm.contains (.type "NameError")=false){rest:List Value}(hC:h.get? C=some (excClassObj nm q C N bs bm hdct sn sub ab col dd k0 k1 k2 k3 k5 "Exception.__new__"))
  (hq:R (.ok (.ret (.ref (h.objs.size+1)))) ⟨(h.push {cls:=.type "tuple",data:=.seq rest.toArray}).push (excNew C h.objs.size),g,d,t,os⟩) (hrest:rest.length<=sizeLine):
  codeAny (model prog w) A (.builtin "Exception.__new__" ⟨.ref C::rest,[]⟩) R ⟨h,g,d,t,os⟩:=by
 have Fn:=F.excBase_Exception
 have hends:=Fn.ends
 have hcB:(Value.ref C::bm).contains (.type "Exception")=true:=by rw[List.contains_cons,hB,Bool.or_true]
 have hcA:(Value.ref C::bm).contains (.type "AttributeError")=false:=by rw[List.contains_cons,hA];rfl
 have hcN:(Value.ref C::bm).contains (.type "NameError")=false:=by rw[List.contains_cons,hN];rfl
 refine PySem.codeAny_builtinAt Fn.entry ?_
 unfold Builtin.«BaseException.__new__»
 refine PySem.wpAt_bind ?_
 show PySem.wpAt _ _ _ (stack>>=_) _ _ _
 refine PySem.wpAt_bind (PySem.wpAt_stack λp below=>PySem.wpAt_of_wpAny ?_)
 wp_walk
 refine PySem.wpAt_of_wpAny ?_
 rw[Fn.owner]
 repeat (first|with_reducible refine wpAny_madeHere_exc Fn.canon hC ?_|with_reducible refine wpAny_loadPart_at hC ?_| (with_reducible refine wpAny_isSubtype_exc hC ?_;first|rw[hcB]|rw[hcA]|rw[hcN])|wp_step)
 show R _ _
 rw[Heap.size_push]
 exact hq
theorem exc_check {M:Model}{E:Value->Shared->Prop}(hB:bm.contains (.type "Exception")=true){rest:List Value}{Q:Unit->Shared->Prop}(hC:h.get? C=some (excClassObj nm q C N bs bm hdct sn sub ab col dd k0 k1 k2 k3 k5 "Exception.__new__"))
  (hq:Q () ⟨h,g,d,t,os⟩):wpAny M A (checkBuiltinCall "Exception.__new__" ⟨.ref C::rest,[]⟩) Q E ⟨h,g,d,t,os⟩:=by
 have Fn:=F.excBase_Exception
 have hcont:(Value.ref C::bm).contains (.type "Exception")=true:=by rw[List.contains_cons,hB,Bool.or_true]
 have hstar:=Fn.noStar
 simp only[checkBuiltinCall,Fn.newKind,Fn.newSplit,Fn.newRow]
 repeat (first|refine wpAny_loadPart_at hC ?_| (refine wpAny_isSubtype_exc hC ?_;rw[hcont])|refine wpAny_staticBase_exc hC ?_|refine wpAny_madeBy_exc hC ?_|simp only[bne_self_eq_false,Bool.false_eq_true,if_false]|wp_step)
 exact hq
theorem exc_core {K:Frag}(X:K.In h)(hm:excMakes K C=true){rest:List Value}{init:Value}(hi:Looks (model prog w) h (typeLookup (.ref C) "__init__") (some init))(hb:∀self,Looks (model prog w) h (bindSpecial init self) (init,[self]))(hrest:rest.length<=sizeLine)
  (hq:codeAny (model prog w) (A.under (.builtin "type.__call__" ⟨.ref C::rest,[]⟩)) (.call init ⟨.ref (h.objs.size+1)::rest,[]⟩) (InitBack (h.objs.size+1) R) ⟨(h.push {cls:=.type "tuple",data:=.seq rest.toArray}).push (excNew C h.objs.size),g,d,t,os⟩):
  codeAny (model prog w) A (.call (.ref C) ⟨rest,[]⟩) R ⟨h,g,d,t,os⟩:=by
 unfold excMakes at hm
 rw[Bool.and_eq_true,Bool.and_eq_true,beq_iff_eq,beq_iff_eq]at hm
 obtain⟨⟨m1,m2⟩,m3⟩:=hm
 have call:=looks_specialIn (M:=model prog w) X m2
 have typ:=looks_instIn (M:=model prog w) X m3
 obtain⟨nm,qn,ns,bs,bm,hd,sn,sub,ab,col,dd,k0,k1,k2,k3,k5,ho,e4,e6,e7⟩:=excIn2_at m1
 have hC:=X _ _ ho
 have hc:clsIn K C=some {name:=nm,bases:=bs,mro:=.ref C::bm,ns:=ns,qualname:=qn,hasDict:=hd,slotNames:=sn,subclasses:=sub,abstract:=ab,collection:=col,hasDel:=false}:=by unfold clsIn;rw[ho]
 have Fn:=F.excBase_Exception
 refine codeAny_of_tree ?_
 show wpAny _ _ (callAny (.ref C) _) _ _ _
 refine nd_load hC ?_
 show wpAny _ _ (callAny.viaDunder (.ref C) _) _ _ _
 unfold callAny.viaDunder
 refine wpAny_bind (call.at ?_)
 dsimp only
 rw[tc_bind]
 refine wpAny_bind (wpAny_pure (wpAny_bind (wpAny_pure ?_)))
 refine wpAny_pure (a:=Fin.again (.call (.builtin "type.__call__") ⟨.ref C::rest,[]⟩)) (And.intro rfl ?_)
 refine codeAny_call_builtin_at (Code.quiet_builtin _ (by decide+kernel)) entry_typeCall (check_slot tc_kind tc_split typ (tc_args _ _ _) ?_)
 unfold Builtin.«type.__call__»
 have hm:Looks (model prog w) h (mroOf (.ref C)) (.ref C::bm):=(looks_clsIn X hc).andThen .now
 have made:Looks (model prog w) h (Bind.madeBy (.ref C)) (some "Exception.__new__"):=λA Q E s k q=>by
  obtain⟨hh,g',d',t',os'⟩:=s
  exact wpAny_madeBy_exc (k _ _ hC) q
 repeat (first|simp only[Bool.false_eq_true,if_false]|with_reducible refine wpAny_call ?_|lk)
 refine codeAny_call_builtin_code (Code.quiet_builtin _ Fn.quiet) (exc_check e4 hC ?_)
 refine exc_new e4 e6 e7 hC ?_ hrest
 have k:∀b o,h.get? b=some o->((h.push {cls:=.type "tuple",data:=.seq rest.toArray}).push (excNew C h.objs.size)).get? b=some o:=λb o e=>Heap.get?_push_of_some _ (Heap.get?_push_of_some _ e)
 have hx:((h.push {cls:=.type "tuple",data:=.seq rest.toArray}).push (excNew C h.objs.size)).get? (h.objs.size+1)=some (excNew C h.objs.size):=by heap_get
 have t1:Looks (model prog w) ((h.push {cls:=.type "tuple",data:=.seq rest.toArray}).push (excNew C h.objs.size)) (typeOf (.ref (h.objs.size+1))) (.ref C):=(Looks.ld hx).andThen .now
 have s1:Looks (model prog w) ((h.push {cls:=.type "tuple",data:=.seq rest.toArray}).push (excNew C h.objs.size)) (isSubtype (.ref C) (.ref C)) true:=(looks_mroIn (X.keeps k) (by unfold mroIn;rw[hc,Option.bind_some];simp))
 have i1:=hi.keeps k
 have b1:=(hb (.ref (h.objs.size+1))).keeps k
 show wpAny _ _ _ _ _ _
 unfold isInstance callSpecial? specialOf
 repeat (first|with_reducible refine wpAny_call ?_|lk)
 refine codeAny_mono hq λr s' z=>?_
 rcases r with e| (v|_|_|_)<;>first|exact z|exact z.elim|skip
 obtain⟨rfl,z⟩:=z
 exact wpAny_pure (wpAny_pure z)
end
end Mine
namespace Mine
open PySem PySem.W PyProof.Rows PySem.Calls PySem.SeqAt Builtin Builtin.ObjectAttr
noncomputable def vRef:Value->Bool
 | .ref _=>true
 |_=>false
noncomputable def exc3:List Value:=[.type "Exception",.type "BaseException",.type "object"]
noncomputable def onlyExc:List Value->Bool
 | []=>false
 |v::r=>cond (vRef v) (onlyExc r) (v::r==exc3)
theorem vRef_at {v:Value}(h:vRef v=true):∃c,v=.ref c:=by cases v<;>first|exact⟨_,rfl⟩|cases h
theorem refuse_exc (self:Value):∀ {l:List Value},onlyExc l=true->refuseLoop self "__setattr__" l=pure ()/\l.contains (.type "object")=true:=by
 intro l
 induction l with
 |nil=>exact nofun
 |cons v r ih=>
  intro e
  unfold onlyExc at e
  cases q:vRef v with
  |true=>
   rw[q]at e
   obtain⟨c,rfl⟩:=vRef_at q
   obtain⟨a,b⟩:=ih e
   exact⟨by rw[refuseLoop_ref];exact a,by rw[List.contains_cons,b,Bool.or_true]⟩
  |false=>
   rw[q]at e
   rw[eq_of_beq e]
   exact⟨PySem.F.store_Exception.passes self,by decide⟩
noncomputable def setsExc (K:Frag)(C:Addr)(x:Str):Bool:=
 (clsIn K C).any (λcd=>cd.hasDict&&onlyExc cd.mro)&&findIn K (.ref C) x==some none&&findIn K (.ref C) "__setattr__" ==some (some (.builtin "object.__setattr__"))
section
variable {prog:Program}{w:World}{A:Around}{K:Frag}{C x:Addr}{s:Shared}
theorem setx_open {ox:Obj}{name:Str}{v:Value}{Q:Unit->Shared->Prop}{E:Value->Shared->Prop}{cd:ClassData}(X:K.In s.heap)(hx:s.heap.get? x=some ox)(hcl:ox.cls=.ref C)(hc:clsIn K C=some cd)(ho:onlyExc cd.mro=true)
  (hf:findIn K (.ref C) name=some none) (hsa:findIn K (.ref C) "__setattr__" =some (some (.builtin "object.__setattr__")))
  (h:wpAny (model prog w) A.in1 (storeInOwnDict (.ref x) (.ref C) (.str name s.toks) name v false)
   (λfin s'=>match fin with| .done (.ret _)=>Q () s'|_=>False) (λe s'=>E e s') {s with toks:=s.toks+1}):
  wpAny (model prog w) A (setAttr (.ref x) name v) Q E s:=by
 have ty:∀M,Looks M s.heap (typeOf (.ref x)) (.ref C):=λM=>by
  have:=(Looks.ld (M:=M) (part:=none) hx).andThen (f:=λo=>pure o.cls) .now
  rw[hcl]at this;exact this
 have ty':Looks (model prog w) s.heap (typeOf (.ref x)) (.ref C):=hcl▸(Looks.ld hx).andThen .now
 have SF:=PySem.F.store_object
 obtain⟨r1,r2⟩:=refuse_exc (.ref x) ho
 have ne:cd.mro.isEmpty=false:=by cases q:cd.mro with|nil=>rw[q]at ho;cases ho|cons _ _=>rfl
 have sub:Looks (model prog w) s.heap (isInstance (.ref x) (.type "object")) true:=ty'.andThen (looks_mroIn X (by unfold mroIn;rw[hc,Option.bind_some,if_neg (by rw[ne];decide),r2]))
 have hm:Looks (model prog w) s.heap (mroOf (.ref C)) cd.mro:=(looks_clsIn X hc).andThen .now
 refine wpAny_bind (wpAny_mkText (wpAny_bind (wpAny_bind (wpAny_bind (ty' _ _ _ _ (λ_ _ e=>e) (looks_findIn X hsa _ _ _ _ (λ_ _ e=>e) (wpAny_holding ?_)))))))
 rw[PySem.F.store_object.slot.bind]
 refine wpAny_bind (wpAny_pure (wpAny_bind (wpAny_call ?_)))
 refine codeAny_call_builtin SF.slot.plain SF.entry (@check_slot (model prog w) _ _ {s with toks:=s.toks+1} "object.__setattr__" "object" "__setattr__" (.ref x) [.str name s.toks,v] [] _ SF.kind SF.split sub (SF.args (.ref x) (.str name s.toks) v) ?_)
 show wpAny _ A.in1 (Builtin.«object.__setattr__» ⟨[.ref x,.str name s.toks,v],[]⟩) _ _ _
 rw[osa_eq,refuse_eq]
 refine wpAny_bind (wpAny_bind (ty' _ _ _ _ (λ_ _ e=>e) (wpAny_bind (hm _ _ _ _ (λ_ _ e=>e) ?_))))
 rw[r1]
 refine wpAny_pure (wpAny_bind (ty' _ _ _ _ (λ_ _ e=>e) (wpAny_bind (looks_findIn X hf _ _ _ _ (λ_ _ e=>e) (wpAny_bind (wpAny_pure ?_))))))
 refine wpAny_mono h (λfin s' z=>?_) λe s' z=>z
 rcases fin with(_|_|_|_)|_<;>first|exact z.elim|exact wpAny_pure (wpAny_pure z)
theorem put_dict {d:Addr}{es:List DictEntry}{n:Nat}{name:Str}{tk:Tok}{v:Value}{Q:Fin->Shared->Prop}{E:Value->Shared->Prop}(hd:s.heap.get? d=some (dictOf es n))(hr:es.any (·.refKey)=false)(hz:es.length<=1000)
  (h:∀ (hh:Int) (t:Tok),Q (.done (.ret .none)) {s with heap:=s.heap.update d (Obj.putName name hh (.str name t) v),toks:=s.toks+1}):
  wpAny (model prog w) A (storeInDict d (.str name tk) name v) Q E s:=by
 refine wpAny_bind (wpAny_pure (wpAny_bind ?_))
 unfold nsSet
 refine wpAny_bind (wpAny_bind (wpAny_askSetting (wpAny_pure (wpAny_bind (wpAny_mkText (wpAny_bind (wpAny_loadPart hd ?_)))))))
 dsimp only
 have c0:(!es.toArray.any (·.key.isStr name)&&es.toArray.any (·.refKey))=false:=by
  rw[<-Array.any_toList,<-Array.any_toList]
  show(_&&es.any (·.refKey))=false
  rw[hr,Bool.and_false]
 rw[aRefKeyMayBeTheName_at,c0]
 refine wpAny_updatePart hd ?_
 have D':=Heap.get?_update_self (Obj.putName name (PyData.keyHash w.params name) (.str name s.toks) v) hd (by rw[putName_eq];rfl)
 rw[putName_eq]at D'
 refine wpAny_bind (wpAny_lookBehind D' (pastItsLine_dict ?_) ?_)
 ·rw[List.size_toArray,sizeLine_eq]
  have:∀ (p:DictEntry->Bool) (f:DictEntry->DictEntry) (e:DictEntry) (l:List DictEntry),(PySem.putIn p f e l).length<=l.length+1:=λp f e l=>by
   unfold PySem.putIn;split<;>simp
  exact Nat.le_trans (this _ _ _ _) (by lia)
 ·exact wpAny_pure (h _ _)
end
section
variable {X:Cx}{c c₁ c₂ c₃:St}
theorem set_exc0 {A:Around}{ρ:List Addr}{G:Gh}{s:Shared}{b:AV}{v u:Value}{C:Addr}{j:Nat}{x:Str}{Q:Unit->Shared->Prop}{E:Value->Shared->Prop}(K:X.K.In X.B)(i:In X.B X.f X.e c ρ G s)(r:RepV ρ G (.ref j) v)(r':RepV ρ G b u)
  (h1:c.obj[j]? =some (.exc0 C)) (hp:setsExc X.K C x=true)
  (hQ:∀s' ρ',PreA ρ ρ'->In X.B X.f X.e ⟨c.loc,(c.obj++[AO.ns [x] [b]]).set j (.excl C c.obj.length)⟩ ρ' G s'->Q () s'):wpAny (model X.prog X.w) A (setAttr v x u) Q E s:=by
 have KS:=K.keeps i.h.pre
 obtain⟨y,hy,rfl⟩:=r
 obtain⟨y',o,g1,g2,⟨fs,rfl,g3,g5⟩,g4⟩:=i.h.live j _ h1 (by intro z;cases z)
 rw[hy]at g1;cases g1
 unfold setsExc at hp
 simp only[Bool.and_eq_true,beq_iff_eq]at hp
 obtain⟨⟨p1,p2⟩,p3⟩:=hp
 obtain⟨cd,hc,hd⟩:=any_some p1
 rw[Bool.and_eq_true]at hd
 refine setx_open (C:=C) KS g2 rfl hc hd.2 p2 p3 ?_
 refine wpAny_bind (wpAny_pure (wpAny_bind ?_))
 show wpAny _ _ (instanceDict y true) _ _ _
 unfold instanceDict
 refine wpAny_bind (wpAny_loadPart g2 ?_)
 dsimp only
 refine wpAny_bind ((looks_clsIn KS hc) _ _ _ _ (λ_ _ e=>e) ?_)
 rw[hd.1,if_neg (by decide)]
 rw[if_neg (by simp[typeHasDict])]
 refine wpAny_bind (wpAny_alloc ?_)
 have k1:=push_keeps s.heap {cls:=.type "dict",data:=.dict #[]}
 have gy:=k1 _ _ g2
 refine wpAny_bind (wpAny_update gy ?_)
 refine wpAny_pure ?_
 have hj:=(List.getElem?_eq_some_iff.mp h1).1
 have hys:y≠s.heap.objs.size:=Nat.ne_of_lt (Heap.lt_size g2)
 have i₁:=i.alloc (ao:=.ns [] []) (a:=s.heap.objs.size) (o:=dictOf [] 0) (s':= {s with heap:=s.heap.push {cls:=.type "dict",data:=.dict #[]},toks:=s.toks+1}) k1 (fresh_size s) (Heap.get?_push_size _ rfl) ⟨[],0,[],rfl,trivial,trivial⟩ rfl rfl
 have e2:=Heap.get?_update_self (λo:Obj=> {cls:=o.cls,dict:=some s.heap.objs.size,data:=o.data,slots:=o.slots}) gy rfl
 have i₂:=i₁.upd (s':= {s with heap:=(s.heap.push {cls:=.type "dict",data:=.dict #[]}).update y λo=> {cls:=o.cls,dict:=some s.heap.objs.size,data:=o.data,slots:=o.slots},toks:=s.toks+1}) (i:=j) (ao:=.exc0 C) (ao':=.excl C c.obj.length) (a:=y)
  (by show(c.obj++_)[j]? =_;rw[List.getElem?_append_left hj];exact h1) (by intro z;cases z) (by rw[List.getElem?_append_left (by rw[i.h.len];exact hj)];exact hy) (λb o nb q=>(Heap.get?_update_other _ _ (Ne.symm nb)).trans q) e2
  ⟨s.heap.objs.size,fs,by rw[List.getElem?_append_right (by rw[i.h.len];exact Nat.le_refl _),i.h.len,Nat.sub_self];rfl,rfl,g3,g5⟩ rfl rfl
 have e3:((s.heap.push {cls:=.type "dict",data:=.dict #[]}).update y λo=> {cls:=o.cls,dict:=some s.heap.objs.size,data:=o.data,slots:=o.slots}).get? s.heap.objs.size=some (dictOf [] 0):=(Heap.get?_update_other _ _ hys).trans (Heap.get?_push_size _ rfl)
 refine put_dict (s:= {s with heap:=(s.heap.push {cls:=.type "dict",data:=.dict #[]}).update y λo=> {cls:=o.cls,dict:=some s.heap.objs.size,data:=o.data,slots:=o.slots},toks:=s.toks+1}) e3 rfl (Nat.zero_le _) λhh t=>hQ _ (ρ++[s.heap.objs.size]) (PreA.app _ _) ?_
 have e4:=Heap.get?_update_self (Obj.putName x hh (.str x t) u) e3 (by rw[putName_eq];rfl)
 rw[putName_eq]at e4
 obtain⟨vs',w1,w2⟩:=keys_put (hsh:=hh) (t:=t) (x:=x) (r'.mono (PreA.app ρ [s.heap.objs.size]) (Sub.refl G)) [] (ks:=[]) (vs:=[]) (xs:=[]) trivial trivial
 have i₃:=i₂.upd (s':= {s with heap:=((s.heap.push {cls:=.type "dict",data:=.dict #[]}).update y λo=> {cls:=o.cls,dict:=some s.heap.objs.size,data:=o.data,slots:=o.slots}).update s.heap.objs.size (Obj.putName x hh (.str x t) u),toks:=s.toks+1+1}) (i:=c.obj.length) (ao:=.ns [] []) (ao':=.ns [x] [b]) (a:=s.heap.objs.size)
  (by show((c.obj++_).set j _)[c.obj.length]? =_;rw[List.getElem?_set_ne (Nat.ne_of_lt hj),List.getElem?_append_right (Nat.le_refl _),Nat.sub_self];rfl) (by intro z;cases z) (by rw[List.getElem?_append_right (by rw[i.h.len];exact Nat.le_refl _),i.h.len,Nat.sub_self];rfl) (λb o nb q=>(Heap.get?_update_other _ _ (Ne.symm nb)).trans q) e4 ⟨_,_,vs',rfl,w1,w2⟩ rfl rfl
 have e5:(((c.obj++[AO.ns [] []]).set j (.excl C c.obj.length)).set c.obj.length (.ns [x] [b]))=(c.obj++[AO.ns [x] [b]]).set j (.excl C c.obj.length):=by
  rw[List.set_comm _ _ (Nat.ne_of_lt hj)]
  congr 1
  rw[List.set_append_right _ _ (Nat.le_refl _),Nat.sub_self];rfl
 rw[<-e5]
 exact i₃
theorem set_excl {A:Around}{ρ:List Addr}{G:Gh}{s:Shared}{b:AV}{v u:Value}{C:Addr}{j k:Nat}{ks:List Str}{xs:List AV}{x:Str}{Q:Unit->Shared->Prop}{E:Value->Shared->Prop}(K:X.K.In X.B)(i:In X.B X.f X.e c ρ G s)(r:RepV ρ G (.ref j) v)(r':RepV ρ G b u)
  (h1:c.obj[j]? =some (.excl C k)) (h2:c.obj[k]? =some (.ns ks xs)) (hp:setsExc X.K C x=true) (hz:ks.length<=900)
  (hQ:∀s',In X.B X.f X.e ⟨c.loc,c.obj.set k (.ns (putK ks xs x b).1 (putK ks xs x b).2)⟩ ρ G s'->Q () s'):wpAny (model X.prog X.w) A (setAttr v x u) Q E s:=by
 have KS:=K.keeps i.h.pre
 obtain⟨y,hy,rfl⟩:=r
 obtain⟨y',o,g1,g2,⟨dx,fs,g3,rfl,g5⟩,g4⟩:=i.h.live j _ h1 (by intro z;cases z)
 rw[hy]at g1;cases g1
 obtain⟨dx',o',f1,f2,⟨es,n,vs,rfl,f4,f5⟩,f6⟩:=i.h.live k _ h2 (by intro z;cases z)
 rw[g3]at f1;cases f1
 unfold setsExc at hp
 simp only[Bool.and_eq_true,beq_iff_eq]at hp
 obtain⟨⟨p1,p2⟩,p3⟩:=hp
 obtain⟨cd,hc,hd⟩:=any_some p1
 rw[Bool.and_eq_true]at hd
 refine setx_open (C:=C) KS g2 rfl hc hd.2 p2 p3 ?_
 refine wpAny_bind (wpAny_pure (wpAny_bind ?_))
 show wpAny _ _ (instanceDict y true) _ _ _
 unfold instanceDict
 refine wpAny_bind (wpAny_loadPart g2 ?_)
 dsimp only
 refine wpAny_bind ((looks_clsIn KS hc) _ _ _ _ (λ_ _ e=>e) ?_)
 rw[hd.1,if_neg (by decide)]
 refine wpAny_pure ?_
 refine put_dict (s:= {s with toks:=s.toks+1}) f2 (keys_str f4).1 (by rw[(keys_str f4).2];lia) λhh t=>hQ _ ?_
 have e4:=Heap.get?_update_self (Obj.putName x hh (.str x t) u) f2 (by rw[putName_eq];rfl)
 rw[putName_eq]at e4
 obtain⟨vs',w1,w2⟩:=keys_put (hsh:=hh) (t:=t) (x:=x) r' es f4 f5
 exact i.upd h2 (by intro z;cases z) g3 (λb o nb q=>(Heap.get?_update_other _ _ (Ne.symm nb)).trans q) e4 ⟨_,_,vs',rfl,w1,w2⟩ rfl rfl
end
end Mine
namespace Mine
open PySem PySem.W PyProof.Rows PySem.Calls PySem.SeqAt
theorem excInit_stub:Manifest.isStub "Exception" =false:=by decide+kernel
theorem excInit_type:typeOf (.type "Exception")=pure (.type "type"):=by first|rfl|kernel_rfl
theorem excInit_find (K:Frag):findCls K (.type "Exception") (.type "type") "__init__" =some (.val (.builtin "Exception.__init__")):=by kernel_rfl
section
variable {h:Heap}{g:Array GenState}{d:Drawn}{t:Nat}{os:OsState}{nm q:Str}{C N:Addr}{bs bm:List Value}{hdct:Bool}{sn:List Str}{sub:List Value}{ab:Bool}{col:Option Bool}{dd:Option Addr}{k0 k1 k2 k3 k5:Option Value}{newId:String}
theorem exc_check_init {M:Model}{A:Around}{E:Value->Shared->Prop}(hB:bm.contains (.type "Exception")=true){e:Addr}{oe:Obj}{rest:List Value}{Q:Unit->Shared->Prop}
  (hC:h.get? C=some (excClassObj nm q C N bs bm hdct sn sub ab col dd k0 k1 k2 k3 k5 newId)) (he:h.get? e=some oe) (hcls:oe.cls=.ref C) (hq:Q () ⟨h,g,d,t,os⟩):
  wpAny M A (checkBuiltinCall "Exception.__init__" ⟨.ref e::rest,[]⟩) Q E ⟨h,g,d,t,os⟩:=by
 have F:=F.excBase_Exception
 have hcB:(Value.ref C::bm).contains (.type "Exception")=true:=by rw[List.contains_cons,hB,Bool.or_true]
 have hshort:=F.noStar
 simp only[checkBuiltinCall,F.initKind,F.initSplit,F.initRow]
 repeat (first| (with_reducible refine wpAny_loadPart_at he ?_;rw[hcls])|with_reducible refine wpAny_loadPart_at hC ?_| (with_reducible refine wpAny_isSubtype_exc hC ?_;rw[hcB])|wp_step)
 refine wpAny_onRaise ?_
 rw[show∀ (a b:String) (n:Nat),Bind.check ⟨.positional,"*","Exception",.self,[⟨"args",.varPos,false⟩]⟩ a b n (List.map (λx=>x.fst) ({pos:=Value.ref e::rest}:Args).kw)=pure () from
  λa b n=>check_star_args _ _ _ _ _ _]
 exact wpAny_pure hq
theorem call_excInit {prog:Program}{w:World}{A:Around}{E:Value->Shared->Prop}{Q:Value->Shared->Prop}{a:Addr}{u:Value}{fs:Array Value}(hB:bm.contains (.type "Exception")=true)(hC:h.get? C=some (excClassObj nm q C N bs bm hdct sn sub ab col dd k0 k1 k2 k3 k5 newId)){od:Option Addr}
  (ho:h.get? a=some {cls:=.ref C,dict:=od,data:=.fields fs}) (h6:fs.size=6)
  (hq:∀h' v,(∀b ob,b≠a->h.get? b=some ob->h'.get? b=some ob)->h'.get? a=some {cls:=.ref C,dict:=od,data:=.fields (fs.setIfInBounds 0 v)}->Q .none ⟨h',g,d,t,os⟩):wpAny (model prog w) A (call (.builtin "Exception.__init__") [.ref a,u]) Q E ⟨h,g,d,t,os⟩:=by
 have Fx:=F.excBase_Exception
 refine wpAny_call ?_
 refine codeAny_call_builtin Fx.init.plain Fx.initEntry (exc_check_init hB hC ho rfl ?_)
 show wpAny _ _ (newTuple [u]>>=λv=>Builtin.BaseException.bexcPut (.ref a) 0 v>>=λ_=>ret .none) _ _ _
 unfold newTuple Builtin.BaseException.bexcPut
 refine wpAny_bind (wpAny_newObj_type ?_ (by show [u].toArray.size<=sizeLine;rw[sizeLine_eq,List.size_toArray];show 1<=16777216;decide))
 have ho':=Heap.get?_push_of_some {cls:=.type "tuple",data:=.seq [u].toArray} ho
 have h0:∃v,fs[0]? =some v:=⟨fs[0],by rw[Array.getElem?_eq_getElem]⟩
 obtain⟨v0,hv0⟩:=h0
 refine wpAny_bind (wpAny_bind (wpAny_field ho' rfl hv0 (wpAny_bind (wpAny_setField ho' rfl (by lia) ?_))))
 have fin:Q .none ⟨(h.push {cls:=.type "tuple",data:=.seq [u].toArray}).update a (Obj.mapFields (·.setIfInBounds 0 (.ref h.objs.size))),g,d,t,os⟩:=
  hq _ (.ref h.objs.size) (λb ob nb q=>(Heap.get?_update_other _ _ (Ne.symm nb)).trans (Heap.get?_push_of_some _ q)) (Heap.get?_update_self _ ho' rfl)
 cases v0<;>first
  |exact wpAny_letGo (wpAny_pure ⟨_,rfl,fin⟩)
  |exact wpAny_pure (wpAny_pure ⟨_,rfl,fin⟩)
  |exact wpAny_letGo (wpAny_pure fin)
  |exact wpAny_pure (wpAny_pure fin)
end
section
variable {X:Cx}{c c₁ c₂ c₃:St}
theorem init_method {prog:Program}{w:World}{A:Around}{E:Value->Shared->Prop}{s:Shared}{K:Frag}{pl:Sem Bool}{Q:Value×List Value->Shared->Prop}(X:K.In s.heap)(h:Q (.builtin "Exception.__init__",[]) {s with toks:=s.toks+1}):
  wpAny (model prog w) A (getMethod (.type "Exception") "__init__" pl) Q E s:=by
 have hstub:opaqueClassAbove (.type "Exception")=pure none:=by unfold opaqueClassAbove;dsimp only;rw[excInit_stub];rfl
 have L0:Looks (model prog w) s.heap (typeOf (.type "Exception")) (.type "type"):=Looks.of_pure excInit_type
 have hg:findIn K (.type "type") "__getattribute__" =some (some (.builtin "type.__getattribute__")):=type_tga
 unfold getMethod specialOf
 refine wpAny_bind (wpAny_bind (L0.here ((looks_findIn X hg).here ?_)))
 dsimp only
 rw[if_pos canon_tga]
 refine wpAny_bind (wpAny_mono (Q:=λv=>Q (v,[])) (E:=E) ?_ (λ_ _ z=>wpAny_pure z) λ_ _ z=>z)
 have LO:Looks (model prog w) s.heap (opaqueClassAbove (.type "Exception")) none:=Looks.of_pure hstub
 refine cls_open X LO L0 hg (looks_hook X (r:=none) (by rfl)) (by show subIn K _ _=_;rfl) (excInit_find K)
  (wpAny_pure (by show wpAny _ _ (handedOut _) _ _ _;rw[handedOut_of (by decide+kernel)];exact wpAny_pure h))
theorem tv_excInit (O:Ok X){pl:Sem Bool}{o apos args pos}{j:Nat}{b:AV}{C:Addr}(ho:TV X (eval o X.f.env) c (.ok (.typ "Exception")) c₁)(hp:plainArgs args=true)
  (ha:TVs X (spliced (backTo pos (starEach args X.f.env))) c₁ (.ok [.ref j,b]) c₂) (h1:c₂.obj[j]? =some (.exc0 C)) (hC:excIn2 X.K C=true)
  (he:eval (.Call (.Attribute o "__init__" apos) args [] pos) X.f.env=(do
   let ov<-eval o X.f.env
   standAt apos.atName
   let(f,first) <-holding [ov] (getMethod ov "__init__" pl)
   callWith pos f first (backTo pos (starEach args X.f.env)) [])):
  TV X (eval (.Call (.Attribute o "__init__" apos) args [] pos) X.f.env) c (.ok .none) c₂:=λA ρ G s rm fo i=>by
 refine MethodCall_ (wp_then ho rm fo i λv s₁ ρ₁ G₁ p₁ q₁ i₁ r₁=>?_) he
 obtain rfl:=r₁
 refine init_method (O.1.k.keeps i₁.h.pre) ?_
 refine wp_callM (first:=[]) (λh=>Looks.of_pure rfl) hp (wps_then ha rm fo (i₁.toks (t:=s₁.toks+1)) λvs s₂ ρ₂ G₂ p₂ q₂ i₂ r₂=>rv2 r₂ λv u ⟨a,hy,hv⟩ ru=>?_)
 subst hv
 obtain⟨a',ob,g1,g2,⟨fs,rfl,g3,g5⟩,g4⟩:=i₂.h.live j _ h1 (by intro z;cases z)
 rw[hy]at g1;cases g1
 have KS:=O.1.k.keeps i₂.h.pre
 obtain⟨hp2,gg,dr,tk,oss⟩:=s₂
 obtain⟨nm,qn,ns,bs,bm,hd,sn,sub,ab,col,dd,k0,k1,k2,k3,k5,hlk,e4,_,_⟩:=excIn2_at hC
 refine call_excInit (nm:=nm) (q:=qn) (N:=ns) (bs:=bs) (hdct:=hd) (sn:=sn) (sub:=sub) (ab:=ab) (col:=col) (dd:=dd) (k0:=k0) (k1:=k1) (k2:=k2) (k3:=k3) (k5:=k5) (newId:= "Exception.__new__") e4 (KS _ _ hlk) g2 g3 λh' t k e=>?_
 refine⟨ρ₂,G₂,p₁.trans p₂,q₁.trans q₂,?_,rfl⟩
 have hj:=(List.getElem?_eq_some_iff.mp h1)
 have:=i₂.upd (s':=⟨h',gg,dr,tk,oss⟩) (ao':=.exc0 C) h1 (by intro z;cases z) hy k e ⟨_,rfl,by simp[g3],by rw[Array.getElem?_setIfInBounds_ne (by decide)];exact g5⟩ rfl rfl
 rw[show c₂.obj.set j (.exc0 C)=c₂.obj from by obtain⟨l1,l2⟩:=hj;rw[<-l2,List.set_getElem_self]]at this
 exact this
end
theorem make_exc {prog:Program}{w:World}{B:Heap}{K:Frag}{n:Nat}{C fI:Addr}{args:List AV}{obj obj':List AO}(X:K.In B)(hm:excMakes K C=true)(hi:findIn K (.ref C) "__init__" =some (some (.ref fI)))(hf:typeIn K (.ref fI)=some (.type "function"))(hz:args.length<=100)
  (h:CallOK prog w B n (.ref fI) (.ref obj.length::args) (obj++[.exc0 C]) (.ret .none) obj'):CallOK prog w B (n+2) (.ref C) args obj (.ret (.ref obj.length)) obj':=by
 intro A ρ G s vs fr rm fo H r
 have KS:K.In s.heap:=X.keeps (H.pre (c:=⟨[],obj⟩))
 have k1:∀b o,s.heap.get? b=some o->((s.heap.push {cls:=.type "tuple",data:=.seq vs.toArray}).push (excNew C s.heap.objs.size)).get? b=some o:=λb o q=>Heap.get?_push_of_some _ (Heap.get?_push_of_some _ q)
 have gx:((s.heap.push {cls:=.type "tuple",data:=.seq vs.toArray}).push (excNew C s.heap.objs.size)).get? (s.heap.objs.size+1)=some (excNew C s.heap.objs.size):=by heap_get
 have no:=Heap.get?_none_of_le (Nat.le_succ s.heap.objs.size)
 exact exc_core KS hm (looks_findIn KS hi) (λself=>bind_fn KS self hf) (by rw[r.len,sizeLine_eq];exact Nat.le_trans hz (by decide))
  (CallOK.made (s:=s) (δ:=[s.heap.objs.size+1]) h rm fo k1 (λa ha=>List.mem_singleton.mp ha▸no) rfl (by rw[<-H.len];exact List.getElem?_concat_length)
   (H.alloc (s':= {s with heap:=(s.heap.push {cls:=.type "tuple",data:=.seq vs.toArray}).push (excNew C s.heap.objs.size)}) (ao:=.exc0 C) k1 no gx ⟨_,rfl,rfl,rfl⟩ rfl) r)
inductive Orc where
 |br (b:Bool)
 |go
 |item (a:AV)
 |call (sel:List Nat) (out:Out) (obj:List AO)
 |val (r:Rv) (c:St)
 |suite (fl:Fl) (c:St)
 |fz
 |pop (ys:List AV) (a:AV)
 |popD (ys:List D) (y:D)
 |join (l:List Str)
noncomputable abbrev Orc.ctorIdx (x:Orc):Nat:= @Orc.casesOn (λ_=>Nat) x (λ_=>0) 1 (λ_=>2) (λ_ _ _=>3) (λ_ _=>4) (λ_ _=>5) 6 (λ_ _=>7) (λ_ _=>8) (λ_=>9)
inductive Vl where
 |v (r:Rv)
 |vs (r:Rs)
 |b (r:Rb)
 |f (r:Fl)
noncomputable abbrev Vl.ctorIdx (x:Vl):Nat:= @Vl.casesOn (λ_=>Nat) x (λ_=>0) (λ_=>1) (λ_=>2) (λ_=>3)
structure Rz where
 v:Vl
 c:St
 o:List Orc
 p:List Prop
inductive Task where
 |e (x:Expr)
 |es (pos:Pos) (l:List Expr)
 |t (x:Expr)
 |s (x:Stmt)
 |ss (l:List Stmt)
noncomputable abbrev Task.ctorIdx (x:Task):Nat:= @Task.casesOn (λ_=>Nat) x (λ_=>0) (λ_ _=>1) (λ_=>2) (λ_=>3) (λ_=>4)
def Good (X:Cx)(t:Task)(c:St)(v:Vl)(c':St):Prop:=match t,v with
 | .e x,.v r=>TV X (eval x X.f.env) c r c'
 | .es pos l,.vs r=>TVs X (spliced (backTo pos (starEach l X.f.env))) c r c'
 | .t x,.b r=>TB X (isTrue x X.f.env (eval x X.f.env)) c r c'
 | .s x,.f r=>TF X (exec x X.f.env) c r c'
 | .ss l,.f r=>TF X (execs l X.f.env) c r c'
 |_,_=>False
structure Ez {R:Type}(M:R->St->Prop) where
 r:R
 c:St
 o:List Orc
 p:List Prop
 ok:AllP p->M r c
noncomputable abbrev EV (X:Cx)(c:St)(x:Expr):=Option (Ez λr c'=>TV X (eval x X.f.env) c r c')
noncomputable abbrev EVs (X:Cx)(c:St)(pos:Pos)(l:List Expr):=Option (Ez λr c'=>TVs X (spliced (backTo pos (starEach l X.f.env))) c r c')
noncomputable abbrev EB (X:Cx)(c:St)(x:Expr):=Option (Ez λr c'=>TB X (isTrue x X.f.env (eval x X.f.env)) c r c')
noncomputable abbrev EA (X:Cx)(c:St)(op:BoolOp)(l:List Expr):=Option (Ez λr c'=>TAll X op l c r c')
noncomputable abbrev EO (X:Cx)(c:St)(pos:Pos)(op:BoolOp)(l:List Expr):=Option (Ez λr c'=>TBo X pos op l c r c')
noncomputable abbrev EF (X:Cx)(c:St)(s:Stmt):=Option (Ez λr c'=>TF X (exec s X.f.env) c r c')
noncomputable abbrev EFs (X:Cx)(c:St)(l:List Stmt):=Option (Ez λr c'=>TF X (execs l X.f.env) c r c')
structure Rec (X:Cx) where
 e:∀x c,List Orc->EV X c x
 es:∀pos l c,List Orc->EVs X c pos l
 t:∀x c,List Orc->EB X c x
 all:∀op l c,List Orc->EA X c op l
 bo:∀pos op l c,List Orc->EO X c pos op l
 ss:∀l c,List Orc->EFs X c l
section
variable {β:Type}
noncomputable def onV {M:Rv->St->Prop}(e:Option (Ez M))(k:∀a c,List Orc->∀p,(AllP p->M (.ok a) c)->Option β)(x:∀C ks d c,List Orc->∀p,(AllP p->M (.ex C ks d) c)->Option β):Option β:=match e with
 |some ⟨.ok a,c,o,p,g⟩=>k a c o p g
 |some ⟨.ex C ks d,c,o,p,g⟩=>x C ks d c o p g
 |none=>none
noncomputable def onVs {M:Rs->St->Prop}(e:Option (Ez M))(k:∀a c,List Orc->∀p,(AllP p->M (.ok a) c)->Option β)(x:∀C ks d c,List Orc->∀p,(AllP p->M (.ex C ks d) c)->Option β):Option β:=match e with
 |some ⟨.ok a,c,o,p,g⟩=>k a c o p g
 |some ⟨.ex C ks d,c,o,p,g⟩=>x C ks d c o p g
 |none=>none
noncomputable def onB {M:Rb->St->Prop}(e:Option (Ez M))(k:∀a c,List Orc->∀p,(AllP p->M (.ok a) c)->Option β)(x:∀C ks d c,List Orc->∀p,(AllP p->M (.ex C ks d) c)->Option β):Option β:=match e with
 |some ⟨.ok a,c,o,p,g⟩=>k a c o p g
 |some ⟨.ex C ks d,c,o,p,g⟩=>x C ks d c o p g
 |none=>none
noncomputable def onE {R:Type}{M:R->St->Prop}(e:Option (Ez M))(k:∀a c,List Orc->∀p,(AllP p->M a c)->Option β):Option β:=match e with
 |some ⟨a,c,o,p,g⟩=>k a c o p g
 |none=>none
noncomputable def nx {M:Addr->List Str->List D->St->Prop}:∀C ks d c,List Orc->∀p,(AllP p->M C ks d c)->Option β:=λ_ _ _ _ _ _ _=>none
end
noncomputable def dbg (x:Str):Bool:=x==("__debug__" :Str)
noncomputable def isCell (f:Fm)(x:Str):Bool:=f.env.kindOf x==some .cell
theorem isCell_eq {f:Fm}{x:Str}(h:isCell f x=true):f.env.kindOf x=some .cell:=by
 unfold isCell at h
 cases q:f.env.kindOf x with
 |none=>rw[q]at h;exact absurd h (by decide)
 |some k=>rw[q]at h;cases k<;>first|rfl|exact absurd h (by decide)
theorem tv_cell {X:Cx}{c:St}{x pos}{av:AV}{cc:Addr}(hk:isFun X.f=true)(hc:isCell X.f x=true)(hl:X.f.cl.lookup x=some cc)(hn:X.f.fr.isNone=true)(hd:(x==("__debug__" :Str))=false)(h:lk c.loc x=some av):TV X (eval (.Name x pos) X.f.env) c (.ok av) c:=λA ρ G s _ _ i=>by
 have hl':(X.f.fr.getD X.f.cl).lookup x=some cc:=by
  cases q:X.f.fr with
  |none=>exact hl
  |some _=>rw[q]at hn;cases hn
 obtain⟨o,u,j⟩:=i.f.cells x cc hl
 obtain⟨v,rfl,c4⟩:=j.val av h
 exact wpAny_Name (wpAny_loadName_cell (isFun_eq hk) (isCell_eq hc) hl' ⟨o,j.here,j.dat⟩ ⟨ρ,G,PreA.refl _,Sub.refl _,i,c4⟩) hd
section
variable {X:Cx}(O:Ok X)(E:Rec X)
noncomputable def evName (x:Str)(pos:Pos)(c:St)(o:List Orc):EV X c (.Name x pos):=
 ofB (isLocal X.f x) (λhl=>ofS (lk c.loc x) λa hk=>gn (dbg x) λhd=>some ⟨.ok a,c,o,[],λ_=>tv_local' O.2 hl hd hk⟩) λ_=>
 ofB (isGlobal X.f x) (λhg=>ofS (lk X.T.glob x) λa hk=>some ⟨.ok a,c,o,[],λ_=>tv_global O hg hk⟩) λ_=>
 gd (isCell X.f x) λhc=>gd X.f.fr.isNone λhn=>ofS (X.f.cl.lookup x) λ_ hl=>ofS (lk c.loc x) λa hk=>gn (dbg x) λhd=>some ⟨.ok a,c,o,[],λ_=>tv_cell O.2 hc hl hn hd hk⟩
noncomputable def evConst (k:Const)(kd)(pos:Pos)(c:St)(o:List Orc):EV X c (.Constant k kd pos):=match k with
 | .none=>some ⟨.ok .none,c,o,[],λ_=>tv_none⟩
 | .bool b=>some ⟨.ok (.bool b),c,o,[],λ_=>tv_bool⟩
 | .int i=>some ⟨.ok (.int i),c,o,[],λ_=>tv_int⟩
 | .str s=>some ⟨.ok (.str s),c,o,[],λ_=>tv_str⟩
 |_=>none
noncomputable def evBin (l:Expr)(op':Operator)(r:Expr)(pos:Pos)(c:St)(o:List Orc):EV X c (.BinOp l op' r pos):=
 onV (E.e l c o) (λa c1 o1 p1 g1=>onV (E.e r c1 o1)
   (λb c2 o2 p2 g2=>ofS (binA op' a b) λd _=>some ⟨.ok d.r,c2,o2,p1++(p2++d.p),λhp=>tv_binop (g1 hp.l) (g2 hp.r.l) (d.ok hp.r.r)⟩)
   λC ks d c2 o2 p2 g2=>some ⟨.ex C ks d,c2,o2,p1++p2,λhp=>tv_binop_r (g1 hp.l) (g2 hp.r)⟩)
  λC ks d c1 o1 p1 g1=>some ⟨.ex C ks d,c1,o1,p1,λhp=>tv_binop_l (g1 hp)⟩
noncomputable def evNeg (x:Expr)(pos:Pos)(c:St)(o:List Orc):EV X c (.UnaryOp .USub x pos):=
 onV (E.e x c o) (λa c1 o1 p1 g1=>match a,g1 with
   | .int a,g1=>some ⟨.ok (.int (-a)),c1,o1,p1,λhp=>tv_unop (g1 hp) op1_neg⟩
   |_,_=>none)
  λC ks d c1 o1 p1 g1=>some ⟨.ex C ks d,c1,o1,p1,λhp=>tv_unop_x (g1 hp)⟩
noncomputable def evUn (u:UnaryOp)(x:Expr)(pos:Pos)(c:St)(o:List Orc):EV X c (.UnaryOp u x pos):=match u with
 | .USub=>evNeg E x pos c o
 |u=>onV (E.e x c o) (λ_ _ _ _ _=>none) λC ks d c1 o1 p1 g1=>some ⟨.ex C ks d,c1,o1,p1,λhp=>tv_unop_x (g1 hp)⟩
end
section
variable {β:Type}
noncomputable def onT (t:Bool)(o:List Orc)(k:∀b,List Orc->∀p,(∀M:Bool->Prop,AllP p->M t->M b)->Option β):Option β:=match o with
 | []=>k t [] [] λ_ _ m=>m
 |x::r=>match x with
  | .br b=>k b r [t=b] λ_ h m=>h.1▸m
  | .go=>k t r [] λ_ _ m=>m
  |x=>k t (x::r) [] λ_ _ m=>m
noncomputable def l1 {α:Type}{M:List α->Type}(k:∀a,Option (M [a]))(l:List α):Option (M l):=match l with
 | []=>none
 |a::r=>match r with
  | []=>k a
  |_::_=>none
noncomputable def l2 {α:Type}{M:List α->Type}(k:∀a b,Option (M [a,b]))(l:List α):Option (M l):=match l with
 | []=>none
 |a::r=>l1 (M:=λr=>M (a::r)) (k a) r
theorem ifc {α:Type}(M:α->Prop){k:Bool}{a b:α}(h:M (cond k a b)):M (if k then a else b):=match k,h with
 |true,h=>h
 |false,h=>h
end
noncomputable def RbV:Rb->Rv
 | .ok b=>.ok (.bool b)
 | .ex C ks d=>.ex C ks d
section
variable {X:Cx}(O:Ok X)(E:Rec X)
noncomputable abbrev EC (X:Cx)(c:St)(x:Expr):=Option (Ez λq c'=>TV X (eval x X.f.env) c (RbV q) c'/\TB X (isTrue x X.f.env (eval x X.f.env)) c q c')
noncomputable def evCmp (l:Expr)(op':CmpOp)(r:Expr)(pos:Pos)(c:St)(o:List Orc):EC X c (.Compare l [op'] [r] pos):=
 gn (behindInMarks op' r) λhm=>onV (E.e l c o) (λa c1 o1 p1 g1=>onV (E.e r c1 o1)
   (λb c2 o2 p2 g2=>ofS (cmpA O c2 op' a b) λk _=>some ⟨.ok k.1,c2,o2,p1++p2,λhp=>⟨tv_cmp (g1 hp.l) (g2 hp.r) k.2 hm,tb_cmp (g1 hp.l) (g2 hp.r) k.2 hm⟩⟩)
   λC ks d c2 o2 p2 g2=>some ⟨.ex C ks d,c2,o2,p1++p2,λhp=>⟨tv_cmp_r (g1 hp.l) (g2 hp.r) hm,tb_cmp_r (g1 hp.l) (g2 hp.r) hm⟩⟩)
  λC ks d c1 o1 p1 g1=>some ⟨.ex C ks d,c1,o1,p1,λhp=>⟨tv_cmp_l (g1 hp) hm,tb_cmp_l (g1 hp) hm⟩⟩
noncomputable def evCh (l:Expr)(o₁ o₂:CmpOp)(x y:Expr)(pos:Pos)(c:St)(o:List Orc):EC X c (.Compare l [o₁,o₂] [x,y] pos):=
 gn (lastMarks [o₁,o₂] [x,y]) λhm=>onV (E.e l c o) (λa c1 o1 p1 g1=>onV (E.e x c1 o1) (λb c2 o2 p2 g2=>ofS (cmpA O c2 o₁ a b) λk _=>onT k.1 o2 λt o3 p3 h=>match t,h with
   |true,h=>onV (E.e y c2 o3) (λd c4 o4 p4 g4=>ofS (cmpA O c4 o₂ b d) λk' _=>some ⟨.ok k'.1,c4,o4,p1++(p2++(p3++p4)),λhp=>
     ⟨tv_chain2 (t₁:=true) (t₂:=k'.1) (g1 hp.l) (g2 hp.r.l) (h (λt=>Op2 X (compareOp o₁) a b c2 (.ok (.bool t)) c2) hp.r.r.l k.2) (λ_=>⟨g4 hp.r.r.r,k'.2⟩) nofun hm,
      tb_chain2 (t₁:=true) (t₂:=k'.1) (g1 hp.l) (g2 hp.r.l) (h (λt=>Op2 X (compareOp o₁) a b c2 (.ok (.bool t)) c2) hp.r.r.l k.2) (λ_=>⟨g4 hp.r.r.r,k'.2⟩) nofun hm⟩⟩) nx
   |false,h=>some ⟨.ok false,c2,o3,p1++(p2++p3),λhp=>
     ⟨tv_chain2 (t₁:=false) (t₂:=true) (d:=.none) (c₄:=c2) (c₅:=c2) (g1 hp.l) (g2 hp.r.l) (h (λt=>Op2 X (compareOp o₁) a b c2 (.ok (.bool t)) c2) hp.r.r k.2) nofun (λ_=>rfl) hm,
      tb_chain2 (t₁:=false) (t₂:=true) (d:=.none) (c₄:=c2) (c₅:=c2) (g1 hp.l) (g2 hp.r.l) (h (λt=>Op2 X (compareOp o₁) a b c2 (.ok (.bool t)) c2) hp.r.r k.2) nofun (λ_=>rfl) hm⟩⟩) nx) nx
noncomputable def evC (l:Expr)(ops:List CmpOp)(rs:List Expr)(pos:Pos)(c:St)(o:List Orc):EC X c (.Compare l ops rs pos):=match ops with
 | []=>none
 |a::ops=>match ops with
  | []=>l1 (M:=λrs=>Ez λq c'=>TV X (eval (.Compare l [a] rs pos) X.f.env) c (RbV q) c'/\TB X (isTrue (.Compare l [a] rs pos) X.f.env (eval (.Compare l [a] rs pos) X.f.env)) c q c') (λr=>evCmp O E l a r pos c o) rs
  |b::ops=>match ops with
   | []=>l2 (M:=λrs=>Ez λq c'=>TV X (eval (.Compare l [a,b] rs pos) X.f.env) c (RbV q) c'/\TB X (isTrue (.Compare l [a,b] rs pos) X.f.env (eval (.Compare l [a,b] rs pos) X.f.env)) c q c') (λr q=>evCh O E l a b r q pos c o) rs
   |_::_=>none
noncomputable def evCV (l:Expr)(ops:List CmpOp)(rs:List Expr)(pos:Pos)(c:St)(o:List Orc):EV X c (.Compare l ops rs pos):=
 onE (evC O E l ops rs pos c o) λq c1 o1 p1 g=>some ⟨RbV q,c1,o1,p1,λhp=>(g hp).1⟩
noncomputable def evCT (l:Expr)(ops:List CmpOp)(rs:List Expr)(pos:Pos)(c:St)(o:List Orc):EB X c (.Compare l ops rs pos):=
 onB (evC O E l ops rs pos c o) (λk c1 o1 p1 g=>onT k o1 λb o2 p2 h=>some ⟨.ok b,c1,o2,p1++p2,λhp=>h (λb=>TB X _ c (.ok b) c1) hp.r (g hp.l).2⟩)
  λC ks d c1 o1 p1 g=>some ⟨.ex C ks d,c1,o1,p1,λhp=>(g hp).2⟩
noncomputable def evIfE (t b e:Expr)(pos:Pos)(c:St)(o:List Orc):EV X c (.IfExp t b e pos):=
 onB (E.t t c o) (λk c1 o1 p1 g1=>onE (E.e (cond k b e) c1 o1) λr c2 o2 p2 g2=>some ⟨r,c2,o2,p1++p2,λhp=>tv_ifexp (g1 hp.l) (ifc (λx=>TV X (eval x X.f.env) c1 r c2) (g2 hp.r))⟩)
  λC ks d c1 o1 p1 g1=>some ⟨.ex C ks d,c1,o1,p1,λhp=>tv_ifexp_x (g1 hp)⟩
noncomputable def evIfT (t b e:Expr)(pos:Pos)(c:St)(o:List Orc):EB X c (.IfExp t b e pos):=
 onB (E.t t c o) (λk c1 o1 p1 g1=>onE (E.t (cond k b e) c1 o1) λr c2 o2 p2 g2=>some ⟨r,c2,o2,p1++p2,λhp=>tb_ifexp (g1 hp.l) (ifc (λx=>TB X (isTrue x X.f.env (eval x X.f.env)) c1 r c2) (g2 hp.r))⟩) nx
noncomputable def evTv (x:Expr)(c:St)(o:List Orc):EB X c x:=gd (byValue x) λhv=>
 onV (E.e x c o) (λa c1 o1 p1 g1=>match a,g1 with
   | .bool k,g1=>onT k o1 λb o2 p2 h=>some ⟨.ok b,c1,o2,p1++p2,λhp=>tb_value hv (g1 hp.l) (h (λb=>OpB X (.bool k) c1 (.ok b) c1) hp.r opb_bool)⟩
   |_,_=>none)
  λC ks d c1 o1 p1 g1=>some ⟨.ex C ks d,c1,o1,p1,λhp=>tb_value_x hv (g1 hp)⟩
noncomputable def evNot (u:UnaryOp)(y:Expr)(pos:Pos)(c:St)(o:List Orc):EB X c (.UnaryOp u y pos):=match u with
 | .Not=>onB (E.t y c o) (λk c1 o1 p1 g1=>some ⟨.ok (!k),c1,o1,p1,λhp=>tb_not (g1 hp)⟩) λC ks d c1 o1 p1 g1=>some ⟨.ex C ks d,c1,o1,p1,λhp=>tb_not_x (g1 hp)⟩
 |u=>evTv E (.UnaryOp u y pos) c o
noncomputable def evT (x:Expr)(c:St)(o:List Orc):EB X c x:=match x with
 | .UnaryOp u y pos=>evNot E u y pos c o
 | .BoolOp op l pos=>onE (E.all op l c o) λr c1 o1 p1 g=>some ⟨r,c1,o1,p1,λhp=>tb_bool (g hp)⟩
 | .IfExp t b e pos=>evIfT E t b e pos c o
 | .Compare l ops rs pos=>evCT O E l ops rs pos c o
 |y=>evTv E y c o
noncomputable def evAll (op':BoolOp)(l:List Expr)(c:St)(o:List Orc):EA X c op' l:=match l with
 | []=>match op' with
  | .And=>some ⟨.ok true,c,o,[],λ_=>tall_nil (op:=.And)⟩
  | .Or=>some ⟨.ok false,c,o,[],λ_=>tall_nil (op:=.Or)⟩
 |x::r=>onB (E.t x c o) (λk c1 o1 p1 g1=>match op',k,g1 with
   | .And,false,g1=>some ⟨.ok false,c1,o1,p1,λhp=>tall_and_no (g1 hp)⟩
   | .Or,true,g1=>some ⟨.ok true,c1,o1,p1,λhp=>tall_or_yes (g1 hp)⟩
   | .And,true,g1=>onE (E.all .And r c1 o1) λq c2 o2 p2 g2=>some ⟨q,c2,o2,p1++p2,λhp=>tall_and (g1 hp.l) (g2 hp.r)⟩
   | .Or,false,g1=>onE (E.all .Or r c1 o1) λq c2 o2 p2 g2=>some ⟨q,c2,o2,p1++p2,λhp=>tall_or (g1 hp.l) (g2 hp.r)⟩)
  λC ks d c1 o1 p1 g1=>some ⟨.ex C ks d,c1,o1,p1,λhp=>tall_x (g1 hp)⟩
noncomputable def evBo2 (pos:Pos)(op':BoolOp)(x y:Expr)(r:List Expr)(c:St)(o:List Orc):EO X c pos op' (x::y::r):=
 onV (E.e x c o) (λa c1 o1 p1 g1=>match a,g1 with
   | .bool t,g1=>onT t o1 λk o2 p2 h=>match op',k,h with
    | .And,false,h=>some ⟨.ok (.bool t),c1,o2,p1++p2,λhp=>tbo_end (op:=.And) (g1 hp.l) (h (λk=>OpB X (.bool t) c1 (.ok k) c1) hp.r opb_bool)⟩
    | .Or,true,h=>some ⟨.ok (.bool t),c1,o2,p1++p2,λhp=>tbo_end (op:=.Or) (g1 hp.l) (h (λk=>OpB X (.bool t) c1 (.ok k) c1) hp.r opb_bool)⟩
    | .And,true,h=>onE (E.bo pos .And (y::r) c1 o2) λq c3 o3 p3 g3=>some ⟨q,c3,o3,p1++(p2++p3),λhp=>tbo_go (op:=.And) (g1 hp.l) (h (λk=>OpB X (.bool t) c1 (.ok k) c1) hp.r.l opb_bool) (g3 hp.r.r)⟩
    | .Or,false,h=>onE (E.bo pos .Or (y::r) c1 o2) λq c3 o3 p3 g3=>some ⟨q,c3,o3,p1++(p2++p3),λhp=>tbo_go (op:=.Or) (g1 hp.l) (h (λk=>OpB X (.bool t) c1 (.ok k) c1) hp.r.l opb_bool) (g3 hp.r.r)⟩
   |_,_=>none)
  λC ks d c1 o1 p1 g1=>some ⟨.ex C ks d,c1,o1,p1,λhp=>tbo_x (g1 hp)⟩
noncomputable def evBo (pos:Pos)(op':BoolOp)(l:List Expr)(c:St)(o:List Orc):EO X c pos op' l:=match l with
 | []=>none
 |x::l=>match l with
  | []=>onE (E.e x c o) λr c1 o1 p1 g=>some ⟨r,c1,o1,p1,λhp=>tbo_one (g hp)⟩
  |y::r=>evBo2 E pos op' x y r c o
noncomputable def evArgs (pos:Pos)(l:List Expr)(c:St)(o:List Orc):EVs X c pos l:=match l with
 | []=>some ⟨.ok [],c,o,[],λ_=>tvs_nil⟩
 |x::r=>gd (notStar x) λhs=>onV (E.e x c o) (λa c1 o1 p1 g1=>onVs (E.es pos r c1 o1)
   (λas c2 o2 p2 g2=>some ⟨.ok (a::as),c2,o2,p1++p2,λhp=>tvs_cons hs (g1 hp.l) (g2 hp.r)⟩)
   λC ks d c2 o2 p2 g2=>some ⟨.ex C ks d,c2,o2,p1++p2,λhp=>tvs_cons_y hs (g1 hp.l) (g2 hp.r)⟩)
  λC ks d c1 o1 p1 g1=>some ⟨.ex C ks d,c1,o1,p1,λhp=>tvs_cons_x hs (g1 hp)⟩
end
section
variable {X:Cx}{c c₁ c₂ c₃:St}
theorem tv_slice (O:Ok X){value lo hi:Expr}{p pos:Pos}{x:Str}{i j:Int}(hv:TV X (eval value X.f.env) c (.ok (.str x)) c₁)(hl:TV X (eval lo X.f.env) c₁ (.ok (.int i)) c₂)(hh:TV X (eval hi X.f.env) c₂ (.ok (.int j)) c₃)(hsz:x.length<=sizeLine):
  TV X (eval (.Subscript value (.Slice (some lo) (some hi) none p) pos) X.f.env) c (.ok (.str (Txt.slice x (some i) (some j)))) c₃:=λA ρ G s rm fo I=>
 Subscript_ (wp_then hv rm fo I λva s₁ ρ₁ G₁ p₁ q₁ i₁ r₁=>wpAny_Slice (wp_then hl rm fo i₁ λvl s₂ ρ₂ G₂ p₂ q₂ i₂ r₂=>wp_then hh rm fo i₂ λvh s₃ ρ₃ G₃ p₃ q₃ i₃ r₃=>by
  obtain⟨t1,rfl⟩:=r₁
  obtain⟨t2,rfl⟩:=r₂
  obtain⟨t3,rfl⟩:=r₃
  refine wpAny_pure ?_
  obtain⟨T,id,e1,e2,e3⟩:=SBH.sliceItem_ss (prog:=X.prog) (w:=X.w) (A:=A) (E:=QX X.B X.f X.e G (.ok (.str (Txt.slice x (some i) (some j))))) (P:=λh=>∀b o,s₃.heap.get? b=some o->h.get? b=some o) (s:=s₃) (x:=x) (t:=t1) (i:=i) (j:=j) (ui:=t2) (uj:=t3) (Q:=QV X.B X.f X.e ρ G (.ok (.str (Txt.slice x (some i) (some j)))) c₃)
   (λh ob k b o q=>Heap.get?_push_of_some _ (k b o q)) (λb o q=>q) (λh' t' k hk=>⟨ρ₃,G₃,(p₁.trans p₂).trans p₃,(q₁.trans q₂).trans q₃,i₃.ext (s':= {s₃ with heap:=h',toks:=k}) hk rfl rfl,t',rfl⟩) hsz
  exact tail_any e2 e1 e3 rfl))
noncomputable def notSuper:Expr->Bool
 | .Call (.Name _ _) [] [] _=>false
 |_=>true
theorem base_eq {o:Expr}{attr:Str}{env:Env}{wh:Sem Value}(h:notSuper o=true):attributeBase o attr env wh=wh:=by
 cases o with
 |Call f args kws pos=>
  cases f with
  |Name x p=>
   cases args with
   |nil=>
    cases kws with
    |nil=>cases h
    |cons _ _=>rfl
   |cons _ _=>rfl
  |_=>rfl
 |_=>rfl
theorem attr_he {o:Expr}{attr:Str}{env:Env}{pos:Pos}(h:notSuper o=true):eval (.Attribute o attr pos) env=(do
   let o'<-eval o env
   standAt pos.atName
   let r<-holding [o'] (getAttr o' attr true)
   letTemporaryGo o o' r
   pure r):=by
 rw[arm_eval_Attribute,base_eq h]
theorem plain_all {pos:Pos}{env:Env}:∀ {l:List Expr},plainArgs l=true->(backTo pos (starEach l env)).all (λx=> !x.1)=true
 | [],_=>rfl
 |e::r,h=>by
  unfold plainArgs at h
  rw[List.all_cons,Bool.and_eq_true]at h
  rw[star_cons h.1]
  show(true&& (backTo pos (starEach r env)).all (λx=> !x.1))=true
  rw[plain_all h.2];rfl
theorem meth_form {env:Env}{pos:Pos}{args:List Expr}(hp:plainArgs args=true)(hn:Nat.ble args.length 25=true):methodCallForm (args.length+([]:List Keyword).length) (backTo pos (starEach args env)) (backToKw pos (keywordEach [] env))=true:=by
 unfold methodCallForm
 rw[plain_all hp,show backToKw pos (keywordEach [] env)=[] from rfl]
 have:=Nat.le_of_ble_eq_true hn
 simp
 lia
theorem meth_he {o:Expr}{name:Str}{env:Env}{apos pos:Pos}{args:List Expr}(h:notSuper o=true)(hline:(apos.endLine==pos.line)=true)(hp:plainArgs args=true)(hn:Nat.ble args.length 25=true):eval (.Call (.Attribute o name apos) args [] pos) env=(do
   let ov<-eval o env
   standAt apos.atName
   let(f,first) <-holding [ov] (getMethod ov name (do return(<-importBound o env).getD true))
   callWith pos f first (backTo pos (starEach args env)) []):=by
 rw[arm_eval_Call,base_eq h]
 have hpos:methodCallPos true o env apos pos=pure pos:=by unfold methodCallPos;simp[hline]
 unfold methodCall
 rw[meth_form hp hn,hpos]
 rfl
theorem call_he {func:Expr}{args:List Expr}{env:Env}{pos:Pos}(h:∀o n p,func≠ .Attribute o n p):eval (.Call func args [] pos) env=(do callWith pos (<-eval func env) [] (backTo pos (starEach args env)) (backToKw pos (keywordEach [] env))):=by
 cases func<;>first|rfl|exact absurd rfl (h _ _ _)
end
section
variable {X:Cx}(O:Ok X)(E:Rec X)
noncomputable def evTup (l:List Expr)(k)(pos:Pos)(c:St)(o:List Orc):EV X c (.Tuple l k pos):=onVs (E.es pos l c o)
 (λas c1 o1 p1 g=>gd (Nat.ble as.length 1000) λhz=>ofB (dsOf as).isSome
  (λ_=>ofS (dsOf as) λds hd=>some ⟨.ok (.dat (.tup ds)),c1,o1,p1,λhp=>tv_tuple_frz (g hp) hd (Nat.le_of_ble_eq_true hz)⟩)
  λ_=>some ⟨.ok (.ref c1.obj.length),⟨c1.loc,c1.obj++[.tup as]⟩,o1,p1,λhp=>tv_tuple_live (g hp) (Nat.le_of_ble_eq_true hz)⟩)
 λC ks d c1 o1 p1 g=>some ⟨.ex C ks d,c1,o1,p1,λhp=>tv_tuple_x (g hp)⟩
noncomputable def evLst (l:List Expr)(pos:Pos)(c:St)(o:List Orc):EV X c (.List l pos):=onVs (E.es pos l c o)
 (λas c1 o1 p1 g=>gd (Nat.ble as.length 1000) λhz=>match o1 with
  | .fz::o2=>ofS (dsOf as) λds hd=>some ⟨.ok (.dat (.lst ds)),c1,o2,p1,λhp=>tv_list_frz (g hp) hd (Nat.le_of_ble_eq_true hz)⟩
  |o1=>some ⟨.ok (.ref c1.obj.length),⟨c1.loc,c1.obj++[.list as]⟩,o1,p1,λhp=>tv_list_live (g hp) (Nat.le_of_ble_eq_true hz)⟩)
 λC ks d c1 o1 p1 g=>some ⟨.ex C ks d,c1,o1,p1,λhp=>tv_list_x (g hp)⟩
noncomputable def evAttr (x:Expr)(attr:Str)(pos:Pos)(c:St)(o:List Orc):EV X c (.Attribute x attr pos):=gd (notSuper x) λhs=>onV (E.e x c o)
 (λa c1 o1 p1 g=>ofS (instAt c1 a) λq hi=>ofS (lkk q.2.1 q.2.2 attr) λb hk=>gd (fldA X.T q.1 attr) λhf=>gd (notBlt b) λhb=>
  some ⟨.ok b,c1,o1,p1,λhp=>tv_attr O.1.k (g hp) hi hk (O.1.flds _ _ hf).1 hb (attr_he hs)⟩)
 λC ks d c1 o1 p1 g=>some ⟨.ex C ks d,c1,o1,p1,λhp=>tv_attr_x (g hp) (attr_he hs)⟩
noncomputable def seqItem (c:St)(a:AV)(i:Int)(xs:List AV)(ok:∀ {i b},0<=i->i<2^63->xs[i.toNat]? =some b->ItemW X c a (.int i) b)(o:List Orc):Option (Ez λb _=>ItemW X c a (.int i) b):=match o with
 | .item b::r=>some ⟨b,c,r,[0<=i/\i<2^63/\xs[i.toNat]? =some b],λhp=>ok hp.1.1 hp.1.2.1 hp.1.2.2⟩
 |r=>match i with
  | .ofNat n=>gd (Nat.blt n 1000) λhn=>ofS xs[n]? λb hb=>some ⟨b,c,r,[],λ_=>ok (Int.natCast_nonneg n) (Int.lt_of_lt_of_le (Int.ofNat_lt.mpr (blt_lt hn)) (by decide)) hb⟩
  |_=>none
noncomputable def itemI (c:St)(a:AV)(i:Int)(o:List Orc):Option (Ez λb _=>ItemW X c a (.int i) b):=match a with
 | .str x=>some ⟨.str (Txt.item x i),c,o,[-(x.length:Int)<=i/\i<x.length/\(x.length:Int)<9223372036854775808],λhp=>item_str hp.1⟩
 |a=>ofB (listAt c a).isSome (λ_=>ofS (listAt c a) λxs hx=>seqItem c a i xs (item_list hx) o) λ_=>ofS (tupleAt c a) λxs hx=>seqItem c a i xs (item_tup hx) o
noncomputable def itemA (c:St)(a k:AV)(o:List Orc):Option (Ez λb _=>ItemW X c a k b):=match k with
 | .int i=>itemI c a i o
 | .str x=>match a with
  | .sdict d=>ofS (sdictAt X.K X.T d x) λr h=>match r,h with
   |some v,h=>ofS (litAV v) λb _=>some ⟨b.1,c,o,[],λ_=>item_dict O h b.2⟩
   |none,_=>none
  |_=>none
 |_=>none
noncomputable def evSlice (value lo hi:Expr)(p pos:Pos)(c:St)(o:List Orc):EV X c (.Subscript value (.Slice (some lo) (some hi) none p) pos):=
 onV (E.e value c o) (λa c1 o1 p1 g1=>match a,g1 with
  | .str x,g1=>onV (E.e lo c1 o1) (λa c2 o2 p2 g2=>match a,g2 with
   | .int i,g2=>onV (E.e hi c2 o2) (λa c3 o3 p3 g3=>match a,g3 with
    | .int j,g3=>some ⟨.ok (.str (Txt.slice x (some i) (some j))),c3,o3,p1++(p2++(p3++[x.length<=sizeLine])),λhp=>tv_slice O (g1 hp.l) (g2 hp.r.l) (g3 hp.r.r.l) hp.r.r.r.1⟩
    |_,_=>none) nx
   |_,_=>none) nx
  |_,_=>none) nx
noncomputable def evVal (x:Expr)(c:St)(o:List Orc):EV X c x:=match o with
 | .val r c'::o'=>some ⟨r,c',o',[TV X (eval x X.f.env) c r c'],λhp=>hp.1⟩
 |_=>none
noncomputable def evSub (value slice:Expr)(pos:Pos)(c:St)(o:List Orc):EV X c (.Subscript value slice pos):=ofB (notSlice slice)
 (λhs=>onV (E.e value c o) (λa c1 o1 p1 g1=>onV (E.e slice c1 o1) (λb c2 o2 p2 g2=>onE (itemA O c2 a b o2) λd c3 o3 p3 g3=>
  some ⟨.ok d,c2,o3,p1++(p2++p3),λhp=>tv_item hs (g1 hp.l) (g2 hp.r.l) (g3 hp.r.r)⟩) nx) nx)
 λ_=>match slice with
 | .Slice (some lo) (some hi) none p=>evSlice O E value lo hi p pos c o
 | .Slice lo hi st p=>evVal (.Subscript value (.Slice lo hi st p) pos) c o
 |_=>none
noncomputable abbrev BltR (X:Cx)(c:St)(fa:AV)(as:List AV):=Lf λb=>CallW X fa as c b
noncomputable def bltB (c:St)(id:String)(as:List AV):Option (BltR X c (.blt id) as):=
 if h:id= "len" then l1 (M:=BltR X c (.blt id)) (λa=>match a with
  | .str x=>some ⟨.int x.length,[(x.length:Int)<2^63],λhp=>h▸callw_len_str hp.1⟩
  |a=>ofB (listAt c a).isSome (λ_=>ofS (listAt c a) λxs q=>some ⟨.int xs.length,[(xs.length:Int)<2^63],λhp=>h▸callw_len_list q hp.1⟩) λ_=>ofS (tupleAt c a) λxs q=>some ⟨.int xs.length,[(xs.length:Int)<2^63],λhp=>h▸callw_len_tup q hp.1⟩) as
 else if h:id= "max" then l2 (M:=BltR X c (.blt id)) (λa b=>i2 (M:=λa b=>BltR X c (.blt id) [a,b]) (λa b=>some ⟨.int (if b>a then b else a),[],λ_=>h▸callw_max⟩) a b) as
 else if h:id= "min" then l2 (M:=BltR X c (.blt id)) (λa b=>i2 (M:=λa b=>BltR X c (.blt id) [a,b]) (λa b=>some ⟨.int (if b<a then b else a),[],λ_=>h▸callw_min⟩) a b) as
 else if h:id= "isinstance" then l2 (M:=BltR X c (.blt id)) (λa b=>ofS (isiA a b) λk _=>some ⟨.bool k.1,[],λ_=>h▸callw_isi k.2⟩) as
 else none
noncomputable def bltT (c:St)(id:String)(as:List AV):Option (BltR X c (.typ id) as):=l1 (M:=BltR X c (.typ id)) (λa=>
 if h:id= "int" then match a with
  | .int a=>some ⟨.int a,[],λ_=>h▸callw_int_int⟩
  | .bool b=>some ⟨.int (if b then 1 else 0),[],λ_=>h▸callw_int_bool⟩
  |_=>none
 else if h:id= "str" then match a with
  | .int a=>some ⟨.str (toString a),[a.natAbs.log2<1920],λhp=>h▸callw_str_int hp.1⟩
  |_=>none
 else if h:id= "tuple" then ofS (listAt c a) λxs q=>ofS (dsOf xs) λl hl=>some ⟨.dat (.tup l),[xs.length<=1000],λhp=>h▸callw_tuple q hl hp.1⟩
 else none) as
noncomputable def bltA (c:St)(fa:AV)(as:List AV):Option (BltR X c fa as):=match fa with
 | .blt id=>bltB c id as
 | .typ id=>bltT c id as
 |_=>none
end
section
variable {X:Cx}(O:Ok X)(E:Rec X)
structure BmR (X:Cx)(c:St)(id:String)(a:AV)(as:List AV) where
 r:AV
 c':St
 o:List Orc
 p:List Prop
 ok:AllP p->MethW X c id a as r c'
noncomputable def bmPop (c:St)(i:Nat)(o:List Orc):Option (BmR X c "list.pop" (.ref i) []):=match o with
 | .pop ys y::o'=>ofS c.obj[i]? λao q=>match ao,q with
  | .list xs,q=>some ⟨y,⟨c.loc,c.obj.set i (.list ys)⟩,o',[xs=ys++[y]/\ys.length<sizeLine],λhp=>meth_popL q hp.1⟩
  |_,_=>none
 | .popD ys y::o'=>ofS c.obj[i]? λao q=>match ao,q with
  | .dlist l,q=>some ⟨avD y,⟨c.loc,c.obj.set i (.dlist ys)⟩,o',[l=ys++[y]/\ys.length<sizeLine],λhp=>meth_popD q hp.1⟩
  |_,_=>none
 |_=>none
noncomputable def bmApp (c:St)(i:Nat)(a:AV)(o:List Orc):Option (BmR X c "list.append" (.ref i) [a]):=ofS c.obj[i]? λao q=>match ao,q with
 | .list xs,q=>some ⟨.none,⟨c.loc,c.obj.set i (.list (xs++[a]))⟩,o,[xs.length<=sizeLine],λhp=>meth_appendL q hp.1⟩
 | .dlist l,q=>ofS (dOf a) λd hd=>some ⟨.none,⟨c.loc,c.obj.set i (.dlist (l++[d]))⟩,o,[l.length<=sizeLine],λhp=>meth_appendD q hd hp.1⟩
 |_,_=>none
noncomputable def bmGet (c:St)(a:AV)(x:Str)(e:AV)(o:List Orc):Option (BmR X c "dict.get" a [.str x,e]):=match a with
 | .sdict d=>ofS (sdictAt X.K X.T d x) λr h=>match r,h with
  |some v,h=>ofS (litAV v) λb _=>some ⟨b.1,c,o,[],λ_=>meth_get O h λ_=>b.2 _ _⟩
  |none,h=>some ⟨e,c,o,[],λ_=>meth_get O h id⟩
 | .ref i=>ofS c.obj[i]? λao q=>match ao,q with
  | .ns [] [],q=>some ⟨e,c,o,[],λ_=>meth_get_empty O q⟩
  |_,_=>none
 |_=>none
noncomputable def bmJoin (c:St)(s:Str)(l:AV)(o:List Orc):Option (BmR X c "str.join" (.str s) [l]):=match o with
 | .join xs::o'=>ofS (listAt c l) λys q=>some ⟨.str (joinS s xs),c,o',[ys=xs.map .str/\Builtin.Str.tooLong (xs.toArray.foldl (· + ·.length+s.length) 0)=false/\(joinS s xs).length<=sizeLine],λhp=>meth_join (hp.1.1▸q) hp.1.2.1 hp.1.2.2⟩
 |_=>none
noncomputable def l0 {α:Type}{M:List α->Type}(k:Option (M []))(l:List α):Option (M l):=match l with
 | []=>k
 |_::_=>none
noncomputable def castB {id id':String}{a:AV}{as:List AV}{c:St}(h:id'=id)(x:Option (BmR X c id a as)):Option (BmR X c id' a as):=h▸x
noncomputable def bmR (c:St)(id:String)(i:Nat)(as:List AV)(o:List Orc):Option (BmR X c id (.ref i) as):=
 if h:id= "list.append" then castB h (l1 (M:=BmR X c "list.append" (.ref i)) (λa=>bmApp c i a o) as)
 else if h:id= "list.pop" then castB h (l0 (M:=BmR X c "list.pop" (.ref i)) (bmPop c i o) as)
 else none
noncomputable def bmStr {M:AV->Type}(k:∀x,Option (M (.str x)))(a:AV):Option (M a):=match a with
 | .str x=>k x
 |_=>none
noncomputable def bmA (c:St)(id:String)(a:AV)(as:List AV)(o:List Orc):Option (BmR X c id a as):=
 if h:id= "dict.get" then castB h (l2 (M:=BmR X c "dict.get" a) (λx e=>bmStr (M:=λx=>BmR X c "dict.get" a [x,e]) (λx=>bmGet O c a x e o) x) as)
 else match a with
 | .ref i=>bmR c id i as o
 | .int k=>if h:id= "int.bit_length" then castB h (l0 (M:=BmR X c "int.bit_length" (.int k)) (some ⟨_,c,o,[],λ_=>meth_bits⟩) as)else none
 | .str s=>if h:id= "str.join" then castB h (l1 (M:=BmR X c "str.join" (.str s)) (λl=>bmJoin c s l o) as)else none
 |_=>none
structure Ct (X:Cx)(c:St)(fv:Addr)(as:List AV) where
 sel:List Nat
 out:Out
 obj':List AO
 o:List Orc
 view:List AO
 args:List AV
 h1:selOK c sel=true
 h2:viewO sel c.obj sel=some view
 h3:toVs sel as=some args
noncomputable def ctA (c:St)(fv:Addr)(as:List AV)(o:List Orc):Option (Ct X c fv as):=match o with
 | .call sel out obj'::o'=>gd (selOK c sel) λh1=>ofS (viewO sel c.obj sel) λview h2=>ofS (toVs sel as) λargs h3=>some ⟨sel,out,obj',o',view,args,h1,h2,h3⟩
 |_=>none
def Ct.P {c:St}{fv:Addr}{as:List AV}(k:Ct X c fv as):Prop:=CallOK X.prog X.w X.B X.n (.ref fv) k.args k.view k.out k.obj'
noncomputable def Ct.c' {c:St}{fv:Addr}{as:List AV}(k:Ct X c fv as):St:=⟨c.loc,putBack k.sel c.obj.length k.sel k.obj' c.obj⟩
noncomputable def Ct.rv {c:St}{fv:Addr}{as:List AV}(k:Ct X c fv as):Rv:=rvOf k.sel c.obj.length k.out
noncomputable def keeps (T:Tab)(f:Addr):Bool:=T.keeps.any (Nat.beq f)
noncomputable def isDictE:Expr->Bool
 | .Dict .. =>true
 |_=>false
noncomputable abbrev EMeth (X:Cx)(c:St)(x:Expr)(name:Str)(apos pos:Pos)(args:List Expr):=EV X c (.Call (.Attribute x name apos) args [] pos)
def MethE (X:Cx)(x:Expr)(name:Str)(apos pos:Pos)(args:List Expr):Prop:=eval (.Call (.Attribute x name apos) args [] pos) X.f.env=(do
   let ov<-eval x X.f.env
   standAt apos.atName
   let(f,first) <-holding [ov] (getMethod ov name (do return(<-importBound x X.f.env).getD true))
   callWith pos f first (backTo pos (starEach args X.f.env)) [])
variable {x:Expr}{name:Str}{apos pos:Pos}{args:List Expr}
noncomputable def evM1 (he:MethE X x name apos pos args)(ha:plainArgs args=true){c:St}{a:AV}{c1:St}{p1:List Prop}(g1:AllP p1->TV X (eval x X.f.env) c (.ok a) c1){id:String}(hid:GetM X c1 name a id)(o:List Orc):EMeth X c x name apos pos args:=
 onVs (E.es pos args c1 o) (λas c2 o2 p2 g2=>ofS (bmA O c2 id a as o2) λz _=>some ⟨.ok z.r,z.c',z.o,p1++(p2++z.p),λhp=>tv_meth (g1 hp.l) hid ha (g2 hp.r.l) (z.ok hp.r.r) he⟩)
  λC ks d c2 o2 p2 g2=>some ⟨.ex C ks d,c2,o2,p1++p2,λhp=>tv_meth_x (g1 hp.l) hid ha (g2 hp.r) he⟩
noncomputable def evM2 (he:MethE X x name apos pos args)(ha:plainArgs args=true){c:St}{a:AV}{c1:St}{p1:List Prop}(g1:AllP p1->TV X (eval x X.f.env) c (.ok a) c1){q:Addr×List Str×List AV}(hi:instAt c1 a=some q)(o:List Orc):EMeth X c x name apos pos args:=
 gd (lkk q.2.1 q.2.2 name).isNone λhk=>ofS (methA X.T q.1 name) λf hf=>onVs (E.es pos args c1 o)
  (λas c2 o2 p2 g2=>ofS (ctA c2 f (a::as) o2) λ(z:Ct X c2 f (a::as)) _=>some ⟨z.rv,z.c',z.o,p1++(p2++[z.P]),λhp=>tv_method O.1.k O.2 (g1 hp.l) hi (Option.isNone_iff_eq_none.mp hk) (O.1.meth _ _ _ hf) ha (g2 hp.r.l) (Nat.le_refl _) z.h1 z.h2 z.h3 hp.r.r.1 he⟩)
  λC ks d c2 o2 p2 g2=>some ⟨.ex C ks d,c2,o2,p1++p2,λhp=>tv_method_x O.1.k (g1 hp.l) hi (Option.isNone_iff_eq_none.mp hk) (O.1.meth _ _ _ hf) ha (g2 hp.r) he⟩
noncomputable def exc0 (ao:AO):Option {C//ao=.exc0 C}:=match ao with
 | .exc0 C=>some ⟨C,rfl⟩
 |_=>none
noncomputable def isRef (a:AV):Option {j//a=.ref j}:=match a with
 | .ref j=>some ⟨j,rfl⟩
 |_=>none
noncomputable def evM3 (he:MethE X x "__init__" apos pos args)(ha:plainArgs args=true){c:St}{c1:St}{p1:List Prop}(g1:AllP p1->TV X (eval x X.f.env) c (.ok (.typ "Exception")) c1)(o:List Orc):EMeth X c x "__init__" apos pos args:=
 onVs (E.es pos args c1 o) (λas c2 o2 p2 g2=>l2 (M:=λas=>(AllP p2->TVs X (spliced (backTo pos (starEach args X.f.env))) c1 (.ok as) c2)->Ez λr c'=>TV X (eval (.Call (.Attribute x "__init__" apos) args [] pos) X.f.env) c r c') (λa b=>ofS (isRef a) λj _=>ofS c2.obj[j.1]? λao q=>ofS (exc0 ao) λC _=>gd (excIn2 X.K C.1) λhC=>some λg2=>⟨.ok .none,c2,o2,p1++p2,λhp=>tv_excInit O (g1 hp.l) ha (j.2▸g2 hp.r) (C.2▸q) hC he⟩) as|>.map λk=>k g2) nx
noncomputable def evMeth (x:Expr)(name:Str)(apos pos:Pos)(args:List Expr)(c:St)(o:List Orc):EMeth X c x name apos pos args:=
 gd (notSuper x) λhs=>gd (apos.endLine==pos.line) λhl=>gd (plainArgs args) λha=>gd (Nat.ble args.length 25) λhn=>
 onV (E.e x c o) (λa c1 o1 p1 g1=>ofB (methId O c1 name a).isSome (λ_=>ofS (methId O c1 name a) λid _=>evM1 O E (meth_he hs hl ha hn) ha g1 id.2 o1) λ_=>
   ofB (instAt c1 a).isSome (λ_=>ofS (instAt c1 a) λq hi=>evM2 O E (meth_he hs hl ha hn) ha g1 hi o1) λ_=>match a,g1 with
    | .typ t,g1=>if h:t= "Exception" /\name= "__init__" then h.2▸evM3 O E (h.2▸meth_he hs hl ha hn) ha (h.1▸g1) o1 else none
    |_,_=>none)
  λC ks d c1 o1 p1 g1=>some ⟨.ex C ks d,c1,o1,p1,λhp=>tv_method_o (g1 hp) (meth_he hs hl ha hn)⟩
noncomputable def addrOf (a:AV):Option {f// ∀ρ G v,RepV ρ G a v->v=.ref f}:=match a with
 | .fn a=>some ⟨a,λρ G v r=>r⟩
 | .cls a=>some ⟨a,λρ G v r=>r⟩
 |_=>none
variable {func:Expr}
def CallE (X:Cx)(func:Expr)(args:List Expr)(pos:Pos):Prop:=eval (.Call func args [] pos) X.f.env=(do callWith pos (<-eval func X.f.env) [] (backTo pos (starEach args X.f.env)) (backToKw pos (keywordEach [] X.f.env)))
noncomputable def evCall1 (he:CallE X func args pos)(ha:plainArgs args=true){c c1:St}{fa:AV}{p1:List Prop}(g1:AllP p1->TV X (eval func X.f.env) c (.ok fa) c1)(f: {f// ∀ρ G v,RepV ρ G fa v->v=.ref f})(o:List Orc):EV X c (.Call func args [] pos):=
 gd (keeps X.T f.1) λhk=>onVs (E.es pos args c1 o)
  (λas c2 o2 p2 g2=>ofS (ctA c2 f.1 as o2) λ(z:Ct X c2 f.1 as) _=>some ⟨z.rv,z.c',z.o,p1++(p2++[z.P]),λhp=>tv_call O.1.k O.2 (g1 hp.l) f.2 (O.1.keep _ hk) ha (g2 hp.r.l) (Nat.le_refl _) z.h1 z.h2 z.h3 hp.r.r.1 he⟩)
  λC ks d c2 o2 p2 g2=>some ⟨.ex C ks d,c2,o2,p1++p2,λhp=>tv_call_x O.1.k (g1 hp.l) f.2 (O.1.keep _ hk) ha (g2 hp.r) he⟩
noncomputable def evCall2 (he:CallE X func args pos)(ha:plainArgs args=true){c c1:St}{fa:AV}{p1:List Prop}(g1:AllP p1->TV X (eval func X.f.env) c (.ok fa) c1)(o:List Orc):EV X c (.Call func args [] pos):=
 gd (isBltV fa) λhb=>onVs (E.es pos args c1 o)
  (λas c2 o2 p2 g2=>ofB (bltA (X:=X) c2 fa as).isSome (λ_=>ofS (bltA c2 fa as) λ(z:BltR X c2 fa as) _=>some ⟨.ok z.r,c2,o2,p1++(p2++z.p),λhp=>tv_bltW hb (g1 hp.l) ha (g2 hp.r.l) (z.ok hp.r.r) he⟩) λ_=>match o2 with
   | .item b::o3=>some ⟨.ok b,c2,o3,p1++(p2++[CallW X fa as c2 b]),λhp=>tv_bltW hb (g1 hp.l) ha (g2 hp.r.l) hp.r.r.1 he⟩
   |_=>none)
  λC ks d c2 o2 p2 g2=>some ⟨.ex C ks d,c2,o2,p1++p2,λhp=>tv_bltW_x hb (g1 hp.l) ha (g2 hp.r) he⟩
noncomputable def evCall (func:Expr)(args:List Expr)(pos:Pos)(hf:∀a b d,func≠ .Attribute a b d)(c:St)(o:List Orc):EV X c (.Call func args [] pos):=
 gd (plainArgs args) λha=>onV (E.e func c o) (λfa c1 o1 p1 g1=>ofB (addrOf fa).isSome (λ_=>ofS (addrOf fa) λf _=>evCall1 O E (call_he hf) ha g1 f o1) λ_=>evCall2 E (call_he hf) ha g1 o1) nx
end
theorem setItem_at {prog:Program}{w:World}{A:Around}{E:Value->Shared->Prop}{s:Shared}{l:Addr}{vs:List Value}{n:Nat}{k:Int}{t:Tok}{v:Value}{Q:Unit->Shared->Prop}(ho:s.heap.get? l=some (lstObj vs n))
  (h0:0<=k) (hfit:k<2^63) (hn:k.toNat<vs.length)
  (hQ:Q () {s with heap:=s.heap.update l (Obj.mapSeq (·.setIfInBounds k.toNat v))}):
  wpAny (model prog w) A (setItem (.ref l) (.int k t) v) Q E s:=by
 have hl:s.heap.IsList l vs.toArray:=⟨_,ho,rfl,n,rfl⟩
 unfold setItem
 try with_reducible refine wpAny_holding ?_
 first|refine wpAny_bind (wpAny_pure ?_)|skip
 refine wpAny_bind (wpAny_sequenceKey hl.typeIs (by decide) ?_)
 refine wpAny_bind (wpAny_callSpecial?_slot (name:=Str.ofString "__setitem__") hl.typeIs slot_list_setitem
  (wpAny_call_entry slot_list_setitem hl.typeIs entry_list_setitem ?_ (args_list_setitem _ _ _)))
 show wpAny _ _ (Builtin.List.listSubscript? (.int k t)>>=_) _ _ s
 refine wpAny_bind (wpAny_listSubscript_int (fitsIndex_of h0 hfit) ?_)
 clear hfit
 obtain⟨j,rfl⟩:=Int.eq_ofNat_of_zero_le h0
 have hj:j<vs.toArray.size:=by simpa using hn
 have hx':vs.toArray[j]? =some vs.toArray[j]:=Array.getElem?_eq_getElem hj
 show wpAny _ _ ((seqItemAt l j>>=λr=>pure (r.map (j,·)))>>=_) _ _ s
 refine wpAny_bind (wpAny_bind (wpAny_seqItemAt ho rfl (wpAny_pure ?_)))
 rw[hx']
 show wpAny _ _ (setSeqItemAt l j v>>=_) _ _ s
 refine wpAny_bind (wpAny_setSeqItemAt ho rfl ?_)
 first
  |exact wpAny_bind (wpAny_pure (wpAny_pure ⟨.none,rfl,wpAny_pure hQ⟩))
  |exact wpAny_pure ⟨.none,rfl,wpAny_pure hQ⟩
section
variable {X:Cx}{c c₁ c₂ c₃:St}
theorem set2_inst (O:Ok X){attr:Str}{j k:Nat}{C:Addr}{ks:List Str}{xs:List AV}{b:AV}(h1:c.obj[j]? =some (.inst C k))(h2:c.obj[k]? =some (.ns ks xs))(hp:fldA X.T C attr=true)(hz:ks.length<=900):
  Set2 X attr (.ref j) b c ⟨c.loc,c.obj.set k (.ns (putK ks xs attr b).1 (putK ks xs attr b).2)⟩:=λA ρ G s vo vv rm fo i r₁ r₂=>
 set_attr O.1.k i r₁ r₂ h1 h2 (O.1.flds _ _ hp).2 hz λs' i'=>⟨ρ,G,PreA.refl _,Sub.refl _,i'⟩
theorem set2_exc0 (O:Ok X){attr:Str}{j:Nat}{C:Addr}{b:AV}(h1:c.obj[j]? =some (.exc0 C))(hp:setsExc X.K C attr=true):
  Set2 X attr (.ref j) b c ⟨c.loc,(c.obj++[AO.ns [attr] [b]]).set j (.excl C c.obj.length)⟩:=λA ρ G s vo vv rm fo i r₁ r₂=>
 set_exc0 O.1.k i r₁ r₂ h1 hp λs' ρ' p i'=>⟨ρ',G,p,Sub.refl _,i'⟩
theorem set2_excl (O:Ok X){attr:Str}{j k:Nat}{C:Addr}{ks:List Str}{xs:List AV}{b:AV}(h1:c.obj[j]? =some (.excl C k))(h2:c.obj[k]? =some (.ns ks xs))(hp:setsExc X.K C attr=true)(hz:ks.length<=900):
  Set2 X attr (.ref j) b c ⟨c.loc,c.obj.set k (.ns (putK ks xs attr b).1 (putK ks xs attr b).2)⟩:=λA ρ G s vo vv rm fo i r₁ r₂=>
 set_excl O.1.k i r₁ r₂ h1 h2 hp hz λs' i'=>⟨ρ,G,PreA.refl _,Sub.refl _,i'⟩
theorem rep_set {ρ:List Addr}{G:Gh}{a:AV}{v:Value}(r:RepV ρ G a v):∀ {as:List AV} {vs:List Value} (n:Nat),RepVs ρ G as vs->RepVs ρ G (as.set n a) (vs.set n v)
 | [],[],_,_=>trivial
 |_::_,_::_,0,⟨_,r2⟩=>⟨r,r2⟩
 |_::_,_::_,n+1,⟨r1,r2⟩=>⟨r1,rep_set r n r2⟩
theorem set3_list {j:Nat}{xs:List AV}{i:Int}{b:AV}(h1:c.obj[j]? =some (.list xs))(h0:0<=i)(h2:i<2^63)(h3:i.toNat<xs.length):
  Set3 X (.ref j) (.int i) b c ⟨c.loc,c.obj.set j (.list (xs.set i.toNat b))⟩:=λA ρ G s vo vk vv rm fo I r₁ r₂ r₃=>by
 obtain⟨t,ht,rfl⟩:=r₁
 obtain⟨u,rfl⟩:=r₂
 obtain⟨t',o,g1,g2,⟨vs,n,rfl,g3⟩,g4⟩:=I.h.live j _ h1 (by intro z;cases z)
 rw[ht]at g1;cases g1
 refine setItem_at g2 h0 h2 (by rw[g3.len];exact h3) ⟨ρ,G,PreA.refl _,Sub.refl _,?_⟩
 have e:=Heap.get?_update_self (Obj.mapSeq (·.setIfInBounds i.toNat vv)) g2 rfl
 refine I.upd (s':= {s with heap:=s.heap.update t (Obj.mapSeq (·.setIfInBounds i.toNat vv))}) h1 (by intro z;cases z) ht (λb o nb q=>(Heap.get?_update_other _ _ (Ne.symm nb)).trans q) e ⟨vs.set i.toNat vv,n,?_,rep_set r₃ _ g3⟩ rfl rfl
 show Obj.mk _ _ (.seq (vs.toArray.setIfInBounds i.toNat vv) (if(vs.toArray.setIfInBounds i.toNat vv).size==vs.toArray.size then n else n+1)) _=_
 simp
theorem repD_set {G:Gh}{d:D}{v:Value}(r:RepD G v d):∀ {vs:List Value} {l:List D} (n:Nat),RepDs G vs l->RepDs G (vs.set n v) (l.set n d)
 |_,_,_,.nil=>.nil
 |_,_,0,.cons _ r2=>.cons r r2
 |_,_,n+1,.cons r1 r2=>.cons r1 (repD_set r n r2)
theorem set3_dlist {j:Nat}{l:List D}{i:Int}{b:AV}{d:D}(h1:c.obj[j]? =some (.dlist l))(hd:dOf b=some d)(h0:0<=i)(h2:i<2^63)(h3:i.toNat<l.length):
  Set3 X (.ref j) (.int i) b c ⟨c.loc,c.obj.set j (.dlist (l.set i.toNat d))⟩:=λA ρ G s vo vk vv rm fo I r₁ r₂ r₃=>by
 obtain⟨t,ht,rfl⟩:=r₁
 obtain⟨u,rfl⟩:=r₂
 obtain⟨t',o,g1,g2,⟨vs,n,rfl,g3⟩,g4⟩:=I.h.live j _ h1 (by intro z;cases z)
 rw[ht]at g1;cases g1
 refine setItem_at g2 h0 h2 (by rw[g3.len];exact h3) ⟨ρ,G,PreA.refl _,Sub.refl _,?_⟩
 have e:=Heap.get?_update_self (Obj.mapSeq (·.setIfInBounds i.toNat vv)) g2 rfl
 refine I.upd (s':= {s with heap:=s.heap.update t (Obj.mapSeq (·.setIfInBounds i.toNat vv))}) h1 (by intro z;cases z) ht (λb o nb q=>(Heap.get?_update_other _ _ (Ne.symm nb)).trans q) e ⟨vs.set i.toNat vv,n,?_,repD_set (dOf_rep hd r₃) _ g3⟩ rfl rfl
 show Obj.mk _ _ (.seq (vs.toArray.setIfInBounds i.toNat vv) (if(vs.toArray.setIfInBounds i.toNat vv).size==vs.toArray.size then n else n+1)) _=_
 simp
end
section
variable {X:Cx}(O:Ok X)(E:Rec X)
noncomputable def nsO (ao:AO):Option {q:List Str×List AV//ao=.ns q.1 q.2}:=match ao with
 | .ns ks xs=>some ⟨(ks,xs),rfl⟩
 |_=>none
noncomputable def setR (c:St)(attr:Str)(j:Nat)(b:AV):Option {c'//Set2 X attr (.ref j) b c c'}:=ofS c.obj[j]? λao q=>match ao,q with
 | .inst C k,q=>ofS c.obj[k]? λao' q'=>ofS (nsO ao') λn _=>gd (fldA X.T C attr) λhf=>gd (Nat.ble n.1.1.length 900) λhb=>
   some ⟨⟨c.loc,c.obj.set k (.ns (putK n.1.1 n.1.2 attr b).1 (putK n.1.1 n.1.2 attr b).2)⟩,set2_inst O q (n.2▸q') hf (Nat.le_of_ble_eq_true hb)⟩
 | .exc0 C,q=>gd (setsExc X.K C attr) λhs=>some ⟨⟨c.loc,(c.obj++[AO.ns [attr] [b]]).set j (.excl C c.obj.length)⟩,set2_exc0 O q hs⟩
 | .excl C k,q=>ofS c.obj[k]? λao' q'=>ofS (nsO ao') λn _=>gd (setsExc X.K C attr) λhs=>gd (Nat.ble n.1.1.length 900) λhb=>
   some ⟨⟨c.loc,c.obj.set k (.ns (putK n.1.1 n.1.2 attr b).1 (putK n.1.1 n.1.2 attr b).2)⟩,set2_excl O q (n.2▸q') hs (Nat.le_of_ble_eq_true hb)⟩
 |_,_=>none
noncomputable def setA (c:St)(attr:Str)(a b:AV):Option {c'//Set2 X attr a b c c'}:=match a with
 | .ref j=>setR O c attr j b
 |_=>none
noncomputable def evStore (x:Expr)(attr:Str)(p':Pos)(value:Expr)(p:Pos)(c:St)(o:List Orc):EF X c (.Assign [.Attribute x attr p'] value p):=
 gd (saysNo (swapsWith value (some (.Attribute x attr p')) p.line X.f.env)) λhs=>onV (E.e value c o)
  (λb c1 o1 p1 g1=>onV (E.e x c1 o1) (λa c2 o2 p2 g2=>ofS (setA O c2 attr a b) λc3 _=>some ⟨.next,c3.1,o2,p1++p2,λhp=>tf_setattr hs (g1 hp.l) (g2 hp.r) c3.2⟩) nx)
  λC ks d c1 o1 p1 g1=>some ⟨.ex C ks d,c1,o1,p1,λhp=>tf_setattr_x hs (g1 hp)⟩
structure PutR (X:Cx)(c:St)(a k b:AV) where
 c':St
 p:List Prop
 ok:AllP p->Set3 X a k b c c'
noncomputable def putR (c:St)(j:Nat)(i:Int)(b:AV):Option (PutR X c (.ref j) (.int i) b):=ofS c.obj[j]? λao q=>match ao,q with
 | .list xs,q=>some ⟨⟨c.loc,c.obj.set j (.list (xs.set i.toNat b))⟩,[0<=i/\i<2^63/\i.toNat<xs.length],λhp=>set3_list q hp.1.1 hp.1.2.1 hp.1.2.2⟩
 | .dlist l,q=>ofS (dOf b) λd hd=>some ⟨⟨c.loc,c.obj.set j (.dlist (l.set i.toNat d))⟩,[0<=i/\i<2^63/\i.toNat<l.length],λhp=>set3_dlist q hd hp.1.1 hp.1.2.1 hp.1.2.2⟩
 |_,_=>none
noncomputable def putA (c:St)(a k b:AV):Option (PutR X c a k b):=match a with
 | .ref j=>match k with
  | .int i=>putR c j i b
  |_=>none
 |_=>none
noncomputable def evPutI (x k:Expr)(p':Pos)(value:Expr)(p:Pos)(c:St)(o:List Orc):EF X c (.Assign [.Subscript x k p'] value p):=
 gd (saysNo (swapsWith value (some (.Subscript x k p')) p.line X.f.env)) λhs=>onV (E.e value c o)
  (λb c1 o1 p1 g1=>onV (E.e x c1 o1) (λa c2 o2 p2 g2=>onV (E.e k c2 o2) (λd c3 o3 p3 g3=>ofS (putA c3 a d b) λ(z:PutR X c3 a d b) _=>
   some ⟨.next,z.c',o3,p1++(p2++(p3++z.p)),λhp=>tf_setitem hs (g1 hp.l) (g2 hp.r.l) (g3 hp.r.r.l) (z.ok hp.r.r.r)⟩) nx) nx) nx
noncomputable def evTupS (elts:List Expr)(k:Nat)(tp:Pos)(value:Expr)(p:Pos)(c:St)(o:List Orc):EF X c (.Assign [.Tuple elts k tp] value p):=
 gd (saysNo (swapsWithSole [.Tuple elts k tp] value p.line X.f.env)) λhs=>ofS (swapOf (swappedStores [.Tuple elts k tp] value X.f.env)) λw hw=>match w,hw with
  |none,hw=>onV (E.e value c o) (λa c1 o1 p1 g=>ofS (tupleAt c1 a) λas ht=>ofS (namesOf elts) λxs hn=>gd (xs.all (isLocal X.f)) λhl=>gd (Nat.beq xs.length as.length) λhb=>
    some ⟨.next,⟨putAll c1.loc xs as,c1.obj⟩,o1,p1,λhp=>tf_tuple O.2 hn hl (Nat.eq_of_beq_eq_true hb) hs hw (g hp) ht⟩)
   λC ks d c1 o1 p1 g=>some ⟨.ex C ks d,c1,o1,p1,λhp=>tf_tuple_x hs hw (g hp)⟩
  |some xs,hw=>onV (E.e value c o) (λa c1 o1 p1 g=>ofS (tupleAt c1 a) λas ht=>gd (xs.all (isLocal X.f)) λhl=>gd (Nat.beq xs.length as.length) λhb=>
    some ⟨.next,⟨putAll c1.loc xs.reverse as.reverse,c1.obj⟩,o1,p1,λhp=>tf_swapped O.2 hl (Nat.eq_of_beq_eq_true hb) hs hw (g hp) ht⟩)
   λC ks d c1 o1 p1 g=>some ⟨.ex C ks d,c1,o1,p1,λhp=>tf_swapped_x hs hw (g hp)⟩
noncomputable def evAsg (t:Expr)(value:Expr)(p:Pos)(c:St)(o:List Orc):EF X c (.Assign [t] value p):=match t with
 | .Name x p'=>gd (saysNo (swapsWith value (some (.Name x p')) p.line X.f.env)) λhs=>gd (isLocal X.f x) λhl=>onV (E.e value c o)
   (λa c1 o1 p1 g=>some ⟨.next,⟨put c1.loc x a,c1.obj⟩,o1,p1,λhp=>tf_assign O.2 hl hs (g hp)⟩)
   λC ks d c1 o1 p1 g=>some ⟨.ex C ks d,c1,o1,p1,λhp=>tf_assign_x hs (g hp)⟩
 | .Attribute x attr p'=>evStore O E x attr p' value p c o
 | .Subscript x k p'=>evPutI E x k p' value p c o
 | .Tuple elts k tp=>evTupS O E elts k tp value p c o
 |_=>none
noncomputable def evExpr (e:Expr)(p:Pos)(c:St)(o:List Orc):EF X c (.Expr e p):=gd (saysNo (swapsWith e none p.line X.f.env)) λhs=>onV (E.e e c o)
 (λa c1 o1 p1 g=>some ⟨.next,c1,o1,p1,λhp=>tf_expr O.2 hs (g hp)⟩)
 λC ks d c1 o1 p1 g=>some ⟨.ex C ks d,c1,o1,p1,λhp=>tf_expr_x O.2 hs (g hp)⟩
noncomputable def evRet (e:Option Expr)(p:Pos)(c:St)(o:List Orc):EF X c (.Return e p):=match e with
 |none=>some ⟨.ret .none,c,o,[],λ_=>tf_ret0⟩
 |some e=>onV (E.e e c o) (λa c1 o1 p1 g=>some ⟨.ret a,c1,o1,p1,λhp=>tf_ret (g hp)⟩) λC ks d c1 o1 p1 g=>some ⟨.ex C ks d,c1,o1,p1,λhp=>tf_ret_x (g hp)⟩
noncomputable def evIf (t:Expr)(b e:List Stmt)(p:Pos)(c:St)(o:List Orc):EF X c (.If t b e p):=onB (E.t t c o)
 (λk c1 o1 p1 g1=>onE (E.ss (cond k b e) c1 o1) λr c2 o2 p2 g2=>some ⟨r,c2,o2,p1++p2,λhp=>tf_if (g1 hp.l) (ifc (λx=>TF X (execs x X.f.env) c1 r c2) (g2 hp.r))⟩)
 λC ks d c1 o1 p1 g=>some ⟨.ex C ks d,c1,o1,p1,λhp=>tf_if_x (g hp)⟩
noncomputable def excO (ao:AO):Option {q:Addr×List Str×List D//ao=.exc q.1 q.2.1 q.2.2}:=match ao with
 | .exc C ks l=>some ⟨(C,ks,l),rfl⟩
 |_=>none
noncomputable def evRaise (e:Expr)(p:Pos)(c:St)(o:List Orc):EF X c (.Raise (some e) none p):=onV (E.e e c o)
 (λa c1 o1 p1 g=>ofS (isRef a) λj _=>ofS c1.obj[j.1]? λao q=>ofS (excO ao) λx _=>gd (isExc X.K x.1.1) λhx=>some ⟨.ex x.1.1 x.1.2.1 x.1.2.2,c1,o1,p1,λhp=>tf_raise O (j.2▸g hp) (x.2▸q) hx⟩)
 λC ks d c1 o1 p1 g=>some ⟨.ex C ks d,c1,o1,p1,λhp=>tf_raise_x (g hp)⟩
noncomputable def evSuite (s:Stmt)(c:St)(o:List Orc):EF X c s:=match o with
 | .suite fl c'::o'=>some ⟨fl,c',o',[TF X (exec s X.f.env) c fl c'],λhp=>hp.1⟩
 |_=>none
noncomputable def evStmt (s:Stmt)(c:St)(o:List Orc):EF X c s:=match s with
 | .Assign ts value p=>match ts with
  | []=>evSuite (.Assign [] value p) c o
  |t::ts=>match ts with
   | []=>evAsg O E t value p c o
   |u::ts=>evSuite (.Assign (t::u::ts) value p) c o
 | .Expr e p=>evExpr O E e p c o
 | .Return e p=>evRet E e p c o
 | .If t b e p=>evIf E t b e p c o
 | .Raise (some e) none p=>evRaise O E e p c o
 |s=>evSuite s c o
noncomputable def evStmts (l:List Stmt)(c:St)(o:List Orc):EFs X c l:=match l with
 | []=>some ⟨.next,c,o,[],λ_=>tf_nil⟩
 |s::r=>onE (evStmt O E s c o) λf c1 o1 p1 g1=>match f,g1 with
  | .next,g1=>onE (E.ss r c1 o1) λq c2 o2 p2 g2=>some ⟨q,c2,o2,p1++p2,λhp=>tf_cons (g1 hp.l) (g2 hp.r)⟩
  | .ret a,g1=>some ⟨.ret a,c1,o1,p1,λhp=>tf_cons_ret (g1 hp)⟩
  | .ex C ks d,g1=>some ⟨.ex C ks d,c1,o1,p1,λhp=>tf_cons_x (g1 hp)⟩
noncomputable def evCalls (f:Expr)(args:List Expr)(pos:Pos)(c:St)(o:List Orc):EV X c (.Call f args [] pos):=match f with
 | .Attribute y n ap=>bif isDictE y then evVal (.Call (.Attribute y n ap) args [] pos) c o else evMeth O E y n ap pos args c o
 | .Name x p=>evCall O E (.Name x p) args pos nofun c o
 |_=>none
noncomputable def evCallK (f:Expr)(args:List Expr)(kw:List Keyword)(pos:Pos)(c:St)(o:List Orc):EV X c (.Call f args kw pos):=match kw with
 | []=>evCalls O E f args pos c o
 |k::kw=>evVal (.Call f args (k::kw) pos) c o
noncomputable def evE (x:Expr)(c:St)(o:List Orc):EV X c x:=match x with
 | .Constant k kd pos=>evConst k kd pos c o
 | .Name n pos=>evName O n pos c o
 | .BinOp l op r pos=>evBin E l op r pos c o
 | .UnaryOp u y pos=>evUn E u y pos c o
 | .Compare l ops rs pos=>evCV O E l ops rs pos c o
 | .IfExp t b e pos=>evIfE E t b e pos c o
 | .BoolOp op l p=>onE (E.bo p op l c o) λr c1 o1 p1 g=>some ⟨r,c1,o1,p1,λhp=>tv_boolop (g hp)⟩
 | .Tuple l k p=>evTup E l k p c o
 | .List l p=>evLst E l p c o
 | .Attribute y a p=>evAttr O E y a p c o
 | .Subscript v s p=>evSub O E v s p c o
 | .Call f args kw p=>evCallK O E f args kw p c o
 |y=>evVal y c o
noncomputable def evR:Nat->Rec X
 |0=>⟨λ_ _ _=>none,λ_ _ _ _=>none,λ_ _ _=>none,λ_ _ _ _=>none,λ_ _ _ _ _=>none,λ_ _ _=>none⟩
 |n+1=>⟨evE O (evR n),evArgs (evR n),evT O (evR n),evAll (evR n),evBo (evR n),evStmts O (evR n)⟩
noncomputable def ev (n:Nat)(t:Task)(c:St)(o:List Orc):Option Rz:=match t with
 | .e x=>((evR O n).e x c o).map λz=>⟨.v z.r,z.c,z.o,z.p⟩
 | .es pos l=>((evR O n).es pos l c o).map λz=>⟨.vs z.r,z.c,z.o,z.p⟩
 | .t x=>((evR O n).t x c o).map λz=>⟨.b z.r,z.c,z.o,z.p⟩
 | .s x=>(evStmt O (evR O n) x c o).map λz=>⟨.f z.r,z.c,z.o,z.p⟩
 | .ss l=>((evR O n).ss l c o).map λz=>⟨.f z.r,z.c,z.o,z.p⟩
theorem ev_ok (n:Nat)(t:Task)(c:St)(o:List Orc)(z:Rz)(h:ev O n t c o=some z)(hp:AllP z.p):Good X t c z.v z.c:=by
 cases t with
 |e x=>obtain⟨z',_,rfl⟩:=Option.map_eq_some_iff.mp h;exact z'.ok hp
 |es pos l=>obtain⟨z',_,rfl⟩:=Option.map_eq_some_iff.mp h;exact z'.ok hp
 |t x=>obtain⟨z',_,rfl⟩:=Option.map_eq_some_iff.mp h;exact z'.ok hp
 |s x=>obtain⟨z',_,rfl⟩:=Option.map_eq_some_iff.mp h;exact z'.ok hp
 |ss l=>obtain⟨z',_,rfl⟩:=Option.map_eq_some_iff.mp h;exact z'.ok hp
end
structure Def where
 name:Str
 args:Arguments
 body:List Stmt
 scope:Scope
 deriving Inhabited
noncomputable def defOf:Option Stmt->Def
 |some (.FunctionDef n a b _ _ _ s _ _ _)=>⟨n,a,b,s⟩
 |_=>default
noncomputable def inCls:Option Stmt->Nat->Option Stmt
 |some (.ClassDef _ _ _ b ..),i=>b[i]?
 |_,_=>none
noncomputable abbrev pw:Program:=PySem.Challenge.pw_qd0076_01
noncomputable def pwBody:List Stmt:=pw.main.body
noncomputable def df (i:Nat):Def:=defOf pwBody[i]?
noncomputable def dm (i j:Nat):Def:=defOf (inCls pwBody[i]? j)
noncomputable def mS0:Value:=.str "grammarmill.actions" 541
noncomputable def mS1:Value:=.str "grammarmill.machine" 1208
noncomputable def mS2:Value:=.str "grammarmill.codes" 1005
noncomputable def mS3:Value:=.str "grammarmill.source" 194
noncomputable def mS4:Value:=.str "law_qd0076_01" 1530
noncomputable def eV (P:Params)(s:Str)(t:Tok)(v:Value):DictEntry:=⟨PyData.keyHash P s,.str s t,v⟩
noncomputable def eR (P:Params)(s:Str)(t:Tok)(a:Addr):DictEntry:=eV P s t (.ref a)
noncomputable def fE (pm:Value)(a:Addr)(d:Def)(q:Str)(t:Tok)(ln na:Int)(u:Int)(dV:Value):Frag:=[
 (a,⟨.type "code",none,.fields #[.str d.name t,.str q (t+1),.str "/claim/cut.py" (t+2),.int ln 0,.int na 0,.int 0 0,.int 0 0,.int 3 0,.ref (a-5),.bool true,.int 181 0,.ref (a-4),.none,.ref (a-3),.ref (a-2),.ref (a-1),.int u 0,.int ln 0,.str "/claim/cut.py" (u.toNat+1)],#[]⟩),
 (a+1,⟨.type "function",none,.func (fnOf d.name q d.args d.body d.scope dV .none .none pm none (.ref a) .none),#[]⟩)]
noncomputable def lvlD (P:Params):List DictEntry:=[eV P "||" 553 (.int 1 554),eV P "&&" 555 (.int 2 556),eV P "==" 557 (.int 3 558),eV P "!=" 559 (.int 3 560),eV P "<" 561 (.int 3 562),eV P "<=" 563 (.int 3 564),eV P ">" 565 (.int 3 566),eV P ">=" 567 (.int 3 568),eV P "+" 569 (.int 4 570),eV P "-" 571 (.int 4 572),eV P "*" 573 (.int 5 574),eV P "/" 575 (.int 5 576),eV P "%" 577 (.int 5 578)]
noncomputable def funD (P:Params):List DictEntry:=[eV P "len" 604 (.int 1 605),eV P "item" 606 (.int 2 607),eV P "push" 608 (.int 2 609),eV P "head" 610 (.int 1 611),eV P "rest" 612 (.int 1 613),eV P "last" 614 (.int 1 615),eV P "back" 616 (.int 1 617),eV P "text" 618 (.int 1 619),eV P "number" 620 (.int 1 621),eV P "cut" 622 (.int 3 623),eV P "glue" 624 (.int 2 625)]
noncomputable def KK (P:Params):Frag:=List.flatten [
 [(1,⟨(.type "dict"),none,.dict [eR P "builtins" 162 4,eR P "__main__" 163 5].toArray 2,#[]⟩),
 (3,⟨(.type "dict"),none,.dict [eV P "__name__" 165 (.str "law_qd0076_01" 1530),eV P "__doc__" 166 .none,eV P "__package__" 167 .none,eV P "__loader__" 168 (.builtin "__main__.__loader__#opaque"),eV P "__spec__" 169 .none,eR P "__annotations__" 170 6,eR P "__builtins__" 171 4,eV P "__file__" 173 (.str "/claim/cut.py" 172),eV P "__cached__" 174 .none,eR P "_wall" 193 21,eV P "SMALL" 197 (.str "abcdefghijklmnopqrstuvwxyz" 196),eV P "LETTERS" 200 (.str "abcdefghijklmnopqrstuvwxyzABCDEFGHIJKLMNOPQRSTUVWXYZ" 199),eV P "FIGURES" 202 (.str "0123456789" 201),eV P "NAME_SIGNS" 206 (.str "abcdefghijklmnopqrstuvwxyzABCDEFGHIJKLMNOPQRSTUVWXYZ_0123456789" 205),eV P "HEX_SIGNS" 209 (.str "0123456789abcdefABCDEF" 208),eV P "OCTAL_SIGNS" 211 (.str "01234567" 210),eV P "MOST_FIGURES_source" 213 (.int 4000 212),eR P "PLAIN_ESCAPES" 235 22,eR P "Position" 275 46,eR P "position_of" 287 57,eR P "ToolError" 325 82,eR P "ActionError" 341 95,eR P "MachineError" 357 107,eR P "Cursor" 517 234,eR P "hex_escape" 525 245,eR P "escaped_sign" 534 252,eR P "escaped" 540 257,eR P "WORDS" 548 258,eR P "RESERVED" 552 260,eR P "LEVELS" 592 261,eR P "SIGNS_OF_TWO" 599 262,eV P "SIGNS_OF_ONE" 601 (.str "+-*/%!<>=;,(){}[]" 600),eV P "BLANKS" 603 (.str " \t\n\r" 602),eR P "FUNCTIONS" 637 263,eV P "MOST_BITS" 639 (.int 512 638),eV P "MOST_SIZE" 641 (.int 2000 640),eV P "MOST_DEEP" 643 (.int 100 642),eR P "Part" 676 280,eR P "refused" 685 291,eR P "scan_dollar" 695 298,eR P "scan_sign" 706 305,eR P "scan_action" 719 312,eR P "ActionReader" 917 463,eR P "joined" 926 474,eR P "parse_action" 933 481,eR P "check_nodes" 943 488,eR P "parts_of" 951 495,eR P "check_action" 960 502,eR P "level_of" 967 509,eR P "show_within" 976 516,eR P "show_expression" 982 521,eR P "show_block" 989 528,eR P "show_statement" 998 535,eR P "show_action" 1004 540,eR P "LEAVING" 1010 541,eR P "COMPARISONS" 1017 542,eV P "MOST_PARTS" 1019 (.int 300 1018),eR P "is_number" 1026 549,eR P "is_true" 1033 556,eR P "bounded" 1040 563,eR P "added" 1049 570,eR P "compared" 1059 577,eR P "part_count" 1069 584,eR P "are_equal" 1077 591,eR P "two_worth" 1086 598,eR P "one_worth" 1094 605,eR P "CodeMaker" 1198 679,eR P "compile_action" 1207 691,eV P "MOST_FIGURES_machine" 1211 (.int 160 1210),eR P "need" 1219 698,eR P "need_list" 1226 705,eR P "need_row" 1233 712,eR P "need_number" 1242 719,eR P "number_of" 1252 726,eR P "text_of" 1259 733,eR P "glued" 1268 740,eR P "turned" 1275 747,eR P "item_of" 1283 754,eR P "cut_of" 1292 761,eR P "end_of" 1300 768,eR P "call_of_one" 1308 775,eR P "applied" 1316 782,eR P "value_at" 1324 789,eR P "controlled" 1332 796,eR P "Frame" 1411 848,eR P "Machine" 1529 924,eR P "_law_draw" 1540 935,eR P "_law_wrapped" 1551 942,eR P "_law_blocked" 1559 949,eR P "_law_page" 1575 956,eR P "_law_ran" 1582 963,eR P "law" 1588 968].toArray 92,#[]⟩)],
 fE mS3 35 (dm 10 0) "Position.__init__" 248 15 4 255 .none,
 [(45,⟨(.type "dict"),none,.dict [eV P "__module__" 243 (.str "grammarmill.source" 194),eV P "__firstlineno__" 247 (.int 13 246),eR P "__init__" 257 36,eR P "told" 264 43,eR P "__static_attributes__" 268 44,eR P "__dict__" 270 47,eR P "__weakref__" 272 48,eV P "__doc__" 273 .none].toArray 4,#[]⟩),
 (46,⟨(.type "type"),none,.cls {name:= "Position",bases:=[.type "object"],mro:=[.ref 46,.type "object"],ns:=45,qualname:= "Position",hasDict:=true,slotNames:=[],subclasses:=[],abstract:=false,collection:=none,hasDel:=false},#[none,none,some (.str "Position" 236),some (.str "Position" 244),some (.builtin "object.__new__"),some (.bool true)]⟩)],
 fE mS3 56 (df 11) "position_of" 276 22 2 285 .none,
 [(65,⟨(.type "tuple"),none,.seq [.none].toArray 0,#[]⟩)],
 fE mS3 71 (dm 12 0) "ToolError.__init__" 300 33 3 306 (.ref 65),
 [(81,⟨(.type "dict"),none,.dict [eV P "__module__" 295 (.str "grammarmill.source" 194),eV P "__firstlineno__" 299 (.int 31 298),eR P "__init__" 308 72,eR P "told" 315 79,eR P "__static_attributes__" 318 80,eR P "__weakref__" 320 83,eV P "__doc__" 321 .none].toArray 3,#[]⟩),
 (82,⟨(.type "type"),none,.cls {name:= "ToolError",bases:=[.type "Exception"],mro:=[.ref 82,.type "Exception",.type "BaseException",.type "object"],ns:=81,qualname:= "ToolError",hasDict:=true,slotNames:=[],subclasses:=[.ref 95,.ref 107],abstract:=false,collection:=none,hasDel:=false},#[some (.ref 58),none,some (.str "ToolError" 288),some (.str "ToolError" 296),some (.builtin "Exception.__new__"),some (.bool true)]⟩),
 (94,⟨(.type "dict"),none,.dict [eV P "__module__" 333 (.str "grammarmill.source" 194),eV P "__firstlineno__" 337 (.int 40 336),eR P "__static_attributes__" 338 93,eV P "__doc__" 339 .none].toArray 2,#[]⟩),
 (95,⟨(.type "type"),none,.cls {name:= "ActionError",bases:=[.ref 82],mro:=[.ref 95,.ref 82,.type "Exception",.type "BaseException",.type "object"],ns:=94,qualname:= "ActionError",hasDict:=true,slotNames:=[],subclasses:=[],abstract:=false,collection:=none,hasDel:=false},#[some (.ref 86),none,some (.str "ActionError" 326),some (.str "ActionError" 334),some (.builtin "Exception.__new__"),some (.bool true)]⟩),
 (106,⟨(.type "dict"),none,.dict [eV P "__module__" 349 (.str "grammarmill.source" 194),eV P "__firstlineno__" 353 (.int 42 352),eR P "__static_attributes__" 354 105,eV P "__doc__" 355 .none].toArray 2,#[]⟩),
 (107,⟨(.type "type"),none,.cls {name:= "MachineError",bases:=[.ref 82],mro:=[.ref 107,.ref 82,.type "Exception",.type "BaseException",.type "object"],ns:=106,qualname:= "MachineError",hasDict:=true,slotNames:=[],subclasses:=[],abstract:=false,collection:=none,hasDel:=false},#[some (.ref 98),none,some (.str "MachineError" 342),some (.str "MachineError" 350),some (.builtin "Exception.__new__"),some (.bool true)]⟩),
 (117,⟨(.type "tuple"),none,.seq [.int 0 370].toArray 0,#[]⟩)],
 fE mS3 123 (dm 15 0) "Cursor.__init__" 371 46 3 377 (.ref 117),
 fE mS3 130 (dm 15 1) "Cursor.is_done" 380 50 1 384 .none,
 [(132,⟨(.type "tuple"),none,.seq [.int 0 387].toArray 0,#[]⟩)],
 fE mS3 138 (dm 15 2) "Cursor.peek" 388 53 2 394 (.ref 132),
 fE mS3 145 (dm 15 3) "Cursor.starts" 397 59 2 402 .none,
 fE mS3 152 (dm 15 4) "Cursor.take" 405 62 1 410 .none,
 fE mS3 159 (dm 15 5) "Cursor.skip" 413 69 2 418 .none,
 fE mS3 166 (dm 15 6) "Cursor.take_while" 421 75 2 427 .none,
 [(175,⟨(.type "tuple"),none,.seq [.str " \t" 437].toArray 0,#[]⟩)],
 fE mS3 181 (dm 15 8) "Cursor.skip_blanks" 438 84 2 443 (.ref 175),
 fE mS3 188 (dm 15 9) "Cursor.name" 446 87 1 451 .none,
 fE mS3 195 (dm 15 10) "Cursor.number" 454 93 1 460 .none,
 [(233,⟨(.type "dict"),none,.dict [eV P "__module__" 365 (.str "grammarmill.source" 194),eV P "__firstlineno__" 369 (.int 44 368),eR P "__init__" 379 124,eR P "is_done" 386 131,eR P "peek" 396 139,eR P "starts" 404 146,eR P "take" 412 153,eR P "skip" 420 160,eR P "take_while" 429 167,eR P "take_line" 436 174,eR P "skip_blanks" 445 182,eR P "name" 453 189,eR P "number" 462 196,eR P "position" 469 203,eR P "position_at" 477 210,eR P "coded" 489 217,eR P "escape" 497 224,eR P "quoted" 507 231,eR P "__static_attributes__" 510 232,eR P "__dict__" 512 235,eR P "__weakref__" 514 236,eV P "__doc__" 515 .none].toArray 4,#[]⟩),
 (234,⟨(.type "type"),none,.cls {name:= "Cursor",bases:=[.type "object"],mro:=[.ref 234,.type "object"],ns:=233,qualname:= "Cursor",hasDict:=true,slotNames:=[],subclasses:=[],abstract:=false,collection:=none,hasDel:=false},#[none,none,some (.str "Cursor" 358),some (.str "Cursor" 366),some (.builtin "object.__new__"),some (.bool true)]⟩),
 (258,⟨(.type "tuple"),none,.seq [.str "yyerrok" 543,.str "yyclearin" 544,.str "YYERROR" 545,.str "YYABORT" 546,.str "YYACCEPT" 547].toArray 0,#[]⟩),
 (260,⟨(.type "tuple"),none,.seq [.str "if" 549,.str "else" 550,.str "while" 551,.str "yyerrok" 543,.str "yyclearin" 544,.str "YYERROR" 545,.str "YYABORT" 546,.str "YYACCEPT" 547].toArray 0,#[]⟩),
 (261,⟨(.type "dict"),none,.dict (lvlD P).toArray 13,#[]⟩),
 (262,⟨(.type "tuple"),none,.seq [.str "||" 593,.str "&&" 594,.str "==" 595,.str "!=" 596,.str "<=" 597,.str ">=" 598].toArray 0,#[]⟩),
 (263,⟨(.type "dict"),none,.dict (funD P).toArray 11,#[]⟩)],
 fE mS0 276 (dm 30 0) "Part.__init__" 656 172 4 663 .none,
 [(279,⟨(.type "dict"),none,.dict [eV P "__module__" 651 (.str "grammarmill.actions" 541),eV P "__firstlineno__" 655 (.int 170 654),eR P "__init__" 665 277,eR P "__static_attributes__" 669 278,eR P "__dict__" 671 281,eR P "__weakref__" 673 282,eV P "__doc__" 674 .none].toArray 4,#[]⟩),
 (280,⟨(.type "type"),none,.cls {name:= "Part",bases:=[.type "object"],mro:=[.ref 280,.type "object"],ns:=279,qualname:= "Part",hasDict:=true,slotNames:=[],subclasses:=[],abstract:=false,collection:=none,hasDel:=false},#[none,none,some (.str "Part" 644),some (.str "Part" 652),some (.builtin "object.__new__"),some (.bool true)]⟩)],
 fE mS0 290 (df 31) "refused" 677 176 3 683 .none,
 fE mS0 297 (df 32) "scan_dollar" 686 178 3 693 .none,
 fE mS0 304 (df 33) "scan_sign" 696 185 3 704 .none,
 fE mS0 311 (df 34) "scan_action" 707 194 1 717 .none,
 fE mS0 325 (dm 35 0) "ActionReader.__init__" 732 223 2 737 .none,
 fE mS0 332 (dm 35 1) "ActionReader.enter" 740 230 1 744 .none,
 fE mS0 339 (dm 35 2) "ActionReader.leave" 747 235 2 752 .none,
 fE mS0 346 (dm 35 3) "ActionReader.here" 755 239 1 759 .none,
 fE mS0 353 (dm 35 4) "ActionReader.refuse" 762 242 2 767 .none,
 [(355,⟨(.type "tuple"),none,.seq [.int 0 770].toArray 0,#[]⟩)],
 fE mS0 361 (dm 35 5) "ActionReader.is_sign" 771 245 3 778 (.ref 355),
 fE mS0 368 (dm 35 6) "ActionReader.skip" 781 249 2 786 .none,
 fE mS0 375 (dm 35 7) "ActionReader.need" 789 255 2 794 .none,
 fE mS0 382 (dm 35 8) "ActionReader.take" 797 259 1 802 .none,
 fE mS0 389 (dm 35 9) "ActionReader.whole" 805 264 1 810 .none,
 fE mS0 396 (dm 35 10) "ActionReader.is_closed" 813 270 1 817 .none,
 fE mS0 403 (dm 35 11) "ActionReader.statements" 820 273 1 825 .none,
 fE mS0 410 (dm 35 12) "ActionReader.block" 828 281 1 833 .none,
 fE mS0 417 (dm 35 13) "ActionReader.condition" 836 289 1 841 .none,
 fE mS0 424 (dm 35 14) "ActionReader.choice" 844 295 1 851 .none,
 fE mS0 431 (dm 35 15) "ActionReader.statement" 854 302 1 860 .none,
 fE mS0 438 (dm 35 16) "ActionReader.expression" 863 324 2 874 .none,
 fE mS0 445 (dm 35 17) "ActionReader.unary" 877 343 1 883 .none,
 fE mS0 452 (dm 35 18) "ActionReader.atom" 886 352 1 892 .none,
 fE mS0 459 (dm 35 19) "ActionReader.items" 895 374 2 902 .none,
 [(462,⟨(.type "dict"),none,.dict [eV P "__module__" 727 (.str "grammarmill.actions" 541),eV P "__firstlineno__" 731 (.int 221 730),eR P "__init__" 739 326,eR P "enter" 746 333,eR P "leave" 754 340,eR P "here" 761 347,eR P "refuse" 769 354,eR P "is_sign" 780 362,eR P "skip" 788 369,eR P "need" 796 376,eR P "take" 804 383,eR P "whole" 812 390,eR P "is_closed" 819 397,eR P "statements" 827 404,eR P "block" 835 411,eR P "condition" 843 418,eR P "choice" 853 425,eR P "statement" 862 432,eR P "expression" 876 439,eR P "unary" 885 446,eR P "atom" 894 453,eR P "items" 904 460,eR P "__static_attributes__" 910 461,eR P "__dict__" 912 464,eR P "__weakref__" 914 465,eV P "__doc__" 915 .none].toArray 4,#[]⟩),
 (463,⟨(.type "type"),none,.cls {name:= "ActionReader",bases:=[.type "object"],mro:=[.ref 463,.type "object"],ns:=462,qualname:= "ActionReader",hasDict:=true,slotNames:=[],subclasses:=[],abstract:=false,collection:=none,hasDel:=false},#[none,none,some (.str "ActionReader" 720),some (.str "ActionReader" 728),some (.builtin "object.__new__"),some (.bool true)]⟩)],
 fE mS0 473 (df 36) "joined" 918 385 3 924 .none,
 fE mS0 480 (df 37) "parse_action" 927 391 1 931 .none,
 fE mS0 487 (df 38) "check_nodes" 934 393 2 941 .none,
 fE mS0 494 (df 39) "parts_of" 944 404 1 949 .none,
 fE mS0 501 (df 40) "check_action" 952 417 2 958 .none,
 fE mS0 508 (df 41) "level_of" 961 428 1 965 .none,
 fE mS0 515 (df 42) "show_within" 968 436 2 974 .none,
 [(520,⟨(.type "code"),none,.fields [.str "show_expression" 977,.str "show_expression" 978,.str "/claim/cut.py" 979,.int 439 0,.int 1 0,.int 0 0,.int 0 0,.int 3 0,.ref 517,.bool true,.int 181 0,.ref 518,.none,.none,.none,.ref 519,.int 980 0,.int 439 0,.str "/claim/cut.py" 981].toArray,#[]⟩),
 (521,⟨(.type "function"),none,.func (fnOf (df 43).name "show_expression" (df 43).args (df 43).body (df 43).scope .none .none .none (.str "grammarmill.actions" 541) none (.ref 520) .none),#[]⟩)],
 fE mS0 527 (df 44) "show_block" 983 462 1 987 .none,
 fE mS0 534 (df 45) "show_statement" 990 464 1 996 .none,
 [(539,⟨(.type "code"),none,.fields [.str "show_action" 999,.str "show_action" 1000,.str "/claim/cut.py" 1001,.int 478 0,.int 1 0,.int 0 0,.int 0 0,.int 3 0,.ref 536,.bool true,.int 181 0,.ref 537,.none,.none,.none,.ref 538,.int 1002 0,.int 478 0,.str "/claim/cut.py" 1003].toArray,#[]⟩),
 (540,⟨(.type "function"),none,.func (fnOf (df 46).name "show_action" (df 46).args (df 46).body (df 46).scope .none .none .none (.str "grammarmill.actions" 541) none (.ref 539) .none),#[]⟩),
 (542,⟨(.type "tuple"),none,.seq [.str "==" 1011,.str "!=" 1012,.str "<" 1013,.str "<=" 1014,.str ">" 1015,.str ">=" 1016].toArray 0,#[]⟩)],
 fE mS2 548 (df 51) "is_number" 1020 484 1 1024 .none,
 fE mS2 555 (df 52) "is_true" 1027 486 1 1031 .none,
 fE mS2 562 (df 53) "bounded" 1034 488 1 1038 .none,
 fE mS2 569 (df 54) "added" 1041 495 2 1047 .none,
 fE mS2 597 (df 58) "two_worth" 1078 523 3 1084 .none,
 fE mS2 604 (df 59) "one_worth" 1087 541 2 1092 .none,
 fE mS2 618 (dm 60 0) "CodeMaker.__init__" 1107 549 1 1111 .none,
 [(620,⟨(.type "tuple"),none,.seq [.none].toArray 0,#[]⟩)],
 fE mS2 626 (dm 60 1) "CodeMaker.add" 1114 552 3 1120 (.ref 620),
 fE mS2 633 (dm 60 2) "CodeMaker.aim" 1123 556 2 1128 .none,
 fE mS2 640 (dm 60 3) "CodeMaker.expression" 1131 559 2 1138 .none,
 fE mS2 647 (dm 60 4) "CodeMaker.outermost" 1141 576 2 1146 .none,
 fE mS2 661 (dm 60 6) "CodeMaker.statement" 1160 596 2 1168 .none,
 fE mS2 668 (dm 60 7) "CodeMaker.choice" 1171 616 2 1178 .none,
 fE mS2 675 (dm 60 8) "CodeMaker.statements" 1181 628 2 1187 .none,
 [(678,⟨(.type "dict"),none,.dict [eV P "__module__" 1102 (.str "grammarmill.codes" 1005),eV P "__firstlineno__" 1106 (.int 547 1105),eR P "__init__" 1113 619,eR P "add" 1122 627,eR P "aim" 1130 634,eR P "expression" 1140 641,eR P "outermost" 1148 648,eR P "either" 1159 655,eR P "statement" 1170 662,eR P "choice" 1180 669,eR P "statements" 1189 676,eR P "__static_attributes__" 1191 677,eR P "__dict__" 1193 680,eR P "__weakref__" 1195 681,eV P "__doc__" 1196 .none].toArray 4,#[]⟩),
 (679,⟨(.type "type"),none,.cls {name:= "CodeMaker",bases:=[.type "object"],mro:=[.ref 679,.type "object"],ns:=678,qualname:= "CodeMaker",hasDict:=true,slotNames:=[],subclasses:=[],abstract:=false,collection:=none,hasDel:=false},#[none,none,some (.str "CodeMaker" 1095),some (.str "CodeMaker" 1103),some (.builtin "object.__new__"),some (.bool true)]⟩),
 (684,⟨(.type "tuple"),none,.seq [.bool false].toArray 0,#[]⟩)],
 fE mS2 690 (df 61) "compile_action" 1199 631 2 1205 (.ref 684),
 fE mS1 697 (df 64) "need" 1212 639 2 1217 .none,
 fE mS1 711 (df 66) "need_row" 1227 645 1 1231 .none,
 fE mS1 774 (df 75) "call_of_one" 1301 683 2 1306 .none,
 fE mS1 781 (df 76) "applied" 1309 691 2 1314 .none,
 fE mS1 809 (dm 79 0) "Frame.__init__" 1345 718 6 1354 .none,
 fE mS1 816 (dm 79 1) "Frame.count" 1357 728 1 1361 .none,
 fE mS1 823 (dm 79 2) "Frame.push" 1364 732 2 1369 .none,
 fE mS1 830 (dm 79 3) "Frame.pop" 1372 735 1 1376 .none,
 fE mS1 837 (dm 79 4) "Frame.pop_some" 1379 739 2 1385 .none,
 [(847,⟨(.type "dict"),none,.dict [eV P "__module__" 1340 (.str "grammarmill.machine" 1208),eV P "__firstlineno__" 1344 (.int 716 1343),eR P "__init__" 1356 810,eR P "count" 1363 817,eR P "push" 1371 824,eR P "pop" 1378 831,eR P "pop_some" 1387 838,eR P "tell" 1395 845,eR P "__static_attributes__" 1404 846,eR P "__dict__" 1406 849,eR P "__weakref__" 1408 850,eV P "__doc__" 1409 .none].toArray 4,#[]⟩),
 (848,⟨(.type "type"),none,.cls {name:= "Frame",bases:=[.type "object"],mro:=[.ref 848,.type "object"],ns:=847,qualname:= "Frame",hasDict:=true,slotNames:=[],subclasses:=[],abstract:=false,collection:=none,hasDel:=false},#[none,none,some (.str "Frame" 1333),some (.str "Frame" 1341),some (.builtin "object.__new__"),some (.bool true)]⟩),
 (860,⟨(.type "tuple"),none,.seq [.int 2000 1424].toArray 0,#[]⟩)],
 fE mS1 866 (dm 80 0) "Machine.__init__" 1425 751 2 1430 (.ref 860),
 fE mS1 873 (dm 80 1) "Machine.run" 1433 754 6 1446 .none,
 fE mS1 880 (dm 80 2) "Machine.jumped" 1449 763 5 1457 .none,
 fE mS1 887 (dm 80 3) "Machine.step" 1460 768 4 1468 .none,
 fE mS1 894 (dm 80 4) "Machine.store" 1471 791 4 1478 .none,
 fE mS1 901 (dm 80 5) "Machine.evaluate" 1481 803 6 1491 .none,
 fE mS1 908 (dm 80 6) "Machine.statements" 1494 808 3 1501 .none,
 fE mS1 915 (dm 80 7) "Machine.statement" 1504 814 3 1512 .none,
 [(920,⟨(.type "code"),none,.fields [.str "value" 1515,.str "Machine.value" 1516,.str "/claim/cut.py" 1517,.int 831 0,.int 3 0,.int 0 0,.int 0 0,.int 3 0,.ref 917,.bool true,.int 181 0,.ref 918,.none,.none,.none,.ref 919,.int 1518 0,.int 831 0,.str "/claim/cut.py" 1519].toArray,#[]⟩),
 (921,⟨(.type "function"),none,.func (fnOf (dm 80 8).name "Machine.value" (dm 80 8).args (dm 80 8).body (dm 80 8).scope .none .none .none (.str "grammarmill.machine" 1208) none (.ref 920) .none),#[]⟩),
 (923,⟨(.type "dict"),none,.dict [eV P "__module__" 1419 (.str "grammarmill.machine" 1208),eV P "__firstlineno__" 1423 (.int 749 1422),eR P "__init__" 1432 867,eR P "run" 1448 874,eR P "jumped" 1459 881,eR P "step" 1470 888,eR P "store" 1480 895,eR P "evaluate" 1493 902,eR P "statements" 1503 909,eR P "statement" 1514 916,eR P "value" 1520 921,eR P "__static_attributes__" 1522 922,eR P "__dict__" 1524 925,eR P "__weakref__" 1526 926,eV P "__doc__" 1527 .none].toArray 4,#[]⟩),
 (924,⟨(.type "type"),none,.cls {name:= "Machine",bases:=[.type "object"],mro:=[.ref 924,.type "object"],ns:=923,qualname:= "Machine",hasDict:=true,slotNames:=[],subclasses:=[],abstract:=false,collection:=none,hasDel:=false},#[none,none,some (.str "Machine" 1412),some (.str "Machine" 1420),some (.builtin "object.__new__"),some (.bool true)]⟩)],
 fE mS4 934 (df 82) "_law_draw" 1532 856 2 1538 .none,
 fE mS4 941 (df 83) "_law_wrapped" 1541 862 3 1549 .none,
 fE mS4 948 (df 84) "_law_blocked" 1552 873 2 1557 .none,
 fE mS4 955 (df 85) "_law_page" 1560 877 1 1573 .none,
 fE mS4 962 (df 86) "_law_ran" 1576 891 1 1580 .none,
 [(967,⟨(.type "code"),none,.fields [.str "law" 1583,.str "law" 1584,.str "/claim/cut.py" 1585,.int 896 0,.int 1 0,.int 0 0,.int 0 0,.int 3 0,.ref 964,.bool true,.int 181 0,.ref 965,.none,.none,.none,.ref 966,.int 1586 0,.int 896 0,.str "/claim/cut.py" 1587].toArray,#[]⟩),
 (968,⟨(.type "function"),none,.func (fnOf (df 87).name "law" (df 87).args (df 87).body (df 87).scope .none .none .none (.str "law_qd0076_01" 1530) none (.ref 967) .none),#[]⟩)]]
noncomputable def TT:Tab where
 glob:=[(("position_of" :Str),(.fn 57:AV)),
  (("refused" :Str),(.fn 291:AV)),
  (("scan_dollar" :Str),(.fn 298:AV)),
  (("scan_sign" :Str),(.fn 305:AV)),
  (("scan_action" :Str),(.fn 312:AV)),
  (("joined" :Str),(.fn 474:AV)),
  (("parse_action" :Str),(.fn 481:AV)),
  (("check_nodes" :Str),(.fn 488:AV)),
  (("parts_of" :Str),(.fn 495:AV)),
  (("check_action" :Str),(.fn 502:AV)),
  (("level_of" :Str),(.fn 509:AV)),
  (("show_within" :Str),(.fn 516:AV)),
  (("show_expression" :Str),(.fn 521:AV)),
  (("show_block" :Str),(.fn 528:AV)),
  (("show_statement" :Str),(.fn 535:AV)),
  (("show_action" :Str),(.fn 540:AV)),
  (("is_number" :Str),(.fn 549:AV)),
  (("is_true" :Str),(.fn 556:AV)),
  (("bounded" :Str),(.fn 563:AV)),
  (("added" :Str),(.fn 570:AV)),
  (("two_worth" :Str),(.fn 598:AV)),
  (("one_worth" :Str),(.fn 605:AV)),
  (("compile_action" :Str),(.fn 691:AV)),
  (("need" :Str),(.fn 698:AV)),
  (("need_row" :Str),(.fn 712:AV)),
  (("call_of_one" :Str),(.fn 775:AV)),
  (("applied" :Str),(.fn 782:AV)),
  (("_law_draw" :Str),(.fn 935:AV)),
  (("_law_wrapped" :Str),(.fn 942:AV)),
  (("_law_blocked" :Str),(.fn 949:AV)),
  (("_law_page" :Str),(.fn 956:AV)),
  (("_law_ran" :Str),(.fn 963:AV)),
  (("law" :Str),(.fn 968:AV)),
  (("Position" :Str),(.cls 46:AV)),
  (("ToolError" :Str),(.cls 82:AV)),
  (("ActionError" :Str),(.cls 95:AV)),
  (("MachineError" :Str),(.cls 107:AV)),
  (("Cursor" :Str),(.cls 234:AV)),
  (("Part" :Str),(.cls 280:AV)),
  (("ActionReader" :Str),(.cls 463:AV)),
  (("CodeMaker" :Str),(.cls 679:AV)),
  (("Frame" :Str),(.cls 848:AV)),
  (("Machine" :Str),(.cls 924:AV)),
  (("WORDS" :Str),(.dat (.tup [.str "yyerrok",.str "yyclearin",.str "YYERROR",.str "YYABORT",.str "YYACCEPT"]):AV)),
  (("RESERVED" :Str),(.dat (.tup [.str "if",.str "else",.str "while",.str "yyerrok",.str "yyclearin",.str "YYERROR",.str "YYABORT",.str "YYACCEPT"]):AV)),
  (("SIGNS_OF_TWO" :Str),(.dat (.tup [.str "||",.str "&&",.str "==",.str "!=",.str "<=",.str ">="]):AV)),
  (("COMPARISONS" :Str),(.dat (.tup [.str "==",.str "!=",.str "<",.str "<=",.str ">",.str ">="]):AV)),
  (("LEVELS" :Str),(.sdict 261:AV)),
  (("FUNCTIONS" :Str),(.sdict 263:AV)),
  (("MOST_BITS" :Str),(.int 512:AV)),
  (("MOST_SIZE" :Str),(.int 2000:AV)),
  (("MOST_DEEP" :Str),(.int 100:AV)),
  (("MOST_FIGURES_source" :Str),(.int 4000:AV)),
  (("FIGURES" :Str),(.str "0123456789" :AV)),
  (("NAME_SIGNS" :Str),(.str "abcdefghijklmnopqrstuvwxyzABCDEFGHIJKLMNOPQRSTUVWXYZ_0123456789" :AV)),
  (("BLANKS" :Str),(.str " \t\n\r" :AV)),
  (("SIGNS_OF_ONE" :Str),(.str "+-*/%!<>=;,(){}[]" :AV)),
  (("len" :Str),(.blt "len" :AV)),
  (("max" :Str),(.blt "max" :AV)),
  (("min" :Str),(.blt "min" :AV)),
  (("isinstance" :Str),(.blt "isinstance" :AV)),
  (("sum" :Str),(.blt "sum" :AV)),
  (("repr" :Str),(.blt "repr" :AV)),
  (("int" :Str),(.typ "int" :AV)),
  (("str" :Str),(.typ "str" :AV)),
  (("tuple" :Str),(.typ "tuple" :AV)),
  (("range" :Str),(.typ "range" :AV)),
  (("Exception" :Str),(.typ "Exception" :AV))]
 meth:=[(46,[]),
  (234,[("is_done",131),("peek",139),("starts",146),("take",153),("skip",160),("take_while",167),("skip_blanks",182),("name",189),("number",196)]),
  (280,[]),
  (463,[("enter",333),("leave",340),("here",347),("refuse",354),("is_sign",362),("skip",369),("need",376),("take",383),("whole",390),("is_closed",397),("statements",404),("block",411),("condition",418),("choice",425),("statement",432),("expression",439),("unary",446),("atom",453),("items",460)]),
  (679,[("add",627),("aim",634),("expression",641),("outermost",648),("statement",662),("choice",669),("statements",676)]),
  (848,[("count",817),("push",824),("pop",831),("pop_some",838)]),
  (924,[("run",874),("jumped",881),("step",888),("store",895),("evaluate",902),("statements",909),("statement",916),("value",921)])]
 flds:=[(46,["offset","line","column"]),(234,["text","at"]),(280,["kind","worth","offset"]),(463,["text","parts","spot","deep","below"]),(679,["code"]),(848,["values","names","control","own","stack","steps","most","is_left"]),(924,["most"])]
 dicts:=[261,263]
 keeps:=[46,57,82,95,107,234,280,291,298,305,312,463,474,481,488,495,502,509,516,521,528,535,540,549,556,563,570,598,605,679,691,698,712,775,782,848,924,935,942,949,956,963,968]
noncomputable def tagOf:Value->Tok
 | .str _ t=>t
 | .int _ t=>t
 |_=>0
noncomputable def adrOf:Value->Addr
 | .ref a=>a
 |_=>0
noncomputable def seqO:Data->Option (Array Value×Nat)
 | .seq vs n=>some (vs,n)
 |_=>none
theorem seqO_at {d:Data}{p:Array Value×Nat}(h:seqO d=some p):d=.seq p.1 p.2:=by cases d<;>first| (cases h;rfl)|cases h
noncomputable def strD:D->Option Str
 | .str s=>some s
 |_=>none
theorem strD_at {d:D}{s:Str}(h:strD d=some s):d=.str s:=by cases d<;>first|exact congrArg _ (Option.some.inj h)|cases h
noncomputable def litDs:List D->List Value->Bool
 | [],vs=>vs.isEmpty
 |d::r,vs=>(strD d).any (λs=>vs==.str s (tagOf (vs.headD .none))::vs.tail)&&litDs r vs.tail
noncomputable def repB (K:Frag)(av:AV)(v:Value):Bool:=match av with
 | .fn a=>v==.ref a
 | .cls a=>v==.ref a
 | .sdict a=>v==.ref a
 | .blt n=>v==.builtin n
 | .typ n=>v==.type n
 | .str s=>v==.str s (tagOf v)
 | .int i=>v==.int i (tagOf v)
 | .dat d=>(tupD d).any λl=>(K.lookup (adrOf v)).any λo=>(seqO o.data).any λp=>v==.ref (adrOf v)&&o.cls==.type "tuple" &&o.dict==none&&o.slots== #[]&&litDs l p.1.toList
 |_=>false
noncomputable def globB (K:Frag)(x:Str)(av:AV):Bool:= !(x==("__debug__" :Str))&& (nsIn K mainGlobals x).any λz=>z.elim ((bootBuiltins x).any (repB K av)&& !(x==("__name__" :Str))) (repB K av)
theorem litDs_rep {G:Gh}{l:List D}:∀ {vs:List Value},litDs l vs=true->RepDs G vs l:=by
 induction l with
 |nil=>exact λ{vs} h=>List.isEmpty_iff.mp h▸ .nil
 |cons d r ih=>
  intro vs h
  unfold litDs at h
  rw[Bool.and_eq_true]at h
  obtain⟨s,hs,h1⟩:=any_some h.1
  obtain⟨t,tl,rfl⟩:∃t tl,vs=.str s t::tl:=⟨_,_,eq_of_beq h1⟩
  rw[strD_at hs]
  exact .cons (.str _ _) (ih h.2)
theorem repB_ok {K:Frag}{av:AV}{v:Value}(h:repB K av v=true):GlobRep K av v:=λρ G k=>by
 cases av with
 |str s=>exact⟨_,eq_of_beq h⟩
 |int i=>exact⟨_,eq_of_beq h⟩
 |dat d=>
  obtain⟨l,h1,h⟩:=any_some h
  obtain⟨⟨c,dd,dt,sl⟩,h2,h⟩:=any_some h
  obtain⟨⟨⟨vs⟩,n⟩,h3,h⟩:=any_some h
  simp only[Bool.and_eq_true,beq_iff_eq]at h
  obtain⟨⟨⟨⟨e1,e2⟩,e3⟩,e4⟩,e5⟩:=h
  have h3:=seqO_at h3
  dsimp only at h3
  rw[e2,e3,e4,h3]at h2
  rw[e1,tupD_at h1]
  exact .tup (n:=n) (k _ _ h2) (litDs_rep e5)
 |none=>cases h
 |bool _=>cases h
 |ref _=>cases h
 |_=>exact eq_of_beq h
theorem globB_ok {K:Frag}{x:Str}{av:AV}(h:globB K x av=true):((x==("__debug__" :Str))=false)/\((∃v,nsIn K mainGlobals x=some (some v)/\GlobRep K av v)\/∃v,nsIn K mainGlobals x=some none/\bootBuiltins x=some v/\x≠ "__name__" /\GlobRep K av v):=by
 unfold globB at h
 rw[Bool.and_eq_true,Bool.not_eq_true']at h
 obtain⟨z,hz,h1⟩:=any_some h.2
 refine⟨h.1,?_⟩
 cases z with
 |some v=>exact .inl ⟨v,hz,repB_ok h1⟩
 |none=>
  have h1:((bootBuiltins x).any (repB K av)&& !(x==("__name__" :Str)))=true:=h1
  rw[Bool.and_eq_true,Bool.not_eq_true']at h1
  obtain⟨v,hv,h2⟩:=any_some h1.1
  exact .inr ⟨v,hz,hv,λe=>by rw[e]at h1;exact absurd h1.2 (by decide+kernel),repB_ok h2⟩
theorem lk_in {α:Type}{x:Str}{v:α}:∀ {l:List (Str×α)},lk l x=some v->(x,v)∈l
 | [],h=>by cases h
 | (y,u)::r,h=>by
  unfold lk at h
  cases q:decide (y=x)with
  |true=>rw[q]at h;cases h;rw[of_decide_eq_true q];exact .head _
  |false=>rw[q]at h;exact .tail _ (lk_in h)
theorem meth_all {K:Frag}{T:Tab}(h:T.meth.all (λp=>p.2.all λq=>methOK K p.1 q.1 q.2)=true):∀C x f,methA T C x=some f->methOK K C x f=true:=λC x f e=>by
 unfold methA at e
 split at e
 ·rename_i p hp
  have h1:=List.all_eq_true.mp h p (List.mem_of_find?_eq_some hp)
  have h2:=List.all_eq_true.mp h1 (x,f) (lk_in e)
  have h3:=List.find?_some hp
  rw[<-Nat.eq_of_beq_eq_true h3];exact h2
 ·cases e
theorem flds_all {K:Frag}{T:Tab}(h:T.flds.all (λp=>p.2.all λx=>plainAttr K p.1 x&&setsAttr K p.1 x)=true):∀C x,fldA T C x=true->plainAttr K C x=true/\setsAttr K C x=true:=λC x e=>by
 unfold fldA at e
 split at e
 ·rename_i p hp
  have h1:=List.all_eq_true.mp h p (List.mem_of_find?_eq_some hp)
  obtain⟨y,hy,e⟩:=List.any_eq_true.mp e
  have e:=of_decide_eq_true e
  subst e
  have h2:=List.all_eq_true.mp h1 y hy
  have h3:=List.find?_some hp
  rw[<-Nat.eq_of_beq_eq_true h3]
  rw[Bool.and_eq_true]at h2;exact h2
 ·cases e
theorem chk_glob (P:Params):TT.glob.all (λp=>globB (KK P) p.1 p.2)=true:=by kernel_rfl
theorem chk_meth (P:Params):TT.meth.all (λp=>p.2.all λq=>methOK (KK P) p.1 q.1 q.2)=true:=by kernel_rfl
theorem chk_flds (P:Params):TT.flds.all (λp=>p.2.all λx=>plainAttr (KK P) p.1 x&&setsAttr (KK P) p.1 x)=true:=by kernel_rfl
theorem chk_keeps (P:Params):TT.keeps.all (λf=>keepIn (KK P) (.ref f))=true:=by kernel_rfl
theorem lit261 (P:Params):KeysLit P (lvlD P):=by
 unfold lvlD
 repeat (first|exact trivial|refine⟨⟨_,_,rfl,rfl⟩,?_⟩)
theorem lit263 (P:Params):KeysLit P (funD P):=by
 unfold funD
 repeat (first|exact trivial|refine⟨⟨_,_,rfl,rfl⟩,?_⟩)
def litIn (P:Params)(K:Frag)(d:Addr):Prop:=match K.lookup d with
 |some ⟨_,_,.dict es _,_⟩=>KeysLit P es.toList
 |_=>True
theorem litIn_ok {P:Params}{K:Frag}{d:Addr}(h:litIn P K d):∀c dd es n sl,K.lookup d=some ⟨c,dd,.dict es n,sl⟩->KeysLit P es.toList:=λc dd es n sl e=>by
 unfold litIn at h;rw[e]at h;exact h
theorem chk_dict (P:Params):(isDictIn (KK P) 261&&isDictIn (KK P) 263)=true:=by kernel_rfl
theorem lit261' (P:Params):litIn P (KK P) 261=KeysLit P (lvlD P):=by kernel_rfl
theorem lit263' (P:Params):litIn P (KK P) 263=KeysLit P (funD P):=by kernel_rfl
theorem chk_sys (P:Params):((KK P).lookup sysModules).isSome=true:=by kernel_rfl
theorem know {w:World}{B:Heap}(h:(KK w.params).In B)(top:∃loose mg mb,TopRead pw loose mg mb B):Know pw w B (KK w.params) TT where
 k:=h
 sys:=by
  obtain⟨o,ho⟩:=Option.isSome_iff_exists.mp (chk_sys w.params)
  exact⟨o,h _ _ ho⟩
 top:=top
 dict:=λd hd=>by
  have hk:=chk_dict w.params
  rw[Bool.and_eq_true]at hk
  have:d=261\/d=263:=by
   obtain⟨a,ha,e⟩:=List.any_eq_true.mp hd
   have e:=Nat.eq_of_beq_eq_true e
   have ha:a∈([261,263]:List Nat):=ha
   rcases List.mem_cons.mp ha with rfl|ha
   ·exact .inl e
   ·rcases List.mem_cons.mp ha with rfl|ha
    ·exact .inr e
    ·cases ha
  rcases this with rfl|rfl
  ·exact⟨hk.1,litIn_ok (cast (lit261' w.params).symm (lit261 w.params))⟩
  ·exact⟨hk.2,litIn_ok (cast (lit263' w.params).symm (lit263 w.params))⟩
 glob:=λx av e=>globB_ok (List.all_eq_true.mp (chk_glob w.params) _ (lk_in e))
 keep:=λf hf=>by
  obtain⟨a,ha,e⟩:=List.any_eq_true.mp hf
  have e:=Nat.eq_of_beq_eq_true e
  subst e
  exact List.all_eq_true.mp (chk_keeps w.params) _ ha
 meth:=meth_all (chk_meth w.params)
 flds:=flds_all (chk_flds w.params)
structure Wd (w:World)(B:Heap):Prop where
 know:Know pw w B (KK w.params) TT
 lim:B.NoLimit
abbrev CO (w:World)(B:Heap)(n:Nat)(f:Addr)(args:List AV)(obj:List AO)(out:Out)(obj':List AO):Prop:=CallOK pw w B n (.ref f) args obj out obj'
noncomputable abbrev cxt (w:World)(B:Heap)(q:Str)(d:Def)(f:Addr)(cd:Value)(e:En)(L n:Nat):Cx:=⟨pw,w,B,KK w.params,TT,⟨q,d.scope,L,f,cd,[],none⟩,e,n⟩
def FnS (w:World)(B:Heap)(f:Addr)(q:Str)(d:Def)(cd:Value)(k:Nat)(names:List Str)(das:List AV):Prop:=
 ∀ (n:Nat) (args:List AV) (obj obj':List AO) (fl:Fl),args.length=k->
  (∀e L,e.ρ.length=obj.length->∃loc',TF' (cxt w B q d f cd e L n) (execs d.body (envOf q d.scope L f cd)) ⟨names.zip (args++das),obj⟩ fl ⟨loc',obj'⟩)->CO w B (n+1) f args obj (outOf fl) obj'
noncomputable def nodupB:List Str->Bool
 | []=>true
 |x::r=> !(r.any λy=>decide (y=x))&&nodupB r
theorem nodupB_ok:∀ {l:List Str},nodupB l=true->l.Nodup
 | [],_=>List.nodup_nil
 |x::r,h=>by
  unfold nodupB at h
  rw[Bool.and_eq_true,Bool.not_eq_true']at h
  refine List.nodup_cons.mpr ⟨λz=>?_,nodupB_ok h.2⟩
  have:=List.any_eq_false.mp h.1 x z
  simp at this
noncomputable def fnChk (K:Frag)(q:Str)(d:Def)(cd:Value)(names:List Str):Bool:=
 codeIn K cd q&&nodupB names&&names.all (λy=>d.scope.names.lookup y==some .local)&&d.scope.names.all (λx=>x.2 !=.cell)&& !d.scope.isCoroutine&& !d.scope.isGenerator&&d.scope.kind==.function
@[reducible] noncomputable def AllV:Nat->(List Value->Prop)->Prop
 |0,P=>P []
 |k+1,P=>∀v,AllV k λl=>P (v::l)
theorem AllV.of {k:Nat}:∀ {P:List Value->Prop},AllV k P->∀vs,vs.length=k->P vs:=by
 induction k with
 |zero=>exact λh vs e=>List.eq_nil_of_length_eq_zero e▸h
 |succ k ih=>
  intro P h vs e
  cases vs with
  |nil=>exact absurd e (Nat.succ_ne_zero k).symm
  |cons v vs=>exact ih (h v) vs (Nat.succ.inj e)
noncomputable def fdV (K:Frag)(f:Addr):Value×Value:=match K.lookup f with
 |some o=>match o.data with
  | .func fd=>(fd.defaults,fd.pyModule)
  |_=>(.none,.none)
 |none=>(.none,.none)
noncomputable def fdF (K:Frag)(f:Addr)(q:Str)(d:Def)(cd:Value):FuncData:=fnOf d.name q d.args d.body d.scope (fdV K f).1 .none .none (fdV K f).2 none cd .none
theorem hasKind {d:Def}(c:(d.scope.kind==.function)=true):d.scope.kind=.function:=by
 cases z:d.scope.kind<;>first|rfl| (rw[z]at c;exact absurd c (by decide))
theorem hasAt {l:List (Str×NameKind)}{y:Str}{k:NameKind}(c:(l.lookup y==some k)=true):l.lookup y=some k:=by
 cases q:l.lookup y with
 |none=>rw[q]at c;exact Bool.noConfusion c
 |some j=>rw[q]at c;cases j<;>cases k<;>first|rfl|exact absurd c (by decide)
theorem AllV.binds {K:Frag}{fd:FuncData}{k:Nat}{names:List Str}{dvs:List Value}(h:∀S,AllV k λvs=>peek K S (bindArgs fd ⟨vs,[]⟩)=some (names.zip (vs++dvs))):Binds K fd k names dvs:=
 λs vs hK e M A E Q hq=>Looks.of_peek (M:=M) hK ((h _).of vs e) A Q E s (λ_ _ e=>e) hq
theorem mkFd {w:World}{B:Heap}(W:Wd w B){f:Addr}{q:Str}{d:Def}{cd:Value}{k:Nat}{names:List Str}{das:List AV}{dvs:List Value}(hs:StatVs das dvs)
  (h:∀S,AllV k λvs=>((KK w.params).lookup f,fnChk (KK w.params) q d cd names,peek (KK w.params) S (bindArgs (fdF (KK w.params) f q d cd) ⟨vs,[]⟩))=(some ⟨.type "function",none,.func (fdF (KK w.params) f q d cd),#[]⟩,true,some (names.zip (vs++dvs)))):FnS w B f q d cd k names das:=λn args obj obj' fl hk hh=>by
 have h1:=(h ⟨pw,w.params⟩).of (List.replicate k .none) List.length_replicate
 have hc:=congrArg (λz=>z.2.1) h1
 unfold fnChk at hc
 simp only[Bool.and_eq_true,Bool.not_eq_true']at hc
 obtain⟨⟨⟨⟨⟨⟨c1,c2⟩,c3⟩,c4⟩,c5⟩,c6⟩,c7⟩:=hc
 exact call_def (T:=TT) (names:=names) (das:=das) (dvs:=dvs) W.know.k W.lim (congrArg (·.1) h1) c1 (λs vs hK e M A E Q hq=>Looks.of_peek (M:=M) hK (congrArg (λz=>z.2.2) ((h _).of vs e)) A Q E s (λ_ _ e=>e) hq) hs hk (nodupB_ok c2) (λy hy=>hasAt (List.all_eq_true.mp c3 y hy))
  (λx hx z=>by have:=List.all_eq_true.mp c4 x hx;rw[z]at this;exact absurd this (by decide)) hh c5 c6 (hasKind c7)
theorem mkF {w:World}{B:Heap}(W:Wd w B){f:Addr}{q:Str}{d:Def}{cd:Value}{k:Nat}{names:List Str}
  (h:∀S,AllV k λvs=>((KK w.params).lookup f,fnChk (KK w.params) q d cd names,peek (KK w.params) S (bindArgs (fdF (KK w.params) f q d cd) ⟨vs,[]⟩))=(some ⟨.type "function",none,.func (fdF (KK w.params) f q d cd),#[]⟩,true,some (names.zip (vs++[])))):FnS w B f q d cd k names []:=mkFd W (dvs:=[]) (λ_ _=>trivial) h
theorem okX {w:World}{B:Heap}(W:Wd w B){q:Str}{d:Def}{f:Addr}{cd:Value}{e:En}{L n:Nat}(hk:(d.scope.kind==.function)=true:=by kernel_rfl):Ok (cxt w B q d f cd e L n):=⟨W.know,hk⟩
noncomputable def outP (z:Option Rz):Option (Vl×List AO×List Orc×Prop):=match z with
 |some z=>some (z.v,z.c.obj,z.o,AllP z.p)
 |none=>none
theorem way {X:Cx}(O:Ok X){body:List Stmt}{c:St}{or:List Orc}{fl:Fl}{obj':List AO}{Q:Prop}(hq:Q)(he:outP (ev O 40 (.ss body) c or)=some (.f fl,obj',[],Q):=by kernel_rfl):∃loc',TF X (execs body X.f.env) c fl ⟨loc',obj'⟩:=by
 unfold outP at he
 split at he
 ·rename_i z hz
  obtain⟨v,c',o,p⟩:=z
  simp only[Option.some.injEq,Prod.mk.injEq]at he
  obtain⟨rfl,rfl,rfl,rfl⟩:=he
  exact⟨c'.loc,ev_ok O 40 _ _ _ _ hz hq⟩
 ·cases he
section
variable {w:World}{B:Heap}
theorem F_Position_init4 (W:Wd w B):FnS w B 36 "Position.__init__" (dm 10 0) (.ref 35) 4 ["self","offset","line","column"] []:=mkF W λ_ _ _ _ _=>by kernel_rfl
theorem F_position_of2 (W:Wd w B):FnS w B 57 "position_of" (df 11) (.ref 56) 2 ["text","offset"] []:=mkF W λ_ _ _=>by kernel_rfl
theorem F_ToolError_init2 (W:Wd w B):FnS w B 72 "ToolError.__init__" (dm 12 0) (.ref 71) 2 ["self","what","at"] [.none]:=mkFd W (dvs:=[.none]) (λ_ _=>⟨rfl,trivial⟩) λ_ _ _=>by kernel_rfl
theorem F_ToolError_init3 (W:Wd w B):FnS w B 72 "ToolError.__init__" (dm 12 0) (.ref 71) 3 ["self","what","at"] []:=mkF W λ_ _ _ _=>by kernel_rfl
theorem F_Cursor_init2 (W:Wd w B):FnS w B 124 "Cursor.__init__" (dm 15 0) (.ref 123) 2 ["self","text","at"] [.int 0]:=mkFd W (dvs:=[.int 0 370]) (λ_ _=>⟨⟨_,rfl⟩,trivial⟩) λ_ _ _=>by kernel_rfl
theorem F_Cursor_is_done1 (W:Wd w B):FnS w B 131 "Cursor.is_done" (dm 15 1) (.ref 130) 1 ["self"] []:=mkF W λ_ _=>by kernel_rfl
theorem F_Cursor_peek1 (W:Wd w B):FnS w B 139 "Cursor.peek" (dm 15 2) (.ref 138) 1 ["self","ahead"] [.int 0]:=mkFd W (dvs:=[.int 0 387]) (λ_ _=>⟨⟨_,rfl⟩,trivial⟩) λ_ _=>by kernel_rfl
theorem F_Cursor_starts2 (W:Wd w B):FnS w B 146 "Cursor.starts" (dm 15 3) (.ref 145) 2 ["self","word"] []:=mkF W λ_ _ _=>by kernel_rfl
theorem F_Cursor_take1 (W:Wd w B):FnS w B 153 "Cursor.take" (dm 15 4) (.ref 152) 1 ["self"] []:=mkF W λ_ _=>by kernel_rfl
theorem F_Cursor_skip2 (W:Wd w B):FnS w B 160 "Cursor.skip" (dm 15 5) (.ref 159) 2 ["self","word"] []:=mkF W λ_ _ _=>by kernel_rfl
theorem F_Cursor_take_while2 (W:Wd w B):FnS w B 167 "Cursor.take_while" (dm 15 6) (.ref 166) 2 ["self","signs"] []:=mkF W λ_ _ _=>by kernel_rfl
theorem F_Cursor_skip_blanks2 (W:Wd w B):FnS w B 182 "Cursor.skip_blanks" (dm 15 8) (.ref 181) 2 ["self","signs"] []:=mkF W λ_ _ _=>by kernel_rfl
theorem F_Cursor_name1 (W:Wd w B):FnS w B 189 "Cursor.name" (dm 15 9) (.ref 188) 1 ["self"] []:=mkF W λ_ _=>by kernel_rfl
theorem F_Cursor_number1 (W:Wd w B):FnS w B 196 "Cursor.number" (dm 15 10) (.ref 195) 1 ["self"] []:=mkF W λ_ _=>by kernel_rfl
theorem F_Part_init4 (W:Wd w B):FnS w B 277 "Part.__init__" (dm 30 0) (.ref 276) 4 ["self","kind","worth","offset"] []:=mkF W λ_ _ _ _ _=>by kernel_rfl
theorem F_refused3 (W:Wd w B):FnS w B 291 "refused" (df 31) (.ref 290) 3 ["what","text","offset"] []:=mkF W λ_ _ _ _=>by kernel_rfl
theorem F_scan_dollar3 (W:Wd w B):FnS w B 298 "scan_dollar" (df 32) (.ref 297) 3 ["text","cursor","start"] []:=mkF W λ_ _ _ _=>by kernel_rfl
theorem F_scan_sign3 (W:Wd w B):FnS w B 305 "scan_sign" (df 33) (.ref 304) 3 ["text","cursor","start"] []:=mkF W λ_ _ _ _=>by kernel_rfl
theorem F_scan_action1 (W:Wd w B):FnS w B 312 "scan_action" (df 34) (.ref 311) 1 ["text"] []:=mkF W λ_ _=>by kernel_rfl
theorem F_ActionReader_init2 (W:Wd w B):FnS w B 326 "ActionReader.__init__" (dm 35 0) (.ref 325) 2 ["self","text"] []:=mkF W λ_ _ _=>by kernel_rfl
theorem F_ActionReader_enter1 (W:Wd w B):FnS w B 333 "ActionReader.enter" (dm 35 1) (.ref 332) 1 ["self"] []:=mkF W λ_ _=>by kernel_rfl
theorem F_ActionReader_leave2 (W:Wd w B):FnS w B 340 "ActionReader.leave" (dm 35 2) (.ref 339) 2 ["self","below"] []:=mkF W λ_ _ _=>by kernel_rfl
theorem F_ActionReader_here1 (W:Wd w B):FnS w B 347 "ActionReader.here" (dm 35 3) (.ref 346) 1 ["self"] []:=mkF W λ_ _=>by kernel_rfl
theorem F_ActionReader_refuse2 (W:Wd w B):FnS w B 354 "ActionReader.refuse" (dm 35 4) (.ref 353) 2 ["self","what"] []:=mkF W λ_ _ _=>by kernel_rfl
theorem F_ActionReader_is_sign2 (W:Wd w B):FnS w B 362 "ActionReader.is_sign" (dm 35 5) (.ref 361) 2 ["self","sign","ahead"] [.int 0]:=mkFd W (dvs:=[.int 0 770]) (λ_ _=>⟨⟨_,rfl⟩,trivial⟩) λ_ _ _=>by kernel_rfl
theorem F_ActionReader_is_sign3 (W:Wd w B):FnS w B 362 "ActionReader.is_sign" (dm 35 5) (.ref 361) 3 ["self","sign","ahead"] []:=mkF W λ_ _ _ _=>by kernel_rfl
theorem F_ActionReader_skip2 (W:Wd w B):FnS w B 369 "ActionReader.skip" (dm 35 6) (.ref 368) 2 ["self","sign"] []:=mkF W λ_ _ _=>by kernel_rfl
theorem F_ActionReader_need2 (W:Wd w B):FnS w B 376 "ActionReader.need" (dm 35 7) (.ref 375) 2 ["self","sign"] []:=mkF W λ_ _ _=>by kernel_rfl
theorem F_ActionReader_take1 (W:Wd w B):FnS w B 383 "ActionReader.take" (dm 35 8) (.ref 382) 1 ["self"] []:=mkF W λ_ _=>by kernel_rfl
theorem F_ActionReader_whole1 (W:Wd w B):FnS w B 390 "ActionReader.whole" (dm 35 9) (.ref 389) 1 ["self"] []:=mkF W λ_ _=>by kernel_rfl
theorem F_ActionReader_is_closed1 (W:Wd w B):FnS w B 397 "ActionReader.is_closed" (dm 35 10) (.ref 396) 1 ["self"] []:=mkF W λ_ _=>by kernel_rfl
theorem F_ActionReader_statements1 (W:Wd w B):FnS w B 404 "ActionReader.statements" (dm 35 11) (.ref 403) 1 ["self"] []:=mkF W λ_ _=>by kernel_rfl
theorem F_ActionReader_block1 (W:Wd w B):FnS w B 411 "ActionReader.block" (dm 35 12) (.ref 410) 1 ["self"] []:=mkF W λ_ _=>by kernel_rfl
theorem F_ActionReader_condition1 (W:Wd w B):FnS w B 418 "ActionReader.condition" (dm 35 13) (.ref 417) 1 ["self"] []:=mkF W λ_ _=>by kernel_rfl
theorem F_ActionReader_choice1 (W:Wd w B):FnS w B 425 "ActionReader.choice" (dm 35 14) (.ref 424) 1 ["self"] []:=mkF W λ_ _=>by kernel_rfl
theorem F_ActionReader_statement1 (W:Wd w B):FnS w B 432 "ActionReader.statement" (dm 35 15) (.ref 431) 1 ["self"] []:=mkF W λ_ _=>by kernel_rfl
theorem F_ActionReader_expression2 (W:Wd w B):FnS w B 439 "ActionReader.expression" (dm 35 16) (.ref 438) 2 ["self","least"] []:=mkF W λ_ _ _=>by kernel_rfl
theorem F_ActionReader_unary1 (W:Wd w B):FnS w B 446 "ActionReader.unary" (dm 35 17) (.ref 445) 1 ["self"] []:=mkF W λ_ _=>by kernel_rfl
theorem F_ActionReader_atom1 (W:Wd w B):FnS w B 453 "ActionReader.atom" (dm 35 18) (.ref 452) 1 ["self"] []:=mkF W λ_ _=>by kernel_rfl
theorem F_ActionReader_items2 (W:Wd w B):FnS w B 460 "ActionReader.items" (dm 35 19) (.ref 459) 2 ["self","end"] []:=mkF W λ_ _ _=>by kernel_rfl
theorem F_joined3 (W:Wd w B):FnS w B 474 "joined" (df 36) (.ref 473) 3 ["sign","left","right"] []:=mkF W λ_ _ _ _=>by kernel_rfl
theorem F_parse_action1 (W:Wd w B):FnS w B 481 "parse_action" (df 37) (.ref 480) 1 ["text"] []:=mkF W λ_ _=>by kernel_rfl
theorem F_check_nodes2 (W:Wd w B):FnS w B 488 "check_nodes" (df 38) (.ref 487) 2 ["node","count"] []:=mkF W λ_ _ _=>by kernel_rfl
theorem F_parts_of1 (W:Wd w B):FnS w B 495 "parts_of" (df 39) (.ref 494) 1 ["node"] []:=mkF W λ_ _=>by kernel_rfl
theorem F_check_action2 (W:Wd w B):FnS w B 502 "check_action" (df 40) (.ref 501) 2 ["nodes","count"] []:=mkF W λ_ _ _=>by kernel_rfl
theorem F_level_of1 (W:Wd w B):FnS w B 509 "level_of" (df 41) (.ref 508) 1 ["node"] []:=mkF W λ_ _=>by kernel_rfl
theorem F_show_within2 (W:Wd w B):FnS w B 516 "show_within" (df 42) (.ref 515) 2 ["node","least"] []:=mkF W λ_ _ _=>by kernel_rfl
theorem F_show_expression1 (W:Wd w B):FnS w B 521 "show_expression" (df 43) (.ref 520) 1 ["node"] []:=mkF W λ_ _=>by kernel_rfl
theorem F_show_block1 (W:Wd w B):FnS w B 528 "show_block" (df 44) (.ref 527) 1 ["nodes"] []:=mkF W λ_ _=>by kernel_rfl
theorem F_show_statement1 (W:Wd w B):FnS w B 535 "show_statement" (df 45) (.ref 534) 1 ["node"] []:=mkF W λ_ _=>by kernel_rfl
theorem F_show_action1 (W:Wd w B):FnS w B 540 "show_action" (df 46) (.ref 539) 1 ["nodes"] []:=mkF W λ_ _=>by kernel_rfl
theorem F_is_number1 (W:Wd w B):FnS w B 549 "is_number" (df 51) (.ref 548) 1 ["value"] []:=mkF W λ_ _=>by kernel_rfl
theorem F_is_true1 (W:Wd w B):FnS w B 556 "is_true" (df 52) (.ref 555) 1 ["value"] []:=mkF W λ_ _=>by kernel_rfl
theorem F_bounded1 (W:Wd w B):FnS w B 563 "bounded" (df 53) (.ref 562) 1 ["value"] []:=mkF W λ_ _=>by kernel_rfl
theorem F_added2 (W:Wd w B):FnS w B 570 "added" (df 54) (.ref 569) 2 ["left","right"] []:=mkF W λ_ _ _=>by kernel_rfl
theorem F_two_worth3 (W:Wd w B):FnS w B 598 "two_worth" (df 58) (.ref 597) 3 ["sign","left","right"] []:=mkF W λ_ _ _ _=>by kernel_rfl
theorem F_one_worth2 (W:Wd w B):FnS w B 605 "one_worth" (df 59) (.ref 604) 2 ["sign","value"] []:=mkF W λ_ _ _=>by kernel_rfl
theorem F_CodeMaker_init1 (W:Wd w B):FnS w B 619 "CodeMaker.__init__" (dm 60 0) (.ref 618) 1 ["self"] []:=mkF W λ_ _=>by kernel_rfl
theorem F_CodeMaker_add2 (W:Wd w B):FnS w B 627 "CodeMaker.add" (dm 60 1) (.ref 626) 2 ["self","op","worth"] [.none]:=mkFd W (dvs:=[.none]) (λ_ _=>⟨rfl,trivial⟩) λ_ _ _=>by kernel_rfl
theorem F_CodeMaker_add3 (W:Wd w B):FnS w B 627 "CodeMaker.add" (dm 60 1) (.ref 626) 3 ["self","op","worth"] []:=mkF W λ_ _ _ _=>by kernel_rfl
theorem F_CodeMaker_aim2 (W:Wd w B):FnS w B 634 "CodeMaker.aim" (dm 60 2) (.ref 633) 2 ["self","at"] []:=mkF W λ_ _ _=>by kernel_rfl
theorem F_CodeMaker_expression2 (W:Wd w B):FnS w B 641 "CodeMaker.expression" (dm 60 3) (.ref 640) 2 ["self","node"] []:=mkF W λ_ _ _=>by kernel_rfl
theorem F_CodeMaker_outermost2 (W:Wd w B):FnS w B 648 "CodeMaker.outermost" (dm 60 4) (.ref 647) 2 ["self","node"] []:=mkF W λ_ _ _=>by kernel_rfl
theorem F_CodeMaker_statement2 (W:Wd w B):FnS w B 662 "CodeMaker.statement" (dm 60 6) (.ref 661) 2 ["self","node"] []:=mkF W λ_ _ _=>by kernel_rfl
theorem F_CodeMaker_choice2 (W:Wd w B):FnS w B 669 "CodeMaker.choice" (dm 60 7) (.ref 668) 2 ["self","node"] []:=mkF W λ_ _ _=>by kernel_rfl
theorem F_CodeMaker_statements2 (W:Wd w B):FnS w B 676 "CodeMaker.statements" (dm 60 8) (.ref 675) 2 ["self","nodes"] []:=mkF W λ_ _ _=>by kernel_rfl
theorem F_compile_action1 (W:Wd w B):FnS w B 691 "compile_action" (df 61) (.ref 690) 1 ["nodes","is_within"] [.bool false]:=mkFd W (dvs:=[.bool false]) (λ_ _=>⟨rfl,trivial⟩) λ_ _=>by kernel_rfl
theorem F_need2 (W:Wd w B):FnS w B 698 "need" (df 64) (.ref 697) 2 ["is_right","what"] []:=mkF W λ_ _ _=>by kernel_rfl
theorem F_need_row1 (W:Wd w B):FnS w B 712 "need_row" (df 66) (.ref 711) 1 ["value"] []:=mkF W λ_ _=>by kernel_rfl
theorem F_call_of_one2 (W:Wd w B):FnS w B 775 "call_of_one" (df 75) (.ref 774) 2 ["word","value"] []:=mkF W λ_ _ _=>by kernel_rfl
theorem F_applied2 (W:Wd w B):FnS w B 782 "applied" (df 76) (.ref 781) 2 ["word","values"] []:=mkF W λ_ _ _=>by kernel_rfl
theorem F_Frame_init6 (W:Wd w B):FnS w B 810 "Frame.__init__" (dm 79 0) (.ref 809) 6 ["self","values","names","control","own","most"] []:=mkF W λ_ _ _ _ _ _ _=>by kernel_rfl
theorem F_Frame_count1 (W:Wd w B):FnS w B 817 "Frame.count" (dm 79 1) (.ref 816) 1 ["self"] []:=mkF W λ_ _=>by kernel_rfl
theorem F_Frame_push2 (W:Wd w B):FnS w B 824 "Frame.push" (dm 79 2) (.ref 823) 2 ["self","value"] []:=mkF W λ_ _ _=>by kernel_rfl
theorem F_Frame_pop1 (W:Wd w B):FnS w B 831 "Frame.pop" (dm 79 3) (.ref 830) 1 ["self"] []:=mkF W λ_ _=>by kernel_rfl
theorem F_Frame_pop_some2 (W:Wd w B):FnS w B 838 "Frame.pop_some" (dm 79 4) (.ref 837) 2 ["self","count"] []:=mkF W λ_ _ _=>by kernel_rfl
theorem F_Machine_init1 (W:Wd w B):FnS w B 867 "Machine.__init__" (dm 80 0) (.ref 866) 1 ["self","most"] [.int 2000]:=mkFd W (dvs:=[.int 2000 1424]) (λ_ _=>⟨⟨_,rfl⟩,trivial⟩) λ_ _=>by kernel_rfl
theorem F_Machine_run6 (W:Wd w B):FnS w B 874 "Machine.run" (dm 80 1) (.ref 873) 6 ["self","code","values","names","control","own"] []:=mkF W λ_ _ _ _ _ _ _=>by kernel_rfl
theorem F_Machine_jumped5 (W:Wd w B):FnS w B 881 "Machine.jumped" (dm 80 2) (.ref 880) 5 ["self","frame","op","worth","at"] []:=mkF W λ_ _ _ _ _ _=>by kernel_rfl
theorem F_Machine_step4 (W:Wd w B):FnS w B 888 "Machine.step" (dm 80 3) (.ref 887) 4 ["self","frame","op","worth"] []:=mkF W λ_ _ _ _ _=>by kernel_rfl
theorem F_Machine_store4 (W:Wd w B):FnS w B 895 "Machine.store" (dm 80 4) (.ref 894) 4 ["self","frame","op","worth"] []:=mkF W λ_ _ _ _ _=>by kernel_rfl
theorem F_Machine_evaluate6 (W:Wd w B):FnS w B 902 "Machine.evaluate" (dm 80 5) (.ref 901) 6 ["self","nodes","values","names","control","own"] []:=mkF W λ_ _ _ _ _ _ _=>by kernel_rfl
theorem F_Machine_statements3 (W:Wd w B):FnS w B 909 "Machine.statements" (dm 80 6) (.ref 908) 3 ["self","frame","nodes"] []:=mkF W λ_ _ _ _=>by kernel_rfl
theorem F_Machine_statement3 (W:Wd w B):FnS w B 916 "Machine.statement" (dm 80 7) (.ref 915) 3 ["self","frame","node"] []:=mkF W λ_ _ _ _=>by kernel_rfl
theorem F_law_draw2 (W:Wd w B):FnS w B 935 "_law_draw" (df 82) (.ref 934) 2 ["pen","many"] []:=mkF W λ_ _ _=>by kernel_rfl
theorem F_law_wrapped3 (W:Wd w B):FnS w B 942 "_law_wrapped" (df 83) (.ref 941) 3 ["text","tight","way"] []:=mkF W λ_ _ _ _=>by kernel_rfl
theorem F_law_blocked2 (W:Wd w B):FnS w B 949 "_law_blocked" (df 84) (.ref 948) 2 ["text","way"] []:=mkF W λ_ _ _=>by kernel_rfl
theorem F_law_page1 (W:Wd w B):FnS w B 956 "_law_page" (df 85) (.ref 955) 1 ["pen"] []:=mkF W λ_ _=>by kernel_rfl
theorem F_law_ran1 (W:Wd w B):FnS w B 963 "_law_ran" (df 86) (.ref 962) 1 ["work"] []:=mkF W λ_ _=>by kernel_rfl
end
theorem aI {a b:Prop}(x:a)(y:b):a/\b:=⟨x,y⟩
def CN (w:World)(B:Heap)(k:Nat)(f:Addr)(args:List AV)(obj:List AO)(out:Out)(obj':List AO):Prop:=∀n,k<=n->CO w B n f args obj out obj'
theorem CN.of {w:World}{B:Heap}{k:Nat}{f:Addr}{q:Str}{d:Def}{cd:Value}{names:List Str}{das:List AV}{m:Nat}{args:List AV}{obj obj':List AO}{fl:Fl}(F:FnS w B f q d cd m names das)(hl:args.length=m)
  (h:∀n,k<=n->∀e L,∃loc',TF (cxt w B q d f cd e L n) (execs d.body (envOf q d.scope L f cd)) ⟨names.zip (args++das),obj⟩ fl ⟨loc',obj'⟩):CN w B (k+1) f args obj (outOf fl) obj':=λn hn=>by
 cases n with
 |zero=>lia
 |succ n=>exact F n args obj obj' fl hl λe L _=>let⟨loc',t⟩:=h n (by lia) e L;⟨loc',t.weak⟩
theorem CN.of' {w:World}{B:Heap}{k:Nat}{f:Addr}{q:Str}{d:Def}{cd:Value}{names:List Str}{das:List AV}{m:Nat}{args:List AV}{obj obj':List AO}{fl:Fl}(F:FnS w B f q d cd m names das)(hl:args.length=m)
  (h:∀n,k<=n->∀e L,e.ρ.length=obj.length->∃loc',TF' (cxt w B q d f cd e L n) (execs d.body (envOf q d.scope L f cd)) ⟨names.zip (args++das),obj⟩ fl ⟨loc',obj'⟩):CN w B (k+1) f args obj (outOf fl) obj':=λn hn=>by
 cases n with
 |zero=>lia
 |succ n=>exact F n args obj obj' fl hl (h n (by lia))
theorem CN.arg {w:World}{B:Heap}{k:Nat}{f:Addr}{args args':List AV}{obj obj':List AO}{out:Out}(h:CN w B k f args' obj out obj')(hr:∀ρ G vs,RepVs ρ G args vs->RepVs ρ G args' vs):CN w B k f args obj out obj':=λn hn A ρ G s vs fr rm fo H r=>h n hn A ρ G s vs fr rm fo H (hr _ _ _ r)
theorem CN.ret {w:World}{B:Heap}{k:Nat}{f:Addr}{args:List AV}{obj obj':List AO}{a a':AV}(h:CN w B k f args obj (.ret a) obj')(hr:∀ρ G v,RepV ρ G a v->RepV ρ G a' v):CN w B k f args obj (.ret a') obj':=λn hn=>(h n hn).to λ_ _ ρ' G' _ _ _ p H R _ r=>⟨ρ',G',p,Sub.refl _,H,R,hr _ _ _ r⟩
theorem CN.at {w:World}{B:Heap}{k n:Nat}{f:Addr}{args:List AV}{obj obj':List AO}{out:Out}(h:CN w B k f args obj out obj')(hn:k<=n):CO w B n f args obj out obj':=h n hn
theorem CN.up {w:World}{B:Heap}{k m:Nat}{f:Addr}{args:List AV}{obj obj':List AO}{out:Out}(h:CN w B k f args obj out obj')(hn:k<=m):CN w B m f args obj out obj':=λn hm=>h n (Nat.le_trans hn hm)
inductive Tk where
 |own
 |num (k:Nat)
 |name (s:Str)
 |sign (s:Str)
 |fin
noncomputable abbrev Tk.ctorIdx (x:Tk):Nat:= @Tk.casesOn (λ_=>Nat) x 0 (λ_=>1) (λ_=>2) (λ_=>3) 4
noncomputable def Tk.kind:Tk->Str
 | .own=> "own"
 | .num _=> "number"
 | .name _=> "name"
 | .sign _=> "sign"
 | .fin=> "end"
noncomputable def Tk.worth:Tk->D
 | .own=>.none
 | .num k=>.int k
 | .name s=>.str s
 | .sign s=>.str s
 | .fin=>.none
noncomputable abbrev Tk.D (k:Tk)(o:Nat):D:=.inst 280 ["kind","worth","offset"] [.str k.kind,k.worth,.int o]
noncomputable abbrev Toks:=List (Tk×Nat)
noncomputable def partsL (ts:Toks):List D:=ts.map λp=>p.1.D p.2
theorem parts_at {ts:Toks}{i:Nat}{tk:Tk}{o:Nat}(h:ts[i]? =some (tk,o)):(partsOfD (partsL ts))[i]? =some (.dat (tk.D o)):=by
 unfold partsOfD partsL
 rw[List.getElem?_map,List.getElem?_map,h]
 rfl
theorem parts_len (ts:Toks):(partsOfD (partsL ts)).length=ts.length:=by
 unfold partsOfD partsL
 rw[List.length_map,List.length_map]
noncomputable abbrev posD (o:Int):D:=.inst 46 ["offset","line","column"] [.int o,.int 1,.int (o-0+1)]
section
variable {w:World}{B:Heap}
theorem c_new (W:Wd w B){k:Nat}{C fI:Addr}{args:List AV}{obj':List AO}{d:D}(hm:makesIn (KK w.params) C=true)(hi:findIn (KK w.params) (.ref C) "__init__" =some (some (.ref fI)))(hf:typeIn (KK w.params) (.ref fI)=some (.type "function"))
  (h:CN w B k fI (.ref 1::args) [.ns [] [],.inst C 0] (.ret .none) obj') (hd:frzD obj' 1=some d):CN w B (k+2) C args [] (.ret (.dat d)) []:=λn hn=>by
 obtain⟨m,rfl⟩:∃m,n=m+2:=⟨n-2,by lia⟩
 have h1:=make_ok (obj:=[]) W.know.k hm hi hf (h m (by lia))
 have h2:CO w B (m+2) C args [] (.ret (.dat d)) (frzObj obj' 1 d):=CallOK.frz (i:=1) h1 hd
 exact CallOK.trim (obj':=[]) (extra:=frzObj obj' 1 d) h2 rfl rfl rfl
theorem frz_inst {C:Addr}{ks:List Str}{xs:List AV}{l:List D}(h:dsOf xs=some l):frzD [.ns ks xs,.inst C 0] 1=some (.inst C ks l):=by
 show(dsOf xs).map (D.inst C ks)=_
 rw[h];rfl
theorem c_Position (W:Wd w B)(a b c:Int):CN w B 3 46 [.int a,.int b,.int c] [] (.ret (.dat (.inst 46 ["offset","line","column"] [.int a,.int b,.int c]))) []:=
 c_new W (k:=1) (fI:=36) (obj':=[.ns ["offset","line","column"] [.int a,.int b,.int c],.inst 46 0]) (by kernel_rfl) (by kernel_rfl) (by kernel_rfl)
  (CN.of (F_Position_init4 W) rfl (fl:=.next) λn hn e L=>way (okX W) (or:=[]) trivial) (by kernel_rfl)
theorem c_Part (W:Wd w B)(k o:AV)(p:Int){dk dO:D}(hk:dOf k=some dk)(ho:dOf o=some dO):CN w B 3 280 [k,o,.int p] [] (.ret (.dat (.inst 280 ["kind","worth","offset"] [dk,dO,.int p]))) []:=
 c_new W (k:=1) (fI:=277) (obj':=[.ns ["kind","worth","offset"] [k,o,.int p],.inst 280 0]) (by kernel_rfl) (by kernel_rfl) (by kernel_rfl)
  (CN.of (F_Part_init4 W) rfl (fl:=.next) λn hn e L=>way (okX W) (or:=[]) trivial)
  (frz_inst (dsOf_cons hk (dsOf_cons ho rfl)))
end
noncomputable def outS (z:Option Rz):Option (Vl×St×List Orc×Prop):=match z with
 |some z=>some (z.v,z.c,z.o,AllP z.p)
 |none=>none
theorem good {X:Cx}(O:Ok X){t:Task}{c c':St}{or:List Orc}{v:Vl}{Q:Prop}(hq:Q)(he:outS (ev O 40 t c or)=some (v,c',[],Q):=by kernel_rfl):Good X t c v c':=by
 unfold outS at he
 split at he
 ·rename_i z hz
  obtain⟨v',c'',o,p⟩:=z
  simp only[Option.some.injEq,Prod.mk.injEq]at he
  obtain⟨rfl,rfl,rfl,rfl⟩:=he
  exact ev_ok O 40 _ _ _ _ hz hq
 ·cases he
theorem stp {X:Cx}(O:Ok X){body:List Stmt}{c c':St}{or:List Orc}{fl:Fl}{Q:Prop}(hq:Q)(he:outS (ev O 40 (.ss body) c or)=some (.f fl,c',[],Q):=by kernel_rfl):TF X (execs body X.f.env) c fl c':=good O hq he
theorem tst {X:Cx}(O:Ok X){x:Expr}{c c':St}{or:List Orc}{r:Rb}{Q:Prop}(hq:Q)(he:outS (ev O 40 (.t x) c or)=some (.b r,c',[],Q):=by kernel_rfl):TB X (isTrue x X.f.env (eval x X.f.env)) c r c':=good O hq he
theorem tst0 {X:Cx}(O:Ok X){x:Expr}{c:St}{r:Rb}(he:outS (ev O 40 (.t x) c [])=some (.b r,c,[],True)):TB X (isTrue x X.f.env (eval x X.f.env)) c r c:=good O trivial he
theorem xpr {X:Cx}(O:Ok X){x:Expr}{c c':St}{or:List Orc}{r:Rv}{Q:Prop}(hq:Q)(he:outS (ev O 40 (.e x) c or)=some (.v r,c',[],Q):=by kernel_rfl):TV X (eval x X.f.env) c r c':=good O hq he
theorem xps {X:Cx}(O:Ok X){pos:Pos}{l:List Expr}{c c':St}{or:List Orc}{r:Rs}{Q:Prop}(hq:Q)(he:outS (ev O 40 (.es pos l) c or)=some (.vs r,c',[],Q):=by kernel_rfl):TVs X (spliced (backTo pos (starEach l X.f.env))) c r c':=good O hq he
noncomputable def outX (z:Option Rz):Option (Vl×List Orc×Prop):=match z with
 |some z=>some (z.v,z.o,AllP z.p)
 |none=>none
theorem TF.any {X:Cx}{t:Sem Flow}{c c' c'':St}{C:Addr}{ks:List Str}{l:List D}(h:TF X t c (.ex C ks l) c'):TF X t c (.ex C ks l) c'':=λA ρ G s rm fo i=>
 wpAny_mono (h A ρ G s rm fo i) (λf _ z=>by cases f<;>exact z.elim) λ_ _ z=>z
theorem stpX {X:Cx}(O:Ok X){body:List Stmt}{c c':St}{or:List Orc}{C:Addr}{ks:List Str}{l:List D}{Q:Prop}(hq:Q)(he:outX (ev O 40 (.ss body) c or)=some (.f (.ex C ks l),[],Q):=by kernel_rfl):TF X (execs body X.f.env) c (.ex C ks l) c':=by
 unfold outX at he
 split at he
 ·rename_i z hz
  obtain⟨v',c'',o,p⟩:=z
  simp only[Option.some.injEq,Prod.mk.injEq]at he
  obtain⟨rfl,rfl,rfl⟩:=he
  exact TF.any (ev_ok O 40 _ _ _ _ hz hq)
 ·cases he
theorem wayX {X:Cx}(O:Ok X){body:List Stmt}{c:St}{or:List Orc}{C:Addr}{ks:List Str}{l:List D}{obj':List AO}{Q:Prop}(hq:Q)(he:outX (ev O 40 (.ss body) c or)=some (.f (.ex C ks l),[],Q):=by kernel_rfl):∃loc',TF X (execs body X.f.env) c (.ex C ks l) ⟨loc',obj'⟩:=⟨[],stpX O hq he⟩
noncomputable def stm (l:List Stmt)(i:Nat):Stmt:=(l[i]?).getD (.Pass default)
noncomputable def forX:Stmt->Str
 | .For (.Name x _) _ _ _ _=>x
 |_=>default
noncomputable def forP:Stmt->Pos
 | .For (.Name _ p) _ _ _ _=>p
 |_=>default
noncomputable def forI:Stmt->Expr
 | .For _ i _ _ _=>i
 |_=>default
noncomputable def forB:Stmt->List Stmt
 | .For _ _ b _ _=>b
 |_=>[]
noncomputable def forQ:Stmt->Pos
 | .For _ _ _ _ q=>q
 |_=>default
abbrev isFor (s:Stmt):Prop:=s=.For (.Name (forX s) (forP s)) (forI s) (forB s) [] (forQ s)
noncomputable def whT:Stmt->Expr
 | .While t _ _ _=>t
 |_=>default
noncomputable def whB:Stmt->List Stmt
 | .While _ b _ _=>b
 |_=>[]
noncomputable def whQ:Stmt->Pos
 | .While _ _ _ q=>q
 |_=>default
abbrev isWhile (s:Stmt):Prop:=s=.While (whT s) (whB s) [] (whQ s)
noncomputable def callF:Expr->Expr
 | .Call f _ _ _=>f
 |_=>default
noncomputable def callA:Expr->List Expr
 | .Call _ a _ _=>a
 |_=>[]
noncomputable def callP:Expr->Pos
 | .Call _ _ _ p=>p
 |_=>default
abbrev isCall (s:Expr):Prop:=s=.Call (callF s) (callA s) [] (callP s)
section
variable {X:Cx}{c c₁ c₂ c₃:St}
theorem tf_forS {s:Stmt}{xs:List AV}{fl:Fl}(hs:isFor s)(hi:ItOK X (forI s) c xs c₁)(h:TFo X (forX s) (forP s) (forB s) xs 0 c₁ fl c₂)(hf:∀v,foldedSetIterable (forI s) X.f.env v=pure v):TF X (exec s X.f.env) c fl c₂:=by
 have:=tf_for (pos:=forQ s) hi h hf
 rw[<-hs]at this
 exact this
theorem tf_whileS {s:Stmt}{fl:Fl}(hs:isWhile s)(h:TW X (whT s) (whB s) c fl c₁):TF X (exec s X.f.env) c fl c₁:=by
 have:=tf_while (pos:=whQ s) h
 rw[<-hs]at this
 exact this
end
section
variable {w:World}{B:Heap}
noncomputable abbrev Loc:=List (Str×AV)
noncomputable abbrev lv (x:Str)(a:AV):Str×AV:=(x,a)
noncomputable abbrev poX (w:World)(B:Heap)(e:En)(L n:Nat):Cx:=cxt w B "position_of" (df 11) 57 (.ref 56) e L n
noncomputable abbrev poF:Stmt:=stm (df 11).body 3
noncomputable abbrev poB (t:Str)(o:Nat)(A:Int):Loc:=[("text",.str t),("offset",.int o),("at",.int A),("line",.int 1),("begun",.int 0)]
theorem rangeAV_at {n i:Nat}(h:i<n):(rangeAV n)[i]? =some (.int i):=by
 unfold rangeAV
 rw[List.getElem?_map,List.getElem?_range h];rfl
theorem po_loop (W:Wd w B)(e:En)(L n:Nat)(t:Str)(o m:Nat)(A:Int)(hm:m<=t.length)(ht:t.length<1000000)(hn:∀i<m,decide (Txt.item t (i:Int)= "\n")=false):
  ∀ (k i:Nat) (hp:Loc),i+k=m->(hp=[]\/∃v:Int,hp=[lv "here" (.int v)])->∃hp',TFo (poX w B e L n) (forX poF) (forP poF) (forB poF) (rangeAV m) i ⟨poB t o A++hp,[]⟩ .next ⟨poB t o A++hp',[]⟩
 |0,i,hp,hk,hh=>⟨hp,tfo_nil (by unfold rangeAV;simp;lia) (by rcases hh with rfl| ⟨v,rfl⟩<;>(intro p hp';simp at hp';rcases hp' with rfl|rfl|rfl|rfl|rfl|rfl<;>rfl)) (by intro p hp;simp at hp)⟩
 |k+1,i,hp,hk,hh=>by
  obtain⟨hp',h⟩:=po_loop W e L n t o m A hm ht hn k (i+1) [lv "here" (.int i)] (by lia) (.inr ⟨_,rfl⟩)
  refine⟨hp',tfo_cons (c₁:=⟨poB t o A++[lv "here" (.int i)],[]⟩) rfl (by kernel_rfl) (rangeAV_at (by lia)) rfl (λo'=>?_) h⟩
  have:put (poB t o A++hp) (forX poF) (.int i)=poB t o A++[lv "here" (.int i)]:=by
   rcases hh with rfl| ⟨v,rfl⟩<;>kernel_rfl
  rw[this]
  exact stp (X:=poX w B e L n) (okX W) (or:=[.br false]) (aI (show-(t.length:Int)<=(i:Int)/\(i:Int)<t.length/\(t.length:Int)<9223372036854775808 by lia) (aI (hn i (by lia)) trivial)) (by kernel_rfl)
noncomputable def poA (t:Str)(o:Nat):Int:=if(t.length:Int)< (if(0:Int)>o then(0:Int)else o)then(t.length:Int)else(if(0:Int)>o then(0:Int)else o)
theorem c_position_of (W:Wd w B)(t:Str)(o:Nat)(ho:o<=t.length)(ht:t.length<1000000)(hn:∀i<o,decide (Txt.item t (i:Int)= "\n")=false):
  CN w B 4 57 [.str t,.int o] [] (.ret (.dat (posD o))) []:=by
 have eA:poA t o=o:=by
  unfold poA
  rw[if_neg (show¬ (0:Int)>o by lia),if_neg (by lia)]
 suffices h:CN w B 4 57 [.str t,.int o] [] (.ret (.dat (posD (poA t o)))) [] by rwa [eA]at h
 refine CN.of (F_position_of2 W) rfl (fl:=.ret _) λn hn' e L=>?_
 have hX:Ok (poX w B e L n):=okX W
 obtain⟨hp',h⟩:=po_loop W e L n t o o (poA t o) ho ht hn o 0 [] (by lia) (.inl rfl)
 have hi:ItOK (poX w B e L n) (forI poF) ⟨poB t o (poA t o)++[],[]⟩ (rangeAV o) ⟨poB t o (poA t o)++[],[]⟩:=by
  have:=it_range (X:=poX w B e L n) (c:=⟨poB t o (poA t o)++[],[]⟩) (func:=callF (forI poF)) (args:=callA (forI poF)) (pos:=callP (forI poF)) (n:=poA t o) (by lia) (by lia)
   (xpr hX (or:=[]) (c':=⟨poB t o (poA t o)++[],[]⟩) trivial) (by kernel_rfl) (xps hX (or:=[]) (c':=⟨poB t o (poA t o)++[],[]⟩) trivial (by kernel_rfl)) (by kernel_rfl)
  rw[show(poA t o).toNat=o by lia]at this
  rw[show isCall (forI poF) by kernel_rfl]
  exact this
 have hF:TF (poX w B e L n) (exec poF (poX w B e L n).f.env) ⟨poB t o (poA t o)++[],[]⟩ .next ⟨poB t o (poA t o)++hp',[]⟩:=tf_forS (by kernel_rfl) hi h (λv=>by kernel_rfl)
 exact way hX (or:=[.suite .next ⟨poB t o (poA t o)++hp',[]⟩,.call [] (.ret (.dat (posD (poA t o)))) []])
  (aI (show(t.length:Int)<2^63 by lia) (aI hF (aI ((c_Position W (poA t o) 1 (poA t o-0+1)).at (by omega)) trivial)))
end
section
variable {w:World}{B:Heap}
theorem c_exc (W:Wd w B){k:Nat}{C:Addr}{args:List AV}{what:Str}{a:AV}{d:D}(hd:dOf a=some d)(hm:excMakes (KK w.params) C=true)(hi:findIn (KK w.params) (.ref C) "__init__" =some (some (.ref 72)))(hf:typeIn (KK w.params) (.ref 72)=some (.type "function"))(hz:args.length<=100)
  (h:CN w B k 72 (.ref 0::args) [.exc0 C] (.ret .none) [.excl C 1,.ns ["what","at"] [.str what,a]]):CN w B (k+2) C args [] (.ret (.ref 0)) [.exc C ["what","at"] [.str what,d]]:=λn hn=>by
 obtain⟨m,rfl⟩:∃m,n=m+2:=⟨n-2,by lia⟩
 have h1:=make_exc (obj:=[]) W.know.k hm hi hf hz (h m (by lia))
 have h2:CO w B (m+2) C args [] (.ret (.ref 0)) [.exc C ["what","at"] [.str what,d],.dead]:=CallOK.frzX (i:=0) h1 (congrArg (Option.map _) (dsOf_cons rfl (dsOf_cons hd rfl)))
 exact CallOK.trim (obj':=[.exc C ["what","at"] [.str what,d]]) (extra:=[.dead]) h2 rfl rfl rfl
theorem c_AE (W:Wd w B)(what:Str)(d:D):CN w B 3 95 [.str what,.dat d] [] (.ret (.ref 0)) [.exc 95 ["what","at"] [.str what,d]]:=
 c_exc W (k:=1) (a:=.dat d) (d:=d) rfl (by kernel_rfl) (by kernel_rfl) (by kernel_rfl) (by simp)
  (CN.of (F_ToolError_init3 W) rfl (fl:=.next) λn hn e L=>way (okX W) (or:=[]) trivial)
theorem c_ME (W:Wd w B)(what:Str):CN w B 3 107 [.str what] [] (.ret (.ref 0)) [.exc 107 ["what","at"] [.str what,.none]]:=
 c_exc W (k:=1) (a:=.none) (d:=.none) rfl (by kernel_rfl) (by kernel_rfl) (by kernel_rfl) (by simp)
  (CN.of (F_ToolError_init2 W) rfl (fl:=.next) λn hn e L=>way (okX W) (or:=[]) trivial)
structure OneLine (t:Str):Prop where
 len:t.length<1000000
 nl:∀i<t.length,decide (Txt.item t (i:Int)= "\n")=false
theorem c_refused (W:Wd w B)(what:Str)(t:Str)(ht:OneLine t)(o:Nat)(ho:o<=t.length):CN w B 5 291 [.str what,.str t,.int o] [] (.ret (.ref 0)) [.exc 95 ["what","at"] [.str what,posD o]]:=
 CN.of (F_refused3 W) rfl (fl:=.ret _) λn hn e L=>way (okX W) (or:=[.call [] (.ret (.dat (posD o))) [],.call [] (.ret (.ref 0)) [.exc 95 ["what","at"] [.str what,posD o]]])
  (aI ((c_position_of W t o ho ht.len λi hi=>ht.nl i (by lia)) n (by lia)) (aI ((c_AE W what (posD o)) n (by lia)) trivial))
noncomputable abbrev rdr (t:Str)(ts:Toks)(s:Nat)(d b:Int):List AO:=[.inst 463 1,.ns ["text","parts","spot","deep","below"] [.str t,.dat (.lst (partsL ts)),.int s,.int d,.int b]]
theorem it_ok {ts:Toks}{i:Nat}{tk:Tk}{o:Nat}(h:ts[i]? =some (tk,o))(hs:i<1000000):0<=(i:Int)/\(i:Int)<2^63/\(partsOfD (partsL ts))[(i:Int).toNat]? =some (.dat (tk.D o)):=
 ⟨Int.natCast_nonneg _,by lia,by rw[Int.toNat_natCast];exact parts_at h⟩
structure Rok (t:Str)(ts:Toks):Prop where
 one:OneLine t
 len:ts.length<=1000000
 off:∀ (i:Nat) (tk:Tk) (o:Nat),ts[i]? =some (tk,o)->o<=t.length
section
variable {t:Str}{ts:Toks}{s:Nat}(d b:Int)
theorem Rok.lt (R:Rok t ts){i:Nat}{tk:Tk}{o:Nat}(h:ts[i]? =some (tk,o)):i<1000000:=by
 have:=(List.getElem?_eq_some_iff.mp h).1
 have:=R.len
 lia
theorem c_here (W:Wd w B)(R:Rok t ts){tk:Tk}{o:Nat}(h:ts[s]? =some (tk,o)):CN w B 1 347 [.ref 0] (rdr t ts s d b) (.ret (.dat (tk.D o))) (rdr t ts s d b):=
 CN.of (F_ActionReader_here1 W) rfl (fl:=.ret _) λn hn e L=>way (okX W) (or:=[.item (.dat (tk.D o))]) (aI (it_ok h (R.lt h)) trivial)
noncomputable abbrev tooMany:Str:= "too many levels"
noncomputable abbrev deepX (o:Nat):Out:=.ex 95 ["what","at"] [.str tooMany,posD o]
theorem c_refuse (W:Wd w B)(R:Rok t ts){tk:Tk}{o:Nat}(h:ts[s]? =some (tk,o)):CN w B 6 354 [.ref 0,.str tooMany] (rdr t ts s d b) (deepX o) (rdr t ts s d b):=
 CN.of (F_ActionReader_refuse2 W) rfl (fl:=.ex _ _ _) λn hn e L=>wayX (okX W) (or:=[.call [0,1] (.ret (.dat (tk.D o))) (rdr t ts s d b),.call [] (.ret (.ref 0)) [.exc 95 ["what","at"] [.str tooMany,posD o]]])
  (aI (c_here d b W R h n (by lia)) (aI (c_refused W tooMany t R.one o (R.off _ _ _ h) n (by lia)) trivial))
end
end
noncomputable def isSg:Tk->Str->Bool
 | .sign x,g=>decide (x=g)
 |_,_=>false
section
variable {w:World}{B:Heap}{t:Str}{ts:Toks}{s:Nat}(d b:Int)
theorem c_enter (W:Wd w B)(R:Rok t ts)(h:d≠100):CN w B 1 333 [.ref 0] (rdr t ts s d b) (.ret .none) (rdr t ts s (d+1) b):=
 CN.of (F_ActionReader_enter1 W) rfl (fl:=.next) λn hn e L=>way (okX W) (or:=[.br false]) (aI (decide_eq_false h) trivial)
theorem c_enter_x (W:Wd w B)(R:Rok t ts){tk:Tk}{o:Nat}(h:ts[s]? =some (tk,o)):CN w B 7 333 [.ref 0] (rdr t ts s 100 b) (deepX o) (rdr t ts s 100 b):=
 CN.of (F_ActionReader_enter1 W) rfl (fl:=.ex _ _ _) λn hn e L=>wayX (okX W) (or:=[.go,.call [0,1] (deepX o) (rdr t ts s 100 b)]) (aI (c_refuse 100 b W R h n (by lia)) trivial)
theorem c_leave (W:Wd w B)(x:Int):CN w B 1 340 [.ref 0,.int x] (rdr t ts s d b) (.ret .none) (rdr t ts s (d-1) (x+1)):=
 CN.of (F_ActionReader_leave2 W) rfl (fl:=.next) λn hn e L=>way (okX W) (or:=[]) trivial
theorem Rok.plen (R:Rok t ts):((partsOfD (partsL ts)).length:Int)<2^63:=by rw[parts_len];have:=R.len;lia
theorem plt {i:Nat}{tk:Tk}{o:Nat}(h:ts[i]? =some (tk,o)):decide ((i:Int)< ((partsOfD (partsL ts)).length:Int))=true:=by
 rw[parts_len]
 have:=(List.getElem?_eq_some_iff.mp h).1
 exact decide_eq_true (by lia)
theorem c_is_sign (W:Wd w B)(R:Rok t ts){tk:Tk}{o:Nat}(h:ts[s]? =some (tk,o))(g:Str):CN w B 1 362 [.ref 0,.str g] (rdr t ts s d b) (.ret (.bool (isSg tk g))) (rdr t ts s d b):=
 CN.of (F_ActionReader_is_sign2 W) rfl (fl:=.ret _) λn hn e L=>by
  have hi:=it_ok h (R.lt h)
  cases tk with
  |sign x=>exact way (okX W) (or:=[.br true,.item (.dat ((Tk.sign x).D o)),.go,.item (.dat ((Tk.sign x).D o))]) (aI R.plen (aI (plt h) (aI hi (aI hi trivial))))
  |own=>exact way (okX W) (or:=[.br true,.item (.dat (Tk.own.D o)),.go]) (aI R.plen (aI (plt h) (aI hi trivial)))
  |num k=>exact way (okX W) (or:=[.br true,.item (.dat ((Tk.num k).D o)),.go]) (aI R.plen (aI (plt h) (aI hi trivial)))
  |name k=>exact way (okX W) (or:=[.br true,.item (.dat ((Tk.name k).D o)),.go]) (aI R.plen (aI (plt h) (aI hi trivial)))
  |fin=>exact way (okX W) (or:=[.br true,.item (.dat (Tk.fin.D o)),.go]) (aI R.plen (aI (plt h) (aI hi trivial)))
theorem c_is_sign1 (W:Wd w B)(R:Rok t ts){x:Str}{o:Nat}(h:ts[s+1]? =some (.sign x,o))(g:Str):CN w B 1 362 [.ref 0,.str g,.int 1] (rdr t ts s d b) (.ret (.bool (decide (x=g)))) (rdr t ts s d b):=
 CN.of (F_ActionReader_is_sign3 W) rfl (fl:=.ret _) λn hn e L=>
  way (okX W) (or:=[.br true,.item (.dat ((Tk.sign x).D o)),.go,.item (.dat ((Tk.sign x).D o))]) (aI R.plen (aI (plt h) (aI (it_ok h (R.lt h)) (aI (it_ok h (R.lt h)) trivial))))
theorem c_skip (W:Wd w B)(R:Rok t ts){tk:Tk}{o:Nat}(h:ts[s]? =some (tk,o))(g:Str)(hg:isSg tk g=true):CN w B 2 369 [.ref 0,.str g] (rdr t ts s d b) (.ret (.bool true)) (rdr t ts (s+1) d b):=
 CN.of (F_ActionReader_skip2 W) rfl (fl:=.ret _) λn hn e L=>
  way (okX W) (or:=[.call [0,1] (.ret (.bool (isSg tk g))) (rdr t ts s d b),.br true]) (aI (c_is_sign d b W R h g n (by lia)) (aI hg trivial))
theorem c_skip_no (W:Wd w B)(R:Rok t ts){tk:Tk}{o:Nat}(h:ts[s]? =some (tk,o))(g:Str)(hg:isSg tk g=false):CN w B 2 369 [.ref 0,.str g] (rdr t ts s d b) (.ret (.bool false)) (rdr t ts s d b):=
 CN.of (F_ActionReader_skip2 W) rfl (fl:=.ret _) λn hn e L=>
  way (okX W) (or:=[.call [0,1] (.ret (.bool (isSg tk g))) (rdr t ts s d b),.br false]) (aI (c_is_sign d b W R h g n (by lia)) (aI hg trivial))
theorem c_need (W:Wd w B)(R:Rok t ts){tk:Tk}{o:Nat}(h:ts[s]? =some (tk,o))(g:Str)(hg:isSg tk g=true):CN w B 3 376 [.ref 0,.str g] (rdr t ts s d b) (.ret .none) (rdr t ts (s+1) d b):=
 CN.of (F_ActionReader_need2 W) rfl (fl:=.next) λn hn e L=>
  way (okX W) (or:=[.call [0,1] (.ret (.bool true)) (rdr t ts (s+1) d b)]) (aI (c_skip d b W R h g hg n (by lia)) trivial)
theorem c_take (W:Wd w B)(R:Rok t ts){tk:Tk}{o:Nat}(h:ts[s]? =some (tk,o)):CN w B 2 383 [.ref 0] (rdr t ts s d b) (.ret (.dat (tk.D o))) (rdr t ts (s+1) d b):=
 CN.of (F_ActionReader_take1 W) rfl (fl:=.ret _) λn hn e L=>
  way (okX W) (or:=[.call [0,1] (.ret (.dat (tk.D o))) (rdr t ts s d b)]) (aI (c_here d b W R h n (by lia)) trivial)
noncomputable def isEnd:Tk->Bool
 | .fin=>true
 | .sign x=>decide (x= "}")
 |_=>false
theorem c_is_closed (W:Wd w B)(R:Rok t ts){tk:Tk}{o:Nat}(h:ts[s]? =some (tk,o)):CN w B 2 397 [.ref 0] (rdr t ts s d b) (.ret (.bool (isEnd tk))) (rdr t ts s d b):=
 CN.of (F_ActionReader_is_closed1 W) rfl (fl:=.ret _) λn hn e L=>by
  have hh:=c_here d b W R h n (by lia)
  have hs:=c_is_sign d b W R h "}" n (by lia)
  cases tk with
  |fin=>exact way (okX W) (or:=[.call [0,1] (.ret (.dat (Tk.fin.D o))) (rdr t ts s d b),.go]) (aI hh trivial)
  |sign x=>exact way (okX W) (or:=[.call [0,1] (.ret (.dat ((Tk.sign x).D o))) (rdr t ts s d b),.go,.call [0,1] (.ret (.bool (isSg (.sign x) "}"))) (rdr t ts s d b)]) (aI hh (aI hs trivial))
  |own=>exact way (okX W) (or:=[.call [0,1] (.ret (.dat (Tk.own.D o))) (rdr t ts s d b),.go,.call [0,1] (.ret (.bool (isSg .own "}"))) (rdr t ts s d b)]) (aI hh (aI hs trivial))
  |num x=>exact way (okX W) (or:=[.call [0,1] (.ret (.dat ((Tk.num x).D o))) (rdr t ts s d b),.go,.call [0,1] (.ret (.bool (isSg (.num x) "}"))) (rdr t ts s d b)]) (aI hh (aI hs trivial))
  |name x=>exact way (okX W) (or:=[.call [0,1] (.ret (.dat ((Tk.name x).D o))) (rdr t ts s d b),.go,.call [0,1] (.ret (.bool (isSg (.name x) "}"))) (rdr t ts s d b)]) (aI hh (aI hs trivial))
theorem c_joined (W:Wd w B)(l r:List D):CN w B 1 474 [.str "+",.dat (.tup l),.dat (.tup r)] [] (.ret (.dat (.tup [.str "two",.str "+",.tup l,.tup r]))) []:=
 CN.of (F_joined3 W) rfl (fl:=.ret _) λn hn e L=>way (okX W) (or:=[]) trivial
end
def Less (a b:Loc):Prop:=∀x av,lk a x=some av->lk b x=some av
theorem In.forget {B:Heap}{f:Fm}{e:En}{loc loc':Loc}{obj:List AO}{ρ:List Addr}{G:Gh}{s:Shared}(h:Less loc' loc)(x:In B f e ⟨loc,obj⟩ ρ G s):In B f e ⟨loc',obj⟩ ρ G s:=by
 obtain⟨H,R,F⟩:=x
 refine⟨H,R,⟨?_,F.own,F.gown,F.fresh,λx c q=>let⟨o,u,i⟩:=F.cells x c q;⟨o,u,i.kd,i.nρ,i.nG,i.nH,i.nL,i.here,i.dat,λav w=>i.val av (h x av w),i.apart⟩⟩⟩
 obtain⟨m,n1,n2⟩:=F.ns
 exact⟨m,n1,λx av q hc=>n2 x av (h x av q) hc⟩
section
variable {X:Cx}{loc loc':Loc}{obj:List AO}{c':St}{fl:Fl}
theorem TW.forget {test:Expr}{body:List Stmt}(hcl:X.f.cl=[])(h:Less loc' loc)(t:TW X test body ⟨loc',obj⟩ fl c'):TW X test body ⟨loc,obj⟩ fl c':=λA ρ G s rm fo i=>t A ρ G s rm fo (i.forget h)
end
theorem Less.app {a r:Loc}:Less a (a++r):=by
 intro x av h
 induction a with
 |nil=>cases h
 |cons p a ih=>
  obtain⟨y,u⟩:=p
  unfold lk at h
  show lk ((y,u)::(a++r)) x=_
  unfold lk
  cases q:decide (y=x)with
  |true=>rw[q]at h;exact h
  |false=>rw[q]at h;exact ih h
set_option genSizeOf true in
inductive Xt where
 |num (k:Nat)
 |par (x:Xt)
 |lst (x:Xt)
 |len (x:Xt)
 |neg (x:Xt)
 |add (l r:Xt)
noncomputable abbrev Xt.ctorIdx (x:Xt):Nat:= @Xt.casesOn (λ_=>Nat) x (λ_=>0) (λ_=>1) (λ_=>2) (λ_=>3) (λ_=>4) (λ_ _=>5)
noncomputable def Xt.isSum:Xt->Bool
 | .add _ _=>true
 |_=>false
noncomputable def Xt.ok:Xt->Bool
 | .num _=>true
 | .par x=>x.ok
 | .lst x=>x.ok
 | .len x=>x.ok
 | .neg x=> !x.isSum&&x.ok
 | .add l r=>l.ok&& (r.ok&& !r.isSum)
noncomputable def Xt.tk:Xt->List Tk
 | .num k=>[.num k]
 | .par x=>.sign "(" ::(x.tk++[.sign ")"])
 | .lst x=>.sign "[" ::(x.tk++[.sign "]"])
 | .len x=>.name "len" :: .sign "(" ::(x.tk++[.sign ")"])
 | .neg x=>.sign "-" ::x.tk
 | .add l r=>l.tk++ .sign "+" ::r.tk
noncomputable def Xt.nodeL:Xt->List D
 | .num k=>[.str "number",.int k]
 | .par x=>x.nodeL
 | .lst x=>[.str "list",.lst [.tup x.nodeL]]
 | .len x=>[.str "apply",.str "len",.lst [.tup x.nodeL]]
 | .neg x=>[.str "one",.str "-",.tup x.nodeL]
 | .add l r=>[.str "two",.str "+",.tup l.nodeL,.tup r.nodeL]
noncomputable def Xt.inn:Xt->Int
 | .num _=>0
 | .par x=>x.inn+1
 | .lst x=>if x.inn+1>0 then x.inn+1 else 0
 | .len x=>if x.inn+1>0 then x.inn+1 else 0
 | .neg x=>x.inn+1
 | .add l r=>if r.inn+1>l.inn+1 then r.inn+1 else l.inn+1
noncomputable def Xt.hd:Xt->Xt
 | .add l _=>l.hd
 |x=>x
theorem Xt.inn0:∀x:Xt,0<=x.inn
 | .num _=>by unfold inn;lia
 | .par x=>by have:=x.inn0;unfold inn;lia
 | .lst x=>by have:=x.inn0;unfold inn;split<;>lia
 | .len x=>by have:=x.inn0;unfold inn;split<;>lia
 | .neg x=>by have:=x.inn0;unfold inn;lia
 | .add l r=>by have:=l.inn0;have:=r.inn0;unfold inn;split<;>lia
theorem Xt.inn_lst (x:Xt):(Xt.lst x).inn=x.inn+1:=by have:=x.inn0;show(if x.inn+1>0 then x.inn+1 else 0)=_;rw[if_pos (by lia)]
theorem Xt.inn_len (x:Xt):(Xt.len x).inn=x.inn+1:=x.inn_lst
theorem Xt.inn_add (l r:Xt):l.inn+1<=(Xt.add l r).inn/\r.inn+1<=(Xt.add l r).inn/\((Xt.add l r).inn=l.inn+1\/(Xt.add l r).inn=r.inn+1):=by
 show _<=(if _>_ then _ else _)/\_<=(if _>_ then _ else _)/\((if _>_ then _ else _)=_\/(if _>_ then _ else _)=_)
 split<;>lia
theorem Xt.inn_hd:∀x:Xt,x.hd.inn<=x.inn
 | .num _=>Int.le_refl _
 | .par _=>Int.le_refl _
 | .lst _=>Int.le_refl _
 | .len _=>Int.le_refl _
 | .neg _=>Int.le_refl _
 | .add l r=>by have:=l.inn_hd;have:=l.inn_add r;show l.hd.inn<=_;lia
theorem Xt.hd_of {x:Xt}(h:x.isSum=false):x.hd=x:=by cases x<;>first|rfl|cases h
noncomputable def Seg (ts:Toks):Nat->List Tk->Prop
 |_,[]=>True
 |s,k::r=>(∃o,ts[s]? =some (k,o))/\Seg ts (s+1) r
theorem Seg.app {ts:Toks}:∀ {a b:List Tk} {s:Nat},Seg ts s (a++b)↔Seg ts s a/\Seg ts (s+a.length) b
 | [],b,s=>by simp[Seg]
 |k::a,b,s=>by
  show _/\Seg ts (s+1) (a++b)↔(_/\_)/\_
  rw[Seg.app,List.length_cons,show s+1+a.length=s+(a.length+1) by lia,and_assoc]
noncomputable def closer:Tk->Bool
 | .fin=>true
 | .sign x=>decide (x= ")")||decide (x= "]")||decide (x= "}")||decide (x= ";")
 |_=>false
section
variable {w:World}{B:Heap}{t:Str}{ts:Toks}{s:Nat}(d b:Int)
noncomputable abbrev nd (x:Xt):AV:=.dat (.tup x.nodeL)
abbrev ExOK (w:World)(B:Heap)(t:Str)(ts:Toks)(k:Nat)(s:Nat)(d b:Int)(l:Int)(x:Xt):Prop:=CN w B k 439 [.ref 0,.int l] (rdr t ts s d b) (.ret (nd x)) (rdr t ts (s+x.tk.length) d (x.inn+1))
abbrev UnOK (w:World)(B:Heap)(t:Str)(ts:Toks)(k:Nat)(s:Nat)(d b:Int)(x:Xt):Prop:=CN w B k 446 [.ref 0] (rdr t ts s d b) (.ret (nd x)) (rdr t ts (s+x.tk.length) d x.inn)
abbrev AtOK (w:World)(B:Heap)(t:Str)(ts:Toks)(k:Nat)(s:Nat)(d b:Int)(x:Xt):Prop:=CN w B k 453 [.ref 0] (rdr t ts s d b) (.ret (nd x)) (rdr t ts (s+x.tk.length) d x.inn)
theorem at_num (W:Wd w B)(R:Rok t ts){k:Nat}(h:Seg ts s (Xt.num k).tk):AtOK w B t ts 4 s d b (.num k):=by
 obtain⟨⟨o,h⟩,_⟩:=h
 exact CN.of (F_ActionReader_atom1 W) rfl (fl:=.ret _) λn hn e L=>
  way (okX W) (or:=[.call [0,1] (.ret (.dat ((Tk.num k).D o))) (rdr t ts s d b),.call [0,1] (.ret (.dat ((Tk.num k).D o))) (rdr t ts (s+1) d 0)])
   (aI (c_here d b W R h n (by lia)) (aI (c_take d 0 W R h n (by lia)) trivial))
theorem at_par (W:Wd w B)(R:Rok t ts){x:Xt}{k:Nat}(h:Seg ts s (Xt.par x).tk)(hx:ExOK w B t ts k (s+1) d 0 1 x)(hk:8<=k):AtOK w B t ts (k+1) s d b (.par x):=by
 obtain⟨⟨o,h⟩,h2⟩:=h
 obtain⟨h2,⟨o',h3⟩,_⟩:=Seg.app.mp h2
 have e:s+(Xt.par x).tk.length=s+1+x.tk.length+1:=by simp[Xt.tk];lia
 unfold AtOK
 rw[e]
 exact CN.of (F_ActionReader_atom1 W) rfl (fl:=.ret _) λn hn e L=>
  way (okX W) (or:=[.call [0,1] (.ret (.dat ((Tk.sign "(").D o))) (rdr t ts s d b),.call [0,1] (.ret (.bool false)) (rdr t ts s d 0),.call [0,1] (.ret (.bool true)) (rdr t ts (s+1) d 0),
    .call [0,1] (.ret (nd x)) (rdr t ts (s+1+x.tk.length) d (x.inn+1)),.call [0,1] (.ret .none) (rdr t ts (s+1+x.tk.length+1) d (x.inn+1))])
   (aI (c_here d b W R h n (by lia)) (aI (c_skip_no d 0 W R h "[" (by kernel_rfl) n (by lia)) (aI (c_skip d 0 W R h "(" (by kernel_rfl) n (by lia)) (aI (hx n (by lia)) (aI (c_need d (x.inn+1) W R h3 ")" (by kernel_rfl) n (by lia)) trivial)))))
theorem at_par_x (W:Wd w B)(R:Rok t ts){x:Xt}{k o':Nat}(h:Seg ts s (Xt.par x).tk)(hx:CN w B k 439 [.ref 0,.int 1] (rdr t ts (s+1) d 0) (deepX o') (rdr t ts (s+1) d 0))(hk:8<=k):CN w B (k+1) 453 [.ref 0] (rdr t ts s d b) (deepX o') (rdr t ts s d b):=by
 obtain⟨⟨o,h⟩,h2⟩:=h
 exact CN.of (F_ActionReader_atom1 W) rfl (fl:=.ex _ _ _) λn hn e L=>
  wayX (okX W) (or:=[.call [0,1] (.ret (.dat ((Tk.sign "(").D o))) (rdr t ts s d b),.call [0,1] (.ret (.bool false)) (rdr t ts s d 0),.call [0,1] (.ret (.bool true)) (rdr t ts (s+1) d 0),.call [0,1] (deepX o') (rdr t ts (s+1) d 0)])
   (aI (c_here d b W R h n (by lia)) (aI (c_skip_no d 0 W R h "[" (by kernel_rfl) n (by lia)) (aI (c_skip d 0 W R h "(" (by kernel_rfl) n (by lia)) (aI (hx n (by lia)) trivial))))
noncomputable abbrev itX (w:World)(B:Heap)(e:En)(L n:Nat):Cx:=cxt w B "ActionReader.items" (dm 35 19) 460 (.ref 459) e L n
noncomputable abbrev itW:Stmt:=stm (dm 35 19).body 2
noncomputable abbrev mx (a b:Int):Int:=if b>a then b else a
theorem c_items (W:Wd w B)(R:Rok t ts){x:Xt}{k:Nat}{q:Str}{o:Nat}{tk:Tk}(hf:ts[s]? =some (tk,o))(hq:isSg tk q=false)(hx:ExOK w B t ts k s d b 1 x)(h3:∃o',ts[s+x.tk.length]? =some (.sign q,o'))(hk:8<=k):
  CN w B (k+1) 460 [.ref 0,.str q] (rdr t ts s d b) (.ret (.dat (.lst [.tup x.nodeL]))) (rdr t ts (s+x.tk.length+1) d (mx 0 (x.inn+1))):=by
 obtain⟨o',h3⟩:=h3
 suffices h:CN w B (k+1) 460 [.ref 0,.str q] (rdr t ts s d b) (.ret (.ref 2)) (rdr t ts (s+x.tk.length+1) d (mx 0 (x.inn+1))++[.list [nd x],.tup [.ref 2,.int 0]]) by
  intro n hn
  have h2:CO w B n 460 [.ref 0,.str q] (rdr t ts s d b) (.ret (.dat (.lst [.tup x.nodeL]))) (rdr t ts (s+x.tk.length+1) d (mx 0 (x.inn+1))++[.dead,.tup [.dat (.lst [.tup x.nodeL]),.int 0]]):=CallOK.frz (i:=2) (h n hn) rfl
  exact CallOK.trim (obj':=rdr t ts (s+x.tk.length+1) d (mx 0 (x.inn+1))) (extra:=[.dead,.tup [.dat (.lst [.tup x.nodeL]),.int 0]]) h2 rfl rfl rfl
 exact CN.of (F_ActionReader_items2 W) rfl (fl:=.ret _) λn hn e L=>by
  have hX:Ok (itX w B e L n):=okX W
  have h1:TF (itX w B e L n) (execs (whB itW) (itX w B e L n).f.env) ⟨[lv "self" (.ref 0),lv "end" (.str q),lv "below" (.int 0),lv "found" (.ref 2)],rdr t ts s d b++[.list [],.tup [.ref 2,.int 0]]⟩ (.ret (.ref 2))
    ⟨[lv "self" (.ref 0),lv "end" (.str q),lv "below" (.int (mx 0 (x.inn+1))),lv "found" (.ref 2)],rdr t ts (s+x.tk.length+1) d (mx 0 (x.inn+1))++[.list [nd x],.tup [.ref 2,.int 0]]⟩:=
   stp hX (or:=[.call [0,1] (.ret (nd x)) (rdr t ts (s+x.tk.length) d (x.inn+1)),.call [0,1] (.ret (.bool true)) (rdr t ts (s+x.tk.length+1) d (x.inn+1))])
    (aI (hx n (by lia)) (aI (show([]:List AV).length<=sizeLine by simp) (aI (c_skip d (x.inn+1) W R h3 q (decide_eq_true rfl) n (by lia)) trivial)))
  have hF:=tf_whileS (s:=itW) (by kernel_rfl) (tw_ret (tst0 hX (by kernel_rfl)) h1)
  exact way hX (or:=[.call [0,1] (.ret (.bool false)) (rdr t ts s d b),.suite (.ret (.ref 2)) ⟨[lv "self" (.ref 0),lv "end" (.str q),lv "below" (.int (mx 0 (x.inn+1))),lv "found" (.ref 2)],rdr t ts (s+x.tk.length+1) d (mx 0 (x.inn+1))++[.list [nd x],.tup [.ref 2,.int 0]]⟩])
   (aI (c_skip_no d b W R hf q hq n (by lia)) (aI hF trivial))
theorem c_items_x (W:Wd w B)(R:Rok t ts){k:Nat}{q:Str}{o o':Nat}{tk:Tk}(hf:ts[s]? =some (tk,o))(hq:isSg tk q=false)(hx:CN w B k 439 [.ref 0,.int 1] (rdr t ts s d b) (deepX o') (rdr t ts s d b))(hk:8<=k):
  CN w B (k+1) 460 [.ref 0,.str q] (rdr t ts s d b) (deepX o') (rdr t ts s d b):=
 CN.of (F_ActionReader_items2 W) rfl (fl:=.ex _ _ _) λn hn e L=>by
  have hX:Ok (itX w B e L n):=okX W
  have h1:TF (itX w B e L n) (execs (whB itW) (itX w B e L n).f.env) ⟨[lv "self" (.ref 0),lv "end" (.str q),lv "below" (.int 0),lv "found" (.ref 2)],rdr t ts s d b++[.list [],.tup [.ref 2,.int 0]]⟩ (.ex 95 ["what","at"] [.str tooMany,posD o']) ⟨[],[]⟩:=
   stpX hX (or:=[.call [0,1] (deepX o') (rdr t ts s d b)]) (aI (hx n (by lia)) trivial)
  have hF:=tf_whileS (s:=itW) (by kernel_rfl) (tw_x rfl (tst0 hX (by kernel_rfl)) h1)
  exact wayX hX (or:=[.call [0,1] (.ret (.bool false)) (rdr t ts s d b),.suite (.ex 95 ["what","at"] [.str tooMany,posD o']) ⟨[],[]⟩])
   (aI (c_skip_no d b W R hf q hq n (by lia)) (aI hF trivial))
end
section
variable {w:World}{B:Heap}{t:Str}{ts:Toks}{s:Nat}(d b:Int)
theorem Xt.first {ts:Toks}:∀ {x:Xt} {s:Nat},Seg ts s x.tk->∃k o,ts[s]? =some (k,o)/\isSg k ")" =false/\isSg k "]" =false
 | .num k,s,⟨⟨o,h⟩,_⟩=>⟨_,o,h,rfl,rfl⟩
 | .par x,s,⟨⟨o,h⟩,_⟩=>⟨_,o,h,by kernel_rfl,by kernel_rfl⟩
 | .lst x,s,⟨⟨o,h⟩,_⟩=>⟨_,o,h,by kernel_rfl,by kernel_rfl⟩
 | .len x,s,⟨⟨o,h⟩,_⟩=>⟨_,o,h,rfl,rfl⟩
 | .neg x,s,⟨⟨o,h⟩,_⟩=>⟨_,o,h,by kernel_rfl,by kernel_rfl⟩
 | .add l r,s,h=>Xt.first (x:=l) (Seg.app.mp h).1
theorem at_lst (W:Wd w B)(R:Rok t ts){x:Xt}{k:Nat}(h:Seg ts s (Xt.lst x).tk)(hx:ExOK w B t ts k (s+1) d 0 1 x)(hk:8<=k):AtOK w B t ts (k+2) s d b (.lst x):=by
 obtain⟨⟨o,h⟩,h2⟩:=h
 obtain⟨h2,⟨o',h3⟩,_⟩:=Seg.app.mp h2
 obtain⟨tk,o₁,f1,_,f2⟩:=Xt.first h2
 have e:s+(Xt.lst x).tk.length=s+1+x.tk.length+1:=by simp[Xt.tk];lia
 unfold AtOK
 rw[e]
 exact CN.of (F_ActionReader_atom1 W) rfl (fl:=.ret _) λn hn e L=>
  way (okX W) (or:=[.call [0,1] (.ret (.dat ((Tk.sign "[").D o))) (rdr t ts s d b),.call [0,1] (.ret (.bool true)) (rdr t ts (s+1) d 0),.call [0,1] (.ret (.dat (.lst [.tup x.nodeL]))) (rdr t ts (s+1+x.tk.length+1) d (mx 0 (x.inn+1)))])
   (aI (c_here d b W R h n (by lia)) (aI (c_skip d 0 W R h "[" (by kernel_rfl) n (by lia)) (aI (c_items d 0 W R f1 f2 hx ⟨o',h3⟩ hk n (by lia)) trivial)))
theorem at_lst_x (W:Wd w B)(R:Rok t ts){x:Xt}{k o':Nat}(h:Seg ts s (Xt.lst x).tk)(hx:CN w B k 439 [.ref 0,.int 1] (rdr t ts (s+1) d 0) (deepX o') (rdr t ts (s+1) d 0))(hk:8<=k):CN w B (k+2) 453 [.ref 0] (rdr t ts s d b) (deepX o') (rdr t ts s d b):=by
 obtain⟨⟨o,h⟩,h2⟩:=h
 obtain⟨tk,o₁,f1,_,f2⟩:=Xt.first (Seg.app.mp h2).1
 exact CN.of (F_ActionReader_atom1 W) rfl (fl:=.ex _ _ _) λn hn e L=>
  wayX (okX W) (or:=[.call [0,1] (.ret (.dat ((Tk.sign "[").D o))) (rdr t ts s d b),.call [0,1] (.ret (.bool true)) (rdr t ts (s+1) d 0),.call [0,1] (deepX o') (rdr t ts (s+1) d 0)])
   (aI (c_here d b W R h n (by lia)) (aI (c_skip d 0 W R h "[" (by kernel_rfl) n (by lia)) (aI (c_items_x d 0 W R f1 f2 hx hk n (by lia)) trivial)))
theorem at_len (W:Wd w B)(R:Rok t ts){x:Xt}{k:Nat}(h:Seg ts s (Xt.len x).tk)(hx:ExOK w B t ts k (s+1+1) d 0 1 x)(hk:8<=k):AtOK w B t ts (k+2) s d b (.len x):=by
 obtain⟨⟨o,h⟩,⟨o₂,hp⟩,h2⟩:=h
 obtain⟨h2,⟨o',h3⟩,_⟩:=Seg.app.mp h2
 obtain⟨tk,o₁,f1,f2,_⟩:=Xt.first h2
 have e:s+(Xt.len x).tk.length=s+1+1+x.tk.length+1:=by simp[Xt.tk];lia
 unfold AtOK
 rw[e]
 exact CN.of (F_ActionReader_atom1 W) rfl (fl:=.ret _) λn hn e L=>
  way (okX W) (or:=[.call [0,1] (.ret (.dat ((Tk.name "len").D o))) (rdr t ts s d b),.call [0,1] (.ret (.dat ((Tk.name "len").D o))) (rdr t ts (s+1) d 0),.call [0,1] (.ret (.bool true)) (rdr t ts (s+1+1) d 0),
    .call [0,1] (.ret (.dat (.lst [.tup x.nodeL]))) (rdr t ts (s+1+1+x.tk.length+1) d (mx 0 (x.inn+1)))])
   (aI (c_here d b W R h n (by lia)) (aI (c_take d 0 W R h n (by lia)) (aI (c_skip d 0 W R hp "(" (by kernel_rfl) n (by lia)) (aI (c_items d 0 W R f1 f2 hx ⟨o',h3⟩ hk n (by lia)) trivial))))
theorem at_len_x (W:Wd w B)(R:Rok t ts){x:Xt}{k o':Nat}(h:Seg ts s (Xt.len x).tk)(hx:CN w B k 439 [.ref 0,.int 1] (rdr t ts (s+1+1) d 0) (deepX o') (rdr t ts (s+1+1) d 0))(hk:8<=k):CN w B (k+2) 453 [.ref 0] (rdr t ts s d b) (deepX o') (rdr t ts s d b):=by
 obtain⟨⟨o,h⟩,⟨o₂,hp⟩,h2⟩:=h
 obtain⟨tk,o₁,f1,f2,_⟩:=Xt.first (Seg.app.mp h2).1
 exact CN.of (F_ActionReader_atom1 W) rfl (fl:=.ex _ _ _) λn hn e L=>
  wayX (okX W) (or:=[.call [0,1] (.ret (.dat ((Tk.name "len").D o))) (rdr t ts s d b),.call [0,1] (.ret (.dat ((Tk.name "len").D o))) (rdr t ts (s+1) d 0),.call [0,1] (.ret (.bool true)) (rdr t ts (s+1+1) d 0),.call [0,1] (deepX o') (rdr t ts (s+1+1) d 0)])
   (aI (c_here d b W R h n (by lia)) (aI (c_take d 0 W R h n (by lia)) (aI (c_skip d 0 W R hp "(" (by kernel_rfl) n (by lia)) (aI (c_items_x d 0 W R f1 f2 hx hk n (by lia)) trivial))))
theorem un_at (W:Wd w B)(R:Rok t ts){x:Xt}{k:Nat}{tk:Tk}{o:Nat}(h:ts[s]? =some (tk,o))(h1:isSg tk "-" =false)(h2:isSg tk "!" =false)(hx:AtOK w B t ts k s d b x)(hk:4<=k):UnOK w B t ts (k+1) s d b x:=
 CN.of (F_ActionReader_unary1 W) rfl (fl:=.ret _) λn hn e L=>
  way (okX W) (or:=[.call [0,1] (.ret (.bool (isSg tk "-"))) (rdr t ts s d b),.br false,.call [0,1] (.ret (.bool (isSg tk "!"))) (rdr t ts s d b),.br false,.call [0,1] (.ret (nd x)) (rdr t ts (s+x.tk.length) d x.inn)])
   (aI (c_is_sign d b W R h "-" n (by lia)) (aI h1 (aI (c_is_sign d b W R h "!" n (by lia)) (aI h2 (aI (hx n (by lia)) trivial)))))
theorem un_at_x (W:Wd w B)(R:Rok t ts){k o':Nat}{tk:Tk}{o:Nat}(h:ts[s]? =some (tk,o))(h1:isSg tk "-" =false)(h2:isSg tk "!" =false)(hx:CN w B k 453 [.ref 0] (rdr t ts s d b) (deepX o') (rdr t ts s d b))(hk:4<=k):CN w B (k+1) 446 [.ref 0] (rdr t ts s d b) (deepX o') (rdr t ts s d b):=
 CN.of (F_ActionReader_unary1 W) rfl (fl:=.ex _ _ _) λn hn e L=>
  wayX (okX W) (or:=[.call [0,1] (.ret (.bool (isSg tk "-"))) (rdr t ts s d b),.br false,.call [0,1] (.ret (.bool (isSg tk "!"))) (rdr t ts s d b),.br false,.call [0,1] (deepX o') (rdr t ts s d b)])
   (aI (c_is_sign d b W R h "-" n (by lia)) (aI h1 (aI (c_is_sign d b W R h "!" n (by lia)) (aI h2 (aI (hx n (by lia)) trivial)))))
theorem un_neg (W:Wd w B)(R:Rok t ts){x:Xt}{k:Nat}(h:Seg ts s (Xt.neg x).tk)(hd:d≠100)(hx:UnOK w B t ts k (s+1) (d+1) b x)(hk:4<=k):UnOK w B t ts (k+1) s d b (.neg x):=by
 obtain⟨⟨o,h⟩,h2⟩:=h
 have e:s+(Xt.neg x).tk.length=s+1+x.tk.length:=by simp[Xt.tk];lia
 have ed:d+1-1=d:=by lia
 suffices hh:CN w B (k+1) 446 [.ref 0] (rdr t ts s d b) (.ret (nd (.neg x))) (rdr t ts (s+1+x.tk.length) (d+1-1) (x.inn+1)) by
  unfold UnOK
  rw[e]
  rw[ed]at hh
  exact hh
 exact CN.of (F_ActionReader_unary1 W) rfl (fl:=.ret _) λn hn e L=>
  way (okX W) (or:=[.call [0,1] (.ret (.bool (isSg (Tk.sign "-") "-"))) (rdr t ts s d b),.br true,.call [0,1] (.ret (.dat ((Tk.sign "-").D o))) (rdr t ts (s+1) d b),.call [0,1] (.ret .none) (rdr t ts (s+1) (d+1) b),
    .call [0,1] (.ret (nd x)) (rdr t ts (s+1+x.tk.length) (d+1) x.inn),.call [0,1] (.ret .none) (rdr t ts (s+1+x.tk.length) (d+1-1) (x.inn+1))])
   (aI (c_is_sign d b W R h "-" n (by lia)) (aI (show isSg (Tk.sign "-") "-" =true by kernel_rfl) (aI (c_take d b W R h n (by lia)) (aI (c_enter (s:=s+1) d b W R hd n (by lia)) (aI (hx n (by lia)) (aI (c_leave (t:=t) (ts:=ts) (s:=s+1+x.tk.length) (d+1) x.inn W x.inn n (by lia)) trivial))))))
theorem un_neg_x1 (W:Wd w B)(R:Rok t ts){x:Xt}{tk:Tk}{o':Nat}(h:Seg ts s (Xt.neg x).tk)(hn:ts[s+1]? =some (tk,o')):CN w B 8 446 [.ref 0] (rdr t ts s 100 b) (deepX o') (rdr t ts s 100 b):=by
 obtain⟨⟨o,h⟩,h2⟩:=h
 exact CN.of (F_ActionReader_unary1 W) rfl (fl:=.ex _ _ _) λn hn' e L=>
  wayX (okX W) (or:=[.call [0,1] (.ret (.bool (isSg (Tk.sign "-") "-"))) (rdr t ts s 100 b),.br true,.call [0,1] (.ret (.dat ((Tk.sign "-").D o))) (rdr t ts (s+1) 100 b),.call [0,1] (deepX o') (rdr t ts (s+1) 100 b)])
   (aI (c_is_sign 100 b W R h "-" n (by lia)) (aI (show isSg (Tk.sign "-") "-" =true by kernel_rfl) (aI (c_take 100 b W R h n (by lia)) (aI (c_enter_x b W R hn n (by lia)) trivial))))
theorem un_neg_x2 (W:Wd w B)(R:Rok t ts){x:Xt}{k o':Nat}(h:Seg ts s (Xt.neg x).tk)(hd:d≠100)(hx:CN w B k 446 [.ref 0] (rdr t ts (s+1) (d+1) b) (deepX o') (rdr t ts (s+1) (d+1) b))(hk:4<=k):CN w B (k+1) 446 [.ref 0] (rdr t ts s d b) (deepX o') (rdr t ts s d b):=by
 obtain⟨⟨o,h⟩,h2⟩:=h
 exact CN.of (F_ActionReader_unary1 W) rfl (fl:=.ex _ _ _) λn hn e L=>
  wayX (okX W) (or:=[.call [0,1] (.ret (.bool (isSg (Tk.sign "-") "-"))) (rdr t ts s d b),.br true,.call [0,1] (.ret (.dat ((Tk.sign "-").D o))) (rdr t ts (s+1) d b),.call [0,1] (.ret .none) (rdr t ts (s+1) (d+1) b),.call [0,1] (deepX o') (rdr t ts (s+1) (d+1) b)])
   (aI (c_is_sign d b W R h "-" n (by lia)) (aI (show isSg (Tk.sign "-") "-" =true by kernel_rfl) (aI (c_take d b W R h n (by lia)) (aI (c_enter (s:=s+1) d b W R hd n (by lia)) (aI (hx n (by lia)) trivial)))))
end
section
variable {w:World}{B:Heap}{t:Str}{ts:Toks}
noncomputable abbrev exX (w:World)(B:Heap)(e:En)(L n:Nat):Cx:=cxt w B "ActionReader.expression" (dm 35 16) 439 (.ref 438) e L n
noncomputable abbrev exW:Stmt:=stm (dm 35 16).body 2
noncomputable abbrev exB (w:World)(B:Heap)(e:En)(L n:Nat):Sem Flow:=execs (whB exW) (exX w B e L n).f.env
noncomputable abbrev lb (l:Int)(N:List D)(bl:Int):Loc:=[lv "self" (.ref 0),lv "least" (.int l),lv "is_compared" (.bool false),lv "below" (.int bl),lv "left" (.dat (.tup N))]
abbrev ends (q:Tk)(l:Int):Prop:=closer q=true\/(q=.sign "+" /\l=5)
theorem lp_end (W:Wd w B)(R:Rok t ts){e:En}{L n s o:Nat}{q:Tk}(hn:2<=n)(d:Int)(l:Int)(N:List D)(bl:Int)(h:ts[s]? =some (q,o))(hq:ends q l):
  ∃ (sg:Str) (v:Int),∀b,TF (exX w B e L n) (exB w B e L n) ⟨lb l N bl,rdr t ts s d b⟩ (.ret (.dat (.tup N))) ⟨lb l N bl++[lv "sign" (.str sg),lv "level" (.int v)],rdr t ts s (d-1) (bl+1)⟩:=by
 have hX:Ok (exX w B e L n):=okX W
 cases q with
 |fin=>exact⟨"",0,λb=>stp hX (or:=[.call [0,1] (.ret (.dat (Tk.fin.D o))) (rdr t ts s d b),.call [0,1] (.ret .none) (rdr t ts s (d-1) (bl+1))]) (aI (c_here d b W R h n (by lia)) (aI (c_leave (t:=t) (ts:=ts) (s:=s) d b W bl n (by lia)) trivial))⟩
 |sign y=>
  rcases hq with hq| ⟨hq,rfl⟩
  ·unfold closer at hq
   simp only[Bool.or_eq_true,decide_eq_true_eq]at hq
   refine⟨y,0,λb=>?_⟩
   rcases hq with((rfl|rfl)|rfl)|rfl
   ·exact stp hX (or:=[.call [0,1] (.ret (.dat ((Tk.sign ")").D o))) (rdr t ts s d b),.call [0,1] (.ret (.dat ((Tk.sign ")").D o))) (rdr t ts s d b),.call [0,1] (.ret .none) (rdr t ts s (d-1) (bl+1))]) (aI (c_here d b W R h n (by lia)) (aI (c_here d b W R h n (by lia)) (aI (c_leave (t:=t) (ts:=ts) (s:=s) d b W bl n (by lia)) trivial)))
   ·exact stp hX (or:=[.call [0,1] (.ret (.dat ((Tk.sign "]").D o))) (rdr t ts s d b),.call [0,1] (.ret (.dat ((Tk.sign "]").D o))) (rdr t ts s d b),.call [0,1] (.ret .none) (rdr t ts s (d-1) (bl+1))]) (aI (c_here d b W R h n (by lia)) (aI (c_here d b W R h n (by lia)) (aI (c_leave (t:=t) (ts:=ts) (s:=s) d b W bl n (by lia)) trivial)))
   ·exact stp hX (or:=[.call [0,1] (.ret (.dat ((Tk.sign "}").D o))) (rdr t ts s d b),.call [0,1] (.ret (.dat ((Tk.sign "}").D o))) (rdr t ts s d b),.call [0,1] (.ret .none) (rdr t ts s (d-1) (bl+1))]) (aI (c_here d b W R h n (by lia)) (aI (c_here d b W R h n (by lia)) (aI (c_leave (t:=t) (ts:=ts) (s:=s) d b W bl n (by lia)) trivial)))
   ·exact stp hX (or:=[.call [0,1] (.ret (.dat ((Tk.sign ";").D o))) (rdr t ts s d b),.call [0,1] (.ret (.dat ((Tk.sign ";").D o))) (rdr t ts s d b),.call [0,1] (.ret .none) (rdr t ts s (d-1) (bl+1))]) (aI (c_here d b W R h n (by lia)) (aI (c_here d b W R h n (by lia)) (aI (c_leave (t:=t) (ts:=ts) (s:=s) d b W bl n (by lia)) trivial)))
  ·cases hq
   exact⟨"+",4,λb=>stp hX (or:=[.call [0,1] (.ret (.dat ((Tk.sign "+").D o))) (rdr t ts s d b),.call [0,1] (.ret (.dat ((Tk.sign "+").D o))) (rdr t ts s d b),.call [0,1] (.ret .none) (rdr t ts s (d-1) (bl+1))]) (aI (c_here d b W R h n (by lia)) (aI (c_here d b W R h n (by lia)) (aI (c_leave (t:=t) (ts:=ts) (s:=s) d b W bl n (by lia)) trivial)))⟩
 |own=>exact absurd hq (by rintro(h| ⟨h,_⟩)<;>cases h)
 |num k=>exact absurd hq (by rintro(h| ⟨h,_⟩)<;>cases h)
 |name k=>exact absurd hq (by rintro(h| ⟨h,_⟩)<;>cases h)
theorem lp_step (W:Wd w B)(R:Rok t ts){e:En}{L n s o:Nat}{l r:Xt}(d b:Int)(h:ts[s]? =some (.sign "+",o))(hd:d+l.inn≠100){k:Nat}(hr:ExOK w B t ts k (s+1) d b 5 r)(hn:k<=n)(hn2:2<=n):
  TF (exX w B e L n) (exB w B e L n) ⟨lb 1 l.nodeL l.inn,rdr t ts s d b⟩ .next ⟨lb 1 (Xt.add l r).nodeL (Xt.add l r).inn++[lv "sign" (.str "+"),lv "level" (.int 4),lv "right" (nd r)],rdr t ts (s+1+r.tk.length) d (r.inn+1)⟩:=
 stp (okX W) (or:=[.call [0,1] (.ret (.dat ((Tk.sign "+").D o))) (rdr t ts s d b),.call [0,1] (.ret (.dat ((Tk.sign "+").D o))) (rdr t ts s d b),.go,.go,.go,.br false,.call [0,1] (.ret (.dat ((Tk.sign "+").D o))) (rdr t ts (s+1) d b),
   .call [0,1] (.ret (nd r)) (rdr t ts (s+1+r.tk.length) d (r.inn+1)),.call [] (.ret (nd (Xt.add l r))) []])
  (aI (c_here d b W R h n (by lia)) (aI (c_here d b W R h n (by lia)) (aI (decide_eq_false hd) (aI (c_take d b W R h n (by lia)) (aI (hr n hn) (aI (c_joined W l.nodeL r.nodeL n (by lia)) trivial))))))
theorem lp_x1 (W:Wd w B)(R:Rok t ts){e:En}{L n s o:Nat}{l:Xt}{c':St}(d b:Int)(h:ts[s]? =some (.sign "+",o))(hd:d+l.inn=100)(hn:6<=n):
  TF (exX w B e L n) (exB w B e L n) ⟨lb 1 l.nodeL l.inn,rdr t ts s d b⟩ (.ex 95 ["what","at"] [.str tooMany,posD o]) c':=
 stpX (okX W) (or:=[.call [0,1] (.ret (.dat ((Tk.sign "+").D o))) (rdr t ts s d b),.call [0,1] (.ret (.dat ((Tk.sign "+").D o))) (rdr t ts s d b),.go,.go,.go,.br true,.call [0,1] (deepX o) (rdr t ts s d b)])
  (aI (c_here d b W R h n (by lia)) (aI (c_here d b W R h n (by lia)) (aI (decide_eq_true hd) (aI (c_refuse d b W R h n (by lia)) trivial))))
theorem lp_x2 (W:Wd w B)(R:Rok t ts){e:En}{L n s o o':Nat}{l:Xt}{c':St}(d b:Int)(h:ts[s]? =some (.sign "+",o))(hd:d+l.inn≠100){k:Nat}(hr:CN w B k 439 [.ref 0,.int 5] (rdr t ts (s+1) d b) (deepX o') (rdr t ts (s+1) d b))(hn:k<=n)(hn2:2<=n):
  TF (exX w B e L n) (exB w B e L n) ⟨lb 1 l.nodeL l.inn,rdr t ts s d b⟩ (.ex 95 ["what","at"] [.str tooMany,posD o']) c':=
 stpX (okX W) (or:=[.call [0,1] (.ret (.dat ((Tk.sign "+").D o))) (rdr t ts s d b),.call [0,1] (.ret (.dat ((Tk.sign "+").D o))) (rdr t ts s d b),.go,.go,.go,.br false,.call [0,1] (.ret (.dat ((Tk.sign "+").D o))) (rdr t ts (s+1) d b),.call [0,1] (deepX o') (rdr t ts (s+1) d b)])
  (aI (c_here d b W R h n (by lia)) (aI (c_here d b W R h n (by lia)) (aI (decide_eq_false hd) (aI (c_take d b W R h n (by lia)) (aI (hr n hn) trivial)))))
end
noncomputable def Xt.kU:Xt->Nat
 | .num _=>11
 | .par x=>x.kU+3
 | .lst x=>x.kU+4
 | .len x=>x.kU+4
 | .neg x=>x.kU+1
 | .add l r=>max l.kU (r.kU+1)
theorem Xt.kU11:∀x:Xt,11<=x.kU
 | .num _=>Nat.le_refl _
 | .par x=>by have:=x.kU11;unfold kU;lia
 | .lst x=>by have:=x.kU11;unfold kU;lia
 | .len x=>by have:=x.kU11;unfold kU;lia
 | .neg x=>by have:=x.kU11;unfold kU;lia
 | .add l r=>by have:=l.kU11;unfold kU;lia
section
variable {w:World}{B:Heap}{t:Str}{ts:Toks}
abbrev Bad (w:World)(B:Heap)(t:Str)(ts:Toks)(s len:Nat)(k:Nat)(f:Addr)(args:List AV)(d:Int):Prop:=
 ∃j o tk,s<=j/\j<s+len/\ts[j]? =some (tk,o)/\∀b,CN w B k f args (rdr t ts s d b) (deepX o) (rdr t ts s d b)
def LpOK (w:World)(B:Heap)(t:Str)(ts:Toks)(x:Xt)(l:Int):Prop:=∀ (s:Nat) (d:Int),d<=100->Seg ts s x.tk->(∃q o,ts[s+x.tk.length]? =some (q,o)/\ends q 5)->
  (d+x.inn<=100->∀ (n:Nat) (e:En) (L:Nat),x.kU<=n->∀fl c',(∀b,TW (exX w B e L n) (whT exW) (whB exW) ⟨lb l x.nodeL x.inn,rdr t ts (s+x.tk.length) d b⟩ fl c')->∀b,TW (exX w B e L n) (whT exW) (whB exW) ⟨lb l x.hd.nodeL x.hd.inn,rdr t ts (s+x.hd.tk.length) d b⟩ fl c')/\
  (100<d+x.inn->d+x.hd.inn<=100->∃j o tk,s<=j/\j<s+x.tk.length/\ts[j]? =some (tk,o)/\∀ (n:Nat) (e:En) (L:Nat),x.kU<=n->∀b c',TW (exX w B e L n) (whT exW) (whB exW) ⟨lb l x.hd.nodeL x.hd.inn,rdr t ts (s+x.hd.tk.length) d b⟩ (.ex 95 ["what","at"] [.str tooMany,posD o]) c')
structure Pex (w:World)(B:Heap)(t:Str)(ts:Toks)(x:Xt):Prop where
 un:∀ (s:Nat) (d b:Int),d<=100->Seg ts s x.hd.tk->
  (d+x.hd.inn<=100->UnOK w B t ts x.kU s d b x.hd)/\(100<d+x.hd.inn->Bad w B t ts s x.hd.tk.length x.kU 446 [.ref 0] d)
 lp:LpOK w B t ts x 1
 ex:∀ (s:Nat) (d b:Int) (l:Int) (q:Tk) (o:Nat),d<=100->Seg ts s x.tk->ts[s+x.tk.length]? =some (q,o)->ends q l->(l=1\/(l=5/\x.isSum=false))->
  (d+1+x.inn<=100->ExOK w B t ts (x.kU+1) s d b l x)/\(100<d+1+x.inn->Bad w B t ts s x.tk.length (x.kU+1) 439 [.ref 0,.int l] d)
theorem Xt.hd_len:∀x:Xt,x.hd.tk.length<=x.tk.length
 | .num _=>Nat.le_refl _
 | .par _=>Nat.le_refl _
 | .lst _=>Nat.le_refl _
 | .len _=>Nat.le_refl _
 | .neg _=>Nat.le_refl _
 | .add l r=>by have:=l.hd_len;show l.hd.tk.length<=(l.tk++_::r.tk).length;simp;lia
theorem Xt.hd_seg {ts:Toks}{s:Nat}:∀ {x:Xt},Seg ts s x.tk->Seg ts s x.hd.tk
 | .num _,h=>h
 | .par _,h=>h
 | .lst _,h=>h
 | .len _,h=>h
 | .neg _,h=>h
 | .add l r,h=>Xt.hd_seg (x:=l) (Seg.app.mp h).1
theorem ends5 {q:Tk}{l:Int}(h:ends q l):ends q 5:=h.elim .inl λ⟨h,_⟩=>.inr ⟨h,rfl⟩
theorem ex_of (W:Wd w B)(R:Rok t ts){x:Xt}
  (un:∀ (s:Nat) (d b:Int),d<=100->Seg ts s x.hd.tk->(d+x.hd.inn<=100->UnOK w B t ts x.kU s d b x.hd)/\(100<d+x.hd.inn->Bad w B t ts s x.hd.tk.length x.kU 446 [.ref 0] d))
  (lp:∀ (l:Int),(l=1\/(l=5/\x.isSum=false))->LpOK w B t ts x l)
  (s:Nat) (d b:Int) (l:Int) (q:Tk) (o:Nat) (hd:d<=100) (hs:Seg ts s x.tk) (hq:ts[s+x.tk.length]? =some (q,o)) (he:ends q l) (hl:l=1\/(l=5/\x.isSum=false)):
  (d+1+x.inn<=100->ExOK w B t ts (x.kU+1) s d b l x)/\(100<d+1+x.inn->Bad w B t ts s x.tk.length (x.kU+1) 439 [.ref 0,.int l] d):=by
 have hk:=x.kU11
 have hh:=x.inn_hd
 have h0:=x.hd.inn0
 refine⟨λhi=>?_,λhi=>?_⟩
 ·have ed:d+1-1=d:=by lia
  suffices hx:CN w B (x.kU+1) 439 [.ref 0,.int l] (rdr t ts s d b) (.ret (nd x)) (rdr t ts (s+x.tk.length) (d+1-1) (x.inn+1)) by rw[ed]at hx;exact hx
  refine CN.of (F_ActionReader_expression2 W) rfl (fl:=.ret _) λn hn e L=>?_
  have hX:Ok (exX w B e L n):=okX W
  obtain⟨sg,v,hE⟩:=lp_end W R (e:=e) (L:=L) (n:=n) (by lia) (d+1) l x.nodeL x.inn hq he
  have hW:=(lp l hl s (d+1) (by lia) hs ⟨q,o,hq,ends5 he⟩).1 hi n e L hn _ _ (λb=>tw_ret (tst0 hX (by kernel_rfl)) (hE b)) x.hd.inn
  have hF:=tf_whileS (s:=exW) (by kernel_rfl) hW
  exact way hX (or:=[.call [0,1] (.ret .none) (rdr t ts s (d+1) b),.call [0,1] (.ret (nd x.hd)) (rdr t ts (s+x.hd.tk.length) (d+1) x.hd.inn),.suite (.ret (.dat (.tup x.nodeL))) ⟨lb l x.nodeL x.inn++[lv "sign" (.str sg),lv "level" (.int v)],rdr t ts (s+x.tk.length) (d+1-1) (x.inn+1)⟩])
   (aI (c_enter (s:=s) d b W R (by lia) n (by lia)) (aI ((un s (d+1) b (by lia) (Xt.hd_seg hs)).1 (by lia) n hn) (aI hF trivial)))
 ·by_cases h100:d=100
  ·subst h100
   obtain⟨tk,o₁,f1,_⟩:=Xt.first hs
   have hlen:0<x.tk.length:=by
    cases hx:x.tk with
    |nil=>cases x<;>simp[Xt.tk]at hx
    |cons a r=>simp
   exact⟨s,o₁,tk,Nat.le_refl _,by lia,f1,λb=>CN.of (F_ActionReader_expression2 W) rfl (fl:=.ex _ _ _) λn hn e L=>
    wayX (okX W) (or:=[.call [0,1] (deepX o₁) (rdr t ts s 100 b)]) (aI (c_enter_x b W R f1 n (by lia)) trivial)⟩
  ·by_cases hu:d+1+x.hd.inn<=100
   ·obtain⟨j,o₁,tk,j1,j2,j3,hT⟩:=(lp l hl s (d+1) (by lia) hs ⟨q,o,hq,ends5 he⟩).2 hi hu
    exact⟨j,o₁,tk,j1,j2,j3,λb=>CN.of (F_ActionReader_expression2 W) rfl (fl:=.ex _ _ _) λn hn e L=>by
     have hX:Ok (exX w B e L n):=okX W
     have hF:=tf_whileS (s:=exW) (by kernel_rfl) (hT n e L hn x.hd.inn ⟨[],[]⟩)
     exact wayX hX (or:=[.call [0,1] (.ret .none) (rdr t ts s (d+1) b),.call [0,1] (.ret (nd x.hd)) (rdr t ts (s+x.hd.tk.length) (d+1) x.hd.inn),.suite (.ex 95 ["what","at"] [.str tooMany,posD o₁]) ⟨[],[]⟩])
      (aI (c_enter (s:=s) d b W R h100 n (by lia)) (aI ((un s (d+1) b (by lia) (Xt.hd_seg hs)).1 hu n hn) (aI hF trivial)))⟩
   ·obtain⟨j,o₁,tk,j1,j2,j3,hB⟩:=(un s (d+1) b (by lia) (Xt.hd_seg hs)).2 (by lia)
    have:=x.hd_len
    exact⟨j,o₁,tk,j1,by lia,j3,λb=>CN.of (F_ActionReader_expression2 W) rfl (fl:=.ex _ _ _) λn hn e L=>
     wayX (okX W) (or:=[.call [0,1] (.ret .none) (rdr t ts s (d+1) b),.call [0,1] (deepX o₁) (rdr t ts s (d+1) b)]) (aI (c_enter (s:=s) d b W R h100 n (by lia)) (aI (hB b n hn) trivial))⟩
end
section
variable {w:World}{B:Heap}{t:Str}{ts:Toks}
theorem lp_same {x:Xt}(h:x.hd=x)(l:Int):LpOK w B t ts x l:=λs d hd hs _=>by
 rw[h]
 exact⟨λ_ n e L hn fl c' hT=>hT,λh1 h2=>by lia⟩
theorem pex_unit (W:Wd w B)(R:Rok t ts){x:Xt}(h:x.hd=x)
  (un:∀ (s:Nat) (d b:Int),d<=100->Seg ts s x.tk->(d+x.inn<=100->UnOK w B t ts x.kU s d b x)/\(100<d+x.inn->Bad w B t ts s x.tk.length x.kU 446 [.ref 0] d)):Pex w B t ts x:=by
 have un':∀ (s:Nat) (d b:Int),d<=100->Seg ts s x.hd.tk->(d+x.hd.inn<=100->UnOK w B t ts x.kU s d b x.hd)/\(100<d+x.hd.inn->Bad w B t ts s x.hd.tk.length x.kU 446 [.ref 0] d):=by
  rw[h];exact un
 exact⟨un',lp_same h 1,λs d b l q o h1 h2 h3 h4 h5=>ex_of W R un' (λl _=>lp_same h l) s d b l q o h1 h2 h3 h4 h5⟩
theorem ends1 {q:Tk}(h:closer q=true):ends q 1:=.inl h
theorem pex (W:Wd w B)(R:Rok t ts):∀x:Xt,x.ok=true->Pex w B t ts x
 | .num k,_=>pex_unit W R rfl λs d b hd hs=>⟨λ_=>by
   obtain⟨o,h⟩:=hs.1
   exact(un_at d b W R h rfl rfl (at_num d b W R hs) (by lia)).up (Nat.le_of_ble_eq_true rfl),λh=>by have:(Xt.num k).inn=0:=rfl;lia⟩
 | .par x,ok=>pex_unit W R rfl λs d b hd hs=>by
   have P:=pex W R x ok
   have hs':=hs
   obtain⟨⟨o,h⟩,h2⟩:=hs'
   obtain⟨h2,⟨o',h3⟩,_⟩:=Seg.app.mp h2
   obtain⟨P1,P2⟩:=P.ex (s+1) d 0 1 _ _ hd h2 h3 (ends1 (by kernel_rfl)) (.inl rfl)
   have hi:(Xt.par x).inn=x.inn+1:=rfl
   have hk:=x.kU11
   have hl:(Xt.par x).tk.length=x.tk.length+2:=by simp[Xt.tk]
   refine⟨λh1=>un_at d b W R h (by kernel_rfl) (by kernel_rfl) (at_par d b W R hs (P1 (by lia)) (by lia)) (by lia),λh1=>?_⟩
   obtain⟨j,o₁,tk,j1,j2,j3,hB⟩:=P2 (by lia)
   exact⟨j,o₁,tk,by lia,by lia,j3,λb=>un_at_x d b W R h (by kernel_rfl) (by kernel_rfl) (at_par_x d b W R hs (hB 0) (by lia)) (by lia)⟩
 | .lst x,ok=>pex_unit W R rfl λs d b hd hs=>by
   have P:=pex W R x ok
   have hs':=hs
   obtain⟨⟨o,h⟩,h2⟩:=hs'
   obtain⟨h2,⟨o',h3⟩,_⟩:=Seg.app.mp h2
   obtain⟨P1,P2⟩:=P.ex (s+1) d 0 1 _ _ hd h2 h3 (ends1 (by kernel_rfl)) (.inl rfl)
   have hi:=x.inn_lst
   have hk:=x.kU11
   have hl:(Xt.lst x).tk.length=x.tk.length+2:=by simp[Xt.tk]
   refine⟨λh1=>un_at d b W R h (by kernel_rfl) (by kernel_rfl) (at_lst d b W R hs (P1 (by lia)) (by lia)) (by lia),λh1=>?_⟩
   obtain⟨j,o₁,tk,j1,j2,j3,hB⟩:=P2 (by lia)
   exact⟨j,o₁,tk,by lia,by lia,j3,λb=>un_at_x d b W R h (by kernel_rfl) (by kernel_rfl) (at_lst_x d b W R hs (hB 0) (by lia)) (by lia)⟩
 | .len x,ok=>pex_unit W R rfl λs d b hd hs=>by
   have P:=pex W R x ok
   have hs':=hs
   obtain⟨⟨o,h⟩,_,h2⟩:=hs'
   obtain⟨h2,⟨o',h3⟩,_⟩:=Seg.app.mp h2
   obtain⟨P1,P2⟩:=P.ex (s+1+1) d 0 1 _ _ hd h2 h3 (ends1 (by kernel_rfl)) (.inl rfl)
   have hi:=x.inn_len
   have hk:=x.kU11
   have hl:(Xt.len x).tk.length=x.tk.length+3:=by simp[Xt.tk]
   refine⟨λh1=>un_at d b W R h rfl rfl (at_len d b W R hs (P1 (by lia)) (by lia)) (by lia),λh1=>?_⟩
   obtain⟨j,o₁,tk,j1,j2,j3,hB⟩:=P2 (by lia)
   exact⟨j,o₁,tk,by lia,by lia,j3,λb=>un_at_x d b W R h rfl rfl (at_len_x d b W R hs (hB 0) (by lia)) (by lia)⟩
 | .neg x,ok=>pex_unit W R rfl λs d b hd hs=>by
   have ok':(!x.isSum&&x.ok)=true:=ok
   rw[Bool.and_eq_true,Bool.not_eq_true']at ok'
   have P:=(pex W R x ok'.2).un
   rw[Xt.hd_of ok'.1]at P
   have h2:=hs.2
   obtain⟨tk,o₁,f1,_⟩:=Xt.first h2
   have hi:(Xt.neg x).inn=x.inn+1:=rfl
   have hk:=x.kU11
   have h0:=x.inn0
   have hl:(Xt.neg x).tk.length=x.tk.length+1:=by simp[Xt.tk]
   have hlen:0<x.tk.length:=by
    cases hx:x.tk with
    |nil=>cases x<;>simp[Xt.tk]at hx
    |cons a r=>simp
   refine⟨λh1=>un_neg d b W R hs (by lia) ((P (s+1) (d+1) b (by lia) h2).1 (by lia)) (by lia),λh1=>?_⟩
   by_cases h100:d=100
   ·subst h100
    exact⟨s+1,o₁,tk,by lia,by lia,f1,λb=>(un_neg_x1 b W R hs f1).up (show 8<=x.kU+1 by lia)⟩
   ·obtain⟨j,o₁,tk,j1,j2,j3,hB⟩:=(P (s+1) (d+1) b (by lia) h2).2 (by lia)
    exact⟨j,o₁,tk,by lia,by lia,j3,λb=>un_neg_x2 d b W R hs h100 (hB b) (by lia)⟩
 | .add l r,ok=>by
   have ok':(l.ok&& (r.ok&& !r.isSum))=true:=ok
   simp only[Bool.and_eq_true,Bool.not_eq_true']at ok'
   obtain⟨o1,o2,o3⟩:=ok'
   have Pl:=pex W R l o1
   have Pr:=pex W R r o2
   have hk1:l.kU<=(Xt.add l r).kU:=Nat.le_max_left _ _
   have hk2:r.kU+1<=(Xt.add l r).kU:=Nat.le_max_right _ _
   have hk:=l.kU11
   obtain⟨i1,i2,i3⟩:=l.inn_add r
   have r0:=r.inn0
   have un:∀ (s:Nat) (d b:Int),d<=100->Seg ts s (Xt.add l r).hd.tk->(d+(Xt.add l r).hd.inn<=100->UnOK w B t ts (Xt.add l r).kU s d b (Xt.add l r).hd)/\(100<d+(Xt.add l r).hd.inn->Bad w B t ts s (Xt.add l r).hd.tk.length (Xt.add l r).kU 446 [.ref 0] d):=λs d b hd hs=>by
    obtain⟨u1,u2⟩:=Pl.un s d b hd hs
    refine⟨λh=>(u1 h).up hk1,λh=>?_⟩
    obtain⟨j,o₁,tk,j1,j2,j3,hB⟩:=u2 h
    exact⟨j,o₁,tk,j1,j2,j3,λb=>(hB b).up hk1⟩
   have lp:LpOK w B t ts (Xt.add l r) 1:=λs d hd hs hq=>by
    obtain⟨s1,⟨o,s2⟩,s3⟩:=Seg.app.mp hs
    have hlen:s+(Xt.add l r).tk.length=s+l.tk.length+1+r.tk.length:=by simp[Xt.tk];lia
    rw[hlen]at hq
    obtain⟨q,oq,hq,hq2⟩:=hq
    obtain⟨L1,L2⟩:=Pl.lp s d hd s1 ⟨_,o,s2,.inr ⟨rfl,rfl⟩⟩
    have E:=λb=>Pr.ex (s+l.tk.length+1) d b 5 q oq hd s3 hq hq2 (.inr ⟨rfl,o3⟩)
    refine⟨λh n e L hn fl c' hT=>?_,λh hu=>?_⟩
    ·refine L1 (by lia) n e L (Nat.le_trans hk1 hn) fl c' λb=>?_
     have hX:Ok (exX w B e L n):=okX W
     refine tw_true (tst0 hX (by kernel_rfl)) (lp_step W R d b s2 (by lia) ((E b).1 (by lia)) (by lia) (by lia)) ?_
     have:=hT (r.inn+1)
     rw[hlen]at this
     exact TW.forget rfl Less.app this
    ·by_cases hl:d+l.inn<=100
     ·by_cases h100:d+l.inn=100
      ·refine⟨s+l.tk.length,o,_,by lia,by lia,s2,λn e L hn b c'=>?_⟩
       refine L1 hl n e L (Nat.le_trans hk1 hn) _ _ (λb=>?_) b
       have hX:Ok (exX w B e L n):=okX W
       exact tw_x rfl (tst0 hX (by kernel_rfl)) (lp_x1 W R d b s2 h100 (by lia))
      ·obtain⟨j,o₁,tk,j1,j2,j3,hB⟩:=(E 0).2 (by lia)
       refine⟨j,o₁,tk,by lia,by lia,j3,λn e L hn b c'=>?_⟩
       refine L1 hl n e L (Nat.le_trans hk1 hn) _ _ (λb=>?_) b
       have hX:Ok (exX w B e L n):=okX W
       exact tw_x rfl (tst0 hX (by kernel_rfl)) (lp_x2 W R d b s2 h100 (hB b) (by lia) (by lia))
     ·obtain⟨j,o₁,tk,j1,j2,j3,hB⟩:=L2 (by lia) hu
      exact⟨j,o₁,tk,j1,by lia,j3,λn e L hn=>hB n e L (Nat.le_trans hk1 hn)⟩
   exact⟨un,lp,λs d b l' q o h1 h2 h3 h4 h5=>ex_of W R un (λl'' h=>by
    rcases h with rfl| ⟨rfl,h⟩
    ·exact lp
    ·cases h) s d b l' q o h1 h2 h3 h4 h5⟩
end
section
variable {w:World}{B:Heap}{t:Str}{ts:Toks}{s:Nat}(d b:Int)
noncomputable abbrev nU:List D:=[.str "name",.str "u"]
theorem at_u (W:Wd w B)(R:Rok t ts){o o':Nat}{q:Tk}(h:ts[s]? =some (.name "u",o))(h':ts[s+1]? =some (q,o'))(hq:isSg q "(" =false):CN w B 4 453 [.ref 0] (rdr t ts s d b) (.ret (.dat (.tup nU))) (rdr t ts (s+1) d 0):=
 CN.of (F_ActionReader_atom1 W) rfl (fl:=.ret _) λn hn e L=>
  way (okX W) (or:=[.call [0,1] (.ret (.dat ((Tk.name "u").D o))) (rdr t ts s d b),.call [0,1] (.ret (.dat ((Tk.name "u").D o))) (rdr t ts (s+1) d 0),.call [0,1] (.ret (.bool false)) (rdr t ts (s+1) d 0)])
   (aI (c_here d b W R h n (by lia)) (aI (c_take d 0 W R h n (by lia)) (aI (c_skip_no d 0 W R h' "(" hq n (by lia)) trivial)))
theorem un_u (W:Wd w B)(R:Rok t ts){o o':Nat}{q:Tk}(h:ts[s]? =some (.name "u",o))(h':ts[s+1]? =some (q,o'))(hq:isSg q "(" =false):CN w B 5 446 [.ref 0] (rdr t ts s d b) (.ret (.dat (.tup nU))) (rdr t ts (s+1) d 0):=
 CN.of (F_ActionReader_unary1 W) rfl (fl:=.ret _) λn hn e L=>
  way (okX W) (or:=[.call [0,1] (.ret (.bool false)) (rdr t ts s d b),.call [0,1] (.ret (.bool false)) (rdr t ts s d b),.call [0,1] (.ret (.dat (.tup nU))) (rdr t ts (s+1) d 0)])
   (aI (c_is_sign d b W R h "-" n (by lia)) (aI (c_is_sign d b W R h "!" n (by lia)) (aI (at_u d b W R h h' hq n (by lia)) trivial)))
theorem ex_u (W:Wd w B)(R:Rok t ts)(hd:d≠100){o o':Nat}(h:ts[s]? =some (.name "u",o))(h':ts[s+1]? =some (.sign ")",o')):CN w B 12 439 [.ref 0,.int 1] (rdr t ts s d b) (.ret (.dat (.tup nU))) (rdr t ts (s+1) d 1):=by
 have ed:d+1-1=d:=by lia
 suffices hx:CN w B 12 439 [.ref 0,.int 1] (rdr t ts s d b) (.ret (.dat (.tup nU))) (rdr t ts (s+1) (d+1-1) (0+1)) by rw[ed]at hx;exact hx
 refine CN.of (F_ActionReader_expression2 W) rfl (fl:=.ret _) λn hn e L=>?_
 have hX:Ok (exX w B e L n):=okX W
 obtain⟨sg,v,hE⟩:=lp_end W R (e:=e) (L:=L) (n:=n) (by lia) (d+1) 1 nU 0 h' (.inl (by kernel_rfl))
 have hF:=tf_whileS (s:=exW) (by kernel_rfl) (tw_ret (tst0 hX (by kernel_rfl)) (hE 0))
 exact way hX (or:=[.call [0,1] (.ret .none) (rdr t ts s (d+1) b),.call [0,1] (.ret (.dat (.tup nU))) (rdr t ts (s+1) (d+1) 0),.suite (.ret (.dat (.tup nU))) ⟨lb 1 nU 0++[lv "sign" (.str sg),lv "level" (.int v)],rdr t ts (s+1) (d+1-1) (0+1)⟩])
  (aI (c_enter (s:=s) d b W R hd n (by lia)) (aI (un_u (d+1) b W R h h' (by kernel_rfl) n (by lia)) (aI hF trivial)))
theorem ex_100 (W:Wd w B)(R:Rok t ts){tk:Tk}{o:Nat}{l:Int}(h:ts[s]? =some (tk,o)):CN w B 8 439 [.ref 0,.int l] (rdr t ts s 100 b) (deepX o) (rdr t ts s 100 b):=
 CN.of (F_ActionReader_expression2 W) rfl (fl:=.ex _ _ _) λn hn e L=>
  wayX (okX W) (or:=[.call [0,1] (deepX o) (rdr t ts s 100 b)]) (aI (c_enter_x b W R h n (by lia)) trivial)
theorem c_condition (W:Wd w B)(R:Rok t ts){N:List D}{k s' o o':Nat}{b':Int}(h:ts[s]? =some (.sign "(",o))(hx:CN w B k 439 [.ref 0,.int 1] (rdr t ts (s+1) d b) (.ret (.dat (.tup N))) (rdr t ts s' d b'))(h':ts[s']? =some (.sign ")",o'))(hk:4<=k):
  CN w B (k+1) 418 [.ref 0] (rdr t ts s d b) (.ret (.dat (.tup N))) (rdr t ts (s'+1) d b'):=
 CN.of (F_ActionReader_condition1 W) rfl (fl:=.ret _) λn hn e L=>
  way (okX W) (or:=[.call [0,1] (.ret .none) (rdr t ts (s+1) d b),.call [0,1] (.ret (.dat (.tup N))) (rdr t ts s' d b'),.call [0,1] (.ret .none) (rdr t ts (s'+1) d b')])
   (aI (c_need d b W R h "(" (by kernel_rfl) n (by lia)) (aI (hx n hn) (aI (c_need d b' W R h' ")" (by kernel_rfl) n (by lia)) trivial)))
theorem c_condition_x (W:Wd w B)(R:Rok t ts){k o o':Nat}(h:ts[s]? =some (.sign "(",o))(hx:CN w B k 439 [.ref 0,.int 1] (rdr t ts (s+1) d b) (deepX o') (rdr t ts (s+1) d b))(hk:4<=k):
  CN w B (k+1) 418 [.ref 0] (rdr t ts s d b) (deepX o') (rdr t ts s d b):=
 CN.of (F_ActionReader_condition1 W) rfl (fl:=.ex _ _ _) λn hn e L=>
  wayX (okX W) (or:=[.call [0,1] (.ret .none) (rdr t ts (s+1) d b),.call [0,1] (deepX o') (rdr t ts (s+1) d b)])
   (aI (c_need d b W R h "(" (by kernel_rfl) n (by lia)) (aI (hx n hn) trivial))
theorem c_block (W:Wd w B)(R:Rok t ts)(hd:d≠100){N:List D}{k s' o o':Nat}{b':Int}(h:ts[s]? =some (.sign "{",o))(hx:CN w B k 404 [.ref 0] (rdr t ts (s+1) (d+1) b) (.ret (.dat (.lst N))) (rdr t ts s' (d+1) b'))(h':ts[s']? =some (.sign "}",o'))(hk:4<=k):
  CN w B (k+1) 411 [.ref 0] (rdr t ts s d b) (.ret (.dat (.lst N))) (rdr t ts (s'+1) d 1):=by
 have ed:d+1-1=d:=by lia
 suffices hx:CN w B (k+1) 411 [.ref 0] (rdr t ts s d b) (.ret (.dat (.lst N))) (rdr t ts (s'+1) (d+1-1) (0+1)) by rw[ed]at hx;exact hx
 exact CN.of (F_ActionReader_block1 W) rfl (fl:=.ret _) λn hn e L=>
  way (okX W) (or:=[.call [0,1] (.ret .none) (rdr t ts (s+1) d b),.call [0,1] (.ret .none) (rdr t ts (s+1) (d+1) b),.call [0,1] (.ret (.dat (.lst N))) (rdr t ts s' (d+1) b'),.call [0,1] (.ret .none) (rdr t ts s' (d+1-1) (0+1)),.call [0,1] (.ret .none) (rdr t ts (s'+1) (d+1-1) (0+1))])
   (aI (c_need d b W R h "{" (by kernel_rfl) n (by lia)) (aI (c_enter (s:=s+1) d b W R hd n (by lia)) (aI (hx n hn) (aI (c_leave (t:=t) (ts:=ts) (s:=s') (d+1) b' W 0 n (by lia)) (aI (c_need (d+1-1) (0+1) W R h' "}" (by kernel_rfl) n (by lia)) trivial)))))
theorem c_block_x (W:Wd w B)(R:Rok t ts)(hd:d≠100){k o o':Nat}(h:ts[s]? =some (.sign "{",o))(hx:CN w B k 404 [.ref 0] (rdr t ts (s+1) (d+1) b) (deepX o') (rdr t ts (s+1) (d+1) b))(hk:4<=k):
  CN w B (k+1) 411 [.ref 0] (rdr t ts s d b) (deepX o') (rdr t ts s d b):=
 CN.of (F_ActionReader_block1 W) rfl (fl:=.ex _ _ _) λn hn e L=>
  wayX (okX W) (or:=[.call [0,1] (.ret .none) (rdr t ts (s+1) d b),.call [0,1] (.ret .none) (rdr t ts (s+1) (d+1) b),.call [0,1] (deepX o') (rdr t ts (s+1) (d+1) b)])
   (aI (c_need d b W R h "{" (by kernel_rfl) n (by lia)) (aI (c_enter (s:=s+1) d b W R hd n (by lia)) (aI (hx n hn) trivial)))
noncomputable abbrev ssX (w:World)(B:Heap)(e:En)(L n:Nat):Cx:=cxt w B "ActionReader.statements" (dm 35 11) 404 (.ref 403) e L n
noncomputable abbrev ssW:Stmt:=stm (dm 35 11).body 1
theorem c_stmts0 (W:Wd w B)(R:Rok t ts){tk:Tk}{o:Nat}(h:ts[s]? =some (tk,o))(he:isEnd tk=true):CN w B 3 404 [.ref 0] (rdr t ts s d b) (.ret (.dat (.lst []))) (rdr t ts s d b):=by
 suffices h:CN w B 3 404 [.ref 0] (rdr t ts s d b) (.ret (.ref 2)) (rdr t ts s d b++[.list []]) by
  intro n hn
  have h2:CO w B n 404 [.ref 0] (rdr t ts s d b) (.ret (.dat (.lst []))) (rdr t ts s d b++[.dead]):=CallOK.frz (i:=2) (h n hn) rfl
  exact CallOK.trim (obj':=rdr t ts s d b) (extra:=[.dead]) h2 rfl rfl rfl
 exact CN.of (F_ActionReader_statements1 W) rfl (fl:=.ret _) λn hn e L=>by
  have hX:Ok (ssX w B e L n):=okX W
  have hT:TB (ssX w B e L n) (isTrue (whT ssW) (ssX w B e L n).f.env (eval (whT ssW) (ssX w B e L n).f.env)) ⟨[lv "self" (.ref 0),lv "found" (.ref 2)],rdr t ts s d b++[.list []]⟩ (.ok false) ⟨[lv "self" (.ref 0),lv "found" (.ref 2)],rdr t ts s d b++[.list []]⟩:=
   tst hX (or:=[.call [0,1] (.ret (.bool (isEnd tk))) (rdr t ts s d b),.br true]) (aI (c_is_closed d b W R h n (by lia)) (aI he trivial))
  have hF:=tf_whileS (s:=ssW) (by kernel_rfl) (tw_false (body:=whB ssW) hT)
  exact way hX (or:=[.suite .next ⟨[lv "self" (.ref 0),lv "found" (.ref 2)],rdr t ts s d b++[.list []]⟩]) (aI hF trivial)
theorem c_stmts1 (W:Wd w B)(R:Rok t ts){tk q:Tk}{o o' k s':Nat}{N:List D}{b':Int}(h:ts[s]? =some (tk,o))(he:isEnd tk=false)(hx:CN w B k 432 [.ref 0] (rdr t ts s d b) (.ret (.dat (.tup N))) (rdr t ts s' d b'))(h':ts[s']? =some (q,o'))(hq:isSg q ";" =false)(hk:4<=k):
  CN w B (k+1) 404 [.ref 0] (rdr t ts s d b) (.ret (.dat (.lst [.tup N]))) (rdr t ts s' d b'):=by
 suffices h:CN w B (k+1) 404 [.ref 0] (rdr t ts s d b) (.ret (.ref 2)) (rdr t ts s' d b'++[.list [.dat (.tup N)]]) by
  intro n hn
  have h2:CO w B n 404 [.ref 0] (rdr t ts s d b) (.ret (.dat (.lst [.tup N]))) (rdr t ts s' d b'++[.dead]):=CallOK.frz (i:=2) (h n hn) rfl
  exact CallOK.trim (obj':=rdr t ts s' d b') (extra:=[.dead]) h2 rfl rfl rfl
 exact CN.of (F_ActionReader_statements1 W) rfl (fl:=.ret _) λn hn e L=>by
  have hX:Ok (ssX w B e L n):=okX W
  have hT:TB (ssX w B e L n) (isTrue (whT ssW) (ssX w B e L n).f.env (eval (whT ssW) (ssX w B e L n).f.env)) ⟨[lv "self" (.ref 0),lv "found" (.ref 2)],rdr t ts s d b++[.list []]⟩ (.ok true) ⟨[lv "self" (.ref 0),lv "found" (.ref 2)],rdr t ts s d b++[.list []]⟩:=
   tst hX (or:=[.call [0,1] (.ret (.bool (isEnd tk))) (rdr t ts s d b),.br false]) (aI (c_is_closed d b W R h n (by lia)) (aI he trivial))
  have hB:TF (ssX w B e L n) (execs (whB ssW) (ssX w B e L n).f.env) ⟨[lv "self" (.ref 0),lv "found" (.ref 2)],rdr t ts s d b++[.list []]⟩ (.ret (.ref 2)) ⟨[lv "self" (.ref 0),lv "found" (.ref 2)],rdr t ts s' d b'++[.list [.dat (.tup N)]]⟩:=
   stp hX (or:=[.call [0,1] (.ret (.dat (.tup N))) (rdr t ts s' d b'),.call [0,1] (.ret (.bool false)) (rdr t ts s' d b')]) (aI (hx n hn) (aI (show([]:List AV).length<=sizeLine by simp) (aI (c_skip_no d b' W R h' ";" hq n (by lia)) trivial)))
  have hF:=tf_whileS (s:=ssW) (by kernel_rfl) (tw_ret hT hB)
  exact way hX (or:=[.suite (.ret (.ref 2)) ⟨[lv "self" (.ref 0),lv "found" (.ref 2)],rdr t ts s' d b'++[.list [.dat (.tup N)]]⟩]) (aI hF trivial)
theorem c_stmts2 (W:Wd w B)(R:Rok t ts){tk q:Tk}{o o' o'' k s':Nat}{N:List D}{b':Int}(h:ts[s]? =some (tk,o))(he:isEnd tk=false)(hx:CN w B k 432 [.ref 0] (rdr t ts s d b) (.ret (.dat (.tup N))) (rdr t ts s' d b'))(h':ts[s']? =some (.sign ";",o'))(h'':ts[s'+1]? =some (q,o''))(hq:isEnd q=true)(hk:4<=k):
  CN w B (k+1) 404 [.ref 0] (rdr t ts s d b) (.ret (.dat (.lst [.tup N]))) (rdr t ts (s'+1) d b'):=by
 suffices h:CN w B (k+1) 404 [.ref 0] (rdr t ts s d b) (.ret (.ref 2)) (rdr t ts (s'+1) d b'++[.list [.dat (.tup N)]]) by
  intro n hn
  have h2:CO w B n 404 [.ref 0] (rdr t ts s d b) (.ret (.dat (.lst [.tup N]))) (rdr t ts (s'+1) d b'++[.dead]):=CallOK.frz (i:=2) (h n hn) rfl
  exact CallOK.trim (obj':=rdr t ts (s'+1) d b') (extra:=[.dead]) h2 rfl rfl rfl
 exact CN.of (F_ActionReader_statements1 W) rfl (fl:=.ret _) λn hn e L=>by
  have hX:Ok (ssX w B e L n):=okX W
  have hT:TB (ssX w B e L n) (isTrue (whT ssW) (ssX w B e L n).f.env (eval (whT ssW) (ssX w B e L n).f.env)) ⟨[lv "self" (.ref 0),lv "found" (.ref 2)],rdr t ts s d b++[.list []]⟩ (.ok true) ⟨[lv "self" (.ref 0),lv "found" (.ref 2)],rdr t ts s d b++[.list []]⟩:=
   tst hX (or:=[.call [0,1] (.ret (.bool (isEnd tk))) (rdr t ts s d b),.br false]) (aI (c_is_closed d b W R h n (by lia)) (aI he trivial))
  have hB:TF (ssX w B e L n) (execs (whB ssW) (ssX w B e L n).f.env) ⟨[lv "self" (.ref 0),lv "found" (.ref 2)],rdr t ts s d b++[.list []]⟩ .next ⟨[lv "self" (.ref 0),lv "found" (.ref 2)],rdr t ts (s'+1) d b'++[.list [.dat (.tup N)]]⟩:=
   stp hX (or:=[.call [0,1] (.ret (.dat (.tup N))) (rdr t ts s' d b'),.call [0,1] (.ret (.bool true)) (rdr t ts (s'+1) d b')]) (aI (hx n hn) (aI (show([]:List AV).length<=sizeLine by simp) (aI (c_skip d b' W R h' ";" (by kernel_rfl) n (by lia)) trivial)))
  have hT2:TB (ssX w B e L n) (isTrue (whT ssW) (ssX w B e L n).f.env (eval (whT ssW) (ssX w B e L n).f.env)) ⟨[lv "self" (.ref 0),lv "found" (.ref 2)],rdr t ts (s'+1) d b'++[.list [.dat (.tup N)]]⟩ (.ok false) ⟨[lv "self" (.ref 0),lv "found" (.ref 2)],rdr t ts (s'+1) d b'++[.list [.dat (.tup N)]]⟩:=
   tst hX (or:=[.call [0,1] (.ret (.bool (isEnd q))) (rdr t ts (s'+1) d b'),.br true]) (aI (c_is_closed d b' W R h'' n (by lia)) (aI hq trivial))
  have hF:=tf_whileS (s:=ssW) (by kernel_rfl) (tw_true hT hB (tw_false hT2))
  exact way hX (or:=[.suite .next ⟨[lv "self" (.ref 0),lv "found" (.ref 2)],rdr t ts (s'+1) d b'++[.list [.dat (.tup N)]]⟩]) (aI hF trivial)
theorem c_stmts_x (W:Wd w B)(R:Rok t ts){tk:Tk}{o o' k:Nat}(h:ts[s]? =some (tk,o))(he:isEnd tk=false)(hx:CN w B k 432 [.ref 0] (rdr t ts s d b) (deepX o') (rdr t ts s d b))(hk:4<=k):
  CN w B (k+1) 404 [.ref 0] (rdr t ts s d b) (deepX o') (rdr t ts s d b):=
 CN.of (F_ActionReader_statements1 W) rfl (fl:=.ex _ _ _) λn hn e L=>by
  have hX:Ok (ssX w B e L n):=okX W
  have hT:TB (ssX w B e L n) (isTrue (whT ssW) (ssX w B e L n).f.env (eval (whT ssW) (ssX w B e L n).f.env)) ⟨[lv "self" (.ref 0),lv "found" (.ref 2)],rdr t ts s d b++[.list []]⟩ (.ok true) ⟨[lv "self" (.ref 0),lv "found" (.ref 2)],rdr t ts s d b++[.list []]⟩:=
   tst hX (or:=[.call [0,1] (.ret (.bool (isEnd tk))) (rdr t ts s d b),.br false]) (aI (c_is_closed d b W R h n (by lia)) (aI he trivial))
  have hB:TF (ssX w B e L n) (execs (whB ssW) (ssX w B e L n).f.env) ⟨[lv "self" (.ref 0),lv "found" (.ref 2)],rdr t ts s d b++[.list []]⟩ (.ex 95 ["what","at"] [.str tooMany,posD o']) ⟨[],[]⟩:=
   stpX hX (or:=[.call [0,1] (deepX o') (rdr t ts s d b)]) (aI (hx n hn) trivial)
  have hF:=tf_whileS (s:=ssW) (by kernel_rfl) (tw_x rfl hT hB)
  exact wayX hX (or:=[.suite (.ex 95 ["what","at"] [.str tooMany,posD o']) ⟨[],[]⟩]) (aI hF trivial)
end
section
variable {w:World}{B:Heap}{t:Str}{ts:Toks}{s:Nat}(d b:Int)
noncomputable def isElse:Tk->Bool
 | .name x=>decide (x= "else")
 |_=>false
theorem c_choice (W:Wd w B)(R:Rok t ts){N:List D}{Y:List D}{k s' s'' o:Nat}{b' b'':Int}{q:Tk}(hc:CN w B k 418 [.ref 0] (rdr t ts s d b) (.ret (.dat (.tup N))) (rdr t ts s' d b'))(hb:CN w B k 411 [.ref 0] (rdr t ts s' d b') (.ret (.dat (.lst Y))) (rdr t ts s'' d b''))
  (h:ts[s'']? =some (q,o)) (hq:isElse q=false) (hk:4<=k):
  CN w B (k+1) 425 [.ref 0] (rdr t ts s d b) (.ret (.dat (.tup [.str "if",.tup N,.lst Y,.lst []]))) (rdr t ts s'' d b''):=
 CN.of (F_ActionReader_choice1 W) rfl (fl:=.ret _) λn hn e L=>by
  have hh:=c_here d b'' W R h n (by lia)
  cases q with
  |name x=>exact way (okX W) (or:=[.call [0,1] (.ret (.dat (.tup N))) (rdr t ts s' d b'),.call [0,1] (.ret (.dat (.lst Y))) (rdr t ts s'' d b''),.fz,.call [0,1] (.ret (.dat ((Tk.name x).D o))) (rdr t ts s'' d b''),.go,.call [0,1] (.ret (.dat ((Tk.name x).D o))) (rdr t ts s'' d b''),.br false]) (aI (hc n hn) (aI (hb n hn) (aI hh (aI hh (aI hq trivial)))))
  |fin=>exact way (okX W) (or:=[.call [0,1] (.ret (.dat (.tup N))) (rdr t ts s' d b'),.call [0,1] (.ret (.dat (.lst Y))) (rdr t ts s'' d b''),.fz,.call [0,1] (.ret (.dat (Tk.fin.D o))) (rdr t ts s'' d b'')]) (aI (hc n hn) (aI (hb n hn) (aI hh trivial)))
  |own=>exact way (okX W) (or:=[.call [0,1] (.ret (.dat (.tup N))) (rdr t ts s' d b'),.call [0,1] (.ret (.dat (.lst Y))) (rdr t ts s'' d b''),.fz,.call [0,1] (.ret (.dat (Tk.own.D o))) (rdr t ts s'' d b'')]) (aI (hc n hn) (aI (hb n hn) (aI hh trivial)))
  |num x=>exact way (okX W) (or:=[.call [0,1] (.ret (.dat (.tup N))) (rdr t ts s' d b'),.call [0,1] (.ret (.dat (.lst Y))) (rdr t ts s'' d b''),.fz,.call [0,1] (.ret (.dat ((Tk.num x).D o))) (rdr t ts s'' d b'')]) (aI (hc n hn) (aI (hb n hn) (aI hh trivial)))
  |sign x=>exact way (okX W) (or:=[.call [0,1] (.ret (.dat (.tup N))) (rdr t ts s' d b'),.call [0,1] (.ret (.dat (.lst Y))) (rdr t ts s'' d b''),.fz,.call [0,1] (.ret (.dat ((Tk.sign x).D o))) (rdr t ts s'' d b'')]) (aI (hc n hn) (aI (hb n hn) (aI hh trivial)))
theorem c_choice2 (W:Wd w B)(R:Rok t ts){N:List D}{Y Z:List D}{k s' s'' s3 o:Nat}{b' b'' b3:Int}(hc:CN w B k 418 [.ref 0] (rdr t ts s d b) (.ret (.dat (.tup N))) (rdr t ts s' d b'))(hb:CN w B k 411 [.ref 0] (rdr t ts s' d b') (.ret (.dat (.lst Y))) (rdr t ts s'' d b''))
  (h:ts[s'']? =some (.name "else",o)) (hb2:CN w B k 411 [.ref 0] (rdr t ts (s''+1) d b'') (.ret (.dat (.lst Z))) (rdr t ts s3 d b3)) (hk:4<=k):
  CN w B (k+1) 425 [.ref 0] (rdr t ts s d b) (.ret (.dat (.tup [.str "if",.tup N,.lst Y,.lst Z]))) (rdr t ts s3 d b3):=
 CN.of (F_ActionReader_choice1 W) rfl (fl:=.ret _) λn hn e L=>by
  have hh:=c_here d b'' W R h n (by lia)
  exact way (okX W) (or:=[.call [0,1] (.ret (.dat (.tup N))) (rdr t ts s' d b'),.call [0,1] (.ret (.dat (.lst Y))) (rdr t ts s'' d b''),.fz,.call [0,1] (.ret (.dat ((Tk.name "else").D o))) (rdr t ts s'' d b''),.call [0,1] (.ret (.dat ((Tk.name "else").D o))) (rdr t ts s'' d b''),
   .call [0,1] (.ret (.dat ((Tk.name "else").D o))) (rdr t ts (s''+1) d b''),.call [0,1] (.ret (.dat (.lst Z))) (rdr t ts s3 d b3)]) (aI (hc n hn) (aI (hb n hn) (aI hh (aI hh (aI (c_take d b'' W R h n (by lia)) (aI (hb2 n hn) trivial))))))
theorem c_choice_x1 (W:Wd w B){k o:Nat}(hc:CN w B k 418 [.ref 0] (rdr t ts s d b) (deepX o) (rdr t ts s d b)):CN w B (k+1) 425 [.ref 0] (rdr t ts s d b) (deepX o) (rdr t ts s d b):=
 CN.of (F_ActionReader_choice1 W) rfl (fl:=.ex _ _ _) λn hn e L=>wayX (okX W) (or:=[.call [0,1] (deepX o) (rdr t ts s d b)]) (aI (hc n hn) trivial)
theorem c_choice_x2 (W:Wd w B){N:List D}{k s' o:Nat}{b':Int}(hc:CN w B k 418 [.ref 0] (rdr t ts s d b) (.ret (.dat (.tup N))) (rdr t ts s' d b'))(hb:CN w B k 411 [.ref 0] (rdr t ts s' d b') (deepX o) (rdr t ts s' d b')):CN w B (k+1) 425 [.ref 0] (rdr t ts s d b) (deepX o) (rdr t ts s d b):=
 CN.of (F_ActionReader_choice1 W) rfl (fl:=.ex _ _ _) λn hn e L=>wayX (okX W) (or:=[.call [0,1] (.ret (.dat (.tup N))) (rdr t ts s' d b'),.call [0,1] (deepX o) (rdr t ts s' d b')]) (aI (hc n hn) (aI (hb n hn) trivial))
theorem c_choice_x3 (W:Wd w B)(R:Rok t ts){N:List D}{Y:List D}{k s' s'' o o':Nat}{b' b'':Int}(hc:CN w B k 418 [.ref 0] (rdr t ts s d b) (.ret (.dat (.tup N))) (rdr t ts s' d b'))(hb:CN w B k 411 [.ref 0] (rdr t ts s' d b') (.ret (.dat (.lst Y))) (rdr t ts s'' d b''))
  (h:ts[s'']? =some (.name "else",o)) (hb2:CN w B k 411 [.ref 0] (rdr t ts (s''+1) d b'') (deepX o') (rdr t ts (s''+1) d b'')) (hk:4<=k):
  CN w B (k+1) 425 [.ref 0] (rdr t ts s d b) (deepX o') (rdr t ts s d b):=
 CN.of (F_ActionReader_choice1 W) rfl (fl:=.ex _ _ _) λn hn e L=>by
  have hh:=c_here d b'' W R h n (by lia)
  exact wayX (okX W) (or:=[.call [0,1] (.ret (.dat (.tup N))) (rdr t ts s' d b'),.call [0,1] (.ret (.dat (.lst Y))) (rdr t ts s'' d b''),.fz,.call [0,1] (.ret (.dat ((Tk.name "else").D o))) (rdr t ts s'' d b''),.call [0,1] (.ret (.dat ((Tk.name "else").D o))) (rdr t ts s'' d b''),
   .call [0,1] (.ret (.dat ((Tk.name "else").D o))) (rdr t ts (s''+1) d b''),.call [0,1] (deepX o') (rdr t ts (s''+1) d b'')]) (aI (hc n hn) (aI (hb n hn) (aI hh (aI hh (aI (c_take d b'' W R h n (by lia)) (aI (hb2 n hn) trivial))))))
theorem c_st_set (W:Wd w B)(R:Rok t ts){N:List D}{k s' o o':Nat}{b':Int}(h:ts[s]? =some (.own,o))(h':ts[s+1]? =some (.sign "=",o'))(hx:CN w B k 439 [.ref 0,.int 1] (rdr t ts (s+2) d b) (.ret (.dat (.tup N))) (rdr t ts s' d b'))(hk:4<=k):
  CN w B (k+1) 432 [.ref 0] (rdr t ts s d b) (.ret (.dat (.tup [.str "set",.tup N]))) (rdr t ts s' d b'):=
 CN.of (F_ActionReader_statement1 W) rfl (fl:=.ret _) λn hn e L=>
  way (okX W) (or:=[.call [0,1] (.ret (.dat (Tk.own.D o))) (rdr t ts s d b),.call [0,1] (.ret (.bool (decide (("=" :Str)= "=")))) (rdr t ts s d b),.call [0,1] (.ret (.dat (.tup N))) (rdr t ts s' d b')])
   (aI (c_here d b W R h n (by lia)) (aI (c_is_sign1 d b W R h' "=" n (by lia)) (aI (hx n hn) trivial)))
theorem c_st_set_x (W:Wd w B)(R:Rok t ts){k o o' o'':Nat}(h:ts[s]? =some (.own,o))(h':ts[s+1]? =some (.sign "=",o'))(hx:CN w B k 439 [.ref 0,.int 1] (rdr t ts (s+2) d b) (deepX o'') (rdr t ts (s+2) d b))(hk:4<=k):
  CN w B (k+1) 432 [.ref 0] (rdr t ts s d b) (deepX o'') (rdr t ts s d b):=
 CN.of (F_ActionReader_statement1 W) rfl (fl:=.ex _ _ _) λn hn e L=>
  wayX (okX W) (or:=[.call [0,1] (.ret (.dat (Tk.own.D o))) (rdr t ts s d b),.call [0,1] (.ret (.bool (decide (("=" :Str)= "=")))) (rdr t ts s d b),.call [0,1] (deepX o'') (rdr t ts (s+2) d b)])
   (aI (c_here d b W R h n (by lia)) (aI (c_is_sign1 d b W R h' "=" n (by lia)) (aI (hx n hn) trivial)))
theorem c_st_if (W:Wd w B)(R:Rok t ts){N:List D}{k s' o:Nat}{b':Int}(h:ts[s]? =some (.name "if",o))(hx:CN w B k 425 [.ref 0] (rdr t ts (s+1) d b) (.ret (.dat (.tup N))) (rdr t ts s' d b'))(hk:4<=k):
  CN w B (k+1) 432 [.ref 0] (rdr t ts s d b) (.ret (.dat (.tup N))) (rdr t ts s' d b'):=
 CN.of (F_ActionReader_statement1 W) rfl (fl:=.ret _) λn hn e L=>
  way (okX W) (or:=[.call [0,1] (.ret (.dat ((Tk.name "if").D o))) (rdr t ts s d b),.call [0,1] (.ret (.dat ((Tk.name "if").D o))) (rdr t ts (s+1) d b),.call [0,1] (.ret (.dat (.tup N))) (rdr t ts s' d b')])
   (aI (c_here d b W R h n (by lia)) (aI (c_take d b W R h n (by lia)) (aI (hx n hn) trivial)))
theorem c_st_if_x (W:Wd w B)(R:Rok t ts){k o o':Nat}(h:ts[s]? =some (.name "if",o))(hx:CN w B k 425 [.ref 0] (rdr t ts (s+1) d b) (deepX o') (rdr t ts (s+1) d b))(hk:4<=k):
  CN w B (k+1) 432 [.ref 0] (rdr t ts s d b) (deepX o') (rdr t ts s d b):=
 CN.of (F_ActionReader_statement1 W) rfl (fl:=.ex _ _ _) λn hn e L=>
  wayX (okX W) (or:=[.call [0,1] (.ret (.dat ((Tk.name "if").D o))) (rdr t ts s d b),.call [0,1] (.ret (.dat ((Tk.name "if").D o))) (rdr t ts (s+1) d b),.call [0,1] (deepX o') (rdr t ts (s+1) d b)])
   (aI (c_here d b W R h n (by lia)) (aI (c_take d b W R h n (by lia)) (aI (hx n hn) trivial)))
theorem c_st_wh (W:Wd w B)(R:Rok t ts){N Y:List D}{k s' s'' o:Nat}{b' b'':Int}(h:ts[s]? =some (.name "while",o))(hc:CN w B k 418 [.ref 0] (rdr t ts (s+1) d b) (.ret (.dat (.tup N))) (rdr t ts s' d b'))(hb:CN w B k 411 [.ref 0] (rdr t ts s' d b') (.ret (.dat (.lst Y))) (rdr t ts s'' d b''))(hk:4<=k):
  CN w B (k+1) 432 [.ref 0] (rdr t ts s d b) (.ret (.dat (.tup [.str "while",.tup N,.lst Y]))) (rdr t ts s'' d b''):=
 CN.of (F_ActionReader_statement1 W) rfl (fl:=.ret _) λn hn e L=>
  way (okX W) (or:=[.call [0,1] (.ret (.dat ((Tk.name "while").D o))) (rdr t ts s d b),.call [0,1] (.ret (.dat ((Tk.name "while").D o))) (rdr t ts (s+1) d b),.call [0,1] (.ret (.dat (.tup N))) (rdr t ts s' d b'),.call [0,1] (.ret (.dat (.lst Y))) (rdr t ts s'' d b'')])
   (aI (c_here d b W R h n (by lia)) (aI (c_take d b W R h n (by lia)) (aI (hc n hn) (aI (hb n hn) trivial))))
theorem c_st_wh_x1 (W:Wd w B)(R:Rok t ts){k o o':Nat}(h:ts[s]? =some (.name "while",o))(hc:CN w B k 418 [.ref 0] (rdr t ts (s+1) d b) (deepX o') (rdr t ts (s+1) d b))(hk:4<=k):
  CN w B (k+1) 432 [.ref 0] (rdr t ts s d b) (deepX o') (rdr t ts s d b):=
 CN.of (F_ActionReader_statement1 W) rfl (fl:=.ex _ _ _) λn hn e L=>
  wayX (okX W) (or:=[.call [0,1] (.ret (.dat ((Tk.name "while").D o))) (rdr t ts s d b),.call [0,1] (.ret (.dat ((Tk.name "while").D o))) (rdr t ts (s+1) d b),.call [0,1] (deepX o') (rdr t ts (s+1) d b)])
   (aI (c_here d b W R h n (by lia)) (aI (c_take d b W R h n (by lia)) (aI (hc n hn) trivial)))
theorem c_st_wh_x2 (W:Wd w B)(R:Rok t ts){N:List D}{k s' o o':Nat}{b':Int}(h:ts[s]? =some (.name "while",o))(hc:CN w B k 418 [.ref 0] (rdr t ts (s+1) d b) (.ret (.dat (.tup N))) (rdr t ts s' d b'))(hb:CN w B k 411 [.ref 0] (rdr t ts s' d b') (deepX o') (rdr t ts s' d b'))(hk:4<=k):
  CN w B (k+1) 432 [.ref 0] (rdr t ts s d b) (deepX o') (rdr t ts s d b):=
 CN.of (F_ActionReader_statement1 W) rfl (fl:=.ex _ _ _) λn hn e L=>
  wayX (okX W) (or:=[.call [0,1] (.ret (.dat ((Tk.name "while").D o))) (rdr t ts s d b),.call [0,1] (.ret (.dat ((Tk.name "while").D o))) (rdr t ts (s+1) d b),.call [0,1] (.ret (.dat (.tup N))) (rdr t ts s' d b'),.call [0,1] (deepX o') (rdr t ts s' d b')])
   (aI (c_here d b W R h n (by lia)) (aI (c_take d b W R h n (by lia)) (aI (hc n hn) (aI (hb n hn) trivial))))
theorem c_whole (W:Wd w B)(R:Rok t ts){Y:List D}{k s' o:Nat}{b':Int}(hx:CN w B k 404 [.ref 0] (rdr t ts s d b) (.ret (.dat (.lst Y))) (rdr t ts s' d b'))(h:ts[s']? =some (.fin,o))(hk:4<=k):
  CN w B (k+1) 390 [.ref 0] (rdr t ts s d b) (.ret (.dat (.lst Y))) (rdr t ts s' d b'):=
 CN.of (F_ActionReader_whole1 W) rfl (fl:=.ret _) λn hn e L=>
  way (okX W) (or:=[.call [0,1] (.ret (.dat (.lst Y))) (rdr t ts s' d b'),.call [0,1] (.ret (.dat (Tk.fin.D o))) (rdr t ts s' d b')])
   (aI (hx n hn) (aI (c_here d b' W R h n (by lia)) trivial))
theorem c_whole_x (W:Wd w B){k o:Nat}(hx:CN w B k 404 [.ref 0] (rdr t ts s d b) (deepX o) (rdr t ts s d b)):CN w B (k+1) 390 [.ref 0] (rdr t ts s d b) (deepX o) (rdr t ts s d b):=
 CN.of (F_ActionReader_whole1 W) rfl (fl:=.ex _ _ _) λn hn e L=>wayX (okX W) (or:=[.call [0,1] (deepX o) (rdr t ts s d b)]) (aI (hx n hn) trivial)
end
inductive Sx where
 |set (x:Xt)
 |iff (s:Sx)
 |whl (s:Sx)
 |els (m:Bool) (s:Sx)
noncomputable abbrev Sx.ctorIdx (x:Sx):Nat:= @Sx.casesOn (λ_=>Nat) x (λ_=>0) (λ_=>1) (λ_=>2) (λ_ _=>3)
noncomputable def semi:Bool->List Tk
 |true=>[.sign ";"]
 |false=>[]
noncomputable def Sx.tk:Sx->List Tk
 | .set x=>.own:: .sign "=" ::x.tk
 | .iff s=>.name "if" :: .sign "(" :: .num 1:: .sign ")" :: .sign "{" ::(s.tk++[.sign "}"])
 | .whl s=>.name "while" :: .sign "(" :: .name "u" :: .sign ")" :: .sign "{" ::(s.tk++[.sign "}"])
 | .els m s=>.name "if" :: .sign "(" :: .name "u" :: .sign ")" :: .sign "{" :: .sign "}" :: .name "else" :: .sign "{" ::(s.tk++(semi m++[.sign "}"]))
noncomputable abbrev n1:List D:=[.str "number",.int 1]
noncomputable def Sx.nodeL:Sx->List D
 | .set x=>[.str "set",.tup x.nodeL]
 | .iff s=>[.str "if",.tup n1,.lst [.tup s.nodeL],.lst []]
 | .whl s=>[.str "while",.tup nU,.lst [.tup s.nodeL]]
 | .els _ s=>[.str "if",.tup nU,.lst [],.lst [.tup s.nodeL]]
noncomputable def Sx.dep:Sx->Int
 | .set x=>x.inn+1
 | .iff s=>s.dep+1
 | .whl s=>s.dep+1
 | .els _ s=>s.dep+1
noncomputable def Sx.bl:Sx->Int
 | .set x=>x.inn+1
 |_=>1
noncomputable def Sx.kS:Sx->Nat
 | .set x=>x.kU+2
 | .iff s=>s.kS+4
 | .whl s=>s.kS+4
 | .els _ s=>s.kS+4
noncomputable def Sx.ok:Sx->Bool
 | .set x=>x.ok
 | .iff s=>s.ok
 | .whl s=>s.ok
 | .els _ s=>s.ok
theorem Sx.kS13:∀s:Sx,13<=s.kS
 | .set x=>by have:=x.kU11;unfold kS;lia
 | .iff s=>by have:=s.kS13;unfold kS;lia
 | .whl s=>by have:=s.kS13;unfold kS;lia
 | .els _ s=>by have:=s.kS13;unfold kS;lia
theorem Sx.dep1:∀s:Sx,1<=s.dep
 | .set x=>by have:=x.inn0;unfold dep;lia
 | .iff s=>by have:=s.dep1;unfold dep;lia
 | .whl s=>by have:=s.dep1;unfold dep;lia
 | .els _ s=>by have:=s.dep1;unfold dep;lia
theorem Sx.first {ts:Toks}{p:Nat}:∀ {s:Sx},Seg ts p s.tk->∃k o,ts[p]? =some (k,o)/\isEnd k=false
 | .set x,⟨⟨o,h⟩,_⟩=>⟨_,o,h,rfl⟩
 | .iff s,⟨⟨o,h⟩,_⟩=>⟨_,o,h,rfl⟩
 | .whl s,⟨⟨o,h⟩,_⟩=>⟨_,o,h,rfl⟩
 | .els m s,⟨⟨o,h⟩,_⟩=>⟨_,o,h,rfl⟩
theorem end_closer {z:Tk}(h:isEnd z=true):closer z=true/\isSg z ";" =false:=by
 cases z with
 |fin=>exact⟨rfl,rfl⟩
 |sign x=>
  have:x= "}" :=of_decide_eq_true h
  subst this
  exact⟨by kernel_rfl,by kernel_rfl⟩
 |_=>cases h
theorem closer_else {q:Tk}(h:closer q=true):isElse q=false:=by cases q<;>first|rfl|cases h
section
variable {w:World}{B:Heap}{t:Str}{ts:Toks}
def StP (w:World)(B:Heap)(t:Str)(ts:Toks)(s:Sx):Prop:=∀ (p:Nat) (d:Int),d<=100->Seg ts p s.tk->(∃q o,ts[p+s.tk.length]? =some (q,o)/\closer q=true)->
  (d+s.dep<=100->∀b,CN w B s.kS 432 [.ref 0] (rdr t ts p d b) (.ret (.dat (.tup s.nodeL))) (rdr t ts (p+s.tk.length) d s.bl))/\
  (100<d+s.dep->∃j o tk,p<j/\j<p+s.tk.length/\ts[j]? =some (tk,o)/\∀b,CN w B s.kS 432 [.ref 0] (rdr t ts p d b) (deepX o) (rdr t ts p d b))
theorem stmts_ok (W:Wd w B)(R:Rok t ts){s:Sx}(P:StP w B t ts s){p:Nat}{d:Int}{m:Bool}{z:Tk}{oz:Nat}(hd:d<=100)(hs:Seg ts p (s.tk++semi m))(hz:ts[p+s.tk.length+(semi m).length]? =some (z,oz))(hz':isEnd z=true):
  (d+s.dep<=100->∀b,CN w B (s.kS+1) 404 [.ref 0] (rdr t ts p d b) (.ret (.dat (.lst [.tup s.nodeL]))) (rdr t ts (p+s.tk.length+(semi m).length) d s.bl))/\
  (100<d+s.dep->∃j o tk,p<j/\j<p+s.tk.length/\ts[j]? =some (tk,o)/\∀b,CN w B (s.kS+1) 404 [.ref 0] (rdr t ts p d b) (deepX o) (rdr t ts p d b)):=by
 obtain⟨h1,h2⟩:=Seg.app.mp hs
 obtain⟨k,o,f1,f2⟩:=Sx.first h1
 have hk:=s.kS13
 obtain⟨hc,hn⟩:=end_closer hz'
 cases m with
 |false=>
  have hz:ts[p+s.tk.length]? =some (z,oz):=hz
  obtain⟨P1,P2⟩:=P p d hd h1 ⟨z,oz,hz,hc⟩
  refine⟨λh b=>c_stmts1 d b W R f1 f2 (P1 h b) hz hn (by lia),λh=>?_⟩
  obtain⟨j,o₁,tk,j1,j2,j3,hB⟩:=P2 h
  exact⟨j,o₁,tk,j1,j2,j3,λb=>c_stmts_x d b W R f1 f2 (hB b) (by lia)⟩
 |true=>
  obtain⟨⟨o',h2⟩,_⟩:=h2
  have hz:ts[p+s.tk.length+1]? =some (z,oz):=hz
  obtain⟨P1,P2⟩:=P p d hd h1 ⟨_,o',h2,by kernel_rfl⟩
  refine⟨λh b=>c_stmts2 d b W R f1 f2 (P1 h b) h2 hz hz' (by lia),λh=>?_⟩
  obtain⟨j,o₁,tk,j1,j2,j3,hB⟩:=P2 h
  exact⟨j,o₁,tk,j1,j2,j3,λb=>c_stmts_x d b W R f1 f2 (hB b) (by lia)⟩
theorem block_ok (W:Wd w B)(R:Rok t ts){s:Sx}(P:StP w B t ts s){p:Nat}{d:Int}{m:Bool}(hd:d<100)(hs:Seg ts p (.sign "{" ::(s.tk++(semi m++[.sign "}"])))):
  (d+1+s.dep<=100->∀b,CN w B (s.kS+2) 411 [.ref 0] (rdr t ts p d b) (.ret (.dat (.lst [.tup s.nodeL]))) (rdr t ts (p+1+s.tk.length+(semi m).length+1) d 1))/\
  (100<d+1+s.dep->∃j o tk,p<j/\j<p+1+s.tk.length/\ts[j]? =some (tk,o)/\∀b,CN w B (s.kS+2) 411 [.ref 0] (rdr t ts p d b) (deepX o) (rdr t ts p d b)):=by
 obtain⟨⟨o,h⟩,h2⟩:=hs
 rw[<-List.append_assoc]at h2
 obtain⟨h2,⟨o',h3⟩,_⟩:=Seg.app.mp h2
 rw[List.length_append,<-Nat.add_assoc]at h3
 have hk:=s.kS13
 obtain⟨S1,S2⟩:=stmts_ok W R P (p:=p+1) (d:=d+1) (m:=m) (by lia) h2 h3 (by kernel_rfl)
 refine⟨λh1 b=>c_block d b W R (by lia) h (S1 h1 b) h3 (by lia),λh1=>?_⟩
 obtain⟨j,o₁,tk,j1,j2,j3,hB⟩:=S2 h1
 exact⟨j,o₁,tk,by lia,by lia,j3,λb=>c_block_x d b W R (by lia) h (hB b) (by lia)⟩
theorem cond_1 (W:Wd w B)(R:Rok t ts){p:Nat}{d:Int}(hd:d<=100)(hs:Seg ts p [.sign "(",.num 1,.sign ")"]):
  (d<100->∀b,CN w B 13 418 [.ref 0] (rdr t ts p d b) (.ret (.dat (.tup n1))) (rdr t ts (p+3) d 1))/\(d=100->∃o,ts[p+1]? =some (.num 1,o)/\∀b,CN w B 13 418 [.ref 0] (rdr t ts p d b) (deepX o) (rdr t ts p d b)):=by
 obtain⟨⟨o,h⟩,⟨o',h2⟩,⟨o'',h3⟩,_⟩:=hs
 refine⟨λh1 b=>?_,λh1=>⟨o',h2,λb=>?_⟩⟩
 ·have E:=((pex W R (.num 1) rfl).ex (p+1) d b 1 _ _ hd ⟨⟨o',h2⟩,trivial⟩ h3 (.inl (by kernel_rfl)) (.inl rfl)).1 (by show d+1+0<=100;lia)
  exact c_condition d b W R (N:=n1) h E h3 (by decide)
 ·subst h1
  exact(c_condition_x 100 b W R h (ex_100 b W R h2) (by decide)).up (by decide)
theorem cond_u (W:Wd w B)(R:Rok t ts){p:Nat}{d:Int}(hd:d<=100)(hs:Seg ts p [.sign "(",.name "u",.sign ")"]):
  (d<100->∀b,CN w B 13 418 [.ref 0] (rdr t ts p d b) (.ret (.dat (.tup nU))) (rdr t ts (p+3) d 1))/\(d=100->∃o,ts[p+1]? =some (.name "u",o)/\∀b,CN w B 13 418 [.ref 0] (rdr t ts p d b) (deepX o) (rdr t ts p d b)):=by
 obtain⟨⟨o,h⟩,⟨o',h2⟩,⟨o'',h3⟩,_⟩:=hs
 refine⟨λh1 b=>c_condition d b W R h (ex_u d b W R (by lia) h2 h3) h3 (by decide),λh1=>⟨o',h2,λb=>?_⟩⟩
 subst h1
 exact(c_condition_x 100 b W R h (ex_100 b W R h2) (by decide)).up (by decide)
theorem stp_set (W:Wd w B)(R:Rok t ts){x:Xt}(hx:x.ok=true):StP w B t ts (.set x):=λp d hd hs hq=>by
 obtain⟨⟨o,h⟩,⟨o',h2⟩,h3⟩:=hs
 obtain⟨q,oq,hq,hq'⟩:=hq
 have hl:p+(Sx.set x).tk.length=p+2+x.tk.length:=by simp[Sx.tk];lia
 rw[hl]at hq ⊢
 have hk:=x.kU11
 have E:=λb=>(pex W R x hx).ex (p+2) d b 1 q oq hd h3 hq (.inl hq') (.inl rfl)
 have hdp:(Sx.set x).dep=x.inn+1:=rfl
 refine⟨λh1 b=>c_st_set d b W R h h2 ((E b).1 (by lia)) (by lia),λh1=>?_⟩
 obtain⟨j,o₁,tk,j1,j2,j3,hB⟩:=(E 0).2 (by lia)
 exact⟨j,o₁,tk,by lia,by lia,j3,λb=>c_st_set_x d b W R h h2 (hB b) (by lia)⟩
theorem stp_iff (W:Wd w B)(R:Rok t ts){s:Sx}(P:StP w B t ts s):StP w B t ts (.iff s):=λp d hd hs hq=>by
 obtain⟨⟨o,h⟩,h2,h3,h4,h5⟩:=hs
 obtain⟨q,oq,hq,hq'⟩:=hq
 have hl:p+(Sx.iff s).tk.length=p+1+3+1+s.tk.length+1:=by simp[Sx.tk];lia
 rw[hl]at hq ⊢
 have hk:=s.kS13
 obtain⟨C1,C2⟩:=cond_1 W R (p:=p+1) hd ⟨h2,h3,h4,trivial⟩
 have hdp:(Sx.iff s).dep=s.dep+1:=rfl
 have h1:=s.dep1
 by_cases h100:d=100
 ·obtain⟨o₁,c1,c2⟩:=C2 h100
  refine⟨λh1=>by lia,λ_=>⟨p+1+1,o₁,_,by lia,by lia,c1,λb=>?_⟩⟩
  exact(c_st_if_x d b W R h (c_choice_x1 d b W (c2 b)) (by lia)).up (show 13+1+1<=s.kS+4 by lia)
 ·obtain⟨B1,B2⟩:=block_ok W R P (m:=false) (p:=p+1+3) (d:=d) (by lia) h5
  refine⟨λh1 b=>?_,λh1=>?_⟩
  ·exact c_st_if d b W R h (c_choice d b W R ((C1 (by lia) b).up (by lia)) (B1 (by lia) 1) hq (closer_else hq') (by lia)) (by lia)
  ·obtain⟨j,o₁,tk,j1,j2,j3,hB⟩:=B2 (by lia)
   exact⟨j,o₁,tk,by lia,by lia,j3,λb=>c_st_if_x d b W R h (c_choice_x2 d b W ((C1 (by lia) b).up (by lia)) (hB 1)) (by lia)⟩
theorem stp_whl (W:Wd w B)(R:Rok t ts){s:Sx}(P:StP w B t ts s):StP w B t ts (.whl s):=λp d hd hs hq=>by
 obtain⟨⟨o,h⟩,h2,h3,h4,h5⟩:=hs
 have hl:p+(Sx.whl s).tk.length=p+1+3+1+s.tk.length+1:=by simp[Sx.tk];lia
 rw[hl]
 have hk:=s.kS13
 obtain⟨C1,C2⟩:=cond_u W R (p:=p+1) hd ⟨h2,h3,h4,trivial⟩
 have hdp:(Sx.whl s).dep=s.dep+1:=rfl
 have h1:=s.dep1
 by_cases h100:d=100
 ·obtain⟨o₁,c1,c2⟩:=C2 h100
  refine⟨λh1=>by lia,λ_=>⟨p+1+1,o₁,_,by lia,by lia,c1,λb=>?_⟩⟩
  exact(c_st_wh_x1 d b W R h (c2 b) (by lia)).up (show 13+1<=s.kS+4 by lia)
 ·obtain⟨B1,B2⟩:=block_ok W R P (m:=false) (p:=p+1+3) (d:=d) (by lia) h5
  refine⟨λh1 b=>?_,λh1=>?_⟩
  ·exact(c_st_wh d b W R h ((C1 (by lia) b).up (by lia)) (B1 (by lia) 1) (by lia)).up (by show s.kS+2+1<=s.kS+4;lia)
  ·obtain⟨j,o₁,tk,j1,j2,j3,hB⟩:=B2 (by lia)
   exact⟨j,o₁,tk,by lia,by lia,j3,λb=>(c_st_wh_x2 d b W R h ((C1 (by lia) b).up (by lia)) (hB 1) (by lia)).up (by show s.kS+2+1<=s.kS+4;lia)⟩
theorem stp_els (W:Wd w B)(R:Rok t ts){m:Bool}{s:Sx}(P:StP w B t ts s):StP w B t ts (.els m s):=λp d hd hs hq=>by
 obtain⟨⟨o,h⟩,h2,h3,h4,⟨o5,h5⟩,⟨o6,h6⟩,⟨o7,h7⟩,h8⟩:=hs
 have hl:p+(Sx.els m s).tk.length=p+1+3+1+1+1+1+s.tk.length+(semi m).length+1:=by simp[Sx.tk];lia
 rw[hl]
 have hk:=s.kS13
 obtain⟨C1,C2⟩:=cond_u W R (p:=p+1) hd ⟨h2,h3,h4,trivial⟩
 have hdp:(Sx.els m s).dep=s.dep+1:=rfl
 have h1:=s.dep1
 by_cases h100:d=100
 ·obtain⟨o₁,c1,c2⟩:=C2 h100
  refine⟨λh1=>by lia,λ_=>⟨p+1+1,o₁,_,by lia,by lia,c1,λb=>?_⟩⟩
  exact(c_st_if_x d b W R h (c_choice_x1 d b W (c2 b)) (by lia)).up (show 13+1+1<=s.kS+4 by lia)
 ·obtain⟨B1,B2⟩:=block_ok W R P (m:=m) (p:=p+1+3+1+1+1) (d:=d) (by lia) h8
  have E:=c_block (s:=p+1+3) d 1 W R h100 h5 ((c_stmts0 (d+1) 1 W R h6 (by kernel_rfl)).up (show 3<=4 by decide)) h6 (by decide)
  refine⟨λh1 b=>?_,λh1=>?_⟩
  ·exact c_st_if d b W R h (c_choice2 d b W R ((C1 (by lia) b).up (by lia)) (E.up (show 4+1<=s.kS+2 by lia)) h7 (B1 (by lia) 1) (by lia)) (by lia)
  ·obtain⟨j,o₁,tk,j1,j2,j3,hB⟩:=B2 (by lia)
   exact⟨j,o₁,tk,by lia,by lia,j3,λb=>c_st_if_x d b W R h (c_choice_x3 d b W R ((C1 (by lia) b).up (by lia)) (E.up (show 4+1<=s.kS+2 by lia)) h7 (hB 1) (by lia)) (by lia)⟩
theorem stp_all (W:Wd w B)(R:Rok t ts):∀s:Sx,s.ok=true->StP w B t ts s
 | .set x,h=>stp_set W R h
 | .iff s,h=>stp_iff W R (stp_all W R s h)
 | .whl s,h=>stp_whl W R (stp_all W R s h)
 | .els m s,h=>stp_els W R (stp_all W R s h)
theorem whole_ok (W:Wd w B)(R:Rok t ts){s:Sx}(hs:s.ok=true)(h:Seg ts 0 s.tk){oz:Nat}(hz:ts[s.tk.length]? =some (.fin,oz)):
  (s.dep<=100->CN w B (s.kS+2) 390 [.ref 0] (rdr t ts 0 0 0) (.ret (.dat (.lst [.tup s.nodeL]))) (rdr t ts s.tk.length 0 s.bl))/\
  (100<s.dep->∃j o tk,0<j/\j<s.tk.length/\ts[j]? =some (tk,o)/\CN w B (s.kS+2) 390 [.ref 0] (rdr t ts 0 0 0) (deepX o) (rdr t ts 0 0 0)):=by
 have hk:=s.kS13
 have hz:ts[0+s.tk.length+(semi false).length]? =some (.fin,oz):=by rw[Nat.zero_add];exact hz
 obtain⟨S1,S2⟩:=stmts_ok W R (stp_all W R s hs) (p:=0) (d:=0) (m:=false) (by decide) (by show Seg ts 0 (s.tk++[]);rw[List.append_nil];exact h) hz rfl
 refine⟨λh1=>?_,λh1=>?_⟩
 ·have e:0+s.tk.length+(semi false).length=s.tk.length:=by rw[Nat.zero_add];rfl
  have S:=S1 (by lia) 0
  rw[e]at S hz
  exact c_whole 0 0 W R S hz (by lia)
 ·obtain⟨j,o₁,tk,j1,j2,j3,hB⟩:=S2 (by lia)
  exact⟨j,o₁,tk,j1,by lia,j3,c_whole_x 0 0 W (hB 0)⟩
end
end Mine
namespace Mine
open PySem PySem.W PyProof PyProof.Rows PySem.Calls PySem.Builtin.Str
noncomputable abbrev tx (l:List Nat):Str:=⟨l.toArray⟩
theorem slice_le {t:Str}{i j:Nat}(h:i<=j)(hj:j<=t.length):Txt.slice t (some (i:Int)) (some (j:Int))=tx ((t.cps.toList.drop i).take (j-i)):=by
 have z:=beq_iff_eq.mp (slice_closesL (x:=t) (Int.natCast_nonneg i) (Int.ofNat_le.mpr h) (Int.ofNat_le.mpr hj))
 rw[Int.toNat_natCast,<-Int.ofNat_sub h,Int.toNat_natCast]at z
 exact z
theorem slice_big {t:Str}{i:Int}{j:Nat}(hj:t.length<=j):Txt.slice t (some i) (some (j:Int))=Txt.slice t (some i) (some (t.length:Int)):=by
 have e:strSliceIndices (some i) (some (j:Int)) 1 t.length=strSliceIndices (some i) (some (t.length:Int)) 1 t.length:=by
  simp only[strSliceIndices,if_neg (Int.not_lt.mpr (Int.natCast_nonneg j)),if_neg (Int.not_lt.mpr (Int.natCast_nonneg t.length)),show((1:Int)>0) from by decide,if_true,Int.min_eq_right (Int.ofNat_le.mpr hj),Int.min_self]
 unfold Txt.slice
 rw[e]
theorem slice_take (t:Str)(i j:Nat)(h:i<=j)(hi:i<=t.length):Txt.slice t (some (i:Int)) (some (j:Int))=tx ((t.cps.toList.drop i).take (j-i)):=by
 by_cases hj:j<=t.length
 ·exact slice_le h hj
 ·have hj:=Nat.le_of_not_le hj
  rw[slice_big hj,slice_le hi (Nat.le_refl _)]
  have hl:(t.cps.toList.drop i).length<=t.length-i:=by rw[List.length_drop];exact Nat.le_refl _
  rw[List.take_of_length_le hl,List.take_of_length_le (Nat.le_trans hl (Nat.sub_le_sub_right hj i))]
theorem has_one (x:Str)(c:Nat):Txt.contains x (tx [c])=decide (c∈x.cps.toList):=StrLaws.found_one x c
theorem item_one {x:Str}{i c:Nat}(h:x.cps.toList[i]? =some c):Txt.item x (i:Int)=tx [c]:=item_meets (by lia) (by rw[Int.toNat_natCast];simpa using h)
def From (t:Str)(p:Nat)(l:List Nat):Prop:=t.cps.toList.drop p=l/\p<=t.length
theorem From.at {t:Str}{p:Nat}{l:List Nat}(h:From t p l)(i:Nat):t.cps.toList[p+i]? =l[i]? :=by rw[<-h.1,List.getElem?_drop]
theorem From.len {t:Str}{p:Nat}{l:List Nat}(h:From t p l):t.length=p+l.length:=by
 have h1:=h.2
 have:t.length=t.cps.toList.length:=by simp[Str.length]
 rw[<-h.1,List.length_drop];lia
theorem From.app {t:Str}{p:Nat}{a b:List Nat}(h:From t p (a++b)):From t (p+a.length) b:=by
 have h2:=h.len
 rw[List.length_append]at h2
 refine⟨?_,by lia⟩
 rw[<-List.drop_drop,h.1,List.drop_left]
theorem From.cons {t:Str}{p c:Nat}{b:List Nat}(h:From t p (c::b)):From t (p+1) b:=From.app (a:=[c]) h
theorem From.slice {t:Str}{p:Nat}{a b:List Nat}(h:From t p (a++b)):Txt.slice t (some (p:Int)) (some ((p+a.length:Nat):Int))=tx a:=by
 rw[slice_take _ _ _ (Nat.le_add_right _ _) h.2,h.1,Nat.add_sub_cancel_left,List.take_left]
theorem From.item {t:Str}{p c:Nat}{b:List Nat}(h:From t p (c::b)):Txt.item t (p:Int)=tx [c]:=item_one (by simpa using h.at 0)
end Mine
namespace Mine
open PySem PySem.W PyProof PyProof.Rows PySem.Calls PySem.SeqAt
section
variable {w:World}{B:Heap}{t:Str}{p:Nat}
noncomputable abbrev curs (t:Str)(p:Nat):List AO:=[.inst 234 1,.ns ["text","at"] [.str t,.int p]]
abbrev Short (t:Str):Prop:=t.length<1000000
theorem c_done (W:Wd w B)(ht:Short t):CN w B 1 131 [.ref 0] (curs t p) (.ret (.bool (decide ((p:Int)≥(t.length:Int))))) (curs t p):=
 CN.of (F_Cursor_is_done1 W) rfl (fl:=.ret _) λn hn e L=>way (okX W) (or:=[]) (aI (show(t.length:Int)<2^63 by lia) trivial)
theorem c_peek (W:Wd w B)(ht:Short t){c:Nat}{b:List Nat}(h:From t p (c::b)):CN w B 1 139 [.ref 0] (curs t p) (.ret (.str (tx [c]))) (curs t p):=by
 have hl:=h.len
 rw[List.length_cons]at hl
 rw[<-h.item]
 exact CN.of (F_Cursor_peek1 W) rfl (fl:=.ret _) λn hn e L=>way (okX W) (or:=[.br true,.br true])
  (aI (decide_eq_true (show(0:Int)<=(p:Int) by lia)) (aI (show(t.length:Int)<2^63 by lia) (aI (decide_eq_true (show(p:Int)< (t.length:Int) by lia)) (aI (show-(t.length:Int)<=(p:Int)/\(p:Int)<t.length/\(t.length:Int)<9223372036854775808 by lia) trivial))))
theorem c_starts (W:Wd w B)(ht:Short t)(x:Str)(hx:x.length<1000):CN w B 1 146 [.ref 0,.str x] (curs t p) (.ret (.bool (decide (Txt.slice t (some (p:Int)) (some ((p:Int)+(x.length:Int)))=x)))) (curs t p):=
 CN.of (F_Cursor_starts2 W) rfl (fl:=.ret _) λn hn e L=>way (okX W) (or:=[]) (aI (show(x.length:Int)<2^63 by lia) (aI (show t.length<=sizeLine by rw[sizeLine_eq];lia) trivial))
theorem From.starts {l:List Nat}(h:From t p l)(x:Str):Txt.slice t (some (p:Int)) (some ((p:Int)+(x.length:Int)))=tx (l.take x.length):=by
 have:=slice_take t p (p+x.length) (Nat.le_add_right _ _) h.2
 rw[Nat.add_sub_cancel_left,h.1]at this
 rw[<-this,Int.natCast_add]
theorem c_skip_yes (W:Wd w B)(ht:Short t){a b:List Nat}(h:From t p (a++b))(hx:a.length<1000):CN w B 2 160 [.ref 0,.str (tx a)] (curs t p) (.ret (.bool true)) (curs t (p+a.length)):=
 CN.of (F_Cursor_skip2 W) rfl (fl:=.ret _) λn hn e L=>
  way (okX W) (or:=[.call [0,1] (.ret (.bool (decide (Txt.slice t (some (p:Int)) (some ((p:Int)+((tx a).length:Int)))=tx a)))) (curs t p),.br true])
   (aI (c_starts (p:=p) W ht (tx a) (by show a.toArray.size<1000;simpa using hx) n (by lia)) (aI (show decide (Txt.slice t (some (p:Int)) (some ((p:Int)+((tx a).length:Int)))=tx a)=true from decide_eq_true (by rw[h.starts];show tx ((a++b).take a.toArray.size)=_;rw[List.size_toArray,List.take_left])) (aI (show((tx a).length:Int)<2^63 by show(a.toArray.size:Int)<_;rw[List.size_toArray];lia) trivial)))
theorem c_skip_not (W:Wd w B)(ht:Short t){l:List Nat}(h:From t p l)(x:Str)(hx:x.length<1000)(hn:decide (tx (l.take x.length)=x)=false):CN w B 2 160 [.ref 0,.str x] (curs t p) (.ret (.bool false)) (curs t p):=
 CN.of (F_Cursor_skip2 W) rfl (fl:=.ret _) λn hn' e L=>
  way (okX W) (or:=[.call [0,1] (.ret (.bool (decide (Txt.slice t (some (p:Int)) (some ((p:Int)+(x.length:Int)))=x)))) (curs t p),.br false])
   (aI (c_starts (p:=p) W ht x hx n (by lia)) (aI (show decide (Txt.slice t (some (p:Int)) (some ((p:Int)+(x.length:Int)))=x)=false by rw[h.starts];exact hn) trivial))
theorem c_take1 (W:Wd w B)(ht:Short t){c:Nat}{b:List Nat}(h:From t p (c::b)):CN w B 2 153 [.ref 0] (curs t p) (.ret (.str (tx [c]))) (curs t (p+1)):=by
 have hl:=h.len
 rw[List.length_cons]at hl
 rw[<-h.item]
 exact CN.of (F_Cursor_take1 W) rfl (fl:=.ret _) λn hn e L=>way (okX W) (or:=[.call [0,1] (.ret (.bool (decide ((p:Int)≥(t.length:Int))))) (curs t p),.br false])
  (aI (c_done (p:=p) W ht n (by lia)) (aI (decide_eq_false (show¬ (p:Int)≥(t.length:Int) by lia)) (aI (show-(t.length:Int)<=(p:Int)/\(p:Int)<t.length/\(t.length:Int)<9223372036854775808 by lia) trivial)))
noncomputable abbrev twX (w:World)(B:Heap)(e:En)(L n:Nat):Cx:=cxt w B "Cursor.take_while" (dm 15 6) 167 (.ref 166) e L n
noncomputable abbrev twW:Stmt:=stm (dm 15 6).body 1
noncomputable abbrev twL (g:Str)(b:Nat):Loc:=[lv "self" (.ref 0),lv "signs" (.str g),lv "begun" (.int b)]
noncomputable def Stops (g:Str):List Nat->Prop
 | []=>True
 |c::_=>c∉g.cps.toList
theorem tw_run (W:Wd w B)(ht:Short t)(g:Str)(e:En)(L n:Nat)(b₀:Nat):∀ (a b:List Nat) (p:Nat),From t p (a++b)->(∀c∈a,c∈g.cps.toList)->Stops g b->
  TW (twX w B e L n) (whT twW) (whB twW) ⟨twL g b₀,curs t p⟩ .next ⟨twL g b₀,curs t (p+a.length)⟩
 | [],b,p,h,_,hb=>by
  have hX:Ok (twX w B e L n):=okX W
  have hl:=h.len
  cases b with
  |nil=>exact tw_false (tst hX (or:=[.br false]) (aI (show(t.length:Int)<2^63 by lia) (aI (decide_eq_false (show¬ (p:Int)< (t.length:Int) by simp at hl;lia)) trivial)))
  |cons c b=>
   have hc:Txt.contains g (Txt.item t (p:Int))=false:=by rw[From.item (h:From t p (c::b)),has_one];exact decide_eq_false hb
   rw[List.nil_append,List.length_cons]at hl
   exact tw_false (tst hX (or:=[.br true,.br false]) (aI (show(t.length:Int)<2^63 by lia) (aI (decide_eq_true (show(p:Int)< (t.length:Int) by lia)) (aI (show-(t.length:Int)<=(p:Int)/\(p:Int)<t.length/\(t.length:Int)<9223372036854775808 by lia) (aI hc trivial)))))
 |c::a,b,p,h,ha,hb=>by
  have hX:Ok (twX w B e L n):=okX W
  have hl:=h.len
  rw[List.cons_append,List.length_cons]at hl
  have hc:Txt.contains g (Txt.item t (p:Int))=true:=by rw[From.item (h:From t p (c::(a++b))),has_one];exact decide_eq_true (ha c (.head _))
  have ih:=tw_run W ht g e L n b₀ a b (p+1) (From.cons h) (λc hc=>ha c (.tail _ hc)) hb
  rw[show p+(c::a).length=p+1+a.length by rw[List.length_cons];lia]
  exact tw_true (tst hX (or:=[.br true,.br true]) (c':=⟨twL g b₀,curs t p⟩) (aI (show(t.length:Int)<2^63 by lia) (aI (decide_eq_true (show(p:Int)< (t.length:Int) by lia)) (aI (show-(t.length:Int)<=(p:Int)/\(p:Int)<t.length/\(t.length:Int)<9223372036854775808 by lia) (aI hc trivial)))))
   (stp hX (or:=[]) trivial) ih
theorem c_take_while (W:Wd w B)(ht:Short t)(g:Str){a b:List Nat}(h:From t p (a++b))(ha:∀c∈a,c∈g.cps.toList)(hb:Stops g b):CN w B 1 167 [.ref 0,.str g] (curs t p) (.ret (.str (tx a))) (curs t (p+a.length)):=by
 rw[<-h.slice]
 refine CN.of (F_Cursor_take_while2 W) rfl (fl:=.ret _) λn hn e L=>?_
 have hX:Ok (twX w B e L n):=okX W
 have hF:=tf_whileS (s:=twW) (by kernel_rfl) (tw_run W ht g e L n p a b p h ha hb)
 exact way hX (or:=[.suite .next ⟨twL g p,curs t (p+a.length)⟩]) (aI hF (aI (show t.length<=sizeLine by rw[sizeLine_eq];lia) trivial))
theorem c_skip_blanks (W:Wd w B)(ht:Short t)(g:Str){a b:List Nat}(h:From t p (a++b))(ha:∀c∈a,c∈g.cps.toList)(hb:Stops g b):CN w B 2 182 [.ref 0,.str g] (curs t p) (.ret .none) (curs t (p+a.length)):=
 CN.of (F_Cursor_skip_blanks2 W) rfl (fl:=.next) λn hn e L=>way (okX W) (or:=[.call [0,1] (.ret (.str (tx a))) (curs t (p+a.length))]) (aI (c_take_while W ht g h ha hb n (by lia)) trivial)
end
noncomputable abbrev NS:Str:= "abcdefghijklmnopqrstuvwxyzABCDEFGHIJKLMNOPQRSTUVWXYZ_0123456789"
noncomputable abbrev FG:Str:= "0123456789"
noncomputable abbrev BL:Str:= " \t\n\r"
noncomputable abbrev S1:Str:= "+-*/%!<>=;,(){}[]"
section
variable {X:Cx}{loc loc':Loc}{obj:List AO}{c':St}{fl:Fl}
theorem TFo.forget {x:Str}{p:Pos}{body:List Stmt}{xs:List AV}{i:Nat}(hcl:X.f.cl=[])(h:Less loc' loc)(u:TFo X x p body xs i ⟨loc',obj⟩ fl c'):TFo X x p body xs i ⟨loc,obj⟩ fl c':=
 λP G₀ A ρ G s it o S sub rm fo pre i hP=>u P G₀ A ρ G s it o S sub rm fo pre (i.forget h) hP
end
theorem ne_nil (c:Nat)(l:List Nat):decide (tx (c::l)= "")=false:=decide_eq_false λh=>by
 have:=congrArg (λs:Str=>s.cps.size) h
 simp at this
 exact absurd this (by rw[show(Str.ofString "").cps.size=0 by kernel_rfl];lia)
section
variable {w:World}{B:Heap}{t:Str}{p:Nat}
theorem c_name_yes (W:Wd w B)(ht:Short t){c:Nat}{a b:List Nat}(h:From t p ((c::a)++b))(hc:c∈NS.cps.toList)(hf:c∉FG.cps.toList)(ha:∀c∈a,c∈NS.cps.toList)(hb:Stops NS b):
  CN w B 2 189 [.ref 0] (curs t p) (.ret (.str (tx (c::a)))) (curs t (p+(c::a).length)):=
 CN.of (F_Cursor_name1 W) rfl (fl:=.ret _) λn hn e L=>way (okX W) (or:=[.call [0,1] (.ret (.str (tx [c]))) (curs t p),.br false,.br false,.br false,.call [0,1] (.ret (.str (tx (c::a)))) (curs t (p+(c::a).length))])
  (aI (c_peek W ht (show From t p (c::(a++b)) from h) n (by lia)) (aI (ne_nil c []) (aI (show(!Txt.contains NS (tx [c]))=false by rw[has_one,decide_eq_true hc];rfl) (aI (show Txt.contains FG (tx [c])=false by rw[has_one,decide_eq_false hf])
   (aI (c_take_while W ht NS h (λx hx=>by rcases List.mem_cons.mp hx with rfl|hx;exact hc;exact ha _ hx) hb n (by lia)) trivial)))))
theorem c_name_no (W:Wd w B)(ht:Short t){c:Nat}{b:List Nat}(h:From t p (c::b))(hc:c∉NS.cps.toList):CN w B 2 189 [.ref 0] (curs t p) (.ret (.str "")) (curs t p):=
 CN.of (F_Cursor_name1 W) rfl (fl:=.ret _) λn hn e L=>way (okX W) (or:=[.call [0,1] (.ret (.str (tx [c]))) (curs t p),.br false,.br true])
  (aI (c_peek W ht h n (by lia)) (aI (ne_nil c []) (aI (show(!Txt.contains NS (tx [c]))=true by rw[has_one,decide_eq_false hc];rfl) trivial)))
theorem c_name_fig (W:Wd w B)(ht:Short t){c:Nat}{b:List Nat}(h:From t p (c::b))(hc:c∈NS.cps.toList)(hf:c∈FG.cps.toList):CN w B 2 189 [.ref 0] (curs t p) (.ret (.str "")) (curs t p):=
 CN.of (F_Cursor_name1 W) rfl (fl:=.ret _) λn hn e L=>way (okX W) (or:=[.call [0,1] (.ret (.str (tx [c]))) (curs t p),.br false,.br false,.br true])
  (aI (c_peek W ht h n (by lia)) (aI (ne_nil c []) (aI (show(!Txt.contains NS (tx [c]))=false by rw[has_one,decide_eq_true hc];rfl) (aI (show Txt.contains FG (tx [c])=true by rw[has_one,decide_eq_true hf]) trivial))))
theorem c_number_no (W:Wd w B)(ht:Short t){c:Nat}{b:List Nat}(h:From t p (c::b))(hf:c∉FG.cps.toList):CN w B 2 196 [.ref 0] (curs t p) (.ret .none) (curs t p):=
 CN.of (F_Cursor_number1 W) rfl (fl:=.ret _) λn hn e L=>way (okX W) (or:=[.call [0,1] (.ret (.str (tx []))) (curs t p)])
  (aI (c_take_while W ht FG (a:=[]) (b:=c::b) h (λ_ h=>by cases h) hf n (by lia)) trivial)
theorem callw_int {X:Cx}{c:St}{x:Str}{k:Int}(hn:PySem.intText? x=some k)(hl:x.length<=640):CallW X (.typ "int") [.str x] c (.int k):=λA ρ G s fv vs rm fo i rf rs=>by
 obtain rfl:=rf
 exact rv1 rs λv r=>rS r λ_=>PySem.W.KIN.call_text hn hl ⟨ρ,G,PreA.refl _,Sub.refl _,i.toks,_,rfl⟩
theorem c_number_yes (W:Wd w B)(ht:Short t){c:Nat}{b:List Nat}{k:Int}(h:From t p (c::b))(hf:c∈FG.cps.toList)(hb:Stops FG b)(hk:PySem.intText? (tx [c])=some k):CN w B 2 196 [.ref 0] (curs t p) (.ret (.int k)) (curs t (p+1)):=
 CN.of (F_Cursor_number1 W) rfl (fl:=.ret _) λn hn e L=>way (okX W) (or:=[.call [0,1] (.ret (.str (tx [c]))) (curs t (p+1)),.br false,.item (.int k)])
  (aI (c_take_while W ht FG (a:=[c]) (b:=b) h (λx hx=>by rcases List.mem_cons.mp hx with rfl|hx;exact hf;cases hx) hb n (by lia)) (aI (ne_nil c []) (aI (show(1:Int)<2^63 by decide) (aI (callw_int (X:=cxt w B "Cursor.number" (dm 15 10) 196 (.ref 195) e L n) (c:=⟨[lv "self" (.ref 0),lv "begun" (.int p),lv "figures" (.str (tx [c]))],curs t (p+1)⟩) hk (show 1<=640 by decide)) trivial))))
theorem c_dollar (W:Wd w B)(ht:Short t){b:List Nat}(h:From t p (36::b))(o:Nat):CN w B 4 298 [.str t,.ref 0,.int o] (curs t p) (.ret (.dat (Tk.own.D o))) (curs t (p+1)):=
 CN.of (F_scan_dollar3 W) rfl (fl:=.ret _) λn hn e L=>way (okX W) (or:=[.call [0,1] (.ret (.bool true)) (curs t (p+1)),.call [] (.ret (.dat (Tk.own.D o))) []])
  (aI (c_skip_yes W ht (a:=[36]) (b:=b) h (by decide) n (by lia)) (aI (c_Part W (.str "own") .none o (dk:=.str "own") (dO:=.none) rfl rfl n (by lia)) trivial))
noncomputable abbrev ssgX (w:World)(B:Heap)(e:En)(L n:Nat):Cx:=cxt w B "scan_sign" (df 33) 305 (.ref 304) e L n
noncomputable abbrev ssgF:Stmt:=stm (df 33).body 0
noncomputable abbrev ssgL (t:Str)(o:Nat):Loc:=[lv "text" (.str t),lv "cursor" (.ref 0),lv "start" (.int o)]
noncomputable abbrev twos:List Str:=["||","&&","==","!=","<=",">="]
theorem ssg_loop (W:Wd w B)(ht:Short t){l:List Nat}(h:From t p l)(o:Nat)(e:En)(L n:Nat)(hn:2<=n)(hno:∀x∈twos,decide (tx (l.take x.length)=x)=false):
  ∀ (k i:Nat),i+k=6->TFo (ssgX w B e L n) (forX ssgF) (forP ssgF) (forB ssgF) (twos.map .str) i ⟨ssgL t o,curs t p⟩ .next ⟨ssgL t o,curs t p⟩
 |0,i,hk=>tfo_nil (by rw[List.getElem?_eq_none];show 6<=i;lia) (by intro p hp;simp at hp;rcases hp with rfl|rfl|rfl<;>rfl) (by intro q hq;simp at hq;rcases hq with rfl|rfl<;>rfl)
 |k+1,i,hk=>by
  have hX:Ok (ssgX w B e L n):=okX W
  have ih:=ssg_loop W ht h o e L n hn hno k (i+1) (by lia)
  obtain⟨x,hx,hx2⟩:∃x,twos[i]? =some x/\x.length<1000:=by
   have:i<6:=by lia
   match i,this with
   |0,_=>exact⟨_,rfl,by decide+kernel⟩
   |1,_=>exact⟨_,rfl,by decide+kernel⟩
   |2,_=>exact⟨_,rfl,by decide+kernel⟩
   |3,_=>exact⟨_,rfl,by decide+kernel⟩
   |4,_=>exact⟨_,rfl,by decide+kernel⟩
   |5,_=>exact⟨_,rfl,by decide+kernel⟩
  have hm:x∈twos:=List.mem_of_getElem? hx
  refine tfo_cons (c₁:=⟨ssgL t o++[lv "word" (.str x)],curs t p⟩) (a:=.str x) rfl (by kernel_rfl) (by rw[List.getElem?_map,hx];rfl) rfl (λob=>?_) (TFo.forget rfl Less.app ih)
  exact stp hX (or:=[.call [0,1] (.ret (.bool false)) (curs t p)]) (aI (c_skip_not W ht h x hx2 (hno x hm) n (by lia)) trivial)
theorem c_sign (W:Wd w B)(ht:Short t){c:Nat}{b:List Nat}(h:From t p (c::b))(o:Nat)(hc:c∈S1.cps.toList)(hno:∀x∈twos,decide (tx ((c::b).take x.length)=x)=false):
  CN w B 4 305 [.str t,.ref 0,.int o] (curs t p) (.ret (.dat ((Tk.sign (tx [c])).D o))) (curs t (p+1)):=
 CN.of (F_scan_sign3 W) rfl (fl:=.ret _) λn hn e L=>by
  have hX:Ok (ssgX w B e L n):=okX W
  have hi:ItOK (ssgX w B e L n) (forI ssgF) ⟨ssgL t o,curs t p⟩ (twos.map .str) ⟨ssgL t o,curs t p⟩:=it_tup (l:=twos.map D.str) (xpr hX (or:=[]) trivial)
  have hF:=tf_forS (s:=ssgF) (by kernel_rfl) hi (ssg_loop W ht h o e L n (by lia) hno 6 0 rfl) (λv=>by kernel_rfl)
  exact way hX (or:=[.suite .next ⟨ssgL t o,curs t p⟩,.call [0,1] (.ret (.str (tx [c]))) (curs t p),.br false,.br false,.call [0,1] (.ret (.str (tx [c]))) (curs t (p+1)),.call [] (.ret (.dat ((Tk.sign (tx [c])).D o))) []])
   (aI hF (aI (c_peek W ht h n (by lia)) (aI (ne_nil c []) (aI (show(!Txt.contains S1 (tx [c]))=false by rw[has_one,decide_eq_true hc];rfl) (aI (c_take1 W ht h n (by lia)) (aI (c_Part W (.str "sign") (.str (tx [c])) o (dk:=.str "sign") (dO:=.str (tx [c])) rfl rfl n (by lia)) trivial))))))
end
section
variable {w:World}{B:Heap}{t:Str}{p:Nat}
theorem c_Cursor (W:Wd w B)(t:Str):CN w B 3 234 [.str t] [] (.ret (.ref 1)) [.ns ["text","at"] [.str t,.int 0],.inst 234 0]:=λn hn=>by
 obtain⟨m,rfl⟩:∃m,n=m+2:=⟨n-2,by lia⟩
 exact make_ok (obj:=[]) W.know.k (by kernel_rfl) (fI:=124) (by kernel_rfl) (by kernel_rfl)
  ((CN.of (F_Cursor_init2 W) rfl (k:=0) (fl:=.next) λn hn e L=>way (okX W) (or:=[]) trivial) m (by lia))
noncomputable abbrev saX (w:World)(B:Heap)(e:En)(L n:Nat):Cx:=cxt w B "scan_action" (df 34) 312 (.ref 311) e L n
noncomputable abbrev saW:Stmt:=stm (df 34).body 2
noncomputable abbrev saL (t:Str):Loc:=[lv "text" (.str t),lv "parts" (.ref 2),lv "cursor" (.ref 1)]
noncomputable abbrev saO (t:Str)(p:Nat)(xs:List AV):List AO:=[.ns ["text","at"] [.str t,.int p],.inst 234 0,.list xs,.tup [.ref 1,.ref 2]]
noncomputable abbrev saB (w:World)(B:Heap)(e:En)(L n:Nat):Sem Flow:=execs (whB saW) (saX w B e L n).f.env
abbrev Tok1 (w:World)(B:Heap)(t:Str)(p p':Nat)(k:Tk):Prop:=∀ (e:En) (L n:Nat) (xs:List AV),5<=n->xs.length<=sizeLine->
 ∃r,TF (saX w B e L n) (saB w B e L n) ⟨saL t,saO t p xs⟩ .next ⟨saL t++r,saO t p' (xs++[.dat (k.D p)])⟩
theorem tok_name (W:Wd w B)(ht:Short t){c:Nat}{a b l:List Nat}(h:From t p ((c::a)++(b++l)))(hc:c∈NS.cps.toList)(hf:c∉FG.cps.toList)(ha:∀c∈a,c∈NS.cps.toList)(hs:Stops NS (b++l))(hb:∀c∈b,c∈BL.cps.toList)(hl:Stops BL l):
  Tok1 w B t p (p+(c::a).length+b.length) (.name (tx (c::a))):=λe L n xs hn hz=>⟨[lv "start" (.int p),lv "name" (.str (tx (c::a))),lv "number" .none],
 stp (okX W) (or:=[.call [1,0] (.ret (.str (tx (c::a)))) (curs t (p+(c::a).length)),.br false,.br true,.call [] (.ret (.dat ((Tk.name (tx (c::a))).D p))) [],.call [1,0] (.ret .none) (curs t (p+(c::a).length+b.length))])
  (aI (c_name_yes W ht h hc hf ha hs n (by lia)) (aI (ne_nil c a) (aI (show(!decide (tx (c::a)= ""))=true by rw[ne_nil];rfl) (aI (c_Part W (.str "name") (.str (tx (c::a))) p (dk:=.str "name") (dO:=.str (tx (c::a))) rfl rfl n (by lia)) (aI hz (aI (c_skip_blanks W ht BL h.app hb hl n (by lia)) trivial))))))⟩
theorem tok_num (W:Wd w B)(ht:Short t){c k:Nat}{b l:List Nat}(h:From t p (c::(b++l)))(hc:c∈NS.cps.toList)(hf:c∈FG.cps.toList)(hs:Stops FG (b++l))(hk:PySem.intText? (tx [c])=some (k:Int))(hbits:decide (((Builtin.Int.intBits (k:Int):Nat):Int)>512)=false)(hb:∀c∈b,c∈BL.cps.toList)(hl:Stops BL l):
  Tok1 w B t p (p+1+b.length) (.num k):=λe L n xs hn hz=>⟨[lv "start" (.int p),lv "name" (.str ""),lv "number" (.int k)],
 stp (okX W) (or:=[.call [1,0] (.ret (.str "")) (curs t p),.call [1,0] (.ret (.int k)) (curs t (p+1)),.go,.go,.br false,.call [] (.ret (.dat ((Tk.num k).D p))) [],.call [1,0] (.ret .none) (curs t (p+1+b.length))])
  (aI (c_name_fig W ht h hc hf n (by lia)) (aI (c_number_yes W ht h hf hs hk n (by lia)) (aI hbits (aI (c_Part W (.str "number") (.int k) p (dk:=.str "number") (dO:=.int k) rfl rfl n (by lia)) (aI hz (aI (c_skip_blanks W ht BL h.cons hb hl n (by lia)) trivial))))))⟩
theorem tok_own (W:Wd w B)(ht:Short t){b l:List Nat}(h:From t p ([36]++(36::(b++l))))(hb:∀c∈b,c∈BL.cps.toList)(hl:Stops BL l):
  Tok1 w B t p (p+1+1+b.length) .own:=λe L n xs hn hz=>⟨[lv "start" (.int p),lv "name" (.str ""),lv "number" .none],
 stp (okX W) (or:=[.call [1,0] (.ret (.str "")) (curs t p),.call [1,0] (.ret .none) (curs t p),.call [1,0] (.ret (.bool false)) (curs t p),.call [1,0] (.ret (.bool true)) (curs t (p+1)),.call [1,0] (.ret (.dat (Tk.own.D p))) (curs t (p+1+1)),.call [1,0] (.ret .none) (curs t (p+1+1+b.length))])
  (aI (c_name_no W ht (show From t p (36::_) from h) (by decide+kernel) n (by lia)) (aI (c_number_no W ht (show From t p (36::_) from h) (by decide+kernel) n (by lia)) (aI (c_skip_not W ht h "\"" (by decide+kernel) (by kernel_rfl) n (by lia)) (aI (c_skip_yes W ht h (by decide) n (by lia)) (aI (c_dollar W ht (From.cons h) p n (by lia)) (aI hz (aI (c_skip_blanks W ht BL (From.cons (From.cons h)) hb hl n (by lia)) trivial)))))))⟩
theorem tok_sign (W:Wd w B)(ht:Short t){c:Nat}{b l:List Nat}(h:From t p (c::(b++l)))(hn:c∉NS.cps.toList)(hf:c∉FG.cps.toList)(h1:c∈S1.cps.toList)(hno:∀x∈twos,decide (tx ((c::(b++l)).take x.length)=x)=false)
  (q1:decide (tx [c]= "\"")=false) (q2:decide (tx [c]= "$")=false) (hb:∀c∈b,c∈BL.cps.toList) (hl:Stops BL l):
  Tok1 w B t p (p+1+b.length) (.sign (tx [c])):=λe L n xs hn' hz=>⟨[lv "start" (.int p),lv "name" (.str ""),lv "number" .none],
 stp (okX W) (or:=[.call [1,0] (.ret (.str "")) (curs t p),.call [1,0] (.ret .none) (curs t p),.call [1,0] (.ret (.bool false)) (curs t p),.call [1,0] (.ret (.bool false)) (curs t p),.call [1,0] (.ret (.dat ((Tk.sign (tx [c])).D p))) (curs t (p+1)),.call [1,0] (.ret .none) (curs t (p+1+b.length))])
  (aI (c_name_no W ht h hn n (by lia)) (aI (c_number_no W ht h hf n (by lia)) (aI (c_skip_not W ht h "\"" (by decide+kernel) q1 n (by lia)) (aI (c_skip_not W ht h "$" (by decide+kernel) q2 n (by lia)) (aI (c_sign W ht h p h1 hno n (by lia)) (aI hz (aI (c_skip_blanks W ht BL h.cons hb hl n (by lia)) trivial)))))))⟩
noncomputable def Tk.cs:Tk->List Nat
 | .own=>[36,36]
 | .num k=>[48+k]
 | .name s=>s.cps.toList
 | .sign s=>s.cps.toList
 | .fin=>[]
noncomputable abbrev Ly:=List (Tk×Nat)
noncomputable def ltx:Ly->List Nat
 | []=>[]
 | (k,n)::r=>k.cs++(List.replicate n 32++ltx r)
noncomputable def lto:Nat->Ly->Toks
 |p,[]=>[(.fin,p)]
 |p,(k,n)::r=>(k,p)::lto (p+k.cs.length+n) r
noncomputable def LyOK (w:World)(B:Heap):Ly->Prop
 | []=>True
 | (k,n)::r=>(∀t p,Short t->From t p (ltx ((k,n)::r))->Tok1 w B t p (p+k.cs.length+n) k)/\k.cs≠ []/\LyOK w B r
theorem parts_app (ts:Toks)(k:Tk)(o:Nat):partsOfD (partsL (ts++[(k,o)]))=partsOfD (partsL ts)++[.dat (k.D o)]:=by
 unfold partsOfD partsL
 rw[List.map_append,List.map_append]
 rfl
theorem dsOf_parts (ts:Toks):dsOf (partsOfD (partsL ts))=some (partsL ts):=by
 induction ts with
 |nil=>rfl
 |cons p r ih=>exact dsOf_cons rfl ih
theorem ltx_len {r:Ly}{k:Tk}{n p:Nat}(h:From t p (ltx ((k,n)::r))):From t (p+k.cs.length+n) (ltx r):=by
 have:=From.app (From.app h)
 rw[List.length_replicate]at this
 exact this
theorem scan_run (W:Wd w B)(ht:Short t)(e:En)(L n:Nat)(hn:5<=n):∀ (ly:Ly) (p:Nat) (ts:Toks),From t p (ltx ly)->LyOK w B ly->ts.length<=p->
  ∃ts',lto p ly=ts'++[(.fin,t.length)]/\(ts++ts').length<=t.length/\TW (saX w B e L n) (whT saW) (whB saW) ⟨saL t,saO t p (partsOfD (partsL ts))⟩ .next ⟨saL t,saO t t.length (partsOfD (partsL (ts++ts')))⟩
 | [],p,ts,h,_,_=>by
  have hX:Ok (saX w B e L n):=okX W
  have hl:t.length=p:=h.len
  refine⟨[],by rw[hl];rfl,by rw[List.append_nil,hl];assumption,?_⟩
  rw[List.append_nil,hl]
  exact tw_false (tst hX (or:=[.call [1,0] (.ret (.bool (decide ((p:Int)≥(t.length:Int))))) (curs t p),.br true]) (aI (c_done (p:=p) W ht n (by lia)) (aI (decide_eq_true (show(p:Int)≥(t.length:Int) by lia)) trivial)))
 | (k,m)::r,p,ts,h,⟨ok,hne,ok'⟩,hle=>by
  have hX:Ok (saX w B e L n):=okX W
  have hl:=h.len
  have hlt:p<t.length:=by
   rw[hl]
   show p<p+(k.cs++_).length
   rw[List.length_append]
   have:k.cs.length≠0:=λz=>hne (List.eq_nil_of_length_eq_zero z)
   lia
  have h1:0<k.cs.length:=Nat.pos_of_ne_zero λz=>hne (List.eq_nil_of_length_eq_zero z)
  obtain⟨ts',e1,hz,hT⟩:=scan_run W ht e L n hn r (p+k.cs.length+m) (ts++[(k,p)]) (ltx_len h) ok' (by rw[List.length_append,List.length_singleton];lia)
  obtain⟨rl,hB⟩:=ok t p ht h e L n (partsOfD (partsL ts)) hn (by rw[parts_len,sizeLine_eq];lia)
  refine⟨(k,p)::ts',by show(k,p)::lto _ r=_;rw[e1];rfl,by simpa using hz,?_⟩
  rw[<-parts_app]at hB
  rw[show ts++(k,p)::ts'=ts++[(k,p)]++ts' by simp]
  exact tw_true (tst hX (or:=[.call [1,0] (.ret (.bool (decide ((p:Int)≥(t.length:Int))))) (curs t p),.br false]) (c':=⟨saL t,saO t p (partsOfD (partsL ts))⟩) (aI (c_done (p:=p) W ht n (by lia)) (aI (decide_eq_false (show¬ (p:Int)≥(t.length:Int) by lia)) trivial))) hB (TW.forget rfl Less.app hT)
theorem c_scan (W:Wd w B)(ly:Ly)(ht:Short (tx (ltx ly)))(ok:LyOK w B ly)(hs:Stops BL (ltx ly)):CN w B 6 312 [.str (tx (ltx ly))] [] (.ret (.dat (.lst (partsL (lto 0 ly))))) []:=by
 have h0:From (tx (ltx ly)) 0 ([]++ltx ly):=⟨by simp,Nat.zero_le _⟩
 generalize ht':tx (ltx ly)=t at*
 suffices h:CN w B 6 312 [.str t] [] (.ret (.ref 2)) (saO t t.length (partsOfD (partsL (lto 0 ly)))) by
  intro n hn
  have h2:=CallOK.frz (i:=2) (h n hn) (d:=.lst (partsL (lto 0 ly))) (by show(dsOf (partsOfD (partsL (lto 0 ly)))).map D.lst=_;rw[dsOf_parts];rfl)
  exact CallOK.trim (obj':=[]) (extra:=frzObj (saO t t.length (partsOfD (partsL (lto 0 ly)))) 2 (.lst (partsL (lto 0 ly)))) h2 rfl rfl rfl
 refine CN.of (F_scan_action1 W) rfl (fl:=.ret _) λn hn e L=>?_
 have hX:Ok (saX w B e L n):=okX W
 obtain⟨ts',e1,hz,hT⟩:=scan_run W ht e L n hn ly 0 [] h0 ok (Nat.le_refl _)
 have hF:=tf_whileS (s:=saW) (by kernel_rfl) hT
 rw[e1,parts_app]
 exact way hX (or:=[.call [] (.ret (.ref 1)) [.ns ["text","at"] [.str t,.int 0],.inst 234 0],.call [1,0] (.ret .none) (curs t 0),.suite .next ⟨saL t,saO t t.length (partsOfD (partsL ([]++ts')))⟩,.call [] (.ret (.dat (Tk.fin.D t.length))) []])
  (aI (c_Cursor W t n (by lia)) (aI (c_skip_blanks W ht BL (a:=[]) (b:=ltx ly) h0 (λ_ h=>by cases h) hs n (by lia)) (aI hF (aI (show(t.length:Int)<2^63 by lia) (aI (c_Part W (.str "end") .none t.length (dk:=.str "end") (dO:=.none) rfl rfl n (by lia)) (aI (show(partsOfD (partsL ([]++ts'))).length<=sizeLine by rw[parts_len,sizeLine_eq];lia) trivial))))))
end
noncomputable def okT:Tk->Prop
 | .own=>True
 | .num k=>k=1\/k=2\/k=7
 | .name s=>s= "if" \/s= "else" \/s= "while" \/s= "u" \/s= "len"
 | .sign s=>s= "(" \/s= ")" \/s= "[" \/s= "]" \/s= "{" \/s= "}" \/s= ";" \/s= "-" \/s= "+" \/s= "="
 | .fin=>False
noncomputable def wordy:Tk->Bool
 | .name _=>true
 | .num _=>true
 |_=>false
noncomputable def isEq:Tk->Bool
 | .sign s=>decide (s= "=")
 |_=>false
abbrev pair (a b:Tk):Prop:=(wordy a&&wordy b)=false/\(isEq a&&isEq b)=false
noncomputable def chn:List Tk->Prop
 | []=>True
 |k::r=>okT k/\(∀y,r.head?=some y->pair k y)/\chn r
theorem chn_app:∀ {a b:List Tk},chn a->chn b->(∀x y,a.getLast?=some x->b.head?=some y->pair x y)->chn (a++b)
 | [],b,_,hb,_=>hb
 |k::r,b,⟨h1,h2,h3⟩,hb,hp=>by
  refine⟨h1,λy hy=>?_,chn_app h3 hb λx y hx hy=>?_⟩
  ·cases r with
   |nil=>exact hp k y rfl hy
   |cons k' r=>exact h2 y hy
  ·refine hp x y ?_ hy
   cases r with
   |nil=>cases hx
   |cons k' r=>rw[List.getLast?_cons_cons];exact hx
theorem head_app {α:Type}{a b:List α}{x:α}(h:(a++b).head?=some x)(ha:a≠ []):a.head?=some x:=by
 cases a with
 |nil=>exact absurd rfl ha
 |cons y a=>exact h
theorem cs_first {k:Tk}(h:okT k):∃c r,k.cs=c::r/\c∉BL.cps.toList/\(wordy k=false->c∉NS.cps.toList/\c∉FG.cps.toList)/\(isEq k=false->c≠61)/\∀c'∈k.cs,c'≠10:=by
 cases k with
 |own=>exact⟨36,[36],rfl,by decide+kernel,λ_=>by decide+kernel,λ_=>by decide,by decide⟩
 |num k=>
  rcases h with rfl|rfl|rfl
  ·exact⟨49,[],rfl,(by decide+kernel),(λh=>by cases h),(λ_=>by decide),(by decide)⟩
  ·exact⟨50,[],rfl,(by decide+kernel),(λh=>by cases h),(λ_=>by decide),(by decide)⟩
  ·exact⟨55,[],rfl,(by decide+kernel),(λh=>by cases h),(λ_=>by decide),(by decide)⟩
 |name s=>
  have m:∀ (x:Str) (c:Nat) (r:List Nat),x.cps.toList=c::r->c∉BL.cps.toList->c≠61->(∀c'∈x.cps.toList,c'≠10)->∃c r,(Tk.name x).cs=c::r/\c∉BL.cps.toList/\(wordy (.name x)=false->c∉NS.cps.toList/\c∉FG.cps.toList)/\(isEq (.name x)=false->c≠61)/\∀c'∈(Tk.name x).cs,c'≠10:=
   λx c r h1 h2 h3 h4=>⟨c,r,h1,h2,(λh=>by cases h),(λ_=>h3),h4⟩
  rcases h with rfl|rfl|rfl|rfl|rfl
  ·exact m _ 105 [102] (by kernel_rfl) (by decide+kernel) (by decide) (by decide+kernel)
  ·exact m _ 101 [108,115,101] (by kernel_rfl) (by decide+kernel) (by decide) (by decide+kernel)
  ·exact m _ 119 [104,105,108,101] (by kernel_rfl) (by decide+kernel) (by decide) (by decide+kernel)
  ·exact m _ 117 [] (by kernel_rfl) (by decide+kernel) (by decide) (by decide+kernel)
  ·exact m _ 108 [101,110] (by kernel_rfl) (by decide+kernel) (by decide) (by decide+kernel)
 |sign s=>
  have m:∀ (x:Str) (c:Nat),x.cps.toList=[c]->c∉BL.cps.toList->c∉NS.cps.toList->c∉FG.cps.toList->(x≠ "=" ->c≠61)->c≠10->∃c r,(Tk.sign x).cs=c::r/\c∉BL.cps.toList/\(wordy (.sign x)=false->c∉NS.cps.toList/\c∉FG.cps.toList)/\(isEq (.sign x)=false->c≠61)/\∀c'∈(Tk.sign x).cs,c'≠10:=
   λx c h1 h2 h3 h4 h5 h6=>⟨c,[],h1,h2,(λ_=>⟨h3,h4⟩),(λh=>h5 (of_decide_eq_false h)),(λc' hc=>by have hc:c'∈x.cps.toList:=hc;rw[h1]at hc;cases List.mem_singleton.mp hc;exact h6)⟩
  rcases h with rfl|rfl|rfl|rfl|rfl|rfl|rfl|rfl|rfl|rfl
  ·exact m _ 40 (by kernel_rfl) (by decide+kernel) (by decide+kernel) (by decide+kernel) (λ_=>by decide) (by decide)
  ·exact m _ 41 (by kernel_rfl) (by decide+kernel) (by decide+kernel) (by decide+kernel) (λ_=>by decide) (by decide)
  ·exact m _ 91 (by kernel_rfl) (by decide+kernel) (by decide+kernel) (by decide+kernel) (λ_=>by decide) (by decide)
  ·exact m _ 93 (by kernel_rfl) (by decide+kernel) (by decide+kernel) (by decide+kernel) (λ_=>by decide) (by decide)
  ·exact m _ 123 (by kernel_rfl) (by decide+kernel) (by decide+kernel) (by decide+kernel) (λ_=>by decide) (by decide)
  ·exact m _ 125 (by kernel_rfl) (by decide+kernel) (by decide+kernel) (by decide+kernel) (λ_=>by decide) (by decide)
  ·exact m _ 59 (by kernel_rfl) (by decide+kernel) (by decide+kernel) (by decide+kernel) (λ_=>by decide) (by decide)
  ·exact m _ 45 (by kernel_rfl) (by decide+kernel) (by decide+kernel) (by decide+kernel) (λ_=>by decide) (by decide)
  ·exact m _ 43 (by kernel_rfl) (by decide+kernel) (by decide+kernel) (by decide+kernel) (λ_=>by decide) (by decide)
  ·exact m _ 61 (by kernel_rfl) (by decide+kernel) (by decide+kernel) (by decide+kernel) (λh=>absurd rfl h) (by decide)
 |fin=>exact h.elim
theorem ltx_first {P:Nat->Prop}{r:Ly}(h:∀k n r',r=(k,n)::r'->∃c z,k.cs=c::z/\P c):∀c z,ltx r=c::z->P c:=λc z e=>by
 cases r with
 |nil=>cases e
 |cons p r'=>
  obtain⟨k,n⟩:=p
  obtain⟨c',z',e1,e2⟩:=h k n r' rfl
  have e:k.cs++(List.replicate n 32++ltx r')=c::z:=e
  rw[e1]at e
  cases e;exact e2
theorem stops_of {g:Str}{l:List Nat}(h:∀c z,l=c::z->c∉g.cps.toList):Stops g l:=by
 cases l with
 |nil=>trivial
 |cons c z=>exact h c z rfl
theorem stops_sp {g:Str}{n:Nat}{l:List Nat}(hg:32∉g.cps.toList)(h:Stops g l):Stops g (List.replicate n 32++l):=by
 cases n with
 |zero=>exact h
 |succ n=>exact hg
theorem sp_blank {n:Nat}:∀c∈List.replicate n 32,c∈BL.cps.toList:=λc hc=>by rw[List.eq_of_mem_replicate hc];decide+kernel
theorem ne_two {c a b:Nat}{l:List Nat}{x:Str}(hx:x=tx [a,b])(h:c≠a\/∀z y,l=z::y->z≠b):decide (tx ((c::l).take x.length)=x)=false:=by
 subst hx
 refine decide_eq_false λe=>?_
 have e:=congrArg (λs:Str=>s.cps.toList) e
 have e:c::l.take 1=[a,b]:=by simpa [Str.length]using e
 rcases h with h|h
 ·exact h (List.cons.inj e).1
 ·have e2:=(List.cons.inj e).2
  cases l with
  |nil=>cases e2
  |cons z y=>exact h z y rfl (List.cons.inj e2).1
theorem twos_ok {c:Nat}{l:List Nat}(h:c∉ [124,38,33,60,62])(h2:c≠61\/∀z y,l=z::y->z≠61):∀x∈twos,decide (tx ((c::l).take x.length)=x)=false:=λx hx=>by
 simp only[List.mem_cons,List.not_mem_nil,or_false,not_or]at h
 simp only[twos,List.mem_cons,List.not_mem_nil,or_false]at hx
 rcases hx with rfl|rfl|rfl|rfl|rfl|rfl
 ·exact ne_two (a:=124) (b:=124) (by kernel_rfl) (.inl h.1)
 ·exact ne_two (a:=38) (b:=38) (by kernel_rfl) (.inl h.2.1)
 ·exact ne_two (a:=61) (b:=61) (by kernel_rfl) h2
 ·exact ne_two (a:=33) (b:=61) (by kernel_rfl) (.inl h.2.2.1)
 ·exact ne_two (a:=60) (b:=61) (by kernel_rfl) (.inl h.2.2.2.1)
 ·exact ne_two (a:=62) (b:=61) (by kernel_rfl) (.inl h.2.2.2.2)
section
variable {w:World}{B:Heap}
theorem tokS (W:Wd w B){t:Str}{p n:Nat}{l:List Nat}(x:Str)(c:Nat)(hx:x=tx [c])(ht:Short t)(h:From t p (x.cps.toList++(List.replicate n 32++l)))(h1:c∉NS.cps.toList)(h2:c∉FG.cps.toList)(h3:c∈S1.cps.toList)(h4:c∉ [124,38,33,60,62])
  (q1:decide (tx [c]= "\"")=false) (q2:decide (tx [c]= "$")=false) (hq:c≠61\/∀z y,List.replicate n 32++l=z::y->z≠61) (hl:Stops BL l):Tok1 w B t p (p+(Tk.sign x).cs.length+n) (.sign x):=by
 subst hx
 have:=tok_sign W ht (c:=c) (b:=List.replicate n 32) (l:=l) h h1 h2 h3 (twos_ok h4 hq) q1 q2 sp_blank hl
 rw[List.length_replicate]at this
 exact this
theorem tokN (W:Wd w B){t:Str}{p n:Nat}{l:List Nat}(x:Str)(c:Nat)(a:List Nat)(hx:x=tx (c::a))(ht:Short t)(h:From t p (x.cps.toList++(List.replicate n 32++l)))(h1:c∈NS.cps.toList)(h2:c∉FG.cps.toList)(h3:∀c∈a,c∈NS.cps.toList)
  (hs:Stops NS (List.replicate n 32++l)) (hl:Stops BL l):Tok1 w B t p (p+(Tk.name x).cs.length+n) (.name x):=by
 subst hx
 have:=tok_name W ht (c:=c) (a:=a) (b:=List.replicate n 32) (l:=l) h h1 h2 h3 hs sp_blank hl
 rw[List.length_replicate]at this
 exact this
theorem tokK (W:Wd w B){t:Str}{p n:Nat}{l:List Nat}(k:Nat)(ht:Short t)(h:From t p ((48+k)::(List.replicate n 32++l)))(h1:48+k∈NS.cps.toList)(h2:48+k∈FG.cps.toList)(h3:PySem.intText? (tx [48+k])=some (k:Int))(h4:decide (((Builtin.Int.intBits (k:Int):Nat):Int)>512)=false)
  (hs:Stops FG (List.replicate n 32++l)) (hl:Stops BL l):Tok1 w B t p (p+(Tk.num k).cs.length+n) (.num k):=by
 have:=tok_num W ht (c:=48+k) (k:=k) (b:=List.replicate n 32) (l:=l) h h1 h2 hs h3 h4 sp_blank hl
 rw[List.length_replicate]at this
 exact this
theorem chn_ly (W:Wd w B):∀ {ly:Ly},chn (ly.map Prod.fst)->LyOK w B ly/\Stops BL (ltx ly)
 | [],_=>⟨trivial,trivial⟩
 | (k,n)::r,⟨h1,h2,h3⟩=>by
  obtain⟨ih,hl⟩:=chn_ly W h3
  obtain⟨c,z,e1,e2,e3,e4,e5⟩:=cs_first h1
  refine⟨⟨λt p ht h=>?_,(by rw[e1];nofun),ih⟩,stops_of (ltx_first λk' n' r' e=>by cases e;exact⟨c,z,e1,e2⟩)⟩
  have hw:wordy k=true->Stops NS (List.replicate n 32++ltx r)/\Stops FG (List.replicate n 32++ltx r):=λhk=>by
   have:∀k' n' r',r=(k',n')::r'->∃c z,k'.cs=c::z/\(c∉NS.cps.toList/\c∉FG.cps.toList):=λk' n' r' e=>by
    subst e
    obtain⟨c',z',f1,f2,f3,f4,_⟩:=cs_first h3.1
    have:=(h2 k' rfl).1
    rw[hk,Bool.true_and]at this
    exact⟨c',z',f1,f3 this⟩
   exact⟨stops_sp (by decide+kernel) (stops_of λc z e=>(ltx_first this c z e).1),stops_sp (by decide+kernel) (stops_of λc z e=>(ltx_first this c z e).2)⟩
  have hq:isEq k=true->∀z y,List.replicate n 32++ltx r=z::y->z≠61:=λhk z y e=>by
   cases n with
   |succ n=>rw[List.replicate_succ,List.cons_append]at e;cases e;decide
   |zero=>
    refine ltx_first (P:=λc=>c≠61) (r:=r) (λk' n' r' e=>?_) z y e
    subst e
    obtain⟨c',z',f1,f2,f3,f4,_⟩:=cs_first h3.1
    have:=(h2 k' rfl).2
    rw[hk,Bool.true_and]at this
    exact⟨c',z',f1,f4 this⟩
  have h:From t p (k.cs++(List.replicate n 32++ltx r)):=h
  cases k with
  |own=>
   have:=tok_own W ht (b:=List.replicate n 32) (l:=ltx r) h sp_blank hl
   rw[List.length_replicate]at this
   exact this
  |num k=>
   have hs:=(hw rfl).2
   rcases h1 with rfl|rfl|rfl
   ·exact tokK W 1 ht h (by decide+kernel) (by decide+kernel) (by kernel_rfl) (by kernel_rfl) hs hl
   ·exact tokK W 2 ht h (by decide+kernel) (by decide+kernel) (by kernel_rfl) (by kernel_rfl) hs hl
   ·exact tokK W 7 ht h (by decide+kernel) (by decide+kernel) (by kernel_rfl) (by kernel_rfl) hs hl
  |name x=>
   have hs:=(hw rfl).1
   rcases h1 with rfl|rfl|rfl|rfl|rfl
   ·exact tokN W _ 105 [102] (by kernel_rfl) ht h (by decide+kernel) (by decide+kernel) (by decide+kernel) hs hl
   ·exact tokN W _ 101 [108,115,101] (by kernel_rfl) ht h (by decide+kernel) (by decide+kernel) (by decide+kernel) hs hl
   ·exact tokN W _ 119 [104,105,108,101] (by kernel_rfl) ht h (by decide+kernel) (by decide+kernel) (by decide+kernel) hs hl
   ·exact tokN W _ 117 [] (by kernel_rfl) ht h (by decide+kernel) (by decide+kernel) (by decide+kernel) hs hl
   ·exact tokN W _ 108 [101,110] (by kernel_rfl) ht h (by decide+kernel) (by decide+kernel) (by decide+kernel) hs hl
  |sign x=>
   rcases h1 with rfl|rfl|rfl|rfl|rfl|rfl|rfl|rfl|rfl|rfl
   ·exact tokS W _ 40 (by kernel_rfl) ht h (by decide+kernel) (by decide+kernel) (by decide+kernel) (by decide) (by kernel_rfl) (by kernel_rfl) (.inl (by decide)) hl
   ·exact tokS W _ 41 (by kernel_rfl) ht h (by decide+kernel) (by decide+kernel) (by decide+kernel) (by decide) (by kernel_rfl) (by kernel_rfl) (.inl (by decide)) hl
   ·exact tokS W _ 91 (by kernel_rfl) ht h (by decide+kernel) (by decide+kernel) (by decide+kernel) (by decide) (by kernel_rfl) (by kernel_rfl) (.inl (by decide)) hl
   ·exact tokS W _ 93 (by kernel_rfl) ht h (by decide+kernel) (by decide+kernel) (by decide+kernel) (by decide) (by kernel_rfl) (by kernel_rfl) (.inl (by decide)) hl
   ·exact tokS W _ 123 (by kernel_rfl) ht h (by decide+kernel) (by decide+kernel) (by decide+kernel) (by decide) (by kernel_rfl) (by kernel_rfl) (.inl (by decide)) hl
   ·exact tokS W _ 125 (by kernel_rfl) ht h (by decide+kernel) (by decide+kernel) (by decide+kernel) (by decide) (by kernel_rfl) (by kernel_rfl) (.inl (by decide)) hl
   ·exact tokS W _ 59 (by kernel_rfl) ht h (by decide+kernel) (by decide+kernel) (by decide+kernel) (by decide) (by kernel_rfl) (by kernel_rfl) (.inl (by decide)) hl
   ·exact tokS W _ 45 (by kernel_rfl) ht h (by decide+kernel) (by decide+kernel) (by decide+kernel) (by decide) (by kernel_rfl) (by kernel_rfl) (.inl (by decide)) hl
   ·exact tokS W _ 43 (by kernel_rfl) ht h (by decide+kernel) (by decide+kernel) (by decide+kernel) (by decide) (by kernel_rfl) (by kernel_rfl) (.inl (by decide)) hl
   ·exact tokS W _ 61 (by kernel_rfl) ht h (by decide+kernel) (by decide+kernel) (by decide+kernel) (by decide) (by kernel_rfl) (by kernel_rfl) (.inr (hq (by kernel_rfl))) hl
  |fin=>exact h1.elim
end
theorem lto_at:∀ (ly:Ly) (p j:Nat) (k:Tk) (o:Nat),(∀x∈ly,x.1.cs≠ [])->(lto p ly)[j]? =some (k,o)->p<=o/\o<=p+(ltx ly).length/\(0<j->p<o\/ly=[])/\(j<ly.length->o<p+(ltx ly).length)
 | [],p,j,k,o,_,h=>by
  cases j with
  |zero=>
   have h:some (Tk.fin,p)=some (k,o):=h
   cases h
   exact⟨Nat.le_refl _,Nat.le_add_right _ _,λh=>by lia,λh=>by simp at h⟩
  |succ j=>cases h
 | (k',n)::r,p,j,k,o,hne,h=>by
  have h1:0<k'.cs.length:=Nat.pos_of_ne_zero λz=>hne _ (.head _) (List.eq_nil_of_length_eq_zero z)
  have hl:(ltx ((k',n)::r)).length=k'.cs.length+(n+(ltx r).length):=by
   show(k'.cs++(List.replicate n 32++ltx r)).length=_
   rw[List.length_append,List.length_append,List.length_replicate]
  cases j with
  |zero=>
   have h:some (k',p)=some (k,o):=h
   cases h
   exact⟨Nat.le_refl _,by lia,λh=>by lia,λ_=>by lia⟩
  |succ j=>
   obtain⟨a,b,c,d⟩:=lto_at r (p+k'.cs.length+n) j k o (λx hx=>hne x (.tail _ hx)) h
   refine⟨by lia,by lia,λ_=>.inl (by lia),λhj=>?_⟩
   have:=d (by simpa using hj)
   lia
theorem lto_len:∀ (ly:Ly) (p:Nat),(lto p ly).length=ly.length+1
 | [],_=>rfl
 | (k,n)::r,p=>by show(lto _ r).length+1=_;rw[lto_len];rfl
theorem lto_seg:∀ (ly:Ly) (p:Nat) (pre:Toks),Seg (pre++lto p ly) pre.length (ly.map Prod.fst)/\∃o,(pre++lto p ly)[pre.length+ly.length]? =some (.fin,o)
 | [],p,pre=>⟨trivial,p,by
   rw[List.length_nil,Nat.add_zero,List.getElem?_append_right (Nat.le_refl _),Nat.sub_self];rfl⟩
 | (k,n)::r,p,pre=>by
  obtain⟨a,b⟩:=lto_seg r (p+k.cs.length+n) (pre++[(k,p)])
  have e:pre++[(k,p)]++lto (p+k.cs.length+n) r=pre++lto p ((k,n)::r):=by rw[List.append_assoc];rfl
  rw[e,List.length_append,List.length_singleton]at a b
  refine⟨⟨⟨p,?_⟩,a⟩,?_⟩
  ·rw[List.getElem?_append_right (Nat.le_refl _),Nat.sub_self];rfl
  ·rw[List.length_cons,show pre.length+(r.length+1)=pre.length+1+r.length by lia];exact b
theorem chn_cs {k:Tk}(h:okT k):k.cs≠ []:=by obtain⟨c,r,e,_⟩:=cs_first h;rw[e];nofun
theorem chn_all:∀ {l:List Tk},chn l->∀k∈l,okT k
 |k::r,⟨h1,_,h3⟩,x,hx=>by
  rcases List.mem_cons.mp hx with rfl|hx
  ·exact h1
  ·exact chn_all h3 x hx
theorem ltx_nl:∀ {ly:Ly},(∀x∈ly,okT x.1)->∀c∈ltx ly,c≠10
 | [],_,c,hc=>by cases hc
 | (k,n)::r,h,c,hc=>by
  have hc:c∈k.cs++(List.replicate n 32++ltx r):=hc
  rcases List.mem_append.mp hc with hc|hc
  ·obtain⟨_,_,_,_,_,_,e⟩:=cs_first (h _ (.head _))
   exact e c hc
  ·rcases List.mem_append.mp hc with hc|hc
   ·rw[List.eq_of_mem_replicate hc];decide
   ·exact ltx_nl (λx hx=>h x (.tail _ hx)) c hc
theorem rok_of {ly:Ly}(hc:∀x∈ly,okT x.1)(hs:Short (tx (ltx ly))):Rok (tx (ltx ly)) (lto 0 ly):=by
 have hl:(tx (ltx ly)).length=(ltx ly).length:=by simp[Str.length]
 refine⟨⟨hs,λi hi=>?_⟩,?_,λi tk o h=>?_⟩
 ·have hi':i< (ltx ly).length:=by lia
  have h1:(tx (ltx ly)).cps.toList[i]? =some ((ltx ly)[i]):=by simp
  rw[item_one h1]
  refine decide_eq_false λe=>?_
  have e:=congrArg (λs:Str=>s.cps.toList) e
  have e:[(ltx ly)[i]]=[10]:=e.trans (by kernel_rfl)
  exact ltx_nl hc _ (List.getElem_mem _) (List.cons.inj e).1
 ·rw[lto_len]
  have:∀ly:Ly,(∀x∈ly,okT x.1)->ly.length<=(ltx ly).length:=by
   intro ly
   induction ly with
   |nil=>intro _;exact Nat.le_refl _
   |cons p r ih=>
    intro h
    obtain⟨k,n⟩:=p
    have:=ih λx hx=>h x (.tail _ hx)
    have h1:0<k.cs.length:=Nat.pos_of_ne_zero λz=>chn_cs (h _ (.head _)) (List.eq_nil_of_length_eq_zero z)
    show r.length+1<=(k.cs++(List.replicate n 32++ltx r)).length
    rw[List.length_append,List.length_append]
    lia
  have:=this ly hc
  have:(ltx ly).length<1000000:=by rw[<-hl];exact hs
  lia
 ·have:=(lto_at ly 0 i tk o (λx hx=>chn_cs (hc x hx)) h).2.1
  rw[hl];lia
section
variable {w:World}{B:Heap}
theorem c_reader (W:Wd w B){t:Str}{ts:Toks}{k:Nat}(h:CN w B k 312 [.str t] [] (.ret (.dat (.lst (partsL ts)))) []):
  CN w B (k+3) 463 [.str t] [] (.ret (.ref 1)) [.ns ["text","parts","spot","deep","below"] [.str t,.dat (.lst (partsL ts)),.int 0,.int 0,.int 0],.inst 463 0]:=λn hn=>by
 obtain⟨m,rfl⟩:∃m,n=m+2:=⟨n-2,by lia⟩
 exact make_ok (obj:=[]) W.know.k (by kernel_rfl) (fI:=326) (by kernel_rfl) (by kernel_rfl)
  ((CN.of (F_ActionReader_init2 W) rfl (k:=k) (fl:=.next) λn hn e L=>way (okX W) (or:=[.call [] (.ret (.dat (.lst (partsL ts)))) []]) (aI (h n hn) trivial)) m (by lia))
theorem c_parse1 (W:Wd w B){t:Str}{ts:Toks}{k s':Nat}{b':Int}{Y:List D}(h:CN w B k 312 [.str t] [] (.ret (.dat (.lst (partsL ts)))) [])(hw:CN w B (k+3) 390 [.ref 0] (rdr t ts 0 0 0) (.ret (.dat (.lst Y))) (rdr t ts s' 0 b')):
  CN w B (k+4) 481 [.str t] [] (.ret (.dat (.lst Y))) []:=by
 suffices h:CN w B (k+4) 481 [.str t] [] (.ret (.dat (.lst Y))) [.ns ["text","parts","spot","deep","below"] [.str t,.dat (.lst (partsL ts)),.int s',.int 0,.int b'],.inst 463 0] from
  λn hn=>CallOK.trim (obj':=[]) (extra:=[.ns ["text","parts","spot","deep","below"] [.str t,.dat (.lst (partsL ts)),.int s',.int 0,.int b'],.inst 463 0]) (h n hn) rfl rfl rfl
 exact CN.of (F_parse_action1 W) rfl (fl:=.ret _) λn hn e L=>way (okX W) (or:=[.call [] (.ret (.ref 1)) [.ns ["text","parts","spot","deep","below"] [.str t,.dat (.lst (partsL ts)),.int 0,.int 0,.int 0],.inst 463 0],.call [1,0] (.ret (.dat (.lst Y))) (rdr t ts s' 0 b')])
  (aI (c_reader W h n hn) (aI (hw n hn) trivial))
theorem c_parse1_x (W:Wd w B){t:Str}{ts:Toks}{k o:Nat}(h:CN w B k 312 [.str t] [] (.ret (.dat (.lst (partsL ts)))) [])(hw:CN w B (k+3) 390 [.ref 0] (rdr t ts 0 0 0) (deepX o) (rdr t ts 0 0 0)):
  CN w B (k+4) 481 [.str t] [] (deepX o) []:=
 CN.of (F_parse_action1 W) rfl (fl:=.ex _ _ _) λn hn e L=>wayX (okX W) (or:=[.call [] (.ret (.ref 1)) [.ns ["text","parts","spot","deep","below"] [.str t,.dat (.lst (partsL ts)),.int 0,.int 0,.int 0],.inst 463 0],.call [1,0] (deepX o) (rdr t ts 0 0 0)])
  (aI (c_reader W h n hn) (aI (hw n hn) trivial))
theorem c_parse (W:Wd w B){s:Sx}(hs:s.ok=true){ly:Ly}(hly:ly.map Prod.fst=s.tk)(hc:chn s.tk)(hn:Short (tx (ltx ly))):
  (s.dep<=100->CN w B (s.kS+6) 481 [.str (tx (ltx ly))] [] (.ret (.dat (.lst [.tup s.nodeL]))) [])/\
  (100<s.dep->∃o:Nat,0<o/\o< (tx (ltx ly)).length/\CN w B (s.kS+6) 481 [.str (tx (ltx ly))] [] (deepX o) []):=by
 have hc':chn (ly.map Prod.fst):=by rw[hly];exact hc
 have hall:∀x∈ly,okT x.1:=λx hx=>chn_all hc' _ (List.mem_map_of_mem hx)
 have R:=rok_of hall hn
 obtain⟨a1,a2⟩:=chn_ly W hc'
 have hS:=c_scan W ly hn a1 a2
 obtain⟨g1,oz,g2⟩:=lto_seg ly 0 []
 rw[List.nil_append,hly]at g1
 have hlen:ly.length=s.tk.length:=by rw[<-hly,List.length_map]
 rw[List.nil_append,List.length_nil,Nat.zero_add,hlen]at g2
 obtain⟨w1,w2⟩:=whole_ok W R hs g1 g2
 have hk:=s.kS13
 refine⟨λh=>(c_parse1 W (hS.up (show 6<=s.kS+2 by lia)) ((w1 h).up (by lia))),λh=>?_⟩
 obtain⟨j,o,tk,j1,j2,j3,hB⟩:=w2 h
 obtain⟨l1,l2,l3,l4⟩:=lto_at ly 0 j tk o (λx hx=>chn_cs (hall x hx)) j3
 have hl:(tx (ltx ly)).length=(ltx ly).length:=by simp[Str.length]
 refine⟨o,?_,?_,c_parse1_x W (hS.up (show 6<=s.kS+2 by lia)) (hB.up (by lia))⟩
 ·rcases l3 j1 with h|h
  ·exact h
  ·subst h;rw[<-hlen]at j2;simp at j2
 ·have:=l4 (by lia)
  rw[hl];lia
end
noncomputable def Xt.sub:Xt->List (List D)
 | .num _=>[]
 | .par x=>x.sub
 | .lst x=>[x.nodeL]
 | .len x=>[x.nodeL]
 | .neg x=>[x.nodeL]
 | .add l r=>[l.nodeL,r.nodeL]
noncomputable def Xt.hgt:Xt->Nat
 | .num _=>0
 | .par x=>x.hgt
 | .lst x=>x.hgt+1
 | .len x=>x.hgt+1
 | .neg x=>x.hgt+1
 | .add l r=>max l.hgt r.hgt+1
noncomputable abbrev tups (l:List (List D)):List D:=l.map D.tup
section
variable {w:World}{B:Heap}
theorem c_parts_of (W:Wd w B):∀x:Xt,CN w B 1 495 [nd x] [] (.ret (.dat (.lst (tups x.sub)))) []
 | .num k=>CN.of (F_parts_of1 W) rfl (fl:=.ret _) λn hn e L=>way (okX W) (or:=[.go,.go,.go,.go,.go,.fz]) trivial
 | .par x=>c_parts_of W x
 | .lst x=>CN.of (F_parts_of1 W) rfl (fl:=.ret _) λn hn e L=>way (okX W) (or:=[]) trivial
 | .len x=>CN.of (F_parts_of1 W) rfl (fl:=.ret _) λn hn e L=>way (okX W) (or:=[]) trivial
 | .neg x=>CN.of (F_parts_of1 W) rfl (fl:=.ret _) λn hn e L=>way (okX W) (or:=[.go,.go,.go,.go,.fz]) trivial
 | .add l r=>CN.of (F_parts_of1 W) rfl (fl:=.ret _) λn hn e L=>way (okX W) (or:=[.go,.go,.go,.fz]) trivial
theorem c_parts_u (W:Wd w B):CN w B 1 495 [.dat (.tup nU)] [] (.ret (.dat (.lst []))) []:=
 CN.of (F_parts_of1 W) rfl (fl:=.ret _) λn hn e L=>way (okX W) (or:=[.go,.go,.go,.go,.go,.fz]) trivial
noncomputable abbrev cnX (w:World)(B:Heap)(e:En)(L n:Nat):Cx:=cxt w B "check_nodes" (df 38) 488 (.ref 487) e L n
noncomputable abbrev cnF:Stmt:=stm (df 38).body 3
noncomputable abbrev cnL (N:List D)(k:Str):Loc:=[lv "node" (.dat (.tup N)),lv "count" (.int 0),lv "kind" (.str k)]
abbrev CkOK (w:World)(B:Heap)(k:Nat)(N:List D):Prop:=CN w B k 488 [.dat (.tup N),.int 0] [] (.ret .none) []
noncomputable abbrev nds (l:List (List D)):List AV:=l.map λN=>.dat (.tup N)
theorem parts_tups (l:List (List D)):partsOfD (tups l)=nds l:=by
 unfold partsOfD tups nds
 rw[List.map_map];rfl
theorem cn_loop (W:Wd w B)(e:En)(L n:Nat)(N:List D)(kd:Str)(l:List (List D))(h:∀M∈l,CkOK w B n M):∀ (k i:Nat),i+k=l.length->TFo (cnX w B e L n) (forX cnF) (forP cnF) (forB cnF) (nds l) i ⟨cnL N kd,[]⟩ .next ⟨cnL N kd,[]⟩
 |0,i,hk=>tfo_nil (by rw[List.getElem?_eq_none];rw[List.length_map];lia) (by intro p hp;simp at hp;rcases hp with rfl|rfl|rfl<;>rfl) (by intro q hq;simp at hq)
 |k+1,i,hk=>by
  obtain⟨M,hM⟩:∃M,l[i]? =some M:=⟨l[i]'(by lia),List.getElem?_eq_getElem _⟩
  refine tfo_cons (c₁:=⟨cnL N kd++[lv "part" (.dat (.tup M))],[]⟩) (a:=.dat (.tup M)) rfl (by kernel_rfl) (by rw[List.getElem?_map,hM];rfl) rfl (λob=>?_) (TFo.forget rfl Less.app (cn_loop W e L n N kd l h k (i+1) (by lia)))
  exact stp (okX W) (or:=[.call [] (.ret .none) []]) (aI (h M (List.mem_of_getElem? hM) n (Nat.le_refl _)) trivial)
theorem cn_for (W:Wd w B)(e:En)(L n:Nat)(N:List D)(kd:Str)(l:List (List D))(hp:CO w B n 495 [.dat (.tup N)] [] (.ret (.dat (.lst (tups l)))) [])(h:∀M∈l,CkOK w B n M):TF (cnX w B e L n) (exec cnF (cnX w B e L n).f.env) ⟨cnL N kd,[]⟩ .next ⟨cnL N kd,[]⟩:=by
 have hX:Ok (cnX w B e L n):=okX W
 have hi:ItOK (cnX w B e L n) (forI cnF) ⟨cnL N kd,[]⟩ (nds l) ⟨cnL N kd,[]⟩:=by
  rw[<-parts_tups]
  exact it_list (xpr hX (or:=[.call [] (.ret (.dat (.lst (tups l)))) []]) (aI hp trivial))
 exact tf_forS (by kernel_rfl) hi (cn_loop W e L n N kd l h l.length 0 (by lia)) (λv=>by kernel_rfl)
theorem CkOK.le {k m:Nat}{N:List D}(h:CkOK w B k N)(hk:k<=m):CkOK w B m N:=h.up hk
theorem c_check (W:Wd w B):∀x:Xt,CkOK w B (x.hgt+2) x.nodeL
 | .num k=>CN.of (F_check_nodes2 W) rfl (fl:=.next) λn hn e L=>way (okX W) (or:=[.suite .next ⟨cnL (Xt.num k).nodeL "number",[]⟩]) (aI (cn_for W e L n _ "number" [] (c_parts_of W (.num k) n (by lia)) (by intro M h;cases h)) trivial)
 | .par x=>c_check W x
 | .lst x=>CN.of (F_check_nodes2 W) rfl (fl:=.next) λn hn e L=>way (okX W) (or:=[.suite .next ⟨cnL (Xt.lst x).nodeL "list",[]⟩])
   (aI (cn_for W e L n _ "list" [x.nodeL] (c_parts_of W (.lst x) n (by lia)) (by intro M h;cases List.mem_singleton.mp h;exact(c_check W x).le hn)) trivial)
 | .len x=>CN.of (F_check_nodes2 W) rfl (fl:=.next) λn hn e L=>way (okX W) (or:=[.suite .next ⟨cnL (Xt.len x).nodeL "apply",[]⟩])
   (aI (show(1:Int)<2^63 by decide) (aI (cn_for W e L n _ "apply" [x.nodeL] (c_parts_of W (.len x) n (by lia)) (by intro M h;cases List.mem_singleton.mp h;exact(c_check W x).le hn)) trivial))
 | .neg x=>CN.of (F_check_nodes2 W) rfl (fl:=.next) λn hn e L=>way (okX W) (or:=[.suite .next ⟨cnL (Xt.neg x).nodeL "one",[]⟩])
   (aI (cn_for W e L n _ "one" [x.nodeL] (c_parts_of W (.neg x) n (by lia)) (by intro M h;cases List.mem_singleton.mp h;exact(c_check W x).le hn)) trivial)
 | .add l r=>CN.of (F_check_nodes2 W) rfl (fl:=.next) λn hn e L=>way (okX W) (or:=[.suite .next ⟨cnL (Xt.add l r).nodeL "two",[]⟩])
   (aI (cn_for W e L n _ "two" [l.nodeL,r.nodeL] (c_parts_of W (.add l r) n (by lia)) (by
    intro M h
    have hn:max l.hgt r.hgt+1+1<=n:=hn
    rcases List.mem_cons.mp h with rfl|h
    ·exact(c_check W l).le (by lia)
    ·cases List.mem_singleton.mp h;exact(c_check W r).le (by lia))) trivial)
theorem c_check_u (W:Wd w B):CkOK w B 2 nU:=
 CN.of (F_check_nodes2 W) rfl (fl:=.next) λn hn e L=>way (okX W) (or:=[.suite .next ⟨cnL nU "name",[]⟩]) (aI (cn_for W e L n _ "name" [] (c_parts_u W n (by lia)) (by intro M h;cases h)) trivial)
noncomputable abbrev caX (w:World)(B:Heap)(e:En)(L n:Nat):Cx:=cxt w B "check_action" (df 40) 502 (.ref 501) e L n
noncomputable abbrev caF:Stmt:=stm (df 40).body 0
noncomputable abbrev caL (l:List D):Loc:=[lv "nodes" (.dat (.lst l)),lv "count" (.int 0)]
abbrev CaOK (w:World)(B:Heap)(k:Nat)(l:List D):Prop:=CN w B k 502 [.dat (.lst l),.int 0] [] (.ret .none) []
theorem ca_nil (W:Wd w B):CaOK w B 1 []:=
 CN.of (F_check_action2 W) rfl (fl:=.next) λn hn e L=>by
  have hX:Ok (caX w B e L n):=okX W
  have hi:ItOK (caX w B e L n) (forI caF) ⟨caL [],[]⟩ [] ⟨caL [],[]⟩:=it_list (l:=[]) (xpr hX (or:=[]) trivial)
  have hF:=tf_forS (s:=caF) (by kernel_rfl) hi (tfo_nil rfl (by intro p hp;simp at hp;rcases hp with rfl|rfl<;>rfl) (by intro q hq;simp at hq)) (λv=>by kernel_rfl)
  exact way hX (or:=[.suite .next ⟨caL [],[]⟩]) (aI hF trivial)
theorem ca_one (W:Wd w B){k:Nat}{N:List D}(h:∀ (e:En) (L n:Nat),k<=n->∀o,TF (caX w B e L n) (execs (forB caF) (caX w B e L n).f.env) ⟨caL [.tup N]++[lv "node" (.dat (.tup N))],[.raw o]⟩ .next ⟨caL [.tup N]++[lv "node" (.dat (.tup N))],[.raw o]⟩):CaOK w B (k+1) [.tup N]:=
 CN.of (F_check_action2 W) rfl (fl:=.next) λn hn e L=>by
  have hX:Ok (caX w B e L n):=okX W
  have hi:ItOK (caX w B e L n) (forI caF) ⟨caL [.tup N],[]⟩ [.dat (.tup N)] ⟨caL [.tup N],[]⟩:=it_list (l:=[.tup N]) (xpr hX (or:=[]) trivial)
  have hF:=tf_forS (s:=caF) (by kernel_rfl) hi (tfo_cons (c₁:=⟨caL [.tup N]++[lv "node" (.dat (.tup N))],[]⟩) rfl (by kernel_rfl) rfl rfl (λo=>h e L n hn o)
   (tfo_nil rfl (by intro p hp;simp at hp;rcases hp with rfl|rfl|rfl<;>rfl) (by intro q hq;simp at hq))) (λv=>by kernel_rfl)
  exact way hX (or:=[.suite .next ⟨caL [.tup N]++[lv "node" (.dat (.tup N))],[]⟩]) (aI hF trivial)
noncomputable def Sx.kA:Sx->Nat
 | .set x=>x.hgt+3
 | .iff s=>s.kA+1
 | .whl s=>s.kA+1
 | .els _ s=>s.kA+1
theorem Sx.kA3:∀s:Sx,3<=s.kA
 | .set x=>by unfold kA;lia
 | .iff s=>by have:=s.kA3;unfold kA;lia
 | .whl s=>by have:=s.kA3;unfold kA;lia
 | .els _ s=>by have:=s.kA3;unfold kA;lia
theorem c_check_act (W:Wd w B):∀s:Sx,CaOK w B s.kA [.tup s.nodeL]
 | .set x=>ca_one W (k:=x.hgt+2) λe L n hn o=>stp (okX W) (or:=[.call [] (.ret .none) []]) (aI (c_check W x n hn) trivial)
 | .iff s=>by
  have hk:=s.kA3
  exact ca_one W (k:=s.kA) λe L n hn o=>stp (okX W) (or:=[.call [] (.ret .none) [],.call [] (.ret .none) [],.call [] (.ret .none) []])
   (aI (c_check W (.num 1) n (show 2<=n by lia)) (aI (c_check_act W s n hn) (aI (ca_nil W n (by lia)) trivial)))
 | .whl s=>by
  have hk:=s.kA3
  exact ca_one W (k:=s.kA) λe L n hn o=>stp (okX W) (or:=[.call [] (.ret .none) [],.call [] (.ret .none) []])
   (aI (c_check_u W n (show 2<=n by lia)) (aI (c_check_act W s n hn) trivial))
 | .els m s=>by
  have hk:=s.kA3
  exact ca_one W (k:=s.kA) λe L n hn o=>stp (okX W) (or:=[.call [] (.ret .none) [],.call [] (.ret .none) [],.call [] (.ret .none) []])
   (aI (c_check_u W n (show 2<=n by lia)) (aI (ca_nil W n (by lia)) (aI (c_check_act W s n hn) trivial)))
end
noncomputable def orel:Stmt->List Stmt
 | .If _ _ o _=>o
 |_=>[]
noncomputable def elseN:Nat->Stmt->List Stmt
 |0,s=>[s]
 |n+1,s=>orel (stm (elseN n s) 0)
noncomputable abbrev ins (o:Str)(d:D):D:=.tup [.str o,d]
noncomputable abbrev cmo (c:List D):List AO:=[.inst 679 1,.ns ["code"] [.ref 2],.dlist c]
section
variable {w:World}{B:Heap}
theorem len_parts (l:List D):(partsOfD l).length=l.length:=List.length_map _
theorem c_add3 (W:Wd w B)(c:List D)(hc:c.length<100000)(o:Str)(a:AV)(d:D)(hd:dOf a=some d):CN w B 1 627 [.ref 0,.str o,a] (cmo c) (.ret (.int c.length)) (cmo (c++[ins o d])):=by
 have e1:(((partsOfD (c++[ins o d])).length:Nat):Int)-1=c.length:=by rw[len_parts];simp
 have hz:c.length<=sizeLine:=by rw[sizeLine_eq];lia
 have hz2:(((partsOfD (c++[ins o d])).length:Nat):Int)<2^63:=by rw[len_parts];simp;lia
 rw[<-e1]
 cases a with
 |none=>cases hd;exact CN.of (F_CodeMaker_add3 W) rfl (fl:=.ret _) λn hn e L=>way (okX W) (or:=[]) (aI hz (aI hz2 trivial))
 |int i=>cases hd;exact CN.of (F_CodeMaker_add3 W) rfl (fl:=.ret _) λn hn e L=>way (okX W) (or:=[]) (aI hz (aI hz2 trivial))
 |str i=>cases hd;exact CN.of (F_CodeMaker_add3 W) rfl (fl:=.ret _) λn hn e L=>way (okX W) (or:=[]) (aI hz (aI hz2 trivial))
 |dat i=>cases hd;exact CN.of (F_CodeMaker_add3 W) rfl (fl:=.ret _) λn hn e L=>way (okX W) (or:=[]) (aI hz (aI hz2 trivial))
 |bool i=>cases hd;exact CN.of (F_CodeMaker_add3 W) rfl (fl:=.ret _) λn hn e L=>way (okX W) (or:=[]) (aI hz (aI hz2 trivial))
 |_=>cases hd
theorem c_add2 (W:Wd w B)(c:List D)(hc:c.length<100000)(o:Str):CN w B 1 627 [.ref 0,.str o] (cmo c) (.ret (.int c.length)) (cmo (c++[ins o .none])):=by
 have e1:(((partsOfD (c++[ins o .none])).length:Nat):Int)-1=c.length:=by rw[len_parts];simp
 have hz:c.length<=sizeLine:=by rw[sizeLine_eq];lia
 have hz2:(((partsOfD (c++[ins o .none])).length:Nat):Int)<2^63:=by rw[len_parts];simp;lia
 rw[<-e1]
 exact CN.of (F_CodeMaker_add2 W) rfl (fl:=.ret _) λn hn e L=>way (okX W) (or:=[]) (aI hz (aI hz2 trivial))
theorem parts_get {l:List D}{i:Nat}{d:List D}(h:l[i]? =some (.tup d)):(partsOfD l)[i]? =some (.dat (.tup d)):=by
 unfold partsOfD
 rw[List.getElem?_map,h];rfl
theorem c_aim (W:Wd w B)(a b:List D)(hc:(a++b).length<99999)(o:Str)(d:D):CN w B 1 634 [.ref 0,.int a.length] (cmo (a++ins o d::b)) (.ret .none) (cmo (a++ins o (.int ((a++ins o d::b).length:Nat))::b)):=by
 have hl:a.length< (a++ins o d::b).length:=by simp
 have hx:(partsOfD (a++ins o d::b))[((a.length:Nat):Int).toNat]? =some (.dat (ins o d)):=by rw[Int.toNat_natCast];exact parts_get (by simp)
 have hs:(a++ins o d::b).set ((a.length:Nat):Int).toNat (ins o (.int ((partsOfD (a++ins o d::b)).length:Nat)))=a++ins o (.int ((a++ins o d::b).length:Nat))::b:=by
  rw[Int.toNat_natCast,len_parts]
  simp
 have hb:(a++ins o d::b).length<100001:=by simp at hc ⊢;lia
 suffices h:CN w B 1 634 [.ref 0,.int a.length] (cmo (a++ins o d::b)) (.ret .none) (cmo ((a++ins o d::b).set ((a.length:Nat):Int).toNat (ins o (.int ((partsOfD (a++ins o d::b)).length:Nat))))) by
  rw[hs]at h;exact h
 exact CN.of (F_CodeMaker_aim2 W) rfl (fl:=.next) λn hn e L=>way (okX W) (or:=[.item (.dat (ins o d))])
  (aI (show 0<=((a.length:Nat):Int)/\((a.length:Nat):Int)<2^63/\(partsOfD (a++ins o d::b))[((a.length:Nat):Int).toNat]? =some (.dat (ins o d)) from⟨by lia,by lia,hx⟩) (aI (show(((partsOfD (a++ins o d::b)).length:Nat):Int)<2^63 by rw[len_parts];lia)
   (aI (show 0<=((a.length:Nat):Int)/\((a.length:Nat):Int)<2^63/\((a.length:Nat):Int).toNat< (a++ins o d::b).length from⟨by lia,by lia,by rw[Int.toNat_natCast];exact hl⟩) trivial)))
noncomputable def Xt.code:Xt->List D
 | .num k=>[ins "push" (.int k)]
 | .par x=>x.code
 | .lst x=>x.code++[ins "list" (.int 1)]
 | .len x=>x.code++[ins "apply" (.str "len")]
 | .neg x=>x.code++[ins "one" (.str "-")]
 | .add l r=>l.code++r.code++[ins "two" (.str "+")]
noncomputable abbrev uC:List D:=[ins "get" (.str "u")]
noncomputable abbrev ceX (w:World)(B:Heap)(e:En)(L n:Nat):Cx:=cxt w B "CodeMaker.expression" (dm 60 3) 641 (.ref 640) e L n
noncomputable abbrev ceF:Stmt:=stm (elseN 5 (stm (dm 60 3).body 1)) 0
noncomputable abbrev ceL (N:List D)(k:Str):Loc:=[lv "self" (.ref 0),lv "node" (.dat (.tup N)),lv "kind" (.str k)]
abbrev CeOK (w:World)(B:Heap)(k:Nat)(N:List D)(cd:List D):Prop:=∀c:List D,c.length+cd.length<90000->CN w B k 641 [.ref 0,.dat (.tup N)] (cmo c) (.ret .none) (cmo (c++cd))
theorem ce_body (W:Wd w B){e:En}{L n:Nat}{N M:List D}{kd:Str}{k:Nat}{cd:List D}(h:CeOK w B k M cd)(hk:k<=n)(c:List D)(hc:c.length+cd.length<90000)(o:Obj):
  TF (ceX w B e L n) (execs (forB ceF) (ceX w B e L n).f.env) ⟨put (ceL N kd) (forX ceF) (.dat (.tup M)),cmo c++[.raw o]⟩ .next ⟨ceL N kd++[lv "part" (.dat (.tup M))],cmo (c++cd)++[.raw o]⟩:=
 stp (okX W) (or:=[.call [0,1,2] (.ret .none) (cmo (c++cd))]) (aI (h c hc n hk) trivial)
theorem cm_closed (c:List D)(o:AO)(h:o∈cmo c):closedO (cmo c).length o=true:=by
 simp at h
 rcases h with rfl|rfl|rfl<;>rfl
theorem ceL_closed (N:List D)(k:Str)(c:List D):∀p∈ceL N k,closedV (cmo c).length p.2=true:=by intro p hp;simp at hp;rcases hp with rfl|rfl|rfl<;>rfl
theorem ce_for1 (W:Wd w B){e:En}{L n:Nat}{N M:List D}{kd:Str}{k:Nat}{cd c:List D}(hp:CO w B n 495 [.dat (.tup N)] [] (.ret (.dat (.lst (tups [M])))) [])(h:CeOK w B k M cd)(hk:k<=n)(hc:c.length+cd.length<90000):
  TF (ceX w B e L n) (exec ceF (ceX w B e L n).f.env) ⟨ceL N kd,cmo c⟩ .next ⟨ceL N kd,cmo (c++cd)⟩:=by
 have hX:Ok (ceX w B e L n):=okX W
 have hi:ItOK (ceX w B e L n) (forI ceF) ⟨ceL N kd,cmo c⟩ (nds [M]) ⟨ceL N kd,cmo c⟩:=it_list (l:=tups [M]) (xpr hX (or:=[.call [] (.ret (.dat (.lst (tups [M])))) []]) (aI hp trivial))
 exact tf_forS (by kernel_rfl) hi (tfo_cons (c₁:=⟨ceL N kd++[lv "part" (.dat (.tup M))],cmo (c++cd)⟩) rfl (by kernel_rfl) rfl rfl (λo=>ce_body W h hk c hc o)
  (TFo.forget rfl Less.app (tfo_nil rfl (ceL_closed N kd _) (cm_closed _)))) (λv=>by kernel_rfl)
theorem ce_for2 (W:Wd w B){e:En}{L n:Nat}{N M M':List D}{kd:Str}{k:Nat}{cd cd' c:List D}(hp:CO w B n 495 [.dat (.tup N)] [] (.ret (.dat (.lst (tups [M,M'])))) [])(h:CeOK w B k M cd)(h':CeOK w B k M' cd')(hk:k<=n)(hc:c.length+cd.length+cd'.length<90000):
  TF (ceX w B e L n) (exec ceF (ceX w B e L n).f.env) ⟨ceL N kd,cmo c⟩ .next ⟨ceL N kd,cmo (c++cd++cd')⟩:=by
 have hX:Ok (ceX w B e L n):=okX W
 have hi:ItOK (ceX w B e L n) (forI ceF) ⟨ceL N kd,cmo c⟩ (nds [M,M']) ⟨ceL N kd,cmo c⟩:=it_list (l:=tups [M,M']) (xpr hX (or:=[.call [] (.ret (.dat (.lst (tups [M,M'])))) []]) (aI hp trivial))
 exact tf_forS (by kernel_rfl) hi (tfo_cons (c₁:=⟨ceL N kd++[lv "part" (.dat (.tup M))],cmo (c++cd)⟩) rfl (by kernel_rfl) rfl rfl (λo=>ce_body W h hk c (by lia) o)
  (TFo.forget rfl Less.app (tfo_cons (c₁:=⟨ceL N kd++[lv "part" (.dat (.tup M'))],cmo (c++cd++cd')⟩) rfl (by kernel_rfl) rfl rfl (λo=>ce_body W h' hk (c++cd) (by rw[List.length_append];exact hc) o)
   (TFo.forget rfl Less.app (tfo_nil rfl (ceL_closed N kd _) (cm_closed _)))))) (λv=>by kernel_rfl)
abbrev OuOK (w:World)(B:Heap)(N:List D)(i:D):Prop:=∀c:List D,c.length<90000->CN w B 2 648 [.ref 0,.dat (.tup N)] (cmo c) (.ret .none) (cmo (c++[i]))
theorem ou_lst (W:Wd w B)(x:Xt):OuOK w B (Xt.lst x).nodeL (ins "list" (.int 1)):=λc hc=>
 CN.of (F_CodeMaker_outermost2 W) rfl (fl:=.next) λn hn e L=>way (okX W) (or:=[.call [0,1,2] (.ret (.int c.length)) (cmo (c++[ins "list" (.int 1)]))]) (aI (show(1:Int)<2^63 by decide) (aI (c_add3 W c (by lia) "list" (.int 1) (.int 1) rfl n (by lia)) trivial))
theorem ou_len (W:Wd w B)(x:Xt):OuOK w B (Xt.len x).nodeL (ins "apply" (.str "len")):=λc hc=>
 CN.of (F_CodeMaker_outermost2 W) rfl (fl:=.next) λn hn e L=>way (okX W) (or:=[.call [0,1,2] (.ret (.int c.length)) (cmo (c++[ins "apply" (.str "len")]))]) (aI (show(1:Int)<2^63 by decide) (aI (c_add3 W c (by lia) "apply" (.str "len") (.str "len") rfl n (by lia)) trivial))
theorem ou_neg (W:Wd w B)(x:Xt):OuOK w B (Xt.neg x).nodeL (ins "one" (.str "-")):=λc hc=>
 CN.of (F_CodeMaker_outermost2 W) rfl (fl:=.next) λn hn e L=>way (okX W) (or:=[.call [0,1,2] (.ret (.int c.length)) (cmo (c++[ins "one" (.str "-")]))]) (aI (c_add3 W c (by lia) "one" (.str "-") (.str "-") rfl n (by lia)) trivial)
theorem ou_add (W:Wd w B)(l r:Xt):OuOK w B (Xt.add l r).nodeL (ins "two" (.str "+")):=λc hc=>
 CN.of (F_CodeMaker_outermost2 W) rfl (fl:=.next) λn hn e L=>way (okX W) (or:=[.call [0,1,2] (.ret (.int c.length)) (cmo (c++[ins "two" (.str "+")]))]) (aI (c_add3 W c (by lia) "two" (.str "+") (.str "+") rfl n (by lia)) trivial)
theorem ce_one (W:Wd w B){N M:List D}{kd:Str}{k:Nat}{cd:List D}{i:D}(h1:∀n,1<=n->CO w B n 495 [.dat (.tup N)] [] (.ret (.dat (.lst (tups [M])))) [])(h:CeOK w B k M cd)(ho:OuOK w B N i)(hk:2<=k)
  (hw:∀ (c:List D) (e:En) (L n:Nat) {Q:Prop},Q=(TF (ceX w B e L n) (exec ceF (ceX w B e L n).f.env) ⟨ceL N kd,cmo c⟩ .next ⟨ceL N kd,cmo (c++cd)⟩/\CO w B n 648 [.ref 0,.dat (.tup N)] (cmo (c++cd)) (.ret .none) (cmo (c++cd++[i]))/\True)->
   outP (ev (okX W:Ok (ceX w B e L n)) 40 (.ss (dm 60 3).body) ⟨[lv "self" (.ref 0),lv "node" (.dat (.tup N))],cmo c⟩ [.suite .next ⟨ceL N kd,cmo (c++cd)⟩,.call [0,1,2] (.ret .none) (cmo (c++cd++[i]))])=some (.f .next,cmo (c++cd++[i]),[],Q)):CeOK w B (k+1) N (cd++[i]):=λc hc=>by
 rw[List.length_append,List.length_singleton]at hc
 rw[<-List.append_assoc]
 exact CN.of (F_CodeMaker_expression2 W) rfl (fl:=.next) λn hn e L=>way (okX W) (aI (ce_for1 W (h1 n (by lia)) h hn (by lia)) (aI (ho (c++cd) (by rw[List.length_append];lia) n (by lia)) trivial)) (hw c e L n rfl)
theorem ce_all (W:Wd w B):∀x:Xt,CeOK w B (x.hgt+3) x.nodeL x.code
 | .num k=>λc hc=>CN.of (F_CodeMaker_expression2 W) rfl (fl:=.next) λn hn e L=>way (okX W) (or:=[.call [0,1,2] (.ret (.int c.length)) (cmo (c++[ins "push" (.int k)]))]) (aI (c_add3 W c (by lia) "push" (.int k) (.int k) rfl n (by lia)) trivial)
 | .par x=>ce_all W x
 | .lst x=>ce_one W (kd:= "list") (λn hn=>c_parts_of W (.lst x) n hn) (ce_all W x) (ou_lst W x) (by lia) λc e L n Q hQ=>by subst hQ;kernel_rfl
 | .len x=>ce_one W (kd:= "apply") (λn hn=>c_parts_of W (.len x) n hn) (ce_all W x) (ou_len W x) (by lia) λc e L n Q hQ=>by subst hQ;kernel_rfl
 | .neg x=>ce_one W (kd:= "one") (λn hn=>c_parts_of W (.neg x) n hn) (ce_all W x) (ou_neg W x) (by lia) λc e L n Q hQ=>by subst hQ;kernel_rfl
 | .add l r=>λc hc=>by
  have hc':(l.code++r.code++[ins "two" (.str "+")]).length=l.code.length+r.code.length+1:=by simp[Nat.add_assoc]
  have hc:c.length+(l.code++r.code++[ins "two" (.str "+")]).length<90000:=hc
  rw[hc']at hc
  show CN w B (max l.hgt r.hgt+1+3) 641 _ _ _ (cmo (c++(l.code++r.code++[ins "two" (.str "+")])))
  rw[<-List.append_assoc,<-List.append_assoc]
  have hl:=λc h=>(ce_all W l c h).up (show l.hgt+3<=max l.hgt r.hgt+3 by lia)
  have hr:=λc h=>(ce_all W r c h).up (show r.hgt+3<=max l.hgt r.hgt+3 by lia)
  exact CN.of (F_CodeMaker_expression2 W) rfl (k:=max l.hgt r.hgt+3) (fl:=.next) λn hn e L=>way (okX W) (or:=[.suite .next ⟨ceL (Xt.add l r).nodeL "two",cmo (c++l.code++r.code)⟩,.call [0,1,2] (.ret .none) (cmo (c++l.code++r.code++[ins "two" (.str "+")]))])
   (aI (ce_for2 (e:=e) (L:=L) (kd:= "two") (c:=c) (cd:=l.code) (cd':=r.code) (M:=l.nodeL) (M':=r.nodeL) W (c_parts_of W (.add l r) n (by lia)) hl hr hn (by lia)) (aI (ou_add W l r (c++l.code++r.code) (by rw[List.length_append,List.length_append];lia) n (by lia)) trivial))
theorem ce_u (W:Wd w B):CeOK w B 2 nU uC:=λc hc=>CN.of (F_CodeMaker_expression2 W) rfl (fl:=.next) λn hn e L=>way (okX W) (or:=[.call [0,1,2] (.ret (.int c.length)) (cmo (c++uC))]) (aI (c_add3 W c (by lia) "get" (.str "u") (.str "u") rfl n (by lia)) trivial)
end
noncomputable def Sx.code:Nat->Sx->List D
 |_,.set x=>x.code++[ins "set" .none]
 |b,.iff s=>ins "push" (.int 1)::ins "unless" (.int ((b+2+(s.code (b+2)).length:Nat):Int))::s.code (b+2)
 |b,.whl s=>ins "get" (.str "u")::ins "unless" (.int ((b+2+(s.code (b+2)).length+1:Nat):Int))::(s.code (b+2)++[ins "jump" (.int b)])
 |b,.els _ s=>ins "get" (.str "u")::ins "unless" (.int ((b+3:Nat):Int))::ins "jump" (.int ((b+3+(s.code (b+3)).length:Nat):Int))::s.code (b+3)
theorem Sx.code_iff (b:Nat)(s:Sx):(Sx.iff s).code b=ins "push" (.int 1)::ins "unless" (.int ((b+2+(s.code (b+2)).length:Nat):Int))::s.code (b+2):=rfl
theorem Sx.code_whl (b:Nat)(s:Sx):(Sx.whl s).code b=ins "get" (.str "u")::ins "unless" (.int ((b+2+(s.code (b+2)).length+1:Nat):Int))::(s.code (b+2)++[ins "jump" (.int b)]):=rfl
theorem Sx.code_els (b:Nat)(m:Bool)(s:Sx):(Sx.els m s).code b=ins "get" (.str "u")::ins "unless" (.int ((b+3:Nat):Int))::ins "jump" (.int ((b+3+(s.code (b+3)).length:Nat):Int))::s.code (b+3):=rfl
noncomputable def Sx.clen:Sx->Nat
 | .set x=>x.code.length+1
 | .iff s=>s.clen+2
 | .whl s=>s.clen+3
 | .els _ s=>s.clen+3
theorem Sx.code_len:∀ (s:Sx) (b:Nat),(s.code b).length=s.clen
 | .set x,b=>by unfold code clen;simp
 | .iff s,b=>by unfold code clen;simp[Sx.code_len s]
 | .whl s,b=>by unfold code clen;simp[Sx.code_len s]
 | .els _ s,b=>by unfold code clen;simp[Sx.code_len s]
section
variable {w:World}{B:Heap}
abbrev CsOK (w:World)(B:Heap)(k:Nat)(s:Sx):Prop:=∀c:List D,c.length+s.clen<80000->CN w B k 662 [.ref 0,.dat (.tup s.nodeL)] (cmo c) (.ret .none) (cmo (c++s.code c.length))
noncomputable abbrev csX (w:World)(B:Heap)(e:En)(L n:Nat):Cx:=cxt w B "CodeMaker.statements" (dm 60 8) 676 (.ref 675) e L n
noncomputable abbrev csF:Stmt:=stm (dm 60 8).body 0
noncomputable abbrev csL (l:List D):Loc:=[lv "self" (.ref 0),lv "nodes" (.dat (.lst l))]
theorem csL_closed (l:List D)(c:List D):∀p∈csL l,closedV (cmo c).length p.2=true:=by intro p hp;simp at hp;rcases hp with rfl|rfl<;>rfl
theorem cs_nil (W:Wd w B)(c:List D):CN w B 1 676 [.ref 0,.dat (.lst [])] (cmo c) (.ret .none) (cmo c):=
 CN.of (F_CodeMaker_statements2 W) rfl (fl:=.next) λn hn e L=>by
  have hX:Ok (csX w B e L n):=okX W
  have hi:ItOK (csX w B e L n) (forI csF) ⟨csL [],cmo c⟩ [] ⟨csL [],cmo c⟩:=it_list (l:=[]) (xpr hX (or:=[]) trivial)
  have hF:=tf_forS (s:=csF) (by kernel_rfl) hi (tfo_nil rfl (csL_closed [] c) (cm_closed c)) (λv=>by kernel_rfl)
  exact way hX (or:=[.suite .next ⟨csL [],cmo c⟩]) (aI hF trivial)
theorem cs_one (W:Wd w B){k:Nat}{s:Sx}(h:CsOK w B k s)(c:List D)(hc:c.length+s.clen<80000):CN w B (k+1) 676 [.ref 0,.dat (.lst [.tup s.nodeL])] (cmo c) (.ret .none) (cmo (c++s.code c.length)):=
 CN.of (F_CodeMaker_statements2 W) rfl (fl:=.next) λn hn e L=>by
  have hX:Ok (csX w B e L n):=okX W
  have hi:ItOK (csX w B e L n) (forI csF) ⟨csL [.tup s.nodeL],cmo c⟩ [.dat (.tup s.nodeL)] ⟨csL [.tup s.nodeL],cmo c⟩:=it_list (l:=[.tup s.nodeL]) (xpr hX (or:=[]) trivial)
  have hF:=tf_forS (s:=csF) (by kernel_rfl) hi (tfo_cons (c₁:=⟨csL [.tup s.nodeL]++[lv "node" (.dat (.tup s.nodeL))],cmo (c++s.code c.length)⟩) rfl (by kernel_rfl) rfl rfl
   (λo=>stp hX (or:=[.call [0,1,2] (.ret .none) (cmo (c++s.code c.length))]) (aI (h c hc n hn) trivial))
   (TFo.forget rfl Less.app (tfo_nil rfl (csL_closed _ _) (cm_closed _)))) (λv=>by kernel_rfl)
  exact way hX (or:=[.suite .next ⟨csL [.tup s.nodeL],cmo (c++s.code c.length)⟩]) (aI hF trivial)
theorem app_two (c:List D)(a b:D):c++[a]++[b]=c++[a,b]:=by simp
theorem len1 (c:List D)(a:D):(c++[a]).length=c.length+1:=by simp
theorem st_set (W:Wd w B)(x:Xt):CsOK w B (x.hgt+4) (.set x):=λc hc=>by
 have hc:c.length+(x.code.length+1)<80000:=hc
 show CN w B _ _ _ _ _ (cmo (c++(x.code++[ins "set" .none])))
 rw[<-List.append_assoc]
 exact CN.of (F_CodeMaker_statement2 W) rfl (k:=x.hgt+3) (fl:=.next) λn hn e L=>way (okX W) (or:=[.call [0,1,2] (.ret .none) (cmo (c++x.code)),.call [0,1,2] (.ret (.int (c++x.code).length)) (cmo (c++x.code++[ins "set" .none]))])
  (aI (ce_all W x c (by lia) n hn) (aI (c_add2 W (c++x.code) (by rw[List.length_append];lia) "set" n (by lia)) trivial))
theorem st_iff (W:Wd w B){s:Sx}{k:Nat}(h:CsOK w B k s)(hk:3<=k):CsOK w B (k+3) (.iff s):=λc hc=>by
 have hc:c.length+(s.clen+2)<80000:=hc
 have hl:=s.code_len (c.length+2)
 have h1:=ce_all W (.num 1) c (by show c.length+1<_;lia)
 have h2:=c_add2 W (c++[ins "push" (.int 1)]) (by rw[len1];lia) "unless"
 have h3:=cs_one W h (c++[ins "push" (.int 1),ins "unless" .none]) (by simp;lia)
 have e3:(c++[ins "push" (.int 1),ins "unless" .none]).length=c.length+2:=by simp
 rw[e3]at h3
 have h4:=c_aim W (c++[ins "push" (.int 1)]) (s.code (c.length+2)) (by simp;lia) "unless" .none
 have e4:(c++[ins "push" (.int 1)]++ins "unless" .none::s.code (c.length+2)).length=c.length+2+(s.code (c.length+2)).length:=by simp;lia
 rw[e4]at h4
 have e5:c++[ins "push" (.int 1),ins "unless" .none]++s.code (c.length+2)=c++[ins "push" (.int 1)]++ins "unless" .none::s.code (c.length+2):=by simp
 rw[e5]at h3
 rw[app_two]at h2
 have e6:c++(Sx.iff s).code c.length=c++[ins "push" (.int 1)]++ins "unless" (.int ((c.length+2+(s.code (c.length+2)).length:Nat):Int))::s.code (c.length+2):=by rw[Sx.code_iff];simp
 rw[e6]
 have hch:CN w B (k+2) 669 [.ref 0,.dat (.tup (Sx.iff s).nodeL)] (cmo c) (.ret .none) (cmo (c++[ins "push" (.int 1)]++ins "unless" (.int ((c.length+2+(s.code (c.length+2)).length:Nat):Int))::s.code (c.length+2))):=
  CN.of (F_CodeMaker_choice2 W) rfl (k:=k+1) (fl:=.ret .none) λn hn e L=>way (okX W) (or:=[.call [0,1,2] (.ret .none) (cmo (c++[ins "push" (.int 1)])),.call [0,1,2] (.ret (.int (c++[ins "push" (.int 1)]).length)) (cmo (c++[ins "push" (.int 1),ins "unless" .none])),
    .call [0,1,2] (.ret .none) (cmo (c++[ins "push" (.int 1)]++ins "unless" .none::s.code (c.length+2))),.fz,.call [0,1,2] (.ret .none) (cmo (c++[ins "push" (.int 1)]++ins "unless" (.int ((c.length+2+(s.code (c.length+2)).length:Nat):Int))::s.code (c.length+2)))])
   (aI (h1 n (show 3<=n by lia)) (aI (h2 n (by lia)) (aI (h3 n hn) (aI (h4 n (by lia)) trivial))))
 exact CN.of (F_CodeMaker_statement2 W) rfl (k:=k+2) (fl:=.next) λn hn e L=>way (okX W) (or:=[.call [0,1,2] (.ret .none) (cmo (c++[ins "push" (.int 1)]++ins "unless" (.int ((c.length+2+(s.code (c.length+2)).length:Nat):Int))::s.code (c.length+2)))])
  (aI (hch n hn) trivial)
theorem st_whl (W:Wd w B){s:Sx}{k:Nat}(h:CsOK w B k s)(hk:3<=k):CsOK w B (k+3) (.whl s):=λc hc=>by
 have hc:c.length+(s.clen+3)<80000:=hc
 have hl:=s.code_len (c.length+2)
 have h1:=ce_u W c (by show c.length+1<_;lia)
 have h2:=c_add2 W (c++uC) (by rw[len1];lia) "unless"
 have h3:=cs_one W h (c++[ins "get" (.str "u"),ins "unless" .none]) (by simp;lia)
 have e3:(c++[ins "get" (.str "u"),ins "unless" .none]).length=c.length+2:=by simp
 rw[e3]at h3
 have h5:=c_add3 W (c++[ins "get" (.str "u"),ins "unless" .none]++s.code (c.length+2)) (by simp;lia) "jump" (.int c.length) (.int c.length) rfl
 have h4:=c_aim W (c++uC) (s.code (c.length+2)++[ins "jump" (.int c.length)]) (by simp;lia) "unless" .none
 have e4:(c++uC++ins "unless" .none::(s.code (c.length+2)++[ins "jump" (.int c.length)])).length=c.length+2+(s.code (c.length+2)).length+1:=by simp;lia
 rw[e4]at h4
 have e5:c++[ins "get" (.str "u"),ins "unless" .none]++s.code (c.length+2)++[ins "jump" (.int c.length)]=c++uC++ins "unless" .none::(s.code (c.length+2)++[ins "jump" (.int c.length)]):=by simp
 rw[e5]at h5
 rw[app_two]at h2
 have e6:c++(Sx.whl s).code c.length=c++uC++ins "unless" (.int ((c.length+2+(s.code (c.length+2)).length+1:Nat):Int))::(s.code (c.length+2)++[ins "jump" (.int c.length)]):=by rw[Sx.code_whl];simp
 rw[e6]
 have hz:((((partsOfD c).length:Nat):Int))<2^63:=by rw[len_parts];lia
 have e7:(((partsOfD c).length:Nat):Int)=c.length:=by rw[len_parts]
 rw[<-e7]at h5 h4 ⊢
 exact CN.of (F_CodeMaker_statement2 W) rfl (k:=k+2) (fl:=.next) λn hn e L=>way (okX W) (or:=[.call [0,1,2] (.ret .none) (cmo (c++uC)),.call [0,1,2] (.ret (.int (c++uC).length)) (cmo (c++[ins "get" (.str "u"),ins "unless" .none])),
   .call [0,1,2] (.ret .none) (cmo (c++[ins "get" (.str "u"),ins "unless" .none]++s.code (c.length+2))),.call [0,1,2] (.ret (.int (c++[ins "get" (.str "u"),ins "unless" .none]++s.code (c.length+2)).length)) (cmo (c++uC++ins "unless" .none::(s.code (c.length+2)++[ins "jump" (.int (((partsOfD c).length:Nat):Int))]))),
   .call [0,1,2] (.ret .none) (cmo (c++uC++ins "unless" (.int ((c.length+2+(s.code (c.length+2)).length+1:Nat):Int))::(s.code (c.length+2)++[ins "jump" (.int (((partsOfD c).length:Nat):Int))])))])
  (aI hz (aI (h1 n (by lia)) (aI (h2 n (by lia)) (aI (h3 n (by lia)) (aI (h5 n (by lia)) (aI (h4 n (by lia)) trivial))))))
theorem st_els (W:Wd w B){m:Bool}{s:Sx}{k:Nat}(h:CsOK w B k s)(hk:3<=k):CsOK w B (k+3) (.els m s):=λc hc=>by
 have hc:c.length+(s.clen+3)<80000:=hc
 have hl:=s.code_len (c.length+3)
 have h1:=ce_u W c (by show c.length+1<_;lia)
 have h2:=c_add2 W (c++uC) (by rw[len1];lia) "unless"
 rw[app_two]at h2
 have h2':=cs_nil W (c++[ins "get" (.str "u"),ins "unless" .none])
 have h3:=c_add2 W (c++[ins "get" (.str "u"),ins "unless" .none]) (by simp;lia) "jump"
 have e3:c++[ins "get" (.str "u"),ins "unless" .none]++[ins "jump" .none]=c++uC++ins "unless" .none::[ins "jump" .none]:=by simp
 rw[e3]at h3
 have h4:=c_aim W (c++uC) [ins "jump" .none] (by simp;lia) "unless" .none
 have e4:(c++uC++ins "unless" .none::[ins "jump" .none]).length=c.length+3:=by simp
 rw[e4]at h4
 have h5:=cs_one W h (c++uC++ins "unless" (.int ((c.length+3:Nat):Int))::[ins "jump" .none]) (by simp;lia)
 have e5:(c++uC++ins "unless" (.int ((c.length+3:Nat):Int))::[ins "jump" .none]).length=c.length+3:=by simp
 rw[e5]at h5
 have e6:c++uC++ins "unless" (.int ((c.length+3:Nat):Int))::[ins "jump" .none]++s.code (c.length+3)=(c++[ins "get" (.str "u"),ins "unless" (.int ((c.length+3:Nat):Int))])++ins "jump" .none::s.code (c.length+3):=by simp
 rw[e6]at h5
 have h6:=c_aim W (c++[ins "get" (.str "u"),ins "unless" (.int ((c.length+3:Nat):Int))]) (s.code (c.length+3)) (by simp;lia) "jump" .none
 have e7:((c++[ins "get" (.str "u"),ins "unless" (.int ((c.length+3:Nat):Int))])++ins "jump" .none::s.code (c.length+3)).length=c.length+3+(s.code (c.length+3)).length:=by simp;lia
 rw[e7]at h6
 have e8:(c++[ins "get" (.str "u"),ins "unless" (.int ((c.length+3:Nat):Int))]).length=(c++[ins "get" (.str "u"),ins "unless" .none]).length:=by simp
 rw[e8]at h6
 have e9:c++(Sx.els m s).code c.length=(c++[ins "get" (.str "u"),ins "unless" (.int ((c.length+3:Nat):Int))])++ins "jump" (.int ((c.length+3+(s.code (c.length+3)).length:Nat):Int))::s.code (c.length+3):=by rw[Sx.code_els];simp
 rw[e9]
 have hch:CN w B (k+2) 669 [.ref 0,.dat (.tup (Sx.els m s).nodeL)] (cmo c) (.ret .none) (cmo ((c++[ins "get" (.str "u"),ins "unless" (.int ((c.length+3:Nat):Int))])++ins "jump" (.int ((c.length+3+(s.code (c.length+3)).length:Nat):Int))::s.code (c.length+3))):=
  CN.of (F_CodeMaker_choice2 W) rfl (k:=k+1) (fl:=.next) λn hn e L=>way (okX W) (or:=[.call [0,1,2] (.ret .none) (cmo (c++uC)),.call [0,1,2] (.ret (.int (c++uC).length)) (cmo (c++[ins "get" (.str "u"),ins "unless" .none])),
    .call [0,1,2] (.ret .none) (cmo (c++[ins "get" (.str "u"),ins "unless" .none])),.fz,.call [0,1,2] (.ret (.int (c++[ins "get" (.str "u"),ins "unless" .none]).length)) (cmo (c++uC++ins "unless" .none::[ins "jump" .none])),
    .call [0,1,2] (.ret .none) (cmo (c++uC++ins "unless" (.int ((c.length+3:Nat):Int))::[ins "jump" .none])),
    .call [0,1,2] (.ret .none) (cmo ((c++[ins "get" (.str "u"),ins "unless" (.int ((c.length+3:Nat):Int))])++ins "jump" .none::s.code (c.length+3))),
    .call [0,1,2] (.ret .none) (cmo ((c++[ins "get" (.str "u"),ins "unless" (.int ((c.length+3:Nat):Int))])++ins "jump" (.int ((c.length+3+(s.code (c.length+3)).length:Nat):Int))::s.code (c.length+3)))])
   (aI (h1 n (by lia)) (aI (h2 n (by lia)) (aI (h2' n (by lia)) (aI (h3 n (by lia)) (aI (h4 n (by lia)) (aI (h5 n hn) (aI (h6 n (by lia)) trivial)))))))
 exact CN.of (F_CodeMaker_statement2 W) rfl (k:=k+2) (fl:=.next) λn hn e L=>way (okX W) (or:=[.call [0,1,2] (.ret .none) (cmo ((c++[ins "get" (.str "u"),ins "unless" (.int ((c.length+3:Nat):Int))])++ins "jump" (.int ((c.length+3+(s.code (c.length+3)).length:Nat):Int))::s.code (c.length+3)))])
  (aI (hch n hn) trivial)
noncomputable def Sx.kC:Sx->Nat
 | .set x=>x.hgt+4
 | .iff s=>s.kC+3
 | .whl s=>s.kC+3
 | .els _ s=>s.kC+3
theorem Sx.kC3:∀s:Sx,3<=s.kC
 | .set x=>by unfold kC;lia
 | .iff s=>by have:=s.kC3;unfold kC;lia
 | .whl s=>by have:=s.kC3;unfold kC;lia
 | .els _ s=>by have:=s.kC3;unfold kC;lia
theorem cs_all (W:Wd w B):∀s:Sx,CsOK w B s.kC s
 | .set x=>st_set W x
 | .iff s=>st_iff W (cs_all W s) s.kC3
 | .whl s=>st_whl W (cs_all W s) s.kC3
 | .els m s=>st_els W (cs_all W s) s.kC3
theorem c_maker (W:Wd w B):CN w B 3 679 [] [] (.ret (.ref 1)) [.ns ["code"] [.ref 2],.inst 679 0,.dlist []]:=λn hn=>by
 obtain⟨m,rfl⟩:∃m,n=m+2:=⟨n-2,by lia⟩
 have h:=make_ok (obj:=[]) (obj':=[.ns ["code"] [.ref 2],.inst 679 0,.list []]) (C:=679) (args:=[]) W.know.k (by kernel_rfl) (fI:=619) (by kernel_rfl) (by kernel_rfl)
  ((CN.of (F_CodeMaker_init1 W) rfl (k:=0) (fl:=.next) λn hn e L=>way (okX W) (or:=[]) trivial) m (by lia))
 exact CallOK.dl (i:=2) h rfl rfl
theorem c_compile (W:Wd w B)(s:Sx)(hs:s.clen<70000):CN w B (s.kC+2) 691 [.dat (.lst [.tup s.nodeL])] [] (.ret (.dat (.lst (s.code 0)))) []:=by
 have hk:=s.kC3
 suffices h:CN w B (s.kC+2) 691 [.dat (.lst [.tup s.nodeL])] [] (.ret (.ref 2)) [.ns ["code"] [.ref 2],.inst 679 0,.dlist (s.code 0)] by
  intro n hn
  have h2:=CallOK.frz (i:=2) (d:=.lst (s.code 0)) (h n hn) rfl
  exact CallOK.trim (obj':=[]) (extra:=frzObj [.ns ["code"] [.ref 2],.inst 679 0,.dlist (s.code 0)] 2 (.lst (s.code 0))) h2 rfl rfl rfl
 have h1:=cs_one W (cs_all W s) [] (by simp;lia)
 exact CN.of (F_compile_action1 W) rfl (k:=s.kC+1) (fl:=.ret _) λn hn e L=>way (okX W) (or:=[.call [] (.ret (.ref 1)) [.ns ["code"] [.ref 2],.inst 679 0,.dlist []],.call [1,0,2] (.ret .none) (cmo (s.code 0))])
  (aI (c_maker W n (by lia)) (aI (h1 n hn) trivial))
end
noncomputable def lstD:D->Option (List D)
 | .lst l=>some l
 |_=>none
theorem lstD_at {d:D}{l:List D}(h:lstD d=some l):d=.lst l:=by cases d<;>first|exact congrArg _ (Option.some.inj h)|cases h
noncomputable def dlA:AO->Option (List D)
 | .dlist l=>some l
 |_=>none
theorem dlA_at {ao:AO}{l:List D}(h:dlA ao=some l):ao=.dlist l:=by cases ao<;>first|exact congrArg _ (Option.some.inj h)|cases h
noncomputable def dlistAt (c:St):AV->Option (List D)
 | .dat d=>lstD d
 | .ref i=>c.obj[i]?.bind dlA
 |_=>none
theorem dlist_at {B:Heap}{f:Fm}{e:En}{c:St}{ρ:List Addr}{G:Gh}{s:Shared}{a:AV}{l:List D}{v:Value}(h:dlistAt c a=some l)(i:In B f e c ρ G s)(r:RepV ρ G a v):∃t vs,v=.ref t/\s.heap.IsList t vs.toArray/\RepDs G vs l:=by
 cases a with
 |dat d=>
  rw[lstD_at h]at r
  obtain⟨_,_,_,rfl,e,rs⟩:=RepD.inv r
  exact⟨_,_,rfl,⟨_,i.h.frz _ _ e,rfl,_,rfl⟩,rs⟩
 |ref j=>
  obtain⟨ao,q,h1⟩:=Option.bind_eq_some_iff.mp h
  rw[dlA_at h1]at q
  obtain⟨t,ht,e⟩:=r
  obtain⟨t',o,h1,h2,⟨vs,n,h4,h3⟩,_⟩:=i.h.live j _ q nofun
  exact⟨t,vs,e,⟨_,Option.some.inj (h1.symm.trans ht)▸h4▸h2,rfl,_,rfl⟩,h3⟩
 |_=>cases h
theorem RepDs.drop {G:Gh}:∀ {vs:List Value} {l:List D} (n:Nat),RepDs G vs l->RepDs G (vs.drop n) (l.drop n)
 |_,_,0,h=>h
 |_,_,_+1,.nil=>.nil
 |_,_,n+1,.cons _ rs=>RepDs.drop n rs
theorem RepDs.take {G:Gh}:∀ {vs:List Value} {l:List D} (n:Nat),RepDs G vs l->RepDs G (vs.take n) (l.take n)
 |_,_,0,h=>.nil
 |_,_,_+1,.nil=>.nil
 |_,_,n+1,.cons r rs=>.cons r (RepDs.take n rs)
theorem pick_to (vs:List Value)(n:Nat):slicePick vs.toArray none (some (n:Int)) none=(vs.take n).toArray:=by
 by_cases h:n<=vs.length
 ·rw[slicePick_upto vs.toArray n (by simpa using h)]
 ·have e:sliceBounds none (some (n:Int)) none vs.toArray.size=sliceBounds none none none vs.toArray.size:=by
   simp only[sliceBounds,Option.getD_none]
   have h2:¬ ((n:Int)<0):=by lia
   simp only[h2,if_false,show(1:Int)>0 by decide,if_true]
   congr 1
   congr 1
   have:vs.toArray.size=vs.length:=by simp
   lia
  have:=slicePick_all vs.toArray
  unfold slicePick at this ⊢
  rw[e,this,List.take_of_length_le (by lia)]
section
variable {X:Cx}{c c₁ c₂:St}
theorem In.slice {B:Heap}{f:Fm}{e:En}{ρ:List Addr}{G:Gh}{s:Shared}{vl vu:Value}{ws:List Value}{l:List D}(i:In B f e c ρ G s)(r:RepDs G ws l):
  ∃a,In B f e ⟨c.loc,c.obj++[.dlist l]⟩ (ρ++[a]) G {s with heap:=(s.heap.push {cls:=.type "slice",data:=.fields #[vl,vu,.none]}).push {cls:=.type "list",data:=.seq ws.toArray}}/\a=s.heap.objs.size+1:=by
 have k1:∀b o,s.heap.get? b=some o->(s.heap.push {cls:=.type "slice",data:=.fields #[vl,vu,.none]}).get? b=some o:=λb o q=>Heap.get?_push_of_some _ q
 have i1:=i.ext (s':= {s with heap:=s.heap.push {cls:=.type "slice",data:=.fields #[vl,vu,.none]}}) k1 rfl rfl
 have hn:(s.heap.push {cls:=.type "slice",data:=.fields #[vl,vu,.none]}).get? (s.heap.push {cls:=.type "slice",data:=.fields #[vl,vu,.none]}).objs.size=none:=Heap.get?_none_of_le (Nat.le_refl _)
 refine⟨s.heap.objs.size+1,?_,rfl⟩
 have:=i1.alloc (ao:=.dlist l) (a:=(s.heap.push {cls:=.type "slice",data:=.fields #[vl,vu,.none]}).objs.size) (s':= {s with heap:=(s.heap.push {cls:=.type "slice",data:=.fields #[vl,vu,.none]}).push {cls:=.type "list",data:=.seq ws.toArray}}) (λb o q=>Heap.get?_push_of_some _ q) hn (Heap.get?_push_size _ rfl) ⟨ws,0,rfl,r⟩ rfl rfl
 rw[Heap.size_push]at this
 exact this
theorem sub_slice {M:Program}{w:World}{A:Around}{E:Value->Shared->Prop}{s:Shared}{env:Env}{value:Expr}{lower upper:Option Expr}{p pos:Pos}{Q:Value->Shared->Prop}
  (h:wpAny (model M w) A (eval value env) (λo s₁=>wpAny (model M w) A (eval (.Slice lower upper none p) env) (λi s₂=>s₂.TypeIs o "list" /\wpAny (model M w) A (getItem o i) Q E s₂) E s₁) E s):
  wpAny (model M w) A (eval (.Subscript value (.Slice lower upper none p) pos) env) Q E s:=by
 rw[eval_Subscript]
 refine wpAny_bind (wpAny_mono h (λo s₁ h₁=>wpAny_bind (wpAny_holding (wpAny_mono h₁ (λi s₂ h₂=>wpAny_bind (wpAny_standAt ?_)) λ_ _ x=>x)))
  λ_ _ x=>x)
 have fin:wpAny (model M w) A (operate [i,o] (getItem o i)) (λr s₃=>wpAny (model M w) A (letTemporaryGo value o r>>=λ_=>pure r) Q E s₃) E s₂:=
  wpAny_operating (wpAny_mono h₂.2 (λr s₃ h₃=>wpAny_bind (wpAny_letTemporaryGo (wpAny_pure h₃))) λ_ _ x=>x)
 first
  |
   refine wpAny_bind ?_
   rw[getitemInPython_of_ne h₂.1.not_modules]
   refine wpAny_bind (wpAny_specialOf h₂.1 list_getitem_lookup ?_)
   first
    |exact wpAny_pure (wpAny_bind fin)
    |exact wpAny_bind (wpAny_pure (wpAny_bind fin))
    |exact wpAny_bind fin
  |
   refine wpAny_bind (wpAny_specialOf h₂.1 list_getitem_lookup ?_)
   first
    |exact wpAny_bind (wpAny_pure (wpAny_bind fin))
    |exact wpAny_bind fin
theorem sub_list_slice {prog:Program}{w:World}{A:Around}{E:Value->Shared->Prop}{s:Shared}{env:Env}{value:Expr}{lower upper:Option Expr}{p pos:Pos}{Q:Value->Shared->Prop}
  (h:wpAny (model prog w) A (eval value env) (λo s₁=>wpAny (model prog w) A (evalPart lower env) (λvl s₂=>wpAny (model prog w) A (evalPart upper env) (λvu s₃=>
   ∃l items lo hi,o=.ref l/\s₃.heap.IsList l items/\items.size<=sizeLine/\IsPart vl lo/\IsPart vu hi/\
    Q (.ref (s₃.heap.objs.size+1)) {s₃ with heap:=(s₃.heap.push {cls:=.type "slice",data:=.fields #[vl,vu,.none]}).push {cls:=.type "list",data:=.seq (slicePick items lo hi none)}}) E s₂) E s₁) E s):
  wpAny (model prog w) A (eval (.Subscript value (.Slice lower upper none p) pos) env) Q E s:=by
 refine sub_slice (wpAny_mono h (λo s₁ h₁=>wpAny_Slice (wpAny_mono h₁ (λvl s₂ h₂=>wpAny_mono h₂ (λvu s₃ h₃=>?_) λ_ _ e=>e) λ_ _ e=>e)) λ_ _ e=>e)
 obtain⟨l,items,lo,hi,rfl,hl,hsz,pl,pu,hQ⟩:=h₃
 rw[evalPart_none]
 refine wpAny_pure ⟨(hl.push _).typeIs,wpAny_getItem_list_slice (hl.push _) (Heap.IsSliceOf.new ..) pl pu .none (by simp) ?_ hsz⟩
 rw[Heap.size_push]
 exact hQ
theorem tv_slice_from {env:Env}{value lo:Expr}{p pos:Pos}{a:AV}{i:Int}{l:List D}(hv:TV X (eval value env) c (.ok a) c₁)(hlo:TV X (eval lo env) c₁ (.ok (.int i)) c₂)(hl:dlistAt c₂ a=some l)(h0:0<=i)(h1:i<=l.length)(hz:l.length<=sizeLine):TV X (eval (.Subscript value (.Slice (some lo) none none p) pos) env) c (.ok (.ref c₂.obj.length)) ⟨c₂.loc,c₂.obj++[.dlist (l.drop i.toNat)]⟩:=λA ρ G s rm fo I=>by
 refine sub_list_slice (wp_then hv rm fo I λv s₁ ρ₁ G₁ p₁ q₁ i₁ r₁=>evalPart_some_step (wp_then hlo rm fo i₁ λu s₂ ρ₂ G₂ p₂ q₂ i₂ r₂=>evalPart_none_step ?_))
 obtain⟨t,vs,rfl,hL,rs⟩:=dlist_at hl i₂ (r₁.mono p₂ q₂)
 obtain⟨tk,rfl⟩:=r₂
 have hlen:=rs.len
 obtain⟨b,i₃,eb⟩:=i₂.slice (vl:=.int i tk) (vu:=.none) (rs.drop i.toNat)
 refine⟨t,vs.toArray,some i,none,rfl,hL,by rw[List.size_toArray,hlen];exact hz,.int _ _,.none,?_⟩
 have e:slicePick vs.toArray (some i) none none=(vs.drop i.toNat).toArray:=by
  have:i=(i.toNat:Int):=by lia
  rw[this,slicePick_from vs.toArray i.toNat (by rw[List.size_toArray];lia),<-this]
 rw[e]
 subst eb
 exact⟨_,G₂,(p₁.trans p₂).trans (PreA.app _ _),q₁.trans q₂,i₃,⟨_,by rw[<-i₂.h.len,List.getElem?_append_right (Nat.le_refl _),Nat.sub_self];rfl,rfl⟩⟩
theorem tv_slice_to {env:Env}{value hi:Expr}{p pos:Pos}{a:AV}{i:Int}{l:List D}(hv:TV X (eval value env) c (.ok a) c₁)(hhi:TV X (eval hi env) c₁ (.ok (.int i)) c₂)(hl:dlistAt c₂ a=some l)(h0:0<=i)(hz:l.length<=sizeLine):TV X (eval (.Subscript value (.Slice none (some hi) none p) pos) env) c (.ok (.ref c₂.obj.length)) ⟨c₂.loc,c₂.obj++[.dlist (l.take i.toNat)]⟩:=λA ρ G s rm fo I=>by
 refine sub_list_slice (wp_then hv rm fo I λv s₁ ρ₁ G₁ p₁ q₁ i₁ r₁=>evalPart_none_step (evalPart_some_step (wp_then hhi rm fo i₁ λu s₂ ρ₂ G₂ p₂ q₂ i₂ r₂=>?_)))
 obtain⟨t,vs,rfl,hL,rs⟩:=dlist_at hl i₂ (r₁.mono p₂ q₂)
 obtain⟨tk,rfl⟩:=r₂
 have hlen:=rs.len
 obtain⟨b,i₃,eb⟩:=i₂.slice (vl:=.none) (vu:=.int i tk) (rs.take i.toNat)
 refine⟨t,vs.toArray,none,some i,rfl,hL,by rw[List.size_toArray,hlen];exact hz,.none,.int _ _,?_⟩
 have e:slicePick vs.toArray none (some i) none=(vs.take i.toNat).toArray:=by
  have:i=(i.toNat:Int):=by lia
  rw[this,pick_to vs i.toNat,<-this]
 rw[e]
 subst eb
 exact⟨_,G₂,(p₁.trans p₂).trans (PreA.app _ _),q₁.trans q₂,i₃,⟨_,by rw[<-i₂.h.len,List.getElem?_append_right (Nat.le_refl _),Nat.sub_self];rfl,rfl⟩⟩
end
end Mine
namespace Mine
open PySem PySem.W PyProof.Rows PySem.Calls
section
variable {X:Cx}{c c₁ c₂ c₃:St}
def QW' (X:Cx)(A:Around)(G:Gh)(fl:Fl)(c':St)(r:Result)(s':Shared):Prop:=match r with
 | .ok f=>QF' X.B X.f X.e G fl c' f s'
 | .error e=>cameBackBy (model X.prog X.w) A X.f.env (QXf X.B X.f X.e G fl) e s'
theorem QF'.up {B:Heap}{f:Fm}{e:En}{G G₁:Gh}{r:Fl}{c:St}{v:Flow}{s:Shared}(q:Sub G G₁)(h:QF' B f e G₁ r c v s):QF' B f e G r c v s:=by
 cases r<;>cases v<;>first|exact h.elim|skip
 ·obtain⟨ρ',G',q',i'⟩:=h;exact⟨ρ',G',q.trans q',i'⟩
 ·obtain⟨ρ',G',q',i',r'⟩:=h;exact⟨ρ',G',q.trans q',i',r'⟩
theorem QW'.up {A:Around}{G G₁:Gh}{fl:Fl}{c:St}{r:Result}{s:Shared}(q:Sub G G₁)(h:QW' X A G₁ fl c r s):QW' X A G fl c r s:=by
 cases r with
 |ok f=>exact QF'.up q h
 |error e=>exact wpAny_mono (M:=model X.prog X.w) (Q':=λ_ s''=>QXf X.B X.f X.e G fl e s'') h (λ_ s' z=>QXf.up q z) λ_ s' z=>QXf.up q z
def TW' (X:Cx)(test:Expr)(body:List Stmt)(c:St)(fl:Fl)(c':St):Prop:=
 ∀ (A:Around) (ρ:List Addr) (G:Gh) (s:Shared),Rm A X.n (X.f.env::X.e.outer)->FrOK X.e.H X.e.ρ X.e.G X.e.outer->In X.B X.f X.e c ρ G s->
  codeAny (model X.prog X.w) A (.whileLoop test body [] X.f.env) (QW' X A G fl c') s
theorem twp_false {test body}(ht:TB X (isTrue test X.f.env (eval test X.f.env)) c (.ok false) c₁):TW' X test body c .next c₁:=λA ρ G s rm fo i=>by
 refine while_step (wpb_then ht rm fo i λs₁ ρ₁ G₁ p₁ q₁ i₁=>?_)
 rw[if_neg (by decide)]
 exact wpAny_execs_nil ⟨ρ₁,G₁,q₁,i₁⟩
theorem twp_true {test body}{fl:Fl}(ht:TB X (isTrue test X.f.env (eval test X.f.env)) c (.ok true) c₁)(hb:TF X (execs body X.f.env) c₁ .next c₂)(h:TW' X test body c₂ fl c₃):TW' X test body c fl c₃:=λA ρ G s rm fo i=>by
 refine while_step (wpb_then ht rm fo i λs₁ ρ₁ G₁ p₁ q₁ i₁=>?_)
 rw[if_pos rfl]
 refine wpAny_mono (hb A ρ₁ G₁ s₁ rm fo i₁) (λf s' z=>?_) λ_ _ z=>z.elim
 cases f<;>first|exact z.elim|skip
 obtain⟨ρ₂,G₂,p₂,q₂,i₂⟩:=z
 exact codeAny_mono (h A ρ₂ G₂ s' rm fo i₂) λr s'' z=>QW'.up (q₁.trans q₂) z
theorem twp_x (hk:isFun X.f=true){test body}{C ks l}(ht:TB X (isTrue test X.f.env (eval test X.f.env)) c (.ok true) c₁)(hb:TF X (execs body X.f.env) c₁ (.ex C ks l) c₂):TW' X test body c (.ex C ks l) c₃:=λA ρ G s rm fo i=>by
 refine while_step (wpb_then ht rm fo i λs₁ ρ₁ G₁ p₁ q₁ i₁=>?_)
 rw[if_pos rfl]
 exact wpAny_mono (hb A ρ₁ G₁ s₁ rm fo i₁) (λf s' z=>by cases f<;>exact z.elim) λx s' z=>fly_back (M:=model X.prog X.w) (e:=X.e) rfl (fun_kind hk) rm.frames fo z λs' z=>Fly.sub q₁ z
theorem tfp_while {test body pos}{fl:Fl}(h:TW' X test body c fl c₁):TF' X (exec (.While test body [] pos) X.f.env) c fl c₁:=λA ρ G s rm fo i=>by
 rw[exec_While]
 refine wpAny_bind (wpAny_standAt (wpAny_runOwn ?_))
 exact codeAny_mono (h A ρ G s rm fo i) λr s' z=>by cases r<;>exact z
noncomputable def reloc (sel:List Nat):List (Str×AV)->Option (List (Str×AV))
 | []=>some []
 | (x,a)::r=>match toV sel a,reloc sel r with
  |some b,some l=>some ((x,b)::l)
  |_,_=>none
theorem reloc_lk {sel:List Nat}:∀ {loc loc':List (Str×AV)} {x:Str} {b:AV},reloc sel loc=some loc'->lk loc' x=some b->∃a,lk loc x=some a/\toV sel a=some b
 | [],_,x,b,h,q=>by cases h;cases q
 | (y,a)::r,loc',x,b,h,q=>by
  unfold reloc at h
  split at h
  ·rename_i b' l h1 h2
   cases h
   unfold lk at q ⊢
   cases e:decide (y=x)with
   |true=>rw[e]at q;cases q;exact⟨a,rfl,h1⟩
   |false=>rw[e]at q;exact reloc_lk h2 q
  ·cases h
theorem In.re {B:Heap}{f:Fm}{e:En}{loc loc':List (Str×AV)}{obj view:List AO}{ρ:List Addr}{G:Gh}{s:Shared}{sel:List Nat}(hcl:f.cl=[])(x:In B f e ⟨loc,obj⟩ ρ G s)(hsel:selOK ⟨loc,obj⟩ sel=true)(hv:viewO sel obj sel=some view)(hl:reloc sel loc=some loc')
  (hp:∀i<e.ρ.length,sel[i]? =some i):In B f e ⟨loc',view⟩ (selA ρ sel) G s:=by
 have hsel':=hsel
 unfold selOK at hsel'
 rw[Bool.and_eq_true,List.all_eq_true]at hsel'
 have hs:∀i∈sel,i<ρ.length:=λj hj=>by rw[x.h.len];exact of_decide_eq_true (hsel'.2 j hj)
 refine⟨x.view hsel hv,⟨x.r.keep,λi a q=>?_,λa ha=>x.r.newA a (selA_mem hs ha),x.r.newG,x.r.os,x.r.gsub⟩,⟨?_,λz=>x.f.own (selA_mem hs z),x.f.gown,x.f.fresh,λy cc q=>let⟨o,u,i⟩:=x.f.cells y cc q;⟨o,u,i.kd,λz=>i.nρ (selA_mem hs z),i.nG,i.nH,i.nL,i.here,i.dat,λb w=>let⟨a,h1,h2⟩:=reloc_lk hl w;let⟨v,v1,v2⟩:=i.val a h1;⟨v,v1,toV_rep hs h2 v2⟩,i.apart⟩⟩⟩
 ·rw[selA_get hs (hp i (List.getElem?_eq_some_iff.mp q).1)]
  exact x.r.pre i a q
 ·obtain⟨m,n1,n2⟩:=x.f.ns
  refine⟨m,n1,λy b q hc=>?_⟩
  obtain⟨a,h1,h2⟩:=reloc_lk hl q
  obtain⟨v,v1,v2⟩:=n2 y a h1 hc
  exact⟨v,v1,toV_rep hs h2 v2⟩
theorem TW'.re {test body}{fl:Fl}{loc loc':List (Str×AV)}{obj view:List AO}{c':St}(sel:List Nat)(hcl:X.f.cl=[])(hsel:selOK ⟨loc,obj⟩ sel=true)(hv:viewO sel obj sel=some view)(hl:reloc sel loc=some loc')(hp:∀i<X.e.ρ.length,sel[i]? =some i)
  (t:TW' X test body ⟨loc',view⟩ fl c'):TW' X test body ⟨loc,obj⟩ fl c':=λA ρ G s rm fo i=>t A _ G s rm fo (i.re hcl hsel hv hl hp)
theorem tfp_cons {st:Stmt}{rest:List Stmt}{fl:Fl}(h1:TF' X (exec st X.f.env) c .next c₁)(h2:TF' X (execs rest X.f.env) c₁ fl c₂):TF' X (execs (st::rest) X.f.env) c fl c₂:=λA ρ G s rm fo i=>by
 refine wpAny_execs_cons (wpAny_mono (h1 A ρ G s rm fo i) (λf s' z=>?_) λ_ _ z=>z.elim)
 cases f<;>first|exact z.elim|skip
 obtain⟨ρ₁,G₁,q₁,i₁⟩:=z
 exact wpAny_mono (h2 A ρ₁ G₁ s' rm fo i₁) (λf s'' z=>QF'.up q₁ z) λx s'' z=>QXf.up q₁ z
theorem tfp_cons_x {st:Stmt}{rest:List Stmt}{C ks l}(h1:TF' X (exec st X.f.env) c (.ex C ks l) c₁):TF' X (execs (st::rest) X.f.env) c (.ex C ks l) c₂:=λA ρ G s rm fo i=>by
 refine wpAny_execs_cons (wpAny_mono (h1 A ρ G s rm fo i) (λf s' z=>by cases f<;>exact z.elim) λ_ _ z=>z)
end
end Mine
namespace Mine
open PySem PySem.W PyProof PyProof.Rows PySem.Calls PySem.SeqAt
inductive Vx where
 |num (i:Int)
 |tup (v:Vx)
noncomputable abbrev Vx.ctorIdx (x:Vx):Nat:= @Vx.casesOn (λ_=>Nat) x (λ_=>0) (λ_=>1)
noncomputable def Vx.D:Vx->D
 | .num i=>.int i
 | .tup v=>.tup [v.D]
noncomputable abbrev Vx.A (v:Vx):AV:=avD v.D
theorem Vx.dof:∀v:Vx,dOf v.A=some v.D
 | .num _=>rfl
 | .tup _=>rfl
noncomputable abbrev merr (m:Str):Out:=.ex 107 ["what","at"] [.str m,.none]
noncomputable abbrev merF (m:Str):Fl:=.ex 107 ["what","at"] [.str m,.none]
noncomputable abbrev fks:List Str:=["values","names","control","own","stack","steps","most","is_left"]
noncomputable abbrev fro (own:D)(st:List D)(k:Int):List AO:=[.inst 848 1,.ns fks [.ref 2,.ref 3,.none,.dat own,.ref 4,.int k,.int 2000,.bool false],.list [],.ns [] [],.dlist st]
section
variable {w:World}{B:Heap}
theorem c_need_ok (W:Wd w B)(b:Bool)(m:Str)(h:b=true):CN w B 1 698 [.bool b,.str m] [] (.ret .none) []:=
 CN.of (F_need2 W) rfl (fl:=.next) λn hn e L=>way (okX W) (or:=[.br true]) (aI h trivial)
theorem c_need_x (W:Wd w B)(b:Bool)(m:Str)(h:b=false):CN w B 4 698 [.bool b,.str m] [] (merr m) []:=
 CN.of (F_need2 W) rfl (fl:=merF m) λn hn e L=>wayX (okX W) (or:=[.br false,.call [] (.ret (.ref 0)) [.exc 107 ["what","at"] [.str m,.none]]]) (aI h (aI (c_ME W m n (by lia)) trivial))
variable (own:D)(st:List D)(k:Int)
theorem c_fcount (W:Wd w B)(hk:k+1<=2000):CN w B 2 817 [.ref 0] (fro own st k) (.ret .none) (fro own st (k+1)):=
 CN.of (F_Frame_count1 W) rfl (fl:=.next) λn hn e L=>way (okX W) (or:=[.call [] (.ret .none) []]) (aI (c_need_ok W (decide (k+1<=2000)) "too many steps" (decide_eq_true hk) n hn) trivial)
theorem c_fpush (W:Wd w B)(v:AV)(d:D)(hv:dOf v=some d)(hz:st.length<100000):CN w B 1 824 [.ref 0,v] (fro own st k) (.ret .none) (fro own (st++[d]) k):=
 CN.arg (args':=[.ref 0,.dat d]) (CN.of (F_Frame_push2 W) rfl (fl:=.next) λn hn e L=>way (okX W) (or:=[]) (aI (show st.length<=sizeLine by rw[sizeLine_eq];lia) trivial)) λρ G vs r=>by
  obtain⟨v1,_,rfl,r1,r2⟩:=r.inv'
  obtain⟨v2,_,rfl,r3,r4⟩:=r2.inv'
  exact⟨r1,dOf_rep hv r3,r4⟩
theorem isNil_app (ys:List D)(y:D):isNil (partsOfD (ys++[y]))=false:=by
 cases ys<;>rfl
theorem c_fpop (W:Wd w B)(ys:List D)(y:D)(hz:ys.length<100000):CN w B 2 831 [.ref 0] (fro own (ys++[y]) k) (.ret (avD y)) (fro own ys k):=
 CN.of (F_Frame_pop1 W) rfl (fl:=.ret _) λn hn e L=>way (okX W) (or:=[.fz,.call [] (.ret .none) [],.popD ys y]) (aI (c_need_ok W (!isNil (partsOfD (ys++[y]))) "the stack is empty" (by rw[isNil_app];rfl) n hn) (aI (show ys++[y]=ys++[y]/\ys.length<sizeLine from⟨rfl,by rw[sizeLine_eq];lia⟩) trivial))
theorem dOf_avD (d:D):dOf (avD d)=some d:=by cases d<;>rfl
theorem c_fpopD (W:Wd w B)(ys:List D)(y:D)(hz:ys.length<100000):CN w B 2 831 [.ref 0] (fro own (ys++[y]) k) (.ret (.dat y)) (fro own ys k):=(c_fpop own k W ys y hz).ret λ_ _ _=>dOf_rep (dOf_avD y)
noncomputable abbrev frp (own:D)(ys:List D)(y:D)(k:Int):List AO:=[.inst 848 1,.ns fks [.ref 2,.ref 3,.none,.dat own,.ref 6,.int k,.int 2000,.bool false],.list [],.ns [] [],.dlist (ys++[y]),.dlist [y],.dlist ys]
end
section
variable {w:World}{B:Heap}
theorem c_isn_i (W:Wd w B)(i:Int):CN w B 1 549 [.int i] [] (.ret (.bool true)) []:=
 CN.of (F_is_number1 W) rfl (fl:=.ret _) λn hn e L=>way (okX W) (or:=[]) trivial
theorem c_isn_t (W:Wd w B)(l:List D):CN w B 1 549 [.dat (.tup l)] [] (.ret (.bool false)) []:=
 CN.of (F_is_number1 W) rfl (fl:=.ret _) λn hn e L=>way (okX W) (or:=[]) trivial
theorem c_ist_1 (W:Wd w B):CN w B 1 556 [.int 1] [] (.ret (.bool true)) []:=
 CN.of (F_is_true1 W) rfl (fl:=.ret _) λn hn e L=>way (okX W) (or:=[]) trivial
theorem c_ist_0 (W:Wd w B):CN w B 1 556 [.int 0] [] (.ret (.bool false)) []:=
 CN.of (F_is_true1 W) rfl (fl:=.ret _) λn hn e L=>way (okX W) (or:=[]) trivial
abbrev Small (i:Int):Prop:=decide (((Builtin.Int.intBits i:Nat):Int)>512)=false
theorem c_bnd_i (W:Wd w B)(i:Int)(h:Small i):CN w B 2 563 [.int i] [] (.ret (.int i)) []:=
 CN.of (F_bounded1 W) rfl (fl:=.ret _) λn hn e L=>way (okX W) (or:=[.call [] (.ret (.bool true)) [],.go,.br false]) (aI (c_isn_i W i n (by lia)) (aI h trivial))
theorem c_bnd_t (W:Wd w B)(d:D):CN w B 2 563 [.dat (.tup [d])] [] (.ret (.dat (.tup [d]))) []:=
 CN.of (F_bounded1 W) rfl (fl:=.ret _) λn hn e L=>way (okX W) (or:=[.call [] (.ret (.bool false)) []]) (aI (c_isn_t W [d] n (by lia)) (aI (show(1:Int)<2^63 by decide) trivial))
noncomputable abbrev mAdd:Str:= "these cannot be added"
theorem c_add_ii (W:Wd w B)(a b:Int):CN w B 2 570 [.int a,.int b] [] (.ret (.int (a+b))) []:=
 CN.of (F_added2 W) rfl (fl:=.ret _) λn hn e L=>way (okX W) (or:=[.call [] (.ret (.bool true)) [],.go,.call [] (.ret (.bool true)) []]) (aI (c_isn_i W a n (by lia)) (aI (c_isn_i W b n (by lia)) trivial))
theorem c_add_it (W:Wd w B)(a:Int)(l:List D):CN w B 4 570 [.int a,.dat (.tup l)] [] (merr mAdd) []:=
 CN.of (F_added2 W) rfl (fl:=merF mAdd) λn hn e L=>wayX (okX W) (or:=[.call [] (.ret (.bool true)) [],.go,.call [] (.ret (.bool false)) [],.go,.go,.go,.go,.call [] (.ret (.ref 0)) [.exc 107 ["what","at"] [.str mAdd,.none]]])
  (aI (c_isn_i W a n (by lia)) (aI (c_isn_t W l n (by lia)) (aI (c_ME W mAdd n (by lia)) trivial)))
theorem c_add_ti (W:Wd w B)(l:List D)(b:Int):CN w B 4 570 [.dat (.tup l),.int b] [] (merr mAdd) []:=
 CN.of (F_added2 W) rfl (fl:=merF mAdd) λn hn e L=>wayX (okX W) (or:=[.call [] (.ret (.bool false)) [],.go,.go,.go,.go,.go,.call [] (.ret (.ref 0)) [.exc 107 ["what","at"] [.str mAdd,.none]]])
  (aI (c_isn_t W l n (by lia)) (aI (c_ME W mAdd n (by lia)) trivial))
theorem c_two_ii (W:Wd w B)(a b:Int)(h:Small (a+b)):CN w B 3 598 [.str "+",.int a,.int b] [] (.ret (.int (a+b))) []:=
 CN.of (F_two_worth3 W) rfl (fl:=.ret _) λn hn e L=>way (okX W) (or:=[.call [] (.ret (.int (a+b))) [],.call [] (.ret (.int (a+b))) []]) (aI (c_add_ii W a b n (by lia)) (aI (c_bnd_i W (a+b) h n (by lia)) trivial))
theorem c_two_it (W:Wd w B)(a:Int)(l:List D):CN w B 5 598 [.str "+",.int a,.dat (.tup l)] [] (merr mAdd) []:=
 CN.of (F_two_worth3 W) rfl (fl:=merF mAdd) λn hn e L=>wayX (okX W) (or:=[.call [] (merr mAdd) []]) (aI (c_add_it W a l n (by lia)) trivial)
theorem c_two_ti (W:Wd w B)(l:List D)(b:Int):CN w B 5 598 [.str "+",.dat (.tup l),.int b] [] (merr mAdd) []:=
 CN.of (F_two_worth3 W) rfl (fl:=merF mAdd) λn hn e L=>wayX (okX W) (or:=[.call [] (merr mAdd) []]) (aI (c_add_ti W l b n (by lia)) trivial)
noncomputable abbrev mOne:Str:= "only numbers can be turned about"
theorem c_one_i (W:Wd w B)(a:Int):CN w B 2 605 [.str "-",.int a] [] (.ret (.int (-a))) []:=
 CN.of (F_one_worth2 W) rfl (fl:=.ret _) λn hn e L=>way (okX W) (or:=[.call [] (.ret (.bool true)) []]) (aI (c_isn_i W a n (by lia)) trivial)
theorem c_one_t (W:Wd w B)(l:List D):CN w B 4 605 [.str "-",.dat (.tup l)] [] (merr mOne) []:=
 CN.of (F_one_worth2 W) rfl (fl:=merF mOne) λn hn e L=>wayX (okX W) (or:=[.call [] (.ret (.bool false)) [],.call [] (.ret (.ref 0)) [.exc 107 ["what","at"] [.str mOne,.none]]]) (aI (c_isn_t W l n (by lia)) (aI (c_ME W mOne n (by lia)) trivial))
noncomputable abbrev mRow:Str:= "no text and no list"
theorem c_row_i (W:Wd w B)(a:Int):CN w B 5 712 [.int a] [] (merr mRow) []:=
 CN.of (F_need_row1 W) rfl (fl:=merF mRow) λn hn e L=>wayX (okX W) (or:=[.call [] (merr mRow) []]) (aI (c_need_x W false mRow rfl n (by lia)) trivial)
theorem callw_isi2 {X:Cx}{c:St}{l:List D}{j:Nat}(h:c.obj[j]? =some (.tup [.typ "str",.typ "tuple"])):CallW X (.blt "isinstance") [.dat (.tup l),.ref j] c (.bool true):=λA ρ G s fv vs rm fo i rf rs=>by
 obtain rfl:=rf
 obtain⟨v,_,rfl,r1,rs1⟩:=rs.inv'
 obtain⟨u,_,rfl,⟨p,hp,rfl⟩,rs2⟩:=rs1.inv'
 obtain⟨p',o,h1,h2,⟨ws,n,e,rfl,h3⟩,h4⟩:=i.h.live _ _ h nofun
 obtain rfl:=Option.some.inj (hp.symm.trans h1)
 obtain⟨_,_,_,rfl,e1,rr⟩:=RepD.inv r1
 obtain⟨w1,_,rfl,rfl,h5⟩:=h3.inv'
 obtain⟨w2,_,rfl,rfl,h6⟩:=h5.inv'
 obtain rfl:=RepVs.inv0 rs2
 obtain rfl:=RepVs.inv0 h6
 exact IsiPair.tupleOf (vs:=[false,true]) (.cons (.of_false_tuple (by decide) (by first|rfl|kernel_rfl) (by rw[isSubtype_type];kernel_rfl)) (.cons (.of_true (by first|rfl|kernel_rfl) (by rw[isSubtype_type];kernel_rfl)) .nil)) ⟨_,i.h.frz _ _ e1,rfl⟩ (e▸h2)
     λtk=>⟨ρ,G,PreA.refl _,Sub.refl _,i.toks,rfl⟩
theorem c_row_t (W:Wd w B)(l:List D):CN w B 2 712 [.dat (.tup l)] [] (.ret (.dat (.tup l))) []:=by
 suffices h:CN w B 2 712 [.dat (.tup l)] [] (.ret (.dat (.tup l))) [.tup [.typ "str",.typ "tuple"]] from λn hn=>CallOK.trim (obj':=[]) (extra:=[.tup [.typ "str",.typ "tuple"]]) (h n hn) rfl rfl rfl
 exact CN.of (F_need_row1 W) rfl (fl:=.ret _) λn hn e L=>way (okX W) (or:=[.item (.bool true),.call [] (.ret .none) []])
  (aI (callw_isi2 (X:=cxt w B "need_row" (df 66) 712 (.ref 711) e L n) (c:=⟨[lv "value" (.dat (.tup l))],[.tup [.typ "str",.typ "tuple"]]⟩) (l:=l) (j:=0) rfl) (aI (c_need_ok W true mRow rfl n (by lia)) trivial))
theorem c_len_i (W:Wd w B)(a:Int):CN w B 6 775 [.str "len",.int a] [] (merr mRow) []:=
 CN.of (F_call_of_one2 W) rfl (fl:=merF mRow) λn hn e L=>wayX (okX W) (or:=[.call [] (merr mRow) []]) (aI (c_row_i W a n (by lia)) trivial)
theorem c_len_t (W:Wd w B)(d:D):CN w B 3 775 [.str "len",.dat (.tup [d])] [] (.ret (.int 1)) []:=
 CN.of (F_call_of_one2 W) rfl (fl:=.ret _) λn hn e L=>way (okX W) (or:=[.call [] (.ret (.dat (.tup [d]))) []]) (aI (c_row_t W [d] n (by lia)) (aI (show(1:Int)<2^63 by decide) trivial))
theorem c_app_i (W:Wd w B)(a:Int):CN w B 7 782 [.str "len",.ref 0] [.dlist [.int a]] (merr mRow) [.dlist [.int a]]:=
 CN.of (F_applied2 W) rfl (fl:=merF mRow) λn hn e L=>wayX (okX W) (or:=[.call [] (.ret .none) [],.call [] (merr mRow) []])
  (aI (show(1:Int)<2^63 by decide) (aI (c_need_ok W true "no such function" rfl n (by lia)) (aI (show(1:Int)<2^63 by decide) (aI (c_len_i W a n (by lia)) trivial))))
theorem c_app_t (W:Wd w B)(d:D):CN w B 4 782 [.str "len",.ref 0] [.dlist [.tup [d]]] (.ret (.int 1)) [.dlist [.tup [d]]]:=
 CN.of (F_applied2 W) rfl (fl:=.ret _) λn hn e L=>way (okX W) (or:=[.call [] (.ret .none) [],.call [] (.ret (.int 1)) []])
  (aI (show(1:Int)<2^63 by decide) (aI (c_need_ok W true "no such function" rfl n (by lia)) (aI (show(1:Int)<2^63 by decide) (aI (c_len_t W d n (by lia)) trivial))))
end
noncomputable def asgV:Stmt->Expr
 | .Assign _ v _=>v
 |_=>default
noncomputable def sbV:Expr->Expr
 | .Subscript v _ _=>v
 |_=>default
noncomputable def sbP:Expr->Pos
 | .Subscript _ _ p=>p
 |_=>default
noncomputable def slLo:Expr->Expr
 | .Subscript _ (.Slice (some l) _ _ _) _=>l
 |_=>default
noncomputable def slHi:Expr->Expr
 | .Subscript _ (.Slice _ (some l) _ _) _=>l
 |_=>default
noncomputable def slP:Expr->Pos
 | .Subscript _ (.Slice _ _ _ p) _=>p
 |_=>default
abbrev isSlLo (x:Expr):Prop:=x=.Subscript (sbV x) (.Slice (some (slLo x)) none none (slP x)) (sbP x)
abbrev isSlHi (x:Expr):Prop:=x=.Subscript (sbV x) (.Slice none (some (slHi x)) none (slP x)) (sbP x)
section
variable {w:World}{B:Heap}
noncomputable abbrev psX (w:World)(B:Heap)(e:En)(L n:Nat):Cx:=cxt w B "Frame.pop_some" (dm 79 4) 838 (.ref 837) e L n
noncomputable abbrev psA:Expr:=asgV (stm (dm 79 4).body 1)
noncomputable abbrev psB:Expr:=asgV (stm (dm 79 4).body 2)
theorem last_drop (ys:List D)(y:D):(ys++[y]).drop ((((partsOfD (ys++[y])).length:Nat):Int)-1).toNat=[y]:=by
 rw[len_parts]
 have:((((ys++[y]).length:Nat):Int)-1).toNat=ys.length:=by simp
 rw[this];simp
theorem last_take (ys:List D)(y:D):(ys++[y]).take ((((partsOfD (ys++[y])).length:Nat):Int)-1).toNat=ys:=by
 rw[len_parts]
 have:((((ys++[y]).length:Nat):Int)-1).toNat=ys.length:=by simp
 rw[this];simp
theorem c_pop_some (W:Wd w B)(own:D)(ys:List D)(y:D)(k:Int)(hz:ys.length<100000):CN w B 2 838 [.ref 0,.int 1] (fro own (ys++[y]) k) (.ret (.ref 5)) (frp own ys y k):=by
 have hlen:(((partsOfD (ys++[y])).length:Nat):Int)=ys.length+1:=by rw[len_parts];simp
 have hh:=λn (h:1<=n)=>c_need_ok W (decide ((((partsOfD (ys++[y])).length:Nat):Int)≥1)) "the stack is empty" (decide_eq_true (by lia)) n h
 have h63:(((partsOfD (ys++[y])).length:Nat):Int)<2^63:=by lia
 have hsz:(ys++[y]).length<=sizeLine:=by rw[sizeLine_eq];simp;lia
 have hle:(((partsOfD (ys++[y])).length:Nat):Int)-1<=((ys++[y]).length:Nat):=by simp;lia
 ·refine CN.of (F_Frame_pop_some2 W) rfl (fl:=.ret _) λn hn e L=>?_
  have hX:Ok (psX w B e L n):=okX W
  have t1:=tv_slice_from (env:=(psX w B e L n).f.env) (p:=slP psA) (pos:=sbP psA) (l:=ys++[y]) (c₂:=⟨[lv "self" (.ref 0),lv "count" (.int 1)],fro own (ys++[y]) k⟩) (xpr hX (x:=sbV psA) (or:=[]) (c:=⟨[lv "self" (.ref 0),lv "count" (.int 1)],fro own (ys++[y]) k⟩) (c':=⟨[lv "self" (.ref 0),lv "count" (.int 1)],fro own (ys++[y]) k⟩) (r:=.ok (.ref 4)) trivial)
   (xpr hX (x:=slLo psA) (or:=[]) (r:=.ok (.int ((((partsOfD (ys++[y])).length:Nat):Int)-1))) (aI h63 trivial)) rfl (by lia) hle hsz
  rw[last_drop,<-show isSlLo psA by kernel_rfl]at t1
  have t2:=tv_slice_to (env:=(psX w B e L n).f.env) (p:=slP psB) (pos:=sbP psB) (l:=ys++[y]) (c₂:=⟨[lv "self" (.ref 0),lv "count" (.int 1),lv "found" (.ref 5)],fro own (ys++[y]) k++[.dlist [y]]⟩) (xpr hX (x:=sbV psB) (or:=[]) (c:=⟨[lv "self" (.ref 0),lv "count" (.int 1),lv "found" (.ref 5)],fro own (ys++[y]) k++[.dlist [y]]⟩) (c':=⟨[lv "self" (.ref 0),lv "count" (.int 1),lv "found" (.ref 5)],fro own (ys++[y]) k++[.dlist [y]]⟩) (r:=.ok (.ref 4)) trivial)
   (xpr hX (x:=slHi psB) (or:=[]) (r:=.ok (.int ((((partsOfD (ys++[y])).length:Nat):Int)-1))) (aI h63 trivial)) rfl (by lia) hsz
  rw[last_take,<-show isSlHi psB by kernel_rfl]at t2
  exact way hX (or:=[.call [] (.ret .none) [],.val (.ok (.ref 5)) ⟨[lv "self" (.ref 0),lv "count" (.int 1)],fro own (ys++[y]) k++[.dlist [y]]⟩,.val (.ok (.ref 6)) ⟨[lv "self" (.ref 0),lv "count" (.int 1),lv "found" (.ref 5)],fro own (ys++[y]) k++[.dlist [y],.dlist ys]⟩])
   (aI h63 (aI (hh n (by lia)) (aI t1 (aI t2 trivial))))
end
noncomputable abbrev mch (own:D)(st:List D)(k:Int):List AO:=fro own st k++[.inst 924 6,.ns ["most"] [.int 2000]]
noncomputable abbrev mcl (own:D)(o1:List D)(y:D)(st:List D)(k:Int):List AO:=[.inst 848 1,.ns fks [.ref 2,.ref 3,.none,.dat own,.ref 8,.int k,.int 2000,.bool false],.list [],.ns [] [],.dlist o1,.inst 924 6,.ns ["most"] [.int 2000],.dlist [y],.dlist st]
noncomputable def valD:D->Bool
 | .int _=>true
 | .tup _=>true
 |_=>false
section
variable {w:World}{B:Heap}
variable (own:D)(st:List D)(k:Int)
theorem c_jmp_1 (W:Wd w B)(hz:st.length<100000)(j a:Int):CN w B 3 881 [.ref 5,.ref 0,.str "unless",.int j,.int a] (mch own (st++[.int 1]) k) (.ret (.int (a+1))) (mch own st k):=by
 have hp:=c_fpop own k W st (.int 1) hz
 exact CN.of (F_Machine_jumped5 W) rfl (fl:=.ret _) λn hn e L=>way (okX W) (or:=[.go,.call [0,1,2,3,4] (.ret (.int 1)) (fro own st k),.call [] (.ret (.bool true)) []]) (aI (hp n (by lia)) (aI (c_ist_1 W n (by lia)) trivial))
theorem c_jmp_0 (W:Wd w B)(hz:st.length<100000)(j a:Int):CN w B 3 881 [.ref 5,.ref 0,.str "unless",.int j,.int a] (mch own (st++[.int 0]) k) (.ret (.int j)) (mch own st k):=by
 have hp:=c_fpop own k W st (.int 0) hz
 exact CN.of (F_Machine_jumped5 W) rfl (fl:=.ret _) λn hn e L=>way (okX W) (or:=[.go,.call [0,1,2,3,4] (.ret (.int 0)) (fro own st k),.call [] (.ret (.bool false)) []]) (aI (hp n (by lia)) (aI (c_ist_0 W n (by lia)) trivial))
theorem c_sto_set (W:Wd w B)(hz:st.length<100000)(d:D):CN w B 3 895 [.ref 5,.ref 0,.str "set",.none] (mch own (st++[d]) k) (.ret .none) (mch d st k):=
 CN.of (F_Machine_store4 W) rfl (fl:=.next) λn hn e L=>way (okX W) (or:=[.call [0,1,2,3,4] (.ret (.dat d)) (fro own st k)]) (aI (c_fpopD own k W st d hz n (by lia)) trivial)
theorem c_sto_no (W:Wd w B)(j:Int)(op:Str)(h:op= "jump" \/op= "unless"):CN w B 3 895 [.ref 5,.ref 0,.str op,.int j] (mch own st k) (.ret .none) (mch own st k):=by
 rcases h with rfl|rfl
 ·exact CN.of (F_Machine_store4 W) rfl (fl:=.next) λn hn e L=>way (okX W) (or:=[]) trivial
 ·exact CN.of (F_Machine_store4 W) rfl (fl:=.next) λn hn e L=>way (okX W) (or:=[]) trivial
abbrev StpOK (w:World)(B:Heap)(op:Str)(worth:AV)(own:D)(st:List D)(k:Int)(own':D)(st':List D):Prop:=CN w B 9 888 [.ref 5,.ref 0,.str op,worth] (mch own st k) (.ret .none) (mch own' st' k)
abbrev StpX (w:World)(B:Heap)(op:Str)(worth:AV)(own:D)(st:List D)(k:Int)(m:Str):Prop:=∃obj',CN w B 9 888 [.ref 5,.ref 0,.str op,worth] (mch own st k) (merr m) obj'
theorem s_push (W:Wd w B)(hz:st.length<100000)(i:Int):StpOK w B "push" (.int i) own st k own (st++[.int i]):=by
 have hp:=c_fpush own st k W (.int i) (.int i) rfl hz
 exact CN.of (F_Machine_step4 W) rfl (fl:=.next) λn hn e L=>way (okX W) (or:=[.call [0,1,2,3,4] (.ret .none) (fro own (st++[.int i]) k)]) (aI (hp n (by lia)) trivial)
theorem s_get (W:Wd w B)(hz:st.length<100000):StpOK w B "get" (.str "u") own st k own (st++[.int 0]):=by
 have hp:=c_fpush own st k W (.int 0) (.int 0) rfl hz
 exact CN.of (F_Machine_step4 W) rfl (fl:=.next) λn hn e L=>way (okX W) (or:=[.call [0,1,2,3,4] (.ret .none) (fro own (st++[.int 0]) k)]) (aI (hp n (by lia)) trivial)
theorem s_set (W:Wd w B)(hz:st.length<100000)(d:D):StpOK w B "set" .none own (st++[d]) k d st:=
 CN.of (F_Machine_step4 W) rfl (fl:=.next) λn hn e L=>way (okX W) (or:=[.call [0,1,2,3,4,5,6] (.ret .none) (mch d st k)]) (aI (c_sto_set own st k W hz d n (by lia)) trivial)
theorem s_no (W:Wd w B)(j:Int)(op:Str)(h:op= "jump" \/op= "unless"):StpOK w B op (.int j) own st k own st:=by
 have hp:=c_sto_no (w:=w) (B:=B) own st k W j op h
 rcases h with rfl|rfl
 ·exact CN.of (F_Machine_step4 W) rfl (fl:=.next) λn hn e L=>way (okX W) (or:=[.call [0,1,2,3,4,5,6] (.ret .none) (mch own st k)]) (aI (hp n (by lia)) trivial)
 ·exact CN.of (F_Machine_step4 W) rfl (fl:=.next) λn hn e L=>way (okX W) (or:=[.call [0,1,2,3,4,5,6] (.ret .none) (mch own st k)]) (aI (hp n (by lia)) trivial)
theorem s_one (W:Wd w B)(hz:st.length<100000)(i:Int):StpOK w B "one" (.str "-") own (st++[.int i]) k own (st++[.int (-i)]):=by
 have hp:=c_fpop own k W st (.int i) hz
 have hq:=c_fpush own st k W (.int (-i)) (.int (-i)) rfl hz
 exact CN.of (F_Machine_step4 W) rfl (fl:=.next) λn hn e L=>way (okX W) (or:=[.call [0,1,2,3,4] (.ret (.int i)) (fro own st k),.call [] (.ret (.int (-i))) [],.call [0,1,2,3,4] (.ret .none) (fro own (st++[.int (-i)]) k)]) (aI (hp n (by lia)) (aI (c_one_i W i n (by lia)) (aI (hq n (by lia)) trivial)))
theorem s_one_x (W:Wd w B)(hz:st.length<100000)(l:List D):StpX w B "one" (.str "-") own (st++[.tup l]) k mOne:=by
 have hp:=c_fpop own k W st (.tup l) hz
 refine⟨mch own st k,?_⟩
 exact CN.of (F_Machine_step4 W) rfl (fl:=merF mOne) λn hn e L=>wayX (okX W) (or:=[.call [0,1,2,3,4] (.ret (.dat (.tup l))) (fro own st k),.call [] (merr mOne) []]) (aI (hp n (by lia)) (aI (c_one_t W l n (by lia)) trivial))
theorem s_two (W:Wd w B)(hz:st.length<90000)(a b:Int)(h:Small (a+b)):StpOK w B "two" (.str "+") own (st++[.int a]++[.int b]) k own (st++[.int (a+b)]):=by
 have hp:=c_fpop own k W (st++[.int a]) (.int b) (by simp;lia)
 have hp2:=c_fpop own k W st (.int a) (by lia)
 have hq:=c_fpush own st k W (.int (a+b)) (.int (a+b)) rfl (by lia)
 exact CN.of (F_Machine_step4 W) rfl (fl:=.next) λn hn e L=>way (okX W) (or:=[.call [0,1,2,3,4] (.ret (.int b)) (fro own (st++[.int a]) k),.call [0,1,2,3,4] (.ret (.int a)) (fro own st k),.call [] (.ret (.int (a+b))) [],.call [0,1,2,3,4] (.ret .none) (fro own (st++[.int (a+b)]) k)]) (aI (hp n (by lia)) (aI (hp2 n (by lia)) (aI (c_two_ii W a b h n (by lia)) (aI (hq n (by lia)) trivial))))
theorem s_two_it (W:Wd w B)(hz:st.length<90000)(a:Int)(l:List D):StpX w B "two" (.str "+") own (st++[.int a]++[.tup l]) k mAdd:=by
 have hp:=c_fpop own k W (st++[.int a]) (.tup l) (by simp;lia)
 have hp2:=c_fpop own k W st (.int a) (by lia)
 refine⟨mch own st k,?_⟩
 exact CN.of (F_Machine_step4 W) rfl (fl:=merF mAdd) λn hn e L=>wayX (okX W) (or:=[.call [0,1,2,3,4] (.ret (.dat (.tup l))) (fro own (st++[.int a]) k),.call [0,1,2,3,4] (.ret (.int a)) (fro own st k),.call [] (merr mAdd) []]) (aI (hp n (by lia)) (aI (hp2 n (by lia)) (aI (c_two_it W a l n (by lia)) trivial)))
theorem s_two_ti (W:Wd w B)(hz:st.length<90000)(l:List D)(b:Int):StpX w B "two" (.str "+") own (st++[.tup l]++[.int b]) k mAdd:=by
 have hp:=c_fpop own k W (st++[.tup l]) (.int b) (by simp;lia)
 have hp2:=c_fpop own k W st (.tup l) (by lia)
 refine⟨mch own st k,?_⟩
 exact CN.of (F_Machine_step4 W) rfl (fl:=merF mAdd) λn hn e L=>wayX (okX W) (or:=[.call [0,1,2,3,4] (.ret (.int b)) (fro own (st++[.tup l]) k),.call [0,1,2,3,4] (.ret (.dat (.tup l))) (fro own st k),.call [] (merr mAdd) []]) (aI (hp n (by lia)) (aI (hp2 n (by lia)) (aI (c_two_ti W l b n (by lia)) trivial)))
abbrev StpL (w:World)(B:Heap)(op:Str)(worth:AV)(own:D)(ys:List D)(y:D)(k:Int)(st':List D):Prop:=CN w B 9 888 [.ref 5,.ref 0,.str op,worth] (mch own (ys++[y]) k) (.ret .none) (mcl own (ys++[y]) y st' k)
theorem s_list (W:Wd w B)(hz:st.length<90000)(d:D)(hd:valD d=true):StpL w B "list" (.int 1) own st d k (st++[.tup [d]]):=by
 have hp:=c_pop_some W own st d k (by lia)
 have hq:=c_fpush own st k W (.dat (.tup [d])) (.tup [d]) rfl (by lia)
 cases d with
 |int i1=>exact CN.of (F_Machine_step4 W) rfl (fl:=.next) λn hn e L=>way (okX W) (or:=[.call [0,1,2,3,4] (.ret (.ref 5)) (frp own st (.int i1) k),.call [] (.ret (.dat (.tup [(.int i1)]))) [],.call [0,1,2,3,8] (.ret .none) (fro own (st++[.tup [(.int i1)]]) k)]) (aI (hp n (by lia)) (aI (show(1:Nat)<=1000 by decide) (aI (c_bnd_t W (.int i1) n (by lia)) (aI (hq n (by lia)) trivial))))
 |tup l1=>exact CN.of (F_Machine_step4 W) rfl (fl:=.next) λn hn e L=>way (okX W) (or:=[.call [0,1,2,3,4] (.ret (.ref 5)) (frp own st (.tup l1) k),.call [] (.ret (.dat (.tup [(.tup l1)]))) [],.call [0,1,2,3,8] (.ret .none) (fro own (st++[.tup [(.tup l1)]]) k)]) (aI (hp n (by lia)) (aI (show(1:Nat)<=1000 by decide) (aI (c_bnd_t W (.tup l1) n (by lia)) (aI (hq n (by lia)) trivial))))
 |_=>cases hd
theorem s_app (W:Wd w B)(hz:st.length<90000)(d:D):StpL w B "apply" (.str "len") own st (.tup [d]) k (st++[.int 1]):=by
 have hp:=c_pop_some W own st (.tup [d]) k (by lia)
 have hq:=c_fpush own st k W (.int 1) (.int 1) rfl (by lia)
 exact CN.of (F_Machine_step4 W) rfl (fl:=.next) λn hn e L=>way (okX W) (or:=[.call [0,1,2,3,4] (.ret (.ref 5)) (frp own st (.tup [d]) k),.call [7] (.ret (.int 1)) [.dlist [.tup [d]]],.call [0,1,2,3,8] (.ret .none) (fro own (st++[.int 1]) k)]) (aI (hp n (by lia)) (aI (c_app_t W d n (by lia)) (aI (hq n (by lia)) trivial)))
theorem s_app_x (W:Wd w B)(hz:st.length<90000)(i:Int):StpX w B "apply" (.str "len") own (st++[.int i]) k mRow:=by
 have hp:=c_pop_some W own st (.int i) k (by lia)
 exact⟨[],CN.of (F_Machine_step4 W) rfl (fl:=merF mRow) λn hn e L=>wayX (okX W) (or:=[.call [0,1,2,3,4] (.ret (.ref 5)) (frp own st (.int i) k),.call [7] (merr mRow) [.dlist [.int i]]]) (aI (hp n (by lia)) (aI (c_app_i W i n (by lia)) trivial))⟩
end
theorem TW'.forget {X:Cx}{loc loc':Loc}{obj:List AO}{c':St}{fl:Fl}{test:Expr}{body:List Stmt}(hcl:X.f.cl=[])(h:Less loc' loc)(t:TW' X test body ⟨loc',obj⟩ fl c'):TW' X test body ⟨loc,obj⟩ fl c':=λA ρ G s rm fo i=>t A ρ G s rm fo (i.forget h)
noncomputable abbrev rnL (cd:List D)(a:Int):Loc:=[("self",.ref 0),("code",.dat (.lst cd)),("values",.ref 2),("names",.ref 3),("control",.none),("own",.dat (.int 5)),("at",.int a),("frame",.ref 5)]
noncomputable abbrev ro (own:D)(st:List D)(k:Int):List AO:=[.inst 924 1,.ns ["most"] [.int 2000],.list [],.ns [] [],.ns fks [.ref 2,.ref 3,.none,.dat own,.ref 6,.int k,.int 2000,.bool false],.inst 848 4,.dlist st]
noncomputable abbrev rol (own:D)(o1:List D)(y:D)(st:List D)(k:Int):List AO:=[.inst 924 1,.ns ["most"] [.int 2000],.list [],.ns [] [],.ns fks [.ref 2,.ref 3,.none,.dat own,.ref 8,.int k,.int 2000,.bool false],.inst 848 4,.dlist o1,.dlist [y],.dlist st]
noncomputable abbrev rnX (w:World)(B:Heap)(e:En)(L n:Nat):Cx:=cxt w B "Machine.run" (dm 80 1) 874 (.ref 873) e L n
noncomputable abbrev rnW:Stmt:=stm (dm 80 1).body 1
noncomputable abbrev ipl (o:Str)(wd:AV):Loc:=[("op",.str o),("worth",wd)]
abbrev RnT (w:World)(B:Heap)(e:En)(L n:Nat)(cd:List D)(a:Int)(own:D)(st:List D)(k:Int)(fl:Fl)(c':St):Prop:=TW' (rnX w B e L n) (whT rnW) (whB rnW) ⟨rnL cd a,ro own st k⟩ fl c'
abbrev ItmOK (cd:List D)(a:Int)(d:D):Prop:=0<=a/\a<2^63/\(partsOfD cd)[a.toNat]? =some (.dat d)
section
variable {w:World}{B:Heap}{e:En}{L n:Nat}{cd:List D}{a:Int}{own:D}{st:List D}{k:Int}{fl:Fl}{c':St}
theorem rn_true (W:Wd w B)(h:a<cd.length)(hz:cd.length<100000):TB (rnX w B e L n) (isTrue (whT rnW) (rnX w B e L n).f.env (eval (whT rnW) (rnX w B e L n).f.env)) ⟨rnL cd a,ro own st k⟩ (.ok true) ⟨rnL cd a,ro own st k⟩:=
 tst (okX W) (or:=[.br true]) (aI (show(((partsOfD cd).length:Nat):Int)<2^63 by rw[len_parts];lia) (aI (show decide (a< (((partsOfD cd).length:Nat):Int))=true by rw[len_parts];exact decide_eq_true h) trivial))
theorem rn_false (W:Wd w B)(h:a=cd.length)(hz:cd.length<100000):TB (rnX w B e L n) (isTrue (whT rnW) (rnX w B e L n).f.env (eval (whT rnW) (rnX w B e L n).f.env)) ⟨rnL cd a,ro own st k⟩ (.ok false) ⟨rnL cd a,ro own st k⟩:=
 tst (okX W) (or:=[.br false]) (aI (show(((partsOfD cd).length:Nat):Int)<2^63 by rw[len_parts];lia) (aI (show decide (a< (((partsOfD cd).length:Nat):Int))=false by rw[len_parts];exact decide_eq_false (by lia)) trivial))
theorem ItmOK.lt (h:ItmOK cd a d):a<cd.length:=by
 have:=(List.getElem?_eq_some_iff.mp h.2.2).1
 rw[len_parts]at this
 have:=h.1
 lia
noncomputable def isJ (op:Str):Bool:=match decide (("jump" :Str)=op)with
 |true=>true
 |false=>match decide (("unless" :Str)=op)with
  |true=>true
  |false=>match decide (("when" :Str)=op)with
   |true=>true
   |false=>false
section
variable {op:Str}{own':D}{st' o1:List D}{y:D}(W:Wd w B)(hj:isJ op=false)(hk:k+1<=2000)(hc:cd.length<100000)(hn:9<=n)
include W hj hk hc hn
noncomputable abbrev fS5:List Nat:=[5,4,2,3,6]
noncomputable abbrev mS7:List Nat:=[5,4,2,3,6,0,1]
theorem rn_okI {i:Int}(hi:ItmOK cd a (ins op (.int i)))(hs:StpOK w B op (.int i) own st (k+1) own' st')(h:RnT w B e L n cd (a+1) own' st' (k+1) fl c'):RnT w B e L n cd a own st k fl c':=
 twp_true (rn_true W hi.lt hc) (stp (okX W) (or:=[.call fS5 (.ret .none) (fro own st (k+1)),.item (.dat (.tup [.str op,.int i])),.br false,.call mS7 (.ret .none) (mch own' st' (k+1))]) (aI (c_fcount own st k W hk n (Nat.le_trans (by decide) hn)) (aI hi (aI hj (aI (hs n hn) trivial)))))
  (TW'.forget (loc:=rnL cd (a+1)++ipl op (.int i)) (loc':=rnL cd (a+1)) (obj:=ro own' st' (k+1)) rfl Less.app h)
theorem rn_okS {i:Str}(hi:ItmOK cd a (ins op (.str i)))(hs:StpOK w B op (.str i) own st (k+1) own' st')(h:RnT w B e L n cd (a+1) own' st' (k+1) fl c'):RnT w B e L n cd a own st k fl c':=
 twp_true (rn_true W hi.lt hc) (stp (okX W) (or:=[.call fS5 (.ret .none) (fro own st (k+1)),.item (.dat (.tup [.str op,.str i])),.br false,.call mS7 (.ret .none) (mch own' st' (k+1))]) (aI (c_fcount own st k W hk n (Nat.le_trans (by decide) hn)) (aI hi (aI hj (aI (hs n hn) trivial)))))
  (TW'.forget (loc:=rnL cd (a+1)++ipl op (.str i)) (loc':=rnL cd (a+1)) (obj:=ro own' st' (k+1)) rfl Less.app h)
theorem rn_x {i:Str}{m:Str}(hi:ItmOK cd a (ins op (.str i)))(hs:StpX w B op (.str i) own st (k+1) m):RnT w B e L n cd a own st k (merF m) c':=by
 obtain⟨ob,hs⟩:=hs
 exact twp_x rfl (rn_true W hi.lt hc) (stpX (c':=c') (okX W) (or:=[.call fS5 (.ret .none) (fro own st (k+1)),.item (.dat (.tup [.str op,.str i])),.br false,.call mS7 (merr m) ob]) (aI (c_fcount own st k W hk n (Nat.le_trans (by decide) hn)) (aI hi (aI hj (aI (hs n hn) trivial)))))
end
theorem rn_push (W:Wd w B)(hk:k+1<=2000)(hc:cd.length<100000)(hn:9<=n){i:Int}(hi:ItmOK cd a (ins "push" (.int i)))(hz:st.length<90000)(h:RnT w B e L n cd (a+1) own (st++[.int i]) (k+1) fl c'):RnT w B e L n cd a own st k fl c':=
 rn_okI W (by decide) hk hc hn hi (s_push own st (k+1) W (by lia) i) h
theorem rn_get (W:Wd w B)(hk:k+1<=2000)(hc:cd.length<100000)(hn:9<=n)(hi:ItmOK cd a (ins "get" (.str "u")))(hz:st.length<90000)(h:RnT w B e L n cd (a+1) own (st++[.int 0]) (k+1) fl c'):RnT w B e L n cd a own st k fl c':=
 rn_okS W (by decide) hk hc hn hi (s_get own st (k+1) W (by lia)) h
theorem rn_one (W:Wd w B)(hk:k+1<=2000)(hc:cd.length<100000)(hn:9<=n)(hi:ItmOK cd a (ins "one" (.str "-")))(hz:st.length<90000){i:Int}(h:RnT w B e L n cd (a+1) own (st++[.int (-i)]) (k+1) fl c'):RnT w B e L n cd a own (st++[.int i]) k fl c':=
 rn_okS W (by decide) hk hc hn hi (s_one own st (k+1) W (by lia) i) h
theorem rn_two (W:Wd w B)(hk:k+1<=2000)(hc:cd.length<100000)(hn:9<=n)(hi:ItmOK cd a (ins "two" (.str "+")))(hz:st.length<90000){i j:Int}(hs2:Small (i+j))(h:RnT w B e L n cd (a+1) own (st++[.int (i+j)]) (k+1) fl c'):RnT w B e L n cd a own (st++[.int i]++[.int j]) k fl c':=
 rn_okS W (by decide) hk hc hn hi (s_two own st (k+1) W (by lia) i j hs2) h
theorem rn_set (W:Wd w B)(hk:k+1<=2000)(hc:cd.length<100000)(hn:9<=n)(hi:ItmOK cd a (ins "set" .none))(hz:st.length<90000){d:D}(h:RnT w B e L n cd (a+1) d st (k+1) fl c'):RnT w B e L n cd a own (st++[d]) k fl c':=
 twp_true (rn_true W hi.lt hc) (stp (okX W) (or:=[.call fS5 (.ret .none) (fro own (st++[d]) (k+1)),.item (.dat (.tup [.str "set",.none])),.call mS7 (.ret .none) (mch d st (k+1))]) (aI (c_fcount own (st++[d]) k W hk n (by lia)) (aI hi (aI (s_set own st (k+1) W (by lia) d n hn) trivial)))) (TW'.forget (loc:=rnL cd (a+1)++ipl "set" .none) (loc':=rnL cd (a+1)) (obj:=ro d st (k+1)) rfl Less.app h)
theorem pick4 (he:e.ρ.length=4):∀i<e.ρ.length,([0,1,2,3,4,5,8]:List Nat)[i]? =some i:=by
 rw[he]
 intro i hi
 match i,hi with
 |0,_=>rfl
 |1,_=>rfl
 |2,_=>rfl
 |3,_=>rfl
theorem rn_list (W:Wd w B)(he:e.ρ.length=4)(hk:k+1<=2000)(hc:cd.length<100000)(hn:9<=n)(hi:ItmOK cd a (ins "list" (.int 1)))(hz:st.length<90000){d:D}(hd:valD d=true)(h:RnT w B e L n cd (a+1) own (st++[.tup [d]]) (k+1) fl c'):RnT w B e L n cd a own (st++[d]) k fl c':=by
 have hX:Ok (rnX w B e L n):=okX W
 have hf:=c_fcount own (st++[d]) k W hk n (by lia)
 have hs:=s_list own st (k+1) W (by lia) d hd n hn
 exact twp_true (rn_true W hi.lt hc) (stp hX (or:=[.call [5,4,2,3,6] (.ret .none) (fro own (st++[d]) (k+1)),.item (.dat (.tup [.str "list",(.int 1)])),.call [5,4,2,3,6,0,1] (.ret .none) (mcl own (st++[d]) d (st++[.tup [d]]) (k+1))]) (aI hf (aI hi (aI hs trivial)))) (TW'.forget (loc:=rnL cd (a+1)++ipl "list" (.int 1)) (loc':=rnL cd (a+1)) (obj:=rol own (st++[d]) d (st++[.tup [d]]) (k+1)) rfl Less.app (TW'.re [0,1,2,3,4,5,8] rfl (by kernel_rfl) (by kernel_rfl) (by kernel_rfl) (pick4 he) h))
theorem rn_app (W:Wd w B)(he:e.ρ.length=4)(hk:k+1<=2000)(hc:cd.length<100000)(hn:9<=n)(hi:ItmOK cd a (ins "apply" (.str "len")))(hz:st.length<90000){d:D}(h:RnT w B e L n cd (a+1) own (st++[.int 1]) (k+1) fl c'):RnT w B e L n cd a own (st++[.tup [d]]) k fl c':=by
 have hX:Ok (rnX w B e L n):=okX W
 have hf:=c_fcount own (st++[.tup [d]]) k W hk n (by lia)
 have hs:=s_app own st (k+1) W (by lia) d n hn
 exact twp_true (rn_true W hi.lt hc) (stp hX (or:=[.call [5,4,2,3,6] (.ret .none) (fro own (st++[.tup [d]]) (k+1)),.item (.dat (.tup [.str "apply",(.str "len")])),.call [5,4,2,3,6,0,1] (.ret .none) (mcl own (st++[.tup [d]]) (.tup [d]) (st++[.int 1]) (k+1))]) (aI hf (aI hi (aI hs trivial)))) (TW'.forget (loc:=rnL cd (a+1)++ipl "apply" (.str "len")) (loc':=rnL cd (a+1)) (obj:=rol own (st++[.tup [d]]) (.tup [d]) (st++[.int 1]) (k+1)) rfl Less.app (TW'.re [0,1,2,3,4,5,8] rfl (by kernel_rfl) (by kernel_rfl) (by kernel_rfl) (pick4 he) h))
theorem rn_one_x (W:Wd w B)(hk:k+1<=2000)(hc:cd.length<100000)(hn:9<=n)(hi:ItmOK cd a (ins "one" (.str "-")))(hz:st.length<90000){l:List D}:RnT w B e L n cd a own (st++[.tup l]) k (merF mOne) c':=
 rn_x W (by decide) hk hc hn hi (s_one_x own st (k+1) W (by lia) l)
theorem rn_two_it (W:Wd w B)(hk:k+1<=2000)(hc:cd.length<100000)(hn:9<=n)(hi:ItmOK cd a (ins "two" (.str "+")))(hz:st.length<90000){i:Int}{l:List D}:RnT w B e L n cd a own (st++[.int i]++[.tup l]) k (merF mAdd) c':=
 rn_x W (by decide) hk hc hn hi (s_two_it own st (k+1) W (by lia) i l)
theorem rn_two_ti (W:Wd w B)(hk:k+1<=2000)(hc:cd.length<100000)(hn:9<=n)(hi:ItmOK cd a (ins "two" (.str "+")))(hz:st.length<90000){l:List D}{i:Int}:RnT w B e L n cd a own (st++[.tup l]++[.int i]) k (merF mAdd) c':=
 rn_x W (by decide) hk hc hn hi (s_two_ti own st (k+1) W (by lia) l i)
theorem rn_app_x (W:Wd w B)(hk:k+1<=2000)(hc:cd.length<100000)(hn:9<=n)(hi:ItmOK cd a (ins "apply" (.str "len")))(hz:st.length<90000){i:Int}:RnT w B e L n cd a own (st++[.int i]) k (merF mRow) c':=
 rn_x W (by decide) hk hc hn hi (s_app_x own st (k+1) W (by lia) i)
theorem rn_un1 (W:Wd w B)(hk:k+1<=2000)(hc:cd.length<100000)(hn:9<=n){j:Int}(hi:ItmOK cd a (ins "unless" (.int j)))(hz:st.length<90000)(h:RnT w B e L n cd (a+1) own st (k+1) fl c'):RnT w B e L n cd a own (st++[.int 1]) k fl c':=by
 have hX:Ok (rnX w B e L n):=okX W
 have hf:=c_fcount own (st++[.int 1]) k W hk n (by lia)
 have hj:=c_jmp_1 own st (k+1) W (by lia) j a n (by lia)
 have hs:=s_no own st (k+1) W j "unless" (.inr rfl) n hn
 exact twp_true (rn_true W hi.lt hc) (stp hX (or:=[.call [5,4,2,3,6] (.ret .none) (fro own (st++[.int 1]) (k+1)),.item (.dat (.tup [.str "unless",.int j])),.call [5,4,2,3,6,0,1] (.ret (.int (a+1))) (mch own st (k+1)),.call [5,4,2,3,6,0,1] (.ret .none) (mch own st (k+1))]) (aI hf (aI hi (aI hj (aI hs trivial))))) (TW'.forget (loc:=rnL cd (a+1)++ipl "unless" (.int j)) (loc':=rnL cd (a+1)) (obj:=ro own st (k+1)) rfl Less.app h)
theorem rn_un0 (W:Wd w B)(hk:k+1<=2000)(hc:cd.length<100000)(hn:9<=n){j:Int}(hi:ItmOK cd a (ins "unless" (.int j)))(hz:st.length<90000)(h:RnT w B e L n cd j own st (k+1) fl c'):RnT w B e L n cd a own (st++[.int 0]) k fl c':=by
 have hX:Ok (rnX w B e L n):=okX W
 have hf:=c_fcount own (st++[.int 0]) k W hk n (by lia)
 have hj:=c_jmp_0 own st (k+1) W (by lia) j a n (by lia)
 have hs:=s_no own st (k+1) W j "unless" (.inr rfl) n hn
 exact twp_true (rn_true W hi.lt hc) (stp hX (or:=[.call [5,4,2,3,6] (.ret .none) (fro own (st++[.int 0]) (k+1)),.item (.dat (.tup [.str "unless",.int j])),.call [5,4,2,3,6,0,1] (.ret (.int j)) (mch own st (k+1)),.call [5,4,2,3,6,0,1] (.ret .none) (mch own st (k+1))]) (aI hf (aI hi (aI hj (aI hs trivial))))) (TW'.forget (loc:=rnL cd j++ipl "unless" (.int j)) (loc':=rnL cd j) (obj:=ro own st (k+1)) rfl Less.app h)
end
noncomputable def lenV:Vx->Option Vx
 | .tup _=>some (.num 1)
 | .num _=>none
noncomputable def negV:Vx->Option Vx
 | .num i=>some (.num (-i))
 | .tup _=>none
noncomputable def addV:Vx->Vx->Option Vx
 | .num a,.num b=>some (.num (a+b))
 |_,_=>none
noncomputable def Xt.val:Xt->Option Vx
 | .num k=>some (.num k)
 | .par x=>x.val
 | .lst x=>x.val.map .tup
 | .len x=>x.val.bind lenV
 | .neg x=>x.val.bind negV
 | .add l r=>l.val.bind λa=>r.val.bind (addV a)
noncomputable def Xt.err:Xt->Str
 | .num _=> ""
 | .par x=>x.err
 | .lst x=>x.err
 | .len x=>x.val.elim x.err λ_=>mRow
 | .neg x=>x.val.elim x.err λ_=>mOne
 | .add l r=>l.val.elim l.err λ_=>r.val.elim r.err λ_=>mAdd
noncomputable def Xt.isNum:Xt->Bool
 | .num _=>true
 |_=>false
theorem Xt.isNum_at {x:Xt}(h:x.isNum=true):∃k,x=.num k:=by cases x<;>first|exact⟨_,rfl⟩|cases h
noncomputable def Xt.lin:Xt->Bool
 | .num k=>decide (k<=9)
 | .par x=>x.lin
 | .lst x=>x.lin
 | .len x=>x.lin
 | .neg x=>x.lin
 | .add l r=>(l.isNum||r.isNum)&& (l.lin&&r.lin)
theorem Xt.lin_add {l r:Xt}(h:(Xt.add l r).lin=true):(l.isNum||r.isNum)=true/\l.lin=true/\r.lin=true:=by
 have h:((l.isNum||r.isNum)&& (l.lin&&r.lin))=true:=h
 rw[Bool.and_eq_true,Bool.and_eq_true]at h
 exact h
theorem Xt.no_tt {l r:Xt}{a b:Vx}(h:(l.isNum||r.isNum)=true)(hv:l.val=some (.tup a))(hu:r.val=some (.tup b)):False:=by
 rcases(Bool.or_eq_true _ _).mp h with h|h
 ·obtain⟨k,rfl⟩:=Xt.isNum_at h;cases hv
 ·obtain⟨k,rfl⟩:=Xt.isNum_at h;cases hu
noncomputable def Vx.le (m:Nat):Vx->Prop
 | .num i=>i.natAbs<=m
 | .tup _=>True
theorem small_of {i:Int}(h:i.natAbs<=1000000):Small i:=by
 unfold Small
 refine decide_eq_false ?_
 unfold Builtin.Int.intBits
 split
 ·decide
 ·have:i.natAbs.log2<=20:=by
   have h0:i.natAbs≠0:=by
    rename_i q
    intro z
    exact q (by simp[Int.natAbs_eq_zero.mp z])
   have:=(Nat.log2_lt h0 (k:=20)).mpr (by lia)
   lia
  lia
theorem Xt.val_le (x:Xt):∀ (v:Vx),x.lin=true->x.val=some v->v.le (10*x.code.length):=by
 induction x with
 |num k=>
  intro v h q
  obtain rfl:=Option.some.inj q
  have:=of_decide_eq_true h
  show(k:Int).natAbs<=10
  lia
 |par x ih=>exact ih
 |lst x ih=>
  intro v h q
  obtain⟨u,_,rfl⟩:=Option.map_eq_some_iff.mp q
  trivial
 |len x ih=>
  intro v h q
  obtain⟨u,_,q⟩:=Option.bind_eq_some_iff.mp q
  cases u with
  |num=>cases q
  |tup=>obtain rfl:=Option.some.inj q;show 1<=10*(x.code++_).length;rw[List.length_append];exact Nat.le_trans (by decide) (Nat.mul_le_mul_left 10 (Nat.le_add_left _ _))
 |neg x ih=>
  intro v h q
  obtain⟨u,e,q⟩:=Option.bind_eq_some_iff.mp q
  cases u with
  |tup=>cases q
  |num i=>obtain rfl:=Option.some.inj q;show(-i).natAbs<=10*(x.code++_).length;rw[Int.natAbs_neg,List.length_append];exact Nat.le_trans (ih _ h e) (Nat.mul_le_mul_left 10 (Nat.le_add_right _ _))
 |add l r il ir=>
  intro v h q
  obtain⟨_,hl,hr⟩:=Xt.lin_add h
  obtain⟨a,e1,q⟩:=Option.bind_eq_some_iff.mp q
  obtain⟨b,e2,q⟩:=Option.bind_eq_some_iff.mp q
  cases a with
  |tup=>cases q
  |num a=>
   cases b with
   |tup=>cases q
   |num b=>
    obtain rfl:=Option.some.inj q
    have h1:=il _ hl e1
    have h2:=ir _ hr e2
    show(a+b).natAbs<=10*(l.code++r.code++_).length
    rw[List.length_append,List.length_append,Nat.mul_add,Nat.mul_add]
    exact Nat.le_trans (Int.natAbs_add_le a b) (Nat.le_trans (Nat.add_le_add h1 h2) (Nat.le_add_right _ _))
theorem Vx.ok (v:Vx):valD v.D=true:=by cases v<;>rfl
theorem itm_at {pre suf:List D}{o:Str}{d:D}(hz:(pre++ins o d::suf).length<100000):ItmOK (pre++ins o d::suf) (pre.length:Nat) (ins o d):=by
 have:pre.length<100000:=by simp at hz;lia
 refine⟨by lia,by lia,?_⟩
 rw[Int.toNat_natCast,partsOfD,List.getElem?_map,List.getElem?_append_right (Nat.le_refl _),Nat.sub_self]
 rfl
theorem itm_eq {cd pre suf:List D}{a:Int}{o:Str}{d:D}(hz:cd.length<100000)(h:cd=pre++ins o d::suf)(ha:a=(pre.length:Nat)):ItmOK cd a (ins o d):=by
 subst h;subst ha;exact itm_at hz
def At (cd:List D)(p:Nat)(l:List D):Prop:=∃pre suf,cd=pre++l++suf/\pre.length=p
section
variable {cd c1 c2:List D}{p:Nat}
theorem At.l (h:At cd p (c1++c2)):At cd p c1:=by
 obtain⟨pre,suf,e,hp⟩:=h
 exact⟨pre,c2++suf,by rw[e,List.append_assoc,List.append_assoc,List.append_assoc],hp⟩
theorem At.r (h:At cd p (c1++c2)):At cd (p+c1.length) c2:=by
 obtain⟨pre,suf,e,hp⟩:=h
 exact⟨pre++c1,suf,by rw[e,List.append_assoc pre c1 c2],by rw[List.length_append,hp]⟩
theorem At.itm {o:Str}{d:D}(h:At cd p [ins o d])(hz:cd.length<80000):ItmOK cd (p:Nat) (ins o d):=by
 obtain⟨pre,suf,e,hp⟩:=h
 exact itm_eq (Nat.lt_trans hz (by decide)) (e.trans (List.append_assoc _ _ _)) (congrArg _ hp.symm)
end
theorem kI {k n:Nat}(h:k+(n+1)<=2000):((k+n:Nat):Int)+1<=2000:=by lia
theorem b9 {a n:Nat}(h:a+n<80000):a<90000:=by lia
section
variable {w:World}{B:Heap}{e:En}{L n:Nat}{cd:List D}{own:D}
noncomputable def RunX (w:World)(B:Heap)(e:En)(L n:Nat)(cd:List D)(own:D)(len p:Nat)(st:List D)(k:Nat)(m:Str):Option Vx->Prop
 |some v=>∀fl c',RnT w B e L n cd ((p+len:Nat):Int) own (st++[v.D]) ((k+len:Nat):Int) fl c'->RnT w B e L n cd p own st k fl c'
 |none=>∀c',RnT w B e L n cd p own st k (merF m) c'
section
variable {l st:List D}{d:D}{p k:Nat}{m m':Str}{v v':Vx}
theorem RunX.up (ih:RunX w B e L n cd own l.length p st k m (some v))(h:∀fl c',RnT w B e L n cd (((p+l.length:Nat):Int)+1) own (st++[v'.D]) (((k+l.length:Nat):Int)+1) fl c'->RnT w B e L n cd ((p+l.length:Nat):Int) own (st++[v.D]) ((k+l.length:Nat):Int) fl c'):RunX w B e L n cd own (l++[d]).length p st k m' (some v'):=λfl c' q=>
 ih fl c' (h fl c' (by rw[List.length_append]at q;exact q))
end
theorem run_x (W:Wd w B)(he:e.ρ.length=4)(hc:cd.length<80000)(hn:9<=n)(x:Xt):∀ (p:Nat) (st:List D) (k:Nat),x.lin=true->At cd p x.code->k+x.code.length<=2000->st.length+x.code.length<80000->RunX w B e L n cd own x.code.length p st k x.err x.val:=by
 have hc':cd.length<100000:=Nat.lt_trans hc (by decide)
 induction x with
 |num i=>exact λp st k hl h hk hs fl c' q=>rn_push W (kI (n:=0) hk) hc' hn (h.itm hc) (b9 hs) q
 |par x ih=>exact ih
 |lst x ih=>
  intro p st k hl h hk hs
  have e1:(Xt.lst x).code.length=x.code.length+1:=List.length_append
  rw[e1]at hk hs
  have ih:=ih p st k hl h.l (Nat.le_of_succ_le hk) (Nat.lt_of_succ_lt hs)
  show RunX _ _ _ _ _ _ _ _ _ _ _ x.err (x.val.map .tup)
  cases hv:x.val with
  |none=>rw[hv]at ih;exact ih
  |some v=>rw[hv]at ih;exact ih.up λfl c'=>rn_list W he (kI hk) hc' hn (h.r.itm hc) (b9 hs) v.ok
 |len x ih=>
  intro p st k hl h hk hs
  have e1:(Xt.len x).code.length=x.code.length+1:=List.length_append
  rw[e1]at hk hs
  have ih:=ih p st k hl h.l (Nat.le_of_succ_le hk) (Nat.lt_of_succ_lt hs)
  show RunX _ _ _ _ _ _ _ _ _ _ _ (x.val.elim x.err λ_=>mRow) (x.val.bind lenV)
  cases hv:x.val with
  |none=>rw[hv]at ih;exact ih
  |some v=>
   rw[hv]at ih
   cases v with
   |num i=>exact λc'=>ih _ c' (rn_app_x W (kI hk) hc' hn (h.r.itm hc) (b9 hs))
   |tup v=>exact ih.up (v':=.num 1) λfl c'=>rn_app W he (kI hk) hc' hn (h.r.itm hc) (b9 hs)
 |neg x ih=>
  intro p st k hl h hk hs
  have e1:(Xt.neg x).code.length=x.code.length+1:=List.length_append
  rw[e1]at hk hs
  have ih:=ih p st k hl h.l (Nat.le_of_succ_le hk) (Nat.lt_of_succ_lt hs)
  show RunX _ _ _ _ _ _ _ _ _ _ _ (x.val.elim x.err λ_=>mOne) (x.val.bind negV)
  cases hv:x.val with
  |none=>rw[hv]at ih;exact ih
  |some v=>
   rw[hv]at ih
   cases v with
   |tup v=>exact λc'=>ih _ c' (rn_one_x W (kI hk) hc' hn (h.r.itm hc) (b9 hs))
   |num i=>exact ih.up (v':=.num (-i)) λfl c'=>rn_one W (kI hk) hc' hn (h.r.itm hc) (b9 hs)
 |add l r il ir=>
  intro p st k hl h hk hs
  obtain⟨hlr,hll,hlr2⟩:=Xt.lin_add hl
  have e1:(Xt.add l r).code.length=(l.code++r.code).length+1:=List.length_append
  rw[e1]at hk hs
  have e2:(l.code++r.code).length=l.code.length+r.code.length:=List.length_append
  have hk2:k+(l.code.length+r.code.length)<=2000:=e2▸Nat.le_of_succ_le hk
  have hs2:st.length+(l.code.length+r.code.length)<80000:=e2▸Nat.lt_of_succ_lt hs
  have il:=il p st k hll h.l.l (Nat.le_trans (Nat.add_le_add_left (Nat.le_add_right _ _) _) hk2) (Nat.lt_of_le_of_lt (Nat.add_le_add_left (Nat.le_add_right _ _) _) hs2)
  have ir:=λ(v:Vx)=>ir (p+l.code.length) (st++[v.D]) (k+l.code.length) hlr2 h.l.r (by rw[Nat.add_assoc];exact hk2) (by rw[List.length_append,List.length_singleton];lia)
  have hI:=h.r.itm hc
  rw[e2,<-Nat.add_assoc]at hI
  have hK:((k+l.code.length+r.code.length:Nat):Int)+1<=2000:=by rw[Nat.add_assoc,<-e2];exact kI hk
  show RunX _ _ _ _ _ _ _ _ _ _ _ (l.val.elim l.err λ_=>r.val.elim r.err λ_=>mAdd) (l.val.bind λa=>r.val.bind (addV a))
  cases hv:l.val with
  |none=>rw[hv]at il;exact il
  |some v1=>
   rw[hv]at il
   have ir:=ir v1
   cases hu:r.val with
   |none=>rw[hu]at ir;exact λc'=>il _ c' (ir c')
   |some v2=>
    rw[hu]at ir
    cases v1 with
    |num i=>
     cases v2 with
     |num j=>
      intro fl c' q
      refine il fl c' (ir fl c' (rn_two W hK hc' hn hI (b9 hs) (small_of ?_) ?_))
      ·have b1:i.natAbs<=_:=Xt.val_le l _ hll hv
       have b2:j.natAbs<=_:=Xt.val_le r _ hlr2 hu
       lia
      ·rw[e1,e2,<-Nat.add_assoc,<-Nat.add_assoc k,<-Nat.add_assoc,<-Nat.add_assoc k]at q;exact q
     |tup v2=>exact λc'=>il _ c' (ir _ c' (rn_two_it W hK hc' hn hI (b9 hs)))
    |tup v1=>
     cases v2 with
     |num j=>exact λc'=>il _ c' (ir _ c' (rn_two_ti W hK hc' hn hI (b9 hs)))
     |tup v2=>exact(Xt.no_tt hlr hv hu).elim
noncomputable def Sx.res:Sx->D->Option D
 | .set x,_=>x.val.map Vx.D
 | .iff s,o=>s.res o
 | .whl _,o=>some o
 | .els _ s,o=>s.res o
noncomputable def Sx.lin:Sx->Bool
 | .set x=>x.lin
 | .iff s=>s.lin
 | .whl s=>s.lin
 | .els _ s=>s.lin
noncomputable def Sx.err:Sx->Str
 | .set x=>x.err
 | .iff s=>s.err
 | .whl _=> ""
 | .els _ s=>s.err
noncomputable def Sx.stps:Sx->Nat
 | .set x=>x.code.length+1
 | .iff s=>s.stps+2
 | .whl _=>2
 | .els _ s=>s.stps+2
noncomputable def RunS (w:World)(B:Heap)(e:En)(L n:Nat)(cd:List D)(own:D)(len p k z:Nat)(m:Str):Option D->Prop
 |some own'=>∀fl c',RnT w B e L n cd ((p+len:Nat):Int) own' [] ((k+z:Nat):Int) fl c'->RnT w B e L n cd p own [] k fl c'
 |none=>∀c',RnT w B e L n cd p own [] k (merF m) c'
theorem RunS.pre {len len' p p' k k' z z':Nat}{m:Str}{r:Option D}(ih:RunS w B e L n cd own len' p' k' z' m r)(hp:p'+len'=p+len)(hz:k'+z'=k+z)(h:∀fl c',RnT w B e L n cd p' own [] k' fl c'->RnT w B e L n cd p own [] k fl c'):RunS w B e L n cd own len p k z m r:=by
 cases r with
 |none=>exact λc'=>h _ c' (ih c')
 |some o=>exact λfl c' q=>h fl c' (ih fl c' (by rw[hp,hz];exact q))
theorem run_s (W:Wd w B)(he:e.ρ.length=4)(hc:cd.length<80000)(hn:9<=n)(own:D)(s:Sx):∀ (p k:Nat),s.lin=true->At cd p (s.code p)->k+s.clen<=2000->RunS w B e L n cd own s.clen p k s.stps s.err (s.res own):=by
 have hc':cd.length<100000:=Nat.lt_trans hc (by decide)
 induction s with
 |set x=>
  intro p k hl h hk
  have hx:x.code.length<80000:=Nat.lt_of_le_of_lt (Nat.le_trans (Nat.le_trans (Nat.le_succ _) (Nat.le_add_left _ _)) hk) (by decide)
  have ih:=run_x (L:=L) (own:=own) W he hc hn x p [] k hl h.l (Nat.le_of_succ_le hk) (by rw[List.length_nil,Nat.zero_add];exact hx)
  show RunS _ _ _ _ _ _ _ _ _ _ _ x.err (x.val.map Vx.D)
  cases hv:x.val with
  |none=>rw[hv]at ih;exact ih
  |some v=>rw[hv]at ih;exact λfl c' q=>ih fl c' (rn_set W (kI hk) hc' hn (h.r.itm hc) (by decide) q)
 |iff s ih=>
  intro p k hl h hk
  have h2:At cd p ([ins "push" (.int 1)]++([ins "unless" (.int ((p+2+(s.code (p+2)).length:Nat):Int))]++s.code (p+2))):=h
  exact(ih (p+1+1) (k+1+1) hl h2.r.r (by have:k+(s.clen+2)<=2000:=hk;lia)).pre (Nat.add_right_comm _ 2 _) (Nat.add_right_comm _ 2 _) λfl c' q=>
   rn_push W (by have:k+(s.clen+2)<=2000:=hk;lia) hc' hn (h2.l.itm hc) (by decide) (rn_un1 W (by have:k+(s.clen+2)<=2000:=hk;lia) hc' hn (h2.r.l.itm hc) (by decide) q)
 |whl s ih=>
  intro p k hl h hk fl c' q
  have h2:At cd p ([ins "get" (.str "u")]++([ins "unless" (.int ((p+2+(s.code (p+2)).length+1:Nat):Int))]++(s.code (p+2)++[ins "jump" (.int p)]))):=h
  have e:p+2+(s.code (p+2)).length+1=p+(s.clen+3):=by rw[s.code_len];lia
  exact rn_get W (by have:k+(s.clen+3)<=2000:=hk;lia) hc' hn (h2.l.itm hc) (by decide) (rn_un0 W (by have:k+(s.clen+3)<=2000:=hk;lia) hc' hn (h2.r.l.itm hc) (by decide) (by rw[e];exact q))
 |els m s ih=>
  intro p k hl h hk
  have h2:At cd p ([ins "get" (.str "u")]++([ins "unless" (.int ((p+3:Nat):Int))]++([ins "jump" (.int ((p+3+(s.code (p+3)).length:Nat):Int))]++s.code (p+3)))):=h
  exact(ih (p+1+1+1) (k+1+1) hl h2.r.r.r (by have:k+(s.clen+3)<=2000:=hk;lia)).pre (Nat.add_right_comm _ 3 _) (Nat.add_right_comm _ 2 _) λfl c' q=>
   rn_get W (by have:k+(s.clen+3)<=2000:=hk;lia) hc' hn (h2.l.itm hc) (by decide) (rn_un0 W (by have:k+(s.clen+3)<=2000:=hk;lia) hc' hn (h2.r.l.itm hc) (by decide) q)
end
noncomputable abbrev rz0:List AO:=[.inst 924 1,.ns ["most"] [.int 2000],.list [],.ns [] []]
noncomputable abbrev fr0:List AO:=[.list [],.ns [] [],.ns fks [.ref 0,.ref 1,.none,.dat (.int 5),.ref 4,.int 0,.int 2000,.bool false],.inst 848 2,.dlist []]
section
variable {w:World}{B:Heap}
theorem c_frame (W:Wd w B):CN w B 3 848 [.ref 0,.ref 1,.none,.dat (.int 5),.int 2000] [.list [],.ns [] []] (.ret (.ref 3)) fr0:=λn hn=>by
 obtain⟨m,rfl⟩:∃m,n=m+2:=⟨n-2,by lia⟩
 have h:=make_ok (obj:=[.list [],.ns [] []]) (obj':=[.list [],.ns [] [],.ns fks [.ref 0,.ref 1,.none,.dat (.int 5),.ref 4,.int 0,.int 2000,.bool false],.inst 848 2,.list []]) (C:=848) (args:=[.ref 0,.ref 1,.none,.dat (.int 5),.int 2000]) W.know.k (by kernel_rfl) (fI:=810) (by kernel_rfl) (by kernel_rfl)
  ((CN.of (F_Frame_init6 W) rfl (k:=0) (fl:=.next) λn hn e L=>way (okX W) (or:=[]) trivial) m (by lia))
 exact CallOK.dl (i:=4) h rfl rfl
theorem c_machine (W:Wd w B):CN w B 3 924 [] [] (.ret (.ref 1)) [.ns ["most"] [.int 2000],.inst 924 0]:=λn hn=>by
 obtain⟨m,rfl⟩:∃m,n=m+2:=⟨n-2,by lia⟩
 exact make_ok (obj:=[]) (C:=924) (args:=[]) W.know.k (by kernel_rfl) (fI:=867) (by kernel_rfl) (by kernel_rfl)
  ((CN.of (F_Machine_init1 W) rfl (k:=0) (fl:=.next) λn hn e L=>way (okX W) (or:=[]) trivial) m (by lia))
theorem pick4' {e:En}(he:e.ρ.length=4):∀i<e.ρ.length,([0,1,2,3,4,5,6]:List Nat)[i]? =some i:=by
 rw[he]
 intro i hi
 match i,hi with
 |0,_=>rfl
 |1,_=>rfl
 |2,_=>rfl
 |3,_=>rfl
noncomputable abbrev rnL0 (cd:List D):Loc:=[("self",.ref 0),("code",.dat (.lst cd)),("values",.ref 2),("names",.ref 3),("control",.none),("own",.dat (.int 5))]
noncomputable def RunOD (w:World)(B:Heap)(kk:Nat)(f:Addr)(a1 own:AV)(m:Str):Option D->Prop
 |some own'=>CN w B kk f [.ref 0,a1,.ref 2,.ref 3,.none,own] rz0 (.ret (.dat own')) rz0
 |none=>CN w B kk f [.ref 0,a1,.ref 2,.ref 3,.none,own] rz0 (merr m) rz0
abbrev RunOK (w:World)(B:Heap)(kk:Nat)(f:Addr)(a1:AV)(m:Str)(r:Option D):Prop:=RunOD w B kk f a1 (.int 5) m r
theorem RunOD.ok {kk:Nat}{f:Addr}{a1:AV}{m:Str}{r:Option D}(h:RunOD w B kk f a1 (.dat (.int 5)) m r):RunOK w B kk f a1 m r:=by
 have k:∀ρ G vs,RepVs ρ G [.ref 0,a1,.ref 2,.ref 3,.none,.int 5] vs->RepVs ρ G [.ref 0,a1,.ref 2,.ref 3,.none,.dat (.int 5)] vs:=λρ G vs r=>by
  obtain⟨v1,_,rfl,h1,q1⟩:=r.inv'
  obtain⟨v2,_,rfl,h2,q2⟩:=q1.inv'
  obtain⟨v3,_,rfl,h3,q3⟩:=q2.inv'
  obtain⟨v4,_,rfl,h4,q4⟩:=q3.inv'
  obtain⟨v5,_,rfl,h5,q5⟩:=q4.inv'
  obtain⟨v6,_,rfl,h6,q6⟩:=q5.inv'
  exact⟨h1,h2,h3,h4,h5,dOf_rep rfl h6,q6⟩
 cases r with
 |some _=>exact CN.arg h k
 |none=>exact CN.arg h k
theorem run_pre (W:Wd w B){e:En}{L n:Nat}{cd:List D}(hn:9<=n):TF (rnX w B e L n) (exec (stm (dm 80 1).body 0) (rnX w B e L n).f.env) ⟨rnL0 cd,rz0⟩ .next ⟨rnL cd 0,ro (.int 5) [] 0++[.tup [.ref 5,.int 0]]⟩:=
 good (t:=.s (stm (dm 80 1).body 0)) (v:=.f .next) (okX W) (or:=[.call [2,3] (.ret (.ref 3)) fr0]) (aI (c_frame W n (by lia)) trivial)
theorem run_post (W:Wd w B){e:En}{L n:Nat}{cd:List D}{a k:Int}{own:D}:TF (rnX w B e L n) (execs [stm (dm 80 1).body 2] (rnX w B e L n).f.env) ⟨rnL cd a,ro own [] k⟩ (.ret (.dat own)) ⟨rnL cd a,ro own [] k⟩:=
 stp (okX W) (or:=[]) trivial
theorem c_run (W:Wd w B)(s:Sx)(hl:s.lin=true)(hz:s.clen<=2000):RunOK w B 10 874 (.dat (.lst (s.code 0))) s.err (s.res (.int 5)):=by
 have hcl:=s.code_len 0
 have key:∀ (n:Nat) (e:En) (L:Nat),9<=n->e.ρ.length=4->RunS w B e L n (s.code 0) (.int 5) s.clen 0 0 s.stps s.err (s.res (.int 5)):=λn e L hn he=>
  run_s W he (by lia) hn (.int 5) s 0 0 hl ⟨[],[],(List.append_nil _).symm,rfl⟩ (by lia)
 have eb:(dm 80 1).body=[stm (dm 80 1).body 0,stm (dm 80 1).body 1,stm (dm 80 1).body 2]:=by kernel_rfl
 have ew:isWhile (stm (dm 80 1).body 1):=by kernel_rfl
 have wh:∀ {n:Nat} {e:En} {L:Nat} {fl:Fl} {c':St},e.ρ.length=4->RnT w B e L n (s.code 0) 0 (.int 5) [] 0 fl c'->TF' (rnX w B e L n) (exec (stm (dm 80 1).body 1) (rnX w B e L n).f.env) ⟨rnL (s.code 0) 0,ro (.int 5) [] 0++[.tup [.ref 5,.int 0]]⟩ fl c':=λhe h=>by
  have:=tfp_while (pos:=whQ (stm (dm 80 1).body 1)) (TW'.re (loc:=rnL (s.code 0) 0) (obj:=ro (.int 5) [] 0++[.tup [.ref 5,.int 0]]) [0,1,2,3,4,5,6] rfl (by kernel_rfl) (by kernel_rfl) (by kernel_rfl) (pick4' he) h)
  rw[<-ew]at this
  exact this
 refine RunOD.ok ?_
 cases hv:s.res (.int 5)with
 |some own'=>
  intro n hn
  suffices h:CN w B 10 874 [.ref 0,.dat (.lst (s.code 0)),.ref 2,.ref 3,.none,.dat (.int 5)] rz0 (.ret (.dat own')) (ro own' [] ((0+s.stps:Nat):Int)) by
   exact CallOK.trim (obj':=rz0) (extra:=[.ns fks [.ref 2,.ref 3,.none,.dat own',.ref 6,.int ((0+s.stps:Nat):Int),.int 2000,.bool false],.inst 848 4,.dlist []]) (h n hn) rfl rfl rfl
  refine CN.of' (F_Machine_run6 W) rfl (fl:=.ret (.dat own')) λn hn e L he=>⟨rnL (s.code 0) ((0+s.clen:Nat):Int),?_⟩
  have:=key n e L hn he
  rw[hv]at this
  show TF' (rnX w B e L n) (execs (dm 80 1).body (rnX w B e L n).f.env) ⟨rnL0 (s.code 0),rz0⟩ (.ret (.dat own')) ⟨rnL (s.code 0) ((0+s.clen:Nat):Int),ro own' [] ((0+s.stps:Nat):Int)⟩
  rw[eb]
  exact tfp_cons (run_pre W hn).weak (tfp_cons (wh he (this _ _ (twp_false (rn_false W (by lia) (by lia))))) (run_post W).weak)
 |none=>
  refine CN.of' (F_Machine_run6 W) rfl (fl:=merF s.err) λn hn e L he=>⟨[],?_⟩
  have:=key n e L hn he
  rw[hv]at this
  show TF' (rnX w B e L n) (execs (dm 80 1).body (rnX w B e L n).f.env) ⟨rnL0 (s.code 0),rz0⟩ (merF s.err) ⟨[],rz0⟩
  rw[eb]
  exact tfp_cons (run_pre W hn).weak (tfp_cons_x (wh he (this ⟨[],rz0⟩)))
end
end Mine
namespace Mine
open PySem PySem.W PyProof.Rows PySem.Calls PySem.SeqAt
theorem bindL_skip (kd:Str->Option NameKind){x:Str}:∀ {names:List Str} {vs:List Value} {m:Str->Option Value},x∉names->bindL kd (names.zip vs) m x=m x
 | [],_,_,_=>rfl
 |_::_,[],_,_=>rfl
 |n::ns,v::vs,m,h=>by
  have h1:x≠n:=λz=>h (z▸ .head _)
  rw[List.zip_cons_cons]
  unfold bindL
  rw[bindL_skip kd (λz=>h (.tail _ z))]
  split
  ·exact if_neg h1
  ·rfl
theorem bindC_skip (kd:Str->Option NameKind){x:Str}:∀ {names:List Str} {vs:List Value} {m:Str->Option Value},x∉names->bindC kd (names.zip vs) m x=m x
 | [],_,_,_=>rfl
 |_::_,[],_,_=>rfl
 |n::ns,v::vs,m,h=>by
  have h1:x≠n:=λz=>h (z▸ .head _)
  rw[List.zip_cons_cons]
  unfold bindC
  rw[bindC_skip kd (λz=>h (.tail _ z))]
  split
  ·rfl
  ·exact if_neg h1
theorem zip_mem {as:List AV}{x:Str}{av:AV}:∀ {names:List Str} {as:List AV},lk (names.zip as) x=some av->x∈names
 | [],_,h=>by cases h
 |_::_,[],h=>by cases h
 |n::ns,a::as,h=>by
  rw[List.zip_cons_cons]at h
  unfold lk at h
  by_cases e:n=x
  ·exact e▸ .head _
  ·rw[decide_eq_false e]at h
   exact .tail _ (zip_mem (as:=as) h)
theorem bindL_lk {ρ:List Addr}{G:Gh}(kd:Str->Option NameKind):∀ {names:List Str} {as:List AV} {vs:List Value} {m:Str->Option Value},names.Nodup->RepVs ρ G as vs->∀x av,lk (names.zip as) x=some av->kd x=some .local->∃v,bindL kd (names.zip vs) m x=some v/\RepV ρ G av v
 | [],_,_,_,_,_,x,av,h,_=>by cases h
 |n::ns,[],[],_,_,_,x,av,h,_=>by cases h
 |n::ns,a::as,v::vs,m,hd,⟨r1,r2⟩,x,av,h,hl=>by
  obtain⟨d1,d2⟩:=List.nodup_cons.mp hd
  rw[List.zip_cons_cons]at h ⊢
  unfold lk at h
  unfold bindL
  by_cases e:n=x
  ·rw[decide_eq_true e]at h
   cases h
   subst e
   rw[bindL_skip kd d1,if_pos hl]
   exact⟨v,by simp,r1⟩
  ·rw[decide_eq_false e]at h
   exact bindL_lk kd d2 r2 x av h hl
theorem bindC_lk {ρ:List Addr}{G:Gh}(kd:Str->Option NameKind):∀ {names:List Str} {as:List AV} {vs:List Value} {m:Str->Option Value},names.Nodup->RepVs ρ G as vs->∀x av,lk (names.zip as) x=some av->kd x≠some .local->∃v,bindC kd (names.zip vs) m x=some v/\RepV ρ G av v
 | [],_,_,_,_,_,x,av,h,_=>by cases h
 |n::ns,[],[],_,_,_,x,av,h,_=>by cases h
 |n::ns,a::as,v::vs,m,hd,⟨r1,r2⟩,x,av,h,hl=>by
  obtain⟨d1,d2⟩:=List.nodup_cons.mp hd
  rw[List.zip_cons_cons]at h ⊢
  unfold lk at h
  unfold bindC
  by_cases e:n=x
  ·rw[decide_eq_true e]at h
   cases h
   subst e
   rw[bindC_skip kd d1,if_neg hl]
   exact⟨v,by simp,r1⟩
  ·rw[decide_eq_false e]at h
   exact bindC_lk kd d2 r2 x av h hl
theorem cellsFrom_kd {x:Str}{c:Addr}:∀ {names:List (Str×NameKind)} {n:Nat} {acc:List (Str×Addr)},(x,c)∈cellsFrom n names acc->(x,c)∈acc\/(x,NameKind.cell)∈names
 | [],_,_,h=>.inl h
 | (y,k)::r,n,acc,h=>by
  unfold cellsFrom at h
  split at h
  ·rename_i hk
   rcases cellsFrom_kd h with h|h
   ·rcases List.mem_cons.mp h with h|h
    ·cases h
     have:k=.cell:=by cases k<;>first|rfl|exact absurd hk (by decide)
     subst this
     exact .inr (.head _)
    ·exact .inl h
   ·exact .inr (.tail _ h)
  ·rcases cellsFrom_kd h with h|h
   ·exact .inl h
   ·exact .inr (.tail _ h)
theorem call_defP {prog:Program}{w:World}{B:Heap}{K:Frag}{T:Tab}{n k:Nat}{f:Addr}{name qual:Str}{params:Arguments}{body:List Stmt}{scope:Scope}{dV kV doc pm cdv ct oc:Value}{an od:Option Addr}{osl:Array (Option Value)}
  {names:List Str} {das:List AV} {dvs:List Value} {args:List AV} {obj obj':List AO} {fl:Fl} {P:List Addr->Prop}
  (X:K.In B) (hlim:B.NoLimit)
  (ho:K.lookup f=some ⟨oc,od,.func (fnOf name qual params body scope dV kV doc pm an cdv ct),osl⟩) (hcd:codeIn K cdv qual=true)
  (hb:Binds K (fnOf name qual params body scope dV kV doc pm an cdv ct) k names dvs) (hs:StatVs das dvs) (hk:args.length=k) (hnd:names.Nodup)
  (hloc:∀y∈names,scope.names.lookup y=some .local\/(scope.names.lookup y=some .cell/\∀L,((cellsFrom L scope.names []).lookup y).isSome=true)) (hcell:∀x∈scope.names,x.2=.cell->scope.names.lookup x.1=some .cell)
  (h:∀e L,P e.ρ->e.ρ.length=obj.length->∃loc',TF' ⟨prog,w,B,K,T,⟨qual,scope,L,f,cdv,cellsFrom (L+1) scope.names [],none⟩,e,n⟩ (execs body (Fm.env ⟨qual,scope,L,f,cdv,cellsFrom (L+1) scope.names [],none⟩)) ⟨names.zip (args++das),obj⟩ fl ⟨loc',obj'⟩)
  (hco:scope.isCoroutine=false:=by rfl) (hgen:scope.isGenerator=false:=by rfl) (hkd:scope.kind=.function:=by rfl):
  ∀ (A:Around) (ρ:List Addr) (G:Gh) (s:Shared) (vs:List Value) (fr:List Env),P ρ->Rm A (n+1) fr->FrOK s.heap ρ G fr->HOk B ρ G obj s->RepVs ρ G args vs->
   codeAny (model prog w) A (.call (.ref f) ⟨vs,[]⟩) (QC B ⟨s.heap,ρ,G,fr,s.os⟩ ρ G (outOf fl) obj') s:=by
 intro A ρ G s vs fr hP rm fo H r
 have pre:=H.pre (c:=⟨[],obj⟩)
 have XS:K.In s.heap:=X.keeps pre
 have hL:s.heap.get? s.heap.objs.size=none:=Heap.get?_none_of_le (Nat.le_refl _)
 have nmem:∀b,s.heap.objs.size<=b->b∉ρ/\G b=none/\s.heap.get? b=none:=λb hb=>by
  have hn:s.heap.get? b=none:=Heap.get?_none_of_le hb
  refine⟨λz=>?_,?_,hn⟩
  ·obtain⟨o,q⟩:=H.there _ z;rw[hn]at q;cases q
  ·cases q:G b with
   |none=>rfl
   |some o=>rw[H.frz _ o q]at hn;cases hn
 refine codeAny_call_function (by have:=rm.depth;lia) (XS _ _ ho) rfl hco hgen rfl (codeRec_of XS hcd) (hb s vs XS (by rw[r.len,hk]) _ _ _ _ ?_)
 refine wpAny_newFunctionEnv_cells hkd (λy hy=>?_) λenv he s₁ x=>?_
 ·rcases hloc _ (List.of_mem_zip (a:=y.1) (b:=y.2) hy).1 with h|h
  ·exact .inl h
  ·exact .inr ⟨h.1,h.2 _⟩
 subst he
 refine⟨(hlim.keeps pre).keeps x.toInCall.keep,codeAny_func ?_⟩
 obtain⟨loc',hT⟩:=h ⟨s.heap,ρ,G,fr,s.os⟩ s.heap.objs.size hP H.len
 have hkeep:=x.toInCall.keep
 have I:In B ⟨qual,scope,s.heap.objs.size,f,cdv,cellsFrom (s.heap.objs.size+1) scope.names [],none⟩ ⟨s.heap,ρ,G,fr,s.os⟩ ⟨names.zip (args++das),obj⟩ ρ G s₁:=by
  obtain⟨h₁,tk,rfl⟩:=x.toInCall.same
  refine⟨⟨H.base,λb o q=>hkeep _ _ (H.frz b o q),H.len,H.nd,λa ha=>let⟨o,q⟩:=H.there a ha;⟨o,hkeep _ _ q⟩,λi ao q nd=>?_,H.gens⟩,⟨λb o q nr=>⟨λ_=>hkeep _ _ q,λ_=>⟨o.slots,hkeep _ _ q⟩⟩,PreA.refl _,λa ha=>.inl ha,λa o ha=>.inl ⟨o,ha⟩,rfl,Sub.refl _⟩,⟨⟨_,x.toInCall.ns,λy av q hc=>bindL_lk _ hnd (RepVs.app r (hs ρ G)) y av q ?_⟩,(nmem _ (Nat.le_refl _)).1,(nmem _ (Nat.le_refl _)).2.1,hL,λy c q=>?_⟩⟩
  ·obtain⟨a,o,h1,h2,h3,h4⟩:=H.live i ao q nd
   exact⟨a,o,h1,hkeep _ _ h2,h3,h4⟩
  ·rcases hloc y (zip_mem (as:=[]) q)with z|z
   ·exact z
   ·exact absurd z.1 hc
  ·have hm:(y,c)∈cellsFrom (s.heap.objs.size+1) scope.names []:=mem_of_lookup q
   have hLc:s.heap.objs.size<c:=x.above y c hm
   obtain⟨n1,n2,n3⟩:=nmem c (Nat.le_of_lt hLc)
   have hkc:scope.names.lookup y=some .cell:=by
    rcases cellsFrom_kd hm with z|z
    ·cases z
    ·exact hcell _ z rfl
   obtain⟨o,o1,o2⟩:=x.cell y c q
   refine⟨o,_,hkc,n1,n2,n3,Nat.ne_of_gt hLc,o1,o2,λav w=>?_,λz hz=>name_of_addr x.apart (mem_of_lookup hz) hm⟩
   exact bindC_lk _ hnd (RepVs.app r (hs ρ G)) y av w (by intro z;have z:scope.names.lookup y=some .local:=z;rw[hkc]at z;cases z)
 have rm':Rm (A.deeper (Fm.env ⟨qual,scope,s.heap.objs.size,f,cdv,cellsFrom (s.heap.objs.size+1) scope.names [],none⟩)) n (Fm.env ⟨qual,scope,s.heap.objs.size,f,cdv,cellsFrom (s.heap.objs.size+1) scope.names [],none⟩::fr):=
  ⟨by have:=rm.depth;show A.depth+1+n<_;lia,by have:=rm.units;show A.units+3+_+_<_;lia,rm.handled,rm.guards,Around.frames_deeper rm.frames⟩
 refine wpAny_mono (hT _ ρ G _ rm' fo I) (λv s' z=>?_) λx s' z=>?_
 ·cases fl with
  |next=>
   cases v<;>first|exact z.elim|skip
   obtain⟨ρ',G',q,i⟩:=z
   exact⟨ρ',G',i.r.pre,q,i.h,i.r,rfl⟩
  |ret a=>
   cases v<;>first|exact z.elim|skip
   obtain⟨ρ',G',q,i,r⟩:=z
   exact⟨ρ',G',i.r.pre,q,i.h,i.r,r⟩
  |ex=>cases v<;>exact z.elim
 ·cases fl with
  |ex C ks l=>
   refine leave_fly (e:=⟨s.heap,ρ,G,fr,s.os⟩) rfl ?_ (Around.frames_deeper rm.frames) fo z λs'' z'=>z'
   show scope.kind≠ .module
   rw[hkd];decide
  |_=>exact z.elim
theorem call_defC {prog:Program}{w:World}{B:Heap}{K:Frag}{T:Tab}{n k:Nat}{f:Addr}{name qual:Str}{params:Arguments}{body:List Stmt}{scope:Scope}{dV kV doc pm cdv ct oc:Value}{an od:Option Addr}{osl:Array (Option Value)}
  {names:List Str} {das:List AV} {dvs:List Value} {args:List AV} {obj obj':List AO} {fl:Fl}
  (X:K.In B) (hlim:B.NoLimit)
  (ho:K.lookup f=some ⟨oc,od,.func (fnOf name qual params body scope dV kV doc pm an cdv ct),osl⟩) (hcd:codeIn K cdv qual=true)
  (hb:Binds K (fnOf name qual params body scope dV kV doc pm an cdv ct) k names dvs) (hs:StatVs das dvs) (hk:args.length=k) (hnd:names.Nodup)
  (hloc:∀y∈names,scope.names.lookup y=some .local\/(scope.names.lookup y=some .cell/\∀L,((cellsFrom L scope.names []).lookup y).isSome=true)) (hcell:∀x∈scope.names,x.2=.cell->scope.names.lookup x.1=some .cell)
  (h:∀e L,e.ρ.length=obj.length->∃loc',TF' ⟨prog,w,B,K,T,⟨qual,scope,L,f,cdv,cellsFrom (L+1) scope.names [],none⟩,e,n⟩ (execs body (Fm.env ⟨qual,scope,L,f,cdv,cellsFrom (L+1) scope.names [],none⟩)) ⟨names.zip (args++das),obj⟩ fl ⟨loc',obj'⟩)
  (hco:scope.isCoroutine=false:=by rfl) (hgen:scope.isGenerator=false:=by rfl) (hkd:scope.kind=.function:=by rfl):
  CallOK prog w B (n+1) (.ref f) args obj (outOf fl) obj':=λA ρ G s vs fr rm fo H r=>
 call_defP (P:=λ_=>True) X hlim ho hcd hb hs hk hnd hloc hcell (λe L _ hl=>h e L hl) hco hgen hkd A ρ G s vs fr trivial rm fo H r
noncomputable def hid (h:Heap)(l:List Addr):Heap:= {h with objs:=h.objs.mapIdx λi o=>if i∈l then{o with data:=.freed}else o}
theorem hid_in {h:Heap}{l:List Addr}{b:Addr}(hb:b∈l):(hid h l).get? b=none:=by
 unfold hid Heap.get?
 dsimp only
 rw[Array.getElem?_mapIdx]
 cases h.objs[b]? with
 |none=>rfl
 |some o=>obtain⟨a1,a2,a3,a4⟩:=o;simp[hb]
theorem hid_out {h:Heap}{l:List Addr}{b:Addr}(hb:b∉l):(hid h l).get? b=h.get? b:=by
 unfold hid Heap.get?
 dsimp only
 rw[Array.getElem?_mapIdx]
 cases h.objs[b]? with
 |none=>rfl
 |some o=>obtain⟨a1,a2,a3,a4⟩:=o;simp[hb]
theorem hid_some {h:Heap}{l:List Addr}{b:Addr}{o:Obj}(q:(hid h l).get? b=some o):b∉l/\h.get? b=some o:=by
 have:b∉l:=λz=>by rw[hid_in z]at q;cases q
 exact⟨this,by rw[hid_out this]at q;exact q⟩
noncomputable def hides (f:Fm):List Addr:=f.L::f.cl.map (·.2)
noncomputable def enAt (f:Fm)(e:En)(ρ:List Addr)(G:Gh)(s:Shared):En:=⟨hid s.heap (hides f),ρ,G,e.outer,s.os⟩
section
variable {B:Heap}{f:Fm}{e:En}{c c':St}{ρ ρ':List Addr}{G G':Gh}{s s':Shared}
theorem look_mem {x:Str}{cc:Addr}:∀ {l:List (Str×Addr)},cc∈l.map (·.2)->(l.map (·.1)).Nodup->∃x,l.lookup x=some cc
 | [],h,_=>by cases h
 | (y,b)::r,h,hd=>by
  rw[List.map_cons,List.nodup_cons]at hd
  rcases List.mem_cons.mp h with h|h
  ·subst h
   exact⟨y,by simp⟩
  ·obtain⟨x,hx⟩:=look_mem (x:=x) h hd.2
   refine⟨x,?_⟩
   rw[List.lookup_cons]
   have:x≠y:=λz=>hd.1 (by subst z;exact List.mem_map.mpr ⟨(x,cc),mem_of_lookup hx,rfl⟩)
   rw[show(x==y)=false from by simpa using this]
   exact hx
theorem In.hid (i:In B f e c ρ G s)(hd:(f.cl.map (·.1)).Nodup){b:Addr}(hb:b∈hides f):b∉ρ/\G b=none/\e.H.get? b=none:=by
 unfold hides at hb
 rcases List.mem_cons.mp hb with h|h
 ·subst h;exact⟨i.f.own,i.f.gown,i.f.fresh⟩
 ·obtain⟨x,hx⟩:=look_mem (x:= "") h hd
  obtain⟨o,u,j⟩:=i.f.cells x b hx
  exact⟨j.nρ,j.nG,j.nH⟩
theorem In.base (i:In B f e c ρ G s)(hd:(f.cl.map (·.1)).Nodup):In B f (enAt f e ρ G s) c ρ G s:=by
 refine⟨i.h,⟨λb o q _=>?_,PreA.refl _,λa ha=>.inl ha,λa o ha=>.inl ⟨o,ha⟩,rfl,Sub.refl _⟩,⟨i.f.ns,i.f.own,i.f.gown,hid_in (.head _),λx cc q=>?_⟩⟩
 ·obtain⟨h1,h2⟩:=hid_some q
  exact⟨λ_=>h2,λ_=>⟨o.slots,h2⟩⟩
 ·obtain⟨o,u,j⟩:=i.f.cells x cc q
  exact⟨o,u,j.kd,j.nρ,j.nG,hid_in (.tail _ (List.mem_map.mpr ⟨(x,cc),mem_of_lookup q,rfl⟩)),j.nL,j.here,j.dat,j.val,j.apart⟩
theorem In.old (i:In B f e c ρ G s)(hd:(f.cl.map (·.1)).Nodup){b:Addr}{o:Obj}(q:e.H.get? b=some o)(n:b∉e.ρ):b∉ρ/\b∉hides f:=by
 refine⟨λz=>?_,λz=>?_⟩
 ·rcases i.r.newA b z with h|h
  ·exact n h
  ·rw[h]at q;cases q
 ·rw[(i.hid hd z).2.2]at q;cases q
theorem FrOK.base (fo:FrOK e.H e.ρ e.G e.outer)(i:In B f e c ρ G s)(hd:(f.cl.map (·.1)).Nodup):FrOK (enAt f e ρ G s).H ρ G e.outer:=λenv he=>by
 obtain⟨k,L,o,h1,h2,h3,h4,h5⟩:=fo env he
 obtain⟨n1,n2⟩:=i.old hd h2 h4
 have hout:L∈e.outL:=List.mem_filterMap.mpr ⟨env,he,h1⟩
 obtain⟨sl,h6⟩:=(i.r.keep L o h2 h4).2 hout
 refine⟨k,L,_,h1,(hid_out n2).trans h6,h3,n1,?_⟩
 cases q:G L with
 |none=>rfl
 |some o'=>
  rcases i.r.newG L o' q with⟨o₂,h⟩|h|h
  ·rw[h5]at h;cases h
  ·exact absurd h h4
  ·rw[h]at h2;cases h2
theorem keep_base (i:In B f e c ρ G s)(hd:(f.cl.map (·.1)).Nodup){h:Heap}(k:KeepX (enAt f e ρ G s) h):KeepX e h:=λb o q n=>by
 obtain⟨n1,n2⟩:=i.old hd q n
 obtain⟨a1,a2⟩:=i.r.keep b o q n
 refine⟨λz=>?_,λz=>?_⟩
 ·have:=k b o ((hid_out n2).trans (a1 z)) n1
  exact this.1 z
 ·obtain⟨sl,h1⟩:=a2 z
  obtain⟨sl',h2⟩:=(k b _ ((hid_out n2).trans h1) n1).2 z
  exact⟨sl',h2⟩
theorem new_base (i:In B f e c ρ G s)(hd:(f.cl.map (·.1)).Nodup){b:Addr}(h:(hid s.heap (hides f)).get? b=none):b∈e.ρ\/e.H.get? b=none:=by
 by_cases hb:b∈e.ρ
 ·exact .inl hb
 ·cases q:e.H.get? b with
  |none=>exact .inr rfl
  |some o=>
   exfalso
   obtain⟨n1,n2⟩:=i.old hd q hb
   obtain⟨a1,a2⟩:=i.r.keep b o q hb
   rw[hid_out n2]at h
   by_cases z:b∈e.outL
   ·obtain⟨sl,w⟩:=a2 z;rw[w]at h;cases h
   ·rw[a1 z]at h;cases h
theorem newG_base (i:In B f e c ρ G s)(hd:(f.cl.map (·.1)).Nodup){G':Gh}(k:∀a o,G' a=some o->(∃o',G a=some o')\/a∈ρ\/(hid s.heap (hides f)).get? a=none):∀a o,G' a=some o->(∃o',e.G a=some o')\/a∈e.ρ\/e.H.get? a=none:=λa o q=>by
 rcases k a o q with⟨o',h⟩|h|h
 ·exact i.r.newG a o' h
 ·exact .inr (i.r.newA a h)
 ·exact .inr (new_base i hd h)
theorem In.unbase (i:In B f e c ρ G s)(hd:(f.cl.map (·.1)).Nodup)(j:In B f (enAt f e ρ G s) c' ρ' G' s'):In B f e c' ρ' G' s':=by
 refine⟨j.h,⟨keep_base i hd j.r.keep,i.r.pre.trans j.r.pre,λa ha=>?_,newG_base i hd j.r.newG,j.r.os.trans i.r.os,i.r.gsub.trans j.r.gsub⟩,⟨j.f.ns,j.f.own,j.f.gown,i.f.fresh,λx cc q=>?_⟩⟩
 ·rcases j.r.newA a ha with h|h
  ·exact i.r.newA a h
  ·exact new_base i hd h
 ·obtain⟨o,u,m⟩:=j.f.cells x cc q
  obtain⟨o',u',m'⟩:=i.f.cells x cc q
  exact⟨o,u,m.kd,m.nρ,m.nG,m'.nH,m.nL,m.here,m.dat,m.val,m.apart⟩
end
section
variable {M:Model}{A:Around}{E:Value->Shared->Prop}{s:Shared}{env:Env}
def CompP (M:Model)(A:Around)(E:Value->Shared->Prop)(Q:Value->Shared->Prop)(acc:Value)(cenv:Env)(r:Result)(s':Shared):Prop:=match r with
 | .ok _=>∃m,s'.heap.Ns cenv.locals m/\∀h',Heap.SameBut cenv.locals s'.heap h'->Q acc {s' with heap:=h'}
 | .error x=>∃m,s'.heap.Ns cenv.locals m/\∀h',Heap.SameBut cenv.locals s'.heap h'->wpAny M A (PySem.passOn "comprehension.variables-let-go" x cenv:Sem Value) (λ_ _=>False) E {s' with heap:=h'}
theorem comp_own {e:Expr}{scope:Scope}{pos:Pos}{newAcc first:Sem Value}{g:Comprehension}{gs:List Comprehension}{cl:List (Str×Addr)}{Q:Value->Shared->Prop}
  (hcl:clausesOf e=g::gs) (hs:∀x,foldedSetIterable g.iter env x=pure x) (hclos:closureFor scope env=pure cl)
  (hkind:scope.kind=.function) (hnames:∀x∈scope.names,x.2=.local->scope.names.lookup x.1=some .local)
  (h:wpAny M A first (λx s₁=>wpAny M A (pyIter x) (λit s₂=>wpAny M A newAcc (λacc s₃=>
   wpAny M A (newFunctionEnv scope env.globals cl [] env.qual none .none (some env)) (λcenv s₄=>
    codeAny M A (.compStart e 0 it acc {cenv with scope:=relabel scope env}) (CompP M A E Q acc {cenv with scope:=relabel scope env}) s₄) E s₃) E s₂) E s₁) E s):
  wpAny M A (comprehension e scope env pos newAcc false first none) Q E s:=by
 unfold comprehension
 rw[hclos,hcl]
 refine wpAny_bind (wpAny_mono h (λx s₁ h₁=>wpAny_bind (wpAny_standAt (wpAny_bind (wpAny_of_eq (hs x) (wpAny_bind (wpAny_holding (wpAny_mono h₁ (λit s₂ h₂=>
  wpAny_standIf (wpAny_bind (wpAny_mono h₂ (λacc s₃ h₃=>wpAny_bind (wpAny_pure (wpAny_bind (wpAny_mono h₃ (λcenv s₄ h₄=>?_) λ_ _ h'=>h')))) λ_ _ h'=>h')))
   λ_ _ h'=>h'))))))) λ_ _ h'=>h')
 dsimp only
 have hv:∀x∈(scope.names.filter λx=>(x.2==.local||x.2==.cell)&&x.1 !=(".0" :Str)).reverse,x.2=.local->
   Env.kindOf {cenv with scope:=relabel scope env} x.1=some .local:=λx hx hl=>lookup_relabel_local (hnames x (List.mem_filter.mp (List.mem_reverse.mp hx)).1 hl)
 refine wpAny_holding (wpAny_bind (wpAny_attempt (wpAny_holding (wpAny_run (codeAny_mono h₄ λr s' hr=>?_)))))
 cases r with
 |ok f=>
  obtain⟨m,hn,hr⟩:=hr
  exact wpAny_bind (wpAny_holding (wpAny_comp_letGo (cenv:= {cenv with scope:=relabel scope env}) hkind _ s' m hv hn λh' m' _ hs'=>wpAny_pure (hr h' hs')))
 |error x=>
  obtain⟨m,hn,hr⟩:=hr
  exact wpAny_bind (wpAny_holding (wpAny_comp_letGo (cenv:= {cenv with scope:=relabel scope env}) hkind _ s' m hv hn λh' m' _ hs'=>wpAny_mono (hr h' hs') (λ_ _ f=>f.elim) λ_ _ y=>y))
variable {B:Heap}{f:Fm}{e:En}{C:Addr}{ks:List Str}{l:List D}{G:Gh}{x:Value}
theorem pass_fly {what:String}{L a T:Addr}{fs ts:Array Value}(hf:env.frame=some L)(hLn:e.H.get? L=none)(hT:FlyT B L (rawInt L) e C ks l G x a T fs ts s)(hL:∃o,s.heap.get? L=some o/\∀vs,o.data≠ .fields vs)
  (k:∀s',Fly B (some L) e C ks l G x s'->E x s'):wpAny M A (PySem.passOn what x env:Sem Value) (λ_ _=>False) E s:=by
 obtain⟨⟨G',d,oT,es,n,vs,rfl,h2,h3,h4,t1,t2,t3,t4,t5,t6,t7,h6,h7,h8,h9,h10,h11,h12,h13,h14⟩,hkeep,hg,ho⟩:=hT
 unfold PySem.passOn
 refine wpAny_bind (wpAny_field h3 rfl t1 ?_)
 rw[if_neg (show¬ ((Value.ref T==Value.none)=true) from by simp)]
 unfold setFlight
 refine wpAny_bind (wpAny_bind (wpAny_field h3 rfl t1 ?_))
 rw[if_pos (show(Value.ref T !=Value.none)=true from by simp),hf]
 refine wpAny_setField t2 t3 (Array.getElem?_eq_some_iff.mp t4).1 (wpAny_throw (k _ ?_))
 have other:∀b,b≠T->(s.heap.update T (Obj.mapFields (·.setIfInBounds 3 (rawInt L)))).get? b=s.heap.get? b:=λb hb=>Heap.get?_update_other _ _ (Ne.symm hb)
 have hd:=Obj.data_mapFields t3 (·.setIfInBounds 3 (rawInt L))
 have hT':=Heap.get?_update_self (Obj.mapFields (·.setIfInBounds 3 (rawInt L))) t2 (Obj.isFreed_of_fields hd)
 obtain⟨oL,hL1,hL2⟩:=hL
 have LT:L≠T:=λz=>by rw[<-z,hL1]at t2;cases t2;exact hL2 _ t3
 refine⟨⟨G',a,d,fs,es,n,vs,rfl,h2,(other a (Ne.symm t5)).trans h3,h4,.inr ⟨T,_,_,t1,hT',hd,.inr ⟨L,rfl,?_⟩,t5,t6,t7⟩,h6,h7,h8,h9,h10,h11,λb o q=>(other b λz=>?_).trans (h12 b o q),h13,λL' z=>(by cases z;exact h14)⟩,λb o q nr=>?_,λL' z=>(by cases z;exact⟨hLn,oL,(other L LT).trans hL1,hL2⟩),hg,ho⟩
 ·rw[Array.getElem?_setIfInBounds_self_of_lt (Array.getElem?_eq_some_iff.mp t4).1]
 ·rw[z,t6]at q;cases q
 ·have bT:b≠T:=λz=>t7.elim (λy=>nr (z▸y)) λy=>by rw[z,y]at q;cases q
  obtain⟨c1,c2⟩:=hkeep b o q nr
  exact⟨λz=>(other b bT).trans (c1 z),λz=>let⟨sl,w⟩:=c2 z;⟨sl,(other b bT).trans w⟩⟩
theorem FlyT.unbase {c:St}{ρ:List Addr}{G₁:Gh}{L a T:Addr}{fs ts:Array Value}{s₀:Shared}(i:In B f e c ρ G₁ s₀)(hd:(f.cl.map (·.1)).Nodup)(hT:FlyT B L (rawInt L) (enAt f e ρ G₁ s₀) C ks l G x a T fs ts s):FlyT B L (rawInt L) e C ks l G x a T fs ts s:=by
 obtain⟨⟨G',d,oT,es,n,vs,h⟩,hkeep,hg,ho⟩:=hT
 refine⟨⟨G',d,oT,es,n,vs,⟨h.isRef,h.sub,h.here,h.size,h.head,h.tHere,h.tData,h.tIn,h.ne,h.tLow,?_,h.dict,h.keys,h.rep,h.low,?_,h.base,h.frz,newG_base i hd h.newG,h.lowL⟩⟩,keep_base i hd hkeep,hg,ho.trans i.r.os⟩
 ·rcases h.tNew with h1|h1
  ·exact i.r.newA _ h1
  ·exact new_base i hd h1
 ·rcases h.new with h1|h1
  ·exact i.r.newA _ h1
  ·exact new_base i hd h1
theorem FlyT.unbut {c:St}{ρ:List Addr}{G₁:Gh}{L a T Z:Addr}{fs ts:Array Value}{s₀:Shared}{h':Heap}(i:In B f e c ρ G₁ s₀)(hd:(f.cl.map (·.1)).Nodup)(hT:FlyT B L (rawInt L) (enAt f e ρ G₁ s₀) C ks l G x a T fs ts s)
  (hZ:e.H.get? Z=none) (hZh:∃o,(hid s₀.heap (hides f)).get? Z=some o) (hZρ:Z∉ρ) (hZG:G₁ Z=none) (ho:∃o,s.heap.get? Z=some o/\∀vs,o.data≠ .fields vs) (hb:Heap.SameBut Z s.heap h'):
  FlyT B L (rawInt L) e C ks l G x a T fs ts {s with heap:=h'}:=by
 have nG:∀G':Gh,(∀b o,G' b=some o->(∃o',G₁ b=some o')\/b∈ρ\/(hid s₀.heap (hides f)).get? b=none)->G' Z=none:=λG' hn=>by
  cases q:G' Z with
  |none=>rfl
  |some o=>
   rcases hn Z o q with⟨o',y⟩|y|y
   ·rw[hZG]at y;cases y
   ·exact absurd y hZρ
   ·obtain⟨o',y'⟩:=hZh;rw[y']at y;cases y
 have hk:=hT.unbase i hd
 obtain⟨⟨G',d,oT,es,n,vs,h⟩,hkeep,hg,hos⟩:=hT
 have nG:=nG G' h.newG
 obtain⟨oZ,z1,z2⟩:=ho
 have na:a≠Z:=λz=>by have:=h.here;rw[z,z1]at this;cases this;exact z2 _ rfl
 have nT:T≠Z:=λz=>by have:=h.tHere;rw[z,z1]at this;cases this;exact z2 _ h.tData
 have other:∀b,b≠Z->h'.get? b=s.heap.get? b:=λb nb=>hb.2 b nb
 refine⟨⟨G',d,oT,es,n,vs,⟨h.isRef,h.sub,(other a na).trans h.here,h.size,h.head,(other T nT).trans h.tHere,h.tData,h.tIn,h.ne,h.tLow,?_,h.dict,h.keys,h.rep,h.low,?_,h.base,λb o q=>(other b λz=>?_).trans (h.frz b o q),newG_base i hd h.newG,h.lowL⟩⟩,λb o q nr=>?_,hg,hk.os⟩
 ·rcases h.tNew with h1|h1
  ·exact i.r.newA _ h1
  ·exact new_base i hd h1
 ·rcases h.new with h1|h1
  ·exact i.r.newA _ h1
  ·exact new_base i hd h1
 ·rw[z,nG]at q;cases q
 ·have nb:b≠Z:=λz=>by rw[z,hZ]at q;cases q
  obtain⟨c1,c2⟩:=hk.keep b o q nr
  exact⟨λz=>(other b nb).trans (c1 z),λz=>let⟨sl,w⟩:=c2 z;⟨sl,(other b nb).trans w⟩⟩
end
inductive Rk where
 |ok (l:List D)
 |ex (C:Addr) (ks:List Str) (l:List D)
noncomputable abbrev Rk.ctorIdx (x:Rk):Nat:= @Rk.casesOn (λ_=>Nat) x (λ_=>0) (λ_ _ _=>1)
noncomputable abbrev Cx.at (X:Cx)(e:En):Cx:=⟨X.prog,X.w,X.B,X.K,X.T,X.f,e,X.n⟩
def ElOK (X:Cx)(elt:Expr)(scope:Scope)(cl:List (Str×Addr))(x:Str)(a:AV)(c:St)(r:Rv)(c':St):Prop:=
 ∀ (e':En) (C:Addr) (m:Str->Option Value) (v:Value),e'.H.Ns C m->m x=some v->(∀ρ,RepV ρ e'.G a v)->C∉e'.ρ->C∉e'.outL->TV (X.at e') (eval elt (compEnvC scope cl C X.f.env)) c r c'
inductive Els (X:Cx)(elt:Expr)(scope:Scope)(cl:List (Str×Addr))(x:Str)(r:Rk)(c':St):List AV->List D->St->Prop where
 |nil {acc c} (hr:r=.ok acc) (hc:c'=c):Els X elt scope cl x r c' [] acc c
 |cons {a xs acc c av d c₁}:ElOK X elt scope cl x a ⟨c.loc,c.obj++[.dlist acc]⟩ (.ok av) ⟨c₁.loc,c₁.obj++[.dlist acc]⟩->dOf av=some d->c₁.obj.length=c.obj.length->acc.length<=sizeLine->
   Els X elt scope cl x r c' xs (acc++[d]) c₁->Els X elt scope cl x r c' (a::xs) acc c
 |ex {a xs acc c C ks l c₁}:ElOK X elt scope cl x a ⟨c.loc,c.obj++[.dlist acc]⟩ (.ex C ks l) c₁->r=.ex C ks l->Els X elt scope cl x r c' (a::xs) acc c
structure Off (f:Fm)(e:En)(ρ:List Addr)(G:Gh)(C:Addr):Prop where
 nρ:C∉ρ
 nG:G C=none
 nL:C≠f.L
 nH:e.H.get? C=none
 ncl:∀x cc,f.cl.lookup x=some cc->cc≠C
section
variable {X:Cx}
theorem off_hides {f:Fm}{e:En}{ρ:List Addr}{G:Gh}{C:Addr}(h:Off f e ρ G C)(hd:(f.cl.map (·.1)).Nodup):C∉hides f:=λz=>by
 unfold hides at z
 rcases List.mem_cons.mp z with z|z
 ·exact h.nL z
 ·obtain⟨x,hx⟩:=look_mem (x:= "") z hd
  exact h.ncl x C hx rfl
theorem Off.outL {f:Fm}{e:En}{ρ:List Addr}{G:Gh}{C:Addr}(h:Off f e ρ G C)(fo:FrOK e.H e.ρ e.G e.outer):C∉e.outL:=λz=>by
 obtain⟨env,he,hf⟩:=List.mem_filterMap.mp z
 obtain⟨_,L,o,h1,h2,_⟩:=fo env he
 rw[h1]at hf;cases hf
 rw[h.nH]at h2;cases h2
theorem ns_hid {h:Heap}{l:List Addr}{C:Addr}{m:Str->Option Value}(hC:C∉l)(n:h.Ns C m):(hid h l).Ns C m:=by
 obtain⟨o,es,ep,h1,h2⟩:=n
 exact⟨o,es,ep,(hid_out hC).trans h1,h2⟩
theorem ns_keep {e:En}{h:Heap}{C:Addr}{m:Str->Option Value}(k:KeepX e h)(n:e.H.Ns C m)(h1:C∉e.ρ)(h2:C∉e.outL):h.Ns C m:=by
 obtain⟨o,es,ep,n1,n2⟩:=n
 exact⟨o,es,ep,(k C o n1 h1).1 h2,n2⟩
theorem Ok.at (O:Ok X)(e:En):Ok (X.at e):=⟨O.1,O.2⟩
theorem Off.up {e:En}{f:Fm}{B:Heap}{ρ ρ':List Addr}{G G':Gh}{C:Addr}{c':St}{s s':Shared}{o:Obj}(h:Off f e ρ G C)(hd:(f.cl.map (·.1)).Nodup)(ho:s.heap.get? C=some o)(i:In B f (enAt f e ρ G s) c' ρ' G' s'):Off f e ρ' G' C:=by
 have hh:(enAt f e ρ G s).H.get? C=some o:=(hid_out (off_hides h hd)).trans ho
 exact⟨λz=>(i.r.newA C z).elim h.nρ λy=>none_of y hh,new_none i.r.newG h.nG h.nρ hh,h.nL,h.nH,h.ncl⟩
theorem Off.but {f:Fm}{B:Heap}{e:En}{ρ:List Addr}{G:Gh}{c:St}{s s':Shared}{C:Addr}(h:Off f e ρ G C)(i:In B f e c ρ G s)(k:∀b ob,b≠C->s.heap.get? b=some ob->s'.heap.get? b=some ob)(hg:s'.gens=s.gens)(ho:s'.os=s.os):In B f e c ρ G s':=
 i.extBut h.nρ h.nG h.nL (.inr h.nH) h.ncl k hg ho
theorem FlyT.sub {B:Heap}{L:Addr}{v:Value}{e:En}{C:Addr}{ks:List Str}{l:List D}{G G':Gh}{x:Value}{a T:Addr}{fs ts:Array Value}{s:Shared}(k:Sub G G')(h:FlyT B L v e C ks l G' x a T fs ts s):FlyT B L v e C ks l G x a T fs ts s:=by
 obtain⟨⟨G'',d,oT,es,n,vs,h⟩,k1,k2,k3⟩:=h
 exact⟨⟨G'',d,oT,es,n,vs,{h with sub:=k.trans h.sub}⟩,k1,k2,k3⟩
section
variable {elt:Expr}{scope:Scope}{cl:List (Str×Addr)}{x:Str}{xs:List AV}{P:Nat->Obj->Prop}{G₀ G₁ G:Gh}{ρ:List Addr}{it Da C:Addr}{r:Rk}{c' c:St}{n0 i:Nat}{acc:List D}{s:Shared}{A:Around}{m:Str->Option Value}{a:AV}{v:Value}
inductive ClI (X:Cx)(elt:Expr)(scope:Scope)(cl:List (Str×Addr))(x:Str)(xs:List AV)(P:Nat->Obj->Prop)(G₀ G₁:Gh)(ρ:List Addr)(it Da C:Addr)(r:Rk)(c':St)(k:Nat)(s:Shared):Prop
 |mk (i:Nat) (acc:List D) (c:St) (o:Obj) (G:Gh) (m:Str->Option Value) (hk:k=(xs.drop i).length) (hels:Els X elt scope cl x r c' (xs.drop i) acc c) (hP:P i o) (sub:Sub G₀ G) (sub₁:Sub G₁ G) (hn:ρ.length=c.obj.length)
  (I:In X.B X.f X.e ⟨c.loc,c.obj++[.dlist acc]⟩ (ρ++[Da]) G s) (hoff:Off X.f X.e (ρ++[Da]) G C) (hoit:Off X.f X.e (ρ++[Da]) G it) (hit:s.heap.get? it=some o) (hns:s.heap.Ns C m)
theorem cl_ex (O:Ok X)(hd:(X.f.cl.map (·.1)).Nodup)(rm:Rm A X.n (X.f.env::X.e.outer))(fo:FrOK X.e.H X.e.ρ X.e.G X.e.outer){Cx:Addr}{ks:List Str}{l:List D}{c₁:St}{Q E:Value->Shared->Prop}
  (hb:ElOK X elt scope cl x a ⟨c.loc,c.obj++[.dlist acc]⟩ (.ex Cx ks l) c₁) (sub₁:Sub G₁ G) (I:In X.B X.f X.e ⟨c.loc,c.obj++[.dlist acc]⟩ (ρ++[Da]) G s) (hoff:Off X.f X.e (ρ++[Da]) G C) (hns:s.heap.Ns C m) (hm:m x=some v) (rv:∀ρ,RepV ρ G a v)
  (hex:∀y s' a T fs ts,FlyT X.B X.f.L (rawInt X.f.L) X.e Cx ks l G₁ y a T fs ts s'->(∃o,s'.heap.get? X.f.L=some o/\∀vs,o.data≠ .fields vs)->s'.heap.Ns C m->(∀h',Heap.SameBut C s'.heap h'->FlyT X.B X.f.L (rawInt X.f.L) X.e Cx ks l G₁ y a T fs ts {s' with heap:=h'})->E y s'):
  wpAny (model X.prog X.w) A (eval elt (compEnvC scope cl C X.f.env)) Q (notedBy (model X.prog X.w) A (compEnvC scope cl C X.f.env) E) s:=by
 have fo':=FrOK.base fo I hd
 have hC:(enAt X.f X.e (ρ++[Da]) G s).H.Ns C m:=ns_hid (off_hides hoff hd) hns
 have hCo:C∉ (enAt X.f X.e (ρ++[Da]) G s).outL:=hoff.outL fo
 refine wpAny_mono (hb _ C m v hC hm rv hoff.nρ hCo A _ G _ rm fo' (I.base hd)) (λ_ _ z=>z.elim) λy s' z=>?_
 show wpAny (model X.prog X.w) A (noteFrame y X.f.env) _ _ s'
 refine note_fly (e:=enAt X.f X.e (ρ++[Da]) G s) rfl (fun_kind O.2) rm.frames fo' z λs'' a T fs ts hT hL=>?_
 have hns':=ns_keep hT.keep hC hoff.nρ hCo
 obtain⟨oC,_,_,hCo',_⟩:=id hC
 obtain⟨oC',es',_,hC1,hC2,_⟩:=id hns'
 exact hex y s'' a T fs ts ((hT.unbase I hd).sub sub₁) hL hns' λh' hb'=>(hT.unbut I hd hoff.nH ⟨oC,hCo'⟩ hoff.nρ hoff.nG ⟨oC',hC1,λvs q=>by rw[hC2]at q;cases q⟩ hb').sub sub₁
theorem cl_ok (O:Ok X)(hd:(X.f.cl.map (·.1)).Nodup)(rm:Rm A X.n (X.f.env::X.e.outer))(fo:FrOK X.e.H X.e.ρ X.e.G X.e.outer){av:AV}{d:D}{c₁:St}{o:Obj}{E:Value->Shared->Prop}{Q:Value->Shared->Prop}
  (hb:ElOK X elt scope cl x a ⟨c.loc,c.obj++[.dlist acc]⟩ (.ok av) ⟨c₁.loc,c₁.obj++[.dlist acc]⟩) (hav:dOf av=some d) (hlen:c₁.obj.length=c.obj.length) (hsz:acc.length<=sizeLine) (hn:ρ.length=c.obj.length)
  (I:In X.B X.f X.e ⟨c.loc,c.obj++[.dlist acc]⟩ (ρ++[Da]) G s) (hoff:Off X.f X.e (ρ++[Da]) G C) (hoit:Off X.f X.e (ρ++[Da]) G it) (hit:s.heap.get? it=some o) (hns:s.heap.Ns C m) (hm:m x=some v) (rv:∀ρ,RepV ρ G a v)
  (k:∀w G' s',Sub G G'->In X.B X.f X.e ⟨c₁.loc,c₁.obj++[.dlist (acc++[d])]⟩ (ρ++[Da]) G' s'->Off X.f X.e (ρ++[Da]) G' C->Off X.f X.e (ρ++[Da]) G' it->s'.heap.get? it=some o->s'.heap.Ns C m->Q w s'):
  wpAny (model X.prog X.w) A (eval elt (compEnvC scope cl C X.f.env)) (λu s'=>wpAny (model X.prog X.w) A (call (.builtin "list.append") [.ref Da,u]) Q E s') E s:=by
 have fo':=FrOK.base fo I hd
 have hC:(enAt X.f X.e (ρ++[Da]) G s).H.Ns C m:=ns_hid (off_hides hoff hd) hns
 have hCo:C∉ (enAt X.f X.e (ρ++[Da]) G s).outL:=hoff.outL fo
 refine wpAny_mono (hb _ C m v hC hm rv hoff.nρ hCo A _ G _ rm fo' (I.base hd)) (λu s₃ z=>?_) λ_ _ z=>z.elim
 obtain⟨ρ₃,G₃,p₃,q₃,I₃,r₃⟩:=z
 obtain rfl:ρ₃=ρ++[Da]:=by
  have h3:ρ₃.length=(ρ++[Da]).length:=by rw[I₃.h.len,List.length_append,List.length_append,hlen,hn];rfl
  rw[pre_split p₃,List.drop_eq_nil_iff.mpr (Nat.le_of_eq h3),List.append_nil]
 have rD:RepV (ρ++[Da]) G₃ (.ref c₁.obj.length) (.ref Da):=⟨Da,by rw[hlen,<-hn];exact List.getElem?_concat_length,rfl⟩
 refine meth_appendD (X:=X.at (enAt X.f X.e (ρ++[Da]) G s)) (c:=⟨c₁.loc,c₁.obj++[.dlist acc]⟩) (i:=c₁.obj.length) (l:=acc) List.getElem?_concat_length hav hsz I₃ rD ⟨r₃,trivial⟩ λu s₄ I₄ _=>?_
 rw[show(c₁.obj++[AO.dlist acc]).set c₁.obj.length (.dlist (acc++[d]))=c₁.obj++[.dlist (acc++[d])] by rw[List.set_append_right _ _ (Nat.le_refl _),Nat.sub_self];rfl]at I₄
 obtain⟨oC,_,_,hCo',_⟩:=id hns
 exact k u G₃ s₄ q₃ (I.unbase hd I₄) (hoff.up hd hCo' I₄) (hoit.up hd hit I₄) ((I₄.r.keep it o ((hid_out (off_hides hoit hd)).trans hit) hoit.nρ).1 (hoit.outL fo)) (ns_keep I₄.r.keep hC hoff.nρ hCo)
theorem comp_loop (O:Ok X)(hd:(X.f.cl.map (·.1)).Nodup){iter:Expr}{px pos:Pos}{R:Result->Shared->Prop}
  (hsk:scope.kind=.function) (hx:scope.names.lookup x=some .local) (S:Src X.prog X.w G₀ xs P) (rm:Rm A X.n (X.f.env::X.e.outer)) (fo:FrOK X.e.H X.e.ρ X.e.G X.e.outer) (hne:it≠C)
  (hok:∀l G' s' m,r=.ok l->Sub G₁ G'->In X.B X.f X.e ⟨c'.loc,c'.obj++[.dlist l]⟩ (ρ++[Da]) G' s'->Off X.f X.e (ρ++[Da]) G' C->s'.heap.Ns C m->R (.ok .next) s')
  (hex:∀Cx ks l x s' a T fs ts m,r=.ex Cx ks l->FlyT X.B X.f.L (rawInt X.f.L) X.e Cx ks l G₁ x a T fs ts s'->(∃o,s'.heap.get? X.f.L=some o/\∀vs,o.data≠ .fields vs)->s'.heap.Ns C m->(∀h',Heap.SameBut C s'.heap h'->FlyT X.B X.f.L (rawInt X.f.L) X.e Cx ks l G₁ x a T fs ts {s' with heap:=h'})->R (.error x) s')
  {k:Nat} (h:ClI X elt scope cl x xs P G₀ G₁ ρ it Da C r c' k s):
  codeAny (model X.prog X.w) A (.compLoop (.ListComp elt [⟨.Name x px,iter,[],0⟩] scope pos) 0 (.ref it) (.ref Da) (compEnvC scope cl C X.f.env)) R s:=by
 refine codeAny_compLoop_tests (ClI X elt scope cl x xs P G₀ G₁ ρ it Da C r c') (λk s h=>?_) k h
 obtain⟨i,acc,c,o,G,m,rfl,hels,hP,sub,sub₁,hn,I,hoff,hoit,hit,hns⟩:=h
 have hG0:G₀ it=none:=Option.eq_none_iff_forall_not_mem.mpr λo' q=>nomatch hoit.nG.symm.trans (sub _ _ q)
 have frz₀:∀b o,G₀ b=some o->s.heap.get? b=some o:=λb o q=>I.h.frz _ _ (sub _ _ q)
 cases hdr:xs.drop i with
 |nil=>
  rw[hdr]at hels
  cases hels with
  |nil hr hc=>
   refine S.fin A _ s it o i _ rm.handled frz₀ hit hG0 hP (List.getElem?_eq_none (List.drop_eq_nil_iff.mp hdr)) λh' tk kk=>?_
   exact hok acc G _ m hr sub₁ (hc▸hoit.but I kk rfl rfl) hoff (hns.extBut (b:=it) (λb o nb q=>kk b o nb q) (Ne.symm hne))
 |cons a rest=>
  have hx0:xs[i]? =some a:=by rw[<-Nat.add_zero i,<-List.getElem?_drop,hdr];rfl
  have hdr1:xs.drop (i+1)=rest:=by rw[<-List.tail_drop,hdr];rfl
  rw[hdr]at hels
  refine S.item A _ s it o i a _ rm.handled frz₀ hit hG0 hP hx0 λh₁ tk v o₁ e1 e2 e3 e4=>?_
  have I₁:=hoit.but (s':= {s with heap:=h₁,toks:=tk}) I e3 rfl rfl
  refine wpAny_assign_Name (wpAny_storeName_local (lookup_relabel_local hx) (hns.extBut (b:=it) (λb o nb q=>e3 b o nb q) (Ne.symm hne)) (λh₂ hns₂ hsb₂=>?_) (by simp[compEnvC,relabel,hsk]))
  have keep₂:∀b ob,b≠C->h₁.get? b=some ob->h₂.get? b=some ob:=λb ob nb q=>(hsb₂.2 b nb).trans q
  have I₂:=hoff.but (s':= {s with heap:=h₂,toks:=tk+1}) I₁ keep₂ rfl rfl
  refine wpAny_tests_nil ?_
  rw[if_pos rfl]
  have rv:∀ρ,RepV ρ G a v:=λρ=>(e4 ρ).mono (PreA.refl _) sub
  cases hels with
  |ex hb hr=>exact cl_ex O hd rm fo hb sub₁ I₂ hoff hns₂ (if_pos rfl) rv λy s' a T fs ts=>hex _ _ _ y s' a T fs ts _ hr
  |cons hb hav hlen hsz hrest=>
   exact cl_ok O hd rm fo hb hav hlen hsz hn I₂ hoff hoit (keep₂ it o₁ hne e1) hns₂ (if_pos rfl) rv λw G' s' q' I' f' t' it' ns'=>
    ⟨(xs.drop (i+1)).length,by rw[hdr1];exact Nat.lt_succ_self _,i+1,_,_,o₁,G',_,rfl,by rw[hdr1];exact hrest,e2,sub.trans q',sub₁.trans q',hn.trans hlen.symm,I',f',t',it',ns'⟩
end
theorem off_new {f:Fm}{B:Heap}{e:En}{ρ:List Addr}{G:Gh}{c:St}{s:Shared}{b:Addr}(i:In B f e c ρ G s)(h:s.heap.get? b=none):Off f e ρ G b:=by
 obtain⟨h1,h2,h3,h4⟩:=i.new h
 refine⟨h1,h2,h3,h4,λx cc q z=>?_⟩
 obtain⟨o,u,j⟩:=i.f.cells x cc q
 exact none_of h (z▸j.here)
theorem Off.app {f:Fm}{e:En}{ρ:List Addr}{G:Gh}{b a:Addr}(h:Off f e ρ G b)(n:b≠a):Off f e (ρ++[a]) G b:=
 ⟨λz=>by rcases List.mem_append.mp z with z|z;exact h.nρ z;exact n (List.mem_singleton.mp z),h.nG,h.nL,h.nH,h.ncl⟩
theorem pushed {f:Fm}{B:Heap}{e:En}{ρ:List Addr}{G:Gh}{c:St}{s:Shared}{o:Obj}(i:In B f e c ρ G s)(ho:o.isFreed=false):In B f e c ρ G {s with heap:=s.heap.push o}/\({s with heap:=s.heap.push o}:Shared).heap.get? s.heap.objs.size=some o/\Off f e ρ G s.heap.objs.size:=
 ⟨i.ext (push_keeps _ _) rfl rfl,Heap.get?_push_size _ ho,off_new i (fresh_size s)⟩
noncomputable def Rk.rv (n:Nat):Rk->Rv
 | .ok _=>.ok (.ref n)
 | .ex C ks l=>.ex C ks l
noncomputable def Rk.st (c':St):Rk->St
 | .ok l=>⟨c'.loc,c'.obj++[.dlist l]⟩
 | .ex .. =>c'
theorem lc_run (O:Ok X)(hd:(X.f.cl.map (·.1)).Nodup){elt iter:Expr}{scope:Scope}{cl:List (Str×Addr)}{x:Str}{px pos:Pos}{xs:List D}{c c₁ c':St}{r:Rk}{A:Around}{ρ:List Addr}{G:Gh}{s:Shared}{E:Value->Shared->Prop}{RR:Value->Env->Result->Shared->Prop}(rm:Rm A X.n (X.f.env::X.e.outer))(fo:FrOK X.e.H X.e.ρ X.e.G X.e.outer)
  (i:In X.B X.f X.e c ρ G s) (hsk:scope.kind=.function) (hx:scope.names.lookup x=some .local) (hcell:∀y∈scope.names,y.2≠ .cell) (hi:TV X (eval iter X.f.env) c (.ok (.dat (.lst xs))) c₁) (hels:Els X elt scope cl x r c' (partsOfD xs) [] c₁)
  (hok:∀C env ρ₁ G' Da l s' m,env.locals=C-> {env with scope:=relabel scope X.f.env}=compEnvC scope cl C X.f.env->r=.ok l->PreA ρ ρ₁->Sub G G'->ρ₁.length=c₁.obj.length->In X.B X.f X.e ⟨c'.loc,c'.obj++[.dlist l]⟩ (ρ₁++[Da]) G' s'->Off X.f X.e (ρ₁++[Da]) G' C->s'.heap.Ns C m->RR (.ref Da) env (.ok .next) s')
  (hex:∀C env acc Cx ks l x s' a T fs ts m,env.locals=C-> {env with scope:=relabel scope X.f.env}=compEnvC scope cl C X.f.env->r=.ex Cx ks l->X.e.H.get? X.f.L=none->C≠X.f.L->(∃o,s'.heap.get? X.f.L=some o/\∀vs,o.data≠ .fields vs)->s'.heap.Ns C m->(∀h',Heap.SameBut C s'.heap h'->FlyT X.B X.f.L (rawInt X.f.L) X.e Cx ks l G x a T fs ts {s' with heap:=h'})->RR acc env (.error x) s'):
  wpAny (model X.prog X.w) A (eval iter X.f.env) (λx₁ s₁=>wpAny (model X.prog X.w) A (pyIter x₁) (λit s₂=>wpAny (model X.prog X.w) A (newList []) (λacc s₃=>
   wpAny (model X.prog X.w) A (newFunctionEnv scope X.f.env.globals cl [] X.f.env.qual none .none (some X.f.env)) (λcenv s₄=>
    codeAny (model X.prog X.w) A (.compStart (.ListComp elt [⟨.Name x px,iter,[],0⟩] scope pos) 0 it acc {cenv with scope:=relabel scope X.f.env}) (RR acc cenv) s₄) E s₃) E s₂) E s₁) E s:=by
 refine wp_then hi rm fo i λv s₁ ρ₁ G₁ p₁ q₁ i₁ r₁=>?_
 obtain⟨t,n,vs,rfl,e1,rs⟩:=RepD.inv r₁
 ·obtain⟨i₂,hpi,offit⟩:=pushed i₁ (o:= {cls:=.type "list_iterator",data:=.fields #[.ref t,.int 0 0]}) rfl
  refine wpAny_pyIter_list (items:=vs.toArray) ⟨_,i₁.h.frz _ _ e1,rfl,n,rfl⟩ ?_
  generalize s₁.heap.objs.size=it at offit hpi ⊢
  generalize ({s₁ with heap:=s₁.heap.push {cls:=.type "list_iterator",data:=.fields #[.ref t,.int 0 0]}}:Shared)=s₂ at i₂ hpi ⊢
  obtain⟨_,hpd,_⟩:=pushed i₂ (o:= {cls:=.type "list",data:=.seq ([]:List Value).toArray}) rfl
  have i₃:=i₂.alloc (ao:=.dlist []) (s':= {s₂ with heap:=s₂.heap.push {cls:=.type "list",data:=.seq ([]:List Value).toArray}}) (push_keeps _ _) (fresh_size s₂) hpd ⟨[],0,rfl,.nil⟩ rfl rfl
  have offit:=offit.app (a:=s₂.heap.objs.size) (Nat.ne_of_lt (Heap.lt_size hpi))
  have hpi:({s₂ with heap:=s₂.heap.push {cls:=.type "list",data:=.seq ([]:List Value).toArray}}:Shared).heap.get? it=some {cls:=.type "list_iterator",data:=.fields #[.ref t,.int 0 0]}:=push_keeps _ _ _ _ hpi
  refine wpAny_newList (items:=[]) ?_ (Nat.zero_le _)
  generalize s₂.heap.objs.size=Da at i₃ offit ⊢
  generalize ({s₂ with heap:=s₂.heap.push {cls:=.type "list",data:=.seq ([]:List Value).toArray}}:Shared)=s₃ at i₃ hpi ⊢
  have offC:=off_new i₃ (fresh_size s₃)
  have neC:it≠s₃.heap.objs.size:=Nat.ne_of_lt (Heap.lt_size hpi)
  refine wpAny_newFunctionEnv hcell (λ_ hy=>nomatch hy) (λh₄ hns₄ hsb₄=>?_) hsk
  have keep₄:∀b o,s₃.heap.get? b=some o->h₄.get? b=some o:=λb o q=>hsb₄.extBut b o (Nat.ne_of_lt (Heap.lt_size q)) (Heap.get?_push_of_some _ q)
  have i₄:=i₃.ext (s':= {s₃ with heap:=h₄,toks:=s₃.toks+([]:List (Str×Value)).length}) keep₄ rfl rfl
  have hpi:=keep₄ _ _ hpi
  refine(λhloop=>codeAny_compStart_list hloop (wpAny_pyIter_listiter ⟨_,hpi,rfl,rfl⟩ hloop)) ?_
  exact comp_loop (px:=px) (iter:=iter) (pos:=pos) O hd hsk hx (Src.list e1 rs) rm fo neC (λl G' s' m hr sub' I' off' ns'=>hok _ _ ρ₁ G' Da l s' m rfl rfl hr p₁ (q₁.trans sub') i₁.h.len I' off' ns')
   (λCx ks l x s' a T fs ts m hr hT hL ns' hbut=>hex _ _ _ Cx ks l x s' a T fs ts m rfl rfl hr i₁.f.fresh offC.nL hL ns' λh' hb=>(hbut h' hb).sub q₁)
   ⟨0,[],c₁,_,G₁,λ_=>none,rfl,hels,⟨rfl,rfl⟩,Sub.refl _,Sub.refl _,i₁.h.len,i₄,offC,offit,hpi,hns₄⟩
theorem tv_listcomp (O:Ok X)(hd:(X.f.cl.map (·.1)).Nodup){elt iter:Expr}{scope:Scope}{cl:List (Str×Addr)}{x:Str}{px pos:Pos}{xs:List D}{c c₁ c':St}{r:Rk}
  (hs:∀v,foldedSetIterable iter X.f.env v=pure v) (hclos:closureFor scope X.f.env=pure cl) (hsk:scope.kind=.function) (hnames:∀y∈scope.names,y.2=.local->scope.names.lookup y.1=some .local) (hx:scope.names.lookup x=some .local) (hcell:∀y∈scope.names,y.2≠ .cell)
  (hi:TV X (eval iter X.f.env) c (.ok (.dat (.lst xs))) c₁) (hels:Els X elt scope cl x r c' (partsOfD xs) [] c₁) (hlen:∀l,r=.ok l->c'.obj.length=c₁.obj.length):
  TV X (eval (.ListComp elt [⟨.Name x px,iter,[],0⟩] scope pos) X.f.env) c (r.rv c'.obj.length) (r.st c'):=λA ρ G s rm fo i=>by
 rw[eval_ListComp]
 refine comp_own (g:=⟨.Name x px,iter,[],0⟩) (gs:=[]) rfl hs hclos hsk hnames (lc_run O hd rm fo i hsk hx hcell hi hels ?_ ?_)
 ·intro C env ρ₁ G' Da l s' m _ h2 hr p q hl I' off' ns'
  rw[h2];subst hr
  exact⟨m,ns',λh' hb=>⟨ρ₁++[Da],G',p.trans (PreA.app _ _),q,off'.but I' (λb ob nb q=>(hb.2 b nb).trans q) rfl rfl,Da,by rw[hlen l rfl,<-hl];exact List.getElem?_concat_length,rfl⟩⟩
 ·intro C env acc Cx ks l x s' a T fs ts m _ h2 hr hf hC hL ns' hbut
  rw[h2];subst hr
  obtain⟨oL,l1,l2⟩:=hL
  exact⟨m,ns',λh' hb=>pass_fly rfl hf (hbut h' hb) ⟨oL,(hb.2 _ (Ne.symm hC)).trans l1,l2⟩ λ_ z=>z⟩
end
end Mine
namespace Mine
open PySem PySem.W PyProof PyProof.Rows PySem.Calls PySem.SeqAt
section
variable {X:Cx}{c:St}{scope:Scope}{cl:List (Str×Addr)}{C:Addr}
theorem tv_cn_item {x:Str}{pos:Pos}{a:AV}{e:En}{m:Str->Option Value}{v:Value}(hk:scope.kind=.function)(hl:scope.names.lookup x=some .local)(hd:(x==("__debug__" :Str))=false)(hn:e.H.Ns C m)(hv:m x=some v)(hr:∀ρ,RepV ρ e.G a v)(h1:C∉e.ρ)(h2:C∉e.outL):
  TV (X.at e) (eval (.Name x pos) (compEnvC scope cl C X.f.env)) c (.ok a) c:=λA ρ G s rm fo i=>
 wpAny_Name (wpAny_loadName_local hk (lookup_relabel_local hl) (ns_keep i.r.keep hn h1 h2) hv ⟨ρ,G,PreA.refl _,Sub.refl _,i,(hr ρ).mono (PreA.refl _) i.r.gsub⟩) hd
theorem tv_cn_cell {x:Str}{pos:Pos}{a:AV}{cc:Addr}{e:En}(hk:scope.kind=.function)(hl:(relabel scope X.f.env).names.lookup x=some .cell)(hc:cl.lookup x=some cc)(hc':X.f.cl.lookup x=some cc)(hd:(x==("__debug__" :Str))=false)(h:lk c.loc x=some a):
  TV (X.at e) (eval (.Name x pos) (compEnvC scope cl C X.f.env)) c (.ok a) c:=λA ρ G s rm fo i=>by
 obtain⟨o,u,j⟩:=i.f.cells x cc hc'
 obtain⟨v,rfl,c4⟩:=j.val a h
 exact wpAny_Name (wpAny_loadName_cell hk hl hc ⟨o,j.here,j.dat⟩ ⟨ρ,G,PreA.refl _,Sub.refl _,i,c4⟩) hd
theorem tv_cn_glob (O:Ok X){x:Str}{pos:Pos}{a:AV}{e:En}(hk:scope.kind=.function)(hl:(relabel scope X.f.env).names.lookup x=some .globalImplicit)(h:lk X.T.glob x=some a):
  TV (X.at e) (eval (.Name x pos) (compEnvC scope cl C X.f.env)) c (.ok a) c:=λA ρ G s rm fo i=>by
 obtain⟨hd,z⟩:=O.1.glob x a h
 obtain⟨loose,mg,mb,T⟩:=O.1.top
 have pre:=i.h.pre
 have hg:∀a o,X.K.lookup a=some o->G a=some o:=λa o q=>i.h.base a o (O.1.k a o q)
 rcases z with⟨v,e1,r⟩| ⟨v,e1,hv,hn,r⟩
 ·exact Name_function_global hk hl (loadGlobal_global (env:=compEnvC scope cl C X.f.env) (T.g.keeps pre) (mg_of O.1.k T.g e1) ⟨ρ,G,PreA.refl _,Sub.refl _,i,r ρ G hg⟩) hd
 ·exact Name_function_global hk hl (loadGlobal_builtin (env:=compEnvC scope cl C X.f.env) (T.g.keeps pre) (mg_none_of O.1.k T.g e1) (T.b.keeps pre) ((T.builtins x hn).trans hv) ⟨ρ,G,PreA.refl _,Sub.refl _,i,r ρ G hg⟩) hd
end
noncomputable abbrev fmC (q:Str)(d:Def)(f:Addr)(cd:Value)(L:Addr):Fm:=⟨q,d.scope,L,f,cd,cellsFrom (L+1) d.scope.names [],none⟩
noncomputable abbrev cxC (w:World)(B:Heap)(q:Str)(d:Def)(f:Addr)(cd:Value)(e:En)(L n:Nat):Cx:=⟨pw,w,B,KK w.params,TT,fmC q d f cd L,e,n⟩
def FnSC (w:World)(B:Heap)(f:Addr)(q:Str)(d:Def)(cd:Value)(k:Nat)(names:List Str)(das:List AV):Prop:=
 ∀ (n:Nat) (args:List AV) (obj obj':List AO) (fl:Fl),args.length=k->
  (∀e L,e.ρ.length=obj.length->∃loc',TF' (cxC w B q d f cd e L n) (execs d.body (fmC q d f cd L).env) ⟨names.zip (args++das),obj⟩ fl ⟨loc',obj'⟩)->CO w B (n+1) f args obj (outOf fl) obj'
noncomputable def fnChkC (K:Frag)(q:Str)(d:Def)(cd:Value)(names:List Str):Bool:=
 codeIn K cd q&&nodupB names&&d.scope.names.all (λx=>x.2 !=.cell||d.scope.names.lookup x.1==some .cell)&& !d.scope.isCoroutine&& !d.scope.isGenerator&&d.scope.kind==.function
theorem mkFnC {w:World}{B:Heap}(W:Wd w B){f:Addr}{q:Str}{d:Def}{cd dV pm:Value}{k:Nat}{names:List Str}{das:List AV}{dvs:List Value}
  (ho:(KK w.params).lookup f=some ⟨.type "function",none,.func (fnOf d.name q d.args d.body d.scope dV .none .none pm none cd .none),#[]⟩) (hc:fnChkC (KK w.params) q d cd names=true)
  (hloc:∀y∈names,d.scope.names.lookup y=some .local\/(d.scope.names.lookup y=some .cell/\∀L,((cellsFrom L d.scope.names []).lookup y).isSome=true))
  (hb:Binds (KK w.params) (fnOf d.name q d.args d.body d.scope dV .none .none pm none cd .none) k names dvs) (hs:StatVs das dvs):FnSC w B f q d cd k names das:=λn args obj obj' fl hk h=>by
 unfold fnChkC at hc
 simp only[Bool.and_eq_true,Bool.not_eq_true']at hc
 obtain⟨⟨⟨⟨⟨c1,c2⟩,c4⟩,c5⟩,c6⟩,c7⟩:=hc
 have hkd:d.scope.kind=.function:=by
  cases z:d.scope.kind<;>first|rfl| (rw[z]at c7;exact absurd c7 (by decide))
 refine call_defC (T:=TT) (names:=names) (das:=das) (dvs:=dvs) W.know.k W.lim ho c1 hb hs hk (nodupB_ok c2) hloc (λx hx z=>?_) h c5 c6 hkd
 have:=List.all_eq_true.mp c4 x hx
 rw[z]at this
 cases q:d.scope.names.lookup x.1 with
 |none=>rw[q]at this;exact absurd this (by decide)
 |some k=>rw[q]at this;cases k<;>first|rfl|exact absurd this (by decide)
theorem okC {w:World}{B:Heap}(W:Wd w B){q:Str}{d:Def}{f:Addr}{cd:Value}{e:En}{L n:Nat}(hk:(d.scope.kind==.function)=true):Ok (cxC w B q d f cd e L n):=⟨W.know,hk⟩
theorem CN.ofC {w:World}{B:Heap}{k:Nat}{f:Addr}{q:Str}{d:Def}{cd:Value}{names:List Str}{das:List AV}{m:Nat}{args:List AV}{obj obj':List AO}{fl:Fl}(F:FnSC w B f q d cd m names das)(hl:args.length=m)
  (h:∀n,k<=n->∀e L,∃loc',TF (cxC w B q d f cd e L n) (execs d.body (fmC q d f cd L).env) ⟨names.zip (args++das),obj⟩ fl ⟨loc',obj'⟩):CN w B (k+1) f args obj (outOf fl) obj':=λn hn=>by
 cases n with
 |zero=>lia
 |succ n=>exact F n args obj obj' fl hl λe L _=>let⟨loc',t⟩:=h n (by lia) e L;⟨loc',t.weak⟩
section
variable {w:World}{B:Heap}
theorem F_value (W:Wd w B):FnSC w B 921 "Machine.value" (dm 80 8) (.ref 920) 3 ["self","frame","node"] []:=
 mkFnC W (dV:=.none) (pm:=(.str "grammarmill.machine" 1208)) (by kernel_rfl) (by kernel_rfl)
  (λy hy=>by
   rcases List.mem_cons.mp hy with rfl|hy
   ·exact .inr ⟨by kernel_rfl,λL=>by kernel_rfl⟩
   rcases List.mem_cons.mp hy with rfl|hy
   ·exact .inr ⟨by kernel_rfl,λL=>by kernel_rfl⟩
   rcases List.mem_cons.mp hy with rfl|hy
   ·exact .inl (by kernel_rfl)
   ·cases hy)
  (AllV.binds λ_ _ _ _=>by kernel_rfl) (dvs:=[]) (λ_ _=>trivial)
noncomputable abbrev mv (k:Int):List AO:=mch (.int 5) [] k
noncomputable abbrev vX (w:World)(B:Heap)(e:En)(L n:Nat):Cx:=cxC w B "Machine.value" (dm 80 8) 921 (.ref 920) e L n
theorem v_num (W:Wd w B)(i:Nat)(k:Int)(hk:k+1<=2000):CN w B 3 921 [.ref 5,.ref 0,.dat (.tup (Xt.num i).nodeL)] (mv k) (.ret (.int i)) (mv (k+1)):=
 CN.ofC (F_value W) rfl (fl:=.ret _) λn hn e L=>way (okC W (by kernel_rfl)) (or:=[.call [0,1,2,3,4] (.ret .none) (fro (.int 5) [] (k+1))]) (aI (c_fcount (.int 5) [] k W hk n (by lia)) trivial)
end
noncomputable def clos (cells:List (Str×Addr)):List (Str×NameKind)->List (Str×Addr)->Option (List (Str×Addr))
 | [],acc=>some acc
 | (n,k)::r,acc=>match k==.free with
  |true=>(match cells.lookup n with
   |some a=>clos cells r ((n,a)::acc)
   |none=>none)
  |false=>clos cells r acc
theorem clos_run {env:Env}{f:Str×NameKind->List (Str×Addr)->Sem (ForInStep (List (Str×Addr)))}(hf:∀n k cs,f (n,k) cs=if k==.free then(do let a<-cellOf env n;pure (.yield ((n,a)::cs)))else pure (.yield cs)):∀ (l:List (Str×NameKind)) (acc cl:List (Str×Addr)),clos env.cells l acc=some cl->forIn l acc f=(pure cl:Sem _)
 | [],acc,cl,h=>by cases h;rw[List.forIn_nil]
 | (n,k)::r,acc,cl,h=>by
  unfold clos at h
  rw[List.forIn_cons,hf]
  cases q:(k==NameKind.free)with
  |true=>
   rw[q]at h
   cases q2:env.cells.lookup n with
   |none=>rw[q2]at h;cases h
   |some a=>
    rw[q2]at h
    have:=clos_run hf r ((n,a)::acc) cl h
    simp only[if_true,cellOf,q2,pure_bind]
    exact this
  |false=>
   rw[q]at h
   have:=clos_run hf r acc cl h
   simp only[Bool.false_eq_true,if_false,pure_bind]
   exact this
theorem clos_of {scope:Scope}{env:Env}{cl:List (Str×Addr)}(h:clos env.cells scope.names []=some cl):closureFor scope env=pure cl:=by
 simp only[closureFor]
 refine(bind_pure _).trans (clos_run (λn k cs=>?_) _ _ _ h)
 cases hk:(k==NameKind.free)<;>simp[hk]
noncomputable def lcE:Expr->Expr
 | .ListComp e _ _ _=>e
 |_=>default
noncomputable def lcI:Expr->Expr
 | .ListComp _ (⟨_,i,_,_⟩::_) _ _=>i
 |_=>default
noncomputable def lcX:Expr->Str
 | .ListComp _ (⟨.Name x _,_,_,_⟩::_) _ _=>x
 |_=>default
noncomputable def lcQ:Expr->Pos
 | .ListComp _ (⟨.Name _ p,_,_,_⟩::_) _ _=>p
 |_=>default
noncomputable def lcS:Expr->Scope
 | .ListComp _ _ s _=>s
 |_=>default
noncomputable def lcP:Expr->Pos
 | .ListComp _ _ _ p=>p
 |_=>default
abbrev isLC (e:Expr):Prop:=e=.ListComp (lcE e) [⟨.Name (lcX e) (lcQ e),lcI e,[],0⟩] (lcS e) (lcP e)
noncomputable def hdE:List Expr->Expr
 |e::_=>e
 | []=>default
noncomputable def sndE:List Expr->Expr
 |_::e::_=>e
 |_=>default
noncomputable def atO:Expr->Expr
 | .Attribute o _ _=>o
 |_=>default
noncomputable def atP:Expr->Pos
 | .Attribute _ _ p=>p
 |_=>default
noncomputable def nmP:Expr->Pos
 | .Name _ p=>p
 |_=>default
noncomputable def retE:Stmt->Expr
 | .Return (some e) _=>e
 |_=>default
noncomputable def ifB:Stmt->List Stmt
 | .If _ b _ _=>b
 |_=>[]
noncomputable def lcChk (s:Scope)(x:Str):Bool:=s.kind==.function&&s.names.all (λy=>y.2 !=.local||s.names.lookup y.1==some .local)&&s.names.lookup x==some .local&&s.names.all (λy=>y.2 !=.cell)
theorem lcChk_ok {s:Scope}{x:Str}(h:lcChk s x=true):s.kind=.function/\(∀y∈s.names,y.2=.local->s.names.lookup y.1=some .local)/\s.names.lookup x=some .local/\∀y∈s.names,y.2≠ .cell:=by
 unfold lcChk at h
 simp only[Bool.and_eq_true]at h
 obtain⟨⟨⟨h1,h2⟩,h3⟩,h4⟩:=h
 have lkE:∀ {o:Option NameKind},(o==some .local)=true->o=some .local:=λ{o} q=>by
  cases o with
  |none=>exact absurd q (by decide)
  |some k=>cases k<;>first|rfl|exact absurd q (by decide)
 refine⟨?_,λy hy z=>?_,lkE h3,λy hy z=>?_⟩
 ·cases z:s.kind<;>first|rfl| (rw[z]at h1;exact absurd h1 (by decide))
 ·have:=List.all_eq_true.mp h2 y hy
  rw[z]at this
  exact lkE (by simpa using this)
 ·have:=List.all_eq_true.mp h4 y hy
  rw[z]at this
  exact absurd this (by decide)
theorem tv_lcS {X:Cx}(O:Ok X){lc:Expr}{cl:List (Str×Addr)}{xs:List D}{c c₁ c':St}{r:Rk}(hl:isLC lc)(hd:nodupB (X.f.cl.map (·.1))=true)(hs:∀v,foldedSetIterable (lcI lc) X.f.env v=pure v)(hclos:clos X.f.env.cells (lcS lc).names []=some cl)(hc:lcChk (lcS lc) (lcX lc)=true)
  (hi:TV X (eval (lcI lc) X.f.env) c (.ok (.dat (.lst xs))) c₁) (hels:Els X (lcE lc) (lcS lc) cl (lcX lc) r c' (partsOfD xs) [] c₁) (hlen:∀l,r=.ok l->c'.obj.length=c₁.obj.length):TV X (eval lc X.f.env) c (r.rv c'.obj.length) (r.st c'):=by
 obtain⟨h1,h2,h3,h4⟩:=lcChk_ok hc
 have:=tv_listcomp (px:=lcQ lc) (pos:=lcP lc) O (nodupB_ok hd) hs (clos_of hclos) h1 h2 h3 h4 hi hels hlen
 rw[<-hl]at this
 exact this
section
variable {w:World}{B:Heap}
noncomputable abbrev lc6:Expr:=hdE (callA (hdE (callA (retE (stm (ifB (stm (dm 80 8).body 6)) 0)))))
noncomputable abbrev lc7:Expr:=sndE (callA (retE (stm (ifB (stm (dm 80 8).body 7)) 0)))
abbrev isMV (e:Expr):Prop:=e=.Call (.Attribute (.Name "self" (nmP (atO (callF e)))) "value" (atP (callF e))) [.Name "frame" (nmP (hdE (callA e))),.Name "part" (nmP (sndE (callA e)))] [] (callP e)
noncomputable abbrev vL (N:List D)(kd:Str):Loc:=[lv "self" (.ref 5),lv "frame" (.ref 0),lv "node" (.dat (.tup N)),lv "kind" (.str kd)]
example:isLC lc6:=by kernel_rfl
example:isLC lc7:=by kernel_rfl
example:isMV (lcE lc6):=by kernel_rfl
example:isMV (lcE lc7):=by kernel_rfl
theorem el_val (W:Wd w B){lc:Expr}{e:En}{L n:Nat}{N M:List D}{kd:Str}{k:Int}{out:Out}{obj':List AO}{cl:List (Str×Addr)}(he:isMV (lcE lc))(hline:((atP (callF (lcE lc))).endLine==(callP (lcE lc)).line)=true)
  (hk:(lcS lc).kind=.function) (hx:lcX lc= "part") (hp:(lcS lc).names.lookup ("part" :Str)=some .local) (hs:(relabel (lcS lc) (vX w B e L n).f.env).names.lookup ("self" :Str)=some .cell) (hf:(relabel (lcS lc) (vX w B e L n).f.env).names.lookup ("frame" :Str)=some .cell) (c1:cl.lookup ("self" :Str)=some (L+1)) (c2:cl.lookup ("frame" :Str)=some (L+1+1))
  (hV:CO w B n 921 [.ref 5,.ref 0,.dat (.tup M)] (mv k) out obj'):ElOK (vX w B e L n) (lcE lc) (lcS lc) cl (lcX lc) (.dat (.tup M)) ⟨vL N kd,mv k++[.dlist []]⟩ (rvOf [0,1,2,3,4,5,6] 8 out) ⟨vL N kd,putBack [0,1,2,3,4,5,6] 8 [0,1,2,3,4,5,6] obj' (mv k++[.dlist []])⟩:=λe' C m v hn hv hr h1 h2=>by
 have hX:Ok (vX w B e L n):=okC W (by kernel_rfl)
 rw[he]
 exact tv_method (X:=(vX w B e L n).at e') (c:=⟨vL N kd,mv k++[.dlist []]⟩) (sel:=[0,1,2,3,4,5,6]) (f:=921) (C:=924) (ks:=["most"]) (xs:=[.int 2000]) (a:=.ref 5) (as:=[.ref 0,.dat (.tup M)]) hX.1.k hX.2
  (tv_cn_cell (X:=vX w B e L n) hk hs c1 (by kernel_rfl) (by kernel_rfl) (by kernel_rfl)) (by kernel_rfl) (by kernel_rfl) (hX.1.meth _ _ _ (by kernel_rfl)) rfl
  (tvs_cons rfl (tv_cn_cell (X:=vX w B e L n) hk hf c2 (by kernel_rfl) (by kernel_rfl) (by kernel_rfl)) (tvs_cons rfl (tv_cn_item (X:=vX w B e L n) hk hp (by kernel_rfl) hn (by rw[hx]at hv;exact hv) hr h1 h2) tvs_nil))
  (Nat.le_refl _) (by kernel_rfl) (by kernel_rfl) (by kernel_rfl) hV (meth_he rfl hline rfl rfl)
end
noncomputable def Xt.est:Xt->Nat
 | .num _=>1
 | .par x=>x.est
 | .lst x=>x.est+1
 | .len x=>x.est+1
 | .neg x=>x.est+1
 | .add l r=>l.est+r.est+1
section
variable {w:World}{B:Heap}
noncomputable abbrev vclS (L:Addr):List (Str×Addr):=[("self",L+1),("frame",L+1+1)]
noncomputable def VOo (w:World)(B:Heap)(kk:Nat)(a:List AV)(k k':Int)(m:Str):Option Vx->Prop
 |some v=>CN w B kk 921 a (mv k) (.ret v.A) (mv k')
 |none=>CN w B kk 921 a (mv k) (merr m) (mv k)
abbrev VOK (w:World)(B:Heap)(kk:Nat)(x:Xt)(k:Int):Prop:=VOo w B kk [.ref 5,.ref 0,.dat (.tup x.nodeL)] k (k+x.est) x.err x.val
theorem lc_val (W:Wd w B){lc:Expr}{e:En}{L n:Nat}{N:List D}{x:Xt}{kd:Str}{k:Int}{kk:Nat}(hl:isLC lc)(he:isMV (lcE lc))(hline:((atP (callF (lcE lc))).endLine==(callP (lcE lc)).line)=true)(hx:lcX lc= "part")(hc:lcChk (lcS lc) (lcX lc)=true)
  (hs:(relabel (lcS lc) (vX w B e L n).f.env).names.lookup ("self" :Str)=some .cell) (hf:(relabel (lcS lc) (vX w B e L n).f.env).names.lookup ("frame" :Str)=some .cell) (hclos:clos (vX w B e L n).f.env.cells (lcS lc).names []=some (vclS L)) (hfs:∀v,foldedSetIterable (lcI lc) (vX w B e L n).f.env v=pure v)
  (hi:TV (vX w B e L n) (eval (lcI lc) (vX w B e L n).f.env) ⟨vL N kd,mv k⟩ (.ok (.dat (.lst [.tup x.nodeL]))) ⟨vL N kd,mv k⟩) (h:VOK w B kk x k) (hn:kk<=n):
  match x.val with
  |some v=>TV (vX w B e L n) (eval lc (vX w B e L n).f.env) ⟨vL N kd,mv k⟩ (.ok (.ref 7)) ⟨vL N kd,mv (k+x.est)++[.dlist [v.D]]⟩
  |none=>TV (vX w B e L n) (eval lc (vX w B e L n).f.env) ⟨vL N kd,mv k⟩ (.ex 107 ["what","at"] [.str x.err,.none]) ⟨vL N kd,mv k⟩:=by
 obtain⟨g1,g2,g3,g4⟩:=lcChk_ok hc
 rw[hx]at g3
 unfold VOK at h
 cases hv:x.val with
 |some v=>
  rw[hv]at h
  have el:=el_val W (N:=N) (kd:=kd) he hline g1 hx g3 hs hf (cl:=vclS L) (by kernel_rfl) (by kernel_rfl) (h n hn)
  exact tv_lcS (okC W (by kernel_rfl)) (r:=.ok [v.D]) (c':=⟨vL N kd,mv (k+x.est)⟩) hl (by kernel_rfl) hfs hclos hc hi
   (.cons (c₁:=⟨vL N kd,mv (k+x.est)⟩) (av:=v.A) (d:=v.D) (by cases v<;>exact el) v.dof rfl (Nat.zero_le _) (.nil rfl rfl)) (λl q=>rfl)
 |none=>
  rw[hv]at h
  have el:=el_val W (N:=N) (kd:=kd) he hline g1 hx g3 hs hf (cl:=vclS L) (by kernel_rfl) (by kernel_rfl) (h n hn)
  exact tv_lcS (okC W (by kernel_rfl)) (r:=.ex 107 ["what","at"] [.str x.err,.none]) (c':=⟨vL N kd,mv k⟩) hl (by kernel_rfl) hfs hclos hc hi (.ex el rfl) (λl q=>by cases q)
theorem lc6_val (W:Wd w B){e:En}{L n:Nat}{x:Xt}{k:Int}{kk:Nat}(h:VOK w B kk x k)(hn:kk<=n):match x.val with
  |some v=>TV (vX w B e L n) (eval lc6 (vX w B e L n).f.env) ⟨vL (Xt.lst x).nodeL "list",mv k⟩ (.ok (.ref 7)) ⟨vL (Xt.lst x).nodeL "list",mv (k+x.est)++[.dlist [v.D]]⟩
  |none=>TV (vX w B e L n) (eval lc6 (vX w B e L n).f.env) ⟨vL (Xt.lst x).nodeL "list",mv k⟩ (.ex 107 ["what","at"] [.str x.err,.none]) ⟨vL (Xt.lst x).nodeL "list",mv k⟩:=lc_val W (lc:=lc6) (e:=e) (L:=L) (n:=n) (N:=(Xt.lst x).nodeL) (kd:= "list") (by kernel_rfl) (by kernel_rfl) (by kernel_rfl) (by kernel_rfl) (by kernel_rfl) (by kernel_rfl) (by kernel_rfl) (by kernel_rfl) (λv=>by kernel_rfl)
 (xpr (okC W (by kernel_rfl)) (or:=[]) trivial) h hn
theorem lc7_val (W:Wd w B){e:En}{L n:Nat}{x:Xt}{k:Int}{kk:Nat}(h:VOK w B kk x k)(hn:kk<=n):match x.val with
  |some v=>TV (vX w B e L n) (eval lc7 (vX w B e L n).f.env) ⟨vL (Xt.len x).nodeL "apply",mv k⟩ (.ok (.ref 7)) ⟨vL (Xt.len x).nodeL "apply",mv (k+x.est)++[.dlist [v.D]]⟩
  |none=>TV (vX w B e L n) (eval lc7 (vX w B e L n).f.env) ⟨vL (Xt.len x).nodeL "apply",mv k⟩ (.ex 107 ["what","at"] [.str x.err,.none]) ⟨vL (Xt.len x).nodeL "apply",mv k⟩:=lc_val W (lc:=lc7) (e:=e) (L:=L) (n:=n) (N:=(Xt.len x).nodeL) (kd:= "apply") (by kernel_rfl) (by kernel_rfl) (by kernel_rfl) (by kernel_rfl) (by kernel_rfl) (by kernel_rfl) (by kernel_rfl) (by kernel_rfl) (λv=>by kernel_rfl)
 (xpr (okC W (by kernel_rfl)) (or:=[]) trivial) h hn
end
section
variable {w:World}{B:Heap}
noncomputable abbrev fS:List Nat:=[0,1,2,3,4]
noncomputable abbrev mS:List Nat:=[0,1,2,3,4,5,6]
noncomputable abbrev vA (x:Xt):List AV:=[.ref 5,.ref 0,.dat (.tup x.nodeL)]
theorem v_neg_i (W:Wd w B){x:Xt}{k k':Int}{kk:Nat}{i:Int}(hk:k+1<=2000)(h:CN w B kk 921 (vA x) (mv (k+1)) (.ret (.int i)) (mv k'))(h5:5<=kk):CN w B (kk+1) 921 (vA (.neg x)) (mv k) (.ret (.int (-i))) (mv k'):=
 CN.ofC (F_value W) rfl (fl:=.ret _) λn hn e L=>way (okC W (by kernel_rfl)) (or:=[.call fS (.ret .none) (fro (.int 5) [] (k+1)),.call mS (.ret (.int i)) (mv k'),.call [] (.ret (.int (-i))) []])
  (aI (c_fcount (.int 5) [] k W hk n (by lia)) (aI (h n hn) (aI (c_one_i W i n (by lia)) trivial)))
theorem v_neg_t (W:Wd w B){x:Xt}{k k':Int}{kk:Nat}{l:List D}{ob:List AO}(hk:k+1<=2000)(h:CN w B kk 921 (vA x) (mv (k+1)) (.ret (.dat (.tup l))) (mv k'))(h5:5<=kk):CN w B (kk+1) 921 (vA (.neg x)) (mv k) (merr mOne) ob:=
 CN.ofC (F_value W) rfl (fl:=merF mOne) λn hn e L=>wayX (okC W (by kernel_rfl)) (or:=[.call fS (.ret .none) (fro (.int 5) [] (k+1)),.call mS (.ret (.dat (.tup l))) (mv k'),.call [] (merr mOne) []])
  (aI (c_fcount (.int 5) [] k W hk n (by lia)) (aI (h n hn) (aI (c_one_t W l n (by lia)) trivial)))
theorem v_neg_x (W:Wd w B){x:Xt}{k:Int}{kk:Nat}{m:Str}{ob ob':List AO}(hk:k+1<=2000)(h:CN w B kk 921 (vA x) (mv (k+1)) (merr m) ob')(h5:5<=kk):CN w B (kk+1) 921 (vA (.neg x)) (mv k) (merr m) ob:=
 CN.ofC (F_value W) rfl (fl:=merF m) λn hn e L=>wayX (okC W (by kernel_rfl)) (or:=[.call fS (.ret .none) (fro (.int 5) [] (k+1)),.call mS (merr m) ob'])
  (aI (c_fcount (.int 5) [] k W hk n (by lia)) (aI (h n hn) trivial))
theorem v_add_l (W:Wd w B){l r:Xt}{k:Int}{kk:Nat}{m:Str}{ob ob':List AO}(hk:k+1<=2000)(h:CN w B kk 921 (vA l) (mv (k+1)) (merr m) ob')(h5:5<=kk):CN w B (kk+1) 921 (vA (.add l r)) (mv k) (merr m) ob:=
 CN.ofC (F_value W) rfl (fl:=merF m) λn hn e L=>wayX (okC W (by kernel_rfl)) (or:=[.call fS (.ret .none) (fro (.int 5) [] (k+1)),.call mS (merr m) ob'])
  (aI (c_fcount (.int 5) [] k W hk n (by lia)) (aI (h n hn) trivial))
theorem v_add_r (W:Wd w B){l r:Xt}{v:Vx}{k k':Int}{kk:Nat}{m:Str}{ob ob':List AO}(hk:k+1<=2000)(h:CN w B kk 921 (vA l) (mv (k+1)) (.ret v.A) (mv k'))(h2:CN w B kk 921 (vA r) (mv k') (merr m) ob')(h5:5<=kk):CN w B (kk+1) 921 (vA (.add l r)) (mv k) (merr m) ob:=by
 cases v with
 |num i=>exact CN.ofC (F_value W) rfl (fl:=merF m) λn hn e L=>wayX (okC W (by kernel_rfl)) (or:=[.call fS (.ret .none) (fro (.int 5) [] (k+1)),.call mS (.ret (.int i)) (mv k'),.call mS (merr m) ob']) (aI (c_fcount (.int 5) [] k W hk n (by lia)) (aI (h n hn) (aI (h2 n hn) trivial)))
 |tup u=>exact CN.ofC (F_value W) rfl (fl:=merF m) λn hn e L=>wayX (okC W (by kernel_rfl)) (or:=[.call fS (.ret .none) (fro (.int 5) [] (k+1)),.call mS (.ret (.dat (.tup [u.D]))) (mv k'),.call mS (merr m) ob']) (aI (c_fcount (.int 5) [] k W hk n (by lia)) (aI (h n hn) (aI (h2 n hn) trivial)))
theorem v_add_ii (W:Wd w B){l r:Xt}{i j:Int}{k k' k'':Int}{kk:Nat}(hs:Small (i+j))(hk:k+1<=2000)(h:CN w B kk 921 (vA l) (mv (k+1)) (.ret (.int i)) (mv k'))(h2:CN w B kk 921 (vA r) (mv k') (.ret (.int j)) (mv k''))(h5:5<=kk):CN w B (kk+1) 921 (vA (.add l r)) (mv k) (.ret (.int (i+j))) (mv k''):=
 CN.ofC (F_value W) rfl (fl:=.ret _) λn hn e L=>way (okC W (by kernel_rfl)) (or:=[.call fS (.ret .none) (fro (.int 5) [] (k+1)),.call mS (.ret (.int i)) (mv k'),.call mS (.ret (.int j)) (mv k''),.call [] (.ret (.int (i+j))) []]) (aI (c_fcount (.int 5) [] k W hk n (by lia)) (aI (h n hn) (aI (h2 n hn) (aI (c_two_ii W i j hs n (by lia)) trivial))))
theorem v_add_it (W:Wd w B){l r:Xt}{i:Int}{d:List D}{k k' k'':Int}{kk:Nat}{ob:List AO}(hk:k+1<=2000)(h:CN w B kk 921 (vA l) (mv (k+1)) (.ret (.int i)) (mv k'))(h2:CN w B kk 921 (vA r) (mv k') (.ret (.dat (.tup d))) (mv k''))(h5:5<=kk):CN w B (kk+1) 921 (vA (.add l r)) (mv k) (merr mAdd) ob:=
 CN.ofC (F_value W) rfl (fl:=merF mAdd) λn hn e L=>wayX (okC W (by kernel_rfl)) (or:=[.call fS (.ret .none) (fro (.int 5) [] (k+1)),.call mS (.ret (.int i)) (mv k'),.call mS (.ret (.dat (.tup d))) (mv k''),.call [] (merr mAdd) []]) (aI (c_fcount (.int 5) [] k W hk n (by lia)) (aI (h n hn) (aI (h2 n hn) (aI (c_two_it W i d n (by lia)) trivial))))
theorem v_add_ti (W:Wd w B){l r:Xt}{j:Int}{d:List D}{k k' k'':Int}{kk:Nat}{ob:List AO}(hk:k+1<=2000)(h:CN w B kk 921 (vA l) (mv (k+1)) (.ret (.dat (.tup d))) (mv k'))(h2:CN w B kk 921 (vA r) (mv k') (.ret (.int j)) (mv k''))(h5:5<=kk):CN w B (kk+1) 921 (vA (.add l r)) (mv k) (merr mAdd) ob:=
 CN.ofC (F_value W) rfl (fl:=merF mAdd) λn hn e L=>wayX (okC W (by kernel_rfl)) (or:=[.call fS (.ret .none) (fro (.int 5) [] (k+1)),.call mS (.ret (.dat (.tup d))) (mv k'),.call mS (.ret (.int j)) (mv k''),.call [] (merr mAdd) []]) (aI (c_fcount (.int 5) [] k W hk n (by lia)) (aI (h n hn) (aI (h2 n hn) (aI (c_two_ti W d j n (by lia)) trivial))))
theorem v_lst_ok (W:Wd w B){x:Xt}{v:Vx}{k:Int}{kk:Nat}(hv:x.val=some v)(hk:k+1<=2000)(h:VOK w B kk x (k+1))(h5:5<=kk):CN w B (kk+1) 921 (vA (.lst x)) (mv k) (.ret (.dat (.tup [v.D]))) (mv (k+1+x.est)):=λn hn=>by
 have lc:=λ(e:En) (L n:Nat) (hn:kk<=n)=>lc6_val W (e:=e) (L:=L) h hn
 rw[hv]at lc
 refine CallOK.trim (obj':=mv (k+1+x.est)) (extra:=[.dlist [v.D]]) (CN.ofC (k:=kk) (F_value W) rfl (fl:=.ret _) (λn hn e L=>?_) n hn) rfl rfl rfl
 cases v with
 |num i=>exact way (okC W (by kernel_rfl)) (or:=[.call fS (.ret .none) (fro (.int 5) [] (k+1)),.val (.ok (.ref 7)) ⟨vL (Xt.lst x).nodeL "list",mv (k+1+x.est)++[.dlist [.int i]]⟩,.call [] (.ret (.dat (.tup [.int i]))) []]) (aI (c_fcount (.int 5) [] k W hk n (by lia)) (aI (lc e L n hn) (aI (show(1:Nat)<=1000 by decide) (aI (c_bnd_t W (.int i) n (by lia)) trivial))))
 |tup u=>exact way (okC W (by kernel_rfl)) (or:=[.call fS (.ret .none) (fro (.int 5) [] (k+1)),.val (.ok (.ref 7)) ⟨vL (Xt.lst x).nodeL "list",mv (k+1+x.est)++[.dlist [.tup [u.D]]]⟩,.call [] (.ret (.dat (.tup [.tup [u.D]]))) []]) (aI (c_fcount (.int 5) [] k W hk n (by lia)) (aI (lc e L n hn) (aI (show(1:Nat)<=1000 by decide) (aI (c_bnd_t W (.tup [u.D]) n (by lia)) trivial))))
theorem v_lst_x (W:Wd w B){x:Xt}{k:Int}{kk:Nat}{ob:List AO}(hv:x.val=none)(hk:k+1<=2000)(h:VOK w B kk x (k+1))(h5:5<=kk):CN w B (kk+1) 921 (vA (.lst x)) (mv k) (merr x.err) ob:=by
 have lc:=λ(e:En) (L n:Nat) (hn:kk<=n)=>lc6_val W (e:=e) (L:=L) h hn
 rw[hv]at lc
 exact CN.ofC (F_value W) rfl (fl:=merF x.err) λn hn e L=>wayX (okC W (by kernel_rfl)) (or:=[.call fS (.ret .none) (fro (.int 5) [] (k+1)),.val (.ex 107 ["what","at"] [.str x.err,.none]) ⟨vL (Xt.lst x).nodeL "list",mv (k+1)⟩])
   (aI (c_fcount (.int 5) [] k W hk n (by lia)) (aI (lc e L n hn) trivial))
theorem v_len_t (W:Wd w B){x:Xt}{u:Vx}{k:Int}{kk:Nat}(hv:x.val=some (.tup u))(hk:k+1<=2000)(h:VOK w B kk x (k+1))(h5:9<=kk):CN w B (kk+1) 921 (vA (.len x)) (mv k) (.ret (.int 1)) (mv (k+1+x.est)):=λn hn=>by
 have lc:=λ(e:En) (L n:Nat) (hn:kk<=n)=>lc7_val W (e:=e) (L:=L) h hn
 rw[hv]at lc
 refine CallOK.trim (obj':=mv (k+1+x.est)) (extra:=[.dlist [.tup [u.D]]]) (CN.ofC (k:=kk) (F_value W) rfl (fl:=.ret _) (λn hn e L=>?_) n hn) rfl rfl rfl
 exact way (okC W (by kernel_rfl)) (or:=[.call fS (.ret .none) (fro (.int 5) [] (k+1)),.val (.ok (.ref 7)) ⟨vL (Xt.len x).nodeL "apply",mv (k+1+x.est)++[.dlist [.tup [u.D]]]⟩,.call [7] (.ret (.int 1)) [.dlist [.tup [u.D]]]])
   (aI (c_fcount (.int 5) [] k W hk n (by lia)) (aI (lc e L n hn) (aI (c_app_t W u.D n (by lia)) trivial)))
theorem v_len_i (W:Wd w B){x:Xt}{i:Int}{k:Int}{kk:Nat}{ob:List AO}(hv:x.val=some (.num i))(hk:k+1<=2000)(h:VOK w B kk x (k+1))(h5:9<=kk):CN w B (kk+1) 921 (vA (.len x)) (mv k) (merr mRow) ob:=by
 have lc:=λ(e:En) (L n:Nat) (hn:kk<=n)=>lc7_val W (e:=e) (L:=L) h hn
 rw[hv]at lc
 exact CN.ofC (F_value W) rfl (fl:=merF mRow) λn hn e L=>wayX (okC W (by kernel_rfl)) (or:=[.call fS (.ret .none) (fro (.int 5) [] (k+1)),.val (.ok (.ref 7)) ⟨vL (Xt.len x).nodeL "apply",mv (k+1+x.est)++[.dlist [.int i]]⟩,.call [7] (merr mRow) [.dlist [.int i]]])
   (aI (c_fcount (.int 5) [] k W hk n (by lia)) (aI (lc e L n hn) (aI (c_app_i W i n (by lia)) trivial)))
theorem v_len_x (W:Wd w B){x:Xt}{k:Int}{kk:Nat}{ob:List AO}(hv:x.val=none)(hk:k+1<=2000)(h:VOK w B kk x (k+1))(h5:5<=kk):CN w B (kk+1) 921 (vA (.len x)) (mv k) (merr x.err) ob:=by
 have lc:=λ(e:En) (L n:Nat) (hn:kk<=n)=>lc7_val W (e:=e) (L:=L) h hn
 rw[hv]at lc
 exact CN.ofC (F_value W) rfl (fl:=merF x.err) λn hn e L=>wayX (okC W (by kernel_rfl)) (or:=[.call fS (.ret .none) (fro (.int 5) [] (k+1)),.val (.ex 107 ["what","at"] [.str x.err,.none]) ⟨vL (Xt.len x).nodeL "apply",mv (k+1)⟩])
   (aI (c_fcount (.int 5) [] k W hk n (by lia)) (aI (lc e L n hn) trivial))
end
section
variable {w:World}{B:Heap}
theorem VOo.up {k k':Int}{x:List AV}{m:Str}{o:Option Vx}{a b:Nat}(h:VOo w B a x k k' m o)(hab:a<=b):VOo w B b x k k' m o:=by
 cases o with
 |some v=>exact CN.up h hab
 |none=>exact CN.up h hab
theorem VOo.gv {k k':Int}{x:List AV}{m:Str}{o:Option Vx}{a:Nat}{v:Vx}(h:VOo w B a x k k' m o)(hv:o=some v):CN w B a 921 x (mv k) (.ret v.A) (mv k'):=by
 subst hv;exact h
theorem VOo.gx {k k':Int}{x:List AV}{m:Str}{o:Option Vx}{a:Nat}(h:VOo w B a x k k' m o)(hv:o=none):CN w B a 921 x (mv k) (merr m) (mv k):=by
 subst hv;exact h
theorem Xt.est_code (x:Xt):x.est<=x.code.length:=by
 induction x with
 |num _=>exact Nat.le_refl _
 |par x ih=>exact ih
 |lst x ih=>show x.est+1<=(x.code++[_]).length;rw[len1];exact Nat.succ_le_succ ih
 |len x ih=>show x.est+1<=(x.code++[_]).length;rw[len1];exact Nat.succ_le_succ ih
 |neg x ih=>show x.est+1<=(x.code++[_]).length;rw[len1];exact Nat.succ_le_succ ih
 |add l r il ir=>show l.est+r.est+1<=(l.code++r.code++[_]).length;rw[len1,List.length_append];exact Nat.succ_le_succ (Nat.add_le_add il ir)
theorem code_le {l:List D}{d:D}{n:Nat}(h:(l++[d]).length<=n):l.length<=n:=Nat.le_of_succ_le (by rw[len1]at h;exact h)
theorem estE (k:Int)(n:Nat):k+((n+1:Nat):Int)=k+1+(n:Int):=by lia
theorem est1 {k:Int}{n:Nat}(h:k+1+(n:Int)<=2000):k+1<=2000:=by lia
theorem b12 (n:Nat){k:Nat}(h:k<=12):k<=n+12:=Nat.le_trans h (Nat.le_add_left _ _)
theorem v_all (W:Wd w B)(x:Xt):∀ (k:Int),x.lin=true->x.code.length<=20000->k+x.est<=2000->VOK w B (x.hgt+12) x k:=by
 induction x with
 |num i=>exact λk hl hc hk=>CN.up (v_num W i k hk) (b12 _ (by decide))
 |par x ih=>exact ih
 |lst x ih=>
  intro k hl hc hk
  have hk:k+((x.est+1:Nat):Int)<=2000:=hk
  rw[estE]at hk
  have ih:=ih (k+1) hl (code_le hc) hk
  show VOo w B (x.hgt+12+1) (vA (.lst x)) k (k+((x.est+1:Nat):Int)) x.err (x.val.map .tup)
  rw[estE]
  cases hv:x.val with
  |some v=>exact v_lst_ok W hv (est1 hk) ih (b12 _ (by decide))
  |none=>exact v_lst_x W hv (est1 hk) ih (b12 _ (by decide))
 |len x ih=>
  intro k hl hc hk
  have hk:k+((x.est+1:Nat):Int)<=2000:=hk
  rw[estE]at hk
  have ih:=ih (k+1) hl (code_le hc) hk
  show VOo w B (x.hgt+12+1) (vA (.len x)) k (k+((x.est+1:Nat):Int)) (x.val.elim x.err λ_=>mRow) (x.val.bind lenV)
  rw[estE]
  cases hv:x.val with
  |some v=>
   cases v with
   |num i=>exact v_len_i W hv (est1 hk) ih (b12 _ (by decide))
   |tup v=>exact v_len_t W hv (est1 hk) ih (b12 _ (by decide))
  |none=>exact v_len_x W hv (est1 hk) ih (b12 _ (by decide))
 |neg x ih=>
  intro k hl hc hk
  have hk:k+((x.est+1:Nat):Int)<=2000:=hk
  rw[estE]at hk
  have ih:=ih (k+1) hl (code_le hc) hk
  show VOo w B (x.hgt+12+1) (vA (.neg x)) k (k+((x.est+1:Nat):Int)) (x.val.elim x.err λ_=>mOne) (x.val.bind negV)
  rw[estE]
  cases hv:x.val with
  |some v=>
   cases v with
   |tup v=>exact v_neg_t W (est1 hk) (ih.gv hv) (b12 _ (by decide))
   |num i=>exact v_neg_i W (est1 hk) (ih.gv hv) (b12 _ (by decide))
  |none=>exact v_neg_x W (est1 hk) (ih.gx hv) (b12 _ (by decide))
 |add l r il ir=>
  intro k hl hc hk
  obtain⟨hlr,hll,hlr2⟩:=Xt.lin_add hl
  have hk:k+((l.est+r.est+1:Nat):Int)<=2000:=hk
  rw[estE,Int.natCast_add,<-Int.add_assoc]at hk
  have hc:=code_le hc
  rw[List.length_append]at hc
  have il:=(il (k+1) hll (Nat.le_trans (Nat.le_add_right _ _) hc) (by lia)).up (b:=max l.hgt r.hgt+12) (Nat.add_le_add_right (Nat.le_max_left _ _) 12)
  have ir:=(ir (k+1+l.est) hlr2 (Nat.le_trans (Nat.le_add_left _ _) hc) hk).up (b:=max l.hgt r.hgt+12) (Nat.add_le_add_right (Nat.le_max_right _ _) 12)
  have hk:=Int.le_trans (Int.le_add_of_nonneg_right (Int.natCast_nonneg _)) hk
  show VOo w B (max l.hgt r.hgt+12+1) (vA (.add l r)) k (k+((l.est+r.est+1:Nat):Int)) (l.val.elim l.err λ_=>r.val.elim r.err λ_=>mAdd) (l.val.bind λa=>r.val.bind (addV a))
  rw[estE,Int.natCast_add,<-Int.add_assoc]
  cases hv:l.val with
  |none=>exact v_add_l W (est1 hk) (il.gx hv) (b12 _ (by decide))
  |some v1=>
   cases hu:r.val with
   |none=>exact v_add_r W (est1 hk) (il.gv hv) (ir.gx hu) (b12 _ (by decide))
   |some v2=>
    cases v1 with
    |num i=>
     cases v2 with
     |num j=>
      refine v_add_ii W (small_of ?_) (est1 hk) (il.gv hv) (ir.gv hu) (b12 _ (by decide))
      have b1:i.natAbs<=_:=Xt.val_le l _ hll hv
      have b2:j.natAbs<=_:=Xt.val_le r _ hlr2 hu
      lia
     |tup v2=>exact v_add_it W (est1 hk) (il.gv hv) (ir.gv hu) (b12 _ (by decide))
    |tup v1=>
     cases v2 with
     |num j=>exact v_add_ti W (est1 hk) (il.gv hv) (ir.gv hu) (b12 _ (by decide))
     |tup v2=>exact(Xt.no_tt hlr hv hu).elim
end
section
variable {w:World}{B:Heap}
noncomputable abbrev msX (w:World)(B:Heap)(e:En)(L n:Nat):Cx:=cxt w B "Machine.statements" (dm 80 6) 909 (.ref 908) e L n
noncomputable abbrev msF:Stmt:=stm (dm 80 6).body 0
noncomputable abbrev msL (l:List D):Loc:=[lv "self" (.ref 5),lv "frame" (.ref 0),lv "nodes" (.dat (.lst l))]
theorem msL_closed (l:List D)(own:D)(k:Int):∀p∈msL l,closedV (mch own [] k).length p.2=true:=by intro p hp;simp at hp;rcases hp with rfl|rfl|rfl<;>rfl
theorem mch_closed (own:D)(k:Int):∀o∈mch own [] k,closedO (mch own [] k).length o=true:=by
 intro o hp
 simp at hp;rcases hp with rfl|rfl|rfl|rfl|rfl|rfl|rfl<;>rfl
theorem ms_one (W:Wd w B){kk:Nat}{N:List D}{own':D}{k k':Int}(hk:k+1<=2000)(h:CN w B kk 916 [.ref 5,.ref 0,.dat (.tup N)] (mv (k+1)) (.ret .none) (mch own' [] k'))(hkk:2<=kk):CN w B (kk+1) 909 [.ref 5,.ref 0,.dat (.lst [.tup N])] (mv k) (.ret .none) (mch own' [] k'):=by
 exact CN.of (F_Machine_statements3 W) rfl (fl:=.next) λn hn e L=>by
      have hX:Ok (msX w B e L n):=okX W
      have hi:ItOK (msX w B e L n) (forI msF) ⟨msL [.tup N],mv k⟩ [.dat (.tup N)] ⟨msL [.tup N],mv k⟩:=it_list (l:=[.tup N]) (xpr hX (or:=[]) trivial)
      have hF:=tf_forS (s:=msF) (by kernel_rfl) hi (tfo_cons (c₁:=⟨msL [.tup N]++[lv "node" (.dat (.tup N))],mch own' [] k'⟩) rfl (by kernel_rfl) rfl rfl
       (λo=>stp hX (or:=[.go,.call fS (.ret .none) (fro (.int 5) [] (k+1)),.call mS (.ret .none) (mch own' [] k')]) (aI (c_fcount (.int 5) [] k W hk n (by lia)) (aI (h n hn) trivial)))
       (TFo.forget rfl Less.app (tfo_nil rfl (msL_closed _ _ _) (mch_closed own' k')))) (λv=>by kernel_rfl)
      exact way hX (or:=[.suite .next ⟨msL [.tup N],mch own' [] k'⟩]) (aI hF trivial)
theorem ms_one_x (W:Wd w B){kk:Nat}{N:List D}{m:Str}{k:Int}{ob ob':List AO}(hk:k+1<=2000)(h:CN w B kk 916 [.ref 5,.ref 0,.dat (.tup N)] (mv (k+1)) (merr m) ob')(hkk:2<=kk):CN w B (kk+1) 909 [.ref 5,.ref 0,.dat (.lst [.tup N])] (mv k) (merr m) ob:=
 CN.of (F_Machine_statements3 W) rfl (fl:=merF m) λn hn e L=>by
  have hX:Ok (msX w B e L n):=okX W
  have hi:ItOK (msX w B e L n) (forI msF) ⟨msL [.tup N],mv k⟩ [.dat (.tup N)] ⟨msL [.tup N],mv k⟩:=it_list (l:=[.tup N]) (xpr hX (or:=[]) trivial)
  have hF:=tf_forS (s:=msF) (by kernel_rfl) hi (tfo_x (C:=107) (ks:=["what","at"]) (l:=[.str m,.none]) (c₂:=⟨[],ob⟩) (c₁:=⟨[],ob⟩) rfl (by kernel_rfl) rfl
   (λo=>stpX hX (or:=[.go,.call fS (.ret .none) (fro (.int 5) [] (k+1)),.call mS (merr m) ob']) (aI (c_fcount (.int 5) [] k W hk n (by lia)) (aI (h n hn) trivial)))) (λv=>by kernel_rfl)
  exact wayX hX (or:=[.suite (merF m) ⟨[],ob⟩]) (aI hF trivial)
noncomputable abbrev smA (s:Sx):List AV:=[.ref 5,.ref 0,.dat (.tup s.nodeL)]
noncomputable abbrev smX (w:World)(B:Heap)(e:En)(L n:Nat):Cx:=cxt w B "Machine.statement" (dm 80 7) 916 (.ref 915) e L n
theorem sm_set (W:Wd w B){x:Xt}{v:Vx}{k k':Int}{kk:Nat}(h:CN w B kk 921 (vA x) (mv k) (.ret v.A) (mv k')):CN w B (kk+1) 916 (smA (.set x)) (mv k) (.ret .none) (mch v.D [] k'):=
 CN.of (F_Machine_statement3 W) rfl (fl:=.next) λn hn e L=>way (okX W) (or:=[.call mS (.ret (.dat v.D)) (mv k')]) (aI (CN.ret (a':=.dat v.D) h (λ_ _ _=>dOf_rep (dOf_avD v.D)) n hn) trivial)
theorem sm_set_x (W:Wd w B){x:Xt}{m:Str}{k:Int}{kk:Nat}{ob ob':List AO}(h:CN w B kk 921 (vA x) (mv k) (merr m) ob'):CN w B (kk+1) 916 (smA (.set x)) (mv k) (merr m) ob:=
 CN.of (F_Machine_statement3 W) rfl (fl:=merF m) λn hn e L=>wayX (okX W) (or:=[.call mS (merr m) ob']) (aI (h n hn) trivial)
theorem v_n1 (W:Wd w B)(k:Int)(hk:k+1<=2000):CN w B 3 921 [.ref 5,.ref 0,.dat (.tup n1)] (mv k) (.ret (.int 1)) (mv (k+1)):=
 CN.ofC (F_value W) rfl (fl:=.ret _) λn hn e L=>way (okC W (by kernel_rfl)) (or:=[.call fS (.ret .none) (fro (.int 5) [] (k+1))]) (aI (c_fcount (.int 5) [] k W hk n (by lia)) trivial)
theorem v_nU (W:Wd w B)(k:Int)(hk:k+1<=2000):CN w B 3 921 [.ref 5,.ref 0,.dat (.tup nU)] (mv k) (.ret (.int 0)) (mv (k+1)):=
 CN.ofC (F_value W) rfl (fl:=.ret _) λn hn e L=>way (okC W (by kernel_rfl)) (or:=[.call fS (.ret .none) (fro (.int 5) [] (k+1))]) (aI (c_fcount (.int 5) [] k W hk n (by lia)) trivial)
theorem sm_iff (W:Wd w B){s:Sx}{own':D}{k k':Int}{kk:Nat}(hk:k+1<=2000)(h:CN w B kk 909 [.ref 5,.ref 0,.dat (.lst [.tup s.nodeL])] (mv (k+1)) (.ret .none) (mch own' [] k'))(hkk:3<=kk):CN w B (kk+1) 916 (smA (.iff s)) (mv k) (.ret .none) (mch own' [] k'):=by
 exact CN.of (F_Machine_statement3 W) rfl (fl:=.next) λn hn e L=>way (okX W) (or:=[.call mS (.ret (.int 1)) (mv (k+1)),.call [] (.ret (.bool true)) [],.call mS (.ret .none) (mch own' [] k')]) (aI (v_n1 W k hk n (by lia)) (aI (c_ist_1 W n (by lia)) (aI (h n hn) trivial)))
theorem sm_iff_x (W:Wd w B){s:Sx}{m:Str}{k:Int}{kk:Nat}{ob ob':List AO}(hk:k+1<=2000)(h:CN w B kk 909 [.ref 5,.ref 0,.dat (.lst [.tup s.nodeL])] (mv (k+1)) (merr m) ob')(hkk:3<=kk):CN w B (kk+1) 916 (smA (.iff s)) (mv k) (merr m) ob:=
 CN.of (F_Machine_statement3 W) rfl (fl:=merF m) λn hn e L=>wayX (okX W) (or:=[.call mS (.ret (.int 1)) (mv (k+1)),.call [] (.ret (.bool true)) [],.call mS (merr m) ob']) (aI (v_n1 W k hk n (by lia)) (aI (c_ist_1 W n (by lia)) (aI (h n hn) trivial)))
theorem sm_els (W:Wd w B){b:Bool}{s:Sx}{own':D}{k k':Int}{kk:Nat}(hk:k+1<=2000)(h:CN w B kk 909 [.ref 5,.ref 0,.dat (.lst [.tup s.nodeL])] (mv (k+1)) (.ret .none) (mch own' [] k'))(hkk:3<=kk):CN w B (kk+1) 916 (smA (.els b s)) (mv k) (.ret .none) (mch own' [] k'):=by
 exact CN.of (F_Machine_statement3 W) rfl (fl:=.next) λn hn e L=>way (okX W) (or:=[.call mS (.ret (.int 0)) (mv (k+1)),.call [] (.ret (.bool false)) [],.call mS (.ret .none) (mch own' [] k')]) (aI (v_nU W k hk n (by lia)) (aI (c_ist_0 W n (by lia)) (aI (h n hn) trivial)))
theorem sm_els_x (W:Wd w B){b:Bool}{s:Sx}{m:Str}{k:Int}{kk:Nat}{ob ob':List AO}(hk:k+1<=2000)(h:CN w B kk 909 [.ref 5,.ref 0,.dat (.lst [.tup s.nodeL])] (mv (k+1)) (merr m) ob')(hkk:3<=kk):CN w B (kk+1) 916 (smA (.els b s)) (mv k) (merr m) ob:=
 CN.of (F_Machine_statement3 W) rfl (fl:=merF m) λn hn e L=>wayX (okX W) (or:=[.call mS (.ret (.int 0)) (mv (k+1)),.call [] (.ret (.bool false)) [],.call mS (merr m) ob']) (aI (v_nU W k hk n (by lia)) (aI (c_ist_0 W n (by lia)) (aI (h n hn) trivial)))
end
noncomputable def Sx.est:Sx->Nat
 | .set x=>x.est
 | .iff s=>s.est+2
 | .whl _=>1
 | .els _ s=>s.est+2
noncomputable def Sx.kE:Sx->Nat
 | .set x=>x.hgt+13
 | .iff s=>s.kE+2
 | .whl s=>13
 | .els _ s=>s.kE+2
theorem Sx.kE13:∀s:Sx,13<=s.kE
 | .set x=>by unfold kE;lia
 | .iff s=>by have:=s.kE13;unfold kE;lia
 | .whl s=>by unfold kE;lia
 | .els _ s=>by have:=s.kE13;unfold kE;lia
theorem Sx.est_clen:∀s:Sx,s.est<=s.clen
 | .set x=>by have:=x.est_code;unfold est clen;lia
 | .iff s=>by have:=s.est_clen;unfold est clen;lia
 | .whl s=>by unfold est clen;lia
 | .els _ s=>by have:=s.est_clen;unfold est clen;lia
section
variable {w:World}{B:Heap}
noncomputable abbrev whS:Stmt:=stm (ifB (stm (elseN 3 (stm (dm 80 7).body 1)) 0)) 0
noncomputable abbrev smL (s:Sx)(kd:Str):Loc:=[lv "self" (.ref 5),lv "frame" (.ref 0),lv "node" (.dat (.tup s.nodeL)),lv "kind" (.str kd)]
theorem sm_whl (W:Wd w B){s:Sx}{k:Int}(hk:k+1<=2000):CN w B 5 916 (smA (.whl s)) (mv k) (.ret .none) (mv (k+1)):=
 CN.of (F_Machine_statement3 W) rfl (fl:=.next) λn hn e L=>by
  have hX:Ok (smX w B e L n):=okX W
  have hT:TW (smX w B e L n) (whT whS) (whB whS) ⟨smL (.whl s) "while",mv k⟩ .next ⟨smL (.whl s) "while",mv (k+1)⟩:=
   tw_false (tst hX (or:=[.call mS (.ret (.int 0)) (mv (k+1)),.call [] (.ret (.bool false)) []]) (aI (v_nU W k hk n (by lia)) (aI (c_ist_0 W n (by lia)) trivial)))
  have hF:=tf_whileS (s:=whS) (by kernel_rfl) hT
  exact way hX (or:=[.suite .next ⟨smL (.whl s) "while",mv (k+1)⟩]) (aI hF trivial)
noncomputable def SVK (w:World)(B:Heap)(kk:Nat)(sm:List AV)(k z:Int)(m:Str):Option D->Prop
 |some own'=>CN w B kk 916 sm (mv k) (.ret .none) (mch own' [] (k+z))
 |none=>CN w B kk 916 sm (mv k) (merr m) (mv k)
theorem s_all (W:Wd w B)(s:Sx):∀ (k:Int),s.lin=true->s.clen<=20000->k+s.est<=2000->SVK w B s.kE (smA s) k s.est s.err (s.res (.int 5)):=by
 induction s with
 |set x=>
  intro k hl hc hk
  have h:=v_all W x k hl (Nat.le_of_succ_le hc) hk
  show SVK _ _ _ _ _ _ x.err (x.val.map Vx.D)
  cases hv:x.val with
  |some v=>exact sm_set W (h.gv hv)
  |none=>exact sm_set_x W (h.gx hv)
 |iff s ih=>
  intro k hl hc hk
  have hk:k+((s.est+2:Nat):Int)<=2000:=hk
  have h13:=s.kE13
  have ih:=ih (k+1+1) hl (Nat.le_trans (Nat.le_add_right _ 2) hc) (by lia)
  show SVK _ _ (s.kE+2) _ k ((s.est+2:Nat):Int) s.err (s.res (.int 5))
  cases hv:s.res (.int 5)with
  |some own'=>
   rw[hv]at ih
   have ih:CN w B s.kE 916 (smA s) (mv (k+1+1)) (.ret .none) (mch own' [] (k+1+1+s.est)):=ih
   rw[show k+1+1+(s.est:Int)=k+((s.est+2:Nat):Int) from by lia]at ih
   exact sm_iff W (by lia) (ms_one W (by lia) ih (by lia)) (by lia)
  |none=>
   rw[hv]at ih
   exact sm_iff_x W (by lia) (ms_one_x (ob:=mv k) W (by lia) ih (by lia)) (by lia)
 |whl s=>
  intro k hl hc hk
  exact CN.up (sm_whl W hk) (show 5<=13 by decide)
 |els b s ih=>
  intro k hl hc hk
  have hk:k+((s.est+2:Nat):Int)<=2000:=hk
  have h13:=s.kE13
  have ih:=ih (k+1+1) hl (Nat.le_trans (Nat.le_add_right _ 3) hc) (by lia)
  show SVK _ _ (s.kE+2) _ k ((s.est+2:Nat):Int) s.err (s.res (.int 5))
  cases hv:s.res (.int 5)with
  |some own'=>
   rw[hv]at ih
   have ih:CN w B s.kE 916 (smA s) (mv (k+1+1)) (.ret .none) (mch own' [] (k+1+1+s.est)):=ih
   rw[show k+1+1+(s.est:Int)=k+((s.est+2:Nat):Int) from by lia]at ih
   exact sm_els W (by lia) (ms_one W (by lia) ih (by lia)) (by lia)
  |none=>
   rw[hv]at ih
   exact sm_els_x W (by lia) (ms_one_x (ob:=mv k) W (by lia) ih (by lia)) (by lia)
theorem c_eval (W:Wd w B)(s:Sx)(hl:s.lin=true)(hz:s.clen<=1900):RunOK w B (s.kE+3) 902 (.dat (.lst [.tup s.nodeL])) s.err (s.res (.int 5)):=by
 have he:=s.est_clen
 have h13:=s.kE13
 have h:=s_all W s (0+1) hl (by lia) (by lia)
 refine RunOD.ok ?_
 cases hv:s.res (.int 5)with
 |some own'=>
  rw[hv]at h
  intro n hn
  have h1:=ms_one W (k:=0) (by decide) h (by lia)
  exact CallOK.trim (obj':=rz0) (extra:=[.ns fks [.ref 2,.ref 3,.none,.dat own',.ref 6,.int (0+1+s.est),.int 2000,.bool false],.inst 848 4,.dlist []])
   ((CN.of (F_Machine_evaluate6 W) rfl (fl:=.ret _) λn hn e L=>way (okX W) (or:=[.call [2,3] (.ret (.ref 3)) fr0,.call [5,4,2,3,6,0,1] (.ret .none) (mch own' [] (0+1+s.est))]) (aI (c_frame W n (by lia)) (aI (h1 n hn) trivial))) n (by lia)) rfl rfl rfl
 |none=>
  rw[hv]at h
  have h1:=ms_one_x (ob:=mv 0) W (by decide) h (by lia)
  exact CN.up (CN.of (F_Machine_evaluate6 W) rfl (fl:=merF s.err) λn hn e L=>wayX (okX W) (or:=[.call [2,3] (.ret (.ref 3)) fr0,.call [5,4,2,3,6,0,1] (merr s.err) (mv 0)]) (aI (c_frame W n (by lia)) (aI (h1 n hn) trivial))) (by lia)
end
noncomputable def plainS:Tk->Bool
 | .sign s=> !decide (s= "=")
 |_=>false
theorem plainS_w {a:Tk}(h:plainS a=true):wordy a=false/\isEq a=false:=by
 cases a<;>first| (cases h;done)|skip
 rename_i s
 have h:(!decide (s=("=" :Str)))=true:=h
 refine⟨rfl,?_⟩
 show decide (s=("=" :Str))=false
 rw[Bool.not_eq_true']at h
 exact h
theorem pair_l {a b:Tk}(h:plainS a=true):pair a b:=by
 obtain⟨h1,h2⟩:=plainS_w h
 unfold pair
 rw[h1,h2]
 exact⟨rfl,rfl⟩
theorem pair_r {a b:Tk}(h:plainS b=true):pair a b:=by
 obtain⟨h1,h2⟩:=plainS_w h
 unfold pair
 rw[h1,h2,Bool.and_false,Bool.and_false]
 exact⟨rfl,rfl⟩
noncomputable def Xt.fig:Xt->Bool
 | .num k=>decide (k=1)||decide (k=2)||decide (k=7)
 | .par x=>x.fig
 | .lst x=>x.fig
 | .len x=>x.fig
 | .neg x=>x.fig
 | .add l r=>l.fig&&r.fig
theorem chn_s {s:Str}{r:List Tk}(h:okT (.sign s))(hp:plainS (.sign s)=true)(hr:chn r):chn (.sign s::r):=⟨h,λy _=>pair_l hp,hr⟩
theorem chn_e {s:Str}{r:List Tk}(h:okT (.sign s))(hp:plainS (.sign s)=true)(hr:chn r):chn (r++[.sign s]):=
 chn_app hr (chn_s h hp trivial) λx y _ hy=>by cases hy;exact pair_r hp
theorem chn_w {k:Tk}{s:Str}{r:List Tk}(h:okT k)(hp:plainS (.sign s)=true)(hr:chn (.sign s::r)):chn (k:: .sign s::r):=⟨h,λy hy=>by cases hy;exact pair_r hp,hr⟩
theorem ok_sg {s:Str}(h:[("(" :Str),")","[","]","{","}",";","-","+","="].contains s=true):okT (.sign s):=by
 have:=List.contains_iff_mem.mp h
 simp only[List.mem_cons,List.not_mem_nil,or_false]at this
 exact this
theorem chn_x:∀x:Xt,x.fig=true->chn x.tk/\∀y,x.tk.head?=some y->isEq y=false
 | .num k,h=>by
  unfold Xt.fig at h
  simp only[Bool.or_eq_true,decide_eq_true_eq]at h
  refine⟨⟨by rcases h with(h|h)|h<;>simp[okT,h],λy hy=>(by cases hy),trivial⟩,λy hy=>?_⟩
  cases hy;rfl
 | .par x,h=>by
  have ih:=chn_x x h
  exact⟨chn_s (ok_sg (by decide+kernel)) (by decide+kernel) (chn_e (ok_sg (by decide+kernel)) (by decide+kernel) ih.1),λy hy=>by cases hy;decide+kernel⟩
 | .lst x,h=>by
  have ih:=chn_x x h
  exact⟨chn_s (ok_sg (by decide+kernel)) (by decide+kernel) (chn_e (ok_sg (by decide+kernel)) (by decide+kernel) ih.1),λy hy=>by cases hy;decide+kernel⟩
 | .len x,h=>by
  have ih:=chn_x x h
  exact⟨chn_w (by simp[okT]) (by decide+kernel) (chn_s (ok_sg (by decide+kernel)) (by decide+kernel) (chn_e (ok_sg (by decide+kernel)) (by decide+kernel) ih.1)),λy hy=>by cases hy;rfl⟩
 | .neg x,h=>by
  have ih:=chn_x x h
  exact⟨chn_s (ok_sg (by decide+kernel)) (by decide+kernel) ih.1,λy hy=>by cases hy;decide+kernel⟩
 | .add l r,h=>by
  unfold Xt.fig at h
  rw[Bool.and_eq_true]at h
  have il:=chn_x l h.1
  have ir:=chn_x r h.2
  have hne:l.tk≠ []:=by cases l<;>(unfold Xt.tk;simp)
  refine⟨chn_app il.1 (chn_s (ok_sg (by decide+kernel)) (by decide+kernel) ir.1) λx y _ hy=>by cases hy;exact pair_r (by decide+kernel),λy hy=>il.2 y (head_app hy hne)⟩
noncomputable def Sx.fig:Sx->Bool
 | .set x=>x.fig
 | .iff s=>s.fig
 | .whl s=>s.fig
 | .els _ s=>s.fig
theorem chn_sx:∀s:Sx,s.fig=true->chn s.tk
 | .set x,h=>by
  have ih:=chn_x x h
  refine⟨trivial,λy hy=>?_,ok_sg (by decide+kernel),λy hy=>?_,ih.1⟩
  ·cases hy;exact⟨rfl,rfl⟩
  ·refine⟨rfl,?_⟩
   rw[ih.2 y hy,Bool.and_false]
 | .iff s,h=>by
  have ih:=chn_sx s h
  exact chn_w (by simp[okT]) (by decide+kernel) (chn_s (ok_sg (by decide+kernel)) (by decide+kernel) (chn_w (by simp[okT]) (by decide+kernel) (chn_s (ok_sg (by decide+kernel)) (by decide+kernel) (chn_s (ok_sg (by decide+kernel)) (by decide+kernel) (chn_e (ok_sg (by decide+kernel)) (by decide+kernel) ih)))))
 | .whl s,h=>by
  have ih:=chn_sx s h
  exact chn_w (by simp[okT]) (by decide+kernel) (chn_s (ok_sg (by decide+kernel)) (by decide+kernel) (chn_w (by simp[okT]) (by decide+kernel) (chn_s (ok_sg (by decide+kernel)) (by decide+kernel) (chn_s (ok_sg (by decide+kernel)) (by decide+kernel) (chn_e (ok_sg (by decide+kernel)) (by decide+kernel) ih)))))
 | .els m s,h=>by
  have ih:=chn_sx s h
  have hb:chn (s.tk++(semi m++[.sign "}"])):=by
   cases m with
   |true=>
    have:s.tk++(semi true++[.sign "}"])=(s.tk++[.sign ";"])++[.sign "}"]:=by rw[List.append_assoc];rfl
    rw[this]
    exact chn_e (ok_sg (by decide+kernel)) (by decide+kernel) (chn_e (ok_sg (by decide+kernel)) (by decide+kernel) ih)
   |false=>exact chn_e (ok_sg (by decide+kernel)) (by decide+kernel) ih
  exact chn_w (by simp[okT]) (by decide+kernel) (chn_s (ok_sg (by decide+kernel)) (by decide+kernel) (chn_w (by simp[okT]) (by decide+kernel) (chn_s (ok_sg (by decide+kernel)) (by decide+kernel) (chn_s (ok_sg (by decide+kernel)) (by decide+kernel) (chn_s (ok_sg (by decide+kernel)) (by decide+kernel) (chn_w (by simp[okT]) (by decide+kernel) (chn_s (ok_sg (by decide+kernel)) (by decide+kernel) hb)))))))
noncomputable def Xt.lvl:Xt->Nat
 | .par x=>x.lvl
 | .neg _=>6
 | .add _ _=>4
 |_=>7
noncomputable def Xt.stx:Xt->Str
 | .num k=>Str.ofString (toString (k:Int))
 | .par x=>x.stx
 | .lst x=> "[" ++x.stx++ "]"
 | .len x=> "len" ++ "(" ++x.stx++ ")"
 | .neg x=> "-" ++(if 6<=x.lvl then x.stx else "(" ++x.stx++ ")")
 | .add l r=>(if 4<=l.lvl then l.stx else "(" ++l.stx++ ")")++ " " ++ "+" ++ " " ++(if 5<=r.lvl then r.stx else "(" ++r.stx++ ")")
noncomputable abbrev Xt.wth (x:Xt)(m:Nat):Str:=if m<=x.lvl then x.stx else "(" ++x.stx++ ")"
theorem Xt.stx_add (l r:Xt):(Xt.add l r).stx=l.wth 4++ " " ++ "+" ++ " " ++r.wth 5:=rfl
theorem Xt.stx_neg (x:Xt):(Xt.neg x).stx= "-" ++x.wth 6:=rfl
theorem Xt.wth_len (x:Xt)(m:Nat):(x.wth m).length<=x.stx.length+2:=by
 unfold wth
 split
 ·lia
 ·rw[Str.length_append,Str.length_append]
  have h1:("(" :Str).length=1:=by kernel_rfl
  have h2:(")" :Str).length=1:=by kernel_rfl
  lia
noncomputable def Xt.dig:Xt->Bool
 | .num k=>decide (k<=9)
 | .par x=>x.dig
 | .lst x=>x.dig
 | .len x=>x.dig
 | .neg x=>x.dig
 | .add l r=>l.dig&&r.dig
theorem dig_len:∀k:Nat,k<=9->(Str.ofString (toString (k:Int))).length=1
 |0,_=>by kernel_rfl
 |1,_=>by kernel_rfl
 |2,_=>by kernel_rfl
 |3,_=>by kernel_rfl
 |4,_=>by kernel_rfl
 |5,_=>by kernel_rfl
 |6,_=>by kernel_rfl
 |7,_=>by kernel_rfl
 |8,_=>by kernel_rfl
 |9,_=>by kernel_rfl
 |k+10,h=>by lia
theorem Xt.stx_len:∀x:Xt,x.dig=true->x.stx.length<=8*x.code.length
 | .num k,h=>by
  have:=dig_len k (of_decide_eq_true h)
  show(Str.ofString (toString (k:Int))).length<=8*1
  lia
 | .par x,h=>x.stx_len h
 | .lst x,h=>by
  have ih:=x.stx_len h
  have hc:(Xt.lst x).code.length=x.code.length+1:=by simp[Xt.code]
  show(("[" :Str)++x.stx++ "]").length<=_
  rw[Str.length_append,Str.length_append,show("[" :Str).length=1 by kernel_rfl,show("]" :Str).length=1 by kernel_rfl]
  lia
 | .len x,h=>by
  have ih:=x.stx_len h
  have hc:(Xt.len x).code.length=x.code.length+1:=by simp[Xt.code]
  show(("len" :Str)++ "(" ++x.stx++ ")").length<=_
  rw[Str.length_append,Str.length_append,Str.length_append,show("len" :Str).length=3 by kernel_rfl,show("(" :Str).length=1 by kernel_rfl,show(")" :Str).length=1 by kernel_rfl]
  lia
 | .neg x,h=>by
  have ih:=x.stx_len h
  have hw:=x.wth_len 6
  have hc:(Xt.neg x).code.length=x.code.length+1:=by simp[Xt.code]
  rw[Xt.stx_neg,Str.length_append,show("-" :Str).length=1 by kernel_rfl]
  lia
 | .add l r,h=>by
  unfold Xt.dig at h
  rw[Bool.and_eq_true]at h
  have il:=l.stx_len h.1
  have ir:=r.stx_len h.2
  have hl:=l.wth_len 4
  have hr:=r.wth_len 5
  have hc:(Xt.add l r).code.length=l.code.length+r.code.length+1:=by simp[Xt.code,Nat.add_assoc]
  rw[Xt.stx_add,Str.length_append,Str.length_append,Str.length_append,Str.length_append,show(" " :Str).length=1 by kernel_rfl,show("+" :Str).length=1 by kernel_rfl]
  lia
section
variable {w:World}{B:Heap}
theorem c_level (W:Wd w B):∀x:Xt,CN w B 1 509 [.dat (.tup x.nodeL)] [] (.ret (.int x.lvl)) []
 | .num k=>CN.of (F_level_of1 W) rfl (fl:=.ret _) λn hn e L=>way (okX W) (or:=[]) trivial
 | .par x=>c_level W x
 | .lst x=>CN.of (F_level_of1 W) rfl (fl:=.ret _) λn hn e L=>way (okX W) (or:=[]) trivial
 | .len x=>CN.of (F_level_of1 W) rfl (fl:=.ret _) λn hn e L=>way (okX W) (or:=[]) trivial
 | .neg x=>CN.of (F_level_of1 W) rfl (fl:=.ret _) λn hn e L=>way (okX W) (or:=[]) trivial
 | .add l r=>CN.of (F_level_of1 W) rfl (fl:=.ret _) λn hn e L=>way (okX W) (or:=[]) trivial
theorem c_within (W:Wd w B){x:Xt}{kk:Nat}(m:Nat)(h:CN w B kk 521 [.dat (.tup x.nodeL)] [] (.ret (.str x.stx)) [])(hz:x.stx.length<500000)(hk:1<=kk):CN w B (kk+1) 516 [.dat (.tup x.nodeL),.int m] [] (.ret (.str (x.wth m))) []:=by
 have hl:=c_level W x
 have h1:("(" :Str).length+x.stx.length<=sizeLine:=by rw[show("(" :Str).length=1 by kernel_rfl,sizeLine_eq];lia
 have h2:(("(" :Str)++x.stx).length+(")" :Str).length<=sizeLine:=by rw[Str.length_append,show("(" :Str).length=1 by kernel_rfl,show(")" :Str).length=1 by kernel_rfl,sizeLine_eq];lia
 unfold Xt.wth
 split
 ·rename_i q
  exact CN.of (F_show_within2 W) rfl (fl:=.ret _) λn hn e L=>way (okX W) (or:=[.call [] (.ret (.str x.stx)) [],.call [] (.ret (.int x.lvl)) [],.br true]) (aI (h n hn) (aI (hl n (by lia)) (aI (show decide ((x.lvl:Int)≥(m:Int))=true from decide_eq_true (by lia)) trivial)))
 ·rename_i q
  exact CN.of (F_show_within2 W) rfl (fl:=.ret _) λn hn e L=>way (okX W) (or:=[.call [] (.ret (.str x.stx)) [],.call [] (.ret (.int x.lvl)) [],.br false]) (aI (h n hn) (aI (hl n (by lia)) (aI (show decide ((x.lvl:Int)≥(m:Int))=false from decide_eq_false (by lia)) (aI h1 (aI h2 trivial)))))
end
noncomputable def binL:Expr->Expr
 | .BinOp l _ _ _=>l
 |_=>default
noncomputable def binR:Expr->Expr
 | .BinOp _ _ r _=>r
 |_=>default
section
variable {w:World}{B:Heap}
noncomputable abbrev sxX (w:World)(B:Heap)(e:En)(L n:Nat):Cx:=cxt w B "show_expression" (df 43) 521 (.ref 520) e L n
noncomputable abbrev lcA:Expr:=hdE (callA (binR (binL (retE (stm (ifB (stm (df 43).body 6)) 0)))))
noncomputable abbrev lcB:Expr:=hdE (callA (binR (binL (retE (stm (ifB (stm (df 43).body 7)) 0)))))
abbrev isSC (e:Expr):Prop:=e=.Call (.Name "show_expression" (nmP (callF e))) [.Name "part" (nmP (hdE (callA e)))] [] (callP e)
example:isLC lcA:=by kernel_rfl
example:isLC lcB:=by kernel_rfl
example:isSC (lcE lcA):=by kernel_rfl
example:isSC (lcE lcB):=by kernel_rfl
noncomputable abbrev sxL (N:List D)(kd:Str):Loc:=[lv "node" (.dat (.tup N)),lv "kind" (.str kd)]
theorem el_show (W:Wd w B){lc:Expr}{e:En}{L n:Nat}{N M:List D}{kd s:Str}(he:isSC (lcE lc))(hk:(lcS lc).kind=.function)(hx:lcX lc= "part")(hp:(lcS lc).names.lookup ("part" :Str)=some .local)(hf:(relabel (lcS lc) (sxX w B e L n).f.env).names.lookup ("show_expression" :Str)=some .globalImplicit)
  (hV:CO w B n 521 [.dat (.tup M)] [] (.ret (.str s)) []):ElOK (sxX w B e L n) (lcE lc) (lcS lc) [] (lcX lc) (.dat (.tup M)) ⟨sxL N kd,[.dlist []]⟩ (.ok (.str s)) ⟨sxL N kd,[.dlist []]⟩:=λe' C m v hn hv hr h1 h2=>by
 have hX:Ok (sxX w B e L n):=okX W
 rw[he]
 exact tv_call (X:=(sxX w B e L n).at e') (c:=⟨sxL N kd,[.dlist []]⟩) (sel:=[]) (fa:=.fn 521) (fv:=.ref 521) (as:=[.dat (.tup M)]) (args':=[.dat (.tup M)]) (view:=[]) (out:=.ret (.str s)) (obj':=[]) hX.1.k hX.2
  (tv_cn_glob (X:=sxX w B e L n) hX hk hf (by kernel_rfl)) (λρ G v r=>r) (hX.1.keep _ (by kernel_rfl)) rfl
  (tvs_cons rfl (tv_cn_item (X:=sxX w B e L n) hk hp (by kernel_rfl) hn (by rw[hx]at hv;exact hv) hr h1 h2) tvs_nil)
  (Nat.le_refl _) (by kernel_rfl) (by kernel_rfl) (by kernel_rfl) hV (call_he (λo n p=>nofun))
theorem lc_show (W:Wd w B){lc:Expr}{e:En}{L n:Nat}{N M:List D}{kd s:Str}(hl:isLC lc)(he:isSC (lcE lc))(hx:lcX lc= "part")(hc:lcChk (lcS lc) (lcX lc)=true)
  (hf:(relabel (lcS lc) (sxX w B e L n).f.env).names.lookup ("show_expression" :Str)=some .globalImplicit) (hclos:clos (sxX w B e L n).f.env.cells (lcS lc).names []=some []) (hfs:∀v,foldedSetIterable (lcI lc) (sxX w B e L n).f.env v=pure v)
  (hi:TV (sxX w B e L n) (eval (lcI lc) (sxX w B e L n).f.env) ⟨sxL N kd,[]⟩ (.ok (.dat (.lst [.tup M]))) ⟨sxL N kd,[]⟩) (hV:CO w B n 521 [.dat (.tup M)] [] (.ret (.str s)) []):
  TV (sxX w B e L n) (eval lc (sxX w B e L n).f.env) ⟨sxL N kd,[]⟩ (.ok (.ref 0)) ⟨sxL N kd,[.dlist [.str s]]⟩:=by
 obtain⟨g1,g2,g3,g4⟩:=lcChk_ok hc
 rw[hx]at g3
 have el:=el_show W (N:=N) (kd:=kd) he g1 hx g3 hf hV
 exact tv_lcS (okX W) (r:=.ok [.str s]) (c':=⟨sxL N kd,[]⟩) hl (by kernel_rfl) hfs hclos hc hi
   (.cons (c₁:=⟨sxL N kd,[]⟩) (av:=.str s) (d:=.str s) el rfl rfl (Nat.zero_le _) (.nil rfl rfl)) (λl q=>rfl)
theorem join_1 {s:Str}(h:s.length<500000):partsOfD [D.str s]=List.map AV.str [s]/\Builtin.Str.tooLong (Array.foldl (λx1 x2=>x1+x2.length+(", " :Str).length) 0 #[s])=false/\(joinS ", " [s]).length<=sizeLine:=by
 refine⟨rfl,?_,?_⟩
 ·show decide (0+s.length+(", " :Str).length>sizeLine)=false
  rw[show(", " :Str).length=2 by kernel_rfl,sizeLine_eq]
  exact decide_eq_false (by lia)
 ·show s.length<=sizeLine
  rw[sizeLine_eq];lia
theorem sh_num (W:Wd w B)(k:Nat)(h:k<=9):CN w B 1 521 [.dat (.tup (Xt.num k).nodeL)] [] (.ret (.str (Xt.num k).stx)) []:=
 CN.of (F_show_expression1 W) rfl (fl:=.ret _) λn hn e L=>way (okX W) (or:=[]) (aI (show((k:Int)).natAbs.log2<1920 by
  rw[Int.natAbs_natCast]
  by_cases h0:k=0
  ·subst h0;decide
  ·have:=(Nat.log2_lt h0 (k:=4)).mpr (by lia);lia) trivial)
theorem sh_lst (W:Wd w B){x:Xt}{kk:Nat}(h:CN w B kk 521 [.dat (.tup x.nodeL)] [] (.ret (.str x.stx)) [])(hz:x.stx.length<400000):CN w B (kk+1) 521 [.dat (.tup (Xt.lst x).nodeL)] [] (.ret (.str (Xt.lst x).stx)) []:=λn hn=>by
 have h1:("[" :Str).length+(joinS ", " [x.stx]).length<=sizeLine:=by show("[" :Str).length+x.stx.length<=sizeLine;rw[show("[" :Str).length=1 by kernel_rfl,sizeLine_eq];lia
 have h2:(("[" :Str)++joinS ", " [x.stx]).length+("]" :Str).length<=sizeLine:=by show(("[" :Str)++x.stx).length+("]" :Str).length<=sizeLine;rw[Str.length_append,show("[" :Str).length=1 by kernel_rfl,show("]" :Str).length=1 by kernel_rfl,sizeLine_eq];lia
 refine CallOK.trim (obj':=[]) (extra:=[.dlist [.str x.stx]]) (CN.of (k:=kk) (F_show_expression1 W) rfl (fl:=.ret _) (λn hn e L=>?_) n hn) rfl rfl rfl
 have lc:=lc_show W (lc:=lcB) (e:=e) (L:=L) (n:=n) (N:=(Xt.lst x).nodeL) (kd:= "list") (by kernel_rfl) (by kernel_rfl) (by kernel_rfl) (by kernel_rfl) (by kernel_rfl) (by kernel_rfl) (λv=>by kernel_rfl) (xpr (okX W) (or:=[]) trivial) (h n hn)
 exact way (okX W) (or:=[.val (.ok (.ref 0)) ⟨sxL (Xt.lst x).nodeL "list",[.dlist [.str x.stx]]⟩,.join [x.stx]]) (aI lc (aI (join_1 (s:=x.stx) (by lia)) (aI h1 (aI h2 trivial))))
theorem sh_len (W:Wd w B){x:Xt}{kk:Nat}(h:CN w B kk 521 [.dat (.tup x.nodeL)] [] (.ret (.str x.stx)) [])(hz:x.stx.length<400000):CN w B (kk+1) 521 [.dat (.tup (Xt.len x).nodeL)] [] (.ret (.str (Xt.len x).stx)) []:=λn hn=>by
 have h0:("len" :Str).length+("(" :Str).length<=sizeLine:=by rw[show("len" :Str).length=3 by kernel_rfl,show("(" :Str).length=1 by kernel_rfl,sizeLine_eq];lia
 have h1:(("len" :Str)++ "(").length+(joinS ", " [x.stx]).length<=sizeLine:=by show(("len" :Str)++ "(").length+x.stx.length<=sizeLine;rw[show(("len" :Str)++ "(").length=4 by kernel_rfl,sizeLine_eq];lia
 have h2:(("len" :Str)++ "(" ++joinS ", " [x.stx]).length+(")" :Str).length<=sizeLine:=by show(("len" :Str)++ "(" ++x.stx).length+(")" :Str).length<=sizeLine;rw[Str.length_append,show(("len" :Str)++ "(").length=4 by kernel_rfl,show(")" :Str).length=1 by kernel_rfl,sizeLine_eq];lia
 refine CallOK.trim (obj':=[]) (extra:=[.dlist [.str x.stx]]) (CN.of (k:=kk) (F_show_expression1 W) rfl (fl:=.ret _) (λn hn e L=>?_) n hn) rfl rfl rfl
 have lc:=lc_show W (lc:=lcA) (e:=e) (L:=L) (n:=n) (N:=(Xt.len x).nodeL) (kd:= "apply") (by kernel_rfl) (by kernel_rfl) (by kernel_rfl) (by kernel_rfl) (by kernel_rfl) (by kernel_rfl) (λv=>by kernel_rfl) (xpr (okX W) (or:=[]) trivial) (h n hn)
 exact way (okX W) (or:=[.val (.ok (.ref 0)) ⟨sxL (Xt.len x).nodeL "apply",[.dlist [.str x.stx]]⟩,.join [x.stx]]) (aI h0 (aI lc (aI (join_1 (s:=x.stx) (by lia)) (aI h1 (aI h2 trivial)))))
theorem sh_neg (W:Wd w B){x:Xt}{kk:Nat}(h:CN w B kk 521 [.dat (.tup x.nodeL)] [] (.ret (.str x.stx)) [])(hz:x.stx.length<400000)(hk:1<=kk):CN w B (kk+2) 521 [.dat (.tup (Xt.neg x).nodeL)] [] (.ret (.str (Xt.neg x).stx)) []:=by
 have hw:=c_within W 6 h (by lia) hk
 have hwl:=x.wth_len 6
 have h1:("-" :Str).length+(x.wth 6).length<=sizeLine:=by rw[show("-" :Str).length=1 by kernel_rfl,sizeLine_eq];lia
 rw[Xt.stx_neg]
 generalize x.wth 6=s at hw h1 ⊢
 exact CN.of (F_show_expression1 W) rfl (k:=kk+1) (fl:=.ret _) λn hn e L=>way (okX W) (or:=[.call [] (.ret (.str s)) []]) (aI (hw n hn) (aI h1 trivial))
end
end Mine
namespace Mine
open PySem PySem.W PyProof.Rows PySem.Calls PySem.SeqAt
section
variable {X:Cx}{c:St}
theorem tv_dget (O:Ok X)(hd:(X.f.cl.map (·.1)).Nodup){k1 k2 v1 v2 x:Str}{z1 z2 z3 z4:Nat}{p1 p2 p3 p4 dp ap pos:Pos}{kn nd:Expr}{a:AV}(hx1:k1≠x)(hx2:k2≠x)(h12:k1≠k2)(hp:plainArgs [kn,nd]=true)(hline:(ap.endLine==pos.line)=true)
  (hn:∀e',TVs (X.at e') (spliced (backTo pos (starEach [kn,nd] X.f.env))) c (.ok [.str x,a]) c):
  TV X (eval (.Call (.Attribute (.Dict [some (.Constant (.str k1) z1 p1),some (.Constant (.str k2) z2 p2)] [.Constant (.str v1) z3 p3,.Constant (.str v2) z4 p4] dp) "get" ap) [kn,nd] [] pos) X.f.env) c (.ok a) c:=λA ρ G s rm fo i=>by
 have offD:=off_new i (fresh_size s)
 have lo:(s.heap.objs.size==sysModules)=false:=by
  cases z:s.heap.objs.size==sysModules with
  |false=>rfl
  |true=>
   obtain⟨o,ho⟩:=O.1.sys
   have:=i.h.frz _ _ (i.h.base _ _ ho)
   rw[<-beq_iff_eq.mp z,fresh_size]at this;cases this
 have he:=meth_he (o:=.Dict [some (.Constant (.str k1) z1 p1),some (.Constant (.str k2) z2 p2)] [.Constant (.str v1) z3 p3,.Constant (.str v2) z4 p4] dp) (name:= "get") (env:=X.f.env) (apos:=ap) (pos:=pos) (args:=[kn,nd]) rfl hline hp rfl
 generalize hpl:(do return(<-importBound (.Dict [some (.Constant (.str k1) z1 p1),some (.Constant (.str k2) z2 p2)] [.Constant (.str v1) z3 p3,.Constant (.str v2) z4 p4] dp) X.f.env).getD true:Sem Bool)=pl at he
 refine MethodCall_ ?_ he
 refine wpAny_Dict_walk (knd:=PySem.strKind X.prog X.w) ?_ ?_ ?_ ?_ ?_
 ·rfl
 ·rfl
 ·exact List.cons_ne_nil _ _
 ·show 2<=15
  decide
 refine pairTrees_cons_walk ?_
 refine wpAny_Constant_str ?_
 refine wpAny_Constant_str ?_
 refine pairTrees_cons_walk ?_
 refine wpAny_Constant_str ?_
 refine wpAny_Constant_str ?_
 refine pairTrees_nil_walk ?_
 refine⟨[(k1,_),(k2,_)],⟨strKind_is X.prog X.w _ _,rfl,strKind_is X.prog X.w _ _,rfl,trivial⟩,Heap.DictOf.new s.heap,λh' hD hsb=>?_⟩
 have keep:∀b o,s.heap.get? b=some o->h'.get? b=some o:=λb o q=>(hsb.2 b (λz=>by rw[z,fresh_size]at q;cases q)).trans (push_keeps _ _ _ _ q)
 refine getMethod_builtin (T:= "dict") hD.typeIs F.plainAttrs_dict F.slot_dict_get F.type_dict_get hD.mapOf.noDict ?_
 have fin2:∀tk:Nat,wpAny (model X.prog X.w) A (callWith pos (.builtin "dict.get") [.ref s.heap.objs.size] (backTo pos (starEach [kn,nd] X.f.env)) []) (QV X.B X.f X.e ρ G (.ok a) c) (QX X.B X.f X.e G (.ok a)) {s with heap:=h',toks:=tk}:=λtk=>by
  have i':=i.ext (s':= {s with heap:=h',toks:=tk}) keep rfl rfl
  have J:=i'.base hd
  have fo':=FrOK.base fo i' hd
  refine wp_callM (env:=X.f.env) (args:=[kn,nd]) (λh=>Looks.of_pure rfl) hp (
   wpAny_mono (hn (enAt X.f X.e ρ G {s with heap:=h',toks:=tk}) A ρ G _ rm fo' J) (λvs s₂ z=>by
    obtain⟨ρ₂,G₂,p₂,q₂,I₂,r₂⟩:=z
    refine rv2 r₂ λu u' ⟨t,hu⟩ ru=>?_
    ·subst hu
     obtain⟨o,es,ep,g1,g2⟩:=hD
     have g1':=(I₂.r.keep _ o ((hid_out (off_hides offD hd)).trans g1) offD.nρ).1 (offD.outL fo)
     have hD₂:s₂.heap.DictOf (PySem.strKind X.prog X.w) s.heap.objs.size _:=⟨o,es,ep,g1',g2⟩
     refine call_meetsIn F.slot_dict_get hD₂.typeIs F.entry_dict_get (F.args_dict_get_3 _ _ _) (meets_dict_get_default _ _ (strKind_is X.prog X.w _ t) lo _) ⟨_,hD₂.mapOf,?_⟩
     have hv:∀a b:Value,valueAt (merged [] [(k1,a),(k2,b)]) x=none:=λa b=>by
      simp[merged,stored,valueAt,hx1,hx2,h12]
     rw[hv]
     exact⟨ρ₂,G₂,p₂,q₂,(i'.unbase hd I₂).toks,ru⟩) λ_ _ z=>z.elim)
 exact fin2 _
end
theorem tv_dget' {X:Cx}{c:St}{d:Expr}{k1 k2 v1 v2 x:Str}{z1 z2 z3 z4:Nat}{p1 p2 p3 p4 dp ap pos:Pos}{kn nd:Expr}{a:AV}(he:d=.Call (.Attribute (.Dict [some (.Constant (.str k1) z1 p1),some (.Constant (.str k2) z2 p2)] [.Constant (.str v1) z3 p3,.Constant (.str v2) z4 p4] dp) "get" ap) [kn,nd] [] pos)
  (O:Ok X) (hd:(X.f.cl.map (·.1)).Nodup) (hx1:k1≠x) (hx2:k2≠x) (h12:k1≠k2) (hp:plainArgs [kn,nd]=true) (hline:(ap.endLine==pos.line)=true)
  (hn:∀e',TVs (X.at e') (spliced (backTo pos (starEach [kn,nd] X.f.env))) c (.ok [.str x,a]) c):TV X (eval d X.f.env) c (.ok a) c:=by
 subst he
 exact @tv_dget X c O hd k1 k2 v1 v2 x z1 z2 z3 z4 p1 p2 p3 p4 dp ap pos kn nd a hx1 hx2 h12 hp hline hn
end Mine
namespace Mine
open PySem PySem.W PyProof PyProof.Rows PySem.Calls PySem.SeqAt
noncomputable def cZ:Expr->Nat
 | .Constant _ z _=>z
 |_=>0
noncomputable def cP:Expr->Pos
 | .Constant _ _ p=>p
 |_=>default
noncomputable def dKs:Expr->List (Option Expr)
 | .Dict ks _ _=>ks
 |_=>[]
noncomputable def dVs:Expr->List Expr
 | .Dict _ vs _=>vs
 |_=>[]
noncomputable def dPos:Expr->Pos
 | .Dict _ _ p=>p
 |_=>default
noncomputable def oE1:List (Option Expr)->Expr
 |some e::_=>e
 |_=>default
noncomputable def oE2:List (Option Expr)->Expr
 |_::some e::_=>e
 |_=>default
abbrev isDG (e:Expr):Prop:=e=.Call (.Attribute (.Dict [some (.Constant (.str "either") (cZ (oE1 (dKs (atO (callF e))))) (cP (oE1 (dKs (atO (callF e)))))),some (.Constant (.str "both") (cZ (oE2 (dKs (atO (callF e))))) (cP (oE2 (dKs (atO (callF e))))))]
 [.Constant (.str "||") (cZ (hdE (dVs (atO (callF e))))) (cP (hdE (dVs (atO (callF e))))),.Constant (.str "&&") (cZ (sndE (dVs (atO (callF e))))) (cP (sndE (dVs (atO (callF e)))))] (dPos (atO (callF e)))) "get" (atP (callF e))) [hdE (callA e),sndE (callA e)] [] (callP e)
section
variable {w:World}{B:Heap}
noncomputable abbrev dgE:Expr:=asgV (stm (df 43).body 10)
example:isDG dgE:=by kernel_rfl
noncomputable abbrev sx2 (N:List D):Loc:=[lv "node" (.dat (.tup N)),lv "kind" (.str "two"),lv "level" (.int 4)]
theorem dg_two (W:Wd w B){e:En}{L n:Nat}{M M':List D}:TV (sxX w B e L n) (eval dgE (sxX w B e L n).f.env) ⟨sx2 [.str "two",.str "+",.tup M,.tup M'],[]⟩ (.ok (.str "+")) ⟨sx2 [.str "two",.str "+",.tup M,.tup M'],[]⟩:=by
 have hX:Ok (sxX w B e L n):=okX W
 have he:isDG dgE:=by kernel_rfl
 have hn:∀e',TVs ((sxX w B e L n).at e') (spliced (backTo (callP dgE) (starEach [hdE (callA dgE),sndE (callA dgE)] (sxX w B e L n).f.env))) ⟨sx2 [.str "two",.str "+",.tup M,.tup M'],[]⟩ (.ok [.str "two",.str "+"]) ⟨sx2 [.str "two",.str "+",.tup M,.tup M'],[]⟩:=λe'=>xps (X:=(sxX w B e L n).at e') (hX.at e') (or:=[]) trivial (by kernel_rfl)
 exact @tv_dget' (sxX w B e L n) ⟨sx2 [.str "two",.str "+",.tup M,.tup M'],[]⟩ dgE "either" "both" "||" "&&" "two" (cZ (oE1 (dKs (atO (callF dgE))))) (cZ (oE2 (dKs (atO (callF dgE))))) (cZ (hdE (dVs (atO (callF dgE))))) (cZ (sndE (dVs (atO (callF dgE))))) (cP (oE1 (dKs (atO (callF dgE))))) (cP (oE2 (dKs (atO (callF dgE))))) (cP (hdE (dVs (atO (callF dgE))))) (cP (sndE (dVs (atO (callF dgE))))) (dPos (atO (callF dgE))) (atP (callF dgE)) (callP dgE) (hdE (callA dgE)) (sndE (callA dgE)) (.str "+")
  he hX List.nodup_nil (by decide+kernel) (by decide+kernel) (by decide+kernel) (by kernel_rfl) (by kernel_rfl) hn
theorem sh_add (W:Wd w B){l r:Xt}{kk:Nat}(hl:CN w B kk 521 [.dat (.tup l.nodeL)] [] (.ret (.str l.stx)) [])(hr:CN w B kk 521 [.dat (.tup r.nodeL)] [] (.ret (.str r.stx)) [])(zl:l.stx.length<200000)(zr:r.stx.length<200000)(hk:1<=kk):CN w B (kk+2) 521 [.dat (.tup (Xt.add l r).nodeL)] [] (.ret (.str (Xt.add l r).stx)) []:=by
 have h1:=c_within W 4 hl (by lia) hk
 have h2:=c_within W 5 hr (by lia) hk
 have w1:=l.wth_len 4
 have w2:=r.wth_len 5
 have hv:=c_level W (.add l r)
 rw[Xt.stx_add]
 generalize l.wth 4=s at h1 w1 ⊢
 generalize r.wth 5=t at h2 w2 ⊢
 have e1:(" " :Str).length=1:=by kernel_rfl
 have e2:("+" :Str).length=1:=by kernel_rfl
 have z1:s.length+(" " :Str).length<=sizeLine:=by rw[e1,sizeLine_eq];lia
 have z2:(s++ " ").length+("+" :Str).length<=sizeLine:=by rw[Str.length_append,e1,e2,sizeLine_eq];lia
 have z3:(s++ " " ++ "+").length+(" " :Str).length<=sizeLine:=by rw[Str.length_append,Str.length_append,e1,e2,sizeLine_eq];lia
 have z4:(s++ " " ++ "+" ++ " ").length+t.length<=sizeLine:=by rw[Str.length_append,Str.length_append,Str.length_append,e1,e2,sizeLine_eq];lia
 exact CN.of (F_show_expression1 W) rfl (k:=kk+1) (fl:=.ret _) λn hn e L=>way (okX W) (or:=[.call [] (.ret (.int 4)) [],.val (.ok (.str "+")) ⟨sx2 (Xt.add l r).nodeL,[]⟩,.call [] (.ret (.str s)) [],.call [] (.ret (.str t)) []])
  (aI (hv n (by lia)) (aI (dg_two W (e:=e) (L:=L) (n:=n) (M:=l.nodeL) (M':=r.nodeL)) (aI (h1 n hn) (aI z1 (aI z2 (aI z3 (aI (h2 n hn) (aI z4 trivial))))))))
noncomputable def Xt.kH:Xt->Nat
 | .num _=>1
 | .par x=>x.kH
 | .lst x=>x.kH+1
 | .len x=>x.kH+1
 | .neg x=>x.kH+2
 | .add l r=>max l.kH r.kH+2
theorem Xt.kH1:∀x:Xt,1<=x.kH
 | .num _=>Nat.le_refl _
 | .par x=>x.kH1
 | .lst x=>by unfold kH;lia
 | .len x=>by unfold kH;lia
 | .neg x=>by unfold kH;lia
 | .add l r=>by unfold kH;lia
theorem c_show (W:Wd w B):∀x:Xt,x.dig=true->x.code.length<=20000->CN w B x.kH 521 [.dat (.tup x.nodeL)] [] (.ret (.str x.stx)) []
 | .num k,h,hc=>sh_num W k (of_decide_eq_true h)
 | .par x,h,hc=>c_show W x h hc
 | .lst x,h,hc=>by
  have hlen:(Xt.lst x).code.length=x.code.length+1:=by simp[Xt.code]
  have:=x.stx_len h
  exact sh_lst W (c_show W x h (by lia)) (by lia)
 | .len x,h,hc=>by
  have hlen:(Xt.len x).code.length=x.code.length+1:=by simp[Xt.code]
  have:=x.stx_len h
  exact sh_len W (c_show W x h (by lia)) (by lia)
 | .neg x,h,hc=>by
  have hlen:(Xt.neg x).code.length=x.code.length+1:=by simp[Xt.code]
  have:=x.stx_len h
  exact sh_neg W (c_show W x h (by lia)) (by lia) x.kH1
 | .add l r,h,hc=>by
  have hlen:(Xt.add l r).code.length=l.code.length+r.code.length+1:=by simp[Xt.code,Nat.add_assoc]
  unfold Xt.dig at h
  rw[Bool.and_eq_true]at h
  have:=l.stx_len h.1
  have:=r.stx_len h.2
  exact sh_add W ((c_show W l h.1 (by lia)).up (Nat.le_max_left _ _)) ((c_show W r h.2 (by lia)).up (Nat.le_max_right _ _)) (by lia) (by lia) (by have:=l.kH1;lia)
end
section
variable {w:World}{B:Heap}
noncomputable abbrev shaX (w:World)(B:Heap)(e:En)(L n:Nat):Cx:=cxt w B "show_action" (df 46) 540 (.ref 539) e L n
noncomputable abbrev lcC:Expr:=hdE (callA (retE (stm (df 46).body 0)))
abbrev isSC2 (e:Expr):Prop:=e=.Call (.Name "show_statement" (nmP (callF e))) [.Name "node" (nmP (hdE (callA e)))] [] (callP e)
noncomputable abbrev shaL (N:List D):Loc:=[lv "nodes" (.dat (.lst [.tup N]))]
theorem el_sa (W:Wd w B){e:En}{L n:Nat}{N:List D}{s:Str}(hV:CO w B n 535 [.dat (.tup N)] [] (.ret (.str s)) []):ElOK (shaX w B e L n) (lcE lcC) (lcS lcC) [] (lcX lcC) (.dat (.tup N)) ⟨shaL N,[.dlist []]⟩ (.ok (.str s)) ⟨shaL N,[.dlist []]⟩:=λe' C m v hn hv hr h1 h2=>by
 have hX:Ok (shaX w B e L n):=okX W
 have he:isSC2 (lcE lcC):=by kernel_rfl
 have hx:lcX lcC= "node" :=by kernel_rfl
 have hc:lcChk (lcS lcC) (lcX lcC)=true:=by kernel_rfl
 obtain⟨g1,g2,g3,g4⟩:=lcChk_ok hc
 rw[hx]at g3 hv
 rw[he]
 exact tv_call (X:=(shaX w B e L n).at e') (c:=⟨shaL N,[.dlist []]⟩) (sel:=[]) (fa:=.fn 535) (fv:=.ref 535) (as:=[.dat (.tup N)]) (args':=[.dat (.tup N)]) (view:=[]) (out:=.ret (.str s)) (obj':=[]) hX.1.k hX.2
  (tv_cn_glob (X:=shaX w B e L n) hX g1 (by kernel_rfl) (by kernel_rfl)) (λρ G v r=>r) (hX.1.keep _ (by kernel_rfl)) rfl
  (tvs_cons rfl (tv_cn_item (X:=shaX w B e L n) g1 g3 (by kernel_rfl) hn hv hr h1 h2) tvs_nil)
  (Nat.le_refl _) (by kernel_rfl) (by kernel_rfl) (by kernel_rfl) hV (call_he (λo n p=>nofun))
theorem lc_sa (W:Wd w B){e:En}{L n:Nat}{N:List D}{s:Str}(hV:CO w B n 535 [.dat (.tup N)] [] (.ret (.str s)) []):
  TV (shaX w B e L n) (eval lcC (shaX w B e L n).f.env) ⟨shaL N,[]⟩ (.ok (.ref 0)) ⟨shaL N,[.dlist [.str s]]⟩:=
 tv_lcS (okX W) (r:=.ok [.str s]) (c':=⟨shaL N,[]⟩) (by kernel_rfl) (by kernel_rfl) (λv=>by kernel_rfl) (by kernel_rfl) (by kernel_rfl) (xpr (okX W) (or:=[]) (r:=.ok (.dat (.lst [.tup N]))) trivial)
  (.cons (c₁:=⟨shaL N,[]⟩) (av:=.str s) (d:=.str s) (el_sa W hV) rfl rfl (Nat.zero_le _) (.nil rfl rfl)) (λl q=>rfl)
theorem join_2 {s:Str}(h:s.length<500000):partsOfD [D.str s]=List.map AV.str [s]/\Builtin.Str.tooLong (Array.foldl (λx1 x2=>x1+x2.length+("; " :Str).length) 0 #[s])=false/\(joinS "; " [s]).length<=sizeLine:=by
 refine⟨rfl,?_,?_⟩
 ·show decide (0+s.length+("; " :Str).length>sizeLine)=false
  rw[show("; " :Str).length=2 by kernel_rfl,sizeLine_eq]
  exact decide_eq_false (by lia)
 ·show s.length<=sizeLine
  rw[sizeLine_eq];lia
theorem sa_one (W:Wd w B){N:List D}{s:Str}{kk:Nat}(h:CN w B kk 535 [.dat (.tup N)] [] (.ret (.str s)) [])(hz:s.length<400000):CN w B (kk+1) 540 [.dat (.lst [.tup N])] [] (.ret (.str s)) []:=λn hn=>by
 refine CallOK.trim (obj':=[]) (extra:=[.dlist [.str s]]) (CN.of (k:=kk) (F_show_action1 W) rfl (fl:=.ret _) (λn hn e L=>?_) n hn) rfl rfl rfl
 exact way (okX W) (or:=[.val (.ok (.ref 0)) ⟨shaL N,[.dlist [.str s]]⟩,.join [s]]) (aI (lc_sa W (e:=e) (L:=L) (h n hn)) (aI (join_2 (s:=s) (by lia)) trivial))
noncomputable abbrev blk (s:Str):Str:= "{ " ++s++ " }"
theorem blk_len (s:Str):(blk s).length=s.length+4:=by
 unfold blk
 rw[Str.length_append,Str.length_append,show("{ " :Str).length=2 by kernel_rfl,show(" }" :Str).length=2 by kernel_rfl]
 lia
theorem sb_one (W:Wd w B){N:List D}{s:Str}{kk:Nat}(h:CN w B kk 540 [.dat (.lst [.tup N])] [] (.ret (.str s)) [])(hz:s.length<400000):CN w B (kk+1) 528 [.dat (.lst [.tup N])] [] (.ret (.str (blk s))) []:=by
 have z1:("{ " :Str).length+s.length<=sizeLine:=by rw[show("{ " :Str).length=2 by kernel_rfl,sizeLine_eq];lia
 have z2:(("{ " :Str)++s).length+(" }" :Str).length<=sizeLine:=by rw[Str.length_append,show("{ " :Str).length=2 by kernel_rfl,show(" }" :Str).length=2 by kernel_rfl,sizeLine_eq];lia
 exact CN.of (F_show_block1 W) rfl (fl:=.ret _) λn hn e L=>way (okX W) (or:=[.fz,.call [] (.ret (.str s)) []]) (aI (h n hn) (aI z1 (aI z2 trivial)))
theorem sb_nil (W:Wd w B):CN w B 1 528 [.dat (.lst [])] [] (.ret (.str "{ }")) []:=
 CN.of (F_show_block1 W) rfl (fl:=.ret _) λn hn e L=>way (okX W) (or:=[.fz]) trivial
theorem sh_U (W:Wd w B):CN w B 1 521 [.dat (.tup nU)] [] (.ret (.str "u")) []:=
 CN.of (F_show_expression1 W) rfl (fl:=.ret _) λn hn e L=>way (okX W) (or:=[]) trivial
end
noncomputable def Sx.stx:Sx->Str
 | .set x=> "$$ = " ++x.stx
 | .iff s=> "if (" ++ "1" ++ ") " ++blk s.stx
 | .whl s=> "while (" ++ "u" ++ ") " ++blk s.stx
 | .els _ s=> "if (" ++ "u" ++ ") " ++ "{ }" ++ " else " ++blk s.stx
noncomputable def Sx.dig:Sx->Bool
 | .set x=>x.dig
 | .iff s=>s.dig
 | .whl s=>s.dig
 | .els _ s=>s.dig
noncomputable def Sx.kH:Sx->Nat
 | .set x=>x.kH+1
 | .iff s=>s.kH+3
 | .whl s=>s.kH+3
 | .els _ s=>s.kH+3
theorem Sx.kH1:∀s:Sx,2<=s.kH
 | .set x=>by have:=x.kH1;unfold kH;lia
 | .iff s=>by unfold kH;lia
 | .whl s=>by unfold kH;lia
 | .els _ s=>by unfold kH;lia
theorem Sx.stx_len:∀s:Sx,s.dig=true->s.stx.length<=24*s.clen
 | .set x,h=>by
  have:=x.stx_len h
  have e:(Sx.set x).clen=x.code.length+1:=rfl
  show(("$$ = " :Str)++x.stx).length<=_
  rw[Str.length_append,show("$$ = " :Str).length=5 by kernel_rfl]
  lia
 | .iff s,h=>by
  have:=s.stx_len h
  have e:(Sx.iff s).clen=s.clen+2:=rfl
  show(("if (" :Str)++ "1" ++ ") " ++blk s.stx).length<=_
  rw[Str.length_append,blk_len,show(("if (" :Str)++ "1" ++ ") ").length=7 by kernel_rfl]
  lia
 | .whl s,h=>by
  have:=s.stx_len h
  have e:(Sx.whl s).clen=s.clen+3:=rfl
  show(("while (" :Str)++ "u" ++ ") " ++blk s.stx).length<=_
  rw[Str.length_append,blk_len,show(("while (" :Str)++ "u" ++ ") ").length=10 by kernel_rfl]
  lia
 | .els m s,h=>by
  have:=s.stx_len h
  have e:(Sx.els m s).clen=s.clen+3:=rfl
  show(("if (" :Str)++ "u" ++ ") " ++ "{ }" ++ " else " ++blk s.stx).length<=_
  rw[Str.length_append,blk_len,show(("if (" :Str)++ "u" ++ ") " ++ "{ }" ++ " else ").length=16 by kernel_rfl]
  lia
section
variable {w:World}{B:Heap}
theorem c_shst (W:Wd w B):∀s:Sx,s.dig=true->s.clen<=10000->CN w B s.kH 535 [.dat (.tup s.nodeL)] [] (.ret (.str s.stx)) []
 | .set x,h,hc=>by
  have e:(Sx.set x).clen=x.code.length+1:=rfl
  have hx:=c_show W x h (by lia)
  have hl:=x.stx_len h
  have z1:("$$ = " :Str).length+x.stx.length<=sizeLine:=by rw[show("$$ = " :Str).length=5 by kernel_rfl,sizeLine_eq];lia
  exact CN.of (F_show_statement1 W) rfl (k:=x.kH) (fl:=.ret _) λn hn e L=>way (okX W) (or:=[.call [] (.ret (.str x.stx)) []]) (aI (hx n hn) (aI z1 trivial))
 | .iff s,h,hc=>by
  have e:(Sx.iff s).clen=s.clen+2:=rfl
  have ih:=c_shst W s h (by lia)
  have hl:=s.stx_len h
  have k1:=s.kH1
  have hb:=sb_one W (sa_one W ih (by lia)) (by lia)
  have h1:CN w B 1 521 [.dat (.tup n1)] [] (.ret (.str "1")) []:=sh_num W 1 (by lia)
  have bl:=blk_len s.stx
  show CN w B (s.kH+3) 535 _ [] (.ret (.str ("if (" ++ "1" ++ ") " ++blk s.stx))) []
  generalize blk s.stx=b at hb bl ⊢
  have z1:("if (" :Str).length+("1" :Str).length<=sizeLine:=by rw[show("if (" :Str).length+("1" :Str).length=5 by kernel_rfl,sizeLine_eq];lia
  have z2:(("if (" :Str)++ "1").length+(") " :Str).length<=sizeLine:=by rw[show(("if (" :Str)++ "1").length+(") " :Str).length=7 by kernel_rfl,sizeLine_eq];lia
  have z3:(("if (" :Str)++ "1" ++ ") ").length+b.length<=sizeLine:=by rw[show(("if (" :Str)++ "1" ++ ") ").length=7 by kernel_rfl,sizeLine_eq];lia
  exact CN.of (F_show_statement1 W) rfl (k:=s.kH+2) (fl:=.ret _) λn hn e L=>way (okX W) (or:=[.call [] (.ret (.str "1")) [],.call [] (.ret (.str b)) [],.fz]) (aI (h1 n (by lia)) (aI z1 (aI z2 (aI (hb n hn) (aI z3 trivial)))))
 | .whl s,h,hc=>by
  have e:(Sx.whl s).clen=s.clen+3:=rfl
  have ih:=c_shst W s h (by lia)
  have hl:=s.stx_len h
  have k1:=s.kH1
  have hb:=sb_one W (sa_one W ih (by lia)) (by lia)
  have h1:=sh_U W
  have bl:=blk_len s.stx
  show CN w B (s.kH+3) 535 _ [] (.ret (.str ("while (" ++ "u" ++ ") " ++blk s.stx))) []
  generalize blk s.stx=b at hb bl ⊢
  have z1:("while (" :Str).length+("u" :Str).length<=sizeLine:=by rw[show("while (" :Str).length+("u" :Str).length=8 by kernel_rfl,sizeLine_eq];lia
  have z2:(("while (" :Str)++ "u").length+(") " :Str).length<=sizeLine:=by rw[show(("while (" :Str)++ "u").length+(") " :Str).length=10 by kernel_rfl,sizeLine_eq];lia
  have z3:(("while (" :Str)++ "u" ++ ") ").length+b.length<=sizeLine:=by rw[show(("while (" :Str)++ "u" ++ ") ").length=10 by kernel_rfl,sizeLine_eq];lia
  exact CN.of (F_show_statement1 W) rfl (k:=s.kH+2) (fl:=.ret _) λn hn e L=>way (okX W) (or:=[.call [] (.ret (.str "u")) [],.call [] (.ret (.str b)) []]) (aI (h1 n (by lia)) (aI z1 (aI z2 (aI (hb n hn) (aI z3 trivial)))))
 | .els m s,h,hc=>by
  have e:(Sx.els m s).clen=s.clen+3:=rfl
  have ih:=c_shst W s h (by lia)
  have hl:=s.stx_len h
  have k1:=s.kH1
  have hb:=sb_one W (sa_one W ih (by lia)) (by lia)
  have h1:=sh_U W
  have h0:=sb_nil W
  have bl:=blk_len s.stx
  show CN w B (s.kH+3) 535 _ [] (.ret (.str ("if (" ++ "u" ++ ") " ++ "{ }" ++ " else " ++blk s.stx))) []
  generalize blk s.stx=b at hb bl ⊢
  have z1:("if (" :Str).length+("u" :Str).length<=sizeLine:=by rw[show("if (" :Str).length+("u" :Str).length=5 by kernel_rfl,sizeLine_eq];lia
  have z2:(("if (" :Str)++ "u").length+(") " :Str).length<=sizeLine:=by rw[show(("if (" :Str)++ "u").length+(") " :Str).length=7 by kernel_rfl,sizeLine_eq];lia
  have z3:(("if (" :Str)++ "u" ++ ") ").length+("{ }" :Str).length<=sizeLine:=by rw[show(("if (" :Str)++ "u" ++ ") ").length+("{ }" :Str).length=10 by kernel_rfl,sizeLine_eq];lia
  have z4:(("if (" :Str)++ "u" ++ ") " ++ "{ }").length+(" else " :Str).length<=sizeLine:=by rw[show(("if (" :Str)++ "u" ++ ") " ++ "{ }").length+(" else " :Str).length=16 by kernel_rfl,sizeLine_eq];lia
  have z5:(("if (" :Str)++ "u" ++ ") " ++ "{ }" ++ " else ").length+b.length<=sizeLine:=by rw[show(("if (" :Str)++ "u" ++ ") " ++ "{ }" ++ " else ").length=16 by kernel_rfl,sizeLine_eq];lia
  exact CN.of (F_show_statement1 W) rfl (k:=s.kH+2) (fl:=.ret _) λn hn e L=>way (okX W) (or:=[.call [] (.ret (.str "u")) [],.call [] (.ret (.str "{ }")) [],.fz,.call [] (.ret (.str b)) []]) (aI (h1 n (by lia)) (aI z1 (aI z2 (aI (h0 n (by lia)) (aI z3 (aI z4 (aI (hb n hn) (aI z5 trivial))))))))
theorem c_shact (W:Wd w B)(s:Sx)(h:s.dig=true)(hc:s.clen<=10000):CN w B (s.kH+1) 540 [.dat (.lst [.tup s.nodeL])] [] (.ret (.str s.stx)) []:=
 sa_one W (c_shst W s h hc) (by have:=s.stx_len h;lia)
end
noncomputable def Xt.shw:Xt->Xt
 | .num k=>.num k
 | .par x=>x.shw
 | .lst x=>.lst x.shw
 | .len x=>.len x.shw
 | .neg x=>.neg (if 6<=x.lvl then x.shw else .par x.shw)
 | .add l r=>.add (if 4<=l.lvl then l.shw else .par l.shw) (if 5<=r.lvl then r.shw else .par r.shw)
theorem Xt.lvl_cases:∀x:Xt,x.lvl=7\/x.lvl=6\/x.lvl=4
 | .num _=>.inl rfl
 | .par x=>x.lvl_cases
 | .lst _=>.inl rfl
 | .len _=>.inl rfl
 | .neg _=>.inr (.inl rfl)
 | .add _ _=>.inr (.inr rfl)
theorem Xt.shw_node:∀x:Xt,x.shw.nodeL=x.nodeL
 | .num _=>rfl
 | .par x=>x.shw_node
 | .lst x=>by show([.str "list",.lst [.tup x.shw.nodeL]]:List D)=_;rw[x.shw_node];rfl
 | .len x=>by show([.str "apply",.str "len",.lst [.tup x.shw.nodeL]]:List D)=_;rw[x.shw_node];rfl
 | .neg x=>by
  have ih:=x.shw_node
  show([.str "one",.str "-",.tup (if 6<=x.lvl then x.shw else .par x.shw).nodeL]:List D)=_
  split
  ·rw[ih];rfl
  ·show([.str "one",.str "-",.tup x.shw.nodeL]:List D)=_
   rw[ih];rfl
 | .add l r=>by
  have il:=l.shw_node
  have ir:=r.shw_node
  show([.str "two",.str "+",.tup (if 4<=l.lvl then l.shw else .par l.shw).nodeL,.tup (if 5<=r.lvl then r.shw else .par r.shw).nodeL]:List D)=_
  have e1:(if 4<=l.lvl then l.shw else .par l.shw).nodeL=l.nodeL:=by split;exact il;exact il
  have e2:(if 5<=r.lvl then r.shw else .par r.shw).nodeL=r.nodeL:=by split;exact ir;exact ir
  rw[e1,e2];rfl
theorem Xt.shw_sum:∀x:Xt,x.shw.isSum=true->x.lvl=4
 | .num _,h=>by cases h
 | .par x,h=>x.shw_sum h
 | .lst _,h=>by cases h
 | .len _,h=>by cases h
 | .neg _,h=>by cases h
 | .add _ _,h=>rfl
theorem Xt.shw_ok:∀x:Xt,x.shw.ok=true
 | .num _=>rfl
 | .par x=>x.shw_ok
 | .lst x=>x.shw_ok
 | .len x=>x.shw_ok
 | .neg x=>by
  have ih:=x.shw_ok
  show(!(if 6<=x.lvl then x.shw else .par x.shw).isSum&& (if 6<=x.lvl then x.shw else .par x.shw).ok)=true
  split
  ·rename_i q
   cases z:x.shw.isSum with
   |true=>have:=x.shw_sum z;lia
   |false=>rw[ih];rfl
  ·show(!false&&x.shw.ok)=true
   rw[ih];rfl
 | .add l r=>by
  have il:=l.shw_ok
  have ir:=r.shw_ok
  show((if 4<=l.lvl then l.shw else .par l.shw).ok&& ((if 5<=r.lvl then r.shw else .par r.shw).ok&& !(if 5<=r.lvl then r.shw else .par r.shw).isSum))=true
  have e1:(if 4<=l.lvl then l.shw else .par l.shw).ok=true:=by split;exact il;exact il
  rw[e1]
  split
  ·rename_i q
   cases z:r.shw.isSum with
   |true=>have:=r.shw_sum z;lia
   |false=>rw[ir];rfl
  ·show(true&& (r.shw.ok&& !false))=true
   rw[ir];rfl
theorem Xt.shw_fig:∀x:Xt,x.fig=true->x.shw.fig=true
 | .num _,h=>h
 | .par x,h=>x.shw_fig h
 | .lst x,h=>x.shw_fig h
 | .len x,h=>x.shw_fig h
 | .neg x,h=>by
  have ih:=x.shw_fig h
  show(if 6<=x.lvl then x.shw else .par x.shw).fig=true
  split;exact ih;exact ih
 | .add l r,h=>by
  unfold Xt.fig at h
  rw[Bool.and_eq_true]at h
  have il:=l.shw_fig h.1
  have ir:=r.shw_fig h.2
  show((if 4<=l.lvl then l.shw else .par l.shw).fig&& (if 5<=r.lvl then r.shw else .par r.shw).fig)=true
  have e1:(if 4<=l.lvl then l.shw else .par l.shw).fig=true:=by split;exact il;exact il
  have e2:(if 5<=r.lvl then r.shw else .par r.shw).fig=true:=by split;exact ir;exact ir
  rw[e1,e2];rfl
theorem Xt.fig_dig:∀x:Xt,x.fig=true->x.dig=true
 | .num k,h=>by
  unfold Xt.fig at h
  simp only[Bool.or_eq_true,decide_eq_true_eq]at h
  exact decide_eq_true (by lia)
 | .par x,h=>x.fig_dig h
 | .lst x,h=>x.fig_dig h
 | .len x,h=>x.fig_dig h
 | .neg x,h=>x.fig_dig h
 | .add l r,h=>by
  unfold Xt.fig at h
  rw[Bool.and_eq_true]at h
  show(l.dig&&r.dig)=true
  rw[l.fig_dig h.1,r.fig_dig h.2];rfl
theorem Xt.inn_max (l r:Xt):(Xt.add l r).inn=max l.inn r.inn+1:=by
 show(if r.inn+1>l.inn+1 then r.inn+1 else l.inn+1)=_
 split<;>lia
theorem Xt.wrap_inn {x:Xt}{m:Nat}(hm:m<=6)(hs:x.isSum=false)(ih:x.shw.inn<=x.inn)(ihp:∀y,x=.par y->y.shw.inn<=y.inn):(if m<=x.lvl then x.shw else .par x.shw).inn<=x.inn:=by
 split
 ·exact ih
 ·rename_i q
  cases x with
  |par y=>show y.shw.inn+1<=y.inn+1;have:=ihp y rfl;lia
  |add l r=>cases hs
  |num k=>exact absurd (show m<=7 by lia) q
  |lst y=>exact absurd (show m<=7 by lia) q
  |len y=>exact absurd (show m<=7 by lia) q
  |neg y=>exact absurd (show m<=6 by lia) q
theorem Xt.shw_inn' (x:Xt):x.ok=true->x.shw.inn<=x.inn/\∀y,x=.par y->y.shw.inn<=y.inn:=by
 induction x with
 |num=>exact λ_=>⟨Int.le_refl _,nofun⟩
 |par x ih=>exact λh=>⟨by have:=(ih h).1;show x.shw.inn<=x.inn+1;lia,λy e=>by cases e;exact(ih h).1⟩
 |lst x ih=>exact λh=>⟨by have:=(ih h).1;show(Xt.lst x.shw).inn<=_;rw[inn_lst,inn_lst];lia,nofun⟩
 |len x ih=>exact λh=>⟨by have:=(ih h).1;show(Xt.len x.shw).inn<=_;rw[inn_len,inn_len];lia,nofun⟩
 |neg x ih=>
  intro(h:(!x.isSum&&x.ok)=true)
  rw[Bool.and_eq_true,Bool.not_eq_true']at h
  obtain⟨ih,q⟩:=ih h.2
  exact⟨Int.add_le_add_right (wrap_inn (m:=6) (Nat.le_refl _) h.1 ih q) 1,nofun⟩
 |add l r il ir=>
  intro(h:(l.ok&& (r.ok&& !r.isSum))=true)
  rw[Bool.and_eq_true,Bool.and_eq_true,Bool.not_eq_true']at h
  obtain⟨ir,q⟩:=ir h.2.1
  have il:=(il h.1).1
  have h4:(if 4<=l.lvl then l.shw else .par l.shw)=l.shw:=if_pos (by have:=l.lvl_cases;lia)
  have:=wrap_inn (m:=5) (by decide) h.2.2 ir q
  refine⟨?_,nofun⟩
  show(Xt.add (if 4<=l.lvl then l.shw else .par l.shw) (if 5<=r.lvl then r.shw else .par r.shw)).inn<=_
  rw[h4,inn_max,inn_max]
  lia
theorem Xt.shw_inn (x:Xt)(h:x.ok=true):x.shw.inn<=x.inn:=(x.shw_inn' h).1
noncomputable def Xt.ly:Xt->Nat->Ly
 | .num k,t=>[(.num k,t)]
 | .par x,t=>(.sign "(",0)::(x.ly 0++[(.sign ")",t)])
 | .lst x,t=>(.sign "[",0)::(x.ly 0++[(.sign "]",t)])
 | .len x,t=>(.name "len",0)::(.sign "(",0)::(x.ly 0++[(.sign ")",t)])
 | .neg x,t=>(.sign "-",0)::x.ly t
 | .add l r,t=>l.ly 1++(.sign "+",1)::r.ly t
theorem Xt.ly_tk:∀ (x:Xt) (t:Nat),(x.ly t).map Prod.fst=x.tk
 | .num _,_=>rfl
 | .par x,t=>by show Tk.sign "(" ::(x.ly 0++[(Tk.sign ")",t)]).map Prod.fst=_;rw[List.map_append,x.ly_tk];rfl
 | .lst x,t=>by show Tk.sign "[" ::(x.ly 0++[(Tk.sign "]",t)]).map Prod.fst=_;rw[List.map_append,x.ly_tk];rfl
 | .len x,t=>by show Tk.name "len" ::Tk.sign "(" ::(x.ly 0++[(Tk.sign ")",t)]).map Prod.fst=_;rw[List.map_append,x.ly_tk];rfl
 | .neg x,t=>by show Tk.sign "-" ::(x.ly t).map Prod.fst=_;rw[x.ly_tk];rfl
 | .add l r,t=>by show(l.ly 1++(Tk.sign "+",1)::r.ly t).map Prod.fst=_;rw[List.map_append,List.map_cons,l.ly_tk,r.ly_tk];rfl
theorem ltx_app:∀ (a b:Ly),ltx (a++b)=ltx a++ltx b
 | [],b=>rfl
 | (k,n)::r,b=>by
  show k.cs++(List.replicate n 32++ltx (r++b))=(k.cs++(List.replicate n 32++ltx r))++ltx b
  rw[ltx_app r b];simp
noncomputable abbrev Str.cl (s:Str):List Nat:=s.cps.toList
theorem cl_app (a b:Str):Str.cl (a++b)=Str.cl a++Str.cl b:=by show(a.cps++b.cps).toList=_;simp
theorem cl_dig:∀k:Nat,k<=9->Str.cl (Str.ofString (toString (k:Int)))=[48+k]
 |0,_=>by kernel_rfl
 |1,_=>by kernel_rfl
 |2,_=>by kernel_rfl
 |3,_=>by kernel_rfl
 |4,_=>by kernel_rfl
 |5,_=>by kernel_rfl
 |6,_=>by kernel_rfl
 |7,_=>by kernel_rfl
 |8,_=>by kernel_rfl
 |9,_=>by kernel_rfl
 |k+10,h=>by lia
theorem ltx_cons (k:Tk)(n:Nat)(r:Ly):ltx ((k,n)::r)=k.cs++(List.replicate n 32++ltx r):=rfl
theorem ltx_par {x:Ly}{t:Nat}{a:List Nat}(h:ltx x=a++List.replicate 0 32):ltx ((Tk.sign "(",0)::(x++[(Tk.sign ")",t)]))=(Str.cl "(" ++a++Str.cl ")")++List.replicate t 32:=by
 rw[ltx_cons,ltx_app,h,ltx_cons]
 show Str.cl "(" ++([]++((a++[])++(Str.cl ")" ++(List.replicate t 32++[]))))=_
 simp
theorem Xt.ltx_wrap {x:Xt}{m t:Nat}(h:∀t,ltx (x.shw.ly t)=Str.cl x.stx++List.replicate t 32):ltx ((if m<=x.lvl then x.shw else .par x.shw).ly t)=Str.cl (x.wth m)++List.replicate t 32:=by
 unfold Xt.wth
 split
 ·exact h t
 ·show ltx ((Tk.sign "(",0)::(x.shw.ly 0++[(Tk.sign ")",t)]))=_
  rw[ltx_par (h 0),cl_app,cl_app]
theorem Xt.ltx_shw:∀ (x:Xt) (t:Nat),x.dig=true->ltx (x.shw.ly t)=Str.cl x.stx++List.replicate t 32
 | .num k,t,h=>by
  show [48+k]++(List.replicate t 32++[])=Str.cl (Str.ofString (toString (k:Int)))++_
  rw[cl_dig k (of_decide_eq_true h),List.append_nil]
 | .par x,t,h=>x.ltx_shw t h
 | .lst x,t,h=>by
  have ih:=x.ltx_shw 0 h
  show ltx ((Tk.sign "[",0)::(x.shw.ly 0++[(Tk.sign "]",t)]))=Str.cl ("[" ++x.stx++ "]")++_
  rw[ltx_cons,ltx_app,ih,ltx_cons,cl_app,cl_app]
  show Str.cl "[" ++([]++((Str.cl x.stx++[])++(Str.cl "]" ++(List.replicate t 32++[]))))=_
  simp
 | .len x,t,h=>by
  have ih:=x.ltx_shw 0 h
  show ltx ((Tk.name "len",0)::(Tk.sign "(",0)::(x.shw.ly 0++[(Tk.sign ")",t)]))=Str.cl ("len" ++ "(" ++x.stx++ ")")++_
  rw[ltx_cons,ltx_par ih,cl_app,cl_app,cl_app]
  show Str.cl "len" ++([]++((Str.cl "(" ++Str.cl x.stx++Str.cl ")")++List.replicate t 32))=_
  simp
 | .neg x,t,h=>by
  have ih:=Xt.ltx_wrap (x:=x) (m:=6) (t:=t) (λt=>x.ltx_shw t h)
  show ltx ((Tk.sign "-",0)::(if 6<=x.lvl then x.shw else .par x.shw).ly t)=_
  rw[ltx_cons,ih,Xt.stx_neg,cl_app]
  show Str.cl "-" ++([]++_)=_
  simp
 | .add l r,t,h=>by
  unfold Xt.dig at h
  rw[Bool.and_eq_true]at h
  have il:=Xt.ltx_wrap (x:=l) (m:=4) (t:=1) (λt=>l.ltx_shw t h.1)
  have ir:=Xt.ltx_wrap (x:=r) (m:=5) (t:=t) (λt=>r.ltx_shw t h.2)
  show ltx ((if 4<=l.lvl then l.shw else .par l.shw).ly 1++(Tk.sign "+",1)::(if 5<=r.lvl then r.shw else .par r.shw).ly t)=_
  rw[ltx_app,ltx_cons,il,ir,Xt.stx_add,cl_app,cl_app,cl_app,cl_app]
  have e1:List.replicate 1 32=Str.cl " " :=by kernel_rfl
  have e2:(Tk.sign "+").cs=Str.cl "+" :=rfl
  rw[e1,e2]
  simp
noncomputable def Sx.shw:Sx->Sx
 | .set x=>.set x.shw
 | .iff s=>.iff s.shw
 | .whl s=>.whl s.shw
 | .els _ s=>.els false s.shw
noncomputable def Sx.ly:Sx->Nat->Ly
 | .set x,t=>(.own,1)::(.sign "=",1)::x.ly t
 | .iff s,t=>(.name "if",1)::(.sign "(",0)::(.num 1,0)::(.sign ")",1)::(.sign "{",1)::(s.ly 1++[(.sign "}",t)])
 | .whl s,t=>(.name "while",1)::(.sign "(",0)::(.name "u",0)::(.sign ")",1)::(.sign "{",1)::(s.ly 1++[(.sign "}",t)])
 | .els m s,t=>(.name "if",1)::(.sign "(",0)::(.name "u",0)::(.sign ")",1)::(.sign "{",1)::(.sign "}",1)::(.name "else",1)::(.sign "{",1)::(s.ly 1++((semi m).map (λk=>(k,0))++[(.sign "}",t)]))
theorem Sx.ly_tk:∀ (s:Sx) (t:Nat),(s.ly t).map Prod.fst=s.tk
 | .set x,t=>by show Tk.own::Tk.sign "=" ::(x.ly t).map Prod.fst=_;rw[x.ly_tk];rfl
 | .iff s,t=>by
  show Tk.name "if" ::Tk.sign "(" ::Tk.num 1::Tk.sign ")" ::Tk.sign "{" ::(s.ly 1++[(Tk.sign "}",t)]).map Prod.fst=_
  rw[List.map_append,s.ly_tk];rfl
 | .whl s,t=>by
  show Tk.name "while" ::Tk.sign "(" ::Tk.name "u" ::Tk.sign ")" ::Tk.sign "{" ::(s.ly 1++[(Tk.sign "}",t)]).map Prod.fst=_
  rw[List.map_append,s.ly_tk];rfl
 | .els m s,t=>by
  show Tk.name "if" ::Tk.sign "(" ::Tk.name "u" ::Tk.sign ")" ::Tk.sign "{" ::Tk.sign "}" ::Tk.name "else" ::Tk.sign "{" ::(s.ly 1++((semi m).map (λk=>(k,0))++[(Tk.sign "}",t)])).map Prod.fst=_
  rw[List.map_append,List.map_append,s.ly_tk]
  cases m<;>rfl
theorem Sx.shw_node:∀s:Sx,s.shw.nodeL=s.nodeL
 | .set x=>by show([.str "set",.tup x.shw.nodeL]:List D)=_;rw[x.shw_node];rfl
 | .iff s=>by show([.str "if",.tup n1,.lst [.tup s.shw.nodeL],.lst []]:List D)=_;rw[s.shw_node];rfl
 | .whl s=>by show([.str "while",.tup nU,.lst [.tup s.shw.nodeL]]:List D)=_;rw[s.shw_node];rfl
 | .els m s=>by show([.str "if",.tup nU,.lst [],.lst [.tup s.shw.nodeL]]:List D)=_;rw[s.shw_node];rfl
theorem Sx.shw_ok:∀s:Sx,s.shw.ok=true
 | .set x=>x.shw_ok
 | .iff s=>s.shw_ok
 | .whl s=>s.shw_ok
 | .els _ s=>s.shw_ok
theorem Sx.shw_fig:∀s:Sx,s.fig=true->s.shw.fig=true
 | .set x,h=>x.shw_fig h
 | .iff s,h=>s.shw_fig h
 | .whl s,h=>s.shw_fig h
 | .els _ s,h=>s.shw_fig h
theorem Sx.fig_dig:∀s:Sx,s.fig=true->s.dig=true
 | .set x,h=>x.fig_dig h
 | .iff s,h=>s.fig_dig h
 | .whl s,h=>s.fig_dig h
 | .els _ s,h=>s.fig_dig h
theorem Sx.shw_dep:∀s:Sx,s.ok=true->s.shw.dep<=s.dep
 | .set x,h=>by have:=x.shw_inn h;show x.shw.inn+1<=x.inn+1;lia
 | .iff s,h=>by have:=s.shw_dep h;show s.shw.dep+1<=s.dep+1;lia
 | .whl s,h=>by have:=s.shw_dep h;show s.shw.dep+1<=s.dep+1;lia
 | .els _ s,h=>by have:=s.shw_dep h;show s.shw.dep+1<=s.dep+1;lia
theorem cl_blk (a s:Str):Str.cl (a++("{ " ++s++ " }"))=Str.cl a++(Str.cl "{ " ++Str.cl s++Str.cl " }"):=by rw[cl_app a,cl_app ("{ " ++s),cl_app "{ "]
theorem Sx.ltx_shw:∀ (s:Sx) (t:Nat),s.dig=true->ltx (s.shw.ly t)=Str.cl s.stx++List.replicate t 32
 | .set x,t,h=>by
  have ih:=x.ltx_shw t h
  show ltx ((Tk.own,1)::(Tk.sign "=",1)::x.shw.ly t)=Str.cl ("$$ = " ++x.stx)++_
  rw[ltx_cons,ltx_cons,ih,cl_app]
  have e:Str.cl "$$ = " =Tk.own.cs++(List.replicate 1 32++((Tk.sign "=").cs++List.replicate 1 32)):=by kernel_rfl
  rw[e];simp
 | .iff s,t,h=>by
  have ih:=s.ltx_shw 1 h
  show ltx ((Tk.name "if",1)::(Tk.sign "(",0)::(Tk.num 1,0)::(Tk.sign ")",1)::(Tk.sign "{",1)::(s.shw.ly 1++[(Tk.sign "}",t)]))=Str.cl ("if (" ++ "1" ++ ") " ++("{ " ++s.stx++ " }"))++_
  rw[ltx_cons,ltx_cons,ltx_cons,ltx_cons,ltx_cons,ltx_app,ih,ltx_cons,cl_blk]
  have e:Str.cl ("if (" ++ "1" ++ ") ")++Str.cl "{ " =(Tk.name "if").cs++(List.replicate 1 32++((Tk.sign "(").cs++(List.replicate 0 32++((Tk.num 1).cs++(List.replicate 0 32++((Tk.sign ")").cs++(List.replicate 1 32++((Tk.sign "{").cs++List.replicate 1 32)))))))):=by kernel_rfl
  have e2:Str.cl " }" =List.replicate 1 32++(Tk.sign "}").cs:=by kernel_rfl
  have e3:ltx []=[]:=rfl
  rw[e2,e3,List.append_assoc (Str.cl "{ "),<-List.append_assoc (Str.cl ("if (" ++ "1" ++ ") ")),e]
  simp only[List.append_assoc,List.append_nil]
 | .whl s,t,h=>by
  have ih:=s.ltx_shw 1 h
  show ltx ((Tk.name "while",1)::(Tk.sign "(",0)::(Tk.name "u",0)::(Tk.sign ")",1)::(Tk.sign "{",1)::(s.shw.ly 1++[(Tk.sign "}",t)]))=Str.cl ("while (" ++ "u" ++ ") " ++("{ " ++s.stx++ " }"))++_
  rw[ltx_cons,ltx_cons,ltx_cons,ltx_cons,ltx_cons,ltx_app,ih,ltx_cons,cl_blk]
  have e:Str.cl ("while (" ++ "u" ++ ") ")++Str.cl "{ " =(Tk.name "while").cs++(List.replicate 1 32++((Tk.sign "(").cs++(List.replicate 0 32++((Tk.name "u").cs++(List.replicate 0 32++((Tk.sign ")").cs++(List.replicate 1 32++((Tk.sign "{").cs++List.replicate 1 32)))))))):=by kernel_rfl
  have e2:Str.cl " }" =List.replicate 1 32++(Tk.sign "}").cs:=by kernel_rfl
  have e3:ltx []=[]:=rfl
  rw[e2,e3,List.append_assoc (Str.cl "{ "),<-List.append_assoc (Str.cl ("while (" ++ "u" ++ ") ")),e]
  simp only[List.append_assoc,List.append_nil]
 | .els m s,t,h=>by
  have ih:=s.ltx_shw 1 h
  show ltx ((Tk.name "if",1)::(Tk.sign "(",0)::(Tk.name "u",0)::(Tk.sign ")",1)::(Tk.sign "{",1)::(Tk.sign "}",1)::(Tk.name "else",1)::(Tk.sign "{",1)::(s.shw.ly 1++[(Tk.sign "}",t)]))=Str.cl ("if (" ++ "u" ++ ") " ++ "{ }" ++ " else " ++("{ " ++s.stx++ " }"))++_
  rw[ltx_cons,ltx_cons,ltx_cons,ltx_cons,ltx_cons,ltx_cons,ltx_cons,ltx_cons,ltx_app,ih,ltx_cons,cl_blk]
  have e:Str.cl ("if (" ++ "u" ++ ") " ++ "{ }" ++ " else ")++Str.cl "{ " =(Tk.name "if").cs++(List.replicate 1 32++((Tk.sign "(").cs++(List.replicate 0 32++((Tk.name "u").cs++(List.replicate 0 32++((Tk.sign ")").cs++(List.replicate 1 32++((Tk.sign "{").cs++(List.replicate 1 32++((Tk.sign "}").cs++(List.replicate 1 32++((Tk.name "else").cs++(List.replicate 1 32++((Tk.sign "{").cs++List.replicate 1 32)))))))))))))):=by kernel_rfl
  have e2:Str.cl " }" =List.replicate 1 32++(Tk.sign "}").cs:=by kernel_rfl
  have e3:ltx []=[]:=rfl
  rw[e2,e3,List.append_assoc (Str.cl "{ "),<-List.append_assoc (Str.cl ("if (" ++ "u" ++ ") " ++ "{ }" ++ " else ")),e]
  simp only[List.append_assoc,List.append_nil]
theorem tx_cl (s:Str):tx (Str.cl s++List.replicate 0 32)=s:=by
 cases s;simp[Str.cl,tx]
section
variable {w:World}{B:Heap}
theorem c_reread (W:Wd w B)(s:Sx)(hok:s.ok=true)(hf:s.fig=true)(hd:s.dep<=100)(hc:s.clen<=10000):CN w B (s.shw.kS+6) 481 [.str s.stx] [] (.ret (.dat (.lst [.tup s.nodeL]))) []:=by
 have hdg:=s.fig_dig hf
 have ht:tx (ltx (s.shw.ly 0))=s.stx:=by rw[s.ltx_shw 0 hdg,tx_cl]
 have hl:=s.stx_len hdg
 have:=(c_parse W s.shw_ok (s.shw.ly_tk 0) (chn_sx s.shw (s.shw_fig hf)) (by rw[ht];show s.stx.length<1000000;lia)).1 (by have:=s.shw_dep hok;lia)
 rw[ht,s.shw_node]at this
 exact this
end
noncomputable def drw (cl:List Int)(k:Int)(p:Nat)(m:Int):Int:=match cl[p]? with
 |some v=>v.fmod m
 |none=>(k+7*(p:Int)+((p:Int)*(p:Int)).fdiv 3).fmod m
theorem drw_lo {cl:List Int}{k:Int}{p:Nat}{m:Int}(h:0<m):0<=drw cl k p m:=by
 unfold drw
 split
 ·exact Int.fmod_nonneg_of_pos _ h
 ·exact Int.fmod_nonneg_of_pos _ h
theorem drw_hi {cl:List Int}{k:Int}{p:Nat}{m:Int}(h:0<m):drw cl k p m<m:=by
 unfold drw
 split
 ·exact Int.fmod_lt_of_pos _ h
 ·exact Int.fmod_lt_of_pos _ h
noncomputable abbrev pn (cl:List Int)(p:Nat)(k:Int):List AO:=[.dlist (cl.map D.int),.list [.ref 0,.int (p:Int),.int k]]
theorem bits_le {i:Int}(h:i.natAbs<=1000000):Builtin.Int.intBits i<=64:=by
 unfold Builtin.Int.intBits
 split
 ·decide
 ·have:i.natAbs.log2<=20:=by
   have h0:i.natAbs≠0:=by
    rename_i q
    intro z
    exact q (by simp[Int.natAbs_eq_zero.mp z])
   have:=(Nat.log2_lt h0 (k:=20)).mpr (by lia)
   lia
  lia
section
variable {w:World}{B:Heap}
theorem c_draw (W:Wd w B)(cl:List Int)(hc:cl.length<1000)(p:Nat)(hp:p<10000)(k m:Int)(hm:0<m):CN w B 1 935 [.ref 1,.int m] (pn cl p k) (.ret (.int (drw cl k p m))) [.dlist (cl.map D.int),.list [.ref 0,.int ((p:Int)+1),.int k]]:=by
 have hl:(((partsOfD (cl.map D.int)).length:Nat):Int)=cl.length:=by rw[len_parts,List.length_map]
 have h63:(((partsOfD (cl.map D.int)).length:Nat):Int)<2^63:=by lia
 have h0:(0:Int)<=1/\(1:Int)<2^63/\Int.toNat 1< [AV.ref 0,AV.int (p:Int),AV.int k].length:=⟨by decide,by decide,show 1<3 by decide⟩
 have h00:(0:Int)<=0/\(0:Int)<2^63/\ [AV.ref 0,AV.int ((p:Int)+1),AV.int k][Int.toNat 0]? =some (AV.ref 0):=⟨by decide,by decide,rfl⟩
 have hm0:(m==0)=false:=by simp;lia
 unfold drw
 cases hv:cl[p]? with
 |some v=>
  have hlt:=(List.getElem?_eq_some_iff.mp hv).1
  have hi:0<=(p:Int)/\(p:Int)<2^63/\(partsOfD (cl.map D.int))[(p:Int).toNat]? =some (.int v):=⟨by lia,by lia,by rw[Int.toNat_natCast,partsOfD,List.getElem?_map,List.getElem?_map,hv];rfl⟩
  exact CN.of (F_law_draw2 W) rfl (fl:=.ret _) λn hn e L=>way (okX W) (or:=[.br true,.item (.ref 0),.item (.int v)]) (aI h0 (aI h63 (aI (show decide ((p:Int)< (((partsOfD (cl.map D.int)).length:Nat):Int))=true from decide_eq_true (by lia)) (aI h00 (aI hi (aI hm0 trivial))))))
 |none=>
  have hlt:=List.getElem?_eq_none_iff.mp hv
  exact CN.of (F_law_draw2 W) rfl (fl:=.ret _) λn hn e L=>way (okX W) (or:=[.br false]) (aI h0 (aI h63 (aI (show decide ((p:Int)< (((partsOfD (cl.map D.int)).length:Nat):Int))=false from decide_eq_false (by lia)) (aI (show IntMulOk 7 (p:Int) from IntMulOk.of_left (bits_le (by decide))) (aI (show IntMulOk (p:Int) (p:Int) from IntMulOk.of_left (bits_le (by lia))) (aI (show((3:Int)==0)=false/\Builtin.divisionGoesByPylong ((p:Int)*(p:Int)) 3=false from⟨rfl,by kernel_rfl⟩) (aI hm0 trivial)))))))
end
noncomputable abbrev par' (t:Str):Str:= "(" ++t++ ")"
noncomputable def wrapT:Nat->Int->Str->Str×Int×Int
 |0,_,t=>(par' t,7,1)
 |1,_,t=>("[" ++t++ "]",7,1)
 |2,_,t=>("len(" ++t++ ")",7,1)
 |3,g,t=>if g=3 then("-" ++par' t,6,2)else("-" ++t,6,1)
 |4,_,t=>(t++ "+1",3,1)
 |_,g,t=>if g=3 then("2+" ++par' t,3,2)else("2+" ++t,3,1)
section
variable {w:World}{B:Heap}
theorem ap1 {a t:Str}{n:Nat}(h:a.length=n)(hn:n<=100)(ht:t.length<100000):a.length+t.length<=sizeLine:=by rw[h,sizeLine_eq];lia
theorem ap2 {a t b:Str}{n m:Nat}(h:a.length=n)(hb:b.length=m)(hn:n<=100)(hm:m<=100)(ht:t.length<100000):(a++t).length+b.length<=sizeLine:=by rw[Str.length_append,h,hb,sizeLine_eq];lia
theorem ap3 {a t b c:Str}{n m l:Nat}(h:a.length=n)(hb:b.length=m)(hc:c.length=l)(hn:n<=100)(hm:m<=100)(hl:l<=100)(ht:t.length<100000):c.length+(a++t++b).length<=sizeLine:=by rw[Str.length_append,Str.length_append,h,hb,hc,sizeLine_eq];lia
theorem w_0 (W:Wd w B)(g:Int)(t:Str)(ht:t.length<100000):CN w B 1 942 [.str t,.int g,.int 0] [] (.ret (.dat (.tup [.str (par' t),.int 7,.int 1]))) []:=
 CN.of (F_law_wrapped3 W) rfl (fl:=.ret _) λn hn e L=>way (okX W) (or:=[]) (aI (ap1 (a:= "(") (t:=t) (n:=1) (by kernel_rfl) (by decide) ht) (aI (ap2 (a:= "(") (t:=t) (b:= ")") (n:=1) (m:=1) (by kernel_rfl) (by kernel_rfl) (by decide) (by decide) ht) trivial))
theorem w_1 (W:Wd w B)(g:Int)(t:Str)(ht:t.length<100000):CN w B 1 942 [.str t,.int g,.int 1] [] (.ret (.dat (.tup [.str ("[" ++t++ "]"),.int 7,.int 1]))) []:=
 CN.of (F_law_wrapped3 W) rfl (fl:=.ret _) λn hn e L=>way (okX W) (or:=[]) (aI (ap1 (a:= "[") (t:=t) (n:=1) (by kernel_rfl) (by decide) ht) (aI (ap2 (a:= "[") (t:=t) (b:= "]") (n:=1) (m:=1) (by kernel_rfl) (by kernel_rfl) (by decide) (by decide) ht) trivial))
theorem w_2 (W:Wd w B)(g:Int)(t:Str)(ht:t.length<100000):CN w B 1 942 [.str t,.int g,.int 2] [] (.ret (.dat (.tup [.str ("len(" ++t++ ")"),.int 7,.int 1]))) []:=
 CN.of (F_law_wrapped3 W) rfl (fl:=.ret _) λn hn e L=>way (okX W) (or:=[]) (aI (ap1 (a:= "len(") (t:=t) (n:=4) (by kernel_rfl) (by decide) ht) (aI (ap2 (a:= "len(") (t:=t) (b:= ")") (n:=4) (m:=1) (by kernel_rfl) (by kernel_rfl) (by decide) (by decide) ht) trivial))
theorem w_4 (W:Wd w B)(g:Int)(t:Str)(ht:t.length<100000):CN w B 1 942 [.str t,.int g,.int 4] [] (.ret (.dat (.tup [.str (t++ "+1"),.int 3,.int 1]))) []:=
 CN.of (F_law_wrapped3 W) rfl (fl:=.ret _) λn hn e L=>way (okX W) (or:=[]) (aI (show t.length+("+1" :Str).length<=sizeLine by rw[show("+1" :Str).length=2 by kernel_rfl,sizeLine_eq];lia) trivial)
theorem w_3s (W:Wd w B)(t:Str)(ht:t.length<100000):CN w B 1 942 [.str t,.int 3,.int 3] [] (.ret (.dat (.tup [.str ("-" ++par' t),.int 6,.int 2]))) []:=
 CN.of (F_law_wrapped3 W) rfl (fl:=.ret _) λn hn e L=>way (okX W) (or:=[]) (aI (ap1 (a:= "(") (t:=t) (n:=1) (by kernel_rfl) (by decide) ht) (aI (ap2 (a:= "(") (t:=t) (b:= ")") (n:=1) (m:=1) (by kernel_rfl) (by kernel_rfl) (by decide) (by decide) ht) (aI (ap3 (a:= "(") (t:=t) (b:= ")") (c:= "-") (n:=1) (m:=1) (l:=1) (by kernel_rfl) (by kernel_rfl) (by kernel_rfl) (by decide) (by decide) (by decide) ht) trivial)))
theorem w_5s (W:Wd w B)(t:Str)(ht:t.length<100000):CN w B 1 942 [.str t,.int 3,.int 5] [] (.ret (.dat (.tup [.str ("2+" ++par' t),.int 3,.int 2]))) []:=
 CN.of (F_law_wrapped3 W) rfl (fl:=.ret _) λn hn e L=>way (okX W) (or:=[]) (aI (ap1 (a:= "(") (t:=t) (n:=1) (by kernel_rfl) (by decide) ht) (aI (ap2 (a:= "(") (t:=t) (b:= ")") (n:=1) (m:=1) (by kernel_rfl) (by kernel_rfl) (by decide) (by decide) ht) (aI (ap3 (a:= "(") (t:=t) (b:= ")") (c:= "2+") (n:=1) (m:=1) (l:=2) (by kernel_rfl) (by kernel_rfl) (by kernel_rfl) (by decide) (by decide) (by decide) ht) trivial)))
theorem w_3 (W:Wd w B)(g:Int)(hg:g=6\/g=7)(t:Str)(ht:t.length<100000):CN w B 1 942 [.str t,.int g,.int 3] [] (.ret (.dat (.tup [.str ("-" ++t),.int 6,.int 1]))) []:=by
 rcases hg with rfl|rfl
 ·exact CN.of (F_law_wrapped3 W) rfl (fl:=.ret _) λn hn e L=>way (okX W) (or:=[]) (aI (ap1 (a:= "-") (t:=t) (n:=1) (by kernel_rfl) (by decide) ht) trivial)
 ·exact CN.of (F_law_wrapped3 W) rfl (fl:=.ret _) λn hn e L=>way (okX W) (or:=[]) (aI (ap1 (a:= "-") (t:=t) (n:=1) (by kernel_rfl) (by decide) ht) trivial)
theorem w_5 (W:Wd w B)(g:Int)(hg:g=6\/g=7)(t:Str)(ht:t.length<100000):CN w B 1 942 [.str t,.int g,.int 5] [] (.ret (.dat (.tup [.str ("2+" ++t),.int 3,.int 1]))) []:=by
 rcases hg with rfl|rfl
 ·exact CN.of (F_law_wrapped3 W) rfl (fl:=.ret _) λn hn e L=>way (okX W) (or:=[]) (aI (ap1 (a:= "2+") (t:=t) (n:=2) (by kernel_rfl) (by decide) ht) trivial)
 ·exact CN.of (F_law_wrapped3 W) rfl (fl:=.ret _) λn hn e L=>way (okX W) (or:=[]) (aI (ap1 (a:= "2+") (t:=t) (n:=2) (by kernel_rfl) (by decide) ht) trivial)
theorem c_wrap (W:Wd w B)(y:Nat)(hy:y<=5)(g:Int)(hg:g=3\/g=6\/g=7)(t:Str)(ht:t.length<100000):CN w B 1 942 [.str t,.int g,.int (y:Int)] [] (.ret (.dat (.tup [.str (wrapT y g t).1,.int (wrapT y g t).2.1,.int (wrapT y g t).2.2]))) []:=by
 match y,hy with
 |0,_=>exact w_0 W g t ht
 |1,_=>exact w_1 W g t ht
 |2,_=>exact w_2 W g t ht
 |3,_=>
  rcases hg with rfl|hg
  ·exact w_3s W t ht
  ·have:¬g=3:=by lia
   simp only[wrapT,this,if_false]
   exact w_3 W g hg t ht
 |4,_=>exact w_4 W g t ht
 |5,_=>
  rcases hg with rfl|hg
  ·exact w_5s W t ht
  ·have:¬g=3:=by lia
   simp only[wrapT,this,if_false]
   exact w_5 W g hg t ht
noncomputable def blkT:Nat->Str->Str
 |0,t=> "if(1){" ++t++ "}"
 |1,t=> "while(u){" ++t++ "}"
 |_,t=> "if(u){}else{" ++t++ ";}"
theorem c_blk (W:Wd w B)(y:Nat)(hy:y<=2)(t:Str)(ht:t.length<100000):CN w B 1 949 [.str t,.int (y:Int)] [] (.ret (.str (blkT y t))) []:=by
 match y,hy with
 |0,_=>exact CN.of (F_law_blocked2 W) rfl (fl:=.ret _) λn hn e L=>way (okX W) (or:=[]) (aI (ap1 (a:= "if(1){") (t:=t) (n:=6) (by kernel_rfl) (by decide) ht) (aI (ap2 (a:= "if(1){") (t:=t) (b:= "}") (n:=6) (m:=1) (by kernel_rfl) (by kernel_rfl) (by decide) (by decide) ht) trivial))
 |1,_=>exact CN.of (F_law_blocked2 W) rfl (fl:=.ret _) λn hn e L=>way (okX W) (or:=[]) (aI (ap1 (a:= "while(u){") (t:=t) (n:=9) (by kernel_rfl) (by decide) ht) (aI (ap2 (a:= "while(u){") (t:=t) (b:= "}") (n:=9) (m:=1) (by kernel_rfl) (by kernel_rfl) (by decide) (by decide) ht) trivial))
 |2,_=>exact CN.of (F_law_blocked2 W) rfl (fl:=.ret _) λn hn e L=>way (okX W) (or:=[]) (aI (ap1 (a:= "if(u){}else{") (t:=t) (n:=12) (by kernel_rfl) (by decide) ht) (aI (ap2 (a:= "if(u){}else{") (t:=t) (b:= ";}") (n:=12) (m:=2) (by kernel_rfl) (by kernel_rfl) (by decide) (by decide) ht) trivial))
end
noncomputable def Tks.cl (l:List Tk):List Nat:=ltx (l.map λk=>(k,0))
theorem tks_app (a b:List Tk):Tks.cl (a++b)=Tks.cl a++Tks.cl b:=by unfold Tks.cl;rw[List.map_append,ltx_app]
theorem tks_cons (k:Tk)(r:List Tk):Tks.cl (k::r)=k.cs++Tks.cl r:=by show k.cs++([]++_)=_;rfl
theorem tks_nil:Tks.cl []=[]:=rfl
noncomputable abbrev Xt.ptx (x:Xt):Str:=tx (Tks.cl x.tk)
noncomputable abbrev Sx.ptx (s:Sx):Str:=tx (Tks.cl s.tk)
theorem str_ext {a b:Str}(h:Str.cl a=Str.cl b):a=b:=by
 cases a;cases b
 simp only[Str.cl]at h
 congr 1
 exact Array.toList_inj.mp h
theorem cl_tx (l:List Nat):Str.cl (tx l)=l:=by simp[Str.cl,tx]
noncomputable def Xt.gr (x:Xt):Xt:=if x.isSum then .par x else x
noncomputable def Xt.wrap:Nat->Xt->Xt
 |0,x=>.par x
 |1,x=>.lst x
 |2,x=>.len x
 |3,x=>.neg x.gr
 |4,x=>.add x (.num 1)
 |_,x=>.add (.num 2) x.gr
noncomputable def Xt.tig:Xt->Int
 | .add _ _=>3
 | .neg _=>6
 |_=>7
theorem Xt.tig3 (x:Xt):x.tig=3↔x.isSum=true:=by cases x<;>simp[Xt.tig,Xt.isSum]
theorem Xt.gr_sum (x:Xt):x.gr.isSum=false:=by
 unfold gr
 cases h:x.isSum with
 |true=>rfl
 |false=>simpa using h
theorem Xt.gr_tk (x:Xt):x.gr.tk=if x.isSum then .sign "(" ::(x.tk++[.sign ")"])else x.tk:=by
 unfold gr
 cases h:x.isSum<;>rfl
theorem Xt.gr_inn (x:Xt):x.gr.inn=if x.isSum then x.inn+1 else x.inn:=by
 unfold gr
 cases h:x.isSum<;>rfl
theorem Xt.wrap_text (y:Nat)(x:Xt):(wrapT y x.tig x.ptx).1=(x.wrap y).ptx:=by
 refine str_ext ?_
 rw[cl_tx (Tks.cl (x.wrap y).tk)]
 have hp:Tks.cl (.sign "(" ::(x.tk++[.sign ")"]))=Str.cl "(" ++(Tks.cl x.tk++Str.cl ")"):=by rw[tks_cons,tks_app,tks_cons,tks_nil,List.append_nil];rfl
 have hpar:Str.cl (par' x.ptx)=Str.cl "(" ++(Tks.cl x.tk++Str.cl ")"):=by unfold par';rw[cl_app,cl_app,cl_tx (Tks.cl x.tk),List.append_assoc]
 match y with
 |0=>show Str.cl (par' x.ptx)=Tks.cl (.sign "(" ::(x.tk++[.sign ")"]));rw[hp,hpar]
 |1=>
  show Str.cl ("[" ++x.ptx++ "]")=Tks.cl (.sign "[" ::(x.tk++[.sign "]"]))
  rw[cl_app,cl_app,cl_tx (Tks.cl x.tk),tks_cons,tks_app,tks_cons,tks_nil,List.append_nil,List.append_assoc];rfl
 |2=>
  show Str.cl ("len(" ++x.ptx++ ")")=Tks.cl (.name "len" :: .sign "(" ::(x.tk++[.sign ")"]))
  rw[cl_app,cl_app,cl_tx (Tks.cl x.tk),tks_cons,hp,show Str.cl "len(" =(Tk.name "len").cs++Str.cl "(" by kernel_rfl]
  simp only[List.append_assoc]
 |3=>
  show Str.cl (if x.tig=3 then(("-" :Str)++par' x.ptx,(6:Int),(2:Int))else("-" ++x.ptx,6,1)).1=Tks.cl (.sign "-" ::x.gr.tk)
  rw[tks_cons,x.gr_tk]
  by_cases h:x.isSum=true
  ·rw[if_pos (x.tig3.mpr h),if_pos h,hp,cl_app,hpar];rfl
  ·rw[if_neg (λz=>h (x.tig3.mp z)),if_neg h,cl_app,cl_tx (Tks.cl x.tk)];rfl
 |4=>
  show Str.cl (x.ptx++ "+1")=Tks.cl (x.tk++ .sign "+" ::[.num 1])
  rw[cl_app,cl_tx (Tks.cl x.tk),tks_app,tks_cons,tks_cons,tks_nil]
  rw[show Str.cl "+1" =(Tk.sign "+").cs++((Tk.num 1).cs++[]) by kernel_rfl]
 |n+5=>
  show Str.cl (if x.tig=3 then(("2+" :Str)++par' x.ptx,(3:Int),(2:Int))else("2+" ++x.ptx,3,1)).1=Tks.cl ([Tk.num 2]++ .sign "+" ::x.gr.tk)
  rw[tks_app,tks_cons,tks_cons,tks_nil,x.gr_tk]
  have e:Str.cl "2+" =(Tk.num 2).cs++[]++(Tk.sign "+").cs:=by kernel_rfl
  by_cases h:x.isSum=true
  ·rw[if_pos (x.tig3.mpr h),if_pos h,hp,cl_app,hpar,e];simp only[List.append_assoc]
  ·rw[if_neg (λz=>h (x.tig3.mp z)),if_neg h,cl_app,cl_tx (Tks.cl x.tk),e];simp only[List.append_assoc]
theorem Xt.wrap_tig (y:Nat)(x:Xt)(t:Str):(wrapT y x.tig t).2.1=(x.wrap y).tig:=by
 match y with
 |0=>rfl
 |1=>rfl
 |2=>rfl
 |3=>show(if x.tig=3 then(("-" :Str)++par' t,(6:Int),(2:Int))else("-" ++t,6,1)).2.1=6;split<;>rfl
 |4=>rfl
 |n+5=>show(if x.tig=3 then(("2+" :Str)++par' t,(3:Int),(2:Int))else("2+" ++t,3,1)).2.1=3;split<;>rfl
theorem Xt.wrap_dep (y:Nat)(x:Xt)(t:Str):(x.wrap y).inn=x.inn+(wrapT y x.tig t).2.2:=by
 have h0:=x.inn0
 match y with
 |0=>rfl
 |1=>exact x.inn_lst
 |2=>exact x.inn_len
 |3=>
  show x.gr.inn+1=x.inn+(if x.tig=3 then(("-" :Str)++par' t,(6:Int),(2:Int))else("-" ++t,6,1)).2.2
  rw[x.gr_inn]
  by_cases h:x.isSum=true
  ·rw[if_pos (x.tig3.mpr h),if_pos h];show x.inn+1+1=x.inn+2;lia
  ·rw[if_neg (λz=>h (x.tig3.mp z)),if_neg h]
 |4=>
  show(Xt.add x (.num 1)).inn=x.inn+1
  rw[Xt.inn_max]
  show max x.inn 0+1=_
  lia
 |n+5=>
  show(Xt.add (.num 2) x.gr).inn=x.inn+(if x.tig=3 then(("2+" :Str)++par' t,(3:Int),(2:Int))else("2+" ++t,3,1)).2.2
  rw[Xt.inn_max,x.gr_inn]
  show max 0 _+1=_
  by_cases h:x.isSum=true
  ·rw[if_pos (x.tig3.mpr h),if_pos h];show max 0 (x.inn+1)+1=x.inn+2;lia
  ·rw[if_neg (λz=>h (x.tig3.mp z)),if_neg h];show max 0 x.inn+1=x.inn+1;lia
def Xt.good (x:Xt):Prop:=x.ok=true/\x.fig=true/\x.lin=true
theorem Xt.gr_good {x:Xt}(h:x.good):x.gr.good:=by
 unfold gr
 cases x.isSum<;>exact h
theorem Xt.wrap_good (y:Nat){x:Xt}(h:x.good):(x.wrap y).good:=by
 have hg:=Xt.gr_good h
 have hs:=x.gr_sum
 match y with
 |0=>exact h
 |1=>exact h
 |2=>exact h
 |3=>
  refine⟨?_,hg.2.1,hg.2.2⟩
  show(!x.gr.isSum&&x.gr.ok)=true
  rw[hs,hg.1];rfl
 |4=>
  refine⟨?_,?_,?_⟩
  ·show(x.ok&& (true&&true))=true;rw[h.1];rfl
  ·show(x.fig&&true)=true;rw[h.2.1];rfl
  ·have:(Xt.add x (.num 1)).lin=(true&& (x.lin&&true)):=by cases x<;>rfl
   show(Xt.add x (.num 1)).lin=true
   rw[this,h.2.2];rfl
 |n+5=>
  refine⟨?_,?_,?_⟩
  ·show(true&& (x.gr.ok&& !x.gr.isSum))=true;rw[hg.1,hs];rfl
  ·show(true&&x.gr.fig)=true;rw[hg.2.1];rfl
  ·show(true&& (true&&x.gr.lin))=true;rw[hg.2.2];rfl
theorem Xt.gr_code (x:Xt):x.gr.code=x.code:=by unfold gr;cases x.isSum<;>rfl
theorem Xt.wrap_code (y:Nat)(x:Xt):(x.wrap y).code.length<=x.code.length+2:=by
 match y with
 |0=>show x.code.length<=_;lia
 |1=>simp[Xt.wrap,Xt.code]
 |2=>simp[Xt.wrap,Xt.code]
 |3=>simp[Xt.wrap,Xt.code,Xt.gr_code]
 |4=>simp[Xt.wrap,Xt.code]
 |n+5=>simp[Xt.wrap,Xt.code,Xt.gr_code]
noncomputable def Sx.wrap:Nat->Sx->Sx
 |0,s=>.iff s
 |1,s=>.whl s
 |_,s=>.els true s
theorem bt0 (s:Sx):(("if(1){" :Str)++s.ptx++ "}")=(Sx.iff s).ptx:=by
 refine str_ext ?_
 rw[cl_tx (Tks.cl (Sx.iff s).tk),cl_app,cl_app,cl_tx (Tks.cl s.tk)]
 have ht:(Sx.iff s).tk=.name "if" :: .sign "(" :: .num 1:: .sign ")" :: .sign "{" ::(s.tk++[.sign "}"]):=rfl
 rw[ht,tks_cons,tks_cons,tks_cons,tks_cons,tks_cons,tks_app,tks_cons,tks_nil,List.append_nil]
 have e1:Str.cl "if(1){" =(Tk.name "if").cs++((Tk.sign "(").cs++((Tk.num 1).cs++((Tk.sign ")").cs++(Tk.sign "{").cs))):=by kernel_rfl
 have e2:Str.cl "}" =(Tk.sign "}").cs:=by kernel_rfl
 rw[e1,e2]
 simp only[List.append_assoc]
theorem bt1 (s:Sx):(("while(u){" :Str)++s.ptx++ "}")=(Sx.whl s).ptx:=by
 refine str_ext ?_
 rw[cl_tx (Tks.cl (Sx.whl s).tk),cl_app,cl_app,cl_tx (Tks.cl s.tk)]
 have ht:(Sx.whl s).tk=.name "while" :: .sign "(" :: .name "u" :: .sign ")" :: .sign "{" ::(s.tk++[.sign "}"]):=rfl
 rw[ht,tks_cons,tks_cons,tks_cons,tks_cons,tks_cons,tks_app,tks_cons,tks_nil,List.append_nil]
 have e1:Str.cl "while(u){" =(Tk.name "while").cs++((Tk.sign "(").cs++((Tk.name "u").cs++((Tk.sign ")").cs++(Tk.sign "{").cs))):=by kernel_rfl
 have e2:Str.cl "}" =(Tk.sign "}").cs:=by kernel_rfl
 rw[e1,e2]
 simp only[List.append_assoc]
theorem bt2 (s:Sx):(("if(u){}else{" :Str)++s.ptx++ ";}")=(Sx.els true s).ptx:=by
 refine str_ext ?_
 rw[cl_tx (Tks.cl (Sx.els true s).tk),cl_app,cl_app,cl_tx (Tks.cl s.tk)]
 have ht:(Sx.els true s).tk=.name "if" :: .sign "(" :: .name "u" :: .sign ")" :: .sign "{" :: .sign "}" :: .name "else" :: .sign "{" ::(s.tk++(semi true++[.sign "}"])):=rfl
 rw[ht,tks_cons,tks_cons,tks_cons,tks_cons,tks_cons,tks_cons,tks_cons,tks_cons,tks_app,tks_app,tks_cons,tks_nil,List.append_nil]
 have e1:Str.cl "if(u){}else{" =(Tk.name "if").cs++((Tk.sign "(").cs++((Tk.name "u").cs++((Tk.sign ")").cs++((Tk.sign "{").cs++((Tk.sign "}").cs++((Tk.name "else").cs++(Tk.sign "{").cs)))))):=by kernel_rfl
 have e2:Str.cl ";}" =Tks.cl (semi true)++(Tk.sign "}").cs:=by kernel_rfl
 rw[e1,e2]
 simp only[List.append_assoc]
theorem Sx.wrap_text (y:Nat)(s:Sx):blkT y s.ptx=(s.wrap y).ptx:=by
 match y with
 |0=>exact bt0 s
 |1=>exact bt1 s
 |n+2=>exact bt2 s
theorem Sx.wrap_dep (y:Nat)(s:Sx):(s.wrap y).dep=s.dep+1:=by
 match y with
 |0=>rfl
 |1=>rfl
 |n+2=>rfl
theorem Sx.wrap_clen (y:Nat)(s:Sx):(s.wrap y).clen<=s.clen+3:=by
 match y with
 |0=>show s.clen+2<=_;lia
 |1=>show s.clen+3<=_;lia
 |n+2=>show s.clen+3<=_;lia
def Sx.good (s:Sx):Prop:=s.ok=true/\s.fig=true/\s.lin=true
theorem Sx.wrap_good (y:Nat){s:Sx}(h:s.good):(s.wrap y).good:=by
 match y with
 |0=>exact h
 |1=>exact h
 |n+2=>exact h
theorem set_text (x:Xt):(("$$=" :Str)++x.ptx)=(Sx.set x).ptx:=by
 refine str_ext ?_
 rw[cl_tx (Tks.cl (Sx.set x).tk),cl_app,cl_tx (Tks.cl x.tk)]
 have ht:(Sx.set x).tk=.own:: .sign "=" ::x.tk:=rfl
 have e1:Str.cl "$$=" =Tk.own.cs++(Tk.sign "=").cs:=by kernel_rfl
 rw[ht,tks_cons,tks_cons,e1,List.append_assoc]
theorem tks_len (l:List Tk)(h:∀k∈l,k.cs.length<=5):(Tks.cl l).length<=5*l.length:=by
 induction l with
 |nil=>exact Nat.le_refl _
 |cons k r ih=>
  rw[tks_cons,List.length_append,List.length_cons]
  have h1:=h k (.head _)
  have h2:=ih λk hk=>h k (.tail _ hk)
  lia
theorem okT_len {k:Tk}(h:okT k):k.cs.length<=5:=by
 cases k with
 |own=>show 2<=5;decide
 |num k=>show 1<=5;decide
 |name s=>rcases h with rfl|rfl|rfl|rfl|rfl<;>decide+kernel
 |sign s=>rcases h with rfl|rfl|rfl|rfl|rfl|rfl|rfl|rfl|rfl|rfl<;>decide+kernel
 |fin=>cases h
theorem Xt.wrap_tk (y:Nat)(x:Xt):(x.wrap y).tk.length<=x.tk.length+4:=by
 have hg:x.gr.tk.length<=x.tk.length+2:=by
  rw[x.gr_tk]
  split
  ·simp
  ·lia
 match y with
 |0=>simp[Xt.wrap,Xt.tk]
 |1=>simp[Xt.wrap,Xt.tk]
 |2=>simp[Xt.wrap,Xt.tk]
 |3=>simp[Xt.wrap,Xt.tk];lia
 |4=>simp[Xt.wrap,Xt.tk]
 |n+5=>simp[Xt.wrap,Xt.tk];lia
theorem Sx.wrap_tk (y:Nat)(s:Sx):(s.wrap y).tk.length<=s.tk.length+10:=by
 match y with
 |0=>simp[Sx.wrap,Sx.tk]
 |1=>simp[Sx.wrap,Sx.tk]
 |n+2=>simp[Sx.wrap,Sx.tk,semi]
noncomputable def lapF (aim:Int)(y:Nat):Nat->Xt->Xt
 |0,x=>x
 |n+1,x=>lapF aim y n (if x.inn+1<aim then x.wrap y else x)
theorem Xt.ptx_len {x:Xt}(h:x.fig=true):x.ptx.length<=5*x.tk.length:=by
 have h1:=(chn_x x h).1
 have:=tks_len x.tk λk hk=>okT_len (chn_all h1 k hk)
 show(Tks.cl x.tk).toArray.size<=_
 simpa using this
theorem Xt.tig_cases (x:Xt):x.tig=3\/x.tig=6\/x.tig=7:=by cases x<;>simp[Xt.tig]
theorem range_some {n i:Nat}(h:i<n):(rangeAV n)[i]? =some (.int (i:Int)):=by
 unfold rangeAV
 rw[List.getElem?_map,List.getElem?_range h];rfl
theorem range_none {n:Nat}:(rangeAV n)[n]? =none:=by
 unfold rangeAV
 exact List.getElem?_eq_none (by simp)
section
variable {w:World}{B:Heap}
noncomputable abbrev pgX (w:World)(B:Heap)(e:En)(L n:Nat):Cx:=cxt w B "_law_page" (df 85) 956 (.ref 955) e L n
noncomputable abbrev pgT:Stmt:=stm (df 85).body 2
noncomputable abbrev pgI:Stmt:=stm (forB pgT) 1
noncomputable abbrev pgB:Stmt:=stm (df 85).body 4
noncomputable abbrev piL (x:Xt)(aim tn ct:Int)(y:Nat):Loc:=[lv "pen" (.ref 1),lv "text" (.str x.ptx),lv "tight" (.int x.tig),lv "depth" (.int (x.inn+1)),lv "aim" (.int aim),lv "turn" (.int tn),lv "count" (.int ct),lv "way" (.int (y:Int))]
theorem piL_closed (x:Xt)(aim tn ct:Int)(y:Nat):∀p∈piL x aim tn ct y,closedV 3 p.2=true:=by intro p hp;simp at hp;rcases hp with rfl|rfl|rfl|rfl|rfl|rfl|rfl|rfl<;>rfl
noncomputable abbrev pq (cl:List Int)(p:Nat)(k:Int)(o:Obj):List AO:=[.dlist (cl.map D.int),.list [.ref 0,.int (p:Int),.int k],.raw o]
theorem pq_closed (cl:List Int)(p:Nat)(k:Int)(o1:Obj):∀o∈pq cl p k o1,closedO 3 o=true:=by intro o hp;simp at hp;rcases hp with rfl|rfl|rfl<;>rfl
theorem pg_lap (W:Wd w B){e:En}{L n:Nat}(hn:1<=n){cl:List Int}{p:Nat}{k aim tn ct:Int}{y:Nat}(hy:y<=5){x:Xt}(hf:x.fig=true)(hz:x.tk.length<=10000){lp:Int}(o1 o:Obj):
  TF (pgX w B e L n) (execs (forB pgI) (pgX w B e L n).f.env) ⟨put (piL x aim tn ct y) "lap" (.int lp),pq cl p k o1++[.raw o]⟩ .next
   ⟨if x.inn+1<aim then piL (x.wrap y) aim tn ct y++[lv "lap" (.int lp),lv "more" (.int (wrapT y x.tig x.ptx).2.2)]else piL x aim tn ct y++[lv "lap" (.int lp)],pq cl p k o1++[.raw o]⟩:=by
 have hX:Ok (pgX w B e L n):=okX W
 have hl:=x.ptx_len hf
 by_cases h:x.inn+1<aim
 ·rw[if_pos h]
  have hw:=c_wrap W y hy x.tig x.tig_cases x.ptx (by lia)
  have e1:=x.wrap_text y
  have e2:=x.wrap_tig y x.ptx
  have e3:=x.wrap_dep y x.ptx
  have e4:(x.wrap y).inn+1=x.inn+1+(wrapT y x.tig x.ptx).2.2:=by rw[e3];lia
  generalize (wrapT y x.tig x.ptx).1=t1 at hw e1
  generalize (wrapT y x.tig x.ptx).2.1=t2 at hw e2
  generalize (wrapT y x.tig x.ptx).2.2=t3 at hw e4 ⊢
  show TF _ _ _ _ ⟨[lv "pen" (.ref 1),lv "text" (.str (x.wrap y).ptx),lv "tight" (.int (x.wrap y).tig),lv "depth" (.int ((x.wrap y).inn+1)),lv "aim" (.int aim),lv "turn" (.int tn),lv "count" (.int ct),lv "way" (.int (y:Int)),lv "lap" (.int lp),lv "more" (.int t3)],_⟩
  rw[<-e1,<-e2,e4]
  exact stp hX (or:=[.br true,.call [] (.ret (.dat (.tup [.str t1,.int t2,.int t3]))) []]) (aI (decide_eq_true h) (aI (hw n hn) trivial))
 ·rw[if_neg h]
  exact stp hX (or:=[.br false]) (aI (decide_eq_false h) trivial)
end
section
variable {w:World}{B:Heap}
theorem pgI_x:forX pgI= "lap" :=by kernel_rfl
theorem pg_in (W:Wd w B){e:En}{L n:Nat}(hn:1<=n){cl:List Int}{p:Nat}{k aim tn ct:Int}{y:Nat}(hy:y<=5){N:Nat}(o1:Obj):∀ (m i:Nat) (x:Xt),i+m=N->x.good->x.tk.length+4*m<=10000->
  TFo (pgX w B e L n) (forX pgI) (forP pgI) (forB pgI) (rangeAV N) i ⟨piL x aim tn ct y,pq cl p k o1⟩ .next ⟨piL (lapF aim y m x) aim tn ct y,pq cl p k o1⟩
 |0,i,x,hi,hg,hz=>by
  have:i=N:=by lia
  subst this
  exact tfo_nil range_none (piL_closed x aim tn ct y) (pq_closed cl p k o1)
 |m+1,i,x,hi,hg,hz=>by
  have hb:=λo=>pg_lap W (e:=e) (L:=L) (n:=n) hn (cl:=cl) (p:=p) (k:=k) (aim:=aim) (tn:=tn) (ct:=ct) hy hg.2.1 (by lia) (lp:=(i:Int)) o1 o
  have hrec:TFo (pgX w B e L n) (forX pgI) (forP pgI) (forB pgI) (rangeAV N) (i+1) ⟨if x.inn+1<aim then piL (x.wrap y) aim tn ct y++[lv "lap" (.int i),lv "more" (.int (wrapT y x.tig x.ptx).2.2)]else piL x aim tn ct y++[lv "lap" (.int i)],pq cl p k o1⟩ .next ⟨piL (lapF aim y (m+1) x) aim tn ct y,pq cl p k o1⟩:=by
   unfold lapF
   by_cases h:x.inn+1<aim
   ·rw[if_pos h,if_pos h]
    have:=x.wrap_tk y
    exact TFo.forget rfl Less.app (pg_in W hn hy o1 m (i+1) (x.wrap y) (by lia) (Xt.wrap_good y hg) (by lia))
   ·rw[if_neg h,if_neg h]
    exact TFo.forget rfl Less.app (pg_in W hn hy o1 m (i+1) x (by lia) hg (by lia))
  refine tfo_cons (c₁:=⟨if x.inn+1<aim then piL (x.wrap y) aim tn ct y++[lv "lap" (.int i),lv "more" (.int (wrapT y x.tig x.ptx).2.2)]else piL x aim tn ct y++[lv "lap" (.int i)],pq cl p k o1⟩) rfl (by kernel_rfl) (range_some (by lia)) rfl ?_ hrec
  rw[pgI_x]
  exact hb
theorem lapF_good (aim:Int){y:Nat}:∀ (m:Nat) {x:Xt},x.good->(lapF aim y m x).good
 |0,x,h=>h
 |m+1,x,h=>by
  unfold lapF
  split
  ·exact lapF_good aim m (Xt.wrap_good y h)
  ·exact lapF_good aim m h
theorem lapF_tk (aim:Int){y:Nat}:∀ (m:Nat) (x:Xt),(lapF aim y m x).tk.length<=x.tk.length+4*m
 |0,x=>by unfold lapF;lia
 |m+1,x=>by
  unfold lapF
  split
  ·have:=lapF_tk aim m (x:=x.wrap y) (y:=y)
   have:=x.wrap_tk y
   lia
  ·have:=lapF_tk aim m (x:=x) (y:=y)
   lia
theorem lapF_code (aim:Int){y:Nat}:∀ (m:Nat) (x:Xt),(lapF aim y m x).code.length<=x.code.length+2*m
 |0,x=>by unfold lapF;lia
 |m+1,x=>by
  unfold lapF
  split
  ·have:=lapF_code aim m (x:=x.wrap y) (y:=y)
   have:=x.wrap_code y
   lia
  ·have:=lapF_code aim m (x:=x) (y:=y)
   lia
noncomputable abbrev poL (x:Xt)(aim:Int):Loc:=[lv "pen" (.ref 1),lv "text" (.str x.ptx),lv "tight" (.int x.tig),lv "depth" (.int (x.inn+1)),lv "aim" (.int aim)]
end
noncomputable def lapN (ct:Int)(aim:Int)(x:Xt):Nat:=(if aim- (x.inn+1)<ct then aim- (x.inn+1)else ct).toNat
section
variable {w:World}{B:Heap}
theorem pg_turn (W:Wd w B){e:En}{L n:Nat}(hn:3<=n){cl:List Int}(hc:cl.length<1000){p:Nat}(hp:p<9000){k aim tn:Int}(ha0:0<=aim)(ha:aim<=102){x:Xt}(hg:x.good)(hx:x.inn<=1000)(hz:x.tk.length<=5000)(o:Obj):
  TF (pgX w B e L n) (execs (forB pgT) (pgX w B e L n).f.env) ⟨put (poL x aim) "turn" (.int tn),pn cl p k++[.raw o]⟩ .next
   ⟨piL (lapF aim (drw cl k p 6).toNat (lapN (drw cl k (p+1) 101) aim x) x) aim tn (drw cl k (p+1) 101) (drw cl k p 6).toNat,pn cl (p+2) k++[.raw o]⟩:=by
 have hX:Ok (pgX w B e L n):=okX W
 have d1:=c_draw W cl hc p (by lia) k 6 (by decide)
 have d2:=c_draw W cl hc (p+1) (by lia) k 101 (by decide)
 have l1:=drw_lo (cl:=cl) (k:=k) (p:=p) (m:=6) (by decide)
 have u1:=drw_hi (cl:=cl) (k:=k) (p:=p) (m:=6) (by decide)
 have l2:=drw_lo (cl:=cl) (k:=k) (p:=p+1) (m:=101) (by decide)
 have u2:=drw_hi (cl:=cl) (k:=k) (p:=p+1) (m:=101) (by decide)
 have h0:=x.inn0
 obtain⟨y,hy⟩:∃y:Nat,drw cl k p 6=(y:Int):=⟨(drw cl k p 6).toNat,by lia⟩
 rw[hy]at d1 l1 u1 ⊢
 rw[Int.toNat_natCast]
 generalize drw cl k (p+1) 101=ct at d2 l2 u2 ⊢
 have e1:(((p:Nat):Int)+1)=((p+1:Nat):Int):=by lia
 have e2:(((p+1:Nat):Int)+1)=((p+2:Nat):Int):=by lia
 rw[e1]at d1
 rw[e2]at d2
 have eb:forB pgT=[stm (forB pgT) 0,pgI]:=by kernel_rfl
 rw[eb]
 have t1:TF (pgX w B e L n) (exec (stm (forB pgT) 0) (pgX w B e L n).f.env) ⟨put (poL x aim) "turn" (.int tn),pn cl p k++[.raw o]⟩ .next ⟨piL x aim tn ct y,pq cl (p+2) k o⟩:=
  good (t:=.s (stm (forB pgT) 0)) (v:=.f .next) hX (or:=[.call [0,1] (.ret (.int (y:Int))) (pn cl (p+1) k),.call [0,1] (.ret (.int ct)) (pn cl (p+2) k)]) (aI (d1 n (by lia)) (aI (d2 n (by lia)) trivial))
 have hi:ItOK (pgX w B e L n) (forI pgI) ⟨piL x aim tn ct y,pq cl (p+2) k o⟩ (rangeAV (lapN ct aim x)) ⟨piL x aim tn ct y,pq cl (p+2) k o⟩:=by
  have:=it_range (X:=pgX w B e L n) (c:=⟨piL x aim tn ct y,pq cl (p+2) k o⟩) (func:=callF (forI pgI)) (args:=callA (forI pgI)) (pos:=callP (forI pgI)) (n:=if aim- (x.inn+1)<ct then aim- (x.inn+1)else ct) (by split<;>lia) (by split<;>lia)
   (xpr hX (or:=[]) (c':=⟨piL x aim tn ct y,pq cl (p+2) k o⟩) trivial) (by kernel_rfl) (xps hX (or:=[]) (c':=⟨piL x aim tn ct y,pq cl (p+2) k o⟩) trivial (by kernel_rfl)) (by kernel_rfl)
  rw[<-show isCall (forI pgI) by kernel_rfl]at this
  exact this
 have hT:=tf_forS (s:=pgI) (by kernel_rfl) hi (pg_in W (by lia) (by lia) o (lapN ct aim x) 0 x (by lia) hg (by
  have:lapN ct aim x<=101:=by unfold lapN;split<;>lia
  lia)) (λv=>by kernel_rfl)
 exact tf_cons t1 (tf_cons hT tf_nil)
end
theorem Xt.wrap_le (y:Nat)(x:Xt):(x.wrap y).inn<=x.inn+2:=by
 rw[x.wrap_dep y ""]
 have:(wrapT y x.tig "").2.2<=2:=by
  match y with
  |0=>show(1:Int)<=2;decide
  |1=>show(1:Int)<=2;decide
  |2=>show(1:Int)<=2;decide
  |3=>show(if x.tig=3 then(("-" :Str)++par' "",(6:Int),(2:Int))else("-" ++ "",6,1)).2.2<=2;split<;>decide
  |4=>show(1:Int)<=2;decide
  |n+5=>show(if x.tig=3 then(("2+" :Str)++par' "",(3:Int),(2:Int))else("2+" ++ "",3,1)).2.2<=2;split<;>decide
 lia
theorem lapF_inn {aim:Int}(ha:aim<=102){y:Nat}:∀ (m:Nat) (x:Xt),x.inn<=103->(lapF aim y m x).inn<=103
 |0,x,h=>h
 |m+1,x,h=>by
  unfold lapF
  split
  ·rename_i q
   have:=x.wrap_le y
   exact lapF_inn ha m _ (by lia)
  ·exact lapF_inn ha m _ h
noncomputable def turnF (cl:List Int)(k aim:Int):Nat->Nat->Xt->Xt
 |0,_,x=>x
 |n+1,p,x=>turnF cl k aim n (p+2) (lapF aim (drw cl k p 6).toNat (lapN (drw cl k (p+1) 101) aim x) x)
section
variable {w:World}{B:Heap}
theorem pgT_x:forX pgT= "turn" :=by kernel_rfl
theorem poL_closed (x:Xt)(aim:Int):∀p∈poL x aim,closedV 2 p.2=true:=by intro p hp;simp at hp;rcases hp with rfl|rfl|rfl|rfl|rfl<;>rfl
theorem pn_closed (cl:List Int)(p:Nat)(k:Int):∀o∈pn cl p k,closedO 2 o=true:=by intro o hp;simp at hp;rcases hp with rfl|rfl<;>rfl
theorem lapN_le {ct aim:Int}{x:Xt}(h:ct<101):lapN ct aim x<=101:=by unfold lapN;split<;>lia
theorem pg_out (W:Wd w B){e:En}{L n:Nat}(hn:3<=n){cl:List Int}(hc:cl.length<1000){k aim:Int}(ha0:0<=aim)(ha:aim<=102){N:Nat}:∀ (m i p:Nat) (x:Xt),i+m=N->p+2*m<9000->x.good->x.inn<=103->x.tk.length+404*m<=5000->
  TFo (pgX w B e L n) (forX pgT) (forP pgT) (forB pgT) (rangeAV N) i ⟨poL x aim,pn cl p k⟩ .next ⟨poL (turnF cl k aim m p x) aim,pn cl (p+2*m) k⟩
 |0,i,p,x,hi,hp,hg,hx,hz=>by
  have:i=N:=by lia
  subst this
  exact tfo_nil range_none (poL_closed x aim) (pn_closed cl p k)
 |m+1,i,p,x,hi,hp,hg,hx,hz=>by
  have u2:=drw_hi (cl:=cl) (k:=k) (p:=p+1) (m:=101) (by decide)
  have hb:=λo=>pg_turn W (e:=e) (L:=L) (n:=n) hn hc (p:=p) (by lia) (k:=k) (aim:=aim) (tn:=(i:Int)) ha0 ha hg (by lia) (by lia) o
  have hN:=lapN_le (aim:=aim) (x:=x) u2
  have h1:=lapF_good aim (y:=(drw cl k p 6).toNat) (lapN (drw cl k (p+1) 101) aim x) hg
  have h2:=lapF_inn ha (y:=(drw cl k p 6).toNat) (lapN (drw cl k (p+1) 101) aim x) x hx
  have h3:=lapF_tk aim (y:=(drw cl k p 6).toNat) (lapN (drw cl k (p+1) 101) aim x) x
  have hrec:=pg_out W (e:=e) (L:=L) hn hc (k:=k) ha0 ha (N:=N) m (i+1) (p+2) _ (by lia) (by lia) h1 h2 (by lia)
  have e1:p+2+2*m=p+2*(m+1):=by lia
  rw[e1]at hrec
  refine tfo_cons (c₁:=⟨piL (lapF aim (drw cl k p 6).toNat (lapN (drw cl k (p+1) 101) aim x) x) aim (i:Int) (drw cl k (p+1) 101) (drw cl k p 6).toNat,pn cl (p+2) k⟩) rfl (by kernel_rfl) (range_some (by lia)) rfl ?_
   (TFo.forget rfl (loc':=poL (lapF aim (drw cl k p 6).toNat (lapN (drw cl k (p+1) 101) aim x) x) aim) (Less.app (r:=[lv "turn" (.int i),lv "count" (.int (drw cl k (p+1) 101)),lv "way" (.int ((drw cl k p 6).toNat:Int))])) hrec)
  rw[pgT_x]
  exact hb
end
noncomputable def blkF (cl:List Int)(k aim:Int):Nat->Nat->Sx->Nat×Sx
 |0,p,s=>(p,s)
 |n+1,p,s=>if s.dep<aim then blkF cl k aim n (p+1) (s.wrap (drw cl k p 3).toNat)else blkF cl k aim n p s
theorem Sx.ptx_len {s:Sx}(h:s.fig=true):s.ptx.length<=5*s.tk.length:=by
 have h1:=chn_sx s h
 have:=tks_len s.tk λk hk=>okT_len (chn_all h1 k hk)
 show(Tks.cl s.tk).toArray.size<=_
 simpa using this
section
variable {w:World}{B:Heap}
noncomputable abbrev poS (s:Sx)(tg aim:Int):Loc:=[lv "pen" (.ref 1),lv "text" (.str s.ptx),lv "tight" (.int tg),lv "depth" (.int s.dep),lv "aim" (.int aim)]
theorem poS_closed (s:Sx)(tg aim:Int):∀p∈poS s tg aim,closedV 2 p.2=true:=by intro p hp;simp at hp;rcases hp with rfl|rfl|rfl|rfl|rfl<;>rfl
theorem pgB_x:forX pgB= "lap" :=by kernel_rfl
theorem pg_b1 (W:Wd w B){e:En}{L n:Nat}(hn:3<=n){cl:List Int}(hc:cl.length<1000){p:Nat}(hp:p<9000){k aim tg lp:Int}{s:Sx}(hf:s.fig=true)(hz:s.tk.length<=10000)(o:Obj)(h:s.dep<aim):
  TF (pgX w B e L n) (execs (forB pgB) (pgX w B e L n).f.env) ⟨put (poS s tg aim) "lap" (.int lp),pn cl p k++[.raw o]⟩ .next ⟨poS (s.wrap (drw cl k p 3).toNat) tg aim++[lv "lap" (.int lp)],pn cl (p+1) k++[.raw o]⟩:=by
 have hX:Ok (pgX w B e L n):=okX W
 have d1:=c_draw W cl hc p (by lia) k 3 (by decide)
 have l1:=drw_lo (cl:=cl) (k:=k) (p:=p) (m:=3) (by decide)
 have u1:=drw_hi (cl:=cl) (k:=k) (p:=p) (m:=3) (by decide)
 have hl:=s.ptx_len hf
 obtain⟨y,hy⟩:∃y:Nat,drw cl k p 3=(y:Int):=⟨(drw cl k p 3).toNat,by lia⟩
 rw[hy]at d1 l1 u1 ⊢
 rw[Int.toNat_natCast]
 have hb:=c_blk W y (by lia) s.ptx (by lia)
 have e1:=s.wrap_text y
 have e2:=s.wrap_dep y
 have e3:(((p:Nat):Int)+1)=((p+1:Nat):Int):=by lia
 rw[e3]at d1
 show TF _ _ _ _ ⟨[lv "pen" (.ref 1),lv "text" (.str (s.wrap y).ptx),lv "tight" (.int tg),lv "depth" (.int (s.wrap y).dep),lv "aim" (.int aim),lv "lap" (.int lp)],_⟩
 rw[<-e1,e2]
 generalize blkT y s.ptx=t at hb ⊢
 exact stp hX (or:=[.br true,.call [0,1] (.ret (.int (y:Int))) (pn cl (p+1) k),.call [] (.ret (.str t)) []]) (aI (decide_eq_true h) (aI (d1 n (by lia)) (aI (hb n (by lia)) trivial)))
theorem pg_b0 (W:Wd w B){e:En}{L n:Nat}{cl:List Int}{p:Nat}{k aim tg lp:Int}{s:Sx}(o:Obj)(h:¬s.dep<aim):
  TF (pgX w B e L n) (execs (forB pgB) (pgX w B e L n).f.env) ⟨put (poS s tg aim) "lap" (.int lp),pn cl p k++[.raw o]⟩ .next ⟨poS s tg aim++[lv "lap" (.int lp)],pn cl p k++[.raw o]⟩:=
 stp (okX W) (or:=[.br false]) (aI (decide_eq_false h) trivial)
theorem pg_bs (W:Wd w B){e:En}{L n:Nat}(hn:3<=n){cl:List Int}(hc:cl.length<1000){k aim tg:Int}{N:Nat}:∀ (m i p:Nat) (s:Sx),i+m=N->p+m<9000->s.good->s.tk.length+10*m<=10000->
  TFo (pgX w B e L n) (forX pgB) (forP pgB) (forB pgB) (rangeAV N) i ⟨poS s tg aim,pn cl p k⟩ .next ⟨poS (blkF cl k aim m p s).2 tg aim,pn cl (blkF cl k aim m p s).1 k⟩
 |0,i,p,s,hi,hp,hg,hz=>by
  have:i=N:=by lia
  subst this
  exact tfo_nil range_none (poS_closed s tg aim) (pn_closed cl p k)
 |m+1,i,p,s,hi,hp,hg,hz=>by
  unfold blkF
  by_cases h:s.dep<aim
  ·rw[if_pos h]
   have hb:=λo=>pg_b1 W (e:=e) (L:=L) (n:=n) hn hc (p:=p) (by lia) (k:=k) (tg:=tg) (lp:=(i:Int)) hg.2.1 (by lia) o h
   have ht:=s.wrap_tk (drw cl k p 3).toNat
   have hrec:=pg_bs W (e:=e) (L:=L) hn hc (k:=k) (aim:=aim) (tg:=tg) (N:=N) m (i+1) (p+1) _ (by lia) (by lia) (Sx.wrap_good (drw cl k p 3).toNat hg) (by lia)
   refine tfo_cons (c₁:=⟨poS (s.wrap (drw cl k p 3).toNat) tg aim++[lv "lap" (.int i)],pn cl (p+1) k⟩) rfl (by kernel_rfl) (range_some (by lia)) rfl ?_ (TFo.forget rfl Less.app hrec)
   rw[pgB_x]
   exact hb
  ·rw[if_neg h]
   have hb:=λo=>pg_b0 W (e:=e) (L:=L) (n:=n) (cl:=cl) (p:=p) (k:=k) (tg:=tg) (lp:=(i:Int)) (s:=s) o h
   have hrec:=pg_bs W (e:=e) (L:=L) hn hc (k:=k) (aim:=aim) (tg:=tg) (N:=N) m (i+1) p s (by lia) (by lia) hg (by lia)
   refine tfo_cons (c₁:=⟨poS s tg aim++[lv "lap" (.int i)],pn cl p k⟩) rfl (by kernel_rfl) (range_some (by lia)) rfl ?_ (TFo.forget rfl Less.app hrec)
   rw[pgB_x]
   exact hb
end
noncomputable def aimF (v:Int):Int:=match v.toNat with
 |0=>99
 |1=>101
 |2=>100
 |3=>102
 |4=>5
 |_=>98
theorem aim_lo (v:Int):0<=aimF v:=by unfold aimF;split<;>decide
theorem aim_hi (v:Int):aimF v<=102:=by unfold aimF;split<;>decide
noncomputable def trnN (cl:List Int)(k:Int):Nat:=(1+drw cl k 1 4).toNat
noncomputable def pageX (cl:List Int)(k:Int):Xt:=turnF cl k (aimF (drw cl k 0 6)) (trnN cl k) 2 (.num 7)
noncomputable def blkN (cl:List Int)(k:Int):Nat:=(drw cl k (2+2*trnN cl k) 40).toNat
noncomputable def pageF (cl:List Int)(k:Int):Nat×Sx:=blkF cl k (aimF (drw cl k 0 6)) (blkN cl k) (2+2*trnN cl k+1) (.set (pageX cl k))
theorem turnF_ok {cl:List Int}{k aim:Int}(ha:aim<=102):∀ (m p:Nat) (x:Xt),x.good->x.inn<=103->(turnF cl k aim m p x).good/\(turnF cl k aim m p x).inn<=103/\(turnF cl k aim m p x).tk.length<=x.tk.length+404*m/\(turnF cl k aim m p x).code.length<=x.code.length+202*m
 |0,p,x,h,hx=>⟨h,hx,by unfold turnF;lia,by unfold turnF;lia⟩
 |m+1,p,x,h,hx=>by
  have u2:=drw_hi (cl:=cl) (k:=k) (p:=p+1) (m:=101) (by decide)
  have hN:=lapN_le (aim:=aim) (x:=x) u2
  have h1:=lapF_good aim (y:=(drw cl k p 6).toNat) (lapN (drw cl k (p+1) 101) aim x) h
  have h2:=lapF_inn ha (y:=(drw cl k p 6).toNat) (lapN (drw cl k (p+1) 101) aim x) x hx
  have h3:=lapF_tk aim (y:=(drw cl k p 6).toNat) (lapN (drw cl k (p+1) 101) aim x) x
  have h4:=lapF_code aim (y:=(drw cl k p 6).toNat) (lapN (drw cl k (p+1) 101) aim x) x
  obtain⟨r1,r2,r3,r4⟩:=turnF_ok (cl:=cl) (k:=k) ha m (p+2) _ h1 h2
  unfold turnF
  exact⟨r1,r2,by lia,by lia⟩
theorem trnN_le (cl:List Int)(k:Int):trnN cl k<=4:=by
 have:=drw_hi (cl:=cl) (k:=k) (p:=1) (m:=4) (by decide)
 unfold trnN;lia
theorem blkN_le (cl:List Int)(k:Int):blkN cl k<=39:=by
 have:=drw_hi (cl:=cl) (k:=k) (p:=2+2*trnN cl k) (m:=40) (by decide)
 unfold blkN;lia
theorem blkF_ok {cl:List Int}{k aim:Int}:∀ (m p:Nat) (s:Sx),s.good->(blkF cl k aim m p s).2.good/\(blkF cl k aim m p s).2.clen<=s.clen+3*m/\(blkF cl k aim m p s).2.tk.length<=s.tk.length+10*m/\(blkF cl k aim m p s).1<=p+m
 |0,p,s,h=>⟨h,by show s.clen<=_;lia,by show s.tk.length<=_;lia,by show p<=_;lia⟩
 |m+1,p,s,h=>by
  unfold blkF
  split
  ·have e1:=s.wrap_clen (drw cl k p 3).toNat
   have e2:=s.wrap_tk (drw cl k p 3).toNat
   obtain⟨r1,r2,r3,r4⟩:=blkF_ok (cl:=cl) (k:=k) (aim:=aim) m (p+1) _ (Sx.wrap_good (drw cl k p 3).toNat h)
   exact⟨r1,by lia,by lia,by lia⟩
  ·obtain⟨r1,r2,r3,r4⟩:=blkF_ok (cl:=cl) (k:=k) (aim:=aim) m p s h
   exact⟨r1,by lia,by lia,by lia⟩
theorem page_ok (cl:List Int)(k:Int):(pageF cl k).2.good/\(pageF cl k).2.clen<=1000/\(pageF cl k).2.tk.length<=2100:=by
 have hn:=trnN_le cl k
 have hb:=blkN_le cl k
 obtain⟨r1,r2,r3,r4⟩:=turnF_ok (cl:=cl) (k:=k) (aim_hi (drw cl k 0 6)) (trnN cl k) 2 (.num 7) ⟨rfl,by decide,by decide⟩ (by decide)
 have e1:(Xt.num 7).tk.length=1:=rfl
 have e2:(Xt.num 7).code.length=1:=rfl
 obtain⟨q1,q2,q3,q4⟩:=blkF_ok (cl:=cl) (k:=k) (aim:=aimF (drw cl k 0 6)) (blkN cl k) (2+2*trnN cl k+1) (.set (pageX cl k)) r1
 have e3:(Sx.set (pageX cl k)).clen=(pageX cl k).code.length+1:=rfl
 have e4:(Sx.set (pageX cl k)).tk.length=(pageX cl k).tk.length+2:=rfl
 have r3:(pageX cl k).tk.length<=1+404*trnN cl k:=r3
 have r4:(pageX cl k).code.length<=1+202*trnN cl k:=r4
 unfold pageF
 exact⟨q1,by lia,by lia⟩
section
variable {w:World}{B:Heap}
theorem pg_itT (W:Wd w B){e:En}{L n:Nat}(hn:3<=n){cl:List Int}(hc:cl.length<1000){k aim:Int}{x:Xt}:ItOK (pgX w B e L n) (forI pgT) ⟨poL x aim,pn cl 1 k⟩ (rangeAV (trnN cl k)) ⟨poL x aim,pn cl 2 k⟩:=by
 have hX:Ok (pgX w B e L n):=okX W
 have d1:=c_draw W cl hc 1 (by lia) k 4 (by decide)
 have l1:=drw_lo (cl:=cl) (k:=k) (p:=1) (m:=4) (by decide)
 have u1:=drw_hi (cl:=cl) (k:=k) (p:=1) (m:=4) (by decide)
 have:=it_range (X:=pgX w B e L n) (c:=⟨poL x aim,pn cl 1 k⟩) (func:=callF (forI pgT)) (args:=callA (forI pgT)) (pos:=callP (forI pgT)) (n:=1+drw cl k 1 4) (by lia) (by lia)
  (xpr hX (or:=[]) (c':=⟨poL x aim,pn cl 1 k⟩) trivial) (by kernel_rfl) (xps hX (or:=[.call [0,1] (.ret (.int (drw cl k 1 4))) (pn cl 2 k)]) (c':=⟨poL x aim,pn cl 2 k⟩) (aI (d1 n (by lia)) trivial) (by kernel_rfl)) (by kernel_rfl)
 rw[<-show isCall (forI pgT) by kernel_rfl]at this
 exact this
theorem pg_itB (W:Wd w B){e:En}{L n:Nat}(hn:3<=n){cl:List Int}(hc:cl.length<1000){k aim tg:Int}{s:Sx}{q:Nat}(hq:q<9000):ItOK (pgX w B e L n) (forI pgB) ⟨poS s tg aim,pn cl q k⟩ (rangeAV (drw cl k q 40).toNat) ⟨poS s tg aim,pn cl (q+1) k⟩:=by
 have hX:Ok (pgX w B e L n):=okX W
 have d1:=c_draw W cl hc q (by lia) k 40 (by decide)
 have l1:=drw_lo (cl:=cl) (k:=k) (p:=q) (m:=40) (by decide)
 have u1:=drw_hi (cl:=cl) (k:=k) (p:=q) (m:=40) (by decide)
 have e3:(((q:Nat):Int)+1)=((q+1:Nat):Int):=by lia
 rw[e3]at d1
 have:=it_range (X:=pgX w B e L n) (c:=⟨poS s tg aim,pn cl q k⟩) (func:=callF (forI pgB)) (args:=callA (forI pgB)) (pos:=callP (forI pgB)) (n:=drw cl k q 40) (by lia) (by lia)
  (xpr hX (or:=[]) (c':=⟨poS s tg aim,pn cl q k⟩) trivial) (by kernel_rfl) (xps hX (or:=[.call [0,1] (.ret (.int (drw cl k q 40))) (pn cl (q+1) k)]) (c':=⟨poS s tg aim,pn cl (q+1) k⟩) (aI (d1 n (by lia)) trivial) (by kernel_rfl)) (by kernel_rfl)
 rw[<-show isCall (forI pgB) by kernel_rfl]at this
 exact this
theorem aim_at {v:Int}(h0:0<=v)(h6:v<6):0<=v/\v<2^63/\(partsOfD [D.int 99,D.int 101,D.int 100,D.int 102,D.int 5,D.int 98])[v.toNat]? =some (.int (aimF v)):=by
 refine⟨h0,by lia,?_⟩
 obtain⟨m,rfl⟩:∃m:Nat,v=(m:Int):=⟨v.toNat,by lia⟩
 have:m<6:=by lia
 unfold aimF
 rw[Int.toNat_natCast]
 match m,this with
 |0,_=>rfl
 |1,_=>rfl
 |2,_=>rfl
 |3,_=>rfl
 |4,_=>rfl
 |5,_=>rfl
theorem c_page (W:Wd w B)(cl:List Int)(hc:cl.length<1000)(k:Int):CN w B 4 956 [.ref 1] (pn cl 0 k) (.ret (.dat (.tup [.str (pageF cl k).2.ptx,.int (pageF cl k).2.dep]))) (pn cl (pageF cl k).1 k):=by
 have d0:=c_draw W cl hc 0 (by lia) k 6 (by decide)
 have ha:=aim_at (drw_lo (cl:=cl) (k:=k) (p:=0) (m:=6) (by decide)) (drw_hi (cl:=cl) (k:=k) (p:=0) (m:=6) (by decide))
 have hn4:=trnN_le cl k
 have hb:=blkN_le cl k
 have g7:(Xt.num 7).good:=⟨rfl,by decide,by decide⟩
 obtain⟨r1,r2,r3,r4⟩:=turnF_ok (cl:=cl) (k:=k) (aim_hi (drw cl k 0 6)) (trnN cl k) 2 (.num 7) g7 (by decide)
 have e1:(Xt.num 7).tk.length=1:=rfl
 have r3:(pageX cl k).tk.length<=1+404*trnN cl k:=r3
 have r1:(pageX cl k).good:=r1
 have e4:(Sx.set (pageX cl k)).tk.length=(pageX cl k).tk.length+2:=rfl
 refine CN.of (F_law_page1 W) rfl (k:=3) (fl:=.ret _) λn hn e L=>?_
 have hX:Ok (pgX w B e L n):=okX W
 have h2:TF (pgX w B e L n) (exec pgT (pgX w B e L n).f.env) ⟨poL (.num 7) (aimF (drw cl k 0 6)),pn cl 1 k⟩ .next ⟨poL (pageX cl k) (aimF (drw cl k 0 6)),pn cl (2+2*trnN cl k) k⟩:=
  tf_forS (s:=pgT) (by kernel_rfl) (pg_itT W hn hc) (pg_out W hn hc (aim_lo _) (aim_hi _) (trnN cl k) 0 2 (.num 7) (by lia) (by lia) g7 (by decide) (by lia)) (λv=>by kernel_rfl)
 have h4:TF (pgX w B e L n) (exec pgB (pgX w B e L n).f.env) ⟨poS (.set (pageX cl k)) (pageX cl k).tig (aimF (drw cl k 0 6)),pn cl (2+2*trnN cl k) k⟩ .next ⟨poS (pageF cl k).2 (pageX cl k).tig (aimF (drw cl k 0 6)),pn cl (pageF cl k).1 k⟩:=
  tf_forS (s:=pgB) (by kernel_rfl) (pg_itB W hn hc (by lia)) (pg_bs W hn hc (blkN cl k) 0 (2+2*trnN cl k+1) (.set (pageX cl k)) (by show 0+blkN cl k=blkN cl k;lia) (by lia) r1 (by lia)) (λv=>by kernel_rfl)
 have hl:=(pageX cl k).ptx_len r1.2.1
 have z1:("$$=" :Str).length+(pageX cl k).ptx.length<=sizeLine:=by rw[show("$$=" :Str).length=3 by kernel_rfl,sizeLine_eq];lia
 have es:=set_text (pageX cl k)
 have ed:(Sx.set (pageX cl k)).dep=(pageX cl k).inn+1:=rfl
 generalize hS:pageF cl k=P at h4 ⊢
 generalize hx:pageX cl k=x at h2 h4 z1 es ed
 have h4':TF (pgX w B e L n) (exec pgB (pgX w B e L n).f.env) ⟨[lv "pen" (.ref 1),lv "text" (.str ("$$=" ++x.ptx)),lv "tight" (.int x.tig),lv "depth" (.int (x.inn+1)),lv "aim" (.int (aimF (drw cl k 0 6)))],pn cl (2+2*trnN cl k) k⟩ .next ⟨poS P.2 x.tig (aimF (drw cl k 0 6)),pn cl P.1 k⟩:=by
  rw[es,<-ed];exact h4
 generalize aimF (drw cl k 0 6)=aim at h2 h4' ha
 generalize drw cl k 0 6=v at d0 ha
 exact way hX (or:=[.call [0,1] (.ret (.int v)) (pn cl 1 k),.item (.int aim),.suite .next ⟨poL x aim,pn cl (2+2*trnN cl k) k⟩,.suite .next ⟨poS P.2 x.tig aim,pn cl P.1 k⟩]) (aI (d0 n (by lia)) (aI ha (aI h2 (aI z1 (aI h4' trivial)))))
end
section
variable {w:World}{B:Heap}
theorem c_pp (W:Wd w B){s:Sx}(hg:s.good)(hz:s.tk.length<=10000):
  (s.dep<=100->CN w B (s.kS+6) 481 [.str s.ptx] [] (.ret (.dat (.lst [.tup s.nodeL]))) [])/\
  (100<s.dep->∃o:Nat,0<o/\o<s.ptx.length/\CN w B (s.kS+6) 481 [.str s.ptx] [] (deepX o) []):=by
 have hl:=s.ptx_len hg.2.1
 have h:(s.tk.map λk=>(k,0)).map Prod.fst=s.tk:=by rw[List.map_map];exact List.map_id _
 exact c_parse W hg.1 (ly:=s.tk.map λk=>(k,0)) h (chn_sx s hg.2.1) (by show s.ptx.length<1000000;lia)
end
mutual
noncomputable def D.py:D->PyData
 | .none=>.none
 | .bool b=>.bool b
 | .int i=>.int i
 | .str s=>.str s
 | .tup l=>.tuple (D.pys l)
 | .lst l=>.list (D.pys l)
 | .inst .. =>.none
noncomputable def D.pys:List D->List PyData
 | []=>[]
 |d::l=>d.py::D.pys l
end
structure RpOK (d:D)(w k:Nat):Prop where
 rd:∀ (G:Gh) (v:Value) (h:Heap),RepD G v d->(∀b o,G b=some o->h.get? b=some o)->∃as,Reads h v d.py as
 show1:d.py.showable=true
 short:d.py.leavesShort 13=true
 noD:d.py.hasDict=false
 wt:d.py.weight<=w
 dp:d.py.depth<=k
structure RpsOK (l:List D)(w k:Nat):Prop where
 rd:∀ (G:Gh) (vs:List Value) (h:Heap),RepDs G vs l->(∀b o,G b=some o->h.get? b=some o)->∃as,ReadsAll h vs (D.pys l) as
 show1:PyData.showableAll (D.pys l)=true
 short:PyData.leavesShortAll 13 (D.pys l)=true
 noD:PyData.hasDictAll (D.pys l)=false
 wt:PyData.weightAll (D.pys l)<=w
 dp:PyData.depthAll (D.pys l)<=k
theorem RpsOK.nil:RpsOK [] 0 0:=⟨λG vs h r _=>⟨[],r.inv0▸ .nil⟩,rfl,rfl,rfl,Nat.le_refl _,Nat.le_refl _⟩
theorem RpsOK.cons {d:D}{l:List D}{w₁ w₂ w k₁ k₂ k:Nat}(a:RpOK d w₁ k₁)(b:RpsOK l w₂ k₂)(hw:w₁+1+w₂<=w)(h1:k₁<=k)(h2:k₂<=k):RpsOK (d::l) w k:=by
 refine⟨λG vs h r hk=>?_,?_,?_,?_,?_,?_⟩
 ·obtain⟨_,_,rfl,r,rs⟩:=r.inv
  ·obtain⟨x,hx⟩:=a.rd G _ h r hk
   obtain⟨y,hy⟩:=b.rd G _ h rs hk
   exact⟨_,by unfold D.pys;exact .cons hx hy⟩
 ·unfold D.pys PyData.showableAll;rw[a.show1,b.show1];rfl
 ·unfold D.pys PyData.leavesShortAll;rw[a.short,b.short];rfl
 ·unfold D.pys PyData.hasDictAll;rw[a.noD,b.noD];rfl
 ·unfold D.pys PyData.weightAll;have:=a.wt;have:=b.wt;lia
 ·unfold D.pys PyData.depthAll;have:=a.dp;have:=b.dp;exact Nat.max_le.mpr ⟨by lia,by lia⟩
theorem RpsOK.tup {l:List D}{w k:Nat}(a:RpsOK l w k):RpOK (.tup l) w (k+1):=by
 refine⟨λG v h r hk=>?_,?_,?_,?_,?_,?_⟩
 ·obtain⟨_,_,_,rfl,e,rs⟩:=r.inv
  ·obtain⟨x,hx⟩:=a.rd G _ h rs hk
   exact⟨_,by unfold D.py;exact .tuple (hk _ _ e) rfl rfl hx⟩
 ·unfold D.py PyData.showable;exact a.show1
 ·unfold D.py PyData.leavesShort;exact a.short
 ·unfold D.py PyData.hasDict;exact a.noD
 ·unfold D.py PyData.weight;exact a.wt
 ·unfold D.py PyData.depth;exact Nat.succ_le_succ a.dp
theorem RpsOK.lst {l:List D}{w k:Nat}(a:RpsOK l w k):RpOK (.lst l) w (k+1):=by
 refine⟨λG v h r hk=>?_,?_,?_,?_,?_,?_⟩
 ·obtain⟨_,_,_,rfl,e,rs⟩:=r.inv
  ·obtain⟨x,hx⟩:=a.rd G _ h rs hk
   exact⟨_,by unfold D.py;exact .list (hk _ _ e) rfl rfl hx⟩
 ·unfold D.py PyData.showable;exact a.show1
 ·unfold D.py PyData.leavesShort;exact a.short
 ·unfold D.py PyData.hasDict;exact a.noD
 ·unfold D.py PyData.weight;exact a.wt
 ·unfold D.py PyData.depth;exact Nat.succ_le_succ a.dp
theorem RpOK.str {x:Str}{w:Nat}(h:x.cps.toList.all (λc=>decide (c<16^8))=true)(hw:x.cps.size<=w):RpOK (.str x) w 0:=by
 refine⟨λG v h r hk=>?_,?_,?_,?_,?_,?_⟩
 ·obtain⟨_,rfl⟩:=r.inv
  exact⟨[],by unfold D.py;exact .str _ _⟩
 ·unfold D.py PyData.showable;rfl
 ·unfold D.py PyData.leavesShort;exact h
 ·unfold D.py PyData.hasDict;rfl
 ·unfold D.py PyData.weight;exact hw
 ·unfold D.py PyData.depth;exact Nat.le_refl _
theorem RpOK.int {i:Int}(h:i.natAbs<=100000):RpOK (.int i) 18 0:=by
 have hl:i.natAbs.log2<17\/i.natAbs=0:=by
  by_cases z:i.natAbs=0
  ·exact .inr z
  ·exact .inl ((Nat.log2_lt z).mpr (by lia))
 have hl:i.natAbs.log2<17:=by
  rcases hl with h|h
  ·exact h
  ·rw[h];decide
 refine⟨λG v h r hk=>?_,?_,?_,?_,?_,?_⟩
 ·cases r;exact⟨[],by unfold D.py;exact .int _ _⟩
 ·unfold D.py PyData.showable;exact decide_eq_true (by lia)
 ·unfold D.py PyData.leavesShort
  refine decide_eq_true ?_
  have e:=int_text_length_le10 (a:=i) (k:=6) (by decide) (by rw[show(10:Nat)^6=1000000 from by decide];lia)
  show(Str.ofString (toString i)).length<=13
  rw[PySem.ofString_length];lia
 ·unfold D.py PyData.hasDict;rfl
 ·unfold D.py PyData.weight;split<;>lia
 ·unfold D.py PyData.depth;exact Nat.le_refl _
theorem RpOK.up {d:D}{w w' k k':Nat}(h:RpOK d w k)(h1:w<=w')(h2:k<=k'):RpOK d w' k':= {h with wt:=Nat.le_trans h.wt h1,dp:=Nat.le_trans h.dp h2}
section
variable {X:Cx}{c:St}
theorem callw_repr {d:D}{w k:Nat}(h:RpOK d w k)(hw:w<=1000000)(hk:k+2<=10*X.n+400)(hr:∀G v,RepD G v d->∃a,v=.ref a):CallW X (.blt "repr") [.dat d] c (.str d.py.shown):=λA ρ G s fv vs rm fo i rf rs=>by
 obtain rfl:=rf
 refine rv1 rs λv r=>?_
 ·obtain⟨a,rfl⟩:=hr G v r
  obtain⟨as,rd⟩:=h.rd G _ s.heap r i.h.frz
  refine repr_of_reads' rd h.show1 (λz=>by rw[h.noD]at z;cases z) rm.guards (by have:=rm.units;have:=h.dp;lia) (λ_ _ e=>e) (λh' u tk hk'=>?_) (PyData.shown_fits (by decide) (by decide) h.short (by have:=h.wt;rw[show(2:Nat)^20=1048576 from by decide];lia))
  exact⟨ρ,G,PreA.refl _,Sub.refl _,i.ext hk' rfl rfl,u,rfl⟩
theorem callw_repr_int {i:Int}(h:RpOK (.int i) 18 0):CallW X (.blt "repr") [.int i] c (.str (toString i)):=λA ρ G s fv vs rm fo I rf rs=>by
 obtain rfl:=rf
 refine rv1 rs λv r=>rI r λ_=>?_
 ·have h1:=h.show1
  unfold D.py PyData.showable at h1
  exact P.repr_of_int (of_decide_eq_true h1) ⟨ρ,G,PreA.refl _,Sub.refl _,I.toks,_,rfl⟩
end
theorem RpOK.ascii {x:Str}{w:Nat}(h:(x.cps.toList.all (λc=>decide (c<16^8))&&decide (x.cps.size<=w))=true):RpOK (.str x) w 0:=by
 rw[Bool.and_eq_true]at h
 exact .str h.1 (of_decide_eq_true h.2)
theorem rps1 {l:List D}{w k:Nat}(h:RpOK (.tup l) w k):RpOK (.lst [.tup l]) (w+1) (k+1):=(RpsOK.cons h .nil (Nat.le_refl _) (Nat.le_refl _) (Nat.zero_le _)).lst
theorem Xt.rp:∀x:Xt,x.lin=true->RpsOK x.nodeL (40*x.tk.length) (3*x.tk.length)
 | .num k,h=>by
  have hk:k<=9:=of_decide_eq_true h
  exact .cons (.ascii (w:=6) (by decide+kernel)) (.cons (.int (by lia)) .nil (Nat.le_refl _) (Nat.le_refl _) (Nat.zero_le _)) (by show _<=40*1;decide) (Nat.zero_le _) (Nat.zero_le _)
 | .par x,h=>by
  have r:=Xt.rp x h
  have hl:(Xt.par x).tk.length=x.tk.length+2:=by simp[Xt.tk]
  rw[hl]
  exact{r with wt:=Nat.le_trans r.wt (by lia),dp:=Nat.le_trans r.dp (by lia)}
 | .lst x,h=>by
  have r:=rps1 (Xt.rp x h).tup
  have hl:(Xt.lst x).tk.length=x.tk.length+2:=by simp[Xt.tk]
  rw[hl]
  exact .cons (.ascii (w:=4) (by decide+kernel)) (.cons r .nil (Nat.le_refl _) (Nat.le_refl _) (Nat.zero_le _)) (by lia) (by lia) (by lia)
 | .len x,h=>by
  have r:=rps1 (Xt.rp x h).tup
  have hl:(Xt.len x).tk.length=x.tk.length+3:=by simp[Xt.tk]
  rw[hl]
  exact .cons (.ascii (w:=5) (by decide+kernel)) (.cons (.ascii (w:=3) (by decide+kernel)) (.cons r .nil (Nat.le_refl _) (Nat.le_refl _) (Nat.zero_le _)) (Nat.le_refl _) (Nat.zero_le _) (Nat.le_refl _)) (by lia) (by lia) (by lia)
 | .neg x,h=>by
  have r:=(Xt.rp x h).tup
  have hl:(Xt.neg x).tk.length=x.tk.length+1:=by simp[Xt.tk]
  rw[hl]
  exact .cons (.ascii (w:=3) (by decide+kernel)) (.cons (.ascii (w:=1) (by decide+kernel)) (.cons r .nil (Nat.le_refl _) (Nat.le_refl _) (Nat.zero_le _)) (Nat.le_refl _) (Nat.zero_le _) (Nat.le_refl _)) (by lia) (by lia) (by lia)
 | .add l r,h=>by
  unfold Xt.lin at h
  rw[Bool.and_eq_true,Bool.and_eq_true]at h
  have a:=(Xt.rp l h.2.1).tup
  have b:=(Xt.rp r h.2.2).tup
  have hl:(Xt.add l r).tk.length=l.tk.length+r.tk.length+1:=by simp[Xt.tk];lia
  rw[hl]
  exact .cons (w₂:=40*l.tk.length+40*r.tk.length+4) (k₂:=3*l.tk.length+3*r.tk.length+1) (.ascii (w:=3) (by decide+kernel)) (.cons (.ascii (w:=1) (by decide+kernel)) (.cons (k:=3*l.tk.length+3*r.tk.length+1) a (.cons b .nil (Nat.le_refl _) (Nat.le_refl _) (Nat.zero_le _)) (Nat.le_refl _) (by lia) (by lia)) (by lia) (Nat.zero_le _) (Nat.le_refl _)) (by lia) (by lia) (by lia)
theorem rp_n1:RpOK (.tup n1) 26 1:=(RpsOK.cons (.ascii (w:=6) (by decide+kernel)) (.cons (.int (by decide)) .nil (Nat.le_refl _) (Nat.le_refl _) (Nat.zero_le _)) (Nat.le_refl _) (Nat.le_refl _) (Nat.le_refl _)).tup
theorem rp_nU:RpOK (.tup nU) 26 1:=(RpsOK.cons (.ascii (w:=4) (by decide+kernel)) (.cons (.ascii (w:=1) (by decide+kernel)) .nil (Nat.le_refl _) (Nat.le_refl _) (Nat.zero_le _)) (by decide) (Nat.le_refl _) (Nat.le_refl _)).tup
theorem rp_e:RpOK (.lst []) 0 1:=RpsOK.nil.lst
theorem Sx.rp:∀s:Sx,s.lin=true->RpsOK s.nodeL (40*s.tk.length) (3*s.tk.length)
 | .set x,h=>by
  have r:=(Xt.rp x h).tup
  have hl:(Sx.set x).tk.length=x.tk.length+2:=by simp[Sx.tk]
  rw[hl]
  exact .cons (.ascii (w:=3) (by decide+kernel)) (.cons r .nil (Nat.le_refl _) (Nat.le_refl _) (Nat.zero_le _)) (by lia) (by lia) (by lia)
 | .iff s,h=>by
  have r:=rps1 (Sx.rp s h).tup
  have hl:(Sx.iff s).tk.length=s.tk.length+6:=by simp[Sx.tk]
  rw[hl]
  exact .cons (w₂:=40*s.tk.length+40) (k₂:=3*s.tk.length+3) (.ascii (w:=2) (by decide+kernel)) (.cons rp_n1 (.cons (k:=3*s.tk.length+3) r (.cons rp_e .nil (Nat.le_refl _) (Nat.le_refl _) (Nat.zero_le _)) (Nat.le_refl _) (by lia) (by lia)) (by lia) (by lia) (Nat.le_refl _)) (by lia) (by lia) (by lia)
 | .whl s,h=>by
  have r:=rps1 (Sx.rp s h).tup
  have hl:(Sx.whl s).tk.length=s.tk.length+6:=by simp[Sx.tk]
  rw[hl]
  exact .cons (w₂:=40*s.tk.length+40) (k₂:=3*s.tk.length+3) (.ascii (w:=5) (by decide+kernel)) (.cons rp_nU (.cons (k:=3*s.tk.length+3) r .nil (Nat.le_refl _) (by lia) (by lia)) (by lia) (by lia) (Nat.le_refl _)) (by lia) (by lia) (by lia)
 | .els m s,h=>by
  have r:=rps1 (Sx.rp s h).tup
  have hl:s.tk.length+9<=(Sx.els m s).tk.length:=by simp[Sx.tk]
  exact .cons (w₂:=40*s.tk.length+40) (k₂:=3*s.tk.length+3) (.ascii (w:=2) (by decide+kernel)) (.cons rp_nU (.cons (k:=3*s.tk.length+3) rp_e (.cons r .nil (Nat.le_refl _) (Nat.le_refl _) (Nat.zero_le _)) (Nat.le_refl _) (by lia) (by lia)) (by lia) (by lia) (Nat.le_refl _)) (by lia) (by lia) (by lia)
noncomputable def Vx.dp:Vx->Nat
 | .num _=>0
 | .tup v=>v.dp+1
noncomputable def Vx.sm:Vx->Prop
 | .num i=>i.natAbs<=100000
 | .tup v=>v.sm
theorem Vx.rp:∀v:Vx,v.sm->RpOK v.D (v.dp+18) v.dp
 | .num i,h=>(RpOK.int h).up (by lia) (by lia)
 | .tup v,h=>(RpsOK.cons (Vx.rp v h) .nil (Nat.le_refl _) (Nat.le_refl _) (Nat.zero_le _)).tup.up (by show _<=v.dp+1+18;lia) (Nat.le_refl _)
theorem Xt.val_sm (x:Xt):∀ (v:Vx),x.lin=true->10*x.code.length<=100000->x.val=some v->v.sm/\v.dp<=x.code.length:=by
 induction x with
 |num k=>intro v h hz e;obtain rfl:=Option.some.inj e;exact⟨Nat.le_trans (Xt.val_le (.num k) _ h rfl) hz,Nat.zero_le _⟩
 |par x ih=>exact ih
 |lst x ih=>
  intro v h hz e
  have hl:(Xt.lst x).code.length=x.code.length+1:=List.length_append
  obtain⟨u,q,rfl⟩:=Option.map_eq_some_iff.mp e
  obtain⟨a,b⟩:=ih u h (by lia) q
  exact⟨a,by rw[hl];exact Nat.succ_le_succ b⟩
 |len x=>
  intro v h hz e
  obtain⟨u,_,q⟩:=Option.bind_eq_some_iff.mp e
  cases u with
  |num=>cases q
  |tup=>obtain rfl:=Option.some.inj q;exact⟨by show(1:Int).natAbs<=_;decide,Nat.zero_le _⟩
 |neg x=>
  intro v h hz e
  have w:=Xt.val_le (.neg x) v h e
  obtain⟨u,_,q⟩:=Option.bind_eq_some_iff.mp e
  cases u with
  |tup=>cases q
  |num=>obtain rfl:=Option.some.inj q;exact⟨Nat.le_trans w hz,Nat.zero_le _⟩
 |add l r=>
  intro v h hz e
  have w:=Xt.val_le (.add l r) v h e
  obtain⟨a,_,q⟩:=Option.bind_eq_some_iff.mp e
  obtain⟨b,_,q⟩:=Option.bind_eq_some_iff.mp q
  cases a with
  |tup=>cases q
  |num a=>
   cases b with
   |tup=>cases q
   |num b=>obtain rfl:=Option.some.inj q;exact⟨Nat.le_trans w hz,Nat.zero_le _⟩
theorem Sx.res_of (s:Sx):∀ (v:D),s.lin=true->s.clen<=1000->s.res (.int 5)=some v->∃u:Vx,v=u.D/\u.sm/\u.dp<=1000:=by
 induction s with
 |set x=>
  intro v h hz e
  have hlen:x.code.length+1<=1000:=hz
  obtain⟨u,q,rfl⟩:=Option.map_eq_some_iff.mp e
  obtain⟨a,b⟩:=Xt.val_sm x u h (by lia) q
  exact⟨u,rfl,a,by lia⟩
 |iff s ih=>exact λv h hz e=>ih v h (Nat.le_trans (Nat.le_add_right _ 2) hz) e
 |whl s=>intro v h hz e;obtain rfl:=Option.some.inj e;exact⟨.num 5,rfl,by show(5:Int).natAbs<=_;decide,Nat.zero_le _⟩
 |els m s ih=>exact λv h hz e=>ih v h (Nat.le_trans (Nat.le_add_right _ 3) hz) e
section
variable {M:Model}{A:Around}{E:Value->Shared->Prop}{s:Shared}{B:Heap}{e:En}{C:Addr}{ks:List Str}{l:List D}{G:Gh}{x:Value}
theorem set_core {Q:Unit->Shared->Prop}{G':Gh}{a d T:Addr}{fs ts:Array Value}{oT:Obj}{es:List DictEntry}{n:Nat}{vs:List Value}(h2:Sub G G')(h3:s.heap.get? a=some (excObj C d fs))(h4:fs.size=6)(t1:fs[1]? =some (.ref T))(t2:s.heap.get? T=some oT)(t3:oT.data=.fields ts)(hsz:3<ts.size)
  (t5:T≠a) (t6:G' T=none) (t7:T∈e.ρ\/e.H.get? T=none) (h6:G' d=some (dictOf es n)) (h7:KeysAre es ks vs) (h8:RepDs G' vs l) (h9:G' a=none) (h10:a∈e.ρ\/e.H.get? a=none) (h11:∀b o,B.get? b=some o->G' b=some o)
  (h12:∀b o,G' b=some o->s.heap.get? b=some o) (h13:∀b o,G' b=some o->(∃o',e.G b=some o')\/b∈e.ρ\/e.H.get? b=none) (hkeep:KeepX e s.heap) (hg:s.gens= #[]) (ho:s.os=e.os)
  (k:∀s',Fly B none e C ks l G (.ref a) s'->Q () s'):wpAny M A (setFlight (.ref a) none) Q E s:=by
 unfold setFlight
 refine wpAny_bind (wpAny_field h3 rfl t1 ?_)
 rw[if_pos (show(Value.ref T !=Value.none)=true from by simp)]
 refine wpAny_setField t2 t3 hsz (k _ ?_)
 have other:∀b,b≠T->(s.heap.update T (Obj.mapFields (·.setIfInBounds 3 Value.none))).get? b=s.heap.get? b:=λb hb=>Heap.get?_update_other _ _ (Ne.symm hb)
 have hd:=Obj.data_mapFields t3 (·.setIfInBounds 3 Value.none)
 have hT':=Heap.get?_update_self (Obj.mapFields (·.setIfInBounds 3 Value.none)) t2 (Obj.isFreed_of_fields hd)
 refine⟨⟨G',a,d,fs,es,n,vs,rfl,h2,(other a (Ne.symm t5)).trans h3,h4,.inr ⟨T,_,_,t1,hT',hd,.inl ?_,t5,t6,t7⟩,h6,h7,h8,h9,h10,h11,λb o q=>(other b λz=>?_).trans (h12 b o q),h13,λL z=>(by cases z)⟩,λb o q nr=>?_,λL z=>(by cases z),hg,ho⟩
 ·rw[Array.getElem?_setIfInBounds_self_of_lt hsz]
 ·rw[z,t6]at q;cases q
 ·have bT:b≠T:=λz=>t7.elim (λy=>nr (z▸y)) λy=>by rw[z,y]at q;cases q
  obtain⟨c1,c2⟩:=hkeep b o q nr
  exact⟨λz=>(other b bT).trans (c1 z),λz=>let⟨sl,w⟩:=c2 z;⟨sl,(other b bT).trans w⟩⟩
theorem set_in {Q:Unit->Shared->Prop}(h:Fly B none e C ks l G x s)(k:∀s',Fly B none e C ks l G x s'->Q () s'):wpAny M A (setFlight x none) Q E s:=by
 obtain⟨⟨G',a,d,fs,es,n,vs,rfl,h2,h3,h4,h5,h6,h7,h8,h9,h10,h11,h12,h13,h14⟩,hkeep,_,hg,ho⟩:=h
 rcases h5 with⟨_,z⟩| ⟨T,ts,oT,t1,t2,t3,t4,t5,t6,t7⟩
 ·exact absurd rfl z
 ·have hsz:3<ts.size:=by
   rcases t4 with t4| ⟨_,z,_⟩
   ·exact(Array.getElem?_eq_some_iff.mp t4).1
   ·cases z
  exact set_core h2 h3 h4 t1 t2 t3 hsz t5 t6 t7 h6 h7 h8 h9 h10 h11 h12 h13 hkeep hg ho k
theorem note_in {env:Env}{o':List Env}{L:Addr}{Q:Unit->Shared->Prop}(ho:e.outer=env::o')(hf:env.frame=some L)(hfr:A.frames=some e.outer)(fo:FrOK e.H e.ρ e.G e.outer)(h:Fly B none e C ks l G x s)
  (k:∀s',Fly B none e C ks l G x s'->Q () s'):wpAny M A (noteFrame x env) (λ_ s₂=>wpAny M A (setFlight x none) Q E s₂) E s:=by
 obtain⟨⟨G',a,d,fs,es,n,vs,rfl,h2,h3,h4,h5,h6,h7,h8,h9,h10,h11,h12,h13,h14⟩,hkeep,_,hg,hos⟩:=h
 rcases h5 with⟨_,z⟩| ⟨T,ts,oT,t1,t2,t3,t4,t5,t6,t7⟩
 ·exact absurd rfl z
 ·have t4:ts[3]? =some .none:=by
   rcases t4 with t4| ⟨_,z,_⟩
   ·exact t4
   ·cases z
  have hsz:3<ts.size:=(Array.getElem?_eq_some_iff.mp t4).1
  unfold noteFrame
  simp only[hf]
  refine wpAny_bind (wpAny_field h3 rfl t1 ?_)
  rw[if_pos (show(Value.ref T !=Value.none)=true from by simp)]
  refine wpAny_bind (wpAny_field t2 t3 t4 ?_)
  rw[if_neg (show¬ ((Value.none==rawInt L)=true) from by simp[rawInt])]
  refine wpAny_bind (wpAny_setField t2 t3 hsz ?_)
  have other:∀b,b≠T->(s.heap.update T (Obj.mapFields (·.setIfInBounds 3 Value.none))).get? b=s.heap.get? b:=λb hb=>Heap.get?_update_other _ _ (Ne.symm hb)
  have keep₁:KeepX e (s.heap.update T (Obj.mapFields (·.setIfInBounds 3 Value.none))):=λb o q nr=>by
   have bT:b≠T:=λz=>t7.elim (λy=>nr (z▸y)) λy=>by rw[z,y]at q;cases q
   obtain⟨c1,c2⟩:=hkeep b o q nr
   exact⟨λz=>(other b bT).trans (c1 z),λz=>let⟨sl,w⟩:=c2 z;⟨sl,(other b bT).trans w⟩⟩
  have g₁:∀b o,G' b=some o->(s.heap.update T (Obj.mapFields (·.setIfInBounds 3 Value.none))).get? b=some o:=λb o q=>(other b λz=>by rw[z,t6]at q;cases q).trans (h12 b o q)
  have a₁:=(other a (Ne.symm t5)).trans h3
  generalize hs₁:s.heap.update T (Obj.mapFields (·.setIfInBounds 3 Value.none))=H₁ at keep₁ g₁ a₁ ⊢
  have emp:∀b,(Heap.get? {} b:Option Obj)=none:=λb=>Heap.get?_none_of_le (Nat.zero_le _)
  have ff:∀fr:List Env,(∀env∈fr,env∈e.outer)->H₁.FunFrames {} fr:=by
   intro fr
   induction fr with
   |nil=>intro _;trivial
   |cons a r ih=>
    intro hs
    obtain⟨k,L',o',f1,f2,f3,f4,f5⟩:=fo a (hs a (.head _))
    obtain⟨sl,w⟩:=(keep₁ L' o' f2 f4).2 (List.mem_filterMap.mpr ⟨a,hs a (.head _),f1⟩)
    exact⟨k,⟨L',_,f1,emp L',w,f3⟩,ih λenv he=>hs env (.tail _ he)⟩
  refine note_core (s:= {s with heap:=H₁}) (hfr.trans (by rw[ho])) (ff _ (by rw[ho];exact λ_ z=>z)) hf a₁ (by lia) λh' hN=>?_
  obtain⟨T',oT',ts',n1,n2,n3,n4,n5,n6⟩:=hN
  have nL:∀b∈(env::o').filterMap (·.frame),b∈e.outL:=λb z=>by
   show b∈e.outer.filterMap (·.frame)
   rw[ho];exact z
  have nG:∀b o,G' b=some o->b≠a/\b∉ ((env::o').filterMap (·.frame)):=λb o q=>by
   refine⟨λz=>(by rw[z,h9]at q;cases q),λz=>?_⟩
   rw[Fly.outG fo h13 (nL b z)]at q;cases q
  have nA:∀b o,e.H.get? b=some o->b∉e.ρ->b≠a:=λb o q nr z=>h10.elim (λy=>nr (z▸y)) λy=>by rw[z,y]at q;cases q
  refine set_core (d:=d) (T:=T') (ts:=ts') h2 n2 (by simp[h4]) (Array.getElem?_setIfInBounds_self_of_lt (by lia)) n3 n4 (Array.getElem?_eq_some_iff.mp n5).1 (λz=>?_) ?_ ?_ h6 h7 h8 h9 h10 h11 (λb o q=>?_) h13 (λb o q nr=>?_) hg hos k
  ·rw[z]at n1;rw[n1]at a₁;cases a₁
  ·cases q:G' T' with
   |none=>rfl
   |some o=>have:=g₁ T' o q;rw[n1]at this;cases this
  ·by_cases hr:T'∈e.ρ
   ·exact .inl hr
   ·refine .inr ?_
    cases q:e.H.get? T' with
    |none=>rfl
    |some o=>
     obtain⟨c1,c2⟩:=keep₁ T' o q hr
     by_cases ho:T'∈e.outL
     ·obtain⟨sl,w⟩:=c2 ho;rw[n1]at w;cases w
     ·have:=c1 ho;rw[n1]at this;cases this
  ·obtain⟨m1,m2⟩:=nG b o q
   exact(n6 b o m1 (g₁ b o q)).1 m2
  ·obtain⟨c1,c2⟩:=keep₁ b o q nr
   refine⟨λz=>(n6 b o (nA b o q nr) (c1 z)).1 λy=>z (nL b y),λz=>?_⟩
   obtain⟨sl,w⟩:=c2 z
   obtain⟨sl',w'⟩:=(n6 b _ (nA b o q nr) w).2
   exact⟨sl',w'⟩
end
section
variable {B:Heap}{f:Fm}{e:En}{c:St}{ρ:List Addr}{G:Gh}{s s':Shared}
theorem In.after (x:In B f e c ρ G s)(fo:FrOK e.H e.ρ e.G e.outer){C:Addr}{ks:List Str}{l:List D}{v:Value}{G₁:Gh}(hG:Sub G G₁)(h:Fly B none ⟨s.heap,[],G,f.env::e.outer,s.os⟩ C ks l G₁ v s'):
  ∃G' a d fs es n vs,FlyI B none ⟨s.heap,[],G,f.env::e.outer,s.os⟩ C ks l G₁ v s' G' a d fs es n vs/\In B f e c ρ G' s':=by
 obtain⟨⟨G',a,d,fs,es,n,vs,I⟩,hk,_,hg,ho⟩:=h
 refine⟨G',a,d,fs,es,n,vs,I,?_⟩
 have H:HOk B [] G' [] s':=⟨I.base,I.frz,rfl,List.nodup_nil,(λa h=>by cases h),(λi ao q=>by cases q),hg⟩
 have R:Rel ⟨s.heap,selA ρ [],G,f.env::e.outer,s.os⟩ [] G' s':=⟨hk,PreA.refl _,(λa h=>by cases h),I.newG,ho,hG.trans I.sub⟩
 obtain⟨δ,e1,i'⟩:=x.back fo (sel:=[]) (view:=[]) rfl rfl (PreA.refl _) (hG.trans I.sub) H R
 have:δ=[]:=by simpa [selA]using e1.symm
 subst this
 rw[List.append_nil]at i'
 have e3:putBack [] ρ.length [] [] c.obj=c.obj:=by show c.obj++[]=_;exact List.append_nil _
 rw[e3]at i'
 exact i'
end
def Thr (X:Cx)(c:St)(C:Addr)(ks:List Str)(l:List D)(ρ:List Addr)(G:Gh)(x:Value)(s₁:Shared):Prop:=
 ∃G' s,Sub G G'/\(∃ρ',PreA ρ ρ'/\In X.B X.f X.e c ρ' G' s)/\Fly X.B none ⟨s.heap,[],G',X.f.env::X.e.outer,s.os⟩ C ks l G' x s₁
def TX {α:Type}(X:Cx)(t:Sem α)(c c':St)(C:Addr)(ks:List Str)(l:List D):Prop:=
 ∀ (A:Around) (ρ:List Addr) (G:Gh) (s:Shared),Rm A X.n (X.f.env::X.e.outer)->FrOK X.e.H X.e.ρ X.e.G X.e.outer->In X.B X.f X.e c ρ G s->
  wpAny (model X.prog X.w) A t (λ_ _=>False) (λx s₁=>Thr X c' C ks l ρ G x s₁) s
theorem Thr.up {X:Cx}{c:St}{C:Addr}{ks:List Str}{l:List D}{ρ ρ':List Addr}{G G':Gh}{x:Value}{s₁:Shared}(p:PreA ρ ρ')(q:Sub G G')(h:Thr X c C ks l ρ' G' x s₁):Thr X c C ks l ρ G x s₁:=by
 obtain⟨G₂,s,k,⟨ρ₂,r,i⟩,z⟩:=h
 exact⟨G₂,s,q.trans k,⟨ρ₂,p.trans r,i⟩,z⟩
section
variable {X:Cx}{c c₁ c₂:St}{C:Addr}{ks:List Str}{l:List D}
theorem tx_call {K:Frag}{env:Env}{func args pos}{fa:AV}{fv:Value}{as args':List AV}{obj':List AO}{k:Nat}(hK:K.In X.B)(hfun:isFun X.f=true)
  (hf:TV X (eval func env) c (.ok fa) c₁) (hv:∀ρ G v,RepV ρ G fa v->v=fv) (hkeep:keepIn K fv=true) (hp:plainArgs args=true) (ha:TVs X (spliced (backTo pos (starEach args env))) c₁ (.ok as) c₂)
  (hn:k<=X.n) (ht:toVs [] as=some args') (hc:CallOK X.prog X.w X.B k fv args' [] (.ex C ks l) obj')
  (he:eval (.Call func args [] pos) env=(do callWith pos (<-eval func env) [] (backTo pos (starEach args env)) (backToKw pos (keywordEach [] env)))):
  TX X (eval (.Call func args [] pos) env) c c₂ C ks l:=λA ρ G s rm fo i=>by
 refine Call_ (wp_then hf rm fo i λv s₁ ρ₁ G₁ p₁ q₁ i₁ r₁=>?_) he
 cases hv _ _ _ r₁
 refine wp_callWith (X:=⟨X.prog,X.w,X.B,K,X.T,X.f,X.e,X.n⟩) hkeep hp ?_
 refine wps_then ha rm fo i₁ λvs s₂ ρ₂ G₂ p₂ q₂ i₂ r₂=>⟨hK.keeps i₂.h.pre,?_⟩
 have rm':Rm A k (X.f.env::X.e.outer):=⟨Nat.lt_of_le_of_lt (Nat.add_le_add_left hn _) rm.depth,Nat.lt_of_le_of_lt (by have:=Nat.mul_le_mul_left 10 hn;lia) rm.units,rm.handled,rm.guards,rm.frames⟩
 have z:=hc A (selA ρ₂ []) G₂ s₂ vs (X.f.env::X.e.outer) rm' (i₂.frames hfun fo λa ha=>selA_mem (λ_ h=>by cases h) ha) (i₂.view (sel:=[]) rfl rfl) (toVs_rep (λ_ h=>by cases h) ht r₂)
 refine wpAny_call (codeAny_mono z λres s' q=>?_)
 rcases res with x| (v|_|_|_)<;>first|exact q.elim|skip
 exact⟨G₂,s₂,q₁.trans q₂,⟨ρ₂,p₁.trans p₂,i₂⟩,q⟩
theorem tx_arg {env:Env}{func e pos}{fa:AV}(hb:isBltV fa=true)(hf:TV X (eval func env) c (.ok fa) c₁)(hs:notStar e=true)(ha:TX X (eval e env) c₁ c₂ C ks l)
  (he:eval (.Call func [e] [] pos) env=(do callWith pos (<-eval func env) [] (backTo pos (starEach [e] env)) (backToKw pos (keywordEach [] env)))):
  TX X (eval (.Call func [e] [] pos) env) c c₂ C ks l:=λA ρ G s rm fo i=>by
 refine Call_ (wp_then hf rm fo i λv s₁ ρ₁ G₁ p₁ q₁ i₁ r₁=>?_) he
 have hk:∀h:Heap,True->∃k,(k=Keeper.frame\/k=Keeper.machine\/k=Keeper.boundFrame)/\Looks (model X.prog X.w) h (keeperOf v) k:=λh _=>by
  cases fa with
  |blt id=>obtain rfl:=r₁;exact⟨.machine,.inr (.inl rfl),Looks.of_pure rfl⟩
  |typ n=>obtain rfl:=r₁;exact⟨.machine,.inr (.inl rfl),Looks.of_pure rfl⟩
  |_=>cases hb
 have fin:wpAny (model X.prog X.w) A (spliced (backTo pos (starEach [e] env))) (λvs s'=>True/\wpAny (model X.prog X.w) A (call v ([]++vs)) (λ_ _=>False) (λx s₁=>Thr X c₂ C ks l ρ G x s₁) s') (λx s₁=>Thr X c₂ C ks l ρ G x s₁) s₁:=
  wpAny_items_cons (wpAny_mono (ha A ρ₁ G₁ s₁ rm fo i₁) (λ_ _ z=>z.elim) λx s' z=>z.up p₁ q₁) (star_cons hs)
 rw[star_cons hs]at fin ⊢
 exact callWith_of (P:=λ_=>True) rfl hk (evalArgs_plain fin)
theorem tx_ret {e pos}(h:TX X (eval e X.f.env) c c₁ C ks l):TX X (exec (.Return (some e) pos) X.f.env) c c₁ C ks l:=λA ρ G s rm fo i=>
 wpAny_Return_some (wpAny_mono (h A ρ G s rm fo i) (λ_ _ z=>z.elim) λ_ _ z=>z)
theorem tx_assign {x pos' value pos}(hs:saysNo (swapsWith value (some (.Name x pos')) pos.line X.f.env)=true)(h:TX X (eval value X.f.env) c c₁ C ks l):TX X (exec (.Assign [.Name x pos'] value pos) X.f.env) c c₁ C ks l:=λA ρ G s rm fo i=>
 wpAny_Assign_Name (wpAny_mono (h A ρ G s rm fo i) (λ_ _ z=>z.elim) λ_ _ z=>z) (saysNo_eq hs)
theorem tx_first {st rest}(h:TX X (exec st X.f.env) c c₁ C ks l):TX X (execs (st::rest) X.f.env) c c₁ C ks l:=λA ρ G s rm fo i=>
 wpAny_execs_cons (wpAny_mono (h A ρ G s rm fo i) (λ_ _ z=>z.elim) λ_ _ z=>z)
theorem tf_try_ret {body:List Stmt}{h₀:ExceptHandler}{hs:List ExceptHandler}{pos:Pos}{a:AV}(h:TF X (execs body X.f.env) c (.ret a) c₁):TF X (exec (.Try body (h₀::hs) [] [] pos) X.f.env) c (.ret a) c₁:=λA ρ G s rm fo i=>
 wpAny_Try_except (wpAny_mono (h A ρ G s rm fo i) (λf s₁ z=>by cases f<;>first|exact z|exact z.elim) λ_ _ z=>z.elim)
theorem tf_try_next {body:List Stmt}{h₀:ExceptHandler}{hs:List ExceptHandler}{pos:Pos}(h:TF X (execs body X.f.env) c .next c₁):TF X (exec (.Try body (h₀::hs) [] [] pos) X.f.env) c .next c₁:=λA ρ G s rm fo i=>
 wpAny_Try_except (wpAny_mono (h A ρ G s rm fo i) (λf s₁ z=>by cases f<;>first|exact wpAny_execs_nil z|exact z.elim) λ_ _ z=>z.elim)
theorem wp_try {body:List Stmt}{h₀:ExceptHandler}{hs:List ExceptHandler}{pos:Pos}{Q:Flow->Shared->Prop}{E:Value->Shared->Prop}{A:Around}{ρ:List Addr}{G:Gh}{s:Shared}(hk:isFun X.f=true)(rm:Rm A X.n (X.f.env::X.e.outer))(fo:FrOK X.e.H X.e.ρ X.e.G X.e.outer)(i:In X.B X.f X.e c ρ G s)
  (h:TX X (execs body X.f.env) c c₁ C ks l) (k:∀x s₁,Thr X c₁ C ks l ρ G x s₁->wpAny (model X.prog X.w) A (handleBy x X.f.env (h₀::hs)) Q E s₁):wpAny (model X.prog X.w) A (exec (.Try body (h₀::hs) [] [] pos) X.f.env) Q E s:=by
 refine wpAny_Try_except (wpAny_mono (h A ρ G s rm fo i) (λ_ _ z=>z.elim) λx s₁ z=>?_)
 obtain⟨G₂,s₂,q,⟨ρ₂,p,i₂⟩,F⟩:=z
 exact note_in (o':=X.e.outer) rfl rfl rm.frames (i₂.frames hk fo (λa h=>by cases h)) F λs' F'=>k x s' ⟨G₂,s₂,q,⟨ρ₂,p,i₂⟩,F'⟩
end
theorem wp_global {X:Cx}(O:Ok X){x:Str}{pos:Pos}{av:AV}{A:Around}{Q:Value->Shared->Prop}{E:Value->Shared->Prop}{G:Gh}{s:Shared}(hx:isGlobal X.f x=true)(h:lk X.T.glob x=some av)
  (hb:∀b o,X.B.get? b=some o->G b=some o) (hf:∀b o,G b=some o->s.heap.get? b=some o) (k:∀v,RepV [] G av v->Q v s):wpAny (model X.prog X.w) A (eval (.Name x pos) X.f.env) Q E s:=by
 obtain⟨hd,z⟩:=O.1.glob x av h
 obtain⟨loose,mg,mb,T⟩:=O.1.top
 have pre:∀b o,X.B.get? b=some o->s.heap.get? b=some o:=λb o q=>hf b o (hb b o q)
 have hg:∀a o,X.K.lookup a=some o->G a=some o:=λa o q=>hb a o (O.1.k a o q)
 have hk:=isFun_eq O.2
 rcases z with⟨v,e,r⟩| ⟨v,e,hv,hn,r⟩
 ·exact Name_function_global hk (isGlobal_eq hx) (loadGlobal_global (env:=X.f.env) (T.g.keeps pre) (mg_of O.1.k T.g e) (k v (r [] G hg))) hd
 ·exact Name_function_global hk (isGlobal_eq hx) (loadGlobal_builtin (env:=X.f.env) (T.g.keeps pre) (mg_none_of O.1.k T.g e) (T.b.keeps pre) ((T.builtins x hn).trans hv) (k v (r [] G hg))) hd
section
variable {X:Cx}{A:Around}{s:Shared}{E:Value->Shared->Prop}{Q:Flow->Shared->Prop}
theorem wp_hit (O:Ok X){a C Cc d:Addr}{fs:Array Value}{G:Gh}{nm:Str}{p pos:Pos}{name:Option Str}{b₀:Stmt}{suite:List Stmt}{rest:List ExceptHandler}(ho:s.heap.get? a=some (excObj C d fs))(hg:isGlobal X.f nm=true)(hl:lk X.T.glob nm=some (.cls Cc))
  (hm:exmOne X.K (.ref C) (.ref Cc)=some true) (hb:∀b o,X.B.get? b=some o->G b=some o) (hf:∀b o,G b=some o->s.heap.get? b=some o)
  (h:codeAny (model X.prog X.w) (A.mark (some (.ref a))) (.handlers (.ref a) [.ExceptHandler none name (b₀::suite) pos] X.f.env) (λr s₂=>match r with
     | .ok f=>(match name with
      |none=>Q f s₂
      |some n=>wpAny (model X.prog X.w) A (do bindName X.f.env n .none;unbindBehindTheSuite X.f.env n pos) (λ_ s₃=>Q f s₃) E s₂)
     | .error x=>cameBackBy (model X.prog X.w) A X.f.env E x s₂) s):
  wpAny (model X.prog X.w) A (handleBy (.ref a) X.f.env (.ExceptHandler (some (.Name nm p)) name (b₀::suite) pos::rest)) Q E s:=by
 refine wpAny_handleBy_cons (codeAny_handlers_test (wp_global O hg hl hb hf λv rv=>?_)) (by intro q;cases q)
 obtain rfl:=rv
 have L:Looks (model X.prog X.w) s.heap (typeOf (.ref a)) (.ref C):=(Looks.ld ho).andThen .now
 exact(exm_one (O.1.k.keeps λb o q=>hf b o (hb b o q)) L hm).here h
theorem tf_try_says (O:Ok X){c c₁:St}{C Cc:Addr}{ks:List Str}{l:List D}{body:List Stmt}{nm z:Str}{p q pos hpos:Pos}{kd:Nat}(hb:TX X (execs body X.f.env) c c₁ C ks l)(hg:isGlobal X.f nm=true)(hl:lk X.T.glob nm=some (.cls Cc))(hm:exmOne X.K (.ref C) (.ref Cc)=some true){rp:Pos}:
  TF X (exec (.Try body [.ExceptHandler (some (.Name nm p)) none [.Return (some (.Constant (.str z) kd q)) rp] hpos] [] [] pos) X.f.env) c (.ret (.str z)) c₁:=λA ρ G s rm fo i=>by
 refine wp_try O.2 rm fo i hb λx s₁ T=>?_
 obtain⟨G₂,s₂,k₂,⟨ρ₂,p₂,i₂⟩,F⟩:=T
 obtain⟨G₃,a,d,fs,es,n,vs,I,i₃⟩:=i₂.after fo (Sub.refl _) F
 obtain rfl:=I.isRef
 refine wp_hit O I.here hg hl hm I.base I.frz (codeAny_handlers_suite (set_in F λs₄ F₄=>?_))
 obtain⟨G₄,a₄,d₄,fs₄,es₄,n₄,vs₄,I₄,i₄⟩:=i₂.after fo (Sub.refl _) F₄
 refine wpAny_execs_cons (wpAny_Return_some (wpAny_Constant_str ?_))
 exact⟨ρ₂,G₄,p₂,k₂.trans I₄.sub,i₄.toks,_,rfl⟩
end
section
variable {prog:Program}{w:World}{A:Around}{E:Value->Shared->Prop}{K:Frag}{x C:Addr}{ox:Obj}{od:Option Obj}{name:Str}{expr:Bool}
theorem get_valueX {Q:Value->Shared->Prop}{h:Heap}{g:Array GenState}{d:Drawn}{t:Nat}{os:OsState}{v:Value}(X:K.In h)(I:InstAt h x ox C od)(hga:findIn K (.ref C) "__getattribute__" =some (some (.builtin "BaseException.__getattribute__")))(hgb:findIn K (.ref C) "__getattr__" =some none)
  (hsub:subIn K (.ref C) (.type "BaseException")=some true) (hf:findObj K C od name=some (.value v)) (hh:handedIn v=true) (hQ:Q v ⟨h,g,d,t+1,os⟩):wpAny (model prog w) A (getAttr (.ref x) name expr) Q E ⟨h,g,d,t,os⟩:=by
 have L0:=I.type (M:=model prog w)
 have L1:=looks_findIn (M:=model prog w) X hga
 have L2:=looks_findIn (M:=model prog w) X hgb
 have L3:=looks_subIn (M:=model prog w) X hsub
 have L4:=looks_find (M:=model prog w) X I hf
 have hx2:(onTheHeap (Value.ref C)&&Value.builtin "BaseException.__getattribute__" ==Value.builtin "object.__getattribute__")=false:=by rw[show(Value.builtin "BaseException.__getattribute__" ==Value.builtin "object.__getattribute__")=false from by decide+kernel,Bool.and_false]
 have hx0:(expr&&onTheHeap (Value.builtin "BaseException.__getattribute__"))=false:=by cases expr<;>rfl
 unfold getAttr getAttrBy
 refine wpAny_bind (wpAny_mkText (wpAny_holding (wpAny_bind (L0.at (wpAny_bind (L1.at ?_))))))
 dsimp only
 rw[if_neg (by rw[hx2];decide)]
 unfold getAttrByItsOwn hookBefore
 rw[if_pos (show onTheHeap (Value.ref C)=true from rfl)]
 refine wpAny_bind (L2.at ?_)
 unfold callGetattribute
 rw[if_neg (by rw[hx0];decide)]
 refine wpAny_bind (wpAny_attempt (wpAny_holding ?_))
 unfold boundAndCalled
 refine wpAny_bind (wpAny_of_eq (F.attr_Exception.ga.bind (.ref x)) ?_)
 refine wpAny_call (codeAny_call_builtin F.attr_Exception.ga.plain F.entry_bexc_ga ?_)
 have hk:builtinKind "BaseException.__getattribute__" =some .slot:=by decide+kernel
 have hsplit:splitId "BaseException.__getattribute__" =some ("BaseException","__getattribute__"):=by decide+kernel
 have ha:=F.args_bexc_ga (.ref x) (.str name t)
 show wpAny _ _ (checkBuiltinCall "BaseException.__getattribute__" ⟨[.ref x,.str name t],[]⟩) _ _ _
 simp only[checkBuiltinCall,hk,hsplit]
 refine wpAny_bind ?_
 unfold isInstance
 refine wpAny_bind (L0.at (L3.at ?_))
 rw[if_neg (by decide)]
 refine wpAny_of_eq ha ?_
 unfold Builtin.«object.__getattribute__»
 refine wpAny_bind (wpAny_of_eq (a:=(.ref x,[.str name t])) rfl ?_)
 refine wpAny_bind (wpAny_of_eq (a:=name) rfl ?_)
 refine wpAny_bind (L0.at (wpAny_bind (L4.at ?_)))
 refine wpAny_pure ?_
 show wpAny _ _ (handedOut v) _ _ _
 rw[handedOut_of hh];exact wpAny_pure hQ
end
noncomputable def plainAttrX (K:Frag)(C:Addr)(x:Str):Bool:=
 (clsIn K C).any (·.hasDict)&&findIn K (.ref C) x==some none&&findIn K (.ref C) "__getattribute__" ==some (some (.builtin "BaseException.__getattribute__"))&&findIn K (.ref C) "__getattr__" ==some none&&subIn K (.ref C) (.type "BaseException")==some true
def Rd (prog:Program)(w:World)(A:Around)(s:Shared)(t:Sem Value)(P:Value->Prop):Prop:=
 ∀ (k:Nat) (Q:Value->Shared->Prop) (E:Value->Shared->Prop),(∀v k',P v->Q v {s with toks:=k'})->wpAny (model prog w) A t Q E {s with toks:=k}
section
variable {prog:Program}{w:World}{A:Around}{s:Shared}{env:Env}
theorem rd_local {x:Str}{p:Pos}{m:Str->Option Value}{v:Value}(hk:env.scope.kind=.function)(hl:env.kindOf x=some .local)(hd:(x==("__debug__" :Str))=false)(hn:s.heap.Ns env.locals m)(hm:m x=some v):
  Rd prog w A s (eval (.Name x p) env) (λu=>u=v):=λk Q E h=>wpAny_Name (wpAny_loadName_local hk hl hn hm (h v k rfl)) hd
theorem rd_int {z:Int}{kd:Nat}{p:Pos}:Rd prog w A s (eval (.Constant (.int z) kd p) env) (λv=>∃t,v=.int z t):=λk Q E h=>wpAny_Constant_int (h _ (k+1) ⟨k,rfl⟩)
theorem rd_none {kd:Nat}{p:Pos}:Rd prog w A s (eval (.Constant .none kd p) env) (λv=>v=.none):=λk Q E h=>wpAny_Constant_none (h _ k rfl)
theorem rd_attr {K:Frag}{o:Expr}{attr:Str}{pos:Pos}{a C:Addr}{ox:Obj}{es:List DictEntry}{n:Nat}{u:Value}(X:K.In s.heap)(ho:Rd prog w A s (eval o env) (λv=>v=.ref a))(I:InstAt s.heap a ox C (some (dictOf es n)))
  (hu:lookIn attr (dictOf es n)=some (some u)) (hp:plainAttr K C attr=true) (hh:handedIn u=true)
  (he:eval (.Attribute o attr pos) env=(do
   let o'<-eval o env
   standAt pos.atName
   let r<-holding [o'] (getAttr o' attr true)
   letTemporaryGo o o' r
   pure r)):Rd prog w A s (eval (.Attribute o attr pos) env) (λv=>v=u):=λk Q E h=>by
 unfold plainAttr at hp
 simp only[Bool.and_eq_true,beq_iff_eq]at hp
 obtain⟨⟨p1,p2⟩,p3⟩:=hp
 obtain⟨cd,hc,hd⟩:=any_some p1
 refine Attribute_any_ (ho k _ _ λv k' e=>?_) he
 subst e
 refine get_value (s:= {s with toks:=k'}) X I p3 (v:=u) ?_ hh (h u _ rfl)
 unfold findObj
 rw[hc,Option.bind_some,p2,Option.bind_some]
 dsimp only
 rw[Option.bind_some,Option.bind_some]
 dsimp only
 unfold PySem.W.ownOf
 rw[hd,if_pos rfl]
 dsimp only
 rw[hu,Option.bind_some]
theorem rd_attrX {K:Frag}{o:Expr}{attr:Str}{pos:Pos}{a C:Addr}{ox:Obj}{es:List DictEntry}{n:Nat}{u:Value}(X:K.In s.heap)(ho:Rd prog w A s (eval o env) (λv=>v=.ref a))(I:InstAt s.heap a ox C (some (dictOf es n)))
  (hu:lookIn attr (dictOf es n)=some (some u)) (hp:plainAttrX K C attr=true) (hh:handedIn u=true)
  (he:eval (.Attribute o attr pos) env=(do
   let o'<-eval o env
   standAt pos.atName
   let r<-holding [o'] (getAttr o' attr true)
   letTemporaryGo o o' r
   pure r)):Rd prog w A s (eval (.Attribute o attr pos) env) (λv=>v=u):=λk Q E h=>by
 unfold plainAttrX at hp
 simp only[Bool.and_eq_true,beq_iff_eq]at hp
 obtain⟨⟨⟨⟨p1,p2⟩,p3⟩,p4⟩,p5⟩:=hp
 obtain⟨cd,hc,hd⟩:=any_some p1
 refine Attribute_any_ (ho k _ _ λv k' e=>?_) he
 subst e
 refine get_valueX X I p3 p4 p5 (v:=u) ?_ hh (h u _ rfl)
 unfold findObj
 rw[hc,Option.bind_some,p2,Option.bind_some]
 dsimp only
 rw[Option.bind_some,Option.bind_some]
 dsimp only
 unfold PySem.W.ownOf
 rw[hd,if_pos rfl]
 dsimp only
 rw[hu,Option.bind_some]
theorem rd_gt {l r:Expr}{pos:Pos}{a b:Int}(hl:Rd prog w A s (eval l env) (λv=>∃t,v=.int a t))(hr:Rd prog w A s (eval r env) (λv=>∃t,v=.int b t))(h:b<a)(hm:behindInMarks .Gt r=false):Rd prog w A s (eval (.Compare l [.Gt] [r] pos) env) (λv=>v=.bool true):=λk Q E q=>
 wpAny_Compare1 (hl k _ _ λv k₁ ⟨t,e⟩=>hr k₁ _ _ λu k₂ ⟨t',e'⟩=>by
  subst e;subst e'
  refine P.gt_int ?_
  rw[decide_eq_true h]
  exact q _ k₂ rfl) hm
theorem rd_isnot {l r:Expr}{pos:Pos}{a:Value}(hl:Rd prog w A s (eval l env) (λv=>v=a))(hr:Rd prog w A s (eval r env) (λv=>v=.none))(h:a≠ .none)(hm:behindInMarks .IsNot r=false):Rd prog w A s (eval (.Compare l [.IsNot] [r] pos) env) (λv=>v=.bool true):=λk Q E q=>
 wpAny_Compare1 (hl k _ _ λv k₁ e=>hr k₁ _ _ λu k₂ e'=>by
  subst e;subst e'
  exact isnot_none_ne h (q _ k₂ rfl)) hm
theorem rd_chain {l x y:Expr}{pos:Pos}{a b d:Int}(hl:Rd prog w A s (eval l env) (λv=>∃t,v=.int a t))(hx:Rd prog w A s (eval x env) (λv=>∃t,v=.int b t))(hy:Rd prog w A s (eval y env) (λv=>∃t,v=.int d t))(h1:a<b)(h2:b<d)
  (hm:lastMarks [.Lt,.Lt] [x,y]=false):Rd prog w A s (eval (.Compare l [.Lt,.Lt] [x,y] pos) env) (λv=>v=.bool true):=λk Q E q=>by
 refine Compare_chain (hl k _ _ λv k₁ ⟨t,e⟩=>?_) hm
 subst e
 show wpAny _ _ (compareChain pos _ [.Lt,.Lt] [eval x env,eval y env]) _ _ _
 rw[chain2]
 refine wpAny_bind (wpAny_holding (hx k₁ _ _ λu k₂ ⟨t',e'⟩=>?_))
 subst e'
 refine wpAny_bind (wpAny_standAt (wpAny_bind (wpAny_holding (P.lt_int ?_))))
 rw[decide_eq_true h1]
 refine wpAny_bind (wpAny_release' (wpAny_bind (wpAny_holding (wpAny_truthy_bool ?_))))
 refine wpAny_bind (wpAny_holding (hy k₂ _ _ λz k₃ ⟨t₃,e₃⟩=>?_))
 subst e₃
 refine wpAny_bind (wpAny_standAt (wpAny_operate' (P.lt_int ?_)))
 rw[decide_eq_true h2]
 exact q _ k₃ rfl
theorem rd_and3 {x y z:Expr}{pos:Pos}(hx:Rd prog w A s (eval x env) (λv=>v=.bool true))(hy:Rd prog w A s (eval y env) (λv=>v=.bool true))(hz:Rd prog w A s (eval z env) (λv=>v=.bool true)):
  Rd prog w A s (eval (.BoolOp .And [x,y,z] pos) env) (λv=>v=.bool true):=λk Q E q=>by
 show wpAny _ _ (boolOp pos .And (evalEach [x,y,z] env)) _ _ _
 rw[boolOp_two]
 refine wpAny_bind (hx k _ _ λv k₁ e=>?_)
 subst e
 refine wpAny_bind (wpAny_standAt (wpAny_bind (wpAny_holding (wpAny_truthy_bool ?_))))
 show wpAny _ _ (boolOp pos .And (evalEach [y,z] env)) _ _ _
 rw[boolOp_two]
 refine wpAny_bind (hy k₁ _ _ λv k₂ e=>?_)
 subst e
 refine wpAny_bind (wpAny_standAt (wpAny_bind (wpAny_holding (wpAny_truthy_bool ?_))))
 exact hz k₂ _ _ q
theorem rd_len {X:Cx}(O:Ok X){e:Expr}{x:Str}{np pos:Pos}{G:Gh}(hg:isGlobal X.f "len" =true)(hl:lk X.T.glob "len" =some (.blt "len"))(hb:∀b o,X.B.get? b=some o->G b=some o)(hf:∀b o,G b=some o->s.heap.get? b=some o)(hs:notStar e=true)
  (he:Rd X.prog X.w A s (eval e X.f.env) (λv=>∃t,v=.str x t)) (hx:x.length<1000000):Rd X.prog X.w A s (eval (.Call (.Name "len" np) [e] [] pos) X.f.env) (λv=>∃t,v=.int x.length t):=λk Q E q=>by
 refine Call_name1 (star_cons hs) (wp_global O hg hl hb hf λv rv=>?_)
 obtain rfl:=rv
 refine callWith_builtin1 (he k _ _ λu k₁ ⟨t,e⟩=>?_)
 subst e
 exact P.len_str (by lia) (q _ _ ⟨_,rfl⟩)
end
section
variable {B:Heap}{f:Fm}{e:En}{c:St}{ρ:List Addr}{G:Gh}{s s':Shared}
theorem In.storeX (x:In B f e c ρ G s){m m':Str->Option Value}{nm:Str}(k:∀b o,b≠f.L->s.heap.get? b=some o->s'.heap.get? b=some o)
  (hm:s.heap.Ns f.L m) (hm':s'.heap.Ns f.L m') (hmm:∀y,y≠nm->m' y=m y) (hl:lk c.loc nm=none) (hg:s'.gens=s.gens) (hos:s'.os=s.os):In B f e c ρ G s':=by
 obtain⟨H,R,F⟩:=x
 have nL:∀ {i:Nat} {a:Addr},ρ[i]? =some a->a≠f.L:=λq z=>F.own (z▸List.mem_of_getElem? q)
 refine⟨⟨H.base,λb o q=>k _ _ (λz=>by rw[z,F.gown]at q;cases q) (H.frz b o q),H.len,H.nd,λa ha=>let⟨o,q⟩:=H.there a ha;⟨o,k _ _ (λz=>F.own (z▸ha)) q⟩,λi ao q nd=>?_,hg.trans H.gens⟩,⟨λb o q n=>?_,R.pre,R.newA,R.newG,hos.trans R.os,R.gsub⟩,⟨⟨m',hm',λy av q hc=>?_⟩,F.own,F.gown,F.fresh,λx c q=>let⟨o,u,i⟩:=F.cells x c q;⟨o,u,i.kd,i.nρ,i.nG,i.nH,i.nL,k _ _ i.nL i.here,i.dat,i.val,i.apart⟩⟩⟩
 ·obtain⟨a,o,h1,h2,h3,h4⟩:=H.live i ao q nd
  exact⟨a,o,h1,k _ _ (nL h1) h2,h3,h4⟩
 ·have nb:b≠f.L:=λz=>by rw[z,F.fresh]at q;cases q
  obtain⟨a1,a2⟩:=R.keep b o q n
  exact⟨λz=>k _ _ nb (a1 z),λz=>let⟨sl,w⟩:=a2 z;⟨sl,k _ _ nb w⟩⟩
 ·obtain⟨m₀,n1,n2⟩:=F.ns
  have em:m₀=m:=by
   obtain⟨o,es,ep,e1,e2,_,e3⟩:=n1
   obtain⟨o',es',ep',f1,f2,_,f3⟩:=hm
   rw[e1]at f1;cases f1
   rw[e2]at f2;cases f2
   funext y;rw[<-e3,<-f3]
  subst em
  have hy:y≠nm:=λz=>by rw[z,hl]at q;cases q
  rw[hmm y hy]
  exact n2 y av q hc
end
abbrev plainE (o:Expr)(attr:Str)(pos:Pos)(env:Env):Prop:=eval (.Attribute o attr pos) env=(do
   let o'<-eval o env
   standAt pos.atName
   let r<-holding [o'] (getAttr o' attr true)
   letTemporaryGo o o' r
   pure r)
section
variable {X:Cx}
inductive FaultI (X:Cx)(dd:Int)(pg:Str)(o:Nat)(h:Heap)(a:Addr):Prop
 |mk (mm:Str->Option Value) (d:Addr) (fs:Array Value) (es:List DictEntry) (n:Nat) (y:Addr) (oy:Obj) (ey:List DictEntry) (ny:Nat) (tz td tp:Tok) (Ia:InstAt h a (excObj 95 d fs) 95 (some (dictOf es n))) (u1:lookIn "at" (dictOf es n)=some (some (.ref y)))
  (Iy:InstAt h y oy 46 (some (dictOf ey ny))) (z1:lookIn "offset" (dictOf ey ny)=some (some (.int o tz))) (ns:h.Ns X.f.L mm) (vf:mm "fault" =some (.ref a)) (vd:mm "depth" =some (.int dd td)) (vp:mm "page" =some (.str pg tp)) (pre:∀b ob,X.B.get? b=some ob->h.get? b=some ob)
theorem flt_in (O:Ok X){c:St}{m pg:Str}{o:Nat}{dd:Int}{A:Around}{ρ₂:List Addr}{G₂:Gh}{s₂ s₄:Shared}{x:Value}{Q:Unit->Shared->Prop}{E:Value->Shared->Prop}(fo:FrOK X.e.H X.e.ρ X.e.G X.e.outer)
  (lf:isLocal X.f "fault" =true) (ld:isLocal X.f "depth" =true) (lp:isLocal X.f "page" =true) (vf:lk c.loc "fault" =none) (vd:lk c.loc "depth" =some (.int dd)) (vp:lk c.loc "page" =some (.str pg)) (i₂:In X.B X.f X.e c ρ₂ G₂ s₂)
  (hcls:(X.f.env.scope.kind==.class|| (X.f.env.scope.kind==.module&&X.f.env.locals !=X.f.env.globals))=false)
  (F₄:Fly X.B none ⟨s₂.heap,[],G₂,X.f.env::X.e.outer,s₂.os⟩ 95 ["what","at"] [.str m,posD o] G₂ x s₄)
  (k:∀a s' mm G',x=.ref a->FaultI X dd pg o s'.heap a->s'.heap.Ns X.f.L mm->Sub G₂ G'->In X.B X.f X.e c ρ₂ G' s'->Q () s'):wpAny (model X.prog X.w) A (storeName X.f.env "fault" x) Q E s₄:=by
 obtain⟨G₄,a,d₄,fs₄,es₄,n₄,vs₄,I₄,i₄⟩:=i₂.after fo (Sub.refl _) F₄
 obtain⟨mm,n1,n2⟩:=i₄.f.ns
 obtain⟨vd1,vd2,td,rfl⟩:=n2 _ _ vd (by rw[isLocal_eq ld];decide)
 obtain⟨vp1,vp2,tp,rfl⟩:=n2 _ _ vp (by rw[isLocal_eq lp];decide)
 refine wpAny_storeName_local (isLocal_eq lf) n1 (λh' hn' hs'=>?_) hcls
 have kp:∀b ob,b≠X.f.L->s₄.heap.get? b=some ob->h'.get? b=some ob:=λb ob hb q=>(hs'.2 b hb).trans q
 have i₅:=i₄.storeX (s':= {s₄ with heap:=h',toks:=s₄.toks+1}) kp n1 hn' (λy hy=>if_neg hy) vf rfl rfl
 refine k a _ _ G₄ I₄.isRef ?_ hn' I₄.sub i₅
 obtain⟨u,u1,u2⟩:=lookIn_some (n:=n₄) (x:= "at") (ρ:=[]) I₄.keys (parts_rep I₄.rep) rfl
 obtain⟨y,dy,ny,ey,vy,rfl,g1,g2,gk,gr⟩:=RepD.inv u2
 ·obtain⟨z,z1,tz,rfl⟩:=lookIn_some (n:=ny) (x:= "offset") (ρ:=[]) gk (parts_rep gr) rfl
  exact⟨_,d₄,fs₄,es₄,n₄,y,_,ey,ny,tz,td,tp,⟨kp _ _ (λz=>by
    obtain⟨oL,w1,w2⟩:=i₄.own
    rw[<-z,I₄.here]at w1;cases w1;exact w2 _ rfl) I₄.here,rfl,rfl,i₅.h.frz _ _ I₄.dict⟩,u1,⟨i₅.h.frz _ _ g1,rfl,rfl,i₅.h.frz _ _ g2⟩,z1,hn',(if_pos rfl).trans (congrArg some I₄.isRef),(if_neg (by decide+kernel)).trans vd2,(if_neg (by decide+kernel)).trans vp2,i₅.h.pre⟩
theorem wp_flt (O:Ok X){c:St}{body:List Stmt}{m pg:Str}{o:Nat}{dd:Int}{p1 p2 p3 p4:Pos}{ex:Expr}{A:Around}{ρ:List Addr}{G:Gh}{s:Shared}{Q:Flow->Shared->Prop}{E:Value->Shared->Prop}(rm:Rm A X.n (X.f.env::X.e.outer))(fo:FrOK X.e.H X.e.ρ X.e.G X.e.outer)(i:In X.B X.f X.e c ρ G s)
  (hb:TX X (execs body X.f.env) c c 95 ["what","at"] [.str m,posD o]) (hm:exmOne X.K (.ref 95) (.ref 95)=some true) (hg:isGlobal X.f "ActionError" =true) (hl:lk X.T.glob "ActionError" =some (.cls 95))
  (lf:isLocal X.f "fault" =true) (ld:isLocal X.f "depth" =true) (lp:isLocal X.f "page" =true) (vf:lk c.loc "fault" =none) (vd:lk c.loc "depth" =some (.int dd)) (vp:lk c.loc "page" =some (.str pg))
  (hE:∀ {A:Around} {s:Shared} {a:Addr},FaultI X dd pg o s.heap a->Rd X.prog X.w A s (eval ex X.f.env) (λv=>v=.bool true))
  (hQ:∀s' ρ' G',PreA ρ ρ'->Sub G G'->In X.B X.f X.e c ρ' G' s'->Q (.ret (.bool true)) s'):
  wpAny (model X.prog X.w) A (exec (.Try body [.ExceptHandler (some (.Name "ActionError" p1)) (some "fault") [.Return (some ex) p2] p3] [] [] p4) X.f.env) Q E s:=by
 have hcls:(X.f.env.scope.kind==.class|| (X.f.env.scope.kind==.module&&X.f.env.locals !=X.f.env.globals))=false:=by
  rw[show X.f.env.scope.kind=.function from isFun_eq O.2];rfl
 refine wp_try O.2 rm fo i hb λx s₁ T=>?_
 obtain⟨G₂,s₂,k₂,⟨ρ₂,q₂,i₂⟩,F⟩:=T
 obtain⟨G₃,a,d,fs,es,n,vs,I,i₃⟩:=i₂.after fo (Sub.refl _) F
 obtain rfl:=I.isRef
 refine wp_hit O I.here hg hl hm I.base I.frz (codeAny_handlers_suite_as (set_in F λs₄ F₄=>flt_in O fo lf ld lp vf vd vp i₂ hcls F₄ λ_ s₅ mm G' _ FI hn' kG i₅=>?_))
 refine wpAny_execs_cons (wpAny_Return_some (hE FI s₅.toks _ _ λv k' e=>?_))
 refine wpAny_nameGoes_keeps (isLocal_eq lf) hn' hcls λh'' v' hn'' hs''=>?_
 exact e▸hQ _ ρ₂ G' q₂ (k₂.trans kG) (i₅.storeX (s':= {s₅ with heap:=h'',toks:=k'+1}) (λb ob hb q=>(hs''.2 b hb).trans q) hn' hn'' (λy hy=>if_neg hy) vf rfl rfl)
theorem tf_try_flt (O:Ok X){c:St}{body:List Stmt}{m pg:Str}{o:Nat}{dd:Int}{p1 p2 p3 p4:Pos}{ex:Expr}
  (hb:TX X (execs body X.f.env) c c 95 ["what","at"] [.str m,posD o]) (hm:exmOne X.K (.ref 95) (.ref 95)=some true) (hg:isGlobal X.f "ActionError" =true) (hl:lk X.T.glob "ActionError" =some (.cls 95))
  (lf:isLocal X.f "fault" =true) (ld:isLocal X.f "depth" =true) (lp:isLocal X.f "page" =true) (vf:lk c.loc "fault" =none) (vd:lk c.loc "depth" =some (.int dd)) (vp:lk c.loc "page" =some (.str pg))
  (hE:∀ {A:Around} {s:Shared} {a:Addr},FaultI X dd pg o s.heap a->Rd X.prog X.w A s (eval ex X.f.env) (λv=>v=.bool true)):
  TF X (exec (.Try body [.ExceptHandler (some (.Name "ActionError" p1)) (some "fault") [.Return (some ex) p2] p3] [] [] p4) X.f.env) c (.ret (.bool true)) c:=λA ρ G s rm fo i=>
 wp_flt O rm fo i hb hm hg hl lf ld lp vf vd vp hE λ_ ρ' G' p q i=>⟨ρ',G',p,q,i,rfl⟩
noncomputable abbrev faultE (p2 p3 p4 p5 p6 p7 p8 p9 p10 p11 p12 p13 p14 p15 p16 p17:Pos)(k1 k2 k3:Nat):Expr:=.BoolOp .And [.Compare (.Name "depth" p2) [.Gt] [.Constant (.int 100) k1 p3] p4,.Compare (.Attribute (.Name "fault" p5) "at" p6) [.IsNot] [.Constant .none k2 p7] p8,
   .Compare (.Constant (.int 0) k3 p9) [.Lt,.Lt] [.Attribute (.Attribute (.Name "fault" p10) "at" p11) "offset" p12,.Call (.Name "len" p13) [.Name "page" p14] [] p15] p16] p17
theorem rd_fault (O:Ok X){pg:Str}{o:Nat}{dd:Int}{p2 p3 p4 p5 p6 p7 p8 p9 p10 p11 p12 p13 p14 p15 p16 p17:Pos}{k1 k2 k3:Nat}(lf:isLocal X.f "fault" =true)(ld:isLocal X.f "depth" =true)(lp:isLocal X.f "page" =true)(hd:100<dd)(h0:0<o)(h1:o<pg.length)(hp:pg.length<1000000)
  (a1:plainAttrX X.K 95 "at" =true) (a2:plainAttr X.K 46 "offset" =true) (gl:isGlobal X.f "len" =true) (ll:lk X.T.glob "len" =some (.blt "len"))
  (e1:plainE (.Name "fault" p5) "at" p6 X.f.env) (e2:plainE (.Name "fault" p10) "at" p11 X.f.env) (e3:plainE (.Attribute (.Name "fault" p10) "at" p11) "offset" p12 X.f.env)
  (hmk:lastMarks [.Lt,.Lt] [.Attribute (.Attribute (.Name "fault" p10) "at" p11) "offset" p12,.Call (.Name "len" p13) [.Name "page" p14] [] p15]=false) {A:Around} {s:Shared} {a:Addr} (F:FaultI X dd pg o s.heap a):
  Rd X.prog X.w A s (eval (faultE p2 p3 p4 p5 p6 p7 p8 p9 p10 p11 p12 p13 p14 p15 p16 p17 k1 k2 k3) X.f.env) (λv=>v=.bool true):=by
 obtain⟨mm,d,fs,es,n,y,oy,ey,ny,tz,td,tp,Ia,u1,Iy,z1,ns,vf,vd,vp,pre⟩:=F
 have hk:=isFun_eq O.2
 have K₅:X.K.In s.heap:=O.1.k.keeps pre
 have rf:∀p,Rd X.prog X.w A s (eval (.Name "fault" p) X.f.env) (λv=>v=.ref a):=λp=>rd_local hk (isLocal_eq lf) (by decide+kernel) ns vf
 exact rd_and3 (rd_gt (λk Q E q=>rd_local hk (isLocal_eq ld) (by decide+kernel) ns vd k Q E λv k' e=>q v k' ⟨td,e⟩) rd_int hd rfl) (rd_isnot (rd_attrX K₅ (rf p5) Ia u1 a1 rfl e1) rd_none (λz=>by cases z) rfl)
   (rd_chain rd_int (λk Q E q=>rd_attr K₅ (rd_attrX K₅ (rf p10) Ia u1 a1 rfl e2) Iy z1 a2 rfl e3 k Q E λv k' e=>q v k' ⟨tz,e⟩) (rd_len O gl ll (G:=λb=>X.B.get? b) (λ_ _ q=>q) pre rfl (λk Q E q=>rd_local hk (isLocal_eq lp) (by decide+kernel) ns vp k Q E λv k' e=>q v k' ⟨tp,e⟩) hp) (by lia) (by lia) hmk)
end
section
variable {X:Cx}{c c₁ c₂:St}
theorem tv_slice_toG {env:Env}{value hi:Expr}{p pos:Pos}{a:AV}{i:Int}{l:List D}(hv:TV X (eval value env) c (.ok a) c₁)(hhi:TV X (eval hi env) c₁ (.ok (.int i)) c₂)(hl:dlistAt c₂ a=some l)(h0:0<=i)(hz:l.length<=sizeLine):
  TV X (eval (.Subscript value (.Slice none (some hi) none p) pos) env) c (.ok (.dat (.lst (l.take i.toNat)))) c₂:=λA ρ G s rm fo I=>by
 refine sub_list_slice (wp_then hv rm fo I λv s₁ ρ₁ G₁ p₁ q₁ i₁ r₁=>evalPart_none_step (evalPart_some_step (wp_then hhi rm fo i₁ λu s₂ ρ₂ G₂ p₂ q₂ i₂ r₂=>?_)))
 obtain⟨t,vs,rfl,hL,rs⟩:=dlist_at hl i₂ (r₁.mono p₂ q₂)
 obtain⟨tk,rfl⟩:=r₂
 refine⟨t,vs.toArray,none,some i,rfl,hL,by rw[List.size_toArray,rs.len];exact hz,.none,.int _ _,?_⟩
 have e:slicePick vs.toArray none (some i) none=(vs.take i.toNat).toArray:=by
  have:i=(i.toNat:Int):=by lia
  rw[this,pick_to vs i.toNat,<-this]
 rw[e]
 have i₃:=i₂.ext (s':= {s₂ with heap:=s₂.heap.push {cls:=.type "slice",data:=.fields #[.none,.int i tk,.none]}}) (λb o q=>Heap.get?_push_of_some _ q) rfl rfl
 obtain⟨q₃,i₄⟩:=i₃.allocG (o:=lstObj (vs.take i.toNat) 0) (s':= {s₂ with heap:=(s₂.heap.push {cls:=.type "slice",data:=.fields #[.none,.int i tk,.none]}).push {cls:=.type "list",data:=.seq (vs.take i.toNat).toArray}})
  (λb o q=>Heap.get?_push_of_some _ q) (Heap.get?_none_of_le (Nat.le_refl _)) (Heap.get?_push_size _ rfl) rfl rfl
 rw[Heap.size_push]at q₃ i₄
 exact⟨ρ₂,_,p₁.trans p₂,(q₁.trans q₂).trans q₃,i₄,.lst (n:=0) (vs:=vs.take i.toNat) (addG_at ..) ((rs.take i.toNat).mono q₃)⟩
theorem els_map {elt:Expr}{scope:Scope}{cl:List (Str×Addr)}{x:Str}{g:Int->Int}{r:Rk}(h:∀acc z,ElOK X elt scope cl x (.int z) ⟨c.loc,c.obj++[.dlist acc]⟩ (.ok (.int (g z))) ⟨c.loc,c.obj++[.dlist acc]⟩)(l:List Int):
  ∀ (acc:List D),acc.length+l.length<=sizeLine->r=.ok (acc++l.map λz=>D.int (g z))->Els X elt scope cl x r c (partsOfD (l.map D.int)) acc c:=by
 induction l with
 |nil=>exact λacc _ hr=>.nil (by rw[hr,List.map_nil,List.append_nil]) rfl
 |cons z l ih=>exact λacc hz hr=>.cons (h acc z) rfl rfl (Nat.le_trans (Nat.le_add_right _ _) hz) (ih _ (by rw[List.length_append,Nat.add_assoc,Nat.add_comm [_].length];exact hz) (by rw[hr,List.append_assoc];rfl))
theorem ints_are {G:Gh}{l:List Int}:∀ {vs:List Value},RepDs G vs (l.map D.int)->IntsAre vs l:=by
 induction l with
 |nil=>exact λr=>r.inv0▸ .nil
 |cons z l ih=>
  intro vs r
  obtain⟨v,_,rfl,r1,r2⟩:=RepDs.inv r
  obtain⟨t,rfl⟩:=r1.inv
  exact .cons _ _ (ih r2)
theorem callw_sum {a:AV}{l:List Int}(h:dlistAt c a=some (l.map D.int)):CallW X (.blt "sum") [a] c (.int l.sum):=λA ρ G s fv vs rm fo i rf rs=>by
 obtain rfl:=rf
 refine rv1 rs λv r=>?_
 ·obtain⟨t,ws,rfl,hL,rs⟩:=dlist_at h i r
  have hi:=ints_are rs
  obtain⟨xs,hx⟩:=hi.allInts.items
  have hl':s.heap.IsList t (intItems xs):=hx▸hL
  refine sum_intListG rm.handled hl' λh' tk t' hk=>?_
  have e1:l=xs.toList.map (·.1):=by
   rw[<-nums_intItems,<-hx]
   exact(show numsOf ws.toArray.toList=l from hi.numsOf).symm
  have e2:preSum (numAt xs) xs.size=l.sum:=by
   rw[preSum_eq,List.take_of_length_le (by simp),e1]
  rw[e2]
  exact⟨ρ,G,PreA.refl _,Sub.refl _,i.ext hk rfl rfl,_,rfl⟩
end
theorem tab_ok:∀ {vs:List Value} {l:List (Int×Int)},TabIs vs l->TriplesOk vs
 | [],[],_=>trivial
 | .int _ _:: .int _ _::_::r,(x,y)::l,h=>tab_ok (vs:=r) h.2.2
theorem tab_snoc {a b:Int}{v:Value}:∀ {vs:List Value} {l:List (Int×Int)},TabIs vs l->TabIs (vs++[rawInt a,rawInt b,v]) (l++[(a,b)])
 | [],[],_=>⟨rfl,rfl,trivial⟩
 | .int _ _:: .int _ _::_::r,(x,y)::l,h=>⟨h.1,h.2.1,tab_snoc (vs:=r) h.2.2⟩
theorem tab_none {pos:Pos}:∀ {vs:List Value} {l:List (Int×Int)},TabIs vs l->(l.all λp=> !(p.1==pos.line&&p.2==pos.col))=true->codeAmong pos vs=none
 | [],[],_,_=>rfl
 | .int _ _:: .int _ _::_::r,(x,y)::l,h,q=>by
  rw[List.all_cons,Bool.and_eq_true]at q
  unfold codeAmong
  rw[h.1,h.2.1,if_neg (by intro z;have:=q.1;rw[z]at this;cases this)]
  exact tab_none (vs:=r) h.2.2 q.2
section
variable {B:Heap}{f:Fm}{e:En}{c:St}{ρ:List Addr}{G:Gh}{s s':Shared}
theorem In.storeCell (x:In B f e c ρ G s){cc:Addr}{nm:Str}{av:AV}{v:Value}(hl:f.cl.lookup nm=some cc)(k:Heap.SameBut cc s.heap s'.heap)(hc:s'.heap.IsCell cc (some v))(hr:RepV ρ G av v)(hg:s'.gens=s.gens)(hos:s'.os=s.os):
  In B f e ⟨put c.loc nm av,c.obj⟩ ρ G s':=by
 obtain⟨H,R,F⟩:=x
 obtain⟨o,u,j⟩:=F.cells nm cc hl
 have kp:∀b ob,b≠cc->s.heap.get? b=some ob->s'.heap.get? b=some ob:=λb ob hb q=>(k.2 b hb).trans q
 have nL:∀ {i:Nat} {a:Addr},ρ[i]? =some a->a≠cc:=λq z=>j.nρ (z▸List.mem_of_getElem? q)
 obtain⟨oc,hoc,hdc⟩:=hc
 refine⟨⟨H.base,λb o q=>kp _ _ (λz=>by rw[z,j.nG]at q;cases q) (H.frz b o q),H.len,H.nd,λa ha=>let⟨o,q⟩:=H.there a ha;⟨o,kp _ _ (λz=>j.nρ (z▸ha)) q⟩,λi ao q nd=>?_,hg.trans H.gens⟩,⟨λb o q n=>?_,R.pre,R.newA,R.newG,hos.trans R.os,R.gsub⟩,⟨?_,F.own,F.gown,F.fresh,λx c' q=>?_⟩⟩
 ·obtain⟨a,o,h1,h2,h3,h4⟩:=H.live i ao q nd
  exact⟨a,o,h1,kp _ _ (nL h1) h2,h3,h4⟩
 ·have nb:b≠cc:=λz=>by rw[z,j.nH]at q;cases q
  obtain⟨a1,a2⟩:=R.keep b o q n
  exact⟨λz=>kp _ _ nb (a1 z),λz=>let⟨sl,w⟩:=a2 z;⟨sl,kp _ _ nb w⟩⟩
 ·obtain⟨m,n1,n2⟩:=F.ns
  refine⟨m,n1.sameBut k j.nL.symm,λx av q hx=>n2 x av ?_ hx⟩
  dsimp only at q
  rw[lk_put]at q
  by_cases h:nm=x
  ·subst h;exact absurd j.kd hx
  ·rw[if_neg h]at q;exact q
 ·by_cases h:c'=cc
  ·subst h
   obtain rfl:=j.apart x q
   refine⟨oc,some v,j.kd,j.nρ,j.nG,j.nH,j.nL,hoc,hdc,λav' w=>?_,j.apart⟩
   dsimp only at w
   rw[lk_put,if_pos rfl]at w
   cases w
   exact⟨v,rfl,hr⟩
  ·obtain⟨o',u',i⟩:=F.cells x c' q
   refine⟨o',u',i.kd,i.nρ,i.nG,i.nH,i.nL,kp _ _ h i.here,i.dat,λav' w=>?_,i.apart⟩
   dsimp only at w
   rw[lk_put]at w
   by_cases hx:nm=x
   ·subst hx;rw[hl]at q;cases q;exact absurd rfl h
   ·rw[if_neg hx]at w;exact i.val av' w
end
section
variable {X:Cx}{c c₁:St}
theorem tf_assign_cell {x:Str}{pos' pos:Pos}{value:Expr}{a:AV}{cc:Addr}(hk:isFun X.f=true)(hl:isCell X.f x=true)(hc:X.f.cl.lookup x=some cc)(hn:X.f.fr.isNone=true)(hs:saysNo (swapsWith value (some (.Name x pos')) pos.line X.f.env)=true)(h:TV X (eval value X.f.env) c (.ok a) c₁):
  TF X (exec (.Assign [.Name x pos'] value pos) X.f.env) c .next ⟨put c₁.loc x a,c₁.obj⟩:=λA ρ G s rm fo i=>by
 have hc':(X.f.fr.getD X.f.cl).lookup x=some cc:=by
  cases q:X.f.fr with
  |none=>exact hc
  |some _=>rw[q]at hn;cases hn
 refine wpAny_Assign_Name (wp_then h rm fo i λv s₁ ρ₁ G₁ p₁ q₁ i₁ r₁=>?_) (saysNo_eq hs)
 obtain⟨o,u,j⟩:=i₁.f.cells x cc hc
 exact wpAny_storeName_cell (isFun_eq hk) (isCell_eq hl) hc' ⟨o,j.here,j.dat⟩ λh' hc' hs'=>⟨ρ₁,G₁,p₁,q₁,i₁.storeCell (s':= {s₁ with heap:=h'}) hc hs' hc' r₁ rfl rfl⟩
theorem wp_lambda (O:Ok X){A:Around}{ρ:List Addr}{G:Gh}{s:Shared}{E:Value->Shared->Prop}{Q:Value->Shared->Prop}{params:Arguments}{body:Expr}{scope:Scope}{pos:Pos}{clos:List (Str×Addr)}{l:List (Int×Int)}{P cc:Addr}
  (hdef:defaultsOf params X.f.env=([],[])) (hcl:closureFor scope X.f.env=pure clos) (i:In X.B X.f X.e c ρ G s) (h0:c.obj[0]? =some (.tab l)) (hP:ρ[0]? =some P) (hcd:X.f.cd=.ref cc) (C:CodeHd X.B cc P) (hgP:mainGlobals≠P)
  (hb:nsIn X.K mainGlobals "__builtins__" =some (some (.ref 4))) (h4:∃o,X.B.get? 4=some o/\o.cls=.type "module" /\o.dict=some builtinsNs/\o.data=.plain) (h4P:4≠P) (hl:(l.all λp=> !(p.1==pos.line&&p.2==pos.col))=true)
  (k:∀a c' ctv pm s',In X.B X.f X.e ⟨c.loc,c.obj.set 0 (.tab (l++[((pos.line:Int),(pos.col:Int))]))⟩ ρ G s'->s'.heap.get? a=some (kla_obj "<lambda>" (X.f.env.qual++ "<lambda>") params body scope clos pm c' ctv)->s.heap.get? a=none->s.heap.get? c'=none->a≠c'->
   s'.heap.CodeRec (.ref c') (X.f.env.qual++ "<lambda>")->Q (.ref a) s'):wpAny (model X.prog X.w) A (eval (.Lambda params body scope pos) X.f.env) Q E s:=by
 obtain⟨loose,mg,mb,T⟩:=O.1.top
 have pre:=i.h.pre
 obtain⟨P',o,g1,g2,⟨ps,rfl,g3⟩,g4⟩:=i.h.live 0 _ h0 (by intro z;cases z)
 rw[hP]at g1;cases g1
 obtain⟨ob,b1,b2,b3,b4⟩:=h4
 refine kla_eval hdef (kla_makeFunction (mg:=mg) hcl rfl (T.g.keeps pre) hcd (C.keeps pre) g2 (tab_ok g3) (tab_none g3 hl) hgP ⟨4,ob,mg_of O.1.k T.g hb,by decide,by decide,h4P,pre _ _ b1,b2,b3,b4⟩ λc' ctv h' tk hx hge hlt hrec htb=>?_)
 have kp:∀b ob,b≠P->s.heap.get? b=some ob->(h'.push (kla_obj "<lambda>" (X.f.env.qual++ "<lambda>") params body scope clos ((mg "__name__").getD .none) c' ctv)).get? b=some ob:=λb ob hb q=>Heap.get?_push_of_some _ (hx b ob hb q)
 have i':=i.upd (s':= {s with heap:=h'.push (kla_obj "<lambda>" (X.f.env.qual++ "<lambda>") params body scope clos ((mg "__name__").getD .none) c' ctv),toks:=tk}) (ao':=.tab (l++[((pos.line:Int),(pos.col:Int))])) h0 (by intro z;cases z) hP kp
  (Heap.get?_push_of_some _ htb) ⟨_,rfl,by rw[Array.toList_append];exact tab_snoc g3⟩ rfl rfl
 have hP':P≠h'.objs.size:=Nat.ne_of_lt (Heap.lt_size htb)
 refine k _ c' ctv _ _ i' (Heap.get?_push_size _ rfl) ?_ (Heap.get?_none_of_le hge) (Nat.ne_of_gt hlt) ?_
 ·exact Heap.get?_none_of_le (Nat.le_of_lt (Nat.lt_of_le_of_lt hge hlt))
 ·obtain⟨c₂,oc,vs,t,e2,hoc,hd,hv⟩:=hrec
  exact⟨c₂,oc,vs,t,e2,Heap.get?_push_of_some _ hoc,hd,hv⟩
end
noncomputable def onlyH (h:Heap)(G:Gh):Heap:=hid h ((List.range h.objs.size).filter λb=>(G b).isNone)
theorem only_get {h:Heap}{G:Gh}(k:∀b o,G b=some o->h.get? b=some o)(b:Addr):(onlyH h G).get? b=G b:=by
 unfold onlyH
 cases q:G b with
 |some o=>exact(hid_out (λz=>by have:=(List.mem_filter.mp z).2;rw[q]at this;cases this)).trans (k b o q)
 |none=>
  by_cases hb:b<h.objs.size
  ·exact hid_in (List.mem_filter.mpr ⟨List.mem_range.mpr hb,by rw[q];rfl⟩)
  ·rw[hid_out λz=>hb (List.mem_range.mp (List.mem_filter.mp z).1)]
   exact Heap.get?_none_of_le (Nat.le_of_not_lt hb)
theorem Know.up {prog:Program}{w:World}{B B':Heap}{K:Frag}{T:Tab}(h:Know prog w B K T)(k:∀b o,B.get? b=some o->B'.get? b=some o):Know prog w B' K T:=
 ⟨h.k.keeps k,let⟨o,q⟩:=h.sys;⟨o,k _ _ q⟩,let⟨a,b,c,t⟩:=h.top;⟨a,b,c,t.keeps k⟩,h.dict,h.glob,h.keep,h.meth,h.flds⟩
theorem Wd.up {w:World}{B B':Heap}(h:Wd w B)(k:∀b o,B.get? b=some o->B'.get? b=some o):Wd w B':=⟨h.know.up k,h.lim.keeps k⟩
noncomputable def Rv.out:Rv->Out
 | .ok a=>.ret a
 | .ex C ks l=>.ex C ks l
theorem call_lam {prog:Program}{w:World}{B:Heap}{K:Frag}{T:Tab}{n:Nat}{a c':Addr}{qual:Str}{params:Arguments}{body:Expr}{scope:Scope}{clos:List (Str×Addr)}{pm ctv:Value}{obj obj':List AO}{r:Rv}
  (hlim:B.NoLimit) (ho:B.get? a=some (kla_obj "<lambda>" qual params body scope clos pm c' ctv)) (hcd:B.CodeRec (.ref c') qual)
  (hbind:bindArgs (kla_fn "<lambda>" qual params body scope clos pm (.ref c') ctv) ⟨[],[]⟩=pure []) (hcell:∀x∈scope.names,x.2≠ .cell)
  (h:∀e L,e.ρ.length=obj.length->∃loc',TV ⟨prog,w,B,K,T,⟨qual,scope,L,a,.ref c',[],some clos⟩,e,n⟩ (eval body (Fm.env ⟨qual,scope,L,a,.ref c',[],some clos⟩)) ⟨[],obj⟩ r ⟨loc',obj'⟩)
  (hco:scope.isCoroutine=false:=by rfl) (hgen:scope.isGenerator=false:=by rfl) (hkd:scope.kind=.function:=by rfl):
  CallOK prog w B (n+1) (.ref a) [] obj r.out obj':=by
 intro A ρ G s vs fr rm fo H rv
 have pre:=H.pre (c:=⟨[],obj⟩)
 have hL:s.heap.get? s.heap.objs.size=none:=Heap.get?_none_of_le (Nat.le_refl _)
 obtain rfl:=RepVs.inv0 rv
 refine kla_callFunE (by have:=rm.depth;lia) (pre _ _ ho) rfl hco hgen rfl (hcd.keeps pre) ?_
 rw[hbind]
 refine wpAny_pure (wpAny_newFunctionEnv hcell (by intro y hy;simp at hy) (λh₁ hns hsb=>⟨(hlim.keeps pre).fresh _ hsb,kla_codeExpr ?_⟩) hkd)
 show wpAny _ (A.deeper (Fm.env ⟨qual,scope,s.heap.objs.size,a,.ref c',[],some clos⟩)) (eval body (Fm.env ⟨qual,scope,s.heap.objs.size,a,.ref c',[],some clos⟩)) _ _ _
 have hkeep:∀b o,s.heap.get? b=some o->h₁.get? b=some o:=λb o e=>hsb.extBut b o (Nat.ne_of_lt (Heap.lt_size e)) (Heap.get?_push_of_some _ e)
 obtain⟨loc',hT⟩:=h ⟨s.heap,ρ,G,fr,s.os⟩ s.heap.objs.size H.len
 have hLρ:s.heap.objs.size∉ρ:=λz=>by obtain⟨o,q⟩:=H.there _ z;rw[hL]at q;cases q
 have hLG:G s.heap.objs.size=none:=by
  cases q:G s.heap.objs.size with
  |none=>rfl
  |some o=>rw[H.frz _ o q]at hL;cases hL
 have I:In B ⟨qual,scope,s.heap.objs.size,a,.ref c',[],some clos⟩ ⟨s.heap,ρ,G,fr,s.os⟩ ⟨[],obj⟩ ρ G {s with heap:=h₁,toks:=s.toks+([]:List (Str×Value)).length}:=by
  refine⟨⟨H.base,λb o q=>hkeep _ _ (H.frz b o q),H.len,H.nd,λa ha=>let⟨o,q⟩:=H.there a ha;⟨o,hkeep _ _ q⟩,λi ao q nd=>?_,H.gens⟩,⟨λb o q nr=>⟨λ_=>hkeep _ _ q,λ_=>⟨o.slots,hkeep _ _ q⟩⟩,PreA.refl _,λa ha=>.inl ha,λa o ha=>.inl ⟨o,ha⟩,rfl,Sub.refl _⟩,⟨⟨_,hns,λx av q _=>by cases q⟩,hLρ,hLG,hL,λx c q=>by cases q⟩⟩
  obtain⟨a,o,h1,h2,h3,h4⟩:=H.live i ao q nd
  exact⟨a,o,h1,hkeep _ _ h2,h3,h4⟩
 have rm':Rm (A.deeper (Fm.env ⟨qual,scope,s.heap.objs.size,a,.ref c',[],some clos⟩)) n (Fm.env ⟨qual,scope,s.heap.objs.size,a,.ref c',[],some clos⟩::fr):=
  ⟨by have:=rm.depth;show A.depth+1+n<_;lia,by have:=rm.units;show A.units+3+_+_<_;lia,rm.handled,rm.guards,Around.frames_deeper rm.frames⟩
 refine wpAny_mono (hT _ ρ G _ rm' fo I) (λv s' z=>?_) λx s' z=>?_
 ·cases r with
  |ok a=>
   obtain⟨ρ',G',p,q,i,r⟩:=z
   exact⟨ρ',G',i.r.pre,q,i.h,i.r,r⟩
  |ex=>exact z.elim
 ·cases r with
  |ex C ks l=>
   refine leave_fly (e:=⟨s.heap,ρ,G,fr,s.os⟩) rfl ?_ (Around.frames_deeper rm.frames) fo z λs'' z'=>z'
   show scope.kind≠ .module
   rw[hkd];decide
  |ok=>exact z.elim
theorem tv_free {X:Cx}{c:St}{x:Str}{pos:Pos}{cc:Addr}{d:D}(hk:isFun X.f=true)(hf:X.f.env.kindOf x=some .free)(hc:X.f.env.cells.lookup x=some cc)(hv:∃o v,X.B.get? cc=some o/\o.data=.cell (some v)/\RepD (λb=>X.B.get? b) v d)
  (hd:(x==("__debug__" :Str))=false) (hn:(x==("__classdict__" :Str))=false):TV X (eval (.Name x pos) X.f.env) c (.ok (.dat d)) c:=λA ρ G s rm fo i=>by
 obtain⟨o,v,h1,h2,h3⟩:=hv
 exact wpAny_Name (wpAny_loadName_free (isFun_eq hk) hf hc ⟨o,i.h.pre _ _ h1,h2⟩ ⟨ρ,G,PreA.refl _,Sub.refl _,i,RepD.mono i.h.base h3⟩ hn) hd
section
variable {X:Cx}
theorem tv_ran (O:Ok X){c:St}{func:Expr}{ran:Addr}{params:Arguments}{body:Expr}{scope:Scope}{lpos pos:Pos}{clos:List (Str×Addr)}{l:List (Int×Int)}{P cc cell:Addr}{nm t:Str}{d:D}{k:Nat}
  (hf:TV X (eval func X.f.env) c (.ok (.fn ran)) c) (hkeep:keepIn X.K (.ref ran)=true)
  (he:eval (.Call func [.Lambda params body scope lpos] [] pos) X.f.env=(do callWith pos (<-eval func X.f.env) [] (backTo pos (starEach [.Lambda params body scope lpos] X.f.env)) (backToKw pos (keywordEach [] X.f.env))))
  (hdef:defaultsOf params X.f.env=([],[])) (hcl:closureFor scope X.f.env=pure clos) (h0:c.obj[0]? =some (.tab l)) (hP:X.e.ρ[0]? =some P) (hcd:X.f.cd=.ref cc) (C:CodeHd X.B cc P) (hgP:mainGlobals≠P)
  (hb:nsIn X.K mainGlobals "__builtins__" =some (some (.ref 4))) (h4:∃o,X.B.get? 4=some o/\o.cls=.type "module" /\o.dict=some builtinsNs/\o.data=.plain) (h4P:4≠P) (hl:(l.all λp=> !(p.1==lpos.line&&p.2==lpos.col))=true)
  (hcell:X.f.cl.lookup nm=some cell) (hloc:lk c.loc nm=some (.dat d)) (hn:k<=X.n)
  (hc:∀ (B':Heap) (a c':Addr) (ctv pm:Value),(∀b o,X.B.get? b=some o->B'.get? b=some o)->B'.get? a=some (kla_obj "<lambda>" (X.f.env.qual++ "<lambda>") params body scope clos pm c' ctv)->B'.CodeRec (.ref c') (X.f.env.qual++ "<lambda>")->
   (∃o v,B'.get? cell=some o/\o.data=.cell (some v)/\RepD (λb=>B'.get? b) v d)->CallOK X.prog X.w B' k (.ref ran) [.fn a] [] (.ret (.str t)) []):
  TV X (eval (.Call func [.Lambda params body scope lpos] [] pos) X.f.env) c (.ok (.str t)) ⟨c.loc,c.obj.set 0 (.tab (l++[((lpos.line:Int),(lpos.col:Int))]))⟩:=λA ρ G s rm fo i=>by
 refine Call_ (wp_then hf rm fo i λv s₁ ρ₁ G₁ p₁ q₁ i₁ r₁=>?_) he
 obtain rfl:=r₁
 refine wp_callWith hkeep rfl (wpAny_items_cons ?_ (star_cons rfl))
 refine wp_lambda O hdef hcl i₁ h0 (i₁.r.pre 0 P hP) hcd C hgP hb h4 h4P hl λa c' ctv pm s₂ i₂ ha na nc hac hrec=>?_
 refine wpAny_items_nil ⟨O.1.k.keeps i₂.h.pre,?_⟩
 obtain⟨oc,u,j⟩:=i₂.f.cells nm cell hcell
 obtain⟨cv,rfl,rcv⟩:=j.val _ hloc
 obtain⟨c₂,ocd,cvs,ct,e2,hocd,hcdd,hcdv⟩:=hrec
 cases e2
 have ga:G₁ a=none:=(i₁.new na).2.1
 have gc:G₁ c'=none:=(i₁.new nc).2.1
 have gcell:=j.nG
 have hca:cell≠a:=λz=>by have:=j.here;rw[z,ha]at this;cases this;cases j.dat
 have hcc:cell≠c':=λz=>by have h1:=j.here;rw[z,hocd]at h1;cases h1;have h2:=j.dat;rw[hcdd]at h2;cases h2
 let G₂:Gh:=addG (addG (addG G₁ a (kla_obj "<lambda>" (X.f.env.qual++ "<lambda>") params body scope clos pm c' ctv)) c' ocd) cell oc
 have sub:Sub G₁ G₂:=(addG_sub ga).trans ((addG_sub (by rw[addG_ne (Ne.symm hac)];exact gc)).trans (addG_sub (by rw[addG_ne hcc,addG_ne hca];exact gcell)))
 have gA:G₂ a=some _:=(addG_ne (Ne.symm hca)).trans ((addG_ne hac).trans (addG_at ..))
 have gC:G₂ c'=some ocd:=(addG_ne (Ne.symm hcc)).trans (addG_at ..)
 have gL:G₂ cell=some oc:=addG_at ..
 have only:∀b o,G₂ b=some o->b=a\/b=c'\/b=cell\/G₁ b=some o:=λb o q=>by
  by_cases h1:b=cell
  ·exact .inr (.inr (.inl h1))
  ·by_cases h2:b=c'
   ·exact .inr (.inl h2)
   ·by_cases h3:b=a
    ·exact .inl h3
    ·have q:addG (addG (addG G₁ a _) c' ocd) cell oc b=some o:=q
     rw[addG_ne h1,addG_ne h2,addG_ne h3]at q
     exact .inr (.inr (.inr q))
 have frz:∀b o,G₂ b=some o->s₂.heap.get? b=some o:=λb o q=>by
  rcases only b o q with rfl|rfl|rfl|h
  ·rw[gA]at q;cases q;exact ha
  ·rw[gC]at q;cases q;exact hocd
  ·rw[gL]at q;cases q;exact j.here
  ·exact i₂.h.frz b o h
 have oget:=only_get frz
 have up:∀b o,X.B.get? b=some o->(onlyH s₂.heap G₂).get? b=some o:=λb o q=>by rw[oget];exact sub _ _ (i₂.h.base b o q)
 have rm':Rm A k (X.f.env::X.e.outer):=⟨Nat.lt_of_le_of_lt (Nat.add_le_add_left hn _) rm.depth,Nat.lt_of_le_of_lt (by have:=Nat.mul_le_mul_left 10 hn;lia) rm.units,rm.handled,rm.guards,rm.frames⟩
 have fo':FrOK s₂.heap [] G₂ (X.f.env::X.e.outer):=λenv hen=>by
  obtain⟨k1,L,o,f1,f2,f3,f4,f5⟩:=i₂.frames O.2 fo (ρc:=[]) (λa h=>by cases h) env hen
  refine⟨k1,L,o,f1,f2,f3,f4,?_⟩
  cases q:G₂ L with
  |none=>rfl
  |some o'=>
   exfalso
   have old:∀z,s₁.heap.get? z=none->L≠z:=λz hz e=>by
    obtain⟨_,L',o₁,w1,w2,_⟩:=i₁.frames O.2 fo (ρc:=[]) (λa h=>by cases h) env hen
    rw[f1]at w1;cases w1
    rw[e,hz]at w2;cases w2
   rcases only L o' q with h|h|h|h
   ·exact old a na h
   ·exact old c' nc h
   ·rcases List.mem_cons.mp hen with rfl|hen
    ·cases f1;exact j.nL h.symm
    ·obtain⟨_,L',o₁,w1,w2,_⟩:=fo env hen
     rw[f1]at w1;cases w1
     rw[h,j.nH]at w2;cases w2
   ·rw[f5]at h;cases h
 have z:=hc (onlyH s₂.heap G₂) a c' ctv pm up ((oget a).trans gA) ⟨c',ocd,cvs,ct,rfl,(oget c').trans gC,hcdd,hcdv⟩
  ⟨oc,cv,(oget cell).trans gL,j.dat,RepD.mono (λb o q=>by rw[oget];exact sub _ _ q) rcv⟩ A [] G₂ s₂ [.ref a] (X.f.env::X.e.outer) rm' fo'
  ⟨λb o q=>by rw[oget]at q;exact q,frz,rfl,List.nodup_nil,(λa h=>by cases h),(λi ao q=>by cases q),i₂.h.gens⟩ ⟨rfl,trivial⟩
 refine wpAny_call (codeAny_mono z λres s' q=>?_)
 rcases res with x| (v|_|_|_)<;>first|exact q.elim|skip
 obtain⟨ρ',G',p,g,H',R',rv⟩:=q
 obtain rfl:ρ'=[]:=List.length_eq_zero_iff.mp H'.len
 let G₃:Gh:=λb=>if b=a\/b=c'\/b=cell then none else G' b
 have g3:∀b o,G₃ b=some o->G' b=some o/\b≠a/\b≠c'/\b≠cell:=λb o q=>by
  have q:(if b=a\/b=c'\/b=cell then none else G' b)=some o:=q
  split at q
  ·cases q
  ·rename_i h;exact⟨q,λz=>h (.inl z),λz=>h (.inr (.inl z)),λz=>h (.inr (.inr z))⟩
 have sub3:Sub G₁ G₃:=λb o q=>by
  show(if b=a\/b=c'\/b=cell then none else G' b)=some o
  rw[if_neg]
  ·exact g _ _ (sub _ _ q)
  ·rintro(h|h|h)
   ·rw[h,ga]at q;cases q
   ·rw[h,gc]at q;cases q
   ·rw[h,gcell]at q;cases q
 have H3:HOk X.B [] G₃ [] s':=⟨λb o q=>sub3 _ _ (i₂.h.base b o q),λb o q=>H'.frz b o (g3 b o q).1,rfl,List.nodup_nil,(λa h=>by cases h),(λi ao q=>by cases q),H'.gens⟩
 have R3:Rel ⟨s₂.heap,selA ρ₁ [],G₁,X.f.env::X.e.outer,s₂.os⟩ [] G₃ s':=⟨R'.keep,PreA.refl _,(λa h=>by cases h),λb o q=>by
  obtain⟨q1,n1,n2,n3⟩:=g3 b o q
  rcases R'.newG b o q1 with⟨o',h⟩|h|h
  ·rcases only b o' h with y|y|y|y
   ·exact absurd y n1
   ·exact absurd y n2
   ·exact absurd y n3
   ·exact .inl ⟨o',y⟩
  ·cases h
  ·exact .inr (.inr h),R'.os,sub3⟩
 obtain⟨δ,e1,i'⟩:=i₂.back fo (sel:=[]) (view:=[]) rfl rfl (PreA.refl _) sub3 H3 R3
 have:δ=[]:=by simpa [selA]using e1.symm
 subst this
 rw[List.append_nil]at i'
 obtain⟨tk,rfl⟩:=rv
 refine⟨ρ₁,G₃,p₁,q₁.trans sub3,?_,tk,rfl⟩
 have e3:putBack [] ρ₁.length [] [] (c.obj.set 0 (.tab (l++[((lpos.line:Int),(lpos.col:Int))])))=c.obj.set 0 (.tab (l++[((lpos.line:Int),(lpos.col:Int))])):=by show _++[]=_;exact List.append_nil _
 have i':In X.B X.f X.e ⟨c.loc,putBack [] ρ₁.length [] [] (c.obj.set 0 (.tab (l++[((lpos.line:Int),(lpos.col:Int))])))⟩ ρ₁ G₃ s':=i'
 rw[e3]at i'
 exact i'
end
noncomputable def tryB:Stmt->List Stmt
 | .Try b _ _ _ _=>b
 |_=>[]
noncomputable def tryP:Stmt->Pos
 | .Try _ _ _ _ p=>p
 |_=>default
noncomputable def hnT:Stmt->Expr
 | .Try _ (.ExceptHandler (some t) _ _ _::_) _ _ _=>t
 |_=>default
noncomputable def hnS:Stmt->List Stmt
 | .Try _ (.ExceptHandler _ _ b _::_) _ _ _=>b
 |_=>[]
noncomputable def hnQ:Stmt->Pos
 | .Try _ (.ExceptHandler _ _ _ p::_) _ _ _=>p
 |_=>default
noncomputable def retQ:Stmt->Pos
 | .Return _ p=>p
 |_=>default
noncomputable def cstK:Expr->Nat
 | .Constant _ k _=>k
 |_=>0
noncomputable def cstP:Expr->Pos
 | .Constant _ _ p=>p
 |_=>default
section
variable {w:World}{B:Heap}
noncomputable abbrev lrS:Stmt:=stm (df 86).body 0
noncomputable abbrev lrE:Expr:=retE (stm (tryB lrS) 0)
noncomputable abbrev lrW:Expr:=hdE (callA lrE)
noncomputable abbrev lrH:Stmt:=stm (hnS lrS) 0
noncomputable abbrev lrX (w:World)(B:Heap)(e:En)(L n:Nat):Cx:=cxt w B "_law_ran" (df 86) 963 (.ref 962) e L n
theorem ran_body:(df 86).body=[.Try [.Return (some (.Call (.Name "repr" (nmP (callF lrE))) [.Call (.Name "work" (nmP (callF lrW))) [] [] (callP lrW)] [] (callP lrE))) (retQ (stm (tryB lrS) 0))]
  [.ExceptHandler (some (.Name "MachineError" (nmP (hnT lrS)))) none [.Return (some (.Constant (.str "an error") (cstK (retE lrH)) (cstP (retE lrH)))) (retQ lrH)] (hnQ lrS)] [] [] (tryP lrS)]:=by kernel_rfl
theorem ran_ok (W:Wd w B){k:Nat}{a:Addr}{o:Obj}{own:AV}{t:Str}(ho:B.get? a=some o)(hkp:keepIn [(a,o)] (.ref a)=true)(hc:CallOK pw w B k (.ref a) [] [] (.ret own) [])(hcl:closedV 0 own=true)
  (hr:∀X:Cx,k<=X.n->X.prog=pw->∀c,CallW X (.blt "repr") [own] c (.str t)):CN w B (k+1) 963 [.fn a] [] (.ret (.str t)) []:=
 CN.of (F_law_ran1 W) rfl (fl:=.ret _) λn hn e L=>by
  have O:Ok (lrX w B e L n):=okX W
  refine⟨[("work",.fn a)],?_⟩
  rw[ran_body]
  have hK:Frag.In [(a,o)] B:=λb ob q=>by
   by_cases z:b=a
   ·subst z;simp at q;rw[ho,q]
   ·rw[List.lookup_cons,show(b==a)=false from by simpa using z]at q;cases q
  have call:TV (lrX w B e L n) (eval (.Call (.Name "work" (nmP (callF lrW))) [] [] (callP lrW)) (lrX w B e L n).f.env) ⟨[("work",.fn a)],[]⟩ (.ok own) ⟨[("work",.fn a)],[]⟩:=by
   have:=tv_call (X:=⟨pw,w,B,[(a,o)],TT,(lrX w B e L n).f,e,n⟩) (c:=⟨[("work",.fn a)],[]⟩) (c₁:=⟨[("work",.fn a)],[]⟩) (func:=.Name "work" (nmP (callF lrW))) (pos:=callP lrW) (fa:=.fn a) (fv:=.ref a) (args:=[]) (sel:=[]) hK O.2 (tv_local' O.2 (by kernel_rfl) (by kernel_rfl) rfl) (λ_ _ _ z=>z) hkp rfl tvs_nil hn rfl rfl rfl hc rfl
   have e1:rvOf [] 0 (.ret own)=.ok own:=by
    show Rv.ok (backV [] 0 own)=_
    cases own<;>first|rfl|cases hcl
   have this:TV (lrX w B e L n) (eval (.Call (.Name "work" (nmP (callF lrW))) [] [] (callP lrW)) (lrX w B e L n).f.env) ⟨[("work",.fn a)],[]⟩ (rvOf [] 0 (.ret own)) ⟨[("work",.fn a)],[]⟩:=this
   rw[e1]at this
   exact this
  exact tf_cons_ret (tf_try_ret (tf_cons_ret (tf_ret (tv_bltW (fa:=.blt "repr") rfl (tv_global O (by kernel_rfl) (by kernel_rfl)) rfl (tvs_cons rfl call tvs_nil) (hr _ hn rfl _) rfl))))
theorem ran_err (W:Wd w B){k:Nat}{a:Addr}{o:Obj}{m:Str}{obj':List AO}(ho:B.get? a=some o)(hkp:keepIn [(a,o)] (.ref a)=true)(hc:CallOK pw w B k (.ref a) [] [] (merr m) obj'):CN w B (k+1) 963 [.fn a] [] (.ret (.str "an error")) []:=
 CN.of (F_law_ran1 W) rfl (fl:=.ret _) λn hn e L=>by
  have O:Ok (lrX w B e L n):=okX W
  refine⟨[("work",.fn a)],?_⟩
  rw[ran_body]
  have hK:Frag.In [(a,o)] B:=λb ob q=>by
   by_cases z:b=a
   ·subst z;simp at q;rw[ho,q]
   ·rw[List.lookup_cons,show(b==a)=false from by simpa using z]at q;cases q
  have call:TX (lrX w B e L n) (eval (.Call (.Name "work" (nmP (callF lrW))) [] [] (callP lrW)) (lrX w B e L n).f.env) ⟨[("work",.fn a)],[]⟩ ⟨[("work",.fn a)],[]⟩ 107 ["what","at"] [.str m,.none]:=
   tx_call (fa:=.fn a) hK O.2 (tv_local' O.2 (by kernel_rfl) (by kernel_rfl) rfl) (λ_ _ _ z=>z) hkp rfl tvs_nil hn rfl hc rfl
  exact tf_cons_ret (tf_try_says (Cc:=107) O (tx_first (tx_ret (tx_arg (fa:=.blt "repr") rfl (tv_global O (by kernel_rfl) (by kernel_rfl)) rfl call rfl))) (by kernel_rfl) (by kernel_rfl) (by kernel_rfl))
end
noncomputable def lamA:Expr->Arguments
 | .Lambda a _ _ _=>a
 |_=>default
noncomputable def lamB:Expr->Expr
 | .Lambda _ b _ _=>b
 |_=>default
noncomputable def lamS:Expr->Scope
 | .Lambda _ _ s _=>s
 |_=>default
noncomputable def stE (i:Nat)(l:List Expr):Expr:=(l[i]?).getD default
noncomputable def dicP:Expr->Pos
 | .Dict _ _ p=>p
 |_=>default
noncomputable def lamP:Expr->Pos
 | .Lambda _ _ _ p=>p
 |_=>default
noncomputable def cmpL:Expr->Expr
 | .Compare l _ _ _=>l
 |_=>default
noncomputable def cmpR:Expr->List Expr
 | .Compare _ _ r _=>r
 |_=>[]
noncomputable def cmpP:Expr->Pos
 | .Compare _ _ _ p=>p
 |_=>default
noncomputable abbrev la1:Expr:=hdE (callA (asgV (stm (df 87).body 7)))
noncomputable abbrev la2:Expr:=hdE (callA (cmpL (retE (stm (df 87).body 8))))
structure LamAt (B:Heap)(la:Expr)(a c':Addr)(ctv pm:Value)(q:Str)(cell:Addr)(d:D):Prop where
 here:B.get? a=some (kla_obj "<lambda>" q (lamA la) (lamB la) (lamS la) [("nodes",cell)] pm c' ctv)
 rec_:B.CodeRec (.ref c') q
 cell:∃o v,B.get? cell=some o/\o.data=.cell (some v)/\RepD (λb=>B.get? b) v d
noncomputable abbrev lmX (w:World)(B:Heap)(la:Expr)(a c':Addr)(q:Str)(cell:Addr)(e:En)(L n:Nat):Cx:=⟨pw,w,B,KK w.params,TT,⟨q,lamS la,L,a,.ref c',[],some [("nodes",cell)]⟩,e,n⟩
section
variable {w:World}{B:Heap}
theorem lam_keep {la:Expr}{a c':Addr}{ctv pm:Value}{q:Str}{cell:Addr}:keepIn [(a,kla_obj "<lambda>" q (lamA la) (lamB la) (lamS la) [("nodes",cell)] pm c' ctv)] (.ref a)=true:=by
 unfold keepIn
 simp
noncomputable abbrev ob2:List AO:=[.ns ["most"] [.int 2000],.inst 924 0]
noncomputable abbrev ob4:List AO:=ob2++[.list [],.ns [] []]
theorem tv_dict0 {X:Cx}{c:St}{pos:Pos}:TV X (eval (.Dict [] [] pos) X.f.env) c (.ok (.ref c.obj.length)) ⟨c.loc,c.obj++[.ns [] []]⟩:=λA ρ G s rm fo i=>by
 refine wpAny_Dict_empty ?_
 refine⟨ρ++[s.heap.objs.size],G,PreA.app _ _,Sub.refl _,i.alloc (ao:=.ns [] []) (push_keeps _ _) (fresh_size s) (Heap.get?_push_size _ rfl) ⟨[],0,[],rfl,trivial,trivial⟩ rfl rfl,s.heap.objs.size,?_,rfl⟩
 rw[<-i.h.len,List.getElem?_append_right (Nat.le_refl _),Nat.sub_self];rfl
theorem meth_hb {o:Expr}{name:Str}{env:Env}{apos pos:Pos}{args:List Expr}(h:attributeBase o name env (eval o env)=eval o env)(hline:(apos.endLine==pos.line)=true)(hp:plainArgs args=true)(hn:Nat.ble args.length 25=true):eval (.Call (.Attribute o name apos) args [] pos) env=(do
   let ov<-eval o env
   standAt apos.atName
   let(f,first) <-holding [ov] (getMethod ov name (do return(<-importBound o env).getD true))
   callWith pos f first (backTo pos (starEach args env)) []):=by
 rw[arm_eval_Call,h]
 have hpos:methodCallPos true o env apos pos=pure pos:=by unfold methodCallPos;simp[hline]
 unfold methodCall
 rw[meth_form hp hn,hpos]
 rfl
noncomputable def rvD (m:Str):Option D->Rv
 |some v=>.ok (.dat v)
 |none=>.ex 107 ["what","at"] [.str m,.none]
noncomputable abbrev Sx.rv (s:Sx):Rv:=rvD s.err (s.res (.int 5))
theorem Sx.rv_back (s:Sx)(sel:List Nat)(b:Nat):rvOf sel b s.rv.out=s.rv:=by
 show rvOf sel b (rvD s.err (s.res (.int 5))).out=rvD s.err (s.res (.int 5))
 cases s.res (.int 5)<;>rfl
theorem run_out {kk:Nat}{f:Addr}{a1:AV}{s:Sx}(h:RunOK w B kk f a1 s.err (s.res (.int 5))):CN w B kk f [.ref 0,a1,.ref 2,.ref 3,.none,.int 5] rz0 s.rv.out rz0:=by
 show CN w B kk f _ rz0 (rvD s.err (s.res (.int 5))).out rz0
 cases q:s.res (.int 5)with
 |none=>rw[q]at h;exact h
 |some v=>rw[q]at h;exact h
noncomputable abbrev lmO (la:Expr):Expr:=atO (callF (lamB la))
abbrev lmI (la:Expr)(m:Str):Prop:=lamB la=.Call (.Attribute (lmO la) m (atP (callF (lamB la)))) [hdE (callA (lamB la)),stE 1 (callA (lamB la)),.Dict [] [] (dicP (stE 2 (callA (lamB la)))),stE 3 (callA (lamB la)),stE 4 (callA (lamB la))] [] (callP (lamB la))
theorem lam_tv (W:Wd w B){la:Expr}{a c':Addr}{q:Str}{cell:Addr}{s:Sx}{e:En}{L n:Nat}{f:Addr}{a1:AV}{m:Str}(O:Ok (lmX w B la a c' q cell e L n))(hE:lmI la m)(hl:s.lin=true)(hz:s.clen<=1000)
  (hm:methOK (KK w.params) 924 m f=true) (hx:lkk ["most"] [AV.int 2000] m=none) (hv:viewO [1,0,2,3] ob4 [1,0,2,3]=some rz0) (ht:toVs [1,0,2,3] [.ref 1,a1,.ref 2,.ref 3,.none,.int 5]=some [.ref 0,a1,.ref 2,.ref 3,.none,.int 5])
  (hp:plainArgs [hdE (callA (lamB la)),stE 1 (callA (lamB la)),.Dict [] [] (dicP (stE 2 (callA (lamB la)))),stE 3 (callA (lamB la)),stE 4 (callA (lamB la))]=true) (s0:notStar (hdE (callA (lamB la)))=true) (s1:notStar (stE 1 (callA (lamB la)))=true) (s3:notStar (stE 3 (callA (lamB la)))=true) (s4:notStar (stE 4 (callA (lamB la)))=true)
  (h0:TV (lmX w B la a c' q cell e L n) (eval (lmO la) (lmX w B la a c' q cell e L n).f.env) ⟨[],[]⟩ (.ok (.ref 1)) ⟨[],ob2⟩)
  (h1:TV (lmX w B la a c' q cell e L n) (eval (hdE (callA (lamB la))) (lmX w B la a c' q cell e L n).f.env) ⟨[],ob2⟩ (.ok a1) ⟨[],ob2⟩)
  (h2:TV (lmX w B la a c' q cell e L n) (eval (stE 1 (callA (lamB la))) (lmX w B la a c' q cell e L n).f.env) ⟨[],ob2⟩ (.ok (.ref 2)) ⟨[],ob2++[.list []]⟩)
  (h4:TV (lmX w B la a c' q cell e L n) (eval (stE 3 (callA (lamB la))) (lmX w B la a c' q cell e L n).f.env) ⟨[],ob4⟩ (.ok .none) ⟨[],ob4⟩)
  (h5:TV (lmX w B la a c' q cell e L n) (eval (stE 4 (callA (lamB la))) (lmX w B la a c' q cell e L n).f.env) ⟨[],ob4⟩ (.ok (.int 5)) ⟨[],ob4⟩)
  (hr:CO w B n f [.ref 0,a1,.ref 2,.ref 3,.none,.int 5] rz0 s.rv.out rz0)
  (he:eval (.Call (.Attribute (lmO la) m (atP (callF (lamB la)))) [hdE (callA (lamB la)),stE 1 (callA (lamB la)),.Dict [] [] (dicP (stE 2 (callA (lamB la)))),stE 3 (callA (lamB la)),stE 4 (callA (lamB la))] [] (callP (lamB la))) (lmX w B la a c' q cell e L n).f.env=(do
   let ov<-eval (lmO la) (lmX w B la a c' q cell e L n).f.env
   standAt (atP (callF (lamB la))).atName
   let(f,first) <-holding [ov] (getMethod ov m (do return(<-importBound (lmO la) (lmX w B la a c' q cell e L n).f.env).getD true))
   callWith (callP (lamB la)) f first (backTo (callP (lamB la)) (starEach [hdE (callA (lamB la)),stE 1 (callA (lamB la)),.Dict [] [] (dicP (stE 2 (callA (lamB la)))),stE 3 (callA (lamB la)),stE 4 (callA (lamB la))] (lmX w B la a c' q cell e L n).f.env)) [])):
  TV (lmX w B la a c' q cell e L n) (eval (lamB la) (lmX w B la a c' q cell e L n).f.env) ⟨[],[]⟩ s.rv ⟨[],ob4⟩:=by
 rw[hE]
 have:=tv_method (X:=lmX w B la a c' q cell e L n) (sel:=[1,0,2,3]) (f:=f) (C:=924) (ks:=["most"]) (xs:=[.int 2000]) (a:=.ref 1) O.1.k O.2 h0 rfl hx hm hp
  (tvs_cons s0 h1 (tvs_cons s1 h2 (tvs_cons rfl tv_dict0 (tvs_cons s3 h4 (tvs_cons s4 h5 tvs_nil))))) (Nat.le_refl _) rfl hv ht hr he
 rw[s.rv_back]at this
 exact this
theorem lam1_tv (W:Wd w B){a c':Addr}{ctv pm:Value}{q:Str}{cell:Addr}{s:Sx}(h:LamAt B la1 a c' ctv pm q cell (.lst [.tup s.nodeL]))(hl:s.lin=true)(hz:s.clen<=1000){e:En}{L n:Nat}(hn:s.kE+3<=n):
  TV (lmX w B la1 a c' q cell e L n) (eval (lamB la1) (lmX w B la1 a c' q cell e L n).f.env) ⟨[],[]⟩ s.rv ⟨[],ob4⟩:=by
 have O:Ok (lmX w B la1 a c' q cell e L n):=⟨W.know,by kernel_rfl⟩
 have hv:TV (lmX w B la1 a c' q cell e L n) (eval (hdE (callA (lamB la1))) (lmX w B la1 a c' q cell e L n).f.env) ⟨[],ob2⟩ (.ok (.dat (.lst [.tup s.nodeL]))) ⟨[],ob2⟩:=by
  rw[show hdE (callA (lamB la1))=.Name "nodes" (nmP (hdE (callA (lamB la1)))) from by kernel_rfl]
  exact tv_free O.2 (by kernel_rfl) (by kernel_rfl) h.cell (by kernel_rfl) (by kernel_rfl)
 exact lam_tv (m:= "evaluate") (f:=902) W O (by kernel_rfl) hl hz (by kernel_rfl) (by kernel_rfl) (by kernel_rfl) (by kernel_rfl) (by kernel_rfl) (by kernel_rfl) (by kernel_rfl) (by kernel_rfl) (by kernel_rfl)
  (xpr O (or:=[.call [] (.ret (.ref 1)) ob2]) (aI (c_machine W n (by lia)) trivial)) hv (xpr O (or:=[]) trivial) (xpr O (or:=[]) trivial) (xpr O (or:=[]) trivial)
  (run_out (c_eval W s hl (by lia)) n hn) (meth_hb (by kernel_rfl) (by kernel_rfl) (by kernel_rfl) rfl)
theorem lam2_tv (W:Wd w B){a c':Addr}{ctv pm:Value}{q:Str}{cell:Addr}{s:Sx}(h:LamAt B la2 a c' ctv pm q cell (.lst [.tup s.nodeL]))(hl:s.lin=true)(hz:s.clen<=1000){e:En}{L n:Nat}(hn:s.kC+12<=n):
  TV (lmX w B la2 a c' q cell e L n) (eval (lamB la2) (lmX w B la2 a c' q cell e L n).f.env) ⟨[],[]⟩ s.rv ⟨[],ob4⟩:=by
 have O:Ok (lmX w B la2 a c' q cell e L n):=⟨W.know,by kernel_rfl⟩
 have hv:TV (lmX w B la2 a c' q cell e L n) (eval (.Name "nodes" (nmP (hdE (callA (hdE (callA (lamB la2))))))) (lmX w B la2 a c' q cell e L n).f.env) ⟨[],ob2⟩ (.ok (.dat (.lst [.tup s.nodeL]))) ⟨[],ob2⟩:=
  tv_free O.2 (by kernel_rfl) (by kernel_rfl) h.cell (by kernel_rfl) (by kernel_rfl)
 have hcm:TV (lmX w B la2 a c' q cell e L n) (eval (hdE (callA (lamB la2))) (lmX w B la2 a c' q cell e L n).f.env) ⟨[],ob2⟩ (.ok (.dat (.lst (s.code 0)))) ⟨[],ob2⟩:=by
  rw[show hdE (callA (lamB la2))=.Call (.Name "compile_action" (nmP (callF (hdE (callA (lamB la2)))))) [.Name "nodes" (nmP (hdE (callA (hdE (callA (lamB la2))))))] [] (callP (hdE (callA (lamB la2)))) from by kernel_rfl]
  exact tv_call (fa:=.fn 691) (fv:=.ref 691) (sel:=[]) (k:=n) O.1.k O.2 (tv_global O (by kernel_rfl) (by kernel_rfl)) (λ_ _ _ z=>z) (by kernel_rfl) rfl (tvs_cons rfl hv tvs_nil) (Nat.le_refl _) rfl rfl rfl (c_compile W s (by lia) n (by lia)) rfl
 exact lam_tv (m:= "run") (f:=874) W O (by kernel_rfl) hl hz (by kernel_rfl) (by kernel_rfl) (by kernel_rfl) (by kernel_rfl) (by kernel_rfl) (by kernel_rfl) (by kernel_rfl) (by kernel_rfl) (by kernel_rfl)
  (xpr O (or:=[.call [] (.ret (.ref 1)) ob2]) (aI (c_machine W n (by lia)) trivial)) hcm (xpr O (or:=[]) trivial) (xpr O (or:=[]) trivial) (xpr O (or:=[]) trivial)
  (run_out (c_run W s hl (by lia)) n (by lia)) (meth_hb (by kernel_rfl) (by kernel_rfl) (by kernel_rfl) rfl)
end
theorem CallOK.anyX {prog:Program}{w:World}{B:Heap}{n:Nat}{fv:Value}{args:List AV}{obj obj' obj'':List AO}{C:Addr}{ks:List Str}{l:List D}(h:CallOK prog w B n fv args obj (.ex C ks l) obj'):CallOK prog w B n fv args obj (.ex C ks l) obj'':=λA ρ G s vs fr rm fo H r=>
 codeAny_mono (h A ρ G s vs fr rm fo H r) λres s' z=>by rcases res with x| (v|_|_|_)<;>first|exact z.elim|exact z
noncomputable def txtD:Option D->Str
 |some v=>v.py.shown
 |none=> "an error"
noncomputable abbrev Sx.txt (s:Sx):Str:=txtD (s.res (.int 5))
section
variable {w:World}{B:Heap}
theorem c_lam (W:Wd w B){la:Expr}{a c':Addr}{ctv pm:Value}{q:Str}{cell:Addr}{d:D}{s:Sx}{k:Nat}(h:LamAt B la a c' ctv pm q cell d)(hl:s.lin=true)(hz:s.clen<=1000)
  (hb:∀pm cdv ct cl q,bindArgs (kla_fn "<lambda>" q (lamA la) (lamB la) (lamS la) cl pm cdv ct) ⟨[],[]⟩=pure []) (hc:(lamS la).names.all (λx=>x.2 !=.cell)=true) (hco:(lamS la).isCoroutine=false) (hgen:(lamS la).isGenerator=false) (hk:(lamS la).kind=.function)
  (ht:∀n,k<=n->∀e L,TV (lmX w B la a c' q cell e L n) (eval (lamB la) (lmX w B la a c' q cell e L n).f.env) ⟨[],[]⟩ s.rv ⟨[],ob4⟩):∀n,k<=n->CallOK pw w B (n+1) (.ref a) [] [] s.rv.out []:=λn hn=>by
 have hcell:∀x∈(lamS la).names,x.2≠ .cell:=λx hx z=>by
  have:=List.all_eq_true.mp hc x hx
  rw[z]at this;exact absurd this (by decide)
 have h1:=call_lam (T:=TT) (K:=KK w.params) (n:=n) (obj:=[]) (r:=s.rv) W.lim h.here h.rec_ (hb _ _ _ _ _) hcell (λe L _=>⟨[],ht n hn e L⟩) hco hgen hk
 have h1:CallOK pw w B (n+1) (.ref a) [] [] (rvD s.err (s.res (.int 5))).out ob4:=h1
 show CallOK pw w B (n+1) (.ref a) [] [] (rvD s.err (s.res (.int 5))).out []
 cases hr:s.res (.int 5)with
 |some v=>rw[hr]at h1;exact CallOK.trim (obj':=[]) (extra:=ob4) h1 rfl rfl rfl
 |none=>rw[hr]at h1;exact CallOK.anyX h1
theorem c_ran (W:Wd w B){la:Expr}{a c':Addr}{ctv pm:Value}{q:Str}{cell:Addr}{d:D}{s:Sx}{k:Nat}(h:LamAt B la a c' ctv pm q cell d)(hl:s.lin=true)(hz:s.clen<=1000)(hk:100<=k)(hc:CallOK pw w B k (.ref a) [] [] s.rv.out []):CN w B (k+1) 963 [.fn a] [] (.ret (.str s.txt)) []:=by
 have hc:CallOK pw w B k (.ref a) [] [] (rvD s.err (s.res (.int 5))).out []:=hc
 show CN w B (k+1) 963 [.fn a] [] (.ret (.str (txtD (s.res (.int 5))))) []
 cases hr:s.res (.int 5)with
 |none=>rw[hr]at hc;exact ran_err W h.here lam_keep hc
 |some v=>
  rw[hr]at hc
  obtain⟨u,rfl,h1,h2⟩:=s.res_of _ hl hz hr
  refine ran_ok W h.here lam_keep hc rfl λX hn hp c=>?_
  cases u with
  |num i=>exact λA ρ G s fv vs rm fo I rf rs=>callw_repr_int (RpOK.int h1) A ρ G s fv vs rm fo I rf (rv1 rs λv r=>⟨RepD.inv r,trivial⟩)
  |tup x=>exact callw_repr (d:=.tup [x.D]) (Vx.rp (.tup x) h1) (by lia) (by lia) λG v z=>by obtain⟨a,_,_,e,_,_⟩:=RepD.inv z;exact⟨a,e⟩
end
section
variable {X:Cx}
theorem tf_assign_comp (O:Ok X)(hd:(X.f.cl.map (·.1)).Nodup){elt iter:Expr}{scope:Scope}{cl:List (Str×Addr)}{x y:Str}{px py pos spos:Pos}{xs ys:List D}{c c₁ c':St}
  (hsw:swapsWith (.ListComp elt [⟨.Name x px,iter,[],0⟩] scope pos) (some (.Name y py)) spos.line X.f.env=pure true) (hy:isLocal X.f y=true)
  (hs:∀v,foldedSetIterable iter X.f.env v=pure v) (hclos:closureFor scope X.f.env=pure cl) (hsk:scope.kind=.function) (hnames:∀y∈scope.names,y.2=.local->scope.names.lookup y.1=some .local) (hx:scope.names.lookup x=some .local) (hcell:∀y∈scope.names,y.2≠ .cell)
  (hi:TV X (eval iter X.f.env) c (.ok (.dat (.lst xs))) c₁) (hels:Els X elt scope cl x (.ok ys) c' (partsOfD xs) [] c₁) (hlen:c'.obj.length=c₁.obj.length):
  TF X (exec (.Assign [.Name y py] (.ListComp elt [⟨.Name x px,iter,[],0⟩] scope pos) spos) X.f.env) c .next ⟨put c'.loc y (.ref c'.obj.length),c'.obj++[.dlist ys]⟩:=λA ρ G s rm fo i=>by
 have hcls:(X.f.env.scope.kind==.class|| (X.f.env.scope.kind==.module&&X.f.env.locals !=X.f.env.globals))=false:=by
  have:X.f.env.scope.kind=.function:=isFun_eq O.2
  rw[this];rfl
 rw[exec_Assign_Name_used _ _ _ _ hsw]
 refine wpAny_bind (wpAny_standAt (wpAny_bind ?_))
 show wpAny _ A (do let _<-comprehension (.ListComp elt [⟨.Name x px,iter,[],0⟩] scope pos) scope X.f.env _ (newList []) false (eval iter X.f.env) (some (assign (.Name y py) X.f.env))) _ _ s
 refine wpAny_bind (wpAny_mono (wpAny_comprehension_free (use:=some (assign (.Name y py) X.f.env)) (Q:=λ_ s'=>QF X.B X.f X.e ρ G .next ⟨put c'.loc y (.ref c'.obj.length),c'.obj++[.dlist ys]⟩ .next s') rfl hs hclos hsk hnames ?_) (λ_ s' hq=>wpAny_pure (wpAny_pure hq)) λ_ _ e=>e)
 refine lc_run (r:=.ok ys) O hd rm fo i hsk hx hcell hi hels (λC env ρ₁ G' Da l s' m h1 _ hr p q hl I' off' ns'=>?_) λC env acc Cx ks l x s' a T fs ts m _ _ hr=>nomatch hr
 rw[h1];cases hr
 obtain⟨mm,n1,n2⟩:=I'.f.ns
 show wpAny _ A (assign (.Name y py) X.f.env (.ref Da)) _ _ _
 refine wpAny_assign_Name (wpAny_storeName_local (isLocal_eq hy) n1 (λh₂ hn₂ hs₂=>?_) hcls)
 have i₅:=I'.store (s':= {s' with heap:=h₂,toks:=s'.toks+1}) (av:=.ref c'.obj.length) (v:=.ref Da) (λb o nb q=>(hs₂.2 b nb).trans q) n1 hn₂ ⟨Da,by rw[hlen,<-hl];exact List.getElem?_concat_length,rfl⟩ (isLocal_eq hy) rfl rfl
 exact⟨m,ns'.sameBut hs₂ off'.nL,λh' hb=>⟨ρ₁++[Da],G',p.trans (PreA.app _ _),q,off'.but i₅ (λb ob nb q=>(hb.2 b nb).trans q) rfl rfl⟩⟩
end
noncomputable def asgT:Stmt->Pos
 | .Assign [.Name _ p] _ _=>p
 |_=>default
noncomputable def asgQ:Stmt->Pos
 | .Assign _ _ q=>q
 |_=>default
noncomputable def bnL:Expr->Expr
 | .BinOp l _ _ _=>l
 |_=>default
noncomputable def bnR:Expr->Expr
 | .BinOp _ _ r _=>r
 |_=>default
noncomputable def bnP:Expr->Pos
 | .BinOp _ _ _ p=>p
 |_=>default
section
variable {w:World}{B:Heap}
noncomputable abbrev lwX (w:World)(B:Heap)(e:En)(L n:Nat):Cx:=cxC w B "law" (df 87) 968 (.ref 967) e L n
noncomputable abbrev lw0:Stmt:=stm (df 87).body 0
noncomputable abbrev lwC:Expr:=asgV lw0
noncomputable def lwCl (is:List Int):List Int:=(is.take 40).map λz=>z.fmod 1000003
noncomputable def lwK (is:List Int):Int:=(lwCl is).sum.fmod 997
noncomputable abbrev lwL0 (is:List Int):Loc:=[lv "script" (.dat (.lst (is.map D.int)))]
noncomputable abbrev lwL1 (is:List Int):Loc:=[lv "script" (.dat (.lst (is.map D.int))),lv "cells" (.ref 1)]
theorem lw_st0 (W:Wd w B){e:En}{L n:Nat}(is:List Int)(hz:is.length<=63):TF (lwX w B e L n) (exec lw0 (lwX w B e L n).f.env) ⟨lwL0 is,[.tab []]⟩ .next ⟨lwL1 is,[.tab [],.dlist ((lwCl is).map D.int)]⟩:=by
 have O:Ok (lwX w B e L n):=okC W (by kernel_rfl)
 rw[show lw0=.Assign [.Name "cells" (asgT lw0)] (.ListComp (.BinOp (.Call (.Name "int" (nmP (callF (bnL (lcE lwC))))) [.Name "cell" (nmP (hdE (callA (bnL (lcE lwC)))))] [] (callP (bnL (lcE lwC)))) .Mod (.Constant (.int 1000003) (cstK (bnR (lcE lwC))) (cstP (bnR (lcE lwC)))) (bnP (lcE lwC)))
  [⟨.Name "cell" (lcQ lwC),.Subscript (.Name "script" (nmP (sbV (lcI lwC)))) (.Slice none (some (.Constant (.int 40) (cstK (slHi (lcI lwC))) (cstP (slHi (lcI lwC))))) none (slP (lcI lwC))) (sbP (lcI lwC)),[],0⟩] (lcS lwC) (lcP lwC)) (asgQ lw0) from by kernel_rfl]
 obtain⟨h1,h2,h3,h4⟩:=lcChk_ok (s:=lcS lwC) (x:= "cell") (by kernel_rfl)
 have hi:TV (lwX w B e L n) (eval (.Subscript (.Name "script" (nmP (sbV (lcI lwC)))) (.Slice none (some (.Constant (.int 40) (cstK (slHi (lcI lwC))) (cstP (slHi (lcI lwC))))) none (slP (lcI lwC))) (sbP (lcI lwC))) (lwX w B e L n).f.env) ⟨lwL0 is,[.tab []]⟩ (.ok (.dat (.lst ((is.map D.int).take 40)))) ⟨lwL0 is,[.tab []]⟩:=
  tv_slice_toG (a:=.dat (.lst (is.map D.int))) (i:=40) (tv_local' O.2 (by kernel_rfl) (by kernel_rfl) (by kernel_rfl)) tv_int rfl (by decide) (by rw[List.length_map,sizeLine_eq];lia)
 have els:=els_map (X:=lwX w B e L n) (c:=⟨lwL0 is,[.tab []]⟩) (elt:=.BinOp (.Call (.Name "int" (nmP (callF (bnL (lcE lwC))))) [.Name "cell" (nmP (hdE (callA (bnL (lcE lwC)))))] [] (callP (bnL (lcE lwC)))) .Mod (.Constant (.int 1000003) (cstK (bnR (lcE lwC))) (cstP (bnR (lcE lwC)))) (bnP (lcE lwC))) (scope:=lcS lwC) (cl:=[]) (x:= "cell") (g:=λz=>z.fmod 1000003)
  (λacc z e' C m v hn hv hr q1 q2=>
   tv_binop (X:=(lwX w B e L n).at e') (c₁:=⟨lwL0 is,[.tab []]++[.dlist acc]⟩) (c₂:=⟨lwL0 is,[.tab []]++[.dlist acc]⟩) (a:=.int z) (b:=.int 1000003)
    (tv_bltW (fa:=.typ "int") rfl (tv_cn_glob (X:=lwX w B e L n) O h1 (by kernel_rfl) (by kernel_rfl)) rfl (tvs_cons rfl (tv_cn_item (X:=lwX w B e L n) h1 h3 (by kernel_rfl) hn hv hr q1 q2) tvs_nil)
     callw_int_int rfl)
    (λA ρ G s rm fo i=>wpAny_Constant_int ⟨ρ,G,PreA.refl _,Sub.refl _,i.toks,_,rfl⟩) (op2_mod rfl))
  (is.take 40) [] (by rw[List.length_take,sizeLine_eq,List.length_nil];lia) rfl
 rw[List.nil_append,show(is.take 40).map D.int=(is.map D.int).take 40 from List.map_take ..]at els
 have:=tf_assign_comp (py:=asgT lw0) (pos:=lcP lwC) (spos:=asgQ lw0) (px:=lcQ lwC) (y:= "cells") O (nodupB_ok (by kernel_rfl)) (by kernel_rfl) (by kernel_rfl) (λv=>rfl) (clos_of (by kernel_rfl)) h1 h2 h3 h4 hi els rfl
 have e1:(lwCl is).map D.int=(is.take 40).map λz=>D.int (z.fmod 1000003):=by unfold lwCl;rw[List.map_map];rfl
 rw[e1]
 exact this
end
noncomputable def booE (i:Nat):Expr->Expr
 | .BoolOp _ l _=>stE i l
 |_=>default
noncomputable def booP:Expr->Pos
 | .BoolOp _ _ p=>p
 |_=>default
section
variable {w:World}{B:Heap}
noncomputable abbrev lwO (is:List Int)(p:Nat):List AO:=[.tab [],.dlist ((lwCl is).map D.int),.list [.ref 1,.int (p:Int),.int (lwK is)]]
noncomputable abbrev lwL2 (is:List Int):Loc:=[lv "script" (.dat (.lst (is.map D.int))),lv "cells" (.ref 1),lv "pen" (.ref 2)]
noncomputable abbrev lwL3 (is:List Int)(s:Sx):Loc:=lwL2 is++[lv "page" (.str s.ptx),lv "depth" (.int s.dep)]
noncomputable abbrev lwL4 (is:List Int)(s:Sx):Loc:=lwL3 is s++[lv "nodes" (.dat (.lst [.tup s.nodeL]))]
noncomputable abbrev lwS (is:List Int):Sx:=(pageF (lwCl is) (lwK is)).2
noncomputable abbrev lwN (is:List Int):Nat:=(pageF (lwCl is) (lwK is)).1
theorem lwCl_len (is:List Int):(lwCl is).length<=40:=by unfold lwCl;rw[List.length_map,List.length_take];lia
theorem lw_st1 (W:Wd w B){e:En}{L n:Nat}(is:List Int):TF (lwX w B e L n) (exec (stm (df 87).body 1) (lwX w B e L n).f.env) ⟨lwL1 is,[.tab [],.dlist ((lwCl is).map D.int)]⟩ .next ⟨lwL2 is,lwO is 0⟩:=
 good (t:=.s (stm (df 87).body 1)) (v:=.f .next) (okC W (by kernel_rfl)) (or:=[.item (.int (lwCl is).sum)]) (aI (callw_sum (X:=lwX w B e L n) (a:=.ref 1) (c:=⟨lwL1 is,[.tab [],.dlist ((lwCl is).map D.int)]⟩) (l:=lwCl is) rfl) (aI (show((997:Int)==0)=false from rfl) trivial))
theorem lw_st2 (W:Wd w B){e:En}{L n:Nat}(is:List Int)(hn:4<=n):TF (lwX w B e L n) (exec (stm (df 87).body 2) (lwX w B e L n).f.env) ⟨lwL2 is,lwO is 0⟩ .next ⟨lwL3 is (lwS is),lwO is (lwN is)⟩:=
 good (t:=.s (stm (df 87).body 2)) (v:=.f .next) (okC W (by kernel_rfl)) (or:=[.call [1,2] (.ret (.dat (.tup [.str (lwS is).ptx,.int (lwS is).dep]))) (pn (lwCl is) (lwN is) (lwK is))])
  (aI (c_page W (lwCl is) (by have:=lwCl_len is;lia) (lwK is) n hn) trivial)
noncomputable abbrev lw3:Stmt:=stm (df 87).body 3
noncomputable abbrev lw3b:Stmt:=stm (tryB lw3) 0
noncomputable abbrev lw3c:Expr:=asgV lw3b
noncomputable abbrev lw3e:Expr:=retE (stm (hnS lw3) 0)
theorem lw3_eq:lw3=.Try [.Assign [.Name "nodes" (asgT lw3b)] (.Call (.Name "parse_action" (nmP (callF lw3c))) [.Name "page" (nmP (hdE (callA lw3c)))] [] (callP lw3c)) (asgQ lw3b)]
  [.ExceptHandler (some (.Name "ActionError" (nmP (hnT lw3)))) (some "fault") [.Return (some (.BoolOp .And [.Compare (.Name "depth" (nmP (cmpL (booE 0 lw3e)))) [.Gt] [.Constant (.int 100) (cstK (hdE (cmpR (booE 0 lw3e)))) (cstP (hdE (cmpR (booE 0 lw3e))))] (cmpP (booE 0 lw3e)),
   .Compare (.Attribute (.Name "fault" (nmP (atO (cmpL (booE 1 lw3e))))) "at" (atP (cmpL (booE 1 lw3e)))) [.IsNot] [.Constant .none (cstK (hdE (cmpR (booE 1 lw3e)))) (cstP (hdE (cmpR (booE 1 lw3e))))] (cmpP (booE 1 lw3e)),
   .Compare (.Constant (.int 0) (cstK (cmpL (booE 2 lw3e))) (cstP (cmpL (booE 2 lw3e)))) [.Lt,.Lt] [.Attribute (.Attribute (.Name "fault" (nmP (atO (atO (hdE (cmpR (booE 2 lw3e))))))) "at" (atP (atO (hdE (cmpR (booE 2 lw3e)))))) "offset" (atP (hdE (cmpR (booE 2 lw3e)))),
    .Call (.Name "len" (nmP (callF (stE 1 (cmpR (booE 2 lw3e)))))) [.Name "page" (nmP (hdE (callA (stE 1 (cmpR (booE 2 lw3e))))))] [] (callP (stE 1 (cmpR (booE 2 lw3e))))] (cmpP (booE 2 lw3e))] (booP lw3e))) (retQ (stm (hnS lw3) 0))] (hnQ lw3)] [] [] (tryP lw3):=by kernel_rfl
theorem lw_try_ok (W:Wd w B){e:En}{L n:Nat}(is:List Int){s:Sx}{p:Nat}{k:Nat}(hc:CN w B k 481 [.str s.ptx] [] (.ret (.dat (.lst [.tup s.nodeL]))) [])(hn:k<=n):
  TF (lwX w B e L n) (exec lw3 (lwX w B e L n).f.env) ⟨lwL3 is s,lwO is p⟩ .next ⟨lwL4 is s,lwO is p⟩:=by
 have O:Ok (lwX w B e L n):=okC W (by kernel_rfl)
 rw[lw3_eq]
 refine tf_try_next (tf_cons (c₁:=⟨lwL4 is s,lwO is p⟩) ?_ tf_nil)
 exact tf_assign_cell (cc:=L+1) (a:=.dat (.lst [.tup s.nodeL])) (c₁:=⟨lwL3 is s,lwO is p⟩) O.2 (by kernel_rfl) (by kernel_rfl) rfl (by kernel_rfl)
  (tv_call (fa:=.fn 481) (fv:=.ref 481) (sel:=[]) (k:=n) O.1.k O.2 (tv_global O (by kernel_rfl) (by kernel_rfl)) (λ_ _ _ z=>z) (by kernel_rfl) rfl (tvs_cons rfl (tv_local' O.2 (by kernel_rfl) (by kernel_rfl) rfl) tvs_nil) (Nat.le_refl _) rfl rfl rfl (hc n hn) rfl)
theorem lw_try_x (W:Wd w B){e:En}{L n:Nat}(is:List Int){s:Sx}{p:Nat}{k o:Nat}(hd:100<s.dep)(h0:0<o)(h1:o<s.ptx.length)(hp:s.ptx.length<1000000)(hc:CN w B k 481 [.str s.ptx] [] (deepX o) [])(hn:k<=n):
  TF (lwX w B e L n) (exec lw3 (lwX w B e L n).f.env) ⟨lwL3 is s,lwO is p⟩ (.ret (.bool true)) ⟨lwL3 is s,lwO is p⟩:=by
 have O:Ok (lwX w B e L n):=okC W (by kernel_rfl)
 rw[lw3_eq]
 exact tf_try_flt (pg:=s.ptx) (o:=o) (dd:=s.dep) O
  (tx_first (tx_assign (by kernel_rfl) (tx_call (fa:=.fn 481) (fv:=.ref 481) (k:=n) O.1.k O.2 (tv_global O (by kernel_rfl) (by kernel_rfl)) (λ_ _ _ z=>z) (by kernel_rfl) rfl (tvs_cons rfl (tv_local' O.2 (by kernel_rfl) (by kernel_rfl) rfl) tvs_nil) (Nat.le_refl _) rfl (hc n hn) rfl)))
  (by kernel_rfl) (by kernel_rfl) (by kernel_rfl) (by kernel_rfl) (by kernel_rfl) (by kernel_rfl) (by kernel_rfl) rfl rfl
  (rd_fault O (by kernel_rfl) (by kernel_rfl) (by kernel_rfl) hd h0 h1 hp (by kernel_rfl) (by kernel_rfl) (by kernel_rfl) (by kernel_rfl) (attr_he rfl) (attr_he rfl) (attr_he rfl) (by kernel_rfl))
end
section
variable {w:World}{B:Heap}
noncomputable abbrev lwT (s:Sx):Str:=(D.lst [.tup s.nodeL]).py.shown
theorem lw_st4 (W:Wd w B){e:En}{L n:Nat}(is:List Int){s:Sx}{p:Nat}(hd:s.dep<=100):TF (lwX w B e L n) (exec (stm (df 87).body 4) (lwX w B e L n).f.env) ⟨lwL4 is s,lwO is p⟩ .next ⟨lwL4 is s,lwO is p⟩:=
 good (t:=.s (stm (df 87).body 4)) (v:=.f .next) (okC W (by kernel_rfl)) (or:=[.br false]) (aI (show decide (s.dep>100)=false from decide_eq_false (by lia)) trivial)
theorem lw_st5 (W:Wd w B){e:En}{L n:Nat}(is:List Int){s:Sx}{p:Nat}(hn:s.kA<=n):TF (lwX w B e L n) (exec (stm (df 87).body 5) (lwX w B e L n).f.env) ⟨lwL4 is s,lwO is p⟩ .next ⟨lwL4 is s,lwO is p⟩:=
 good (t:=.s (stm (df 87).body 5)) (v:=.f .next) (okC W (by kernel_rfl)) (or:=[.call [] (.ret .none) []]) (aI (c_check_act W s n hn) trivial)
theorem lw_st6_t (W:Wd w B){e:En}{L n:Nat}(is:List Int){s:Sx}{p:Nat}(hp:p<10000)(h0:drw (lwCl is) (lwK is) p 2=0)(hs:CN w B n 540 [.dat (.lst [.tup s.nodeL])] [] (.ret (.str s.stx)) [])(hr:CN w B n 481 [.str s.stx] [] (.ret (.dat (.lst [.tup s.nodeL]))) [])
  (hq:∀c,CallW (lwX w B e L n) (.blt "repr") [.dat (.lst [.tup s.nodeL])] c (.str (lwT s))) (h1:1<=n):
  TF (lwX w B e L n) (exec (stm (df 87).body 6) (lwX w B e L n).f.env) ⟨lwL4 is s,lwO is p⟩ (.ret (.bool true)) ⟨lwL4 is s,lwO is (p+1)⟩:=by
 have e0:decide (lwT s=lwT s)=true:=decide_eq_true rfl
 rw[<-e0]
 exact good (t:=.s (stm (df 87).body 6)) (v:=.f (.ret (.bool (decide (lwT s=lwT s))))) (okC W (by kernel_rfl))
  (or:=[.call [1,2] (.ret (.int (drw (lwCl is) (lwK is) p 2))) [.dlist ((lwCl is).map D.int),.list [.ref 0,.int ((p:Int)+1),.int (lwK is)]],.br true,.call [] (.ret (.str s.stx)) [],.call [] (.ret (.dat (.lst [.tup s.nodeL]))) [],.item (.str (lwT s)),.item (.str (lwT s))])
  (aI (c_draw W (lwCl is) (by have:=lwCl_len is;lia) p hp (lwK is) 2 (by decide) n h1) (aI (show decide (drw (lwCl is) (lwK is) p 2=0)=true from decide_eq_true h0) (aI (hs n (Nat.le_refl _)) (aI (hr n (Nat.le_refl _)) (aI (hq ⟨lwL4 is s,lwO is (p+1)⟩) (aI (hq ⟨lwL4 is s,lwO is (p+1)⟩) trivial))))))
theorem lw_st6_f (W:Wd w B){e:En}{L n:Nat}(is:List Int){s:Sx}{p:Nat}(hp:p<10000)(h0:¬drw (lwCl is) (lwK is) p 2=0)(h1:1<=n):
  TF (lwX w B e L n) (exec (stm (df 87).body 6) (lwX w B e L n).f.env) ⟨lwL4 is s,lwO is p⟩ .next ⟨lwL4 is s,lwO is (p+1)⟩:=
 good (t:=.s (stm (df 87).body 6)) (v:=.f .next) (okC W (by kernel_rfl))
  (or:=[.call [1,2] (.ret (.int (drw (lwCl is) (lwK is) p 2))) [.dlist ((lwCl is).map D.int),.list [.ref 0,.int ((p:Int)+1),.int (lwK is)]],.br false])
  (aI (c_draw W (lwCl is) (by have:=lwCl_len is;lia) p hp (lwK is) 2 (by decide) n h1) (aI (show decide (drw (lwCl is) (lwK is) p 2=0)=false from decide_eq_false h0) trivial))
end
section
variable {w:World}{B:Heap}
noncomputable abbrev oLaw (w:World):Obj:=((KK w.params).lookup 967).getD default
noncomputable abbrev vLaw (w:World):Array Value:=match(oLaw w).data with
 | .fields vs=>vs
 |_=> #[]
theorem law_code (W:Wd w B):CodeHd B 967 965:=
 ⟨oLaw w,vLaw w,"/claim/cut.py",1587,3,0,true,181,0,W.know.k 967 (oLaw w) (by kernel_rfl),by kernel_rfl,by kernel_rfl,by kernel_rfl,by kernel_rfl,by kernel_rfl,by kernel_rfl,by kernel_rfl,by kernel_rfl,by decide⟩
def Bm (B:Heap):Prop:=∃o,B.get? 4=some o/\o.cls=.type "module" /\o.dict=some builtinsNs/\o.data=.plain
noncomputable abbrev lwO' (l:List (Int×Int))(is:List Int)(p:Nat):List AO:=[.tab l,.dlist ((lwCl is).map D.int),.list [.ref 1,.int (p:Int),.int (lwK is)]]
noncomputable abbrev lw7:Stmt:=stm (df 87).body 7
noncomputable abbrev lw8:Stmt:=stm (df 87).body 8
noncomputable abbrev t1:List (Int×Int):=[(((lamP la1).line:Int),((lamP la1).col:Int))]
noncomputable abbrev t2:List (Int×Int):=t1++[(((lamP la2).line:Int),((lamP la2).col:Int))]
theorem lw_work (W:Wd w B)(hb:Bm B){e:En}{L n k:Nat}(hP:e.ρ[0]? =some 965){la:Expr}{l:List (Int×Int)}{is:List Int}{s:Sx}{p:Nat}{loc:Loc}{fp pos:Pos}(O:Ok (lwX w B e L n))(hla:la=.Lambda (lamA la) (lamB la) (lamS la) (lamP la))
  (hdef:defaultsOf (lamA la) (lwX w B e L n).f.env=([],[])) (hcl:closureFor (lamS la) (lwX w B e L n).f.env=pure [(("nodes" :Str),L+1)]) (hl:(l.all λp=> !(p.1==(lamP la).line&&p.2==(lamP la).col))=true) (hloc:lk loc "nodes" =some (.dat (.lst [.tup s.nodeL]))) (hn:k+1<=n) (hk:101<=k)
  (hs:s.lin=true) (hz:s.clen<=1000)
  (hbd:∀pm cdv ct cl q,bindArgs (kla_fn "<lambda>" q (lamA la) (lamB la) (lamS la) cl pm cdv ct) ⟨[],[]⟩=pure []) (hc:(lamS la).names.all (λx=>x.2 !=.cell)=true) (hco:(lamS la).isCoroutine=false) (hgen:(lamS la).isGenerator=false) (hkd:(lamS la).kind=.function)
  (ht:∀ (B':Heap) (a c':Addr) (ctv pm:Value) (q:Str) (cell:Addr),Wd w B'->LamAt B' la a c' ctv pm q cell (.lst [.tup s.nodeL])->∀n,k-1<=n->∀e L,TV (lmX w B' la a c' q cell e L n) (eval (lamB la) (lmX w B' la a c' q cell e L n).f.env) ⟨[],[]⟩ s.rv ⟨[],ob4⟩):
  TV (lwX w B e L n) (eval (.Call (.Name "_law_ran" fp) [la] [] pos) (lwX w B e L n).f.env) ⟨loc,lwO' l is p⟩ (.ok (.str s.txt)) ⟨loc,lwO' (l++[(((lamP la).line:Int),((lamP la).col:Int))]) is p⟩:=by
 rw[hla]
 exact tv_ran (nm:= "nodes") (cell:=L+1) (k:=k+1) (P:=965) (cc:=967) O (tv_global O (by kernel_rfl) (by kernel_rfl)) (by kernel_rfl) rfl hdef hcl rfl hP rfl (law_code W) (by decide) (by kernel_rfl) hb (by decide) hl (by kernel_rfl) hloc hn
  λB' a c' ctv pm up h1 h2 h3=>by
   have W':=W.up up
   have hL:LamAt B' la a c' ctv pm _ (L+1) (.lst [.tup s.nodeL]):=⟨h1,h2,h3⟩
   have hcall:=c_lam W' (k:=k-1) hL hs hz hbd hc hco hgen hkd (ht B' a c' ctv pm _ _ W' hL) (k-1) (Nat.le_refl _)
   rw[show k-1+1=k from by lia]at hcall
   exact c_ran W' hL hs hz (by lia) hcall (k+1) (Nat.le_refl _)
theorem lw_st7 (W:Wd w B)(hb:Bm B){e:En}{L n k:Nat}(hP:e.ρ[0]? =some 965){is:List Int}{s:Sx}{p:Nat}(hn:k+1<=n)(hk:101<=k)(hs:s.lin=true)(hz:s.clen<=1000)(h1:s.kE+4<=k):
  TF (lwX w B e L n) (exec lw7 (lwX w B e L n).f.env) ⟨lwL4 is s,lwO is p⟩ .next ⟨lwL4 is s++[lv "by_nodes" (.str s.txt)],lwO' t1 is p⟩:=by
 have O:Ok (lwX w B e L n):=okC W (by kernel_rfl)
 rw[show lw7=.Assign [.Name "by_nodes" (asgT lw7)] (.Call (.Name "_law_ran" (nmP (callF (asgV lw7)))) [la1] [] (callP (asgV lw7))) (asgQ lw7) from by kernel_rfl]
 exact tf_assign (x:= "by_nodes") (a:=.str s.txt) (c₁:=⟨lwL4 is s,lwO' t1 is p⟩) O.2 (by kernel_rfl) (by kernel_rfl)
  (lw_work W hb (l:=[]) (la:=la1) (k:=k) hP O (by kernel_rfl) (by kernel_rfl) (clos_of (by kernel_rfl)) rfl rfl hn hk hs hz (λpm cdv ct cl q=>by kernel_rfl) (by kernel_rfl) (by kernel_rfl) (by kernel_rfl) (by kernel_rfl)
   λB' a c' ctv pm q cell W' h n hn e L=>lam1_tv W' h hs hz (by lia))
theorem lw_st8 (W:Wd w B)(hb:Bm B){e:En}{L n k:Nat}(hP:e.ρ[0]? =some 965){is:List Int}{s:Sx}{p:Nat}(hn:k+1<=n)(hk:101<=k)(hs:s.lin=true)(hz:s.clen<=1000)(h1:s.kC+13<=k):
  TF (lwX w B e L n) (exec lw8 (lwX w B e L n).f.env) ⟨lwL4 is s++[lv "by_nodes" (.str s.txt)],lwO' t1 is p⟩ (.ret (.bool true)) ⟨lwL4 is s++[lv "by_nodes" (.str s.txt)],lwO' t2 is p⟩:=by
 have O:Ok (lwX w B e L n):=okC W (by kernel_rfl)
 rw[show lw8=.Return (some (.Compare (.Call (.Name "_law_ran" (nmP (callF (cmpL (retE lw8))))) [la2] [] (callP (cmpL (retE lw8)))) [.Eq] [.Name "by_nodes" (nmP (hdE (cmpR (retE lw8))))] (cmpP (retE lw8)))) (retQ lw8) from by kernel_rfl]
 have e0:decide (s.txt=s.txt)=true:=decide_eq_true rfl
 rw[<-e0]
 exact tf_ret (tv_cmp (a:=.str s.txt) (b:=.str s.txt) (c₁:=⟨lwL4 is s++[lv "by_nodes" (.str s.txt)],lwO' t2 is p⟩)
  (lw_work W hb (l:=t1) (la:=la2) (k:=k) hP O (by kernel_rfl) (by kernel_rfl) (clos_of (by kernel_rfl)) (by kernel_rfl) rfl hn hk hs hz (λpm cdv ct cl q=>by kernel_rfl) (by kernel_rfl) (by kernel_rfl) (by kernel_rfl) (by kernel_rfl)
   λB' a c' ctv pm q cell W' h n hn e L=>lam2_tv W' h hs hz (by lia))
  (tv_local' O.2 (by kernel_rfl) (by kernel_rfl) rfl) (op2_cmp O (by kernel_rfl)) rfl)
end
theorem Xt.kU_inn:∀x:Xt,(x.kU:Int)<=4*x.inn+11
 | .num _=>by show(11:Int)<=4*0+11;lia
 | .par x=>by have:=x.kU_inn;show((x.kU+3:Nat):Int)<=4*(x.inn+1)+11;lia
 | .lst x=>by have:=x.kU_inn;have:=x.inn0;show((x.kU+4:Nat):Int)<=4*(if x.inn+1>0 then x.inn+1 else 0)+11;split<;>lia
 | .len x=>by have:=x.kU_inn;have:=x.inn0;show((x.kU+4:Nat):Int)<=4*(if x.inn+1>0 then x.inn+1 else 0)+11;split<;>lia
 | .neg x=>by have:=x.kU_inn;show((x.kU+1:Nat):Int)<=4*(x.inn+1)+11;lia
 | .add l r=>by
  have:=l.kU_inn;have:=r.kU_inn
  show((max l.kU (r.kU+1):Nat):Int)<=4*(if r.inn+1>l.inn+1 then r.inn+1 else l.inn+1)+11
  split<;>lia
theorem Sx.kS_dep:∀s:Sx,(s.kS:Int)<=4*s.dep+9
 | .set x=>by have:=x.kU_inn;show((x.kU+2:Nat):Int)<=4*(x.inn+1)+9;lia
 | .iff s=>by have:=s.kS_dep;show((s.kS+4:Nat):Int)<=4*(s.dep+1)+9;lia
 | .whl s=>by have:=s.kS_dep;show((s.kS+4:Nat):Int)<=4*(s.dep+1)+9;lia
 | .els _ s=>by have:=s.kS_dep;show((s.kS+4:Nat):Int)<=4*(s.dep+1)+9;lia
theorem Xt.hgt_inn:∀x:Xt,(x.hgt:Int)<=x.inn/\(x.kH:Int)<=2*x.inn+1
 | .num _=>⟨Int.le_refl _,by show(1:Int)<=2*0+1;lia⟩
 | .par x=>by have:=x.hgt_inn;exact⟨by show(x.hgt:Int)<=x.inn+1;lia,by show(x.kH:Int)<=2*(x.inn+1)+1;lia⟩
 | .lst x=>by
  have:=x.hgt_inn;have:=x.inn0
  exact⟨by show((x.hgt+1:Nat):Int)<=(if x.inn+1>0 then x.inn+1 else 0);split<;>lia,by show((x.kH+1:Nat):Int)<=2*(if x.inn+1>0 then x.inn+1 else 0)+1;split<;>lia⟩
 | .len x=>by
  have:=x.hgt_inn;have:=x.inn0
  exact⟨by show((x.hgt+1:Nat):Int)<=(if x.inn+1>0 then x.inn+1 else 0);split<;>lia,by show((x.kH+1:Nat):Int)<=2*(if x.inn+1>0 then x.inn+1 else 0)+1;split<;>lia⟩
 | .neg x=>by have:=x.hgt_inn;exact⟨by show((x.hgt+1:Nat):Int)<=x.inn+1;lia,by show((x.kH+2:Nat):Int)<=2*(x.inn+1)+1;lia⟩
 | .add l r=>by
  have:=l.hgt_inn;have:=r.hgt_inn
  exact⟨by show((max l.hgt r.hgt+1:Nat):Int)<=(if r.inn+1>l.inn+1 then r.inn+1 else l.inn+1);split<;>lia,by show((max l.kH r.kH+2:Nat):Int)<=2*(if r.inn+1>l.inn+1 then r.inn+1 else l.inn+1)+1;split<;>lia⟩
theorem Sx.k_dep:∀s:Sx,(s.kA:Int)<=s.dep+2/\(s.kC:Int)<=3*s.dep+1/\(s.kH:Int)<=3*s.dep/\(s.kE:Int)<=2*s.dep+11
 | .set x=>by
  have:=x.hgt_inn;have:=x.inn0
  exact⟨by show((x.hgt+3:Nat):Int)<=x.inn+1+2;lia,by show((x.hgt+4:Nat):Int)<=3*(x.inn+1)+1;lia,by show((x.kH+1:Nat):Int)<=3*(x.inn+1);lia,by show((x.hgt+13:Nat):Int)<=2*(x.inn+1)+11;lia⟩
 | .iff s=>by
  have:=s.k_dep
  exact⟨by show((s.kA+1:Nat):Int)<=s.dep+1+2;lia,by show((s.kC+3:Nat):Int)<=3*(s.dep+1)+1;lia,by show((s.kH+3:Nat):Int)<=3*(s.dep+1);lia,by show((s.kE+2:Nat):Int)<=2*(s.dep+1)+11;lia⟩
 | .whl s=>by
  have:=s.k_dep;have:=s.dep1
  exact⟨by show((s.kA+1:Nat):Int)<=s.dep+1+2;lia,by show((s.kC+3:Nat):Int)<=3*(s.dep+1)+1;lia,by show((s.kH+3:Nat):Int)<=3*(s.dep+1);lia,by show(13:Int)<=2*(s.dep+1)+11;lia⟩
 | .els _ s=>by
  have:=s.k_dep
  exact⟨by show((s.kA+1:Nat):Int)<=s.dep+1+2;lia,by show((s.kC+3:Nat):Int)<=3*(s.dep+1)+1;lia,by show((s.kH+3:Nat):Int)<=3*(s.dep+1);lia,by show((s.kE+2:Nat):Int)<=2*(s.dep+1)+11;lia⟩
theorem blkF_dep {cl:List Int}{k aim:Int}(ha:aim<=102):∀ (m p:Nat) (s:Sx),s.dep<=104->(blkF cl k aim m p s).2.dep<=104
 |0,p,s,h=>h
 |m+1,p,s,h=>by
  unfold blkF
  split
  ·have e:=s.wrap_dep (drw cl k p 3).toNat
   exact blkF_dep ha m (p+1) _ (by lia)
  ·exact blkF_dep ha m p s h
theorem page_dep (cl:List Int)(k:Int):(pageF cl k).2.dep<=104/\(pageF cl k).1<=100:=by
 have hn:=trnN_le cl k
 have hb:=blkN_le cl k
 obtain⟨r1,r2,r3,r4⟩:=turnF_ok (cl:=cl) (k:=k) (aim_hi (drw cl k 0 6)) (trnN cl k) 2 (.num 7) ⟨rfl,by decide,by decide⟩ (by decide)
 obtain⟨q1,q2,q3,q4⟩:=blkF_ok (cl:=cl) (k:=k) (aim:=aimF (drw cl k 0 6)) (blkN cl k) (2+2*trnN cl k+1) (.set (pageX cl k)) r1
 refine⟨blkF_dep (aim_hi (drw cl k 0 6)) _ _ _ ?_,?_⟩
 ·have r2:(pageX cl k).inn<=103:=r2
  show(pageX cl k).inn+1<=104
  lia
 ·unfold pageF;lia
section
variable {w:World}{B:Heap}
theorem law_body:(df 87).body=[lw0,stm (df 87).body 1,stm (df 87).body 2,lw3,stm (df 87).body 4,stm (df 87).body 5,stm (df 87).body 6,lw7,lw8]:=by kernel_rfl
theorem law_rest (W:Wd w B)(hb:Bm B)(is:List Int){s:Sx}{p:Nat}(hg:s.good)(hc:s.clen<=1000)(ht:s.tk.length<=2100)(hdp:s.dep<=104)(hN:p<=100):
  ∃l p',∀ (e:En) (L n:Nat),e.ρ[0]? =some 965->600<=n->∃loc',TF (lwX w B e L n) (execs [lw3,stm (df 87).body 4,stm (df 87).body 5,stm (df 87).body 6,lw7,lw8] (lwX w B e L n).f.env) ⟨lwL3 is s,lwO is p⟩ (.ret (.bool true)) ⟨loc',lwO' l is p'⟩:=by
 have hk:=s.kS_dep
 obtain⟨k1,k2,k3,k4⟩:=s.k_dep
 have hpt:=s.ptx_len hg.2.1
 obtain⟨p1,p2⟩:=c_pp W hg (by lia)
 by_cases hd:s.dep<=100
 ·have hr:=p1 hd
  have hsk:=s.shw.kS_dep
  have hsd:=s.shw_dep hg.1
  by_cases h0:drw (lwCl is) (lwK is) p 2=0
  ·refine⟨[],p+1,λe L n hP hn=>⟨_,tf_cons (lw_try_ok W is hr (by lia)) (tf_cons (lw_st4 W is hd) (tf_cons (lw_st5 W is (by lia)) (tf_cons_ret (lw_st6_t W is (by lia) h0 (CN.up (c_shact W s (s.fig_dig hg.2.1) (by lia)) (by lia)) (CN.up (c_reread W s hg.1 hg.2.1 hd (by lia)) (by lia)) (λc=>?_) (by lia)))))⟩⟩
   have rp:=rps1 (s.rp hg.2.2).tup
   exact callw_repr rp (by lia) (by show 3*s.tk.length+1+1+2<=10*n+400;lia) λG v z=>by cases z;exact⟨_,rfl⟩
  ·exact⟨t2,p+1,λe L n hP hn=>⟨_,tf_cons (lw_try_ok W is hr (by lia)) (tf_cons (lw_st4 W is hd) (tf_cons (lw_st5 W is (by lia)) (tf_cons (lw_st6_f W is (by lia) h0 (by lia)) (tf_cons (lw_st7 W hb (k:=550) hP (by lia) (by lia) hg.2.2 hc (by lia)) (tf_cons_ret (lw_st8 W hb (k:=550) hP (by lia) (by lia) hg.2.2 hc (by lia)))))))⟩⟩
 ·obtain⟨o,o1,o2,hx⟩:=p2 (by lia)
  exact⟨[],p,λe L n hP hn=>⟨_,tf_cons_ret (lw_try_x W is (by lia) o1 o2 (by lia) hx (by lia))⟩⟩
theorem law_tf (W:Wd w B)(hb:Bm B)(is:List Int)(hz:is.length<=63):
  ∃l p,∀ (e:En) (L n:Nat),e.ρ[0]? =some 965->600<=n->∃loc',TF (lwX w B e L n) (execs (df 87).body (lwX w B e L n).f.env) ⟨lwL0 is,[.tab []]⟩ (.ret (.bool true)) ⟨loc',lwO' l is p⟩:=by
 rw[law_body]
 obtain⟨hg,hc,ht⟩:=page_ok (lwCl is) (lwK is)
 obtain⟨hdp,hN⟩:=page_dep (lwCl is) (lwK is)
 obtain⟨l,p',h⟩:=law_rest W hb is hg hc ht hdp hN
 exact⟨l,p',λe L n hP hn=>let⟨loc',t⟩:=h e L n hP hn;⟨loc',tf_cons (lw_st0 W is hz) (tf_cons (lw_st1 W is) (tf_cons (lw_st2 W is (by lia)) t))⟩⟩
end
section
variable {w:World}{B:Heap}
theorem law_call (W:Wd w B)(hb:Bm B)(is:List Int)(hz:is.length<=63):∃l p,∀ (A:Around) (ρ:List Addr) (G:Gh) (s:Shared) (vs:List Value) (fr:List Env),ρ[0]? =some 965->Rm A 601 fr->FrOK s.heap ρ G fr->HOk B ρ G [.tab []] s->RepVs ρ G [.dat (.lst (is.map D.int))] vs->
  codeAny (model pw w) A (.call (.ref 968) ⟨vs,[]⟩) (QC B ⟨s.heap,ρ,G,fr,s.os⟩ ρ G (.ret (.bool true)) (lwO' l is p)) s:=by
 obtain⟨l,p,h⟩:=law_tf W hb is hz
 refine⟨l,p,?_⟩
 exact call_defP (T:=TT) (n:=600) (k:=1) (f:=968) (name:=(df 87).name) (qual:= "law") (params:=(df 87).args) (body:=(df 87).body) (scope:=(df 87).scope) (dV:=.none) (kV:=.none) (doc:=.none) (pm:=(.str "law_qd0076_01" 1530)) (cdv:=.ref 967) (ct:=.none) (oc:=.type "function") (an:=none) (od:=none) (osl:= #[])
  (names:=["script"]) (das:=[]) (dvs:=[]) (args:=[.dat (.lst (is.map D.int))]) (fl:=.ret (.bool true)) (P:=λρ=>ρ[0]? =some 965) W.know.k W.lim (by kernel_rfl) (by kernel_rfl)
  (AllV.binds λ_ _=>by kernel_rfl) (λ_ _=>trivial) rfl (nodupB_ok (by kernel_rfl)) (λy hy=>by
   rcases List.mem_cons.mp hy with rfl|hy
   ·exact .inl (by kernel_rfl)
   ·cases hy)
  (λx hx z=>by
   have hc:((df 87).scope.names.all λx=>x.2 !=.cell|| (df 87).scope.names.lookup x.1==some .cell)=true:=by kernel_rfl
   have:=List.all_eq_true.mp hc x hx
   rw[z]at this
   cases q:(df 87).scope.names.lookup x.1 with
   |none=>rw[q]at this;exact absurd this (by decide)
   |some k=>rw[q]at this;cases k<;>first|rfl|exact absurd this (by decide))
  (λe L hP _=>let⟨loc',t⟩:=h e L 600 hP (Nat.le_refl _);⟨loc',t.weak⟩) (by kernel_rfl) (by kernel_rfl) (by kernel_rfl)
end
theorem left_own {p q:Program}{loose:List Str}{Xt:Shared->Bool}{α:Type}{Yf:Shared->α}{Ya:World->α}{N:Nat}{g0:Bool}{H₀:Params->Heap}{gs₀:Array GenState}{d₀:Drawn}{k₀:Nat}{m₀:Nat}{ann:Option Value}{M:Nat}
  (open_:∀w:World,(fencedOpening treeTable p w N).map (λs=>(s.heap,s.gens,s.drawn,s.toks))=some (H₀ w.params,gs₀,d₀,k₀))
  (size:∀w:World,((H₀ w.params).isNs mainGlobals&&gs₀.size==0,(H₀ w.params).objs.size,(H₀ w.params).nsMap mainGlobals "__annotations__")=(true,m₀,ann))
  (run:∀ (w:World) (os:OsState),∃s₁,topRun treeTable p w m₀ ann M ⟨H₀ w.params,gs₀,d₀,k₀,os⟩ (topStub p)=some s₁/\
   ((staticsOk (importedModules p.main.body) (H₀ w.params) s₁.heap&&namesBound p s₁.heap&&gensDone s₁&&laidKept (H₀ w.params) s₁.heap),openSeen q loose (importedModules p.main.body) Xt g0 s₁,Yf s₁)=(true,openGood q loose,Ya w))
  (le:Nat.ble M N=true):LeftO p q loose Xt Yf Ya N g0:=λw=>by
 obtain⟨⟨h,gs,d,k,os⟩,e,e'⟩:=Option.map_eq_some_iff.mp (open_ w)
 obtain⟨rfl,rfl,rfl,rfl⟩:h=H₀ w.params/\gs=gs₀/\d=d₀/\k=k₀:=by simpa using e'
 obtain⟨z1,z2,z3⟩:_/\_/\_:=by simpa only[Prod.mk.injEq]using size w
 obtain⟨s₁,r₁,hl⟩:=run w os
 obtain⟨l1,l2,l3⟩:_/\_/\_:=by simpa only[Prod.mk.injEq]using hl
 have r:=topRun_mono (N-M) _ _ _ _ r₁
 rw[show M+(N-M)=N by have:=Nat.le_of_ble_eq_true le;lia]at r
 have t:topFrom treeTable p w N ⟨H₀ w.params,gs,d,k,os⟩=some s₁:=by
  unfold topFrom
  dsimp only
  rw[z1,z2,z3,r]
  show(match staticsOk (importedModules p.main.body) (H₀ w.params) s₁.heap&&namesBound p s₁.heap&&gensDone s₁&&laidKept (H₀ w.params) s₁.heap with|true=>_|false=>_)=_
  rw[l1]
 unfold openEnds
 rw[e]
 show(topFrom treeTable p w N _).map _=_
 rw[t]
 exact congrArg some (Prod.ext l2 l3)
noncomputable abbrev q0:Pos:=⟨0,0,0,0⟩
noncomputable abbrev hB:List Stmt:=behindTheImports pw
noncomputable def hEnv:Env:= {scope:=pw.main.scope,locals:=mainNs,globals:=mainNs,cells:=[],code:=.ref 13,frame:=some 14}
noncomputable abbrev hC:Code:=.body hB hEnv
noncomputable def hS0 (w:World)(os:OsState):Shared:=⟨boot_heap w.params,#[],boot_drawn,boot_toks,os⟩
noncomputable def hPre (w:World)(os:OsState):Option (Shared×Thread):=topGo treeTable pw w 11 (some (.ref 6)) 12 (hS0 w os) (topStub pw)
noncomputable def hSa (w:World)(os:OsState):Shared:=match hPre w os with
 |some r=>r.1
 |none=>hS0 w os
noncomputable def btFrom:BT->Nat->List Obj->BT
 |t,_,[]=>t
 |t,n,o::r=>btFrom (t.ins n o) (n+1) r
noncomputable def hT0 (w:World)(os:OsState):SharedT:=⟨btFrom .nil 0 (hSa w os).heap.objs.toList,(hSa w os).heap.objs.size,(hSa w os).heap.life,(hSa w os).gens,(hSa w os).drawn,(hSa w os).toks,(hSa w os).os⟩
theorem hd_pre (w:World)(os:OsState):topGo treeTable pw w 11 (some (.ref 6)) 12 (hS0 w os) (topStub pw)=some (hSa w os,⟨denote treeTable hC,hC,q0,[topFrame q0]⟩):=by kernel_rfl
theorem hd_abs (w:World)(os:OsState):(hT0 w os).abs=hSa w os:=by kernel_rfl
theorem hd_block (w:World)(os:OsState):segRun treeTable pw w 11 (some (.ref 6)) 1 1 (hSa w os) (blockOf hB hEnv hC q0 [topFrame q0])=some (.next,hSa w os,hC,q0):=by kernel_rfl
noncomputable def hRun (w:World)(os:OsState):Option (Flow×SharedT×Code×Pos):=segRunT treeTable pw w 11 (some (.ref 6)) 1 7000 (hT0 w os) (piecesOf hB hEnv hC q0 [topFrame q0])
noncomputable abbrev hRow:String:= "special-get-raises"
noncomputable abbrev hQ:Program:=view pw [87]
noncomputable def hLoose:List Str:=(pw.main.scope.names.map (·.1)).filter λx=>x !=("law" :Str)
noncomputable def hAs:List Addr:=[1,3,35,36,45,46,56,57,65,71,72,81,82,94,95,106,107,117,123,124,130,131,132,138,139,145,146,152,153,159,160,166,167,175,181,182,188,189,195,196,233,234,258,260,261,262,263,276,277,279,280,290,291,297,298,304,305,311,312,325,326,332,333,339,340,346,347,353,354,355,361,362,368,369,375,376,382,383,389,390,396,397,403,404,410,411,417,418,424,425,431,432,438,439,445,446,452,453,459,460,462,463,473,474,480,481,487,488,494,495,501,502,508,509,515,516,520,521,527,528,534,535,539,540,542,548,549,555,556,562,563,569,570,597,598,604,605,618,619,620,626,627,633,634,640,641,647,648,661,662,668,669,675,676,678,679,684,690,691,697,698,711,712,774,775,781,782,809,810,816,817,823,824,830,831,837,838,847,848,860,866,867,873,874,880,881,887,888,894,895,901,902,908,909,915,916,920,921,923,924,934,935,941,942,948,949,955,956,962,963,967,968]
theorem hAs_eq (P:Params):hAs=(KK P).map (·.1):=by kernel_rfl
noncomputable def bmOk:Option Obj->Bool
 |some o=>o.cls==.type "module" &&o.dict==some builtinsNs&& (match o.data with
  | .plain=>true
  |_=>false)
 |none=>false
noncomputable def hXt (s:Shared):Bool:=recOk (PySem.Challenge.rw_qd0076_01.row.toRowW.records) s
noncomputable def hYf (s:Shared):List (Option Obj)×Bool×Option Obj:=(hAs.map s.heap.get?,bmOk (s.heap.get? 4),s.heap.get? 965)
noncomputable def hYa (w:World):List (Option Obj)×Bool×Option Obj:=((KK w.params).map λp=>some p.2,true,some (tabObj #[]))
noncomputable def hRunF (w:World)(os:OsState):Option (Flow×SharedT×Code×Pos):=Fast.tw10110043849684766642 Fast.tw14364793385576792824 pw w 11 (some (.ref 6)) 1 7000 (hT0 w os) ⟨(Fast.tw12563942051412417395 hB hEnv).wrap doneF deadEnd id id,hC,q0,[topFrame q0]⟩
theorem hRun_eq (w:World)(os:OsState):hRun w os=hRunF w os:=by
 unfold hRun hRunF piecesOf
 rw[Fast.te10110043849684766642,Fast.te14364793385576792824,Fast.te12563942051412417395]
noncomputable def gT (s:SharedT)(a:Addr):Option Obj:=match Nat.blt a s.n,s.tree.get a with
 |true,some o=>alive o
 |_,_=>s.abs.heap.get? a
theorem gT_eq (s:SharedT):s.abs.heap.get?=gT s:=funext λa=>by
 unfold gT
 split
 ·rename_i o h q
  exact abs_get (Nat.blt_eq.mp h) q
 ·rfl
noncomputable def hYfT (s:SharedT):List (Option Obj)×Bool×Option Obj:=(hAs.map (gT s),bmOk (gT s 4),gT s 965)
theorem hYfT_eq (s:SharedT):hYf s.abs=hYfT s:=by unfold hYf hYfT;rw[gT_eq]
noncomputable abbrev hEnd:Pos:=⟨896,0,910,94⟩
noncomputable def hLook (w:World)(r:Flow×SharedT×Code×Pos):=(r.1,r.2.2.1,r.2.2.2,((staticsOk (importedModules pw.main.body) (boot_heap w.params) r.2.1.abs.heap&&namesBound pw r.2.1.abs.heap&&gensDone r.2.1.abs&&laidKept (boot_heap w.params) r.2.1.abs.heap),openSeen hQ hLoose (importedModules pw.main.body) hXt true r.2.1.abs,hYfT r.2.1))
theorem hd_false (w:World)(os:OsState):(hRunF (w.withFollow hRow false) os).map (hLook (w.withFollow hRow false))=some (.next,hC,hEnd,(true,openGood hQ hLoose,hYa (w.withFollow hRow false))):=by kernel_rfl
theorem hd_true (w:World)(os:OsState):(hRunF (w.withFollow hRow true) os).map (hLook (w.withFollow hRow true))=some (.next,hC,hEnd,(true,openGood hQ hLoose,hYa (w.withFollow hRow true))):=by kernel_rfl
theorem hd_obs (w:World)(os:OsState):(hRun w os).map (hLook w)=some (.next,hC,hEnd,(true,openGood hQ hLoose,hYa w)):=by
 rw[hRun_eq]
 have e:=World.withFollow_self w hRow
 cases hb:w.params.followText hRow<;>rw[hb]at e
 ·have:=hd_false w os;rw[e]at this;exact this
 ·have:=hd_true w os;rw[e]at this;exact this
theorem hd_fin (w:World)(s:Shared):topRun treeTable pw w 11 (some (.ref 6)) 3 s ⟨doneF .next,hC,hEnd,[topFrame q0]⟩=some s:=by kernel_rfl
theorem hd_run (w:World)(os:OsState):∃s₁,topRun treeTable pw w 11 (some (.ref 6)) (12+(1+(7000+3))) ⟨boot_heap w.params,#[],boot_drawn,boot_toks,os⟩ (topStub pw)=some s₁/\
  ((staticsOk (importedModules pw.main.body) (boot_heap w.params) s₁.heap&&namesBound pw s₁.heap&&gensDone s₁&&laidKept (boot_heap w.params) s₁.heap),openSeen hQ hLoose (importedModules pw.main.body) hXt true s₁,hYf s₁)=(true,openGood hQ hLoose,hYa w):=by
 obtain⟨⟨f,s',c,p⟩,hr,hl⟩:=Option.map_eq_some_iff.mp (hd_obs w os)
 unfold hLook at hl
 simp only[Prod.mk.injEq]at hl
 obtain⟨rfl,rfl,rfl,h1,h2,h3⟩:=hl
 refine⟨s'.abs,?_,Prod.ext h1 (Prod.ext h2 ((hYfT_eq s').trans h3))⟩
 have hs:=segRun_of hr
 rw[hd_abs]at hs
 refine go_top (hd_pre w os) (piece_block (hd_block w os) ?_)
 have:=piece_app (rest:=[]) hs (piece_nil (hd_fin w s'.abs))
 rw[List.append_nil]at this
 exact this
theorem hd_left:LeftO pw hQ hLoose hXt hYf hYa 20000:=
 left_own (boot_open (by kernel_rfl) (by decide) (λs=>by rfl)) (λw=>by kernel_rfl) hd_run (by decide)
theorem ofPys_int:∀ns:List Int,ofPys (ns.map PyData.int)=ns.map WData.int
 | []=>rfl
 |n::ns=>by show ofPy (.int n)::ofPys (ns.map PyData.int)=_;rw[ofPys_int ns];rfl
theorem ints_rep {R:WRecords}{cl:Str->Option Addr}{h:Heap}{G:Gh}:∀ {ns:List Int} {vs:List Value} {as:List Addr},ReadsAllW R cl h vs (ns.map WData.int) as->RepDs G vs (ns.map D.int)
 | [],_,_,r=>by cases r;exact .nil
 |n::ns,_,_,r=>by
  cases r with
  |cons a b=>cases a;exact .cons (.int _ _) (ints_rep b)
theorem kk965 (P:Params):(KK P).lookup 965=none:=by kernel_rfl
theorem kk_hid {w:World}{h:Heap}(k:(KK w.params).In h):(KK w.params).In (hid h [965]):=λa o q=>by
 by_cases z:a=965
 ·subst z;rw[kk965]at q;cases q
 ·exact(hid_out (λy=>z (List.mem_singleton.mp y))).trans (k a o q)
noncomputable abbrev hLoose':List Str:=pw.main.scope.names.map (·.1)
theorem hQ_recs:(recsOf hQ).map (·.name)=[("law" :Str)]:=by kernel_rfl
theorem hQ_lits:(litsOf hQ).map (·.1)=[]:=by kernel_rfl
theorem hQ_clss:(clssOf hQ (looseW hQ hLoose)).map (·.name)=[]:=by kernel_rfl
theorem hQ_loose:(looseW hQ hLoose).all (λx=>hLoose'.contains x)=true:=by kernel_rfl
theorem law_in:hLoose'.contains "law" =true:=by kernel_rfl
noncomputable abbrev hD:DefRec×List (Str×Expr):=match PySem.W.defOf hQ "law" with
 |some r=>r
 |none=>(⟨"",default,[],default,default⟩,[])
theorem hD_is:PySem.W.defOf hQ "law" =some (hD.1,hD.2):=by kernel_rfl
noncomputable abbrev hR:OpenRow:=PySem.Challenge.rw_qd0076_01.row
theorem hp_law:hR.prog.theDef hR.name=some (hD.1.params,hD.1.body,hD.1.scope):=by kernel_rfl
theorem hk_law:kwWritten? hD.1.params.kwonlyargs hD.1.params.kw_defaults=some hD.2:=by kernel_rfl
theorem ok_law:(chainsOk hQ&&opensWell hR.prog&& (frees hR.toRowW&&hR.within.isEmpty))=true:=by kernel_rfl
theorem bare_law:hR.prog.bare:=⟨rfl,rfl,rfl,rfl,rfl,by decide+kernel⟩
theorem law_said:PySem.Challenge.rw_qd0076_01.wellSaid=true:=by rw[Fast.te9446332074065402090];kernel_rfl
theorem pre_len {ns:List Int}(h:hR.toRowW.claim.pre [.list (ns.map WData.int)]=true):ns.length<=63:=by
 have h2:=(pre_splitW h).2
 have e:hR.toRowW.pre.holds hR.toRowW.records {args:=[.list (ns.map WData.int)]}=decide (ns.length<=63):=by
  show WTm.holds _ (OpenLaw.pre PySem.Challenge.rw_qd0076_01) _=_
  simp[OpenLaw.pre,PySem.Challenge.rw_qd0076_01,WTm.holds,WTm.value]
  have e1:less? (WData.int 63) (WData.int (ns.length:Int))=some (decide ((63:Int)<ns.length)):=rfl
  rw[e1]
  by_cases h0:ns.length<=63
  ·rw[decide_eq_true h0,decide_eq_false (show¬ ((63:Int)<ns.length) from by lia)];rfl
  ·rw[decide_eq_false h0,decide_eq_true (show(63:Int)<ns.length from by lia)];rfl
 rw[e]at h2
 exact of_decide_eq_true h2
theorem law_walk:WalkX hQ hLoose (λ_ _=>True) hYf hYa hR.toRowW hD.1 hD.2 λf vs=>PySem.call f vs:=by
 intro w s₀ s₁ mg mb G Y a o pm cd doc dV kV h1 h2 h3 h4 h5 hg args vals as L hpre hlay hrd hwell hsys
 have y1:hAs.map s₀.heap.get?=(KK w.params).map λp=>some p.2:=congrArg Prod.fst Y
 have y2:bmOk (s₀.heap.get? 4)=true:=congrArg (λx=>x.2.1) Y
 have y3:s₀.heap.get? 965=some (tabObj #[]):=congrArg (λx=>x.2.2) Y
 have K0:(KK w.params).In s₀.heap:=InK.of hAs_eq w s₀ y1
 have K1:(KK w.params).In s₁.heap:=K0.keeps L.keeps
 have n965:∀b,b≠965->(hid s₁.heap [965]).get? b=s₁.heap.get? b:=λb hb=>hid_out (λy=>hb (List.mem_singleton.mp y))
 have T:=topRead_of G.T
 have top:∃loose mg mb,TopRead pw loose mg mb (hid s₁.heap [965]):=by
  refine⟨hLoose',mg,mb,⟨ns_hid (by decide) T.g,ns_hid (by decide) T.b,?_,T.builtins,λx x1 x2 _ _ _=>?_⟩⟩
  ·obtain⟨mc,c1,c2⟩:=T.nolimit
   exact⟨mc,ns_hid (by decide) c1,c2⟩
  ·refine T.free x x1 (λz=>?_) ?_ ?_ ?_
   ·have:=List.all_eq_true.mp hQ_loose x z
    exact x2 (List.contains_iff_mem.mp this)
   ·rw[hQ_recs]
    intro z
    rw[List.mem_singleton.mp z]at x2
    exact x2 (List.contains_iff_mem.mp law_in)
   ·rw[hQ_lits];exact λz=>by cases z
   ·rw[hQ_clss];exact λz=>by cases z
 have W:Wd w (hid s₁.heap [965]):=⟨know (kk_hid K1) top,let⟨mc,c1,c2⟩:=T.nolimit;⟨mc,ns_hid (by decide) c1,c2⟩⟩
 have hb:Bm (hid s₁.heap [965]):=by
  unfold bmOk at y2
  split at y2
  ·rename_i ob q
   simp only[Bool.and_eq_true,beq_iff_eq]at y2
   obtain⟨⟨b1,b2⟩,b3⟩:=y2
   refine⟨ob,(n965 4 (by decide)).trans (L.keeps _ _ q),b1,b2,?_⟩
   split at b3
   ·assumption
   ·cases b3
  ·cases y2
 have ea:a=968:=by
  have e1:mg "law" =some (.ref 968):=mg_of K1 T.g (by kernel_rfl)
  have e2:mg hD.1.name=some (.ref a):=h5
  have e3:hD.1.name=("law" :Str):=by kernel_rfl
  rw[e3,e1]at e2
  cases e2;rfl
 subst ea
 obtain⟨d,r,rfl,s1,s2⟩:=hasAllW_cons (pre_splitW hpre).1
 obtain rfl:=hasAllW_nil s2
 obtain⟨xs,rfl,s3⟩:=hasW_list s1
 obtain⟨ns,rfl⟩:=items_int s3
 have hz:=pre_len hpre
 cases hrd with
 |cons r1 r2=>
  cases r2
  cases r1 with
  |list g1 g2 g3 g4=>
   rename_i la lo lvs ln las
   obtain⟨lvs⟩:=lvs
   have L':Laid hR.toRowW.records w s₀ s₁ [ofPy (PyData.list (ns.map PyData.int))] [.ref la] (la::las++[]):=by
    show Laid _ _ _ _ [.list (ofPys (ns.map PyData.int))] _ _
    rw[ofPys_int];exact L
   have hobj:=X.script_obj L' ⟨lo,g1,g2,ln,g3⟩
   obtain⟨l,p,hc⟩:=law_call W hb ns hz
   have hla:la≠965:=λz=>by
    have sz:=(X.script_at L').1
    have:=Heap.lt_size y3
    rw[z]at sz
    rw[<-sz]at this
    exact Nat.lt_irrefl _ this
   have hG:∀b ob,(hid s₁.heap [965]).get? b=some ob->s₁.heap.get? b=some ob:=λb ob q=>(hid_some q).2
   have h965:s₁.heap.get? 965=some (tabObj #[]):=L.keeps _ _ y3
   have H:HOk (hid s₁.heap [965]) [965] (λb=>(hid s₁.heap [965]).get? b) [.tab []] s₁:=by
    refine⟨λb ob q=>q,hG,rfl,by simp,λa ha=>?_,λi ao q nd=>?_,hg⟩
    ·rw[List.mem_singleton.mp ha];exact⟨_,h965⟩
    ·cases i with
     |zero=>cases q;exact⟨965,_,rfl,h965,⟨#[],rfl,trivial⟩,hid_in (.head _)⟩
     |succ i=>cases q
   have z:=hc callerA [965] (λb=>(hid s₁.heap [965]).get? b) s₁ [.ref la] [] rfl ⟨by decide+kernel,by decide+kernel,rfl,rfl,rfl⟩ (λenv he=>by cases he) H
    ⟨.lst (n:=0) (vs:=lvs) ((n965 la hla).trans hobj) (ints_rep g4),trivial⟩
   refine wpAny_call (codeAny_mono z λres s' q=>?_)
   rcases res with x| (v|_|_|_)<;>first|exact q.elim|skip
   obtain⟨ρ',G',pr,sb,H',R',rv⟩:=q
   obtain rfl:=rv
   have hP:ρ'[0]? =some 965:=pr 0 965 rfl
   refine⟨.inl ⟨.bool true,.bool true,[],rfl,λcls=>rfl,.bool true,?_,λ_=>⟨List.nodup_nil,λa ha=>by cases ha⟩⟩,⟨λb ob e=>?_,λb ob e=>?_⟩,R'.os,.of_eq H'.gens⟩
   ·show(WShape.has hR.toRowW.records (.bool true) .bool&&WTm.holds hR.toRowW.records (.eq .res (.lit (.bool true))) _)=true
    first
     |kernel_rfl
     |simp[WShape.has,WShape.arms,WTm.holds,WTm.value]
   ·by_cases hb5:b=965
    ·subst hb5
     rw[h965]at e;cases e
     obtain⟨a',o',q1,q2,⟨ps,rfl,_⟩,_⟩:=H'.live 0 _ rfl (by intro z;cases z)
     rw[hP]at q1;cases q1
     obtain⟨co,cvs,_,_,_,_,_,_,_,c1,c2,c3,c4,_⟩:=law_code W
     exact .inr (.inl ⟨⟨967,co,cvs,hG _ _ c1,c2,c3,c4⟩,rfl,#[],ps,rfl,by rw[q2];simp⟩)
    ·exact .inl ((R'.keep b ob e (λy=>hb5 (List.mem_singleton.mp y))).1 λy=>by cases y)
   ·by_cases hb5:b=965
    ·subst hb5
     obtain⟨a',o',q1,q2,_⟩:=H'.live 0 _ rfl (by intro z;cases z)
     rw[hP]at q1;cases q1
     exact⟨_,q2⟩
    ·exact⟨_,(R'.keep b ob e (λy=>hb5 (List.mem_singleton.mp y))).1 λy=>by cases y⟩
theorem law_holds:PySem.Challenge.rw_qd0076_01.Holds:=
 holds_law law_said λsaid=>holds_openX (q:=hQ) (loose:=hLoose) (Xt:=hXt) (XP:=λ_ _=>True) (Yf:=hYf) (Ya:=hYa) (d:=hD.1) (kwd:=hD.2) (N:=20000) hd_left (λ_ _=>trivial) (λ_ _ _ _ _=>trivial) hD_is hp_law hk_law (λs e=>recFacts_of e) rfl said ok_law bare_law ⟨[.list []],by kernel_rfl,by kernel_rfl⟩ law_walk
end Mine
end
theorem PySem.Challenge.cw_qd0076_01_holds : PySem.Challenge.rw_qd0076_01.Holds := by
  exact Mine.law_holds
