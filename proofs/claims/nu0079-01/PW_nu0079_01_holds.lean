import PyProof.Rows.All
import OpenK.KLine
import KE.KTryDeep
import KE.KWhile
import KE.KPop
import KE.KDictAnyGet
import KE.KSetAt
import PyProof.StrReplace2
import PyProof.Rows.TupAdd
import PyProof.Rows.ListMul
import PyProof.CallStr
import PyProof.ExcInit
import PyProof.ExcBaseAll.Exception
import KE.KLcTest
import KE.KPairComp
import KE.KDictIter
import PyProof.AttrMissHeap
import KE.KEqDict
import KE.KDictOf
import PyProof.Rows.TupTab
import KE.KPar
import Open.Tops
import Open.Line
import Lean
import PySem.Challenge.RW_nu0079_01
open PySem PySem.W PySem.Calls PyProof.Rows
set_option maxRecDepth 100000
set_option linter.unusedVariables false
set_option Elab.async false
set_option genInjectivity false
set_option genSizeOf false
theorem Mine.lbt {i j:Nat} (h:Nat.ble i j=true):i≤j:=Nat.le_of_ble_eq_true h
section
namespace Mine
inductive V where
 | none
 | bool (b:Bool)
 | int (i:Int)
 | str (s:List Nat)
 | tup (vs:List V)
 | ro (vs:List V)
 | ri (C:Addr) (vs:List V)
 | rd (ks:List (List Nat)) (vs:List V)
 | itm (y:V)
 | rng (n:Nat)
 | ref (a:Addr)
 | exc
 | raw (v:Value)
 deriving Inhabited
noncomputable def fldTab:List (Addr×List Str):=[(143,["kind", "choices", "mode", "value"]),(236,["message", "place"]),(346,["text", "at"]),(396,["place", "particles", "sign"]),(452,["name", "public", "system"]),(550,["root", "elements", "attributes", "notations"]),(633,["limits", "size", "open"]),(675,["text", "name", "at"]),(710,["growth", "rows"]),(777,["scanner", "name"]),(875,["table", "dtd", "growth"]),(933,["most_depth", "most_size"]),(968,["name", "value", "system", "notation"]),(1068,["limits", "outer", "general", "parameters"])]
noncomputable def flds (C:Addr):List Str:=(fldTab.lookup C).getD []
abbrev Imm:=Addr→Obj→Prop
noncomputable abbrev Led:=List (Addr×Obj)
noncomputable def immOf (base:Heap) (I:Led):Imm:=fun a o=>(a,o)∈I∨base.get? a=some o
structure Cx where
 prog:Program
 w:World
 K:Frag
 base:Heap
 p:Program
 loose:List Str
 mg:Str→Option Value
 mb:Str→Option Value
 os:OsState
 xc:Addr
def ExcAt (P:Imm) (C:Cx) (e:Addr):Prop:=∃ t dd vs,P e { cls:=.ref C.xc,dict:=dd,data:=.fields #[.ref t,.none,.none,.none,.bool false,.none] }∧P t { cls:=.type "tuple",data:=.seq vs }
def keysAre:List DictEntry→List Str→Prop
 | [],[]=>True
 | e::es,k::ks=>(∃ t,e.key=.str k t)∧handedIn e.val=true∧keysAre es ks
 | _,_=>False
noncomputable def rangeObj (n:Nat) (t u v:Tok):Obj:={ cls:=.type "range",data:=.fields #[.int 0 t,.int n u,.int 1 v] }
mutual
def VR (C:Cx) (P:Imm):Value→V→Prop
 | v,.none=>v=.none
 | v,.bool b=>v=.bool b
 | v,.int i=>∃ t,v=.int i t
 | v,.str s=>∃ t,v=.str ⟨s.toArray⟩ t
 | v,.tup vs=>∃ a o items n,v=.ref a∧P a o∧o.cls=.type "tuple"∧o.data=.seq (List.toArray items) n∧VRs C P items vs
 | v,.ro vs=>∃ a o items n,v=.ref a∧P a o∧o.cls=.type "list"∧o.data=.seq (List.toArray items) n∧VRs C P items vs
 | v,.ri D vs=>∃ a dx es n,v=.ref a∧P a (instObj D dx)∧P dx (dictOf es n)∧keysAre es (flds D)∧(flds D).Nodup∧VRs C P (es.map (·.val)) vs
 | v,.rd ks vs=>∃ a o kvs des ep,v=.ref a∧P a o∧o.IsDictOf (PySem.strKind C.prog C.w) kvs∧kvs.map (·.1)=ks.map (fun k=>⟨k.toArray⟩)∧VRs C P (kvs.map (·.2)) vs∧(a==sysModules)=false∧o.data=.dict des ep
 | v,.itm y=>∃ a u,v=.ref a∧P a { cls:=.type "dict_items",data:=.fields #[u] }∧VR C P u y
 | v,.rng k=>∃ a t u w,v=.ref a∧P a (rangeObj k t u w)
 | v,.ref a=>v=.ref a
 | v,.exc=>∃ e,v=.ref e∧ExcAt P C e
 | v,.raw x=>v=x
def VRs (C:Cx) (P:Imm):List Value→List V→Prop
 | [],[]=>True
 | v::vs,x::xs=>VR C P v x∧VRs C P vs xs
 | _,_=>False
end
theorem ExcAt.mono {C:Cx} {P P':Imm} (h:∀ a o,P a o→P' a o) {e:Addr} (x:ExcAt P C e):ExcAt P' C e:=
 let ⟨t,dd,vs,a,b⟩:=x;⟨t,dd,vs,h _ _ a,h _ _ b⟩
mutual
theorem VR.mono {C:Cx} {P P':Imm} (h:∀ a o,P a o→P' a o):∀ {v:Value} {x:V},VR C P v x→VR C P' v x
 | _,.none,e=>e
 | _,.bool _,e=>e
 | _,.int _,e=>e
 | _,.str _,e=>e
 | _,.tup _,e=>by
  obtain ⟨a,o,items,n,e1,e2,e3,e4,e5⟩:=e
  exact ⟨a,o,items,n,e1,h _ _ e2,e3,e4,VRs.mono h e5⟩
 | _,.ro _,e=>by
  obtain ⟨a,o,items,n,e1,e2,e3,e4,e5⟩:=e
  exact ⟨a,o,items,n,e1,h _ _ e2,e3,e4,VRs.mono h e5⟩
 | _,.ri _ _,e=>by
  obtain ⟨a,dx,es,n,e1,e2,e3,e4,e5,e6⟩:=e
  exact ⟨a,dx,es,n,e1,h _ _ e2,h _ _ e3,e4,e5,VRs.mono h e6⟩
 | _,.rd _ _,e=>by
  obtain ⟨a,o,kvs,des,ep,e1,e2,e3,e4,e5,e6⟩:=e
  exact ⟨a,o,kvs,des,ep,e1,h _ _ e2,e3,e4,VRs.mono h e5,e6⟩
 | _,.itm _,e=>by
  obtain ⟨a,u,e1,e2,e3⟩:=e
  exact ⟨a,u,e1,h _ _ e2,VR.mono h e3⟩
 | _,.rng _,e=>by
  obtain ⟨a,t,u,w,e1,e2⟩:=e
  exact ⟨a,t,u,w,e1,h _ _ e2⟩
 | _,.ref _,e=>e
 | _,.exc,e=>by
  obtain ⟨x,e1,e2⟩:=e
  exact ⟨x,e1,e2.mono h⟩
 | _,.raw _,e=>e
theorem VRs.mono {C:Cx} {P P':Imm} (h:∀ a o,P a o→P' a o):∀ {v:List Value} {x:List V},VRs C P v x→VRs C P' v x
 | [],[],e=>e
 | _::_,_::_,e=>by
  exact ⟨VR.mono h e.1,VRs.mono h e.2⟩
 | [],_::_,e=>False.elim e
 | _::_,[],e=>False.elim e
end
theorem VRs.len {C:Cx} {P:Imm}:∀ {v:List Value} {x:List V},VRs C P v x→v.length=x.length
 | [],[],_=>rfl
 | _::_,_::_,e=>by
  exact congrArg Nat.succ (VRs.len e.2)
 | [],_::_,e=>False.elim e
 | _::_,[],e=>False.elim e
theorem VRs.append {C:Cx} {P:Imm}:∀ {v:List Value} {x:List V} {v':List Value} {x':List V},VRs C P v x→VRs C P v' x'→VRs C P (v++v') (x++x')
 | [],[],_,_,_,e=>e
 | _::_,_::_,_,_,e,e'=>by
  exact ⟨e.1,VRs.append e.2 e'⟩
 | [],_::_,_,_,e,_=>False.elim e
 | _::_,[],_,_,e,_=>False.elim e
theorem VRs.get {C:Cx} {P:Imm}:∀ {v:List Value} {x:List V} {i:Nat} {y:V},VRs C P v x→x[i]? = some y→∃ u,v[i]? = some u∧VR C P u y
 | [],[],_,_,_,q=>nomatch q
 | u::_,z::_,0,y,e,q=>by
  cases q
  exact ⟨u,rfl,e.1⟩
 | _::_,_::xs,i+1,y,e,q=>by
  have q:xs[i]? = some y:=q
  have w:=VRs.get e.2 q
  exact w
 | [],_::_,_,_,e,_=>False.elim e
 | _::_,[],_,_,e,_=>False.elim e
inductive AObj where
 | inst (C:Addr) (vs:List V)
 | list (vs:List V)
 | dict (es:List (List Nat×V))
 | tdict (es:List ((List Nat×List Nat)×V))
 | cell (o:Option V)
 | exo (d:Option (List V))
 deriving Inhabited
noncomputable abbrev Store:=List (Addr×AObj)
noncomputable abbrev Cx.imm (X:Cx) (I:Led):Imm:=immOf X.base I
noncomputable abbrev Cx.M (X:Cx):Model:=model X.prog X.w
def FRs (C:Cx) (P:Imm):List DictEntry→List (Str×V)→Prop
 | [],[]=>True
 | e::es,f::fs=>(∃ t,e.key=.str f.1 t)∧handedIn e.val=true∧VR C P e.val f.2∧FRs C P es fs
 | _,_=>False
def KVR (C:Cx) (P:Imm):List (Str×Value)→List (List Nat×V)→Prop
 | [],[]=>True
 | e::es,f::fs=>e.1=⟨f.1.toArray⟩∧VR C P e.2 f.2∧KVR C P es fs
 | _,_=>False
theorem KVR.mono {C:Cx} {P P':Imm} (h:∀ a o,P a o→P' a o):∀ {es:List (Str×Value)} {fs:List (List Nat×V)},KVR C P es fs→KVR C P' es fs
 | [],[],e=>e
 | _::_,_::_,e=>⟨e.1,e.2.1.mono h,KVR.mono h e.2.2⟩
 | [],_::_,e=>e.elim
 | _::_,[],e=>e.elim
noncomputable abbrev prK (p:List Nat×List Nat):List Str:=[⟨p.1.toArray⟩,⟨p.2.toArray⟩]
noncomputable abbrev TK (p:Program) (w:World):=tupleKind (PySem.strKind p w)
inductive KeyT (X:Cx) (P:Imm) (x:List Str×Addr×Value):Prop
 | mk (o:Obj) (items:Array Value) (n:Nat):P x.2.1 o→o.cls=.type "tuple"→o.data=.seq items n→PySem.ItemsAre (PySem.strKind X.prog X.w) x.1 items.toList→KeyT X P x
inductive TdO (X:Cx) (P:Imm) (a:Addr) (es:List ((List Nat×List Nat)×V)) (o:Obj):Prop
 | mk (xs:List (List Str×Addr×Value)) (des:Array DictEntry) (ep:Nat):o.ExactDict→o.data=.dict des ep→des.toList=xs.map (entryOfKey (TK X.prog X.w))→xs.map (·.1)=es.map (fun q=>prK q.1)→(∀ x∈xs,KeyT X P x)→VRs X P (xs.map (·.2.2)) (es.map (·.2))→(xs.map (·.1)).Nodup→(a==sysModules)=false→TdO X P a es o
theorem TdO.mono {X:Cx} {P P':Imm} (h:∀ a o,P a o→P' a o) {a:Addr} {es:List ((List Nat×List Nat)×V)} {o:Obj} (z:TdO X P a es o):TdO X P' a es o:=
 let ⟨xs,des,ep,h1,h2,h3,h4,h5,h6,h7,h8⟩:=z
 ⟨xs,des,ep,h1,h2,h3,h4,fun x hx=>let ⟨o,it,n,k1,k2,k3,k4⟩:=h5 x hx;⟨o,it,n,h _ _ k1,k2,k3,k4⟩,h6.mono h,h7,h8⟩
noncomputable abbrev excObj (C:Addr) (d:Option Addr) (t:Addr):Obj:={ cls:=.ref C,dict:=d,data:=.fields #[.ref t,.none,.none,.none,.bool false,.none] }
noncomputable abbrev tupObj (vs:List Value):Obj:={ cls:=.type "tuple",data:=.seq vs.toArray }
def ObjR (X:Cx) (P:Imm) (a:Addr):AObj→Led→Prop
 | .inst D vs,r=>∃ dx es n,r=[(a,instObj D dx),(dx,dictOf es n)]∧FRs X P es ((flds D).zip vs)∧(flds D).Nodup
 | .list vs,r=>∃ items n,r=[(a,listOf (List.toArray items) n)]∧VRs X P items vs
 | .dict es,r=>∃ o kvs,r=[(a,o)]∧o.IsDictOf (PySem.strKind X.prog X.w) kvs∧KVR X P kvs es∧(a==sysModules)=false
 | .tdict es,r=>∃ o,r=[(a,o)]∧TdO X P a es o
 | .exo none,r=>∃ t vs,r=[(a,excObj X.xc none t),(t,tupObj vs)]
 | .exo (some ys),r=>∃ t vs dx es n,r=[(a,excObj X.xc (some dx) t),(t,tupObj vs),(dx,dictOf es n)]∧FRs X P es ((flds X.xc).zip ys)
 | .cell o,r=>∃ ob u,r=[(a,ob)]∧ob.data=.cell u∧match o with | none=>True | some y=>∃ v,u=some v∧VR X P v y
theorem FRs.mono {C:Cx} {P P':Imm} (h:∀ a o,P a o→P' a o):∀ {es:List DictEntry} {fs:List (Str×V)},FRs C P es fs→FRs C P' es fs
 | [],[],e=>e
 | _::_,_::_,e=>⟨e.1,e.2.1,e.2.2.1.mono h,FRs.mono h e.2.2.2⟩
 | [],_::_,e=>e.elim
 | _::_,[],e=>e.elim
theorem ObjR.mono {X:Cx} {P P':Imm} (h:∀ a o,P a o→P' a o) {a:Addr} {o:AObj} {r:Led} (x:ObjR X P a o r):ObjR X P' a o r:=by
 cases o with
 | inst D fs=>obtain ⟨dx,es,n,e,f,d⟩:=x;exact ⟨dx,es,n,e,f.mono h,d⟩
 | list vs=>obtain ⟨it,n,e,f⟩:=x;exact ⟨it,n,e,f.mono h⟩
 | dict es=>obtain ⟨o,kvs,e,f,d,q⟩:=x;exact ⟨o,kvs,e,f,d.mono h,q⟩
 | tdict es=>obtain ⟨o,e,d⟩:=x;exact ⟨o,e,d.mono h⟩
 | exo d=>
  cases d with
  | none=>exact x
  | some fs=>obtain ⟨t,vs,dx,es,n,e,f⟩:=x;exact ⟨t,vs,dx,es,n,e,f.mono h⟩
 | cell o=>
  obtain ⟨ob,u,e,f,d⟩:=x
  refine ⟨ob,u,e,f,?_⟩
  cases o with
  | none=>trivial
  | some y=>obtain ⟨v,d1,d2⟩:=d;exact ⟨v,d1,d2.mono h⟩
inductive StoreR (X:Cx) (P:Imm):Store→Led→Prop
 | nil:StoreR X P [] []
 | cons {a o r σ rs}:ObjR X P a o r→StoreR X P σ rs→StoreR X P ((a,o)::σ) (r++rs)
theorem StoreR.mono {X:Cx} {P P':Imm} (h:∀ a o,P a o→P' a o) {σ:Store} {r:Led} (x:StoreR X P σ r):StoreR X P' σ r:=by
 induction x with
 | nil=>exact .nil
 | cons a _ ih=>exact .cons (a.mono h) ih
theorem StoreR.mem {X:Cx} {P:Imm} {σ:Store} {rs:Led} (x:StoreR X P σ rs) {a:Addr} {o:AObj} (hm:(a,o)∈σ):∃ pre r post,rs=pre++r++post∧ObjR X P a o r:=by
 induction x with
 | nil=>cases hm
 | @cons b ob r σ rs y _ ih=>
  rcases List.mem_cons.mp hm with q | q
  ·cases q;exact ⟨[],r,rs,rfl,y⟩
  ·obtain ⟨pre,r',post,e,z⟩:=ih q
   exact ⟨r++pre,r',post,by rw [e];simp,z⟩
inductive UpdS (a:Addr) (o o':AObj):Store→Store→Prop
 | head {σ}:UpdS a o o' ((a,o)::σ) ((a,o')::σ)
 | tail {p σ σ'}:UpdS a o o' σ σ'→UpdS a o o' (p::σ) (p::σ')
theorem UpdS.mem {a:Addr} {o o':AObj} {σ σ':Store} (u:UpdS a o o' σ σ'):(a,o)∈σ:=by
 induction u with
 | head=>exact .head _
 | tail _ ih=>exact .tail _ ih
theorem UpdS.split {X:Cx} {P:Imm} {a:Addr} {o o':AObj} {σ σ':Store} (u:UpdS a o o' σ σ'):∀ {rs:Led},StoreR X P σ rs →
  ∃ pre r post,rs=pre++r++post∧ObjR X P a o r∧∀ r',ObjR X P a o' r'→StoreR X P σ' (pre++r'++post):=by
 induction u with
 | head=>intro rs x;cases x with
  | cons y z=>exact ⟨[],_,_,rfl,y,fun r' y'=>.cons y' z⟩
 | tail _ ih=>intro rs x;cases x with
  | cons y z=>
   obtain ⟨pre,r,post,e,w1,k⟩:=ih z
   rename_i r0 _
   exact ⟨r0++pre,r,post,by rw [e];simp,w1,fun r' y'=>by have:=StoreR.cons y (k r' y');simpa using this⟩
inductive SatE (X:Cx) (g:Heap) (L:Addr) (h:Heap) (I H:Led) (σ:Store):Prop
 | mk (rs:Led):StoreR X (X.imm I) σ rs→News g L h (I++(H++rs))→((I++(H++rs)).map (·.1)).Nodup→SatE X g L h I H σ
structure Sat (X:Cx) (g:Heap) (L:Addr) (h:Heap) (I H:Led) (σ:Store):Prop where
 ex:SatE X g L h I H σ
structure Sta (X:Cx) (n:Nat) (env:Env) (outer:List Env) (A:Around) (g:Heap) (L:Addr):Prop where
 fr:A.frames=some (env::outer)
 ef:env.frame=some L
 ek:env.scope.kind=.function
 hd:A.handled=none
 rd:A.depth+3 * n<990
 ru:A.units+20 * n<9800
 B:∃ A₁,Below A₁ X.base outer g
 K:X.K.In g
 KB:X.K.In X.base
 T:TopRead X.p X.loose X.mg X.mb g
structure Dyn (X:Cx) (g:Heap) (L:Addr) (m:Str→Option Value) (I H:Led) (σ:Store) (s:Shared):Prop where
 F:Fr g L s.heap m
 S:Sat X g L s.heap I H σ
 gens:s.gens = #[]
 os:s.os=X.os
theorem Sta.depth {X:Cx} {n:Nat} {env:Env} {outer:List Env} {A:Around} {g:Heap} {L:Addr} (x:Sta X n env outer A g L):A.depth<recursionLimit:=by
 have:=x.rd;unfold recursionLimit;omega
theorem Sta.units {X:Cx} {n:Nat} {env:Env} {outer:List Env} {A:Around} {g:Heap} {L:Addr} (x:Sta X n env outer A g L):A.units<cLine:=by
 have:=x.ru;unfold cLine;omega
inductive LV where
 | n
 | c (y:V) (r:LV)
 | o (x:Option V) (r:LV)
noncomputable def LV.at:LV→Nat→Option V
 | .n,_=>none
 | .c y _,0=>some y
 | .o x _,0=>x
 | .c _ r,k+1=>r.at k
 | .o _ r,k+1=>r.at k
structure FE where
 name:Str
 scope:Scope
 f:Addr
 cd:Value
 ls:List Str:=[]
 cl:List (Str×Addr):=[]
 cs:List Str:=[]
noncomputable abbrev FE.env (fe:FE) (L:Addr):Env:=envX fe.name fe.scope L fe.f fe.cd fe.cl
structure IC where
 ls:List Str
 gl:Str→Bool
 fe:Option FE
noncomputable def dbg (x:Str):Bool:=x==("__debug__" : Str)
noncomputable def glS (sc:Scope) (x:Str):Bool:=sc.names.lookup x==some .globalImplicit&&!dbg x
noncomputable def FE.ic (fe:FE):IC:=⟨fe.ls++fe.cs,glS fe.scope,some fe⟩
noncomputable def FE.ok (fe:FE):Bool:=decide fe.ls.Nodup&&fe.ls.all (fun x=>fe.scope.names.lookup x==some .local&&!dbg x)&&fe.scope.kind==.function
def Gl (X:Cx) (x:Str) (v:Value):Prop:=nsIn X.K mainGlobals x=some (some v)∨(nsIn X.K mainGlobals x=some none∧bootBuiltins x=some v∧x≠"__name__")
inductive LocV (m:Str→Option Value) (C:Cx) (P:Imm) (x:Str) (y:V):Prop
 | mk (v:Value):m x=some v→VR C P v y→LocV m C P x y
inductive CelV (C:Cx) (P:Imm) (fe:FE) (x:Str) (y:V):Prop
 | mk (c:Addr) (ob:Obj) (v:Value):fe.scope.names.lookup x=some .cell→dbg x=false→fe.cl.lookup x=some c→P c ob→ob.data=.cell (some v)→VR C P v y→CelV C P fe x y
theorem CelV.mono {C:Cx} {fe:FE} {P P':Imm} (h:∀ a o,P a o→P' a o) {x:Str} {y:V} (z:CelV C P fe x y):CelV C P' fe x y:=
 let ⟨c,ob,v,h1,h2,h3,h4,h5,h6⟩:=z;⟨c,ob,v,h1,h2,h3,h _ _ h4,h5,h6.mono h⟩
structure LocR (X:Cx) (fe:FE) (P:Imm) (m:Str→Option Value) (ρ:LV):Prop where
 ok:fe.ok=true
 val:∀ i x y,fe.ls[i]? = some x→ρ.at i=some y→LocV m X P x y
 cel:∀ j x y,fe.cs[j]? = some x→ρ.at (fe.ls.length+j)=some y→CelV X P fe x y
theorem LocR.mono {X:Cx} {fe:FE} {P P':Imm} (h:∀ a o,P a o→P' a o) {m:Str→Option Value} {ρ:LV} (x:LocR X fe P m ρ):LocR X fe P' m ρ:=
 ⟨x.ok,fun i z y a b=>let ⟨v,c,d⟩:=x.val i z y a b;⟨v,c,d.mono h⟩,fun j z y a b=>(x.cel j z y a b).mono h⟩
theorem imm_mono {base:Heap} {I I':Led} (h:I⊆I'):∀ a o,immOf base I a o→immOf base I' a o:=fun _ _ q=>q.imp (fun z=>h z) id
theorem band {a b:Bool} (h:(a&&b)=true):a=true∧b=true:=by rwa [Bool.and_eq_true] at h
theorem bne' {a:Bool} (h:(!a)=true):a=false:=by rwa [Bool.not_eq_true'] at h
theorem FE.kind {fe:FE} (h:fe.ok=true):fe.scope.kind=.function:=eq_of_beq (band h).2
theorem FE.lcl {fe:FE} (h:fe.ok=true) {i:Nat} {x:Str} (e:fe.ls[i]? = some x):fe.scope.names.lookup x=some .local∧dbg x=false:=
 let k:=band (List.all_eq_true.mp (band (band h).1).2 x (List.mem_of_getElem? e));⟨eq_of_beq k.1,bne' k.2⟩
inductive RsdD (X:Cx) (env:Env) (outer:List Env) (g:Heap) (L:Addr) (e:Value) (s':Shared):Prop
 | mk {ea:Addr} {g₂:Heap} {m:Str→Option Value} {t:Addr} {vs:List Value}:e=.ref ea→s'.gens = #[]→s'.os=X.os→Fr g L g₂ m→RaisedS X.base g₂ (env::outer) ea (.ref X.xc) t vs [] s'.heap→g₂.UpToSlots s'.heap→RsdD X env outer g L e s'
inductive Rsd (X:Cx) (env:Env) (outer:List Env) (g:Heap) (L:Addr) (e:Value) (s':Shared):Prop
 | new {ea:Addr} {m:Str→Option Value} {dd:Option Addr} {t:Addr} {vs:List Value}:e=.ref ea→s'.gens = #[]→s'.os=X.os→Fr g L s'.heap m→s'.heap.get? ea=some { cls:=.ref X.xc,dict:=dd,data:=.fields #[.ref t,.none,.none,.none,.bool false,.none] }→ea≠L→g.get? ea=none →
   s'.heap.get? t=some { cls:=.type "tuple",data:=.seq (List.toArray vs) }→g.get? t=none→Rsd X env outer g L e s'
 | up:RsdD X env outer g L e s'→Rsd X env outer g L e s'
theorem leave_exc {M:Model} {A:Around} {E:Value→Shared→Prop} {s':Shared} {base g:Heap} {outer:List Env} {L a e t C:Addr} {m:Str→Option Value} {name:Str} {scope:Scope} {cd:Value} {Q:Unit→Shared→Prop} {dd:Option Addr} {vs:List Value}
  (K:Below A base outer g) (F:Fr g L s'.heap m) (he:s'.heap.get? e=some { cls:=.ref C,dict:=dd,data:=.fields #[.ref t,.none,.none,.none,.bool false,.none] }) (heg:g.get? e=none)
  (ht:s'.heap.get? t=some { cls:=.type "tuple",data:=.seq vs.toArray }) (htg:g.get? t=none)
  (hQ:∀ h',RaisedS base g outer e (.ref C) t vs [] h'→g.UpToSlots h'→Q () { s' with heap:=h' }) (hk:scope.kind=.function) :
  wpAny M (A.deeper (envOf name scope L a cd)) (PySem.leaving (envOf name scope L a cd) (.ref e)) Q E s':=by
 have K':=K.push (name:=name) (a:=a) (cd:=cd) F hk
 have hin:∀ env∈(envOf name scope L a cd::outer),∀ b,env.frame=some b→b∈e::t::(envOf name scope L a cd::outer).filterMap (·.frame):=fun env he b hb=>.tail _ (.tail _ (List.mem_filterMap.mpr ⟨env,he,hb⟩))
 have be:=fresh_of_stays K.stays heg
 have bt:=fresh_of_stays K.stays htg
 have st:base.StaysIn (hideAll s'.heap (e::t::(envOf name scope L a cd::outer).filterMap (·.frame))):=fun b o q=>hideAll_get _ (K'.stays b o q) fun hm=>by
  rcases List.mem_cons.mp hm with z | hm
  ·rw [z,be] at q;cases q
  ·rcases List.mem_cons.mp hm with z | hm
   ·rw [z,bt] at q;cases q
   ·rw [(K'.frames.mem hm).1] at q;cases q
 have sg:∀ b o,g.get? b=some o→b∉outer.filterMap (·.frame)→(hideAll s'.heap (e::t::(envOf name scope L a cd::outer).filterMap (·.frame))).get? b=some o:=fun b o q nm=>hideAll_get _ (F.keep b o q) fun hm=>by
  rcases List.mem_cons.mp hm with z | hm
  ·rw [z,heg] at q;cases q
  ·rcases List.mem_cons.mp hm with z | hm
   ·rw [z,htg] at q;cases q
   ·rcases kts_mem hm with z | z
    ·rw [z,kts_self F] at q;cases q
    ·exact nm z
 have hB:∀ b,b∈[e,t]→(hideAll s'.heap (e::t::(envOf name scope L a cd::outer).filterMap (·.frame))).get? b=none:=fun b hb=>hideAll_none _ (by
  rcases List.mem_cons.mp hb with z | hb
  ·rw [z];exact .head _
  ·rw [List.mem_singleton.mp hb];exact .tail _ (.head _))
 refine wpAny_leaving_firstW (a0:=.ref t) K'.stack (funFrames_hide K'.frames hin) rfl he (fun b o q=>of_hideAll _ q) (hB e (.head _)) rfl rfl rfl fun h' hL=>?_
 obtain ⟨k1,⟨_,_,k2⟩,k3,k4⟩:=hL
 exact hQ h' ⟨⟨_,st,sg,(fun q hq=>nomatch hq),⟨k1,hB e (.head _),k2,k3⟩,hB t (.tail _ (.head _))⟩,Heap.TupAt.of_slots ⟨_,_,ht,rfl,rfl⟩ k4⟩ ((Heap.UpToSlots.of_keeps F.keep).trans k4)
inductive TrR {α β:Type} (rel:Imm→α→β→Prop) (X:Cx) (g:Heap) (L:Addr) (m:Str→Option Value) (I H:Led) (Q:β→Store→Prop) (a:α) (s':Shared):Prop
 | mk (I':Led) (σ':Store) (y:β):I⊆I'→Dyn X g L m I' H σ' s'→rel (X.imm I') a y→Q y σ'→TrR rel X g L m I H Q a s'
structure QK where
 nx:LV→Store→Prop
 rt:V→Store→Prop
 br:LV→Store→Prop
 ct:LV→Store→Prop
inductive FlQ (C:Cx) (P:Imm) (Q:QK) (ρ:LV) (σ:Store):Flow→Prop
 | nx:Q.nx ρ σ→FlQ C P Q ρ σ .next
 | rt {v y}:VR C P v y→Q.rt y σ→FlQ C P Q ρ σ (.ret v)
 | br:Q.br ρ σ→FlQ C P Q ρ σ .brk
 | ct:Q.ct ρ σ→FlQ C P Q ρ σ .cont
inductive StR (X:Cx) (fe:FE) (g:Heap) (L:Addr) (I H:Led) (Q:QK) (fl:Flow) (s':Shared):Prop
 | mk (I':Led) (σ':Store) (m':Str→Option Value) (ρ':LV):I⊆I'→Dyn X g L m' I' H σ' s'→LocR X fe (X.imm I') m' ρ'→FlQ X (X.imm I') Q ρ' σ' fl→StR X fe g L I H Q fl s'
theorem TrR.up {α β:Type} {rel:Imm→α→β→Prop} {X:Cx} {g:Heap} {L:Addr} {m:Str→Option Value} {I I₁ H:Led} {Q:β→Store→Prop} {a:α} {s':Shared} (z:TrR rel X g L m I₁ H Q a s') (h:I⊆I₁):TrR rel X g L m I H Q a s':=
 let ⟨I',σ',y,a,b,c,d⟩:=z;⟨I',σ',y,fun _ z=>a (h z),b,c,d⟩
theorem StR.up {X:Cx} {fe:FE} {g:Heap} {L:Addr} {I I₁ H:Led} {Q:QK} {fl:Flow} {s':Shared} (z:StR X fe g L I₁ H Q fl s') (h:I⊆I₁):StR X fe g L I H Q fl s':=
 let ⟨I',σ',m',ρ',a,b,c,d⟩:=z;⟨I',σ',m',ρ',fun _ z=>a (h z),b,c,d⟩
theorem TrM {α β:Type} {rel:Imm→α→β→Prop} {X:Cx} {A:Around} {t:Sem α} {E:Value→Shared→Prop} {g:Heap} {L:Addr} {m:Str→Option Value} {I H:Led} {Q:β→Store→Prop} {P:α→Shared→Prop} {s:Shared} (h:wpAny X.M A t (TrR rel X g L m I H Q) E s)
  (k:∀ v s₁ I₁ σ₁ y,I⊆I₁→Dyn X g L m I₁ H σ₁ s₁→rel (X.imm I₁) v y→Q y σ₁→P v s₁):wpAny X.M A t P E s:=
 wpAny_mono h (fun v s₁ z=>by cases z;exact k _ _ _ _ _ ‹_› ‹_› ‹_› ‹_›) fun _ _ z=>z
inductive FnV (X:Cx) (P:Imm) (fe:FE) (ρ:LV) (env:Env):Prop
 | mk (L':Addr):env=fe.env L'→(∀ j x y,fe.cs[j]? = some x→ρ.at (fe.ls.length+j)=some y→CelV X P fe x y)→FnV X P fe ρ env
structure Nms (X:Cx) (g:Heap) (L:Addr) (m:Str→Option Value) (H:Led) (P:Imm) (ic:IC) (ρ:LV) (env:Env):Prop where
 val:∀ i x y,ic.ls[i]? = some x→ρ.at i=some y→∃ v,VR X P v y∧∀ A pos I σ s Q E,(∀ a o,P a o→X.imm I a o)→Dyn X g L m I H σ s→Q v s→wpAny X.M A (eval (.Name x pos) env) Q E s
 glo:∀ x v,ic.gl x=true→Gl X x v→∀ A pos I σ s Q E,Dyn X g L m I H σ s→Q v s→wpAny X.M A (eval (.Name x pos) env) Q E s
 fn:∀ fe,ic.fe=some fe→FnV X P fe ρ env
theorem Nms.mono {X:Cx} {g:Heap} {L:Addr} {m:Str→Option Value} {H:Led} {P P':Imm} {ic:IC} {ρ:LV} {env:Env} (x:Nms X g L m H P ic ρ env) (h:∀ a o,P a o→P' a o):Nms X g L m H P' ic ρ env:=
 ⟨fun i z y a b=>let ⟨v,c,d⟩:=x.val i z y a b;⟨v,c.mono h,fun A pos I σ s Q E hp=>d A pos I σ s Q E fun a o q=>hp a o (h a o q)⟩,x.glo,fun fe e=>let ⟨L',e1,k⟩:=x.fn fe e;⟨L',e1,fun j z y a b=>(k j z y a b).mono h⟩⟩
def Tr {α β:Type} (rel:Imm→α→β→Prop) (X:Cx) (ic:IC) (n:Nat) (t:Env→Sem α) (ρ:LV) (σ:Store) (Q:β→Store→Prop) (R:Prop):Prop:=
 ∀ (env' env:Env) (outer:List Env) (A:Around) (g:Heap) (L:Addr) (m:Str→Option Value) (I H:Led) (s:Shared) (E:Value→Shared→Prop),
  Sta X n env' outer A g L→Dyn X g L m I H σ s→Nms X g L m H (X.imm I) ic ρ env→(R→∀ e s',Rsd X env' outer g L e s'→E e s') →
  wpAny X.M A (t env) (TrR rel X g L m I H Q) E s
abbrev Ev (X:Cx) (ic:IC) (n:Nat) (e:Expr) (ρ:LV) (σ:Store) (Q:V→Store→Prop) (R:Prop):Prop:=Tr (VR X) X ic n (eval e) ρ σ Q R
abbrev Te (X:Cx) (ic:IC) (n:Nat) (e:Expr) (ρ:LV) (σ:Store) (Q:Bool→Store→Prop) (R:Prop):Prop:=
 Tr (fun _ (a b:Bool)=>a=b) X ic n (fun env=>isTrue e env (eval e env)) ρ σ Q R
abbrev Es (X:Cx) (ic:IC) (n:Nat) (pos:Pos) (es:List Expr) (ρ:LV) (σ:Store) (Q:List V→Store→Prop) (R:Prop):Prop:=
 Tr (VRs X) X ic n (fun env=>spliced (backTo pos (starEach es env))) ρ σ Q R
def Op (X:Cx) (n:Nat) (vs:List V) (t:List Value→Sem Value) (σ:Store) (Q:V→Store→Prop) (R:Prop):Prop:=
 ∀ (env:Env) (outer:List Env) (A:Around) (g:Heap) (L:Addr) (m:Str→Option Value) (I H:Led) (s:Shared) (ws:List Value) (E:Value→Shared→Prop),
  Sta X n env outer A g L→Dyn X g L m I H σ s→VRs X (X.imm I) ws vs→(R→∀ e s',Rsd X env outer g L e s'→E e s') →
  wpAny X.M A (t ws) (TrR (VR X) X g L m I H Q) E s
def CallOK (X:Cx) (n:Nat) (f:Value) (vs:List V) (σ:Store) (Q:V→Store→Prop) (R:Prop):Prop:=
 ∀ (env:Env) (outer:List Env) (A:Around) (g:Heap) (L:Addr) (m:Str→Option Value) (I H:Led) (s:Shared) (ws:List Value),
  Sta X n env outer A g L→Dyn X g L m I H σ s→VRs X (X.imm I) ws vs →
  codeAny X.M A (.call f ⟨ws,[]⟩) (fun r s'=>match r with
   | .ok (.ret v)=>TrR (VR X) X g L m I H Q v s'
   | .ok _=>False
   | .error e=>R∧RsdD X env outer g L e s') s
def Sm (X:Cx) (fe:FE) (n:Nat) (t:Env→Sem Flow) (ρ:LV) (σ:Store) (Q:QK) (R:Prop):Prop:=
 ∀ (outer:List Env) (A:Around) (g:Heap) (L:Addr) (m:Str→Option Value) (I H:Led) (s:Shared) (E:Value→Shared→Prop),
  Sta X n (fe.env L) outer A g L→Dyn X g L m I H σ s→LocR X fe (X.imm I) m ρ→PassesOwn X.M A (fe.env L) E→(R→∀ e s',Rsd X (fe.env L) outer g L e s'→E e s') →
  wpAny X.M A (t (fe.env L)) (StR X fe g L I H Q) E s
abbrev Ex (X:Cx) (fe:FE) (n:Nat) (ss:List Stmt) (ρ:LV) (σ:Store) (Q:QK) (R:Prop):Prop:=Sm X fe n (execs ss) ρ σ Q R
abbrev Ex1 (X:Cx) (fe:FE) (n:Nat) (s:Stmt) (ρ:LV) (σ:Store) (Q:QK) (R:Prop):Prop:=Sm X fe n (exec s) ρ σ Q R
section
variable {X:Cx} {fe:FE} {ic:IC} {n:Nat} {ρ:LV} {σ:Store} {R:Prop}
theorem Dyn.toks {g:Heap} {L:Addr} {m:Str→Option Value} {I H:Led} {s:Shared} (d:Dyn X g L m I H σ s) (t:Nat):Dyn X g L m I H σ { s with toks:=t }:=⟨d.F,d.S,d.gens,d.os⟩
theorem Tr.mono {α β:Type} {rel:Imm→α→β→Prop} {t:Env→Sem α} {Q Q':β→Store→Prop} {R':Prop} (x:Tr rel X ic n t ρ σ Q R) (h:∀ y σ',Q y σ'→Q' y σ') (hr:R→R'):Tr rel X ic n t ρ σ Q' R':=
 fun env' env outer A g L m I H s E a b c d=>TrM (x env' env outer A g L m I H s E a b c fun r=>d (hr r)) fun _ _ I' σ' y a b c q=>⟨I',σ',y,a,b,c,h _ _ q⟩
theorem VR.i_str {C:Cx} {P:Imm} {x:Str} {t:Tok}:VR C P (.str x t) (.str x.cps.toList):=by exact ⟨t,by simp⟩
theorem VR.i_strL {C:Cx} {P:Imm} {l:List Nat} {t:Tok}:VR C P (.str ⟨l.toArray⟩ t) (.str l):=by exact ⟨t,rfl⟩
theorem VR.i_int {C:Cx} {P:Imm} {x:Int} {t:Tok}:VR C P (.int x t) (.int x):=by exact ⟨t,rfl⟩
theorem VR.i_bool {C:Cx} {P:Imm} {x:Bool}:VR C P (.bool x) (.bool x):=rfl
theorem VR.i_none {C:Cx} {P:Imm}:VR C P .none .none:=rfl
theorem VR.i_ref {C:Cx} {P:Imm} {a:Addr}:VR C P (.ref a) (.ref a):=rfl
theorem VR.i_raw {C:Cx} {P:Imm} {v:Value}:VR C P v (.raw v):=rfl
theorem VR.e_str {C:Cx} {P:Imm} {v:Value} {l:List Nat} (h:VR C P v (.str l)):∃ t,v=.str ⟨l.toArray⟩ t:=h
theorem VR.e_int {C:Cx} {P:Imm} {v:Value} {i:Int} (h:VR C P v (.int i)):∃ t,v=.int i t:=h
theorem VR.e_bool {C:Cx} {P:Imm} {v:Value} {i:Bool} (h:VR C P v (.bool i)):v=.bool i:=h
theorem VR.e_none {C:Cx} {P:Imm} {v:Value} (h:VR C P v .none):v=.none:=h
theorem VR.e_ref {C:Cx} {P:Imm} {v:Value} {a:Addr} (h:VR C P v (.ref a)):v=.ref a:=h
theorem VR.e_raw {C:Cx} {P:Imm} {v x:Value} (h:VR C P v (.raw x)):v=x:=h
theorem VR.e_tup {C:Cx} {P:Imm} {v:Value} {vs:List V} (h:VR C P v (.tup vs)):∃ a o items n,v=.ref a∧P a o∧o.cls=.type "tuple"∧o.data=.seq (List.toArray items) n∧VRs C P items vs:=h
theorem VR.e_ro {C:Cx} {P:Imm} {v:Value} {vs:List V} (h:VR C P v (.ro vs)):∃ a o items n,v=.ref a∧P a o∧o.cls=.type "list"∧o.data=.seq (List.toArray items) n∧VRs C P items vs:=h
theorem VRs.i_nil {C:Cx} {P:Imm}:VRs C P [] []:=trivial
theorem VRs.i_cons {C:Cx} {P:Imm} {v:Value} {vs:List Value} {y:V} {ys:List V} (a:VR C P v y) (b:VRs C P vs ys):VRs C P (v::vs) (y::ys):=by exact ⟨a,b⟩
theorem VRs.e_nil {C:Cx} {P:Imm} {vs:List Value} (h:VRs C P vs []):vs=[]:=by cases vs with | nil=>rfl | cons _ _=>exact False.elim h
theorem VRs.e_cons {C:Cx} {P:Imm} {vs:List Value} {y:V} {ys:List V} (h:VRs C P vs (y::ys)):∃ v r,vs=v::r∧VR C P v y∧VRs C P r ys:=by
 cases vs with
 | nil=>exact False.elim h
 | cons v r=>exact ⟨v,r,rfl,h⟩
theorem Dyn.imm {g:Heap} {L:Addr} {m:Str→Option Value} {I H:Led} {s:Shared} (d:Dyn X g L m I H σ s) {outer:List Env} {A₁:Around} (B:Below A₁ X.base outer g):∀ a o,X.imm I a o→s.heap.get? a=some o:=fun a o h=>
 h.elim (fun h=>match d.S.ex with | .mk _ _ hN _=>(hN (a,o) (List.mem_append_left _ h)).1) fun h=>d.F.keep _ _ (B.stays _ _ h)
theorem LocR.nms {g:Heap} {L:Addr} {m:Str→Option Value} {I H:Led} {outer:List Env} {A₁:Around} (B:Below A₁ X.base outer g) (c:LocR X fe (X.imm I) m ρ) (K:X.K.In g) (T:TopRead X.p X.loose X.mg X.mb g):Nms X g L m H (X.imm I) fe.ic ρ (fe.env L) where
 val i x y a b:=by
  replace a:(fe.ls++fe.cs)[i]? = some x:=a
  by_cases q:i<fe.ls.length
  ·rw [List.getElem?_append_left q] at a
   obtain ⟨v,hm,hv⟩:=c.val i x y a b
   exact ⟨v,hv,fun A pos I σ s Q E _ D h=>nameX_L D.F hm h (FE.kind c.ok) (FE.lcl c.ok a).1 (FE.lcl c.ok a).2⟩
  ·have q:=Nat.le_of_not_lt q
   rw [List.getElem?_append_right q] at a
   obtain ⟨cc,ob,v,h1,h2,h3,h4,h5,h6⟩:=c.cel _ x y a ((Nat.add_sub_cancel' q).symm▸b)
   exact ⟨v,h6,fun A pos I σ s Q E hp D h=>wpAny_Name (wpAny_loadName_cell (FE.kind c.ok) h1 h3 ⟨ob,D.imm B _ _ (hp _ _ h4),h5⟩ h) h2⟩
 glo x v h hg A pos I σ s Q E D hq:=
  have h:=band h
  hg.elim (fun hg=>nameX_K D.F K T hg hq (FE.kind c.ok) (eq_of_beq h.1) (bne' h.2)) fun hg=>nameX_B D.F K T hg.1 hg.2.1 hg.2.2 hq (FE.kind c.ok) (eq_of_beq h.1) (bne' h.2)
 fn fe' e:=by cases e;exact ⟨L,rfl,c.cel⟩
theorem Tr.loc {α β:Type} {rel:Imm→α→β→Prop} {t:Env→Sem α} {Q:β→Store→Prop} {outer:List Env} {A:Around} {g:Heap} {L:Addr} {m:Str→Option Value} {I H:Led} {s:Shared} {E:Value→Shared→Prop} (x:Tr rel X fe.ic n t ρ σ Q R)
  (a:Sta X n (fe.env L) outer A g L) (b:Dyn X g L m I H σ s) (c:LocR X fe (X.imm I) m ρ) (d:R→∀ e s',Rsd X (fe.env L) outer g L e s'→E e s'):wpAny X.M A (t (fe.env L)) (TrR rel X g L m I H Q) E s:=
 let ⟨_,hB⟩:=a.B;x _ _ outer A g L m I H s E a b (c.nms hB a.K a.T) d
theorem ev_loc {i:Nat} {x:Str} {pos:Pos} {y:V} {Q:V→Store→Prop} (hx:ic.ls[i]? = some x) (hy:ρ.at i=some y) (h:Q y σ):Ev X ic n (.Name x pos) ρ σ Q R:=
 fun env' env outer A g L m I H s E a b c d=>let ⟨v,hv,k⟩:=c.val i x y hx hy;k A pos I σ s _ E (fun _ _ z=>z) b ⟨I,σ,y,fun _ z=>z,b,hv,h⟩
theorem ev_glo {x:Str} {v:Value} {pos:Pos} {y:V} {Q:V→Store→Prop} (hx:ic.gl x=true) (hg:Gl X x v) (hy:VR X (X.imm []) v y) (h:Q y σ):Ev X ic n (.Name x pos) ρ σ Q R:=
 fun env' env outer A g L m I H s E a b c d=>c.glo x v hx hg A pos I σ s _ E b ⟨I,σ,y,fun _ z=>z,b,hy.mono (imm_mono fun _ z=>(List.not_mem_nil z).elim),h⟩
theorem ev_str {x:Str} {k:Nat} {pos:Pos} {Q:V→Store→Prop} (h:Q (.str x.cps.toList) σ):Ev X ic n (.Constant (.str x) k pos) ρ σ Q R:=
 fun env' env outer A g L m I H s E a b c d=>wpAny_Constant_str ⟨I,σ,_,fun _ z=>z,b.toks _,.i_str,h⟩
theorem ev_int {i:Int} {k:Nat} {pos:Pos} {Q:V→Store→Prop} (h:Q (.int i) σ):Ev X ic n (.Constant (.int i) k pos) ρ σ Q R:=
 fun env' env outer A g L m I H s E a b c d=>wpAny_Constant_int ⟨I,σ,_,fun _ z=>z,b.toks _,.i_int,h⟩
theorem ev_bool {i:Bool} {k:Nat} {pos:Pos} {Q:V→Store→Prop} (h:Q (.bool i) σ):Ev X ic n (.Constant (.bool i) k pos) ρ σ Q R:=
 fun env' env outer A g L m I H s E a b c d=>wpAny_Constant_bool ⟨I,σ,.bool i,fun _ z=>z,b,.i_bool,h⟩
theorem ev_none {k:Nat} {pos:Pos} {Q:V→Store→Prop} (h:Q .none σ):Ev X ic n (.Constant .none k pos) ρ σ Q R:=
 fun env' env outer A g L m I H s E a b c d=>wpAny_Constant_none ⟨I,σ,.none,fun _ z=>z,b,.i_none,h⟩
theorem es_nil {pos:Pos} {Q:List V→Store→Prop} (h:Q [] σ):Es X ic n pos [] ρ σ Q R:=
 fun env' env outer A g L m I H s E a b c d=>wpAny_pure ⟨I,σ,[],fun _ z=>z,b,.i_nil,h⟩
def PlA (e:Expr):Prop:=∀ r env,starEach (e::r) env=(false,eval e env)::starEach r env
theorem es_cons {pos:Pos} {e:Expr} {r:List Expr} {Q:List V→Store→Prop} (hp:PlA e) (h:Ev X ic n e ρ σ (fun y σ₁=>Es X ic n pos r ρ σ₁ (fun ys σ₂=>Q (y::ys) σ₂) R) R) :
  Es X ic n pos (e::r) ρ σ Q R:=fun env' env outer A g L m I H s E a b c d=>by
 show wpAny X.M A (spliced (backTo pos (starEach (e::r) env))) _ E s
 rw [hp]
 exact spliced_cons (TrM (h env' env outer A g L m I H s E a b c d) fun v s₁ I₁ σ₁ y hI D hv hq=>
  TrM (hq env' env outer A g L m I₁ H s₁ E a D (c.mono (imm_mono hI)) d) fun vs s₂ I₂ σ₂ ys hI₂ D₂ hvs hq₂=>⟨I₂,σ₂,y::ys,fun _ z=>hI₂ (hI z),D₂,.i_cons (hv.mono (imm_mono hI₂)) hvs,hq₂⟩)
end
def PlB (o:Expr):Prop:=∀ attr env whole,attributeBase o attr env whole=whole
noncomputable def methIn (K:Frag) (C:Addr) (name:Str) (f:Addr):Bool:=plainGet K C name&&findIn K (.ref C) name==some (some (.ref f))&&isFn K (.ref f)&&keepIn K (.ref f)
noncomputable def fieldOK (K:Frag) (C:Addr) (name:Str):Bool:=plainGet K C name&&hasDictIn K C&&findIn K (.ref C) name==some none
noncomputable def fldOK (K:Frag) (C:Addr) (k:Nat) (name:Str):Bool:=fieldOK K C name&&(flds C)[k]? == some name
noncomputable def methOK (K:Frag) (C:Addr) (name:Str) (f:Addr):Bool:=!(flds C).contains name&&methIn K C name f
section
variable {X:Cx} {fe:FE} {ic:IC} {n:Nat} {ρ:LV} {σ:Store} {R:Prop}
inductive HasO (X:Cx) (P:Imm) (g:Heap) (L:Addr) (h:Heap) (a:Addr) (o:AObj):Prop
 | mk (r:Led):ObjR X P a o r→News g L h r→HasO X P g L h a o
theorem Sat.mem {g:Heap} {L:Addr} {h:Heap} {I H:Led} (S:Sat X g L h I H σ) {a:Addr} {o:AObj} (hm:(a,o)∈σ):HasO X (X.imm I) g L h a o:=by
 obtain ⟨rs,hr,hN,_⟩:=S.ex
 obtain ⟨pre,r,post,rfl,hy⟩:=hr.mem hm
 exact ⟨r,hy,fun p hp=>hN p (List.mem_append_right _ (List.mem_append_right _ (List.mem_append_left _ (List.mem_append_right _ hp))))⟩
inductive InsD (X:Cx) (P:Imm) (h:Heap) (C:Addr) (vs:List V) (v:Value):Prop
 | mk (a dx:Addr) (es:List DictEntry) (k:Nat):v=.ref a→InstAt h a (instObj C dx) C (some (dictOf es k))→FRs X P es ((flds C).zip vs)→(flds C).Nodup→InsD X P h C vs v
theorem frs_of {C:Cx} {P:Imm}:∀ {es:List DictEntry} {ks:List Str} {vs:List V},keysAre es ks→VRs C P (es.map (·.val)) vs→FRs C P es (ks.zip vs)
 | [],[],vs,_,h=>by cases vs with | nil=>trivial | cons _ _=>simp only [List.map_nil,VRs] at h
 | e::es,k::ks,vs,h,h'=>by
  cases vs with
  | nil=>simp only [List.map_cons,VRs] at h'
  | cons y ys=>
   simp only [List.map_cons,VRs] at h'
   exact ⟨h.1,h.2.1,h'.1,frs_of h.2.2 h'.2⟩
 | [],_::_,_,h,_=>h.elim
 | _::_,[],_,h,_=>h.elim
inductive IsI (σ:Store) (C:Addr) (vs:List V):V→Prop
 | ref {a}:(a,.inst C vs)∈σ→IsI σ C vs (.ref a)
 | ri:IsI σ C vs (.ri C vs)
inductive InE (σ:Store) (C:Addr) (y:V) (P:List V→Prop):Prop
 | mk {vs:List V}:IsI σ C vs y→P vs→InE σ C y P
theorem Dyn.ins {g:Heap} {L:Addr} {m:Str→Option Value} {I H:Led} {s:Shared} {outer:List Env} {A₁:Around} {y:V} {C:Addr} {vs:List V} {v:Value} (D:Dyn X g L m I H σ s) (hB:Below A₁ X.base outer g) (f:IsI σ C vs y) (hv:VR X (X.imm I) v y) :
  InsD X (X.imm I) s.heap C vs v:=by
 cases f with
 | ref hm=>
  obtain ⟨_,⟨dx,es,k,rfl,hf,hn⟩,hN⟩:=D.S.mem hm
  exact ⟨_,dx,es,k,hv.e_ref,InstAt.of_news hN (.head _) (.tail _ (.head _)),hf,hn⟩
 | ri=>
  obtain ⟨a,dx,es,k,h0,h1,h2,h3,h4,h5⟩:=hv
  exact ⟨a,dx,es,k,h0,⟨D.imm hB _ _ h1,rfl,rfl,D.imm hB _ _ h2⟩,frs_of h3 h5,h4⟩
def nthK:List V→Nat→(V→Prop)→Prop
 | [],_,_=>False
 | z::_,0,K=>K z
 | _::r,k+1,K=>nthK r k K
inductive Got (C:Cx) (P:Imm) (es:List DictEntry) (name:Str) (K:V→Prop):Prop
 | mk (u:Value) (z:V):getL name es=some (some u)→handedIn u=true→VR C P u z→K z→Got C P es name K
theorem zip_keys:∀ {ns:List Str} {vs:List V} {x:Str},x∈(ns.zip vs).map (·.1)→x∈ns
 | n::ns,v::vs,x,h=>(List.mem_cons.mp h).elim (fun e=>by rw [e];exact .head _) fun h=>.tail _ (zip_keys h)
theorem getL_hit {e:DictEntry} {es:List DictEntry} {x:Str} {t:Tok} (hk:e.key=.str x t):getL x (e::es)=some (some e.val):=by
 unfold getL
 rw [List.find?_cons_of_pos (p:=fun e:DictEntry=>e.key.isStr x) (by rw [hk];exact beq_self_eq_true x)]
theorem getL_skip {e:DictEntry} {es:List DictEntry} {x y:Str} {t:Tok} (hk:e.key=.str y t) (h:y≠x):getL x (e::es)=getL x es:=by
 unfold getL
 rw [List.find?_cons_of_neg (p:=fun e:DictEntry=>e.key.isStr x) (by rw [hk];exact fun q=>h (eq_of_beq q)),List.any_cons,show e.refKey=false by unfold DictEntry.refKey;rw [hk],Bool.false_or]
theorem Got.of {C:Cx} {P:Imm} {name:Str} {K:V→Prop}:∀ {ns:List Str} {vs:List V} {k:Nat} {es:List DictEntry},FRs C P es (ns.zip vs)→ns.Nodup→ns[k]? = some name→nthK vs k K→Got C P es name K
 | [],_,_,_,_,_,h,_=>nomatch h
 | _::_,[],_,_,_,_,_,h=>h.elim
 | x::ns,v::vs,k,[],h,_,_,_=>h.elim
 | x::ns,v::vs,0,e::es,⟨⟨t,hk⟩,h2,h3,_⟩,_,h,q=>⟨e.val,v,getL_hit (Option.some.inj h▸hk),h2,h3,q⟩
 | x::ns,v::vs,k+1,e::es,⟨⟨t,hk⟩,h2,h3,h4⟩,hn,h,q=>by
  obtain ⟨u,z,g1,g2,g3,g4⟩:=Got.of h4 (List.nodup_cons.mp hn).2 h q
  exact ⟨u,z,(getL_skip hk fun (e:x=name)=>(List.nodup_cons.mp hn).1 (e▸List.mem_of_getElem? h)).trans g1,g2,g3,g4⟩
theorem FRs.no {C:Cx} {P:Imm} {name:Str}:∀ {fs:List (Str×V)} {es:List DictEntry},FRs C P es fs→name∉fs.map (·.1)→getL name es=some none
 | [],[],_,_=>rfl
 | [],_::_,h,_=>h.elim
 | _::_,[],h,_=>h.elim
 | f::fs,e::es,⟨⟨t,hk⟩,_,_,h4⟩,hn=>(getL_skip hk fun (e:f.1=name)=>hn (by rw [← e];exact .head _)).trans (FRs.no h4 fun h=>hn (.tail _ h))
inductive GotF (X:Cx) (P:Imm) (h:Heap) (C:Addr) (name:Str) (K:V→Prop) (v:Value):Prop
 | mk (a dx:Addr) (es:List DictEntry) (k:Nat) (u:Value) (z:V):v=.ref a→InstAt h a (instObj C dx) C (some (dictOf es k))→getL name es=some (some u)→handedIn u=true→VR X P u z→K z→GotF X P h C name K v
theorem Dyn.fld {g:Heap} {L:Addr} {m:Str→Option Value} {I H:Led} {s:Shared} {outer:List Env} {A₁:Around} {y:V} {C:Addr} {name:Str} {v:Value} {k:Nat} {K:V→Prop} (D:Dyn X g L m I H σ s) (hB:Below A₁ X.base outer g) (f:InE σ C y fun vs=>nthK vs k K)
  (hv:VR X (X.imm I) v y) (e:(flds C)[k]? = some name):GotF X (X.imm I) s.heap C name K v:=by
 obtain ⟨h,q⟩:=f
 obtain ⟨a,dx,es,j,e1,hi,hf,hn⟩:=D.ins hB h hv
 obtain ⟨u,z,g1,g2,g3,g4⟩:=Got.of hf hn e q
 exact ⟨a,dx,es,j,u,z,e1,hi,g1,g2,g3,g4⟩
theorem get_fld {A:Around} {g:Heap} {L:Addr} {m:Str→Option Value} {I:Led} {s:Shared} {E:Value→Shared→Prop} {Q:Value→Shared→Prop} {v:Value} {C:Addr} {name:Str} {K:V→Prop} (F:Fr g L s.heap m) (HK:X.K.In g) (ok:fieldOK X.K C name=true) (G:GotF X (X.imm I) s.heap C name K v)
  (h:∀ u z,VR X (X.imm I) u z→K z→Q u { s with toks:=s.toks+1 }):wpAny X.M A (getAttr v name true) Q E s:=by
 obtain ⟨a,dx,es,j,u,z,rfl,hi,g1,g2,g3,g4⟩:=G
 have ok:=band ok
 exact get_own F HK hi (band ok.1).1 (band ok.1).2 (beq_iff_eq.mp ok.2) rfl g1 g2 (h u z g3 g4)
theorem attr_go {A:Around} {E:Value→Shared→Prop} {s:Shared} {e:Expr} {attr:Str} {pos:Pos} {env:Env} {Q:Value→Shared→Prop} (hp:PlB e) (h:wpAny X.M A (eval e env) (fun v s₁=>wpAny X.M A (getAttr v attr true) Q E s₁) E s):wpAny X.M A (eval (.Attribute e attr pos) env) Q E s:=by
 show wpAny X.M A (do
   let o ← attributeBase e attr env (eval e env)
   standAt pos.atName
   let r ← holding [o] (getAttr o attr true)
   letTemporaryGo e o r
   pure r) _ E s
 rw [hp]
 exact wpAny_bind (wpAny_mono h (fun v s₁ q=>wpAny_bind (wpAny_standAt (wpAny_bind (wpAny_holding (wpAny_mono q (fun _ _ q=>wpAny_bind (wpAny_letTemporaryGo (wpAny_pure q))) fun _ _ z=>z))))) fun _ _ z=>z)
theorem ev_fld {e:Expr} {attr:Str} {pos:Pos} {C:Addr} {k:Nat} {Q:V→Store→Prop} (ok:fldOK X.K C k attr=true) (h:Ev X ic n e ρ σ (fun y σ₁=>InE σ₁ C y fun vs=>nthK vs k fun z=>Q z σ₁) R) (hp:PlB e) :
  Ev X ic n (.Attribute e attr pos) ρ σ Q R:=fun env' env outer A g L m I H s E a b c d=>by
 obtain ⟨A₁,hB⟩:=a.B
 exact attr_go hp (TrM (h env' env outer A g L m I H s E a b c d) fun v s₁ I₁ σ₁ y hI D hv hq=>get_fld D.F a.K (band ok).1 (D.fld hB hq hv (beq_iff_eq.mp (band ok).2)) fun u z hz q=>⟨I₁,σ₁,z,hI,D.toks _,hz,q⟩)
theorem call_of {f:Value} {vs:List V} {Q:V→Store→Prop} (h:CallOK X n f vs σ Q R):Op X n vs (fun ws=>call f ws) σ Q R:=
 fun env outer A g L m I H s ws E a b c d=>wpAny_call (codeAny_mono (h env outer A g L m I H s ws a b c) fun r s' z=>by
  rcases r with e | (v | _ | _ | _)
  ·exact d z.1 _ _ (.up z.2)
  ·exact z.elim
  ·exact z.elim
  ·exact z.elim
  ·exact z)
def PlL (args:List Expr):Prop:=∀ env,starEach args env=args.map fun e=>(false,eval e env)
theorem backTo_plain {pos:Pos} {args:List Expr} {env:Env} (h:PlL args):(backTo pos (starEach args env)).any (·.1)=false:=by
 rw [h];unfold backTo;rw [List.map_map,List.any_map]
 exact List.any_eq_false.mpr fun _ _=>Bool.false_ne_true
theorem methodForm {pos:Pos} {args:List Expr} {env:Env} (h:PlL args) (hl:args.length<30):methodCallForm (args.length+0) (backTo pos (starEach args env)) []=true:=by
 rw [h]
 unfold methodCallForm backTo
 rw [List.map_map]
 simp [List.all_map,Function.comp_def,hl]
theorem evalArgs_es {M:Model} {A:Around} {E:Value→Shared→Prop} {s:Shared} {f:Value} {pos:Pos} {args:List Expr} {env:Env} {Q:Args→Shared→Prop} (hp:PlL args)
  (h:wpAny M A (spliced (backTo pos (starEach args env))) (fun vs s'=>Q ⟨vs,[]⟩ s') E s):wpAny M A (evalArgs f true (backTo pos (starEach args env)) []) Q E s:=by
 rw [hp] at h ⊢
 cases args with
 | nil=>
  unfold evalArgs
  exact wpAny_bind (wpAny_mono h (fun vs s' h'=>wpAny_holding (wpAny_bind (wpAny_pure (wpAny_bind (wpAny_pure (wpAny_pure h')))))) fun _ _ x=>x)
 | cons e r=>exact evalArgs_plain h
theorem callWith_fn {A:Around} {E:Value→Shared→Prop} {s:Shared} {f:Addr} {pos:Pos} {first:List Value} {args:List Expr} {env:Env} {Q:Value→Shared→Prop} (hk:keepIn X.K (.ref f)=true) (hp:PlL args)
  (h:wpAny X.M A (spliced (backTo pos (starEach args env))) (fun vs s₁=>X.K.In s₁.heap∧wpAny X.M A (call (.ref f) (first++vs)) Q E s₁) E s) :
  wpAny X.M A (callWith pos (.ref f) first (backTo pos (starEach args env)) []) Q E s:=
 callWith_of (by rw [backTo_plain hp];rfl) (keeps_K hk) (evalArgs_es hp h)
theorem mth_go {A:Around} {E:Value→Shared→Prop} {s:Shared} {o:Expr} {name:Str} {apos pos:Pos} {env:Env} {args:List Expr} {Q:Value→Shared→Prop} (hb:PlB o) (hp:PlL args) (hl:Nat.ble args.length 29=true) (he:apos.endLine=pos.line)
  (h:wpAny X.M A (eval o env) (fun ov s₁=>wpAny X.M A (calleeOf true o env ov name) (fun p s₂=>wpAny X.M A (callWith pos p.1 p.2 (backTo pos (starEach args env)) []) Q E s₂) E s₁) E s):wpAny X.M A (eval (.Call (.Attribute o name apos) args [] pos) env) Q E s:=by
 show wpAny X.M A (do
  let ov ← attributeBase o name env (eval o env)
  standAt apos.atName
  methodCall o name apos pos env ov (args.length+0) (backTo pos (starEach args env)) (backToKw pos [])) _ E s
 rw [hb]
 refine wpAny_bind (wpAny_mono h (fun ov s₁ q=>wpAny_bind (wpAny_standAt ?_)) fun _ _ z=>z)
 unfold methodCall
 rw [show backToKw pos []=[] from rfl,methodForm hp (Nat.lt_succ_of_le (lbt hl))]
 refine wpAny_bind (wpAny_holding (wpAny_mono q (fun p s₂ q=>wpAny_bind ?_) fun _ _ z=>z))
 unfold methodCallPos
 rw [if_pos (by rw [he,beq_self_eq_true];rfl)]
 exact wpAny_pure q
theorem fn_go {A:Around} {E:Value→Shared→Prop} {s:Shared} {f:Addr} {pos:Pos} {first:List Value} {args:List Expr} {Q:V→Store→Prop} {env' env:Env} {outer:List Env} {g:Heap} {L:Addr} {m:Str→Option Value} {I I₀ H:Led} {ys:List V} (a:Sta X n env' outer A g L) (d:R→∀ e s',Rsd X env' outer g L e s'→E e s')
  (hk:keepIn X.K (.ref f)=true) (hp:PlL args) (hI:I₀⊆I) (hv:VRs X (X.imm I) first ys)
  (h:wpAny X.M A (spliced (backTo pos (starEach args env))) (TrR (VRs X) X g L m I H fun zs σ₂=>CallOK X n (.ref f) (ys++zs) σ₂ Q R) E s) :
  wpAny X.M A (callWith pos (.ref f) first (backTo pos (starEach args env)) []) (TrR (VR X) X g L m I₀ H Q) E s:=
 callWith_fn hk hp (TrM h fun vs s₂ I₂ σ₂ zs hI₂ D₂ hvs hq₂=>⟨a.K.keeps D₂.F.keep,wpAny_mono (call_of hq₂ env' outer A g L m I₂ H s₂ (first++vs) E a D₂ ((hv.mono (imm_mono hI₂)).append hvs) d) (fun v s₃ z=>z.up fun _ z=>hI₂ (hI z)) fun _ _ z=>z⟩)
theorem bi_go {A:Around} {E:Value→Shared→Prop} {s:Shared} {id:String} {pos:Pos} {first:List Value} {args:List Expr} {Q:V→Store→Prop} {env' env:Env} {outer:List Env} {g:Heap} {L:Addr} {m:Str→Option Value} {I I₀ H:Led} {ys:List V} (a:Sta X n env' outer A g L) (d:R→∀ e s',Rsd X env' outer g L e s'→E e s')
  (hp:PlL args) (hI:I₀⊆I) (hv:VRs X (X.imm I) first ys)
  (h:wpAny X.M A (spliced (backTo pos (starEach args env))) (TrR (VRs X) X g L m I H fun zs σ₂=>Op X n (ys++zs) (fun ws=>call (.builtin id) ws) σ₂ Q R) E s) :
  wpAny X.M A (callWith pos (.builtin id) first (backTo pos (starEach args env)) []) (TrR (VR X) X g L m I₀ H Q) E s:=
 Calls.callWith_builtin (backTo_plain hp) (evalArgs_es hp (TrM h fun vs s₂ I₂ σ₂ zs hI₂ D₂ hvs hq₂=>wpAny_mono (hq₂ env' outer A g L m I₂ H s₂ (first++vs) E a D₂ ((hv.mono (imm_mono hI₂)).append hvs) d) (fun v s₃ z=>z.up fun _ z=>hI₂ (hI z)) fun _ _ z=>z))
theorem ev_mth {o:Expr} {name:Str} {apos pos:Pos} {args:List Expr} {C f:Addr} {Q:V→Store→Prop} (ok:methOK X.K C name f=true)
  (h:Ev X ic n o ρ σ (fun y σ₁=>InE σ₁ C y fun _=>Es X ic n pos args ρ σ₁ (fun ys σ₂=>CallOK X n (.ref f) (y::ys) σ₂ Q R) R) R)
  (hb:PlB o) (hp:PlL args) (hl:Nat.ble args.length 29=true) (he:apos.endLine=pos.line) :
  Ev X ic n (.Call (.Attribute o name apos) args [] pos) ρ σ Q R:=fun env' env outer A g L m I H s E a b c d=>by
 obtain ⟨A₁,hB⟩:=a.B
 refine mth_go hb hp hl he (TrM (h env' env outer A g L m I H s E a b c d) fun v s₁ I₁ σ₁ y hI D hv hq=>?_)
 obtain ⟨hi,hq⟩:=hq
 obtain ⟨x,dx,es,k,rfl,hi,hf,hn⟩:=D.ins hB hi hv
 have ok:=band ok
 have o2:=band (band ok.2).1
 have no:name∉flds C:=fun h=>by rw [List.contains_iff_mem.mpr h] at ok;cases ok.1
 exact method_inst (pl:=do return (← importBound o env).getD true) D.F a.K hi (band o2.1).1 (beq_iff_eq.mp (band o2.1).2) o2.2 (hf.no fun h=>no (zip_keys h))
  (fn_go (first:=[.ref x]) (ys:=[y]) a d (band ok.2).2 hp hI (.i_cons hv .i_nil) (hq env' env outer A g L m I₁ H s₁ E a D (c.mono (imm_mono hI)) d))
inductive CvE (K:Frag) (P:Addr→Prop) (y:V):Prop
 | mk {f:Addr}:y=.raw (.ref f)→keepIn K (.ref f)=true→P f→CvE K P y
theorem ev_callv {fe:Expr} {pos:Pos} {args:List Expr} {Q:V→Store→Prop} (hf:∀ env,eval (.Call fe args [] pos) env=(do callWith pos (← eval fe env) [] (backTo pos (starEach args env)) (backToKw pos []))) (hp:PlL args)
  (h:Ev X ic n fe ρ σ (fun y σ₁=>CvE X.K (fun f=>Es X ic n pos args ρ σ₁ (fun ys σ₂=>CallOK X n (.ref f) ys σ₂ Q R) R) y) R):Ev X ic n (.Call fe args [] pos) ρ σ Q R:=fun env' env outer A g L m I H s E a b c d=>by
 rw [hf]
 refine wpAny_bind (TrM (h env' env outer A g L m I H s E a b c d) fun v s₁ I₁ σ₁ y hI D hv hq=>?_)
 obtain ⟨rfl,hk,hq⟩:=hq
 rw [hv.e_raw]
 exact fn_go (first:=[]) a d hk hp hI .i_nil (hq env' env outer A g L m I₁ H s₁ E a D (c.mono (imm_mono hI)) d)
theorem ev_call {x:Str} {np pos:Pos} {args:List Expr} {f:Addr} {Q:V→Store→Prop} (hx:ic.gl x=true) (hg:Gl X x (.ref f)) (hk:keepIn X.K (.ref f)=true) (hp:PlL args)
  (h:Es X ic n pos args ρ σ (fun ys σ₂=>CallOK X n (.ref f) ys σ₂ Q R) R):Ev X ic n (.Call (.Name x np) args [] pos) ρ σ Q R:=
 ev_callv (fun _=>rfl) hp (ev_glo hx hg .i_raw ⟨rfl,hk,h⟩)
end
mutual
noncomputable def gok (K:Frag) (v:Value):V→Bool
 | .raw x=>v==x
 | .str l=>(match v with | .str s _=>s.cps.toList==l | _=>false)
 | .int j=>(match v with | .int i _=>i==j | _=>false)
 | .tup ys=>(match v with | .ref a=>(K.lookup a).any (fun o=>o.cls==.type "tuple"&&(match o.data with | .seq items _=>goks K items.toList ys | _=>false)) | _=>false)
 | _=>false
noncomputable def goks (K:Frag) (vs:List Value):List V→Bool
 | []=>vs.isEmpty
 | y::ys=>(match vs with | v::vs=>gok K v y&&goks K vs ys | []=>false)
end
mutual
theorem gok_sound {K:Frag} {C:Cx} {P:Imm} (hK:∀ a o,K.lookup a=some o→P a o):∀ {y:V} {v:Value},gok K v y=true→VR C P v y
 | .raw x,v,h=>by
  exact eq_of_beq (show (v==x)=true from h)
 | .str l,v,h=>by
  cases v<;>first | exact absurd h Bool.false_ne_true | skip
  rw [← eq_of_beq (show (_==l)=true from h)]
  exact .i_str
 | .int i,v,h=>by
  cases v<;>first | exact absurd h Bool.false_ne_true | skip
  rw [← eq_of_beq (show (_==i)=true from h)]
  exact .i_int
 | .tup ys,v,h=>by
  cases v<;>first | exact absurd h Bool.false_ne_true | skip
  rename_i a
  replace h:(K.lookup a).any (fun o=>o.cls==.type "tuple"&&(match o.data with | .seq items _=>goks K items.toList ys | _=>false))=true:=h
  cases e:K.lookup a with
  | none=>rw [e] at h;exact absurd h Bool.false_ne_true
  | some o=>
   rw [e] at h
   replace h:=band h
   obtain ⟨oc,od,dt,sl⟩:=o
   cases dt<;>first | exact absurd h.2 Bool.false_ne_true | skip
   rename_i items n
   exact ⟨a,_,items.toList,n,rfl,hK _ _ e,eq_of_beq h.1,congrArg (fun z=>Data.seq z n) (Array.toArray_toList ..).symm,goks_sound hK h.2⟩
 | .none,_,h=>absurd h Bool.false_ne_true
 | .bool _,_,h=>absurd h Bool.false_ne_true
 | .ro _,_,h=>absurd h Bool.false_ne_true
 | .ri _ _,_,h=>absurd h Bool.false_ne_true
 | .rd _ _,_,h=>absurd h Bool.false_ne_true
 | .itm _,_,h=>absurd h Bool.false_ne_true
 | .rng _,_,h=>absurd h Bool.false_ne_true
 | .ref _,_,h=>absurd h Bool.false_ne_true
 | .exc,_,h=>absurd h Bool.false_ne_true
theorem goks_sound {K:Frag} {C:Cx} {P:Imm} (hK:∀ a o,K.lookup a=some o→P a o):∀ {y:List V} {v:List Value},goks K v y=true→VRs C P v y
 | [],[],_=>.i_nil
 | y::ys,v::vs,h=>have h:=band h;.i_cons (gok_sound hK h.1) (goks_sound hK h.2)
 | [],_::_,h=>absurd h Bool.false_ne_true
 | _::_,[],h=>absurd h Bool.false_ne_true
end
noncomputable def gval (K:Frag) (x:Str):Option Value:=match nsIn K mainGlobals x with
 | some (some v)=>some v
 | some none=>if x==("__name__" : Str) then none else bootBuiltins x
 | none=>none
theorem gval_sound {X:Cx} {x:Str} {v:Value} (h:gval X.K x=some v):Gl X x v:=by
 unfold gval at h
 split at h
 ·rename_i u e;cases h;exact .inl e
 ·rename_i e
  split at h
  ·cases h
  ·rename_i q;exact .inr ⟨e,h,by simpa using q⟩
 ·cases h
theorem lookup_of_nodup {β:Type}:∀ {cs:List (Str×β)} {n:Str} {c:β},(cs.map (·.1)).Nodup→(n,c)∈cs→cs.lookup n=some c
 | (n',c')::cs,n,c,hnd,hm=>by
  rw [List.map_cons,List.nodup_cons] at hnd
  rw [List.lookup_cons]
  rcases List.mem_cons.mp hm with e | hm
  ·cases e;rw [beq_self_eq_true]
  ·rw [beq_eq_false_iff_ne.mpr fun (e:n=n')=>hnd.1 (e▸List.mem_map_of_mem (f:=(·.1)) hm)]
   exact lookup_of_nodup hnd.2 hm
noncomputable def LV.us:Nat→LV
 | 0=>.n
 | k+1=>.o none (LV.us k)
noncomputable def LV.ofs:List V→Nat→LV
 | [],k=>LV.us k
 | y::ys,k=>.c y (LV.ofs ys k)
theorem LV.us_at:∀ {k i:Nat},(LV.us k).at i=none
 | 0,_=>rfl
 | _+1,0=>rfl
 | k+1,i+1=>LV.us_at (k:=k) (i:=i)
theorem LV.ofs_at:∀ {ys:List V} {k i:Nat} {y:V},(LV.ofs ys k).at i=some y→ys[i]? = some y
 | [],_,_,_,h=>nomatch LV.us_at.symm.trans h
 | _::_,_,0,_,h=>h
 | _::ys,k,i+1,_,h=>LV.ofs_at (ys:=ys) (k:=k) (i:=i) h
theorem LocR.start {X:Cx} {fe:FE} {P:Imm} {names us:List Str} {k:Nat} {ws:List Value} {ys:List V} (ok:fe.ok=true) (e:fe.ls=names++us) (hv:VRs X P ws ys) (hl:names.length=ys.length) :
  LocR X fe P (fun y=>(names.zip ws).reverse.lookup y) (LV.ofs ys k):=
 ⟨ok,fun i x y hx hy=>by
  have hy:=LV.ofs_at hy
  have hi:i<names.length:=hl▸(List.getElem?_eq_some_iff.mp hy).1
  rw [e,List.getElem?_append_left hi] at hx
  obtain ⟨v,hv1,hv2⟩:=hv.get hy
  have hn:names.Nodup:=(List.nodup_append.mp (e▸of_decide_eq_true (band (band ok).1).1)).1
  refine ⟨v,lookup_of_nodup ?_ (List.mem_reverse.mpr (List.mem_of_getElem? (i:=i) (List.getElem?_zip_eq_some.mpr ⟨hx,hv1⟩))),hv2⟩
  rw [List.map_reverse,List.map_fst_zip (by rw [hl,← hv.len];exact Nat.le_refl _)]
  exact (List.reverse_perm _).nodup_iff.mpr hn,
 fun j x y hx hy=>absurd (List.getElem?_eq_some_iff.mp (LV.ofs_at hy)).1 (Nat.not_lt.mpr (by rw [e,List.length_append,hl];exact Nat.le_trans (Nat.le_add_right ..) (Nat.le_add_right ..)))⟩
noncomputable def noCells (scope:Scope):Bool:=scope.names.all (fun x=>x.2 != .cell)&&!scope.isCoroutine&&!scope.isGenerator
noncomputable def retK (Q:V→Store→Prop):QK:=⟨fun _ σ=>Q .none σ,Q,fun _ _=>False,fun _ _=>False⟩
theorem Sta.up {X:Cx} {n:Nat} {env env':Env} {outer:List Env} {A:Around} {g g':Heap} {L L':Addr} (a:Sta X (n+1) env outer A g L) (hk:env'.scope.kind=.function) (he:env'.frame=some L') (B:Below A X.base (env::outer) g') (st:g.StaysIn g'):Sta X n env' (env::outer) (A.deeper env') g' L' where
 fr:=by show A.frames.map _=_;rw [a.fr];rfl
 ef:=he
 ek:=hk
 hd:=a.hd
 rd:=Nat.lt_of_le_of_lt (show A.depth+1+3 * n≤A.depth+3 * (n+1) by omega) a.rd
 ru:=Nat.lt_of_le_of_lt (show A.units+3+20 * n≤A.units+20 * (n+1) by omega) a.ru
 B:=⟨A,B⟩
 K:=a.K.keeps st
 KB:=a.KB
 T:=a.T.keeps st
theorem callF {X:Cx} {n k:Nat} {fe:FE} {body:List Stmt} {nm:Str} {params:Arguments} {dV kV doc pm ct oc:Value} {an od:Option Addr} {osl:Array (Option Value)} {names us:List Str} {ys dy:List V} {dv:List Value} {σ:Store} {Q:V→Store→Prop} {R:Prop}
  (hf:X.K.lookup fe.f=some ⟨oc,od,.func (fnOf nm fe.name params body fe.scope dV kV doc pm an fe.cd ct),osl⟩) (hc:(codeIn X.K fe.cd fe.name&&noCells fe.scope&&fe.ok&&names.all (fun x=>fe.scope.names.lookup x==some .local))=true) (hcl:fe.cl=[])
  (hb:∀ s ws,X.K.In s.heap→ws.length=ys.length→BindsTo s (fnOf nm fe.name params body fe.scope dV kV doc pm an fe.cd ct) ⟨ws,[]⟩ (names.zip (ws++dv))) (hd:VRs X (X.imm []) dv dy) (hl:names.length=(ys++dy).length)
  (hls:fe.ls=names++us) (h:Ex X fe n body (LV.ofs (ys++dy) k) σ (retK Q) R) :
  CallOK X (n+1) (.ref fe.f) ys σ Q R:=fun env outer A g L m I H s ws a b c=>by
 obtain ⟨fnm,fsc,ff,fcd,fls,fcl,fcs⟩:=fe
 dsimp only at hcl
 subst hcl
 obtain ⟨rs,hr,hN,hnd⟩:=b.S.ex
 obtain ⟨A₁,hB⟩:=a.B
 have hc:=band hc
 have h1:=band hc.1
 have h2:=band h1.1
 have h3:=band h2.2
 have h4:=band h3.1
 have hlen:=c.len
 have c:=c.append (hd.mono (imm_mono (I':=I) fun _ z=>(List.not_mem_nil z).elim))
 have hk:fsc.kind=.function:=FE.kind h1.2
 refine callX_plain (cl:=[]) hB b.F hN a.T.nolimit a.fr a.ef a.ek ((a.K.keeps b.F.keep) _ _ hf) rfl (codeRec_of (a.K.keeps b.F.keep) h2.1) a.depth (hb s ws (a.K.keeps b.F.keep) hlen)
  (fun y hy=>eq_of_beq (List.all_eq_true.mp hc.2 _ (List.of_mem_zip (b:=y.2) hy).1)) (fun g' L' h₁ FG F' N' B' st lt=>?_) (fun y hy=>bne_iff_ne.mp (List.all_eq_true.mp h4.1 y hy)) (bne' h4.2) (bne' h3.2) hk
 refine wpAny_mono (h (env::outer) (A.deeper (envX fnm fsc L' ff fcd [])) g' L' _ I H _ _ (a.up hk rfl B' st) ⟨F',⟨rs,hr,N',hnd⟩,b.gens,b.os⟩ (LocR.start h1.2 hls c hl) PassesOwn.leaving ?_) ?_ fun _ _ z=>z
 ·intro hR e s' hx
  cases hx with
  | new he hgen hos F0 hx1 hel heg ht htg=>exact he▸leave_exc B' F0 hx1 heg ht htg (fun h' r1 up=>⟨hR,.mk rfl hgen hos FG r1 up⟩) hk
  | up hx=>
   obtain ⟨he,hgen,hos,F2,hR2,hsm⟩:=hx
   exact he▸leave_onS B' F2 hR2 hsm fun h' r1 r2 up=>⟨hR,.mk rfl hgen hos FG r1 up⟩
 ·intro fl s' z
  obtain ⟨I',σ',m',ρ',hI,D,hL,hq⟩:=z
  obtain ⟨rs',hr',hN',hnd'⟩:=D.S.ex
  refine ⟨L',m',I'++(H++rs'),D.F,hN',fun F'' N''=>?_⟩
  cases hq with
  | nx hq=>exact ⟨I',σ',.none,hI,⟨F'',⟨rs',hr',N'',hnd'⟩,D.gens,D.os⟩,.i_none,hq⟩
  | rt hv hq=>exact ⟨I',σ',_,hI,⟨F'',⟨rs',hr',N'',hnd'⟩,D.gens,D.os⟩,hv,hq⟩
  | br hq=>exact hq.elim
  | ct hq=>exact hq.elim
def LV.set:LV→Nat→V→(LV→Prop)→Prop
 | .n,_,_,_=>False
 | .c _ r,0,y,K=>K (.c y r)
 | .o _ r,0,y,K=>K (.o (some y) r)
 | .c a r,k+1,y,K=>r.set k y fun r=>K (.c a r)
 | .o x r,k+1,y,K=>r.set k y fun r=>K (.o x r)
structure LV.Is (ρ:LV) (i:Nat) (y:V) (ρ':LV):Prop where
 val:∀ j,ρ'.at j=if j=i then some y else ρ.at j
theorem LV.Is.up {r ρ':LV} {k:Nat} {y:V} (h:LV.Is r k y ρ') (f:LV→LV) (o:Option V) (h0:∀ r,(f r).at 0=o) (h1:∀ r j,(f r).at (j+1)=r.at j):LV.Is (f r) (k+1) y (f ρ'):=
 ⟨fun j=>by
  cases j with
  | zero=>rw [h0,h0,if_neg (Nat.succ_ne_zero k).symm]
  | succ j=>
   rw [h1,h1,h.val]
   by_cases q:j=k
   ·rw [if_pos q,if_pos (congrArg Nat.succ q)]
   ·rw [if_neg q,if_neg fun w=>q (Nat.succ.inj w)]⟩
theorem LV.Is.now {a b r:LV} {y:V} (h0:b.at 0=some y) (h1:∀ j,b.at (j+1)=r.at j) (h2:∀ j,a.at (j+1)=r.at j):LV.Is a 0 y b:=
 ⟨fun j=>by
  cases j with
  | zero=>exact h0
  | succ j=>rw [h1,h2,if_neg (Nat.succ_ne_zero j)]⟩
theorem LV.set_is:∀ {ρ:LV} {i:Nat} {y:V} {K:LV→Prop},ρ.set i y K→∃ ρ',LV.Is ρ i y ρ'∧K ρ'
 | .n,_,_,_,h=>h.elim
 | .c a r,0,y,K,h=>⟨_,.now (r:=r) rfl (fun _=>rfl) fun _=>rfl,h⟩
 | .o _ r,0,y,K,h=>⟨_,.now (r:=r) rfl (fun _=>rfl) fun _=>rfl,h⟩
 | .c a r,k+1,y,K,h=>let ⟨ρ',hi,hk⟩:=LV.set_is (ρ:=r) h;⟨_,hi.up (.c a) _ (fun _=>rfl) fun _ _=>rfl,hk⟩
 | .o x r,k+1,y,K,h=>let ⟨ρ',hi,hk⟩:=LV.set_is (ρ:=r) h;⟨_,hi.up (.o x) _ (fun _=>rfl) fun _ _=>rfl,hk⟩
theorem LocR.set {X:Cx} {fe:FE} {P:Imm} {m:Str→Option Value} {ρ ρ':LV} {i:Nat} {x:Str} {y:V} {v:Value} (r:LocR X fe P m ρ) (hx:fe.ls[i]? = some x) (h:LV.Is ρ i y ρ') (hv:VR X P v y) :
  LocR X fe P (fun z=>if z=x then some v else m z) ρ':=
 ⟨r.ok,fun j z w hj hw=>by
  rw [h.val] at hw
  split at hw
  ·rename_i q
   cases hw
   rw [q,hx] at hj
   cases hj
   exact ⟨v,if_pos rfl,hv⟩
  ·rename_i q
   obtain ⟨u,hm,hu⟩:=r.val j z w hj hw
   refine ⟨u,(if_neg fun e=>q ?_).trans hm,hu⟩
   subst e
   exact (List.getElem?_inj (List.getElem?_eq_some_iff.mp hj).1 (of_decide_eq_true (band (band r.ok).1).1)).mp (hj.trans hx.symm),
 fun j z w hj hw=>r.cel j z w hj (by
  have ne:¬ fe.ls.length+j=i:=fun e=>absurd (List.getElem?_eq_some_iff.mp hx).1 (Nat.not_lt.mpr (e▸Nat.le_add_right ..))
  rw [h.val,if_neg ne] at hw
  exact hw)⟩
section
variable {X:Cx} {fe:FE} {ic:IC} {n:Nat} {ρ:LV} {σ:Store} {R:Prop} {Q:QK}
theorem Sat.ledger {g g':Heap} {L L':Addr} {h h':Heap} {I H:Led} (S:Sat X g L h I H σ) (k:∀ l,News g L h l→News g' L' h' l):Sat X g' L' h' I H σ:=
 let ⟨rs,a,b,c⟩:=S.ex;⟨rs,a,k _ b,c⟩
theorem Sm.mono {t:Env→Sem Flow} {Q':QK} {R':Prop} (x:Sm X fe n t ρ σ Q R) (h:∀ ρ' σ' P fl,FlQ X P Q ρ' σ' fl→FlQ X P Q' ρ' σ' fl) (hr:R→R'):Sm X fe n t ρ σ Q' R':=
 fun outer A g L m I H s E a b c p d=>wpAny_mono (x outer A g L m I H s E a b c p fun r=>d (hr r)) (fun _ _ z=>by cases z;exact ⟨_,_,_,_,‹_›,‹_›,‹_›,h _ _ _ _ ‹_›⟩) fun _ _ z=>z
theorem Tr.sm {α β:Type} {rel:Imm→α→β→Prop} {t:Env→Sem α} {K:β→Store→Prop} {outer:List Env} {A:Around} {g:Heap} {L:Addr} {m:Str→Option Value} {I H:Led} {s:Shared} {E:Value→Shared→Prop} {P:α→Shared→Prop} (x:Tr rel X fe.ic n t ρ σ K R)
  (a:Sta X n (fe.env L) outer A g L) (b:Dyn X g L m I H σ s) (c:LocR X fe (X.imm I) m ρ) (d:R→∀ e s',Rsd X (fe.env L) outer g L e s'→E e s')
  (k:∀ v s₁ I₁ σ₁ y,I⊆I₁→Dyn X g L m I₁ H σ₁ s₁→LocR X fe (X.imm I₁) m ρ→rel (X.imm I₁) v y→K y σ₁→P v s₁):wpAny X.M A (t (fe.env L)) P E s:=
 TrM (x.loc a b c d) fun v s₁ I₁ σ₁ y hI D=>k v s₁ I₁ σ₁ y hI D (c.mono (imm_mono hI))
theorem ex_nil (h:Q.nx ρ σ):Ex X fe n [] ρ σ Q R:=
 fun outer A g L m I H s E a b c p d=>wpAny_execs_nil ⟨I,σ,m,ρ,fun _ z=>z,b,c,.nx h⟩
noncomputable def QK.thn (Q:QK) (K:LV→Store→Prop):QK:=⟨K,Q.rt,Q.br,Q.ct⟩
theorem ex_cons {st:Stmt} {ss:List Stmt} (h:Ex1 X fe n st ρ σ (Q.thn fun ρ' σ'=>Ex X fe n ss ρ' σ' Q R) R):Ex X fe n (st::ss) ρ σ Q R:=
 fun outer A g L m I H s E a b c p d=>by
 refine wpAny_execs_cons (wpAny_mono (h outer A g L m I H s E a b c p d) (fun fl s₁ z=>?_) fun _ _ z=>z)
 obtain ⟨I₁,σ₁,m₁,ρ₁,hI,D,hL,hq⟩:=z
 cases hq with
 | nx hq=>exact wpAny_mono (hq outer A g L m₁ I₁ H s₁ E a D hL p d) (fun fl s₂ z=>z.up hI) fun _ _ z=>z
 | rt hv hq=>exact ⟨I₁,σ₁,m₁,ρ₁,hI,D,hL,.rt hv hq⟩
 | br hq=>exact ⟨I₁,σ₁,m₁,ρ₁,hI,D,hL,.br hq⟩
 | ct hq=>exact ⟨I₁,σ₁,m₁,ρ₁,hI,D,hL,.ct hq⟩
theorem ex_pass {pos:Pos} (h:Q.nx ρ σ):Ex1 X fe n (.Pass pos) ρ σ Q R:=
 fun outer A g L m I H s E a b c p d=>wpAny_Pass ⟨I,σ,m,ρ,fun _ z=>z,b,c,.nx h⟩
theorem ex_cont {pos:Pos} (h:Q.ct ρ σ):Ex1 X fe n (.Continue pos) ρ σ Q R:=
 fun outer A g L m I H s E a b c p d=>wpAny_bind (wpAny_standAt (wpAny_pure ⟨I,σ,m,ρ,fun _ z=>z,b,c,.ct h⟩))
theorem ex_ret {e:Expr} {pos:Pos} (h:Ev X fe.ic n e ρ σ Q.rt R):Ex1 X fe n (.Return (some e) pos) ρ σ Q R:=
 fun outer A g L m I H s E a b c p d=>wpAny_Return_some (h.sm a b c d fun v s₁ I₁ σ₁ y hI D c₁ hv hq=>⟨I₁,σ₁,m,ρ,hI,D,c₁,.rt hv hq⟩)
theorem ex_ret0 {pos:Pos} (h:Q.rt .none σ):Ex1 X fe n (.Return none pos) ρ σ Q R:=
 fun outer A g L m I H s E a b c p d=>wpAny_Return_none ⟨I,σ,m,ρ,fun _ z=>z,b,c,.rt (y:=.none) .i_none h⟩
def PlV (e:Expr):Prop:=∀ t l env,swapsWith e t l env=pure false
theorem ex_expr {e:Expr} {pos:Pos} (hp:PlV e) (h:Ev X fe.ic n e ρ σ (fun _ σ'=>Q.nx ρ σ') R):Ex1 X fe n (.Expr e pos) ρ σ Q R:=
 fun outer A g L m I H s E a b c p d=>wpAny_Expr_any (h.sm a b c d fun v s₁ I₁ σ₁ y hI D c₁ hv hq=>⟨I₁,σ₁,m,ρ,hI,D,c₁,.nx hq⟩) (by unfold interactive;rw [a.ek];rfl) (hp _ _ _)
theorem ex_if {t:Expr} {body orelse:List Stmt} {pos:Pos} (h:Te X fe.ic n t ρ σ (fun b σ'=>cond b (Ex X fe n body ρ σ' Q R) (Ex X fe n orelse ρ σ' Q R)) R) :
  Ex1 X fe n (.If t body orelse pos) ρ σ Q R:=
 fun outer A g L m I H s E a b c p d=>wpAny_If (h.sm a b c d fun v s₁ I₁ σ₁ y hI D c₁ hv hq=>by
  have k:∀ ss,Ex X fe n ss ρ σ₁ Q R→wpAny X.M A (execs ss (fe.env L)) (StR X fe g L I H Q) E s₁:=
   fun ss hx=>wpAny_mono (hx outer A g L m I₁ H s₁ E a D c₁ p d) (fun fl s₂ z=>z.up hI) fun _ _ z=>z
  cases hv
  cases v with
  | true=>exact k _ hq
  | false=>exact k _ hq)
theorem Dyn.store {g:Heap} {L:Addr} {m:Str→Option Value} {I H:Led} {s:Shared} (d:Dyn X g L m I H σ s) {x:Str} {v:Value} {A:Around} {E:Value→Shared→Prop} {P:Unit→Shared→Prop} {i:Nat} {y:V} {K:LV→Prop}
  (c:LocR X fe (X.imm I) m ρ) (hx:fe.ls[i]? = some x) (hv:VR X (X.imm I) v y) (hk:ρ.set i y K) (h:∀ m' ρ' s',Dyn X g L m' I H σ s'→LocR X fe (X.imm I) m' ρ'→K ρ'→P () s') :
  wpAny X.M A (storeName (fe.env L) x v) P E s:=by
 obtain ⟨rs,hr,hN,hnd⟩:=d.S.ex
 obtain ⟨ρ',hi,hk⟩:=LV.set_is hk
 exact storeX_L d.F hN (fun h' F' N'=>h _ ρ' _ ⟨F',⟨rs,hr,N',hnd⟩,d.gens,d.os⟩ (c.set hx hi hv) hk) (FE.kind c.ok) (FE.lcl c.ok hx).1
theorem ex_assign {x:Str} {px:Pos} {e:Expr} {pos:Pos} {i:Nat} (hx:fe.ls[i]? = some x) (hp:PlV e) (h:Ev X fe.ic n e ρ σ (fun y σ'=>ρ.set i y fun ρ'=>Q.nx ρ' σ') R) :
  Ex1 X fe n (.Assign [.Name x px] e pos) ρ σ Q R:=
 fun outer A g L m I H s E a b c p d=>wpAny_Assign_Name (h.sm a b c d fun v s₁ I₁ σ₁ y hI D c₁ hv hq=>
  D.store c₁ hx hv hq fun m' ρ' s' D' c' hk=>⟨I₁,σ₁,m',ρ',hI,D',c',.nx hk⟩) (hp _ _ _)
def WhJ (X:Cx) (fe:FE) (n:Nat) (t:Expr) (body:List Stmt) (ρ:LV) (σ:Store) (Q:QK) (R:Prop):Prop:=
 ∀ (outer:List Env) (A:Around) (g:Heap) (L:Addr) (m:Str→Option Value) (I H:Led) (s:Shared) (E:Value→Shared→Prop),
  Sta X n (fe.env L) outer A g L→Dyn X g L m I H σ s→LocR X fe (X.imm I) m ρ→PassesOwn X.M A (fe.env L) E→(R→∀ e s',Rsd X (fe.env L) outer g L e s'→E e s') →
  WhlRest X.prog X.w A E (fe.env L) t body [] (StR X fe g L I H Q) 0 s
theorem WhlRest.mono {prog:Program} {w:World} {A:Around} {E:Value→Shared→Prop} {env:Env} {t:Expr} {body:List Stmt} {Q Q':Flow→Shared→Prop} {s:Shared}
  (x:WhlRest prog w A E env t body [] Q 0 s) (h:∀ f s,Q f s→Q' f s):WhlRest prog w A E env t body [] Q' 0 s:=
 codeAny_mono x fun r s' z=>by cases r with | ok f=>exact h _ _ z | error e=>exact z
noncomputable def QK.lp (Q:QK) (J:LV→Store→Prop):QK:=⟨J,Q.rt,Q.nx,J⟩
theorem wh_step {t:Expr} {body:List Stmt}
  (h:Te X fe.ic n t ρ σ (fun b σ'=>cond b (Ex X fe n body ρ σ' (Q.lp fun ρ₁ σ₁=>WhJ X fe n t body ρ₁ σ₁ Q R) R) (Q.nx ρ σ')) R):WhJ X fe n t body ρ σ Q R:=
 fun outer A g L m I H s E a b c p d=>by
 refine whl_turn (k:=0) p (h.sm a b c d fun v s₁ I₁ σ₁ y hI D c₁ hv hq=>?_)
 cases hv
 cases v with
 | false=>exact WhlIf.no rfl (wpAny_execs_nil ⟨I₁,σ₁,m,ρ,hI,D,c₁,.nx hq⟩)
 | true=>
  refine WhlIf.yes rfl (wpAny_mono (hq outer A g L m I₁ H s₁ E a D c₁ p d) (fun fl s₂ z=>?_) fun _ _ z=>z)
  obtain ⟨I₂,σ₂,m₂,ρ₂,hI₂,D₂,hL₂,hq₂⟩:=z
  have hI':I⊆I₂:=fun _ z=>hI₂ (hI z)
  have go:WhJ X fe n t body ρ₂ σ₂ Q R→WhlRest X.prog X.w A E (fe.env L) t body [] (StR X fe g L I H Q) 0 s₂:=
   fun hw=>WhlRest.mono (hw outer A g L m₂ I₂ H s₂ E a D₂ hL₂ p d) fun f s z=>z.up hI'
  cases hq₂ with
  | nx hq=>exact go hq
  | rt hv hq=>exact ⟨I₂,σ₂,m₂,ρ₂,hI',D₂,hL₂,.rt hv hq⟩
  | br hq=>exact ⟨I₂,σ₂,m₂,ρ₂,hI',D₂,hL₂,.nx hq⟩
  | ct hq=>exact go hq
theorem ex_while {t:Expr} {body:List Stmt} {pos:Pos} (h:WhJ X fe n t body ρ σ Q R):Ex1 X fe n (.While t body [] pos) ρ σ Q R:=
 fun outer A g L m I H s E a b c p d=>whl_start 0 (h outer A g L m I H s E a b c p d)
end
noncomputable def leL (i j:List Nat):Bool:=!decide (j<i)
def VOp (X:Cx) (t:Value→Value→Sem Value) (a b r:V):Prop:=
 ∀ (A:Around) (P:Imm) (va vb:Value) (s:Shared) (Q:Value→Shared→Prop) (E:Value→Shared→Prop),A.handled=none→A.units+20<9900→(∀ a o,P a o→s.heap.get? a=some o) →
  VR X P va a→VR X P vb b→(∀ v tk,VR X P v r→Q v { s with toks:=tk })→wpAny X.M A (t va vb) Q E s
def VOp1 (X:Cx) (t:Value→Sem Value) (a r:V):Prop:=
 ∀ (A:Around) (P:Imm) (va:Value) (s:Shared) (Q:Value→Shared→Prop) (E:Value→Shared→Prop),A.handled=none→A.units+20<9900→(∀ a o,P a o→s.heap.get? a=some o) →
  VR X P va a→(∀ v tk,VR X P v r→Q v { s with toks:=tk })→wpAny X.M A (t va) Q E s
def TOp (X:Cx) (a:V) (b:Bool):Prop:=
 ∀ (A:Around) (P:Imm) (va:Value) (s:Shared) (Q:Bool→Shared→Prop) (E:Value→Shared→Prop),A.handled=none→A.units+20<9900→(∀ a o,P a o→s.heap.get? a=some o) →
  VR X P va a→(∀ tk,Q b { s with toks:=tk })→wpAny X.M A (truthy va) Q E s
section
variable {X:Cx} {fe:FE} {ic:IC} {n:Nat} {ρ:LV} {σ:Store} {R:Prop}
theorem Sta.u20 {env:Env} {outer:List Env} {A:Around} {g:Heap} {L:Addr} (x:Sta X n env outer A g L):A.units+20<9900:=Nat.lt_of_lt_of_le (Nat.add_lt_add_right (Nat.lt_of_le_of_lt (Nat.le_add_right _ _) x.ru) 20) (lbt rfl)
def Op1 (X:Cx) (n:Nat) (t:Value→Sem Value) (y:V) (σ:Store) (Q:V→Store→Prop) (R:Prop):Prop:=
 ∀ (env:Env) (outer:List Env) (A:Around) (g:Heap) (L:Addr) (m:Str→Option Value) (I H:Led) (s:Shared) (v:Value) (E:Value→Shared→Prop),
  Sta X n env outer A g L→Dyn X g L m I H σ s→VR X (X.imm I) v y→(R→∀ e s',Rsd X env outer g L e s'→E e s')→wpAny X.M A (t v) (TrR (VR X) X g L m I H Q) E s
def Op2 (X:Cx) (n:Nat) (t:Value→Value→Sem Value) (y z:V) (σ:Store) (Q:V→Store→Prop) (R:Prop):Prop:=
 ∀ (env:Env) (outer:List Env) (A:Around) (g:Heap) (L:Addr) (m:Str→Option Value) (I H:Led) (s:Shared) (v w:Value) (E:Value→Shared→Prop),
  Sta X n env outer A g L→Dyn X g L m I H σ s→VR X (X.imm I) v y→VR X (X.imm I) w z→(R→∀ e s',Rsd X env outer g L e s'→E e s')→wpAny X.M A (t v w) (TrR (VR X) X g L m I H Q) E s
theorem VRs.one {C:Cx} {P:Imm} {y:V} {F:List Value→Prop} (k:∀ v,VR C P v y→F [v]) {ws:List Value} (h:VRs C P ws [y]):F ws:=by
 obtain ⟨v,r,rfl,hv,hr⟩:=h.e_cons
 rw [hr.e_nil];exact k v hv
theorem VRs.two {C:Cx} {P:Imm} {y z:V} {F:List Value→Prop} (k:∀ v w,VR C P v y→VR C P w z→F [v,w]) {ws:List Value} (h:VRs C P ws [y,z]):F ws:=by
 obtain ⟨v,r,rfl,hv,hr⟩:=h.e_cons
 exact hr.one (F:=fun r=>F (v::r)) fun w=>k v w hv
theorem VRs.three {C:Cx} {P:Imm} {x y z:V} {F:List Value→Prop} (k:∀ u v w,VR C P u x→VR C P v y→VR C P w z→F [u,v,w]) {ws:List Value} (h:VRs C P ws [x,y,z]):F ws:=by
 obtain ⟨v,r,rfl,hv,hr⟩:=h.e_cons
 exact hr.two (F:=fun r=>F (v::r)) fun u w=>k v u w hv
theorem Op1.op {t:List Value→Sem Value} {y:V} {Q:V→Store→Prop} (x:Op1 X n (fun v=>t [v]) y σ Q R):Op X n [y] t σ Q R:=
 fun env outer A g L m I H s ws E a D hw d=>hw.one (F:=fun ws=>wpAny X.M A (t ws) _ E s) fun v hv=>x env outer A g L m I H s v E a D hv d
theorem Op2.op {t:List Value→Sem Value} {y z:V} {Q:V→Store→Prop} (x:Op2 X n (fun v w=>t [v,w]) y z σ Q R):Op X n [y,z] t σ Q R:=
 fun env outer A g L m I H s ws E a D hw d=>hw.two (F:=fun ws=>wpAny X.M A (t ws) _ E s) fun v w hv hw=>x env outer A g L m I H s v w E a D hv hw d
theorem VOp1.op {t:Value→Sem Value} {y r:V} {Q:V→Store→Prop} (x:VOp1 X t y r) (h:Q r σ):Op1 X n t y σ Q R:=fun env outer A g L m I H s v E a D hv d=>by
 obtain ⟨A₁,hB⟩:=a.B
 exact x A (X.imm I) v s _ E a.hd a.u20 (D.imm hB) hv fun u tk hu=>⟨I,σ,_,fun _ z=>z,D.toks tk,hu,h⟩
theorem VOp.op {t:Value→Value→Sem Value} {y z r:V} {Q:V→Store→Prop} (x:VOp X t y z r) (h:Q r σ):Op2 X n t y z σ Q R:=fun env outer A g L m I H s v w E a D hv hw d=>by
 obtain ⟨A₁,hB⟩:=a.B
 exact x A (X.imm I) v w s _ E a.hd a.u20 (D.imm hB) hv hw fun u tk hu=>⟨I,σ,_,fun _ z=>z,D.toks tk,hu,h⟩
theorem two_go {l r:Expr} {t:Value→Value→Sem Value} {Q:V→Store→Prop} {env' env:Env} {outer:List Env} {A:Around} {g:Heap} {L:Addr} {m:Str→Option Value} {I H:Led} {s:Shared} {E:Value→Shared→Prop}
  (h:Ev X ic n l ρ σ (fun y σ₁=>Ev X ic n r ρ σ₁ (fun z σ₂=>Op2 X n t y z σ₂ Q R) R) R) (a:Sta X n env' outer A g L) (b:Dyn X g L m I H σ s) (c:Nms X g L m H (X.imm I) ic ρ env) (d:R→∀ e s',Rsd X env' outer g L e s'→E e s') :
  wpAny X.M A (eval l env) (fun v s₁=>wpAny X.M A (eval r env) (fun w s₂=>wpAny X.M A (t v w) (TrR (VR X) X g L m I H Q) E s₂) E s₁) E s:=
 TrM (h env' env outer A g L m I H s E a b c d) fun v s₁ I₁ σ₁ y hI D hv hq=>
 TrM (hq env' env outer A g L m I₁ H s₁ E a D (c.mono (imm_mono hI)) d) fun w s₂ I₂ σ₂ z hI₂ D₂ hw ho=>
 wpAny_mono (ho env' outer A g L m I₂ H s₂ v w E a D₂ (hv.mono (imm_mono hI₂)) hw d) (fun u s₃ z=>z.up fun _ z=>hI₂ (hI z)) fun _ _ z=>z
theorem ev_bin {l r:Expr} {op:Operator} {pos:Pos} {Q:V→Store→Prop} (h:Ev X ic n l ρ σ (fun y σ₁=>Ev X ic n r ρ σ₁ (fun z σ₂=>Op2 X n (binaryOp op) y z σ₂ Q R) R) R) :
  Ev X ic n (.BinOp l op r pos) ρ σ Q R:=fun env' env outer A g L m I H s E a b c d=>wpAny_BinOp (two_go h a b c d)
def PlC (e:Expr):Prop:=∀ op,behindInMarks op e=false
theorem ev_cmp {l r:Expr} {op:CmpOp} {pos:Pos} {Q:V→Store→Prop} (hp:PlC r) (h:Ev X ic n l ρ σ (fun y σ₁=>Ev X ic n r ρ σ₁ (fun z σ₂=>Op2 X n (compareOp op) y z σ₂ Q R) R) R) :
  Ev X ic n (.Compare l [op] [r] pos) ρ σ Q R:=fun env' env outer A g L m I H s E a b c d=>wpAny_Compare1 (two_go h a b c d) (hp op)
theorem truth_bool {A:Around} {E:Value→Shared→Prop} {s:Shared} {P:Imm} {v:Value} {b:Bool} {Q:Bool→Shared→Prop} (hv:VR X P v (.bool b)) (h:Q b s):wpAny X.M A (truthy v) Q E s:=by
 rw [hv.e_bool]
 exact wpAny_truthy_bool h
inductive IsB (K:Bool→Store→Prop) (σ:Store):V→Prop
 | mk {b:Bool}:K b σ→IsB K σ (.bool b)
theorem te_cmp {l r:Expr} {op:CmpOp} {pos:Pos} {Q:Bool→Store→Prop} (hp:PlC r) (h:Ev X ic n l ρ σ (fun y σ₁=>Ev X ic n r ρ σ₁ (fun z σ₂=>Op2 X n (compareOp op) y z σ₂ (fun u σ₃=>IsB Q σ₃ u) R) R) R) :
  Te X ic n (.Compare l [op] [r] pos) ρ σ Q R:=fun env' env outer A g L m I H s E a b c d=>
 wpAny_isTrue_Compare1 (wpAny_mono (two_go h a b c d) (fun v s₁ z=>wpAny_mono z (fun w s₂ z=>TrM z fun u s₃ I₃ σ₃ y h3 D₃ hu q=>by
  cases q with
  | mk q=>exact truth_bool hu ⟨I₃,σ₃,_,h3,D₃,rfl,q⟩) fun _ _ z=>z) fun _ _ z=>z) (hp op)
def PlT (e:Expr):Prop:=∀ env,isTrue e env (eval e env)=(do let v ← eval e env;standAt e.pos;holding [v] (truthy v))
inductive TrE (X:Cx) (y:V) (K:Bool→Prop):Prop
 | mk {b:Bool}:TOp X y b→K b→TrE X y K
theorem TrE.go {outer:List Env} {env':Env} {A:Around} {g:Heap} {L:Addr} {m:Str→Option Value} {I H:Led} {s:Shared} {E:Value→Shared→Prop} {P:Bool→Shared→Prop} {y:V} {v:Value} {K:Bool→Prop} (h:TrE X y K) (a:Sta X n env' outer A g L) (D:Dyn X g L m I H σ s) (hv:VR X (X.imm I) v y)
  (k:∀ b tk,K b→P b { s with toks:=tk }):wpAny X.M A (truthy v) P E s:=by
 obtain ⟨A₁,hB⟩:=a.B
 obtain ⟨ho,hk⟩:=h
 exact ho A (X.imm I) v s _ E a.hd a.u20 (D.imm hB) hv fun tk=>k _ tk hk
theorem te_val {e:Expr} {Q:Bool→Store→Prop} (hp:PlT e) (h:Ev X ic n e ρ σ (fun y σ₁=>TrE X y fun b=>Q b σ₁) R):Te X ic n e ρ σ Q R:=
 fun env' env outer A g L m I H s E a b c d=>
 isTrue_plain (TrM (h env' env outer A g L m I H s E a b c d) fun v s₁ I₁ σ₁ y hI D hv hq=>hq.go a D hv fun b tk q=>⟨I₁,σ₁,b,hI,D.toks tk,rfl,q⟩) (hp env)
theorem te_not {e:Expr} {pos:Pos} {Q:Bool→Store→Prop} (h:Te X ic n e ρ σ (fun b σ₁=>Q (!b) σ₁) R):Te X ic n (.UnaryOp .Not e pos) ρ σ Q R:=
 fun env' env outer A g L m I H s E a b c d=>isTrue_not (TrM (h env' env outer A g L m I H s E a b c d) fun v s₁ I₁ σ₁ y hI D e q=>⟨I₁,σ₁,_,hI,D,congrArg _ e,q⟩)
theorem te_and_nil {pos:Pos} {Q:Bool→Store→Prop} (h:Q true σ):Te X ic n (.BoolOp .And [] pos) ρ σ Q R:=
 fun env' env outer A g L m I H s E a b c d=>isTrue_and_nil ⟨I,σ,true,fun _ z=>z,b,rfl,h⟩
theorem te_or_nil {pos:Pos} {Q:Bool→Store→Prop} (h:Q false σ):Te X ic n (.BoolOp .Or [] pos) ρ σ Q R:=
 fun env' env outer A g L m I H s E a b c d=>isTrue_or_nil ⟨I,σ,false,fun _ z=>z,b,rfl,h⟩
theorem Tr.step {α β:Type} {rel:Imm→α→β→Prop} {t:Env→Sem α} {Q:β→Store→Prop} {env' env:Env} {outer:List Env} {A:Around} {g:Heap} {L:Addr} {m:Str→Option Value} {I I₁ H:Led} {s:Shared} {E:Value→Shared→Prop}
  (x:Tr rel X ic n t ρ σ Q R) (a:Sta X n env' outer A g L) (D:Dyn X g L m I₁ H σ s) (hI:I⊆I₁) (c:Nms X g L m H (X.imm I) ic ρ env) (d:R→∀ e s',Rsd X env' outer g L e s'→E e s') :
  wpAny X.M A (t env) (TrR rel X g L m I H Q) E s:=
 wpAny_mono (x env' env outer A g L m I₁ H s E a D (c.mono (imm_mono hI)) d) (fun _ _ z=>z.up hI) fun _ _ z=>z
theorem te_and {e:Expr} {es:List Expr} {pos:Pos} {Q:Bool→Store→Prop} (h:Te X ic n e ρ σ (fun b σ₁=>cond b (Te X ic n (.BoolOp .And es pos) ρ σ₁ Q R) (Q false σ₁)) R):Te X ic n (.BoolOp .And (e::es) pos) ρ σ Q R:=
 fun env' env outer A g L m I H s E a b c d=>isTrue_and (TrM (h env' env outer A g L m I H s E a b c d) fun v s₁ I₁ σ₁ y hI D e q=>by
  cases e
  cases v with
  | false=>exact ⟨I₁,σ₁,false,hI,D,rfl,q⟩
  | true=>exact Tr.step q a D hI c d)
theorem te_or {e:Expr} {es:List Expr} {pos:Pos} {Q:Bool→Store→Prop} (h:Te X ic n e ρ σ (fun b σ₁=>cond b (Q true σ₁) (Te X ic n (.BoolOp .Or es pos) ρ σ₁ Q R)) R):Te X ic n (.BoolOp .Or (e::es) pos) ρ σ Q R:=
 fun env' env outer A g L m I H s E a b c d=>isTrue_or (TrM (h env' env outer A g L m I H s E a b c d) fun v s₁ I₁ σ₁ y hI D e q=>by
  cases e
  cases v with
  | false=>exact Tr.step q a D hI c d
  | true=>exact ⟨I₁,σ₁,true,hI,D,rfl,q⟩)
theorem ev_ifexp {t x y:Expr} {pos:Pos} {Q:V→Store→Prop} (h:Te X ic n t ρ σ (fun b σ₁=>cond b (Ev X ic n x ρ σ₁ Q R) (Ev X ic n y ρ σ₁ Q R)) R):Ev X ic n (.IfExp t x y pos) ρ σ Q R:=
 fun env' env outer A g L m I H s E a b c d=>IfExp_ (TrM (h env' env outer A g L m I H s E a b c d) fun v s₁ I₁ σ₁ y hI D e q=>by
  cases e
  cases v with
  | false=>exact Tr.step q a D hI c d
  | true=>exact Tr.step q a D hI c d)
theorem ev_not {e:Expr} {pos:Pos} {Q:V→Store→Prop} (h:Ev X ic n e ρ σ (fun y σ₁=>TrE X y fun b=>Q (.bool (!b)) σ₁) R):Ev X ic n (.UnaryOp .Not e pos) ρ σ Q R:=
 fun env' env outer A g L m I H s E a b c d=>UnaryOp_ (TrM (h env' env outer A g L m I H s E a b c d) fun v s₁ I₁ σ₁ y hI D hv q=>not_of (q.go a D hv fun b tk q=>⟨I₁,σ₁,_,hI,D.toks tk,.i_bool,q⟩))
inductive IsN (K:Int→Prop):V→Prop
 | mk {i:Int}:K i→IsN K (.int i)
theorem ev_neg {e:Expr} {pos:Pos} {Q:V→Store→Prop} (h:Ev X ic n e ρ σ (fun y σ₁=>IsN (fun i=>Q (.int (-i)) σ₁) y) R):Ev X ic n (.UnaryOp .USub e pos) ρ σ Q R:=
 fun env' env outer A g L m I H s E a b c d=>UnaryOp_ (TrM (h env' env outer A g L m I H s E a b c d) fun v s₁ I₁ σ₁ y hI D hv q=>by
  cases q with
  | mk q=>
   obtain ⟨t,rfl⟩:=hv.e_int
   exact P.neg_int ⟨I₁,σ₁,_,hI,D.toks _,.i_int,q⟩)
theorem ev_and {e e':Expr} {es:List Expr} {pos:Pos} {Q:V→Store→Prop} (h:Ev X ic n e ρ σ (fun y σ₁=>TrE X y fun b=>cond b (Ev X ic n (.BoolOp .And (e'::es) pos) ρ σ₁ Q R) (Q y σ₁)) R) :
  Ev X ic n (.BoolOp .And (e::e'::es) pos) ρ σ Q R:=fun env' env outer A g L m I H s E a b c d=>
 BoolOp_and (TrM (h env' env outer A g L m I H s E a b c d) fun v s₁ I₁ σ₁ y hI D hv q=>q.go a D hv fun b tk q=>by
  cases b with
  | false=>exact ⟨I₁,σ₁,y,hI,D.toks tk,hv,q⟩
  | true=>exact Tr.step q a (D.toks tk) hI c d)
theorem ev_or {e e':Expr} {es:List Expr} {pos:Pos} {Q:V→Store→Prop} (h:Ev X ic n e ρ σ (fun y σ₁=>TrE X y fun b=>cond b (Q y σ₁) (Ev X ic n (.BoolOp .Or (e'::es) pos) ρ σ₁ Q R)) R) :
  Ev X ic n (.BoolOp .Or (e::e'::es) pos) ρ σ Q R:=fun env' env outer A g L m I H s E a b c d=>
 BoolOp_or (TrM (h env' env outer A g L m I H s E a b c d) fun v s₁ I₁ σ₁ y hI D hv q=>q.go a D hv fun b tk q=>by
  cases b with
  | false=>exact Tr.step q a (D.toks tk) hI c d
  | true=>exact ⟨I₁,σ₁,y,hI,D.toks tk,hv,q⟩)
theorem ev_bool1 {e:Expr} {op:BoolOp} {pos:Pos} {Q:V→Store→Prop} (h:Ev X ic n e ρ σ Q R):Ev X ic n (.BoolOp op [e] pos) ρ σ Q R:=
 fun env' env outer A g L m I H s E a b c d=>BoolOp_one (h env' env outer A g L m I H s E a b c d)
end
section
variable {X:Cx}
theorem t_bool {b:Bool}:TOp X (.bool b) b:=fun A P va s Q E _ _ _ hv h=>truth_bool hv (h s.toks)
theorem t_none:TOp X .none false:=fun A P va s Q E _ _ _ hv h=>by rw [hv.e_none];exact truthy_none (h s.toks)
theorem v_addi {i j:Int}:VOp X (binaryOp .Add) (.int i) (.int j) (.int (i+j)):=fun A P va vb s Q E _ _ _ ha hb h=>by
 obtain ⟨t,rfl⟩:=ha.e_int;obtain ⟨u,rfl⟩:=hb.e_int
 exact PySem.P.add_int (h _ _ .i_int)
theorem v_iaddi {i j:Int}:VOp X (inplaceOp .Add) (.int i) (.int j) (.int (i+j)):=fun A P va vb s Q E _ _ _ ha hb h=>by
 obtain ⟨t,rfl⟩:=ha.e_int;obtain ⟨u,rfl⟩:=hb.e_int
 exact PySem.P.iadd_int (h _ _ .i_int)
theorem v_subi {i j:Int}:VOp X (binaryOp .Sub) (.int i) (.int j) (.int (i - j)):=fun A P va vb s Q E _ _ _ ha hb h=>by
 obtain ⟨t,rfl⟩:=ha.e_int;obtain ⟨u,rfl⟩:=hb.e_int
 exact PySem.P.sub_int (h _ _ .i_int)
theorem v_eqi {i j:Int}:VOp X (compareOp .Eq) (.int i) (.int j) (.bool (i==j)):=fun A P va vb s Q E _ _ _ ha hb h=>by
 obtain ⟨t,rfl⟩:=ha.e_int;obtain ⟨u,rfl⟩:=hb.e_int
 exact PySem.P.eq_int (h _ _ .i_bool)
theorem v_nei {i j:Int}:VOp X (compareOp .NotEq) (.int i) (.int j) (.bool (i != j)):=fun A P va vb s Q E _ _ _ ha hb h=>by
 obtain ⟨t,rfl⟩:=ha.e_int;obtain ⟨u,rfl⟩:=hb.e_int
 exact PySem.P.ne_int (h _ _ .i_bool)
theorem v_lti {i j:Int}:VOp X (compareOp .Lt) (.int i) (.int j) (.bool (decide (i<j))):=fun A P va vb s Q E _ _ _ ha hb h=>by
 obtain ⟨t,rfl⟩:=ha.e_int;obtain ⟨u,rfl⟩:=hb.e_int
 exact PySem.P.lt_int (h _ _ .i_bool)
theorem v_lei {i j:Int}:VOp X (compareOp .LtE) (.int i) (.int j) (.bool (decide (i≤j))):=fun A P va vb s Q E _ _ _ ha hb h=>by
 obtain ⟨t,rfl⟩:=ha.e_int;obtain ⟨u,rfl⟩:=hb.e_int
 exact PySem.P.le_int (h _ _ .i_bool)
theorem v_gti {i j:Int}:VOp X (compareOp .Gt) (.int i) (.int j) (.bool (decide (i > j))):=fun A P va vb s Q E _ _ _ ha hb h=>by
 obtain ⟨t,rfl⟩:=ha.e_int;obtain ⟨u,rfl⟩:=hb.e_int
 exact PySem.P.gt_int (h _ _ .i_bool)
theorem v_gei {i j:Int}:VOp X (compareOp .GtE) (.int i) (.int j) (.bool (decide (i≥j))):=fun A P va vb s Q E _ _ _ ha hb h=>by
 obtain ⟨t,rfl⟩:=ha.e_int;obtain ⟨u,rfl⟩:=hb.e_int
 exact PySem.P.ge_int (h _ _ .i_bool)
theorem v_eqs {i j:List Nat}:VOp X (compareOp .Eq) (.str i) (.str j) (.bool (i==j)):=fun A P va vb s Q E _ _ _ ha hb h=>by
 obtain ⟨t,rfl⟩:=ha.e_str;obtain ⟨u,rfl⟩:=hb.e_str
 exact PySem.P.eq_str (h _ s.toks (.i_bool))
theorem v_nes {i j:List Nat}:VOp X (compareOp .NotEq) (.str i) (.str j) (.bool (i != j)):=fun A P va vb s Q E _ _ _ ha hb h=>by
 obtain ⟨t,rfl⟩:=ha.e_str;obtain ⟨u,rfl⟩:=hb.e_str
 exact PySem.P.ne_str (h _ s.toks (.i_bool))
theorem v_les {i j:List Nat}:VOp X (compareOp .LtE) (.str i) (.str j) (.bool (leL i j)):=fun A P va vb s Q E _ _ _ ha hb h=>by
 obtain ⟨t,rfl⟩:=ha.e_str;obtain ⟨u,rfl⟩:=hb.e_str
 exact PySem.P.le_str (h _ s.toks (.i_bool))
theorem v_is {y:V} {b:Bool} (hb:∀ (C:Cx) (P:Imm) v,VR C P v y→(v==Value.none)=b):VOp X (compareOp .Is) y .none (.bool b):=fun A P va vb s Q E _ _ _ ha hb' h=>by
 rw [hb'.e_none]
 exact is_none (h _ s.toks (by rw [hb _ _ _ ha];exact .i_bool))
theorem v_isnot {y:V} {b:Bool} (hb:∀ (C:Cx) (P:Imm) v,VR C P v y→(v==Value.none)=b):VOp X (compareOp .IsNot) y .none (.bool (!b)):=fun A P va vb s Q E _ _ _ ha hb' h=>by
 rw [hb'.e_none]
 exact isNot_none (h _ s.toks (by rw [hb _ _ _ ha];exact .i_bool))
theorem v_in {i j:List Nat}:VOp X (compareOp .In) (.str i) (.str j) (.bool !(Builtin.Str.occurrences ⟨j.toArray⟩ ⟨i.toArray⟩ 0 j.length 1).isEmpty):=fun A P va vb s Q E _ _ _ ha hb h=>by
 obtain ⟨t,rfl⟩:=ha.e_str;obtain ⟨u,rfl⟩:=hb.e_str
 exact PySem.P.in_str (h _ s.toks (by simpa [Str.length] using VR.i_bool))
theorem v_notin {i j:List Nat}:VOp X (compareOp .NotIn) (.str i) (.str j) (.bool (!!(Builtin.Str.occurrences ⟨j.toArray⟩ ⟨i.toArray⟩ 0 j.length 1).isEmpty)):=fun A P va vb s Q E _ _ _ ha hb h=>by
 obtain ⟨t,rfl⟩:=ha.e_str;obtain ⟨u,rfl⟩:=hb.e_str
 exact PySem.P.notIn_str (h _ s.toks (by simpa [Str.length] using VR.i_bool))
end
theorem Upd.of_nodup {d:Addr} {o o':Obj}:∀ {pre post:Led},((pre++(d,o)::post).map (·.1)).Nodup→Upd d o o' (pre++(d,o)::post) (pre++(d,o')::post)
 | [],post,h=>by
  refine .head fun p hp e=>?_
  rw [List.nil_append,List.map_cons,List.nodup_cons] at h
  exact h.1 (List.mem_map.mpr ⟨p,hp,e⟩)
 | q::pre,post,h=>by
  rw [List.cons_append,List.map_cons,List.nodup_cons] at h
  refine .tail (fun e=>h.1 (List.mem_map.mpr ⟨(d,o),by simp,e.symm⟩)) (Upd.of_nodup h.2)
inductive SetV (y:V):Nat→List V→List V→Prop
 | z {a r}:SetV y 0 (a::r) (y::r)
 | n:SetV y 0 [] [y]
 | s {k a r r'}:SetV y k r r'→SetV y (k+1) (a::r) (a::r')
theorem FRs.setv {C:Cx} {P:Imm} {x:Str} {y:V} {hs:Int} {t:Tok} {v:Value} (hv:handedIn v=true) (hr:VR C P v y) {k:Nat} {vs vs':List V} (h:SetV y k vs vs') :
  ∀ {ns:List Str} {es:List DictEntry},FRs C P es (ns.zip vs)→ns.Nodup→ns[k]? = some x→FRs C P (putL x hs (.str x t) v es) (ns.zip vs'):=by
 induction h with
 | @z a r=>
  intro ns es h hn e
  cases ns with
  | nil=>cases e
  | cons n ns=>
   cases es with
   | nil=>exact h.elim
   | cons d es=>
    obtain ⟨⟨t,hk⟩,_,_,h4⟩:=h
    cases e
    unfold putL
    rw [show d.key.isStr x=true by rw [hk];exact beq_self_eq_true x,if_pos rfl]
    exact ⟨⟨t,hk⟩,hv,hr,h4⟩
 | n=>
  intro ns es h hn e
  cases ns with
  | nil=>cases e
  | cons n ns=>
   cases es with
   | nil=>cases e;cases ns<;>exact ⟨⟨t,rfl⟩,hv,hr,trivial⟩
   | cons d es=>exact h.elim
 | @s k a r r' _ ih=>
  intro ns es h hn e
  cases ns with
  | nil=>cases e
  | cons n ns=>
   cases es with
   | nil=>exact h.elim
   | cons d es=>
    obtain ⟨⟨t,hk⟩,h2,h3,h4⟩:=h
    have hn:=List.nodup_cons.mp hn
    unfold putL
    rw [show d.key.isStr x=false by rw [hk];exact beq_eq_false_iff_ne.mpr fun (q:n=x)=>hn.1 (q▸List.mem_of_getElem? e),if_neg Bool.false_ne_true]
    exact ⟨⟨t,hk⟩,h2,h3,ih h4 hn.2 e⟩
theorem FRs.len {C:Cx} {P:Imm}:∀ {es:List DictEntry} {fs:List (Str×V)},FRs C P es fs→es.length=fs.length
 | [],[],_=>rfl
 | _::_,_::_,h=>congrArg Nat.succ (FRs.len h.2.2.2)
 | [],_::_,h=>h.elim
 | _::_,[],h=>h.elim
theorem FRs.isSome {C:Cx} {P:Imm} {x:Str}:∀ {es:List DictEntry} {fs:List (Str×V)},FRs C P es fs→(getL x es).isSome=true
 | [],_,_=>rfl
 | _::_,[],h=>h.elim
 | e::es,f::fs,⟨⟨t,hk⟩,h2,h3,h4⟩=>by
  by_cases q:f.1=x
  ·rw [getL_hit (q▸hk)];rfl
  ·rw [getL_skip hk q];exact FRs.isSome h4
noncomputable def setOK (K:Frag) (C:Addr) (x:Str):Bool:=findIn K (.ref C) "__setattr__" == some (some (.builtin "object.__setattr__"))&&plainOver K C&&takerIn K C x==some none&&hasDictIn K C
noncomputable def setAt (K:Frag) (C:Addr) (k:Nat) (x:Str):Bool:=setOK K C x&&(flds C)[k]? == some x&&Nat.ble (flds C).length 900
noncomputable def hv (y:V):Bool:=match y with | .raw v=>handedIn v | _=>true
theorem VR.handed {C:Cx} {P:Imm} {v:Value} {y:V} (h:VR C P v y) (q:hv y=true):handedIn v=true:=by
 cases y with
 | none=>rw [h.e_none];rfl
 | bool b=>rw [h.e_bool];rfl
 | int i=>obtain ⟨t,rfl⟩:=h.e_int;rfl
 | str s=>obtain ⟨t,rfl⟩:=h.e_str;rfl
 | tup vs=>obtain ⟨a,_,_,_,rfl,_⟩:=h.e_tup;rfl
 | ro vs=>obtain ⟨a,_,_,_,rfl,_⟩:=h.e_ro;rfl
 | ri D vs=>obtain ⟨a,_,_,_,rfl,_⟩:=h;rfl
 | rd ks vs=>obtain ⟨a,_,_,_,_,rfl,_⟩:=h;rfl
 | itm y=>obtain ⟨a,_,rfl,_⟩:=h;rfl
 | rng k=>obtain ⟨a,_,_,_,rfl,_⟩:=h;rfl
 | ref a=>rw [h.e_ref];rfl
 | exc=>obtain ⟨e,rfl,_⟩:=h;rfl
 | raw x=>rw [h.e_raw];exact q
section
variable {X:Cx} {fe:FE} {ic:IC} {n:Nat} {ρ:LV} {σ:Store} {R:Prop} {Q:QK}
inductive Cell (X:Cx) (g:Heap) (L:Addr) (h:Heap) (I H:Led) (σ':Store) (a:Addr) (o':AObj) (r₁ r₂:Led) (b:Addr) (ob:Obj):Prop
 | mk (pre post:Led):(∀ p∈r₁,p∈pre++(b,ob)::post)→News g L h (pre++(b,ob)::post)→((pre++(b,ob)::post).map (·.1)).Nodup →
   (∀ h' ob',ObjR X (X.imm I) a o' (r₁++(b,ob')::r₂)→News g L h' (pre++(b,ob')::post)→Sat X g L h' I H σ')→Cell X g L h I H σ' a o' r₁ r₂ b ob
inductive UpdD (X:Cx) (g:Heap) (L:Addr) (h:Heap) (I H:Led) (σ':Store) (a:Addr) (o o':AObj):Prop
 | mk (r:Led):ObjR X (X.imm I) a o r→(∀ r₁ r₂ b ob,r=r₁++(b,ob)::r₂→Cell X g L h I H σ' a o' r₁ r₂ b ob)→UpdD X g L h I H σ' a o o'
theorem Sat.upd {g:Heap} {L:Addr} {h:Heap} {I H:Led} {σ':Store} {a:Addr} {o o':AObj} (S:Sat X g L h I H σ) (u:UpdS a o o' σ σ'):UpdD X g L h I H σ' a o o':=by
 obtain ⟨rs,hr,hN,hnd⟩:=S.ex
 obtain ⟨pre,r,post,rfl,ho,hk⟩:=u.split hr
 refine ⟨r,ho,fun r₁ r₂ b ob e=>?_⟩
 subst e
 have k:∀ ob,I++(H++(pre++(r₁++(b,ob)::r₂)++post))=(I++(H++(pre++r₁)))++(b,ob)::(r₂++post):=fun ob=>by simp only [List.append_assoc,List.cons_append]
 rw [k] at hN hnd
 refine ⟨I++(H++(pre++r₁)),r₂++post,fun p hp=>List.mem_append_left _ (List.mem_append_right _ (List.mem_append_right _ (List.mem_append_right _ hp))),hN,hnd,fun h' ob' ho' hN'=>⟨_,hk _ ho',by rw [k];exact hN',?_⟩⟩
 rw [k]
 rw [List.map_append,List.map_cons] at hnd ⊢
 exact hnd
theorem Dyn.setattr {A:Around} {g:Heap} {L:Addr} {m:Str→Option Value} {I H:Led} {s:Shared} {E:Value→Shared→Prop} {P:Unit→Shared→Prop} {a C:Addr} {k:Nat} {vs vs':List V} {σ':Store} {x:Str} {v:Value} {y:V}
  (D:Dyn X g L m I H σ s) (K:X.K.In g) (u:UpdS a (.inst C vs) (.inst C vs') σ σ') (hs:SetV y k vs vs') (hok:setAt X.K C k x=true) (hy:VR X (X.imm I) v y) (hh:hv y=true)
  (h:∀ s',Dyn X g L m I H σ' s'→P () s'):wpAny X.M A (setAttr (.ref a) x v) P E s:=by
 obtain ⟨_,⟨dx,es,j,rfl,hf,hn⟩,hc⟩:=D.S.upd u
 obtain ⟨pre,post,hp,hN,hnd,hk⟩:=hc [(a,instObj C dx)] [] dx _ rfl
 have o1:=band hok
 have o2:=band o1.1
 have o3:=band o2.1
 have o4:=band o3.1
 have o5:=band o4.1
 have p1:=hf.setv (t:=s.toks+1) (hs:=PyData.keyHash X.w.params x) (hy.handed hh) hy hs hn (eq_of_beq o2.2)
 refine set_dict D.F K hN (InstAt.of_news hN (dx:=dx) (sl:=#[]) (hp _ (.head _)) (List.mem_append_right _ (.head _))) rfl (eq_of_beq o5.1) o5.2 (eq_of_beq o4.2) o3.2 hf.isSome rfl (Upd.of_nodup hnd) ?_ fun h' F' N'=>
  h _ ⟨F',hk h' _ ⟨dx,_,_,rfl,p1,hn⟩ N',D.gens,D.os⟩
 rw [p1.len,List.length_zip]
 exact Nat.le_trans (Nat.le_trans (Nat.min_le_left _ _) (lbt o1.2)) (lbt rfl)
inductive StE (σ:Store) (C:Addr) (k:Nat) (z y:V) (P:Store→Prop):Prop
 | mk {a vs vs' σ'}:z=.ref a→SetV y k vs vs'→UpdS a (.inst C vs) (.inst C vs') σ σ'→hv y=true→P σ'→StE σ C k z y P
theorem StE.go {A:Around} {g:Heap} {L:Addr} {m:Str→Option Value} {I H:Led} {s:Shared} {E:Value→Shared→Prop} {P:Unit→Shared→Prop} {C:Addr} {k:Nat} {x:Str} {v w:Value} {y z:V} {F:Store→Prop} (h:StE σ C k z y F)
  (D:Dyn X g L m I H σ s) (K:X.K.In g) (hok:setAt X.K C k x=true) (hy:VR X (X.imm I) v y) (hz:VR X (X.imm I) w z) (h:∀ σ' s',Dyn X g L m I H σ' s'→F σ'→P () s'):wpAny X.M A (setAttr w x v) P E s:=by
 rename_i q
 obtain ⟨rfl,hs,u,hh,q⟩:=q
 rw [hz.e_ref]
 exact D.setattr K u hs hok hy hh fun s' D'=>h _ s' D' q
theorem ex_setattr {o e:Expr} {attr:Str} {pa pos:Pos} {C:Addr} {k:Nat} (ok:setAt X.K C k attr=true) (hp:PlV e)
  (h:Ev X fe.ic n e ρ σ (fun y σ₁=>Ev X fe.ic n o ρ σ₁ (fun z σ₂=>StE σ₂ C k z y fun σ₃=>Q.nx ρ σ₃) R) R):Ex1 X fe n (.Assign [.Attribute o attr pa] e pos) ρ σ Q R:=
 fun outer A g L m I H s E a b c p d=>plainObj_wpAny_Assign_Attribute (hs:=hp _ _ _) (h.sm a b c d fun v s₁ I₁ σ₁ y hI D c₁ hv hq=>
  Tr.sm hq a D c₁ d fun w s₂ I₂ σ₂ z hI₂ D₂ c₂ hz q=>q.go D₂ a.K ok (hv.mono (imm_mono hI₂)) hz fun σ₃ s₃ D₃ q=>⟨I₂,σ₃,m,ρ,fun _ z=>hI₂ (hI z),D₃,c₂,.nx q⟩)
theorem ex_augattr {o e:Expr} {attr:Str} {op:Operator} {pa pos:Pos} {C:Addr} {k:Nat} (ok:setAt X.K C k attr=true) (ok':fldOK X.K C k attr=true)
  (h:Ev X fe.ic n o ρ σ (fun z σ₁=>InE σ₁ C z fun vs=>nthK vs k fun w=>Ev X fe.ic n e ρ σ₁ (fun y σ₂=>Op2 X n (inplaceOp op) w y σ₂ (fun r σ₃=>StE σ₃ C k z r fun σ₄=>Q.nx ρ σ₄) R) R) R) :
  Ex1 X fe n (.AugAssign (.Attribute o attr pa) op e pos) ρ σ Q R:=
 fun outer A g L m I H s E a b c p d=>by
 obtain ⟨A₁,hB⟩:=a.B
 refine wpAny_AugAssign_AttributeAny (h.sm a b c d fun ov s₁ I₁ σ₁ z hI D c₁ hz hq=>?_)
 refine get_fld D.F a.K (band ok').1 (D.fld hB hq hz (eq_of_beq (band ok').2)) fun u w hw hq=>?_
 refine Tr.sm hq a (D.toks _) c₁ d fun yv s₂ I₂ σ₂ y hI₂ D₂ c₂ hy ho=>?_
 exact TrM (ho (fe.env L) outer A g L m I₂ H s₂ u yv E a D₂ (hw.mono (imm_mono hI₂)) hy d) fun r s₃ I₃ σ₃ ry hI₃ D₃ hr q=>
  q.go D₃ a.K ok hr (hz.mono (imm_mono fun _ z=>hI₃ (hI₂ z))) fun σ₄ s₄ D₄ q=>⟨I₃,σ₄,m,ρ,fun _ z=>hI₃ (hI₂ (hI z)),D₄,c₂.mono (imm_mono hI₃),.nx q⟩
theorem ex_aug {x:Str} {e:Expr} {op:Operator} {px pos:Pos} {w:V} {i:Nat} (hx:fe.ls[i]? = some x) (hw:ρ.at i=some w)
  (h:Ev X fe.ic n e ρ σ (fun y σ₁=>Op2 X n (inplaceOp op) w y σ₁ (fun r σ₂=>ρ.set i r fun ρ'=>Q.nx ρ' σ₂) R) R):Ex1 X fe n (.AugAssign (.Name x px) op e pos) ρ σ Q R:=
 fun outer A g L m I H s E a b c p d=>by
 obtain ⟨wv,hm,hz⟩:=c.val i x w hx hw
 refine wpAny_AugAssign_Name (wpAny_loadName_local a.ek (FE.lcl c.ok hx).1 b.F.ns hm ?_)
 refine h.sm a b c d fun yv s₂ I₂ σ₂ y hI₂ D₂ c₂ hy ho=>?_
 exact TrM (ho (fe.env L) outer A g L m I₂ H s₂ wv yv E a D₂ (hz.mono (imm_mono hI₂)) hy d) fun r s₃ I₃ σ₃ ry hI₃ D₃ hr q=>
  D₃.store (c₂.mono (imm_mono hI₃)) hx hr q fun m' ρ' s' D' c' hk=>⟨I₃,σ₃,m',ρ',fun _ z=>hI₃ (hI₂ z),D',c',.nx hk⟩
end
noncomputable def lclip (n:Nat) (i:Int):Nat:=(max 0 (min (if i<0 then i+n else i) n)).toNat
noncomputable def lsl {α:Type} (l:List α) (lo hi:Option Int):List α:=(l.take (hi.elim l.length (lclip l.length))).drop (lo.elim 0 (lclip l.length))
theorem lclip_le (n:Nat) (i:Int):lclip n i≤n:=Int.toNat_le.mpr (Int.max_le.mpr ⟨Int.natCast_nonneg n,Int.min_le_right _ _⟩)
theorem clip_eq {n:Nat} {v:Int}:(if v<0 then max (v+n) 0 else min v n)=((lclip n v:Nat):Int):=by
 refine Eq.trans ?_ (Int.toNat_of_nonneg (Int.le_max_left 0 _)).symm
 by_cases h:v<0
 ·rw [if_pos h,if_pos h,Int.min_eq_left (by omega),Int.max_comm]
 ·rw [if_neg h,if_neg h,Int.max_eq_right (Int.le_min.2 ⟨by omega,by omega⟩)]
theorem sb1 {lo hi:Option Int} {n:Nat}:(sliceBounds lo hi none n).1=((lo.elim 0 (lclip n):Nat):Int):=by
 cases lo with
 | none=>rfl
 | some i=>exact (Int.toNat_of_nonneg (Int.le_max_left 0 _)).symm
theorem sb2 {lo hi:Option Int} {n:Nat}:(sliceBounds lo hi none n).2.1=((hi.elim n (lclip n):Nat):Int):=by
 cases hi with
 | none=>rfl
 | some i=>exact (Int.toNat_of_nonneg (Int.le_max_left 0 _)).symm
theorem range_pick {α:Type} (xs:Array α) (lo hi:Option Int) :
  (sliceRange (sliceBounds lo hi none xs.size).1 (sliceBounds lo hi none xs.size).2.1 (sliceBounds lo hi none xs.size).2.2).filterMap (xs[·]?)=lsl xs.toList lo hi:=by
 have e3:(sliceBounds lo hi none xs.size).2.2=1:=rfl
 rw [sb1,sb2,e3,sliceRange_one,pick_run]
 unfold lsl
 rw [List.drop_take,Array.length_toList]
theorem slicePick_lsl (xs:Array Value) (lo hi:Option Int):slicePick xs lo hi none=(lsl xs.toList lo hi).toArray:=congrArg List.toArray (range_pick xs lo hi)
theorem lsl_sub {α:Type} (l:List α) (lo hi:Option Int):(lsl l lo hi).Sublist l:=(List.drop_sublist _ _).trans (List.take_sublist _ _)
theorem lsl_len {α:Type} (l:List α) (lo hi:Option Int):(lsl l lo hi).length≤l.length:=(lsl_sub l lo hi).length_le
theorem lsl_n {α:Type} (l:List α) (lo hi:Option Int):(lsl l lo hi).length=hi.elim l.length (lclip l.length) - lo.elim 0 (lclip l.length):=by
 have b:hi.elim l.length (lclip l.length)≤l.length:=by
  cases hi with
  | none=>exact Nat.le_refl _
  | some i=>exact lclip_le _ _
 unfold lsl
 rw [List.length_drop,List.length_take,Nat.min_eq_left b]
theorem txt_slice (l:List Nat) (lo hi:Option Int):Txt.slice ⟨l.toArray⟩ lo hi=⟨(lsl l lo hi).toArray⟩:=by
 unfold Txt.slice
 have k:=range_pick l.toArray lo hi
 have e:Builtin.Str.strSliceIndices lo hi 1 (Str.length ⟨l.toArray⟩)=sliceRange (sliceBounds lo hi none l.toArray.size).1 (sliceBounds lo hi none l.toArray.size).2.1 (sliceBounds lo hi none l.toArray.size).2.2:=by
  cases lo<;>cases hi<;>rfl
 rw [e]
 split
 ·rename_i q
  simp only [beq_self_eq_true,Bool.true_and,beq_iff_eq] at q
  rw [sb1,sb2,show (sliceBounds lo hi none l.toArray.size).2.2=1 from rfl,sliceRange_one,List.length_map,List.length_range] at q
  have e2:lsl l lo hi=l:=(lsl_sub ..).eq_of_length ((lsl_n ..).trans q)
  rw [e2]
 ·exact congrArg (fun z:List Nat=>(⟨z.toArray⟩:Str)) k
noncomputable def prt:Option Int→V
 | none=>.none
 | some i=>.int i
theorem prt_part {C:Cx} {P:Imm} {v:Value} {i:Option Int} (h:VR C P v (prt i)):∃ p:Option (Int×Tok),v=partValue p∧p.map (·.1)=i:=by
 cases i with
 | none=>exact ⟨none,h.e_none,rfl⟩
 | some i=>obtain ⟨t,rfl⟩:=VR.e_int h;exact ⟨some (i,t),rfl,rfl⟩
theorem partValue_is (p:Option (Int×Tok)):IsPart (partValue p) (p.map (·.1)):=by
 cases p with
 | none=>exact .none
 | some p=>obtain ⟨i,t⟩:=p;exact .int i t
section
variable {prog:Program} {w:World} {A:Around} {E:Value→Shared→Prop} {s:Shared}
theorem sliceApplied_at {sl:Addr} {n:Nat} {p q:Option (Int×Tok)} {Q:Int×Int×Nat→Shared→Prop} (hs:s.heap.IsSliceOf sl (partValue p) (partValue q) .none)
  (h:Q (((p.map (·.1)).elim 0 (lclip n):Nat),1,(q.map (·.1)).elim n (lclip n) - (p.map (·.1)).elim 0 (lclip n)) s) :
  wpAny (model prog w) A (Builtin.Slice.sliceApplied (.ref sl) (pure (n:Int))) Q E s:=by
 obtain ⟨os,hos,hcs,hds⟩:=id hs
 unfold Builtin.Slice.sliceApplied Builtin.Slice.sliceFields
 refine wpAny_bind (wpAny_bind (wpAny_field hos hds (x:=partValue p) rfl (wpAny_bind (wpAny_field hos hds (x:=partValue q) rfl (wpAny_bind (wpAny_field hos hds (x:=.none) rfl (wpAny_pure ?_)))))))
 refine wpAny_bind (slicePart_none ?_)
 show wpAny _ _ (if ((1:Int)==0)=true then _ else _) _ _ s
 rw [if_neg (by decide)]
 have part:∀ (p:Option (Int×Tok)) {Q:Option Int→Shared→Prop},Q (p.map (·.1)) s→wpAny (model prog w) A (Builtin.Slice.slicePartIndex (partValue p)) Q E s:=fun p Q h=>by
  cases p with
  | none=>exact slicePart_none h
  | some p=>obtain ⟨i,t⟩:=p;exact slicePart_int h
 refine wpAny_bind (part p (wpAny_bind (part q (wpAny_bind (wpAny_pure ?_)))))
 show wpAny _ _ (match Builtin.Slice.sliceAdjust (p.map (·.1)) (q.map (·.1)) 1 (n:Int) with | (lo,hi)=>pure (lo,(1:Int),Builtin.Slice.slicePlaces lo hi 1)) _ _ s
 have c:∀ (o:Option Int) (d:Nat),(match o with | none=>(d:Int) | some v=>if v<0 then max (v+n) 0 else min v n)=((o.elim d (lclip n):Nat):Int):=fun o d=>by
  cases o with
  | none=>rfl
  | some v=>exact clip_eq
 have e:Builtin.Slice.sliceAdjust (p.map (·.1)) (q.map (·.1)) 1 (n:Int)=((((p.map (·.1)).elim 0 (lclip n):Nat):Int),(((q.map (·.1)).elim n (lclip n):Nat):Int)):=(congr (congrArg Prod.mk (c (p.map (·.1)) 0)) (c (q.map (·.1)) n) :)
 rw [e]
 show wpAny _ _ (pure (_,(1:Int),Builtin.Slice.slicePlaces _ _ 1)) _ _ s
 refine wpAny_pure ?_
 have e2:∀ a b:Nat,Builtin.Slice.slicePlaces (a:Int) (b:Int) 1=b - a:=fun a b=>by
  show (if (a:Int)<b then ((b:Int) - a - 1) / 1+1 else 0).toNat=b - a
  by_cases h:(a:Int)<b
  ·rw [if_pos h,Int.ediv_one,Int.sub_add_cancel,Int.toNat_sub]
  ·rw [if_neg h];exact (Nat.sub_eq_zero_of_le (Int.ofNat_le.mp (Int.not_lt.mp h))).symm
 rw [e2];exact h
theorem getItem_tuple_slice {t sl:Addr} {items:Array Value} {p q:Option (Int×Tok)} {Q:Value→Shared→Prop} (ht:IsTup s.heap t items) (hs:s.heap.IsSliceOf sl (partValue p) (partValue q) .none)
  (hw:(lsl items.toList (p.map (·.1)) (q.map (·.1))).length≠items.size)
  (h:Q (.ref s.heap.objs.size) { s with heap:=s.heap.push { cls:=.type "tuple",data:=.seq (lsl items.toList (p.map (·.1)) (q.map (·.1))).toArray } })
  (hsz:items.size≤sizeLine):wpAny (model prog w) A (getItem (.ref t) (.ref sl)) Q E s:=by
 have hd:sizeOk (.seq (lsl items.toList (p.map (·.1)) (q.map (·.1))).toArray):=by
  show (lsl items.toList (p.map (·.1)) (q.map (·.1))).length≤sizeLine
  exact Nat.le_trans (lsl_len ..) hsz
 obtain ⟨os,hos,hcs,hds⟩:=id hs
 have hTs:s.TypeIs (.ref sl) "slice":=⟨os,hos,hcs⟩
 unfold getItem
 try with_reducible refine wpAny_holding ?_
 first | refine wpAny_bind (wpAny_pure ?_) | skip
 refine wpAny_bind (wpAny_sequenceKey ht.typeIs (by decide) ?_)
 refine wpAny_bind (wpAny_callSpecial?_slot (name:=Str.ofString "__getitem__") ht.typeIs slot_tuple_getitem
  (wpAny_call_entry slot_tuple_getitem ht.typeIs entry_tuple_getitem ?_ (args_tuple_getitem _ _)))
 show wpAny _ _ (Builtin.Tuple.tupleItemsOf (.ref t) >>= _) _ _ s
 refine wpAny_bind (tupleItemsOf_ ht ?_)
 refine wpAny_bind (wpAny_typeOf hTs ?_)
 rw [if_pos (by decide)]
 refine wpAny_bind (sliceApplied_at hs ?_)
 generalize hp:p.map (·.1)=lo at h hd hw ⊢
 generalize hq:q.map (·.1)=hi at h hd hw ⊢
 show wpAny _ _ (if ((((lo.elim 0 (lclip items.size):Nat):Int)==0&&(1:Int)==1&&(hi.elim items.size (lclip items.size) - lo.elim 0 (lclip items.size))==items.size)=true) then _ else _) _ _ s
 rw [if_neg fun c=>hw ((lsl_n ..).trans (eq_of_beq (band c).2:hi.elim items.size (lclip items.size) - lo.elim 0 (lclip items.size)=items.size))]
 ·have e:((List.range (hi.elim items.size (lclip items.size) - lo.elim 0 (lclip items.size))).filterMap fun (k:Nat)=>items[(((lo.elim 0 (lclip items.size):Nat):Int)+(k:Int) * 1).toNat]?).toArray=(lsl items.toList lo hi).toArray:=by
   have e:(fun (k:Nat)=>items[(((lo.elim 0 (lclip items.size):Nat):Int)+(k:Int) * 1).toNat]?)=fun k=>items[lo.elim 0 (lclip items.size)+k]?:=by
    funext k
    rw [Int.mul_one];rfl
   rw [e]
   have:=pick_run items (lo.elim 0 (lclip items.size)) (hi.elim items.size (lclip items.size) - lo.elim 0 (lclip items.size))
   rw [List.filterMap_map] at this
   have e2:((fun x=>items[x]?)∘fun x=>lo.elim 0 (lclip items.size)+x)=fun k=>items[lo.elim 0 (lclip items.size)+k]?:=rfl
   rw [e2] at this
   rw [this]
   unfold lsl
   rw [List.drop_take,Array.length_toList]
  rw [e]
  have z:=h
  first
   | exact wpAny_bind (m:=Builtin.Tuple.tupleExact _) (wpAny_newObj_type (wpAny_pure ⟨_,rfl,wpAny_pure z⟩) hd)
   | exact wpAny_bind (m:=Builtin.Tuple.tupleExact _) (wpAny_newObj_type (wpAny_bind (wpAny_pure (wpAny_pure ⟨_,rfl,wpAny_pure z⟩))) hd)
   | exact wpAny_bind (wpAny_bind (m:=Builtin.Tuple.tupleExact _) (wpAny_newObj_type (wpAny_pure (wpAny_pure ⟨_,rfl,wpAny_pure z⟩)) hd))
   | exact wpAny_bind (wpAny_bind (m:=Builtin.Tuple.tupleExact _) (wpAny_newObj_type (wpAny_pure ⟨_,rfl,wpAny_pure z⟩) hd))
end
theorem getItem_list_at {prog:Program} {w:World} {A:Around} {E:Value→Shared→Prop} {s:Shared} {l:Addr} {items:Array Value} {k:Int} {t:Tok} {j:Nat} {x:Value} {Q:Value→Shared→Prop} (hl:s.heap.IsList l items)
  (hb:-(2 ^ 63:Int)≤k∧k<2 ^ 63) (hj:seqIndex? k items.size=some j) (hx:items[j]? = some x) (h:Q x s):wpAny (model prog w) A (getItem (.ref l) (.int k t)) Q E s:=by
 unfold seqIndex? at hj
 by_cases h0:0≤k
 ·simp only [show ¬ k<0 by omega,if_false] at hj
  split at hj
  ·cases hj
   exact wpAny_getItem_list hl h0 hb.2 hx h
  ·cases hj
 ·simp only [show k<0 by omega,if_true] at hj
  split at hj
  ·rename_i q
   cases hj
   simp at q
   exact wpAny_getItem_list_neg hl (by omega) (by omega) hb.1 hx h
  ·cases hj
noncomputable def idx (n:Nat) (i:Int):Option Nat:=if -(2 ^ 63:Int)≤i∧i<2 ^ 63 then seqIndex? i n else none
theorem idx_spec {n:Nat} {i:Int} {j:Nat} (h:idx n i=some j):(-(2 ^ 63:Int)≤i∧i<2 ^ 63)∧seqIndex? i n=some j:=by
 unfold idx at h
 split at h
 ·rename_i q;exact ⟨q,h⟩
 ·cases h
noncomputable def dget (es:List (List Nat×V)) (k:List Nat):Option V:=(es.find? fun p=>p.1==k).map (·.2)
noncomputable def dset (es:List (List Nat×V)) (k:List Nat) (v:V):List (List Nat×V):=if es.any (fun p=>p.1==k) then es.map (fun p=>if p.1==k then (p.1,v) else p) else es++[(k,v)]
theorem strKey {w:World} {p:Program} {l:List Nat} {t:Tok}:(PySem.strKind p w).is (⟨l.toArray⟩:Str) (.str ⟨l.toArray⟩ t)=true:=strKind_is p w _ t
theorem key_eq (a b:List Nat):decide ((⟨a.toArray⟩:Str)=⟨b.toArray⟩)=(a==b):=by
 by_cases h:a=b
 ·subst h;simp
 ·rw [decide_eq_false (fun e=>h (by have:=congrArg (fun s:Str=>s.cps.toList) e;simpa using this))]
  simp [h]
theorem KVR.find {C:Cx} {P:Imm} {l:List Nat}:∀ {kvs:List (Str×Value)} {es:List (List Nat×V)},KVR C P kvs es →
  match dget es l with
  | some y=>∃ v,valueAt kvs ⟨l.toArray⟩=some v∧VR C P v y
  | none=>valueAt kvs ⟨l.toArray⟩=none
 | [],[],_=>rfl
 | e::es,f::fs,h=>by
  obtain ⟨h1,h2,h3⟩:=h
  have ih:=KVR.find (l:=l) h3
  unfold dget valueAt at ih ⊢
  rw [List.find?_cons,List.find?_cons,h1,key_eq]
  cases f.1==l
  ·exact ih
  ·exact ⟨_,rfl,h2⟩
 | [],_::_,h=>h.elim
 | _::_,[],h=>h.elim
theorem KVR.has {C:Cx} {P:Imm} {kvs:List (Str×Value)} {es:List (List Nat×V)} (h:KVR C P kvs es) (l:List Nat):(valueAt kvs ⟨l.toArray⟩).isSome=(dget es l).isSome:=by
 have:=h.find (l:=l)
 cases q:dget es l with
 | none=>rw [q] at this;rw [this];rfl
 | some y=>rw [q] at this;obtain ⟨v,e,_⟩:=this;rw [e];rfl
theorem KVR.app {C:Cx} {P:Imm}:∀ {kvs kvs':List (Str×Value)} {es es':List (List Nat×V)},KVR C P kvs es→KVR C P kvs' es'→KVR C P (kvs++kvs') (es++es')
 | [],_,[],_,_,h=>h
 | _::_,_,_::_,_,h,h'=>⟨h.1,h.2.1,h.2.2.app h'⟩
 | [],_,_::_,_,h,_=>h.elim
 | _::_,_,[],_,h,_=>h.elim
theorem KVR.any {C:Cx} {P:Imm} {l:List Nat}:∀ {kvs:List (Str×Value)} {es:List (List Nat×V)},KVR C P kvs es→kvs.any (fun kv=>kv.1=(⟨l.toArray⟩:Str))=es.any (fun p=>p.1==l)
 | [],[],_=>rfl
 | e::es,f::fs,h=>by
  rw [List.any_cons,List.any_cons,h.2.2.any,h.1,key_eq]
 | [],_::_,h=>h.elim
 | _::_,[],h=>h.elim
theorem KVR.upd {C:Cx} {P:Imm} {l:List Nat} {v:Value} {y:V} (hv:VR C P v y):∀ {kvs:List (Str×Value)} {es:List (List Nat×V)},KVR C P kvs es →
  KVR C P (kvs.map fun kv=>if kv.1=(⟨l.toArray⟩:Str) then (kv.1,v) else kv) (es.map fun p=>if p.1==l then (p.1,y) else p)
 | [],[],_=>trivial
 | e::es,f::fs,h=>by
  obtain ⟨h1,h2,h3⟩:=h
  rw [List.map_cons,List.map_cons]
  have k:=key_eq f.1 l
  rw [← h1] at k
  by_cases q:e.1=(⟨l.toArray⟩:Str)
  ·rw [decide_eq_true q] at k
   rw [if_pos q,if_pos k.symm]
   exact ⟨h1,hv,h3.upd hv⟩
  ·rw [decide_eq_false q] at k
   rw [if_neg q,if_neg (by rw [← k];simp)]
   exact ⟨h1,h2,h3.upd hv⟩
 | [],_::_,h=>h.elim
 | _::_,[],h=>h.elim
theorem KVR.stored {C:Cx} {P:Imm} {kvs:List (Str×Value)} {es:List (List Nat×V)} (h:KVR C P kvs es) {l:List Nat} {v:Value} {y:V} (hv:VR C P v y):KVR C P (PySem.stored kvs ⟨l.toArray⟩ v) (dset es l y):=by
 unfold PySem.stored dset
 rw [h.any (l:=l)]
 split
 ·exact h.upd hv
 ·exact h.app ⟨rfl,hv,trivial⟩
theorem KVR.len {C:Cx} {P:Imm}:∀ {kvs:List (Str×Value)} {es:List (List Nat×V)},KVR C P kvs es→kvs.length=es.length
 | [],[],_=>rfl
 | _::_,_::_,h=>congrArg (·+1) h.2.2.len
 | [],_::_,h=>h.elim
 | _::_,[],h=>h.elim
theorem VRs.take {C:Cx} {P:Imm}:∀ {k:Nat} {v:List Value} {x:List V},VRs C P v x→VRs C P (v.take k) (x.take k)
 | 0,_,_,_=>by simp only [List.take_zero];exact .i_nil
 | _+1,[],[],e=>by simp only [List.take_nil];exact .i_nil
 | _+1,_::_,_::_,e=>by
  simp only [List.take_succ_cons]
  exact .i_cons e.1 (VRs.take e.2)
 | _+1,[],_::_,e=>False.elim e
 | _+1,_::_,[],e=>False.elim e
theorem VRs.drop {C:Cx} {P:Imm}:∀ {k:Nat} {v:List Value} {x:List V},VRs C P v x→VRs C P (v.drop k) (x.drop k)
 | 0,_,_,e=>e
 | _+1,[],[],e=>by simp only [List.drop_nil];exact .i_nil
 | _+1,_::_,_::_,e=>by
  simp only [List.drop_succ_cons]
  exact VRs.drop e.2
 | _+1,[],_::_,e=>False.elim e
 | _+1,_::_,[],e=>False.elim e
theorem VRs.sl {C:Cx} {P:Imm} {v:List Value} {x:List V} (e:VRs C P v x) (lo hi:Option Int):VRs C P (lsl v lo hi) (lsl x lo hi):=by
 unfold lsl
 rw [e.len]
 exact e.take.drop
section
variable {X:Cx} {fe:FE} {ic:IC} {n:Nat} {ρ:LV} {σ:Store} {R:Prop}
variable {g:Heap} {L:Addr} {m:Str→Option Value} {I H:Led} {s:Shared}
theorem led_store (I H r rs:Led):(I++(H++(r++rs))).Perm (r++(I++(H++rs))):=by
 rw [← List.append_assoc I H,← List.append_assoc I H,← List.append_assoc,← List.append_assoc]
 exact List.perm_append_comm.append_right _
theorem led_hand (I H r rs:Led):(I++((r++H)++rs)).Perm (r++(I++(H++rs))):=by
 rw [List.append_assoc,← List.append_assoc,← List.append_assoc r]
 exact List.perm_append_comm.append_right _
theorem nodup_new {l:Led} {b:Addr} {o:Obj} (h:(l.map (·.1)).Nodup) (k:∀ p∈l,p.1≠b):(((b,o)::l).map (·.1)).Nodup:=
 List.nodup_cons.mpr ⟨fun hm=>let ⟨p,hp,e⟩:=List.mem_map.mp hm;k p hp e,h⟩
theorem Dyn.addS {m₀:Str→Option Value} {I₀ H₀:Led} {σ₀:Store} (D:Dyn X g L m₀ I₀ H₀ σ₀ s) {rs r:Led} {h':Heap} {a:Addr} {o:AObj} (hr:StoreR X (X.imm I) σ rs) (ho:ObjR X (X.imm I) a o r) (F:Fr g L h' m) (N:News g L h' (r++(I++(H++rs)))) (nd:((r++(I++(H++rs))).map (·.1)).Nodup) (tk:Nat) :
  Dyn X g L m I H ((a,o)::σ) { s with heap:=h',toks:=tk }:=
 ⟨F,⟨r++rs,.cons ho hr,fun q hq=>N q ((led_store I H r rs).mem_iff.mp hq),((led_store I H r rs).map _).nodup_iff.mpr nd⟩,D.gens,D.os⟩
theorem Dyn.addH {m₀:Str→Option Value} {I₀ H₀:Led} {σ₀:Store} (D:Dyn X g L m₀ I₀ H₀ σ₀ s) {rs r:Led} {h':Heap} (hr:StoreR X (X.imm I) σ rs) (F:Fr g L h' m) (N:News g L h' (r++(I++(H++rs)))) (nd:((r++(I++(H++rs))).map (·.1)).Nodup) (tk:Nat) :
  Dyn X g L m I (r++H) σ { s with heap:=h',toks:=tk }:=
 ⟨F,⟨rs,hr,fun q hq=>N q ((led_hand I H r rs).mem_iff.mp hq),((led_hand I H r rs).map _).nodup_iff.mpr nd⟩,D.gens,D.os⟩
theorem Dyn.addI {m₀:Str→Option Value} {I₀ H₀:Led} {σ₀:Store} (D:Dyn X g L m₀ I₀ H₀ σ₀ s) {rs r:Led} {h':Heap} (hr:StoreR X (X.imm I) σ rs) (F:Fr g L h' m) (N:News g L h' (r++(I++(H++rs)))) (nd:((r++(I++(H++rs))).map (·.1)).Nodup) (tk:Nat) :
  Dyn X g L m (r++I) H σ { s with heap:=h',toks:=tk }:=
 ⟨F,⟨rs,hr.mono (imm_mono fun _ z=>List.mem_append_right _ z),by rw [List.append_assoc];exact N,by rw [List.append_assoc];exact nd⟩,D.gens,D.os⟩
inductive Pushed (X:Cx) (g:Heap) (L:Addr) (m:Str→Option Value) (I H:Led) (σ:Store) (s:Shared) (o:Obj):Prop
 | mk (rs:Led):StoreR X (X.imm I) σ rs→Fr g L (s.heap.push o) m→News g L (s.heap.push o) ([(s.heap.objs.size,o)]++(I++(H++rs)))→(([(s.heap.objs.size,o)]++(I++(H++rs))).map (·.1)).Nodup→Pushed X g L m I H σ s o
theorem Dyn.pushed (D:Dyn X g L m I H σ s) (o:Obj) (hf:o.isFreed=false):Pushed X g L m I H σ s o:=by
 obtain ⟨rs,hr,hN,hnd⟩:=D.S.ex
 exact ⟨rs,hr,D.F.push _,hN.push D.F o (hfree:=hf),nodup_new hnd fun p hp e=>absurd (Heap.lt_size (hN p hp).1) (by rw [e];exact Nat.lt_irrefl _)⟩
theorem Dyn.newObj (D:Dyn X g L m I H σ s) (o:Obj) (ao:AObj) (tk:Nat) (hf:o.isFreed=false) (ho:ObjR X (X.imm I) s.heap.objs.size ao [(s.heap.objs.size,o)]) :
  Dyn X g L m I H ((s.heap.objs.size,ao)::σ) { s with heap:=s.heap.push o,toks:=tk }:=let ⟨_,a,b,c,d⟩:=D.pushed o hf;D.addS a ho b c d tk
theorem Dyn.newH (D:Dyn X g L m I H σ s) (o:Obj) (tk:Tok) (hf:o.isFreed=false):Dyn X g L m I ((s.heap.objs.size,o)::H) σ { s with heap:=s.heap.push o,toks:=tk }:=let ⟨_,a,b,c,d⟩:=D.pushed o hf;D.addH a b c d tk
theorem Dyn.pushI (D:Dyn X g L m I H σ s) (o:Obj) (tk:Tok) (hf:o.isFreed=false):Dyn X g L m ((s.heap.objs.size,o)::I) H σ { s with heap:=s.heap.push o,toks:=tk }:=let ⟨_,a,b,c,d⟩:=D.pushed o hf;D.addI a b c d tk
theorem Dyn.grow (D:Dyn X g L m I H σ s) {h':Heap} (hk:∀ b o,s.heap.get? b=some o→h'.get? b=some o) (tk:Nat):Dyn X g L m I H σ { s with heap:=h',toks:=tk }:=
 ⟨Fr.grownK D.F hk,D.S.ledger fun _ N=>N.grown hk,D.gens,D.os⟩
theorem Dyn.push (D:Dyn X g L m I H σ s) (o:Obj) (tk:Tok):Dyn X g L m I H σ { s with heap:=s.heap.push o,toks:=tk }:=
 ⟨D.F.push _,D.S.ledger fun _ N=>N.grown fun _ _ e=>Heap.get?_push_of_some _ e,D.gens,D.os⟩
theorem Dyn.seqI (D:Dyn X g L m I H σ s) {ws:List Value} {ys:List V} {Q:V→Store→Prop} {I₀:Led} (hI:I₀⊆I) (hv:VRs X (X.imm I) ws ys) (tk:Nat) :
  (Q (.tup ys) σ→TrR (VR X) X g L m I₀ H Q (.ref s.heap.objs.size) { s with heap:=s.heap.push { cls:=.type "tuple",data:=.seq ws.toArray },toks:=tk }) ∧
  (Q (.ro ys) σ→TrR (VR X) X g L m I₀ H Q (.ref s.heap.objs.size) { s with heap:=s.heap.push { cls:=.type "list",data:=.seq ws.toArray },toks:=tk }):=
 ⟨fun q=>⟨_,σ,.tup ys,fun _ z=>List.mem_cons_of_mem _ (hI z),D.pushI _ tk rfl,by exact ⟨_,_,ws,_,rfl,.inl (.head _),rfl,rfl,hv.mono (imm_mono fun _ z=>List.mem_cons_of_mem _ z)⟩,q⟩,
 fun q=>⟨_,σ,.ro ys,fun _ z=>List.mem_cons_of_mem _ (hI z),D.pushI _ tk rfl,by exact ⟨_,_,ws,_,rfl,.inl (.head _),rfl,rfl,hv.mono (imm_mono fun _ z=>List.mem_cons_of_mem _ z)⟩,q⟩⟩
inductive LsD (X:Cx) (P:Imm) (h:Heap) (vs:List V) (v:Value):Prop
 | mk (a:Addr) (items:List Value):v=.ref a→h.IsList a items.toArray→VRs X P items vs→LsD X P h vs v
inductive TpD (X:Cx) (P:Imm) (h:Heap) (vs:List V) (v:Value):Prop
 | mk (a:Addr) (items:List Value):v=.ref a→IsTup h a items.toArray→VRs X P items vs→TpD X P h vs v
inductive DcD (X:Cx) (P:Imm) (g:Heap) (L:Addr) (h:Heap) (es:List (List Nat×V)) (a:Addr):Prop
 | mk (o:Obj) (kvs:List (Str×Value)):News g L h [(a,o)]→o.IsDictOf (PySem.strKind X.prog X.w) kvs→KVR X P kvs es→(a==sysModules)=false→DcD X P g L h es a
inductive IsLs (σ:Store) (vs:List V):V→Prop
 | ro:IsLs σ vs (.ro vs)
 | ref {a}:(a,.list vs)∈σ→IsLs σ vs (.ref a)
theorem tup_at {P:Imm} {h:Heap} (hP:∀ a o,P a o→h.get? a=some o) {v:Value} {vs:List V} (hv:VR X P v (.tup vs)):TpD X P h vs v:=by
 obtain ⟨a,o,items,k,e,h1,h2,h3,h4⟩:=hv.e_tup
 exact ⟨a,items,e,⟨o,hP _ _ h1,h2,k,h3⟩,h4⟩
theorem Dyn.lst {outer:List Env} {A₁:Around} (D:Dyn X g L m I H σ s) (hB:Below A₁ X.base outer g) {y:V} {vs:List V} {v:Value} (h:IsLs σ vs y) (hv:VR X (X.imm I) v y):LsD X (X.imm I) s.heap vs v:=by
 cases h with
 | ro=>
  obtain ⟨a,o,items,k,e,h1,h2,h3,h4⟩:=hv.e_ro
  exact ⟨a,items,e,⟨o,D.imm hB _ _ h1,h2,k,h3⟩,h4⟩
 | ref hm=>
  obtain ⟨_,⟨items,k,rfl,h4⟩,hN⟩:=D.S.mem hm
  exact ⟨_,items,hv.e_ref,⟨_,(hN _ (.head _)).1,rfl,_,rfl⟩,h4⟩
theorem Sat.dict {h:Heap} (S:Sat X g L h I H σ) {a:Addr} {es:List (List Nat×V)} (hm:(a,AObj.dict es)∈σ):DcD X (X.imm I) g L h es a:=by
 obtain ⟨_,⟨o,kvs,rfl,h1,h2,h3⟩,hN⟩:=S.mem hm
 exact ⟨o,kvs,hN,h1,h2,h3⟩
def PlS (e:Expr):Prop:=∀ o i,subscripted e false o i=operate [o,i] (getItem o i)
inductive Ix (σ:Store):V→V→V→Prop
 | str {l i j c}:idx l.length i=some j→l[j]? = some c→Ix σ (.str l) (.int i) (.str [c])
 | tup {vs i j z}:idx vs.length i=some j→vs[j]? = some z→Ix σ (.tup vs) (.int i) z
 | lst {y vs i j z}:IsLs σ vs y→idx vs.length i=some j→vs[j]? = some z→Ix σ y (.int i) z
 | dict {a es l z}:(a,AObj.dict es)∈σ→dget es l=some z→Ix σ (.ref a) (.str l) z
inductive IxE (σ:Store) (y i:V) (P:V→Prop):Prop
 | mk {z:V}:Ix σ y i z→P z→IxE σ y i P
theorem Dyn.ix {outer:List Env} {A A₁:Around} {E:Value→Shared→Prop} {Q:Value→Shared→Prop} {value slice:Expr} {y z i:V} {v w:Value}
  (D:Dyn X g L m I H σ s) (hB:Below A₁ X.base outer g) (hs:PlS slice) (h:Ix σ y i z) (hy:VR X (X.imm I) v y) (hi:VR X (X.imm I) w i)
  (k:∀ u tk,VR X (X.imm I) u z→Q u { s with toks:=tk }):wpAny X.M A (subscriptTail value slice v w) Q E s:=by
 cases h with
 | @str l _ j c h1 h2=>
  obtain ⟨tt,rfl⟩:=hy.e_str
  obtain ⟨t,rfl⟩:=hi.e_int
  have h1:=idx_spec h1
  exact tail_any (ops:=_) (typeIs_str _ _ _) slot_str_getitem.lookup (PyProof.Rows.getItem_str (c:=c) (by rw [decide_eq_false (Int.not_lt.mpr h1.1.1),decide_eq_false (Int.not_le.mpr h1.1.2)];rfl) (show (seqIndex? _ l.toArray.size).bind _=_ by rw [List.size_toArray,h1.2];exact (List.getElem?_toArray).trans h2) (k _ _ (VR.i_strL (l:=[c])))) (hs _ _)
 | @tup vs _ j _ h1 h2=>
  obtain ⟨a,items,rfl,ht,hv⟩:=tup_at (D.imm hB) hy
  obtain ⟨t,rfl⟩:=hi.e_int
  have h1:=idx_spec h1
  obtain ⟨u,hu,hr⟩:=hv.get h2
  exact tail_any (ops:=_) ht.typeIs slot_tuple_getitem.lookup (PyProof.Rows.getItem_tuple (j:=j) ht h1.1.1 h1.1.2 (by rw [List.size_toArray,hv.len];exact h1.2) (by rw [List.getElem?_toArray];exact hu) (k _ s.toks hr)) (hs _ _)
 | @lst _ vs _ j _ hl h1 h2=>
  obtain ⟨a,items,rfl,ht,hv⟩:=D.lst hB hl hy
  obtain ⟨t,rfl⟩:=hi.e_int
  have h1:=idx_spec h1
  obtain ⟨u,hu,hr⟩:=hv.get h2
  exact tail_any (ops:=_) ht.typeIs list_getitem_lookup (getItem_list_at ht h1.1 (by rw [List.size_toArray,hv.len];exact h1.2) (by rw [List.getElem?_toArray];exact hu) (k _ s.toks hr)) (hs _ _)
 | @dict a es l z hm hz=>
  obtain ⟨t,rfl⟩:=hi.e_str
  obtain rfl:=hy.e_ref
  obtain ⟨o,kvs,hN,hd,hk,ns⟩:=D.S.dict hm
  have:=hk.find (l:=l)
  rw [hz] at this
  obtain ⟨u,e,hu⟩:=this
  have hD:=kda_dict hN (.head _) hd
  exact tail_any (ops:=_) hD.typeIs slot_dict_getitem.lookup (wpAny_getItem_of (knd:=PySem.strKind X.prog X.w) strKey hD.mapOf e (k _ _ hu)) (hs _ _)
theorem ev_item {value slice:Expr} {pos:Pos} {Q:V→Store→Prop} (hs:PlS slice) (h:Ev X ic n value ρ σ (fun y σ₁=>Ev X ic n slice ρ σ₁ (fun i σ₂=>IxE σ₂ y i fun z=>Q z σ₂) R) R) :
  Ev X ic n (.Subscript value slice pos) ρ σ Q R:=fun env' env outer A g L m I H s E a b c d=>by
 obtain ⟨A₁,hB⟩:=a.B
 refine Subscript_ (TrM (h env' env outer A g L m I H s E a b c d) fun v s₁ I₁ σ₁ y hI D hv hq=>TrM (hq env' env outer A g L m I₁ H s₁ E a D (c.mono (imm_mono hI)) d) fun w s₂ I₂ σ₂ i hI₂ D₂ hw q=>?_)
 obtain ⟨hx,q⟩:=q
 exact D₂.ix hB hs hx (hv.mono (imm_mono hI₂)) hw fun u tk hu=>⟨I₂,σ₂,_,fun _ z=>hI₂ (hI z),D₂.toks tk,hu,q⟩
abbrev EvO (X:Cx) (ic:IC) (n:Nat) (e:Option Expr) (ρ:LV) (σ:Store) (Q:V→Store→Prop) (R:Prop):Prop:=Tr (VR X) X ic n (evalPart e) ρ σ Q R
theorem evo_none {Q:V→Store→Prop} (h:Q .none σ):EvO X ic n none ρ σ Q R:=fun env' env outer A g L m I H s E a b c d=>evalPart_none_step ⟨I,σ,.none,fun _ z=>z,b,.i_none,h⟩
theorem evo_some {e:Expr} {Q:V→Store→Prop} (h:Ev X ic n e ρ σ Q R):EvO X ic n (some e) ρ σ Q R:=fun env' env outer A g L m I H s E a b c d=>evalPart_some_step (h env' env outer A g L m I H s E a b c d)
inductive Sl (σ:Store) (a b:Option Int):V→V→Prop
 | str {l}:l.length≤10000000→Sl σ a b (.str l) (.str (lsl l a b))
 | tup {vs}:vs.length≤10000000→(lsl vs a b).length≠vs.length→Sl σ a b (.tup vs) (.tup (lsl vs a b))
 | lst {y vs}:IsLs σ vs y→vs.length≤10000000→Sl σ a b y (.ro (lsl vs a b))
inductive SlE (σ:Store) (y l u:V) (P:V→Prop):Prop
 | mk {a b:Option Int} {z:V}:l=prt a→u=prt b→Sl σ a b y z→P z→SlE σ y l u P
theorem slice_sub {lower upper:Option Expr} {p:Pos} {o i:Value}:subscripted (.Slice lower upper none p) false o i=operate [i,o] (getItem o i):=rfl
theorem Dyn.sl {outer:List Env} {A A₁:Around} {E:Value→Shared→Prop} {Q:V→Store→Prop} {value:Expr} {lower upper:Option Expr} {ps:Pos} {y z:V} {v:Value} {p q:Option (Int×Tok)} {I₀:Led} (hI:I₀⊆I)
  (D:Dyn X g L m I H σ s) (hB:Below A₁ X.base outer g) (h:Sl σ (p.map (·.1)) (q.map (·.1)) y z) (hy:VR X (X.imm I) v y) (hq:Q z σ) :
  wpAny X.M A (subscriptTail value (.Slice lower upper none ps) v (.ref s.heap.objs.size)) (TrR (VR X) X g L m I₀ H Q) E { s with heap:=s.heap.push { cls:=.type "slice",data:=.fields #[partValue p,partValue q,.none] } }:=by
 have D1:=D.push { cls:=.type "slice",data:=.fields #[partValue p,partValue q,.none] } s.toks
 cases h with
 | @str l hl=>
  obtain ⟨tt,rfl⟩:=hy.e_str
  refine tail_any (ops:=_) (typeIs_str _ _ _) PySem.F.slot_str_getitem.lookup (wpAny_getItem_str_slice (l:=p) (u:=q) (st:=none) ⟨_,Heap.get?_push_size _ rfl,rfl,rfl⟩ rfl (post_val_or_str ⟨Nat.le_trans (Txt.slice_le _ _ _) ?_,fun t' tk=>?_⟩)) slice_sub
  ·exact Nat.le_trans hl (lbt rfl)
  ·show TrR (VR X) X g L m I₀ H Q (Value.str (Txt.slice ⟨l.toArray⟩ (p.map (·.1)) (q.map (·.1))) t') _
   rw [txt_slice]
   exact ⟨I,σ,_,hI,D1.toks _,.i_strL,hq⟩
 | @tup vs hl hw=>
  obtain ⟨a,items,rfl,ht,hv⟩:=tup_at (D1.imm hB) hy
  have hv':=hv.sl (p.map (·.1)) (q.map (·.1))
  refine tail_any (ops:=_) ht.typeIs slot_tuple_getitem.lookup (getItem_tuple_slice ht (p:=p) (q:=q) ⟨_,Heap.get?_push_size _ rfl,rfl,rfl⟩ ?_ ((D1.seqI hI hv' s.toks).1 hq) ?_) slice_sub
  ·rw [hv'.len,List.size_toArray,hv.len];exact hw
  ·rw [List.size_toArray,hv.len];exact Nat.le_trans hl (lbt rfl)
 | @lst _ vs hl hz=>
  obtain ⟨a,items,rfl,ht,hv⟩:=D1.lst hB (by cases hl with | ro=>exact .ro | ref h=>exact .ref h) hy
  refine tail_any (ops:=_) ht.typeIs list_getitem_lookup (wpAny_getItem_list_slice ht (Heap.IsSliceOf.new ..) (partValue_is p) (partValue_is q) .none (by simp) ?_ ?_) slice_sub
  ·rw [slicePick_lsl];exact (D1.seqI hI (hv.sl (p.map (·.1)) (q.map (·.1))) s.toks).2 hq
  ·rw [List.size_toArray,hv.len];exact Nat.le_trans hz (lbt rfl)
theorem ev_slice {value:Expr} {lower upper:Option Expr} {ps pos:Pos} {Q:V→Store→Prop}
  (h:Ev X ic n value ρ σ (fun y σ₁=>EvO X ic n lower ρ σ₁ (fun l σ₂=>EvO X ic n upper ρ σ₂ (fun u σ₃=>SlE σ₃ y l u fun z=>Q z σ₃) R) R) R) :
  Ev X ic n (.Subscript value (.Slice lower upper none ps) pos) ρ σ Q R:=fun env' env outer A g L m I H s E a b c d=>by
 obtain ⟨A₁,hB⟩:=a.B
 refine Subscript_ (TrM (h env' env outer A g L m I H s E a b c d) fun v s₁ I₁ σ₁ y hI D hv hq=>?_)
 refine wpAny_Slice (TrM (hq env' env outer A g L m I₁ H s₁ E a D (c.mono (imm_mono hI)) d) fun vl s₂ I₂ σ₂ l hI₂ D₂ hl hq₂=>?_)
 refine TrM (hq₂ env' env outer A g L m I₂ H s₂ E a D₂ (c.mono (imm_mono fun _ z=>hI₂ (hI z))) d) fun vu s₃ I₃ σ₃ u hI₃ D₃ hu q=>?_
 obtain ⟨el,eu,hsl,q⟩:=q
 subst el eu
 obtain ⟨p,rfl,rfl⟩:=prt_part (hl.mono (imm_mono hI₃))
 obtain ⟨q',rfl,rfl⟩:=prt_part hu
 exact evalPart_none_step (D₃.sl (fun _ z=>hI₃ (hI₂ (hI z))) hB hsl (hv.mono (imm_mono fun _ z=>hI₃ (hI₂ z))) q)
end
theorem kl_last_app (p:List Value) (y:Value):kl_last (p++[y])=some (p,y):=by
 induction p with
 | nil=>rfl
 | cons a r ih=>cases r with
  | nil=>rfl
  | cons b r=>simp only [List.cons_append,kl_last] at ih ⊢;rw [ih]
theorem VRs.snoc {C:Cx} {P:Imm}:∀ {v:List Value} {x:List V} {y:V},VRs C P v (x++[y])→∃ v' w,v=v'++[w]∧VRs C P v' x∧VR C P w y
 | [],[],_,e=>by simp only [List.nil_append,VRs] at e
 | [],_::_,_,e=>by simp only [List.cons_append,VRs] at e
 | v::r,[],y,e=>by
  simp only [List.nil_append,VRs] at e
  obtain rfl:=e.2.e_nil
  exact ⟨[],v,rfl,.i_nil,e.1⟩
 | v::r,x::xs,y,e=>by
  simp only [List.cons_append,VRs] at e
  obtain ⟨v',w,rfl,h1,h2⟩:=VRs.snoc e.2
  exact ⟨v::v',w,rfl,.i_cons e.1 h1,h2⟩
theorem UpdF.of_nodup {d:Addr} {o:Obj}:∀ {pre post:Led},((pre++(d,o)::post).map (·.1)).Nodup→UpdF d o (pre++(d,o)::post) (fun o'=>pre++(d,o')::post)
 | [],post,h=>by
  refine .head fun p hp e=>?_
  rw [List.nil_append,List.map_cons,List.nodup_cons] at h
  exact h.1 (List.mem_map.mpr ⟨p,hp,e⟩)
 | q::pre,post,h=>by
  rw [List.cons_append,List.map_cons,List.nodup_cons] at h
  exact .tail (fun e=>h.1 (List.mem_map.mpr ⟨(d,o),by simp,e.symm⟩)) (UpdF.of_nodup h.2)
theorem VRs.set {C:Cx} {P:Imm} {u:Value} {y:V} (hu:VR C P u y):∀ {vs:List Value} {xs:List V} {j:Nat},VRs C P vs xs→VRs C P (vs.set j u) (xs.set j y)
 | [],[],_,h=>h
 | v::vs,x::xs,0,h=>by simp only [VRs,List.set_cons_zero] at h ⊢;exact ⟨hu,h.2⟩
 | v::vs,x::xs,j+1,h=>by simp only [VRs,List.set_cons_succ] at h ⊢;exact ⟨h.1,VRs.set hu h.2⟩
 | [],_::_,_,h=>False.elim h
 | _::_,[],_,h=>False.elim h
section
variable {X:Cx} {fe:FE} {ic:IC} {n:Nat} {ρ:LV} {σ:Store} {R:Prop} {Q:V→Store→Prop}
variable {g:Heap} {L:Addr} {m:Str→Option Value} {I H:Led} {s:Shared}
theorem ev_bcall {x:Str} {np pos:Pos} {args:List Expr} {id:String} (hx:ic.gl x=true) (hg:Gl X x (.builtin id)) (hp:PlL args)
  (h:Es X ic n pos args ρ σ (fun ys σ₂=>Op X n ys (fun ws=>call (.builtin id) ws) σ₂ Q R) R) :
  Ev X ic n (.Call (.Name x np) args [] pos) ρ σ Q R:=fun env' env outer A g L m I H s E a b c d=>
 show wpAny X.M A (do callWith pos (← eval (.Name x np) env) [] (backTo pos (starEach args env)) (backToKw pos [])) _ E s from
 wpAny_bind (c.glo x _ hx hg A np I σ s _ E b (bi_go (first:=[]) a d hp (fun _ z=>z) .i_nil (h env' env outer A g L m I H s E a b c d)))
theorem ev_tcall {x:Str} {np pos:Pos} {args:List Expr} {id:String} (hx:ic.gl x=true) (hg:Gl X x (.type id)) (hp:PlL args)
  (h:Es X ic n pos args ρ σ (fun ys σ₂=>Op X n ys (fun ws=>call (.type id) ws) σ₂ Q R) R) :
  Ev X ic n (.Call (.Name x np) args [] pos) ρ σ Q R:=fun env' env outer A g L m I H s E a b c d=>
 show wpAny X.M A (do callWith pos (← eval (.Name x np) env) [] (backTo pos (starEach args env)) (backToKw pos [])) _ E s from
 wpAny_bind (c.glo x _ hx hg A np I σ s _ E b (PyProof.Rows.callWith_type (backTo_plain hp) (evalArgs_es hp (TrM (h env' env outer A g L m I H s E a b c d) fun vs s₂ I₂ σ₂ ys hI₂ D₂ hvs hq₂=>
  wpAny_mono (hq₂ env' outer A g L m I₂ H s₂ vs E a D₂ hvs d) (fun v s₃ z=>z.up hI₂) fun _ _ z=>z))))
structure BM (T:String) (name:Str) (id:String):Prop where
 pa:PlainAttrs T
 slot:PySem.Slot T name id
 ty:typeOf (.builtin id)=pure (.type "method_descriptor")
inductive Mu (σ:Store):V→String→Prop
 | str {l}:Mu σ (.str l) "str"
 | list {a l}:(a,AObj.list l)∈σ→Mu σ (.ref a) "list"
 | dict {a l}:(a,AObj.dict l)∈σ→Mu σ (.ref a) "dict"
 | rd {ks vs}:Mu σ (.rd ks vs) "dict"
inductive MuD (s:Shared) (v:Value) (T:String):Prop
 | mk:s.TypeIs v T→(∀ a,v=.ref a→∃ o,s.heap.get? a=some o∧o.dict=none)→MuD s v T
theorem MuD.of {a:Addr} {o:Obj} {T:String} (h:s.heap.get? a=some o) (hc:o.cls=.type T) (hd:o.dict=none):MuD s (.ref a) T:=
 ⟨⟨o,h,hc⟩,fun b e=>by cases e;exact ⟨o,h,hd⟩⟩
theorem Dyn.mu {outer:List Env} {A₁:Around} (D:Dyn X g L m I H σ s) (hB:Below A₁ X.base outer g) {y:V} {T:String} {v:Value} (h:Mu σ y T) (hv:VR X (X.imm I) v y):MuD s v T:=by
 cases h with
 | str=>
  obtain ⟨t,rfl⟩:=hv.e_str
  exact ⟨typeIs_str _ _ _,fun a e=>nomatch e⟩
 | list hm=>
  obtain ⟨_,⟨_,_,rfl,_⟩,hN⟩:=D.S.mem hm
  rw [hv.e_ref]
  exact .of (hN _ (.head _)).1 rfl rfl
 | dict hm=>
  obtain ⟨o,kvs,hN,⟨_,_,hx,_⟩,_⟩:=D.S.dict hm
  rw [hv.e_ref]
  exact .of (hN _ (.head _)).1 hx.1 hx.2.1
 | rd=>
  obtain ⟨a,o,kvs,des,ep,rfl,h1,⟨_,_,hx,_⟩,_⟩:=hv
  exact .of (D.imm hB _ _ h1) hx.1 hx.2.1
inductive MuE (σ:Store) (y:V) (T:String) (P:Prop):Prop
 | mk:Mu σ y T→P→MuE σ y T P
theorem ev_bmeth {o:Expr} {name:Str} {apos pos:Pos} {args:List Expr} {T id:String} (bm:BM T name id)
  (h:Ev X ic n o ρ σ (fun y σ₁=>MuE σ₁ y T (Es X ic n pos args ρ σ₁ (fun ys σ₂=>Op X n (y::ys) (fun ws=>call (.builtin id) ws) σ₂ Q R) R)) R)
  (hb:PlB o) (hp:PlL args) (hl:Nat.ble args.length 29=true) (he:apos.endLine=pos.line) :
  Ev X ic n (.Call (.Attribute o name apos) args [] pos) ρ σ Q R:=fun env' env outer A g L m I H s E a b c d=>by
 refine mth_go hb hp hl he (TrM (h env' env outer A g L m I H s E a b c d) fun v s₁ I₁ σ₁ y hI D hv hq=>?_)
 obtain ⟨A₁,hB⟩:=a.B
 obtain ⟨hm,hq⟩:=hq
 obtain ⟨h1,h2⟩:=D.mu hB hm hv
 exact getMethod_builtin (pl:=do return (← importBound o env).getD true) h1 bm.pa bm.slot bm.ty h2
  (bi_go (first:=[v]) (ys:=[y]) a d hp hI (.i_cons hv .i_nil) (hq env' env outer A g L m I₁ H s₁ E a D (c.mono (imm_mono hI)) d))
theorem sz_line {C:Cx} {P:Imm} {vs:List Value} {ys:List V} (hv:VRs C P vs ys) (hl:ys.length≤1000):vs.toArray.size≤sizeLine:=by
 rw [List.size_toArray,hv.len];exact Nat.le_trans hl (lbt rfl)
theorem ev_tuple {es:List Expr} {k:Nat} {pos:Pos} (h:Es X ic n pos es ρ σ (fun ys σ₁=>ys.length≤1000∧Q (.tup ys) σ₁) R):Ev X ic n (.Tuple es k pos) ρ σ Q R:=
 fun env' env outer A g L m I H s E a b c d=>Tuple_ (TrM (h env' env outer A g L m I H s E a b c d) fun vs s₁ I₁ σ₁ ys hI D hv q=>wpAny_newObj_type ((D.seqI hI hv s₁.toks).1 q.2) (sz_line hv q.1))
theorem ev_list_ro {es:List Expr} {pos:Pos} (h:Es X ic n pos es ρ σ (fun ys σ₁=>ys.length≤1000∧Q (.ro ys) σ₁) R):Ev X ic n (.List es pos) ρ σ Q R:=
 fun env' env outer A g L m I H s E a b c d=>List_ (TrM (h env' env outer A g L m I H s E a b c d) fun vs s₁ I₁ σ₁ ys hI D hv q=>wpAny_newObj_type ((D.seqI hI hv s₁.toks).2 q.2) (sz_line hv q.1))
theorem ev_list {es:List Expr} {pos:Pos} (h:Es X ic n pos es ρ σ (fun ys σ₁=>ys.length≤1000∧∀ a,Q (.ref a) ((a,.list ys)::σ₁)) R):Ev X ic n (.List es pos) ρ σ Q R:=
 fun env' env outer A g L m I H s E a b c d=>List_ (TrM (h env' env outer A g L m I H s E a b c d) fun vs s₁ I₁ σ₁ ys hI D hv q=>
  wpAny_newObj_type ⟨I₁,_,.ref s₁.heap.objs.size,hI,D.newObj _ (.list ys) s₁.toks rfl ⟨vs,0,rfl,hv⟩,.i_ref,q.2 _⟩ (sz_line hv q.1))
theorem Dyn.newDict (D:Dyn X g L m I H σ s) (T:TopRead X.p X.loose X.mg X.mb g) {A:Around} {E:Value→Shared→Prop} {P:Value→Shared→Prop} {pos:Pos} {env:Env} {ao:AObj} (ho:∀ P a o,o.IsDictOf (PySem.strKind X.prog X.w) []→(a==sysModules)=false→ObjR X P a ao [(a,o)])
  (h:∀ a s',(a==sysModules)=false→Dyn X g L m I H ((a,ao)::σ) s'→P (.ref a) s'):wpAny X.M A (eval (.Dict [] [] pos) env) P E s:=by
 obtain ⟨rs,hr,hN,hnd⟩:=D.S.ex
 exact newDict_K (prog:=X.prog) (w:=X.w) D.F hN T.nolimit fun dd h' o F' N' lo ns hd _ _ _=>h dd _ ns (D.addS (r:=[(dd,o)]) hr (ho _ _ _ hd ns) F' N' (nodup_new hnd fun q hq e=>Nat.lt_irrefl dd (by have:=lo q hq;rwa [e] at this)) _)
theorem ev_dict0 {pos:Pos} (h:∀ a,Q (.ref a) ((a,.dict [])::σ)):Ev X ic n (.Dict [] [] pos) ρ σ Q R:=
 fun env' env outer A g L m I H s E a b c d=>b.newDict (ao:=.dict []) a.T (fun P x o hd ns=>⟨o,[],rfl,hd,trivial,ns⟩) fun x s' ns D=>⟨I,_,.ref x,fun _ z=>z,D,.i_ref,h x⟩
theorem bm_append:BM "list" "append" "list.append":=⟨PySem.F.plainAttrs_list,slot_list_append,PySem.type_list_append⟩
theorem bm_pop:BM "list" "pop" "list.pop":=⟨PySem.F.plainAttrs_list,PySem.F.slot_list_pop,PySem.F.type_list_pop⟩
theorem le_line {k:Nat} (h:k≤10000000):k+1≤sizeLine:=Nat.le_trans (Nat.succ_le_succ h) (lbt rfl)
inductive LuE (σ:Store) (y:V) (vs vs':List V) (P:Store→Prop):Prop
 | mk {a σ'}:y=.ref a→UpdS a (.list vs) (.list vs') σ σ'→P σ'→LuE σ y vs vs' P
theorem o_append {a:Addr} {vs:List V} {y:V} {σ':Store} (u:UpdS a (.list vs) (.list (vs++[y])) σ σ') (hl:vs.length≤10000000) (h:Q .none σ'):Op2 X n (fun v w=>call (.builtin "list.append") [v,w]) (.ref a) y σ Q R:=
 fun env outer A g L m I H s v w E a' D hv hy d=>by
 rw [hv.e_ref]
 obtain ⟨_,⟨items,k,rfl,hvs⟩,hc⟩:=D.S.upd u
 obtain ⟨pre,post,_,hN,hnd,hk⟩:=hc [] [] a _ rfl
 refine append_K D.F hN (Upd.of_nodup hnd) (fun h' F' N'=>⟨I,σ',.none,fun _ z=>z,⟨F',hk h' _ ⟨items++[w],k+1,by rw [List.push_toArray];rfl,hvs.append (.i_cons hy .i_nil)⟩ N',D.gens,D.os⟩,.i_none,h⟩) ?_
 rw [List.size_toArray,hvs.len]
 exact Nat.le_of_succ_le (le_line hl)
theorem o_pop {a:Addr} {vs:List V} {y:V} {σ':Store} (u:UpdS a (.list (vs++[y])) (.list vs) σ σ') (hl:vs.length≤10000000) (h:Q y σ'):Op1 X n (fun v=>call (.builtin "list.pop") [v]) (.ref a) σ Q R:=
 fun env outer A g L m I H s v E a' D hv d=>by
 rw [hv.e_ref]
 obtain ⟨_,⟨items,k,rfl,hvs⟩,hc⟩:=D.S.upd u
 obtain ⟨pre,post,_,hN,hnd,hk⟩:=hc [] [] a _ rfl
 obtain ⟨it,w,rfl,h1,h2⟩:=hvs.snoc
 refine kl_pop D.F hN (kl_last_app it w) (Upd.of_nodup hnd) ?_ (fun h' F' N'=>⟨I,σ',y,fun _ z=>z,⟨F',hk h' _ ⟨it,k+1,rfl,h1⟩ N',D.gens,D.os⟩,h2,h⟩)
 rw [List.length_append,h1.len]
 exact le_line hl
theorem o_in_dict {a:Addr} {es:List (List Nat×V)} {k:List Nat} (hm:(a,AObj.dict es)∈σ) (h:Q (.bool (dget es k).isSome) σ):Op2 X n (compareOp .In) (.str k) (.ref a) σ Q R:=fun env outer A g L m I H s v w E a' D hv hw d=>by
 obtain ⟨t,rfl⟩:=hv.e_str
 rw [hw.e_ref]
 obtain ⟨o,kvs,hN,hd,hk,ns⟩:=D.S.dict hm
 exact kda_in (knd:=PySem.strKind X.prog X.w) hN (.head _) hd ns strKey _ (hk.has k) ⟨I,σ,_,fun _ z=>z,D.toks _,.i_bool,h⟩
theorem o_notin_dict {a:Addr} {es:List (List Nat×V)} {k:List Nat} (hm:(a,AObj.dict es)∈σ) (h:Q (.bool (!(dget es k).isSome)) σ):Op2 X n (compareOp .NotIn) (.str k) (.ref a) σ Q R:=fun env outer A g L m I H s v w E a' D hv hw d=>by
 obtain ⟨t,rfl⟩:=hv.e_str
 rw [hw.e_ref]
 obtain ⟨o,kvs,hN,hd,hk,ns⟩:=D.S.dict hm
 exact kdg_notin (knd:=PySem.strKind X.prog X.w) hN (.head _) hd ns strKey _ (hk.has k) ⟨I,σ,_,fun _ z=>z,D.toks _,.i_bool,h⟩
theorem KVR.getD {C:Cx} {P:Imm} {kvs:List (Str×Value)} {es:List (List Nat×V)} (h:KVR C P kvs es) (l:List Nat) {d:Value} {y:V} (hd:VR C P d y):VR C P ((valueAt kvs ⟨l.toArray⟩).getD d) ((dget es l).getD y):=by
 have:=h.find (l:=l)
 cases q:dget es l with
 | none=>rw [q] at this;rw [this];exact hd
 | some y=>rw [q] at this;obtain ⟨v,e,hv⟩:=this;rw [e];exact hv
theorem bm_get:BM "dict" "get" "dict.get":=⟨PySem.F.plainAttrs_dict,PySem.F.slot_dict_get,PySem.F.type_dict_get⟩
theorem o_get1 {a:Addr} {es:List (List Nat×V)} {k:List Nat} (hm:(a,AObj.dict es)∈σ) (h:Q ((dget es k).getD .none) σ):Op2 X n (fun v w=>call (.builtin "dict.get") [v,w]) (.ref a) (.str k) σ Q R:=fun env outer A g L m I H s v w E a' D hv hu d=>by
 obtain ⟨t,rfl⟩:=hu.e_str
 rw [hv.e_ref]
 obtain ⟨o,kvs,hN,hd,hk,ns⟩:=D.S.dict hm
 exact kdg_get1 (knd:=PySem.strKind X.prog X.w) hN (.head _) hd ns strKey _ rfl ⟨I,σ,_,fun _ z=>z,D.toks _,hk.getD k .i_none,h⟩
theorem o_get2 {a:Addr} {es:List (List Nat×V)} {k:List Nat} {y:V} (hm:(a,AObj.dict es)∈σ) (h:Q ((dget es k).getD y) σ):Op X n [.ref a,.str k,y] (fun ws=>call (.builtin "dict.get") ws) σ Q R:=fun env outer A g L m I H s ws E a' D hw d=>
 hw.three (F:=fun ws=>wpAny X.M A (call (.builtin "dict.get") ws) _ E s) fun u v w hu hv hw=>by
 obtain ⟨t,rfl⟩:=hv.e_str
 rw [hu.e_ref]
 obtain ⟨o,kvs,hN,hd,hk,ns⟩:=D.S.dict hm
 exact kdg_get2 (knd:=PySem.strKind X.prog X.w) hN (.head _) hd ns strKey _ rfl ⟨I,σ,_,fun _ z=>z,D.toks _,hk.getD k hw,h⟩
inductive SiE (σ:Store) (P:Store→Prop) (z:V):V→V→Prop
 | list {σ' a vs j}:UpdS a (.list vs) (.list (vs.set j z)) σ σ'→vs.length≤10000000→j<vs.length→P σ'→SiE σ P z (.ref a) (.int (j:Nat))
 | dict {σ' a es l}:UpdS a (.dict es) (.dict (dset es l z)) σ σ'→es.length≤10000000→P σ'→SiE σ P z (.ref a) (.str l)
theorem SiE.go {A:Around} {E:Value→Shared→Prop} {P:Unit→Shared→Prop} {y i z:V} {v u w:Value} {F:Store→Prop} (x:SiE σ F z y i)
  (D:Dyn X g L m I H σ s) (hv:VR X (X.imm I) v y) (hu:VR X (X.imm I) u i) (hw:VR X (X.imm I) w z) (h:∀ σ' s',Dyn X g L m I H σ' s'→F σ'→P () s'):wpAny X.M A (setItem v u w) P E s:=by
 cases x with
 | @list σ' a vs j up hl hj q=>
  obtain ⟨t,rfl⟩:=hu.e_int
  rw [hv.e_ref]
  obtain ⟨_,⟨items,k,rfl,hvs⟩,hc⟩:=D.S.upd up
  obtain ⟨pre,post,_,hN,hnd,hk⟩:=hc [] [] a _ rfl
  have zz:=hN (a,listOf items.toArray k) (List.mem_append.mpr (.inr (.head _)))
  refine ki_setAt zz.1 (Int.natCast_nonneg j) (Int.lt_of_lt_of_le (Int.ofNat_lt.mpr (Nat.lt_of_lt_of_le hj hl)) (by decide)) (by rw [List.size_toArray,hvs.len];exact Int.ofNat_lt.mpr hj) ?_
  rw [List.map_append,List.nodup_append,List.map_cons,List.nodup_cons] at hnd
  refine h σ' _ ⟨D.F.change (Heap.SameBut.update ..) zz.2.1 zz.2.2,hk _ _ ⟨items.set j w,k,rfl,hvs.set hw⟩ ?_,D.gens,D.os⟩ q
  exact ki_turn (n':=k) (its':=(items.set j w).toArray) (·.setIfInBounds j w) hN (fun p hp e=>hnd.2.2 p.1 (List.mem_map_of_mem (f:=(·.1)) hp) a (.head _) e) (fun p hp e=>hnd.2.1.1 (e▸List.mem_map_of_mem (f:=(·.1)) hp)) (by apply Array.toList_inj.mp;simp) (by simp)
 | @dict σ' a es l up hl q=>
  obtain ⟨t,rfl⟩:=hu.e_str
  rw [hv.e_ref]
  obtain ⟨_,⟨o,kvs,rfl,h1,h2,h3⟩,hc⟩:=D.S.upd up
  obtain ⟨pre,post,_,hN,hnd,hk⟩:=hc [] [] a _ rfl
  refine kda_set (knd:=PySem.strKind X.prog X.w) D.F hN (UpdF.of_nodup hnd) h1 strKey ?_ fun h' o' F' N' hd'=>h σ' _ ⟨F',hk h' _ ⟨o',_,rfl,hd',h2.stored hw,h3⟩ N',D.gens,D.os⟩ q
  rw [h2.len]
  exact Nat.le_of_succ_le (le_line hl)
theorem ex_setitem {o i e:Expr} {pa pos:Pos} {Q:QK} (hp:PlV e)
  (h:Ev X fe.ic n e ρ σ (fun z σ₁=>Ev X fe.ic n o ρ σ₁ (fun y σ₂=>Ev X fe.ic n i ρ σ₂ (fun k σ₃=>SiE σ₃ (fun σ₄=>Q.nx ρ σ₄) z y k) R) R) R):Ex1 X fe n (.Assign [.Subscript o i pa] e pos) ρ σ Q R:=
 fun outer A g L m I H s E a b c p d=>wpAny_Assign_Subscript (hs:=hp _ _ _) (h.sm a b c d fun w s₁ I₁ σ₁ z hI D c₁ hw hq=>
  Tr.sm hq a D c₁ d fun v s₂ I₂ σ₂ y hI₂ D₂ c₂ hv hq=>Tr.sm hq a D₂ c₂ d fun u s₃ I₃ σ₃ k hI₃ D₃ c₃ hu q=>
   q.go D₃ (hv.mono (imm_mono hI₃)) hu (hw.mono (imm_mono fun _ z=>hI₃ (hI₂ z))) fun σ₄ s₄ D₄ q=>⟨I₃,σ₄,m,ρ,fun _ z=>hI₃ (hI₂ (hI z)),D₄,c₃,.nx q⟩)
end
section
variable {X:Cx} {fe:FE} {ic:IC} {n:Nat} {ρ:LV} {σ:Store} {R:Prop} {Q:V→Store→Prop}
theorem ev_cmp2 {l r₁ r₂:Expr} {op₁ op₂:CmpOp} {pos:Pos} (hm:lastMarks [op₁,op₂] [r₁,r₂]=false)
  (h:Ev X ic n l ρ σ (fun y σ₁=>Ev X ic n r₁ ρ σ₁ (fun z σ₂=>Op2 X n (compareOp op₁) y z σ₂ (fun u σ₃=>IsB (fun b σ₃=>cond b (Ev X ic n r₂ ρ σ₃ (fun w σ₄=>Op2 X n (compareOp op₂) z w σ₄ Q R) R) (Q (.bool false) σ₃)) σ₃ u) R) R) R) :
  Ev X ic n (.Compare l [op₁,op₂] [r₁,r₂] pos) ρ σ Q R:=fun env' env outer A g L m I H s E a b c d=>by
 refine Compare_chain (hm:=hm) (TrM (h env' env outer A g L m I H s E a b c d) fun v s₁ I₁ σ₁ y hI D hv hq=>?_)
 refine chain_link (TrM (hq env' env outer A g L m I₁ H s₁ E a D (c.mono (imm_mono hI)) d) fun w s₂ I₂ σ₂ z hI₂ D₂ hw ho=>?_)
 refine TrM (ho env' outer A g L m I₂ H s₂ v w E a D₂ (hv.mono (imm_mono hI₂)) hw d) fun u s₃ I₃ σ₃ y₃ hI₃ D₃ hu q=>?_
 cases q with
 | @mk bb q=>
  refine truth_bool hu ?_
  cases bb with
  | false=>exact ⟨I₃,σ₃,.bool false,fun _ z=>hI₃ (hI₂ (hI z)),D₃,hu,q⟩
  | true=>
   refine chain_last (TrM (Tr.step q a D₃ (fun _ z=>z) (c.mono (imm_mono fun _ z=>hI₃ (hI₂ (hI z)))) d) fun x s₄ I₄ σ₄ w' hI₄ D₄ hx ho=>?_)
   exact wpAny_mono (ho env' outer A g L m I₄ H s₄ w x E a D₄ (hw.mono (imm_mono fun _ z=>hI₄ (hI₃ z))) hx d) (fun u s₅ z=>z.up fun _ z=>hI₄ (hI₃ (hI₂ (hI z)))) fun _ _ z=>z
theorem v_cat {i j:List Nat} (hz:i.length+j.length≤10000000):VOp X (binaryOp .Add) (.str i) (.str j) (.str (i++j)):=fun A P va vb s Q E _ _ _ ha hb h=>by
 obtain ⟨t,rfl⟩:=ha.e_str;obtain ⟨u,rfl⟩:=hb.e_str
 refine PyProof.Rows.add_str (fun t' tk=>?_) (by rw [sizeLine_eq];simp [Str.length];omega)
 have:=h (.str (⟨i.toArray⟩++⟨j.toArray⟩) t') tk
 have e:(⟨i.toArray⟩++⟨j.toArray⟩:Str)=⟨(i++j).toArray⟩:=congrArg Str.mk (by simp)
 rw [e] at this ⊢
 exact this .i_strL
noncomputable def lfind (w:List Nat):List Nat→Option Nat
 | []=>if w.isPrefixOf [] then some 0 else none
 | c::r=>if w.isPrefixOf (c::r) then some 0 else (lfind w r).map (·+1)
theorem subAt_pre (l w:List Nat) (i:Nat):Builtin.Str.subAt ⟨l.toArray⟩ ⟨w.toArray⟩ i=w.isPrefixOf (l.drop i):=by
 rw [StrLaws.subAt_eq]
 show ((l.drop i).take w.length==w)=_
 rw [Bool.eq_iff_iff,beq_iff_eq,List.isPrefixOf_iff_prefix,List.prefix_iff_eq_take]
 exact eq_comm
theorem at_pre (l w:List Nat) (i:Nat):StrLaws.At ⟨l.toArray⟩ ⟨w.toArray⟩ l.length i↔i≤l.length∧w.isPrefixOf (l.drop i)=true:=by
 unfold StrLaws.At
 rw [subAt_pre]
 constructor
 ·rintro ⟨a,b⟩
  exact ⟨by simp [Str.length] at a;omega,b⟩
 ·rintro ⟨a,b⟩
  refine ⟨?_,b⟩
  have:=(List.isPrefixOf_iff_prefix.mp b).length_le
  rw [List.length_drop] at this
  simp [Str.length];omega
theorem lfind_none {w:List Nat}:∀ {l:List Nat},lfind w l=none↔∀ i,i≤l.length→w.isPrefixOf (l.drop i)=false
 | []=>by
  unfold lfind
  constructor
  ·intro h i hi
   have:i=0:=by simpa using hi
   subst this
   split at h
   ·cases h
   ·rename_i q;exact Bool.eq_false_iff.mpr q
  ·intro h
   have:=h 0 (Nat.le_refl _)
   rw [List.drop_zero] at this
   rw [this];rfl
 | c::r=>by
  unfold lfind
  constructor
  ·intro h
   split at h
   ·cases h
   ·rename_i q
    rw [Option.map_eq_none_iff] at h
    have ih:=lfind_none.mp h
    intro i hi
    cases i with
    | zero=>rw [List.drop_zero];exact Bool.eq_false_iff.mpr q
    | succ i=>rw [List.drop_succ_cons];exact ih i (by simpa using hi)
  ·intro h
   have h0:=h 0 (Nat.zero_le _)
   rw [List.drop_zero] at h0
   rw [h0]
   have:lfind w r=none:=lfind_none.mpr fun i hi=>by
    have:=h (i+1) (by simpa using hi)
    rwa [List.drop_succ_cons] at this
   rw [this];rfl
theorem lfind_some {w:List Nat}:∀ {l:List Nat} {k:Nat},lfind w l=some k↔k≤l.length∧w.isPrefixOf (l.drop k)=true∧∀ i,i<k→w.isPrefixOf (l.drop i)=false
 | [],k=>by
  unfold lfind
  constructor
  ·intro h
   split at h
   ·rename_i q;cases h;exact ⟨Nat.le_refl _,by rw [List.drop_zero];exact q,fun _ h=>absurd h (Nat.not_lt_zero _)⟩
   ·cases h
  ·rintro ⟨a,b,c⟩
   have:k=0:=by simpa using a
   subst this
   rw [List.drop_zero] at b
   rw [b];rfl
 | c::r,k=>by
  unfold lfind
  constructor
  ·intro h
   split at h
   ·rename_i q;cases h;exact ⟨Nat.zero_le _,by rw [List.drop_zero];exact q,fun _ h=>absurd h (Nat.not_lt_zero _)⟩
   ·rename_i q
    rw [Option.map_eq_some_iff] at h
    obtain ⟨j,hj,rfl⟩:=h
    obtain ⟨a,b,d⟩:=lfind_some.mp hj
    refine ⟨by simpa using a,by rw [List.drop_succ_cons];exact b,fun i hi=>?_⟩
    cases i with
    | zero=>rw [List.drop_zero];exact Bool.eq_false_iff.mpr q
    | succ i=>rw [List.drop_succ_cons];exact d i (by omega)
  ·rintro ⟨a,b,d⟩
   cases k with
   | zero=>rw [List.drop_zero] at b;rw [b];rfl
   | succ k=>
    have h0:=d 0 (by omega)
    rw [List.drop_zero] at h0
    rw [h0]
    have:lfind w r=some k:=lfind_some.mpr ⟨by simpa using a,by rwa [List.drop_succ_cons] at b,fun i hi=>by
     have:=d (i+1) (by omega)
     rwa [List.drop_succ_cons] at this⟩
    rw [this];rfl
theorem occ_lfind (l w:List Nat) (lo:Nat) (hlo:lo≤l.length):(Builtin.Str.occurrences ⟨l.toArray⟩ ⟨w.toArray⟩ lo l.length 1).head? = (lfind w (l.drop lo)).map (lo+·):=by
 have hl:(⟨l.toArray⟩:Str).length=l.length:=by simp [Str.length]
 have k:=StrLaws.occ_head_from ⟨l.toArray⟩ ⟨w.toArray⟩ lo 1 (Nat.le_refl _)
 rw [hl] at k
 rcases k with ⟨e,hn⟩ | ⟨i,r,e,h1,h2,h3⟩
 ·rw [e]
  have:lfind w (l.drop lo)=none:=lfind_none.mpr fun i hi=>by
   have:=hn (lo+i) (by omega)
   rw [at_pre] at this
   rw [List.length_drop] at hi
   rw [List.drop_drop]
   cases q:w.isPrefixOf (l.drop (lo+i)) with
   | false=>rfl
   | true=>exact absurd ⟨by omega,q⟩ this
  rw [this];rfl
 ·rw [e]
  rw [at_pre] at h2
  have:lfind w (l.drop lo)=some (i - lo):=lfind_some.mpr ⟨by rw [List.length_drop];omega,by rw [List.drop_drop,show lo+(i - lo)=i by omega];exact h2.2,fun j hj=>by
   have:=h3 (lo+j) (by omega) (by omega)
   rw [at_pre] at this
   rw [List.drop_drop]
   cases q:w.isPrefixOf (l.drop (lo+j)) with
   | false=>rfl
   | true=>exact absurd ⟨by omega,q⟩ this⟩
  rw [this]
  simp only [List.head?_cons,Option.map_some]
  congr 1;omega
theorem occ_isSome {l w:List Nat}:(!(Builtin.Str.occurrences ⟨l.toArray⟩ ⟨w.toArray⟩ 0 l.length 1).isEmpty)=(lfind w l).isSome:=by
 have:=congrArg Option.isSome (occ_lfind l w 0 (Nat.zero_le _))
 rw [List.drop_zero,Option.isSome_map] at this
 rw [← this]
 cases Builtin.Str.occurrences ⟨l.toArray⟩ ⟨w.toArray⟩ 0 l.length 1<;>rfl
theorem v_inL {w l:List Nat}:VOp X (compareOp .In) (.str w) (.str l) (.bool (lfind w l).isSome):=fun A P va vb s Q E a b c ha hb h=>
 v_in A P va vb s Q E a b c ha hb fun v tk hv=>h v tk (occ_isSome▸hv)
theorem v_notinL {w l:List Nat}:VOp X (compareOp .NotIn) (.str w) (.str l) (.bool (!(lfind w l).isSome)):=fun A P va vb s Q E a b c ha hb h=>
 v_notin A P va vb s Q E a b c ha hb fun v tk hv=>h v tk (occ_isSome▸hv)
theorem bm_startswith:BM "str" "startswith" "str.startswith":=⟨PySem.F.plainAttrs_str,PySem.F.slot_str_startswith,PySem.F.type_str_startswith⟩
theorem bm_find:BM "str" "find" "str.find":=⟨PySem.F.plainAttrs_str,PySem.F.slot_str_find,PySem.F.type_str_find⟩
theorem bm_lower:BM "str" "lower" "str.lower":=⟨PySem.F.plainAttrs_str,PySem.F.slot_str_lower,PySem.F.type_str_lower⟩
theorem bm_upper:BM "str" "upper" "str.upper":=⟨PySem.F.plainAttrs_str,PySem.F.slot_str_upper,PySem.F.type_str_upper⟩
theorem bm_join:BM "str" "join" "str.join":=⟨PySem.F.plainAttrs_str,PySem.F.slot_str_join,PySem.F.type_str_join⟩
theorem bm_replace:BM "str" "replace" "str.replace":=⟨PySem.F.plainAttrs_str,PySem.F.slot_str_replace,PySem.F.type_str_replace⟩
theorem str_len (l:List Nat):(⟨l.toArray⟩:Str).length=l.length:=List.size_toArray ..
theorem from_nat {l:List Nat} {i:Nat} (h:i≤l.length):fromIndex (⟨l.toArray⟩:Str).length (i:Int)=i:=by unfold fromIndex;rw [str_len,if_neg (by omega)];omega
theorem o_startswith {l w:List Nat} {i:Nat} (hi:i≤l.length) (h:Q (.bool (w.isPrefixOf (l.drop i))) σ):Op X n [.str l,.str w,.int i] (fun ws=>call (.builtin "str.startswith") ws) σ Q R:=
 fun env outer A g L m I H s ws E a' D hw d=>hw.three (F:=fun ws=>wpAny X.M A (call (.builtin "str.startswith") ws) _ E s) fun u v w' hu hv hw=>by
 obtain ⟨t,rfl⟩:=hu.e_str;obtain ⟨u,rfl⟩:=hv.e_str;obtain ⟨t3,rfl⟩:=hw.e_int
 have e:Txt.startswith3 ⟨l.toArray⟩ ⟨w.toArray⟩ i=w.isPrefixOf (l.drop i):=by
  unfold Txt.startswith3
  rw [from_nat hi,subAt_pre,str_len,str_len]
  cases q:w.isPrefixOf (l.drop i) with
  | false=>exact Bool.and_false _
  | true=>
   have:=(List.isPrefixOf_iff_prefix.mp q).length_le
   rw [List.length_drop] at this
   rw [decide_eq_true (by omega)];rfl
 exact SC.startswith3 ⟨I,σ,_,fun _ z=>z,D,.i_bool,e▸h⟩
noncomputable def fnd (i:Nat) (o:Option Nat):Int:=o.elim (-1) fun k=>((i+k:Nat):Int)
theorem occ_find {l w:List Nat} {i:Nat} {o:List Nat} (h:o.head? = (lfind w (l.drop i)).map (i+·)):(match (generalizing:=false) o with | k::_=>(k:Int) | []=>-1)=fnd i (lfind w (l.drop i)):=by
 cases o with
 | nil=>cases q:lfind w (l.drop i) with
  | none=>rfl
  | some _=>rw [q] at h;cases h
 | cons b t=>cases q:lfind w (l.drop i) with
  | none=>rw [q] at h;cases h
  | some k=>rw [q] at h;cases h;rfl
theorem o_find {l w:List Nat} {i:Nat} (hi:i≤l.length) (h:Q (.int (fnd i (lfind w (l.drop i)))) σ):Op X n [.str l,.str w,.int i] (fun ws=>call (.builtin "str.find") ws) σ Q R:=
 fun env outer A g L m I H s ws E a' D hw d=>hw.three (F:=fun ws=>wpAny X.M A (call (.builtin "str.find") ws) _ E s) fun u v w' hu hv hw=>by
 obtain ⟨t,rfl⟩:=hu.e_str;obtain ⟨u,rfl⟩:=hv.e_str;obtain ⟨t3,rfl⟩:=hw.e_int
 have e:Txt.find3 ⟨l.toArray⟩ ⟨w.toArray⟩ i=fnd i (lfind w (l.drop i)):=by
  unfold Txt.find3
  rw [from_nat hi,str_len]
  exact occ_find (occ_lfind l w i hi)
 exact SC.find3 ⟨I,σ,_,fun _ z=>z,D.toks _,.i_int,e▸h⟩
theorem v_find {l w:List Nat}:VOp X (fun v u=>call (.builtin "str.find") [v,u]) (.str l) (.str w) (.int (fnd 0 (lfind w l))):=fun A P va vb s Q E a b c ha hb h=>by
 obtain ⟨t,rfl⟩:=ha.e_str;obtain ⟨u,rfl⟩:=hb.e_str
 have e:(Txt.find ⟨l.toArray⟩ ⟨w.toArray⟩:Int)=fnd 0 (lfind w l):=by
  unfold Txt.find
  rw [str_len]
  exact occ_find (occ_lfind l w 0 (Nat.zero_le _))
 exact SC.find (h _ _ (e▸.i_int))
theorem v_ord {c:Nat}:VOp1 X (fun v=>call (.builtin "ord") [v]) (.str [c]) (.int c):=fun A P va s Q E a b c ha h=>by
 obtain ⟨t,rfl⟩:=ha.e_str
 exact PySem.P.ord_of_char (h _ _ .i_int)
theorem v_chr {c:Int} (h0:0≤c) (hc:c≤1114111):VOp1 X (fun v=>call (.builtin "chr") [v]) (.int c) (.str [c.toNat]):=fun A P va s Q E a b _ ha h=>by
 obtain ⟨t,rfl⟩:=ha.e_int
 exact chr_of_range h0 (by omega) (h _ _ (VR.i_strL (l:=[c.toNat])))
theorem v_len_str {l:List Nat} (hz:l.length≤10000000):VOp1 X (fun v=>call (.builtin "len") [v]) (.str l) (.int l.length):=fun A P va s Q E a b c ha h=>by
 obtain ⟨t,rfl⟩:=ha.e_str
 have k:(⟨l.toArray⟩:Str).length=l.length:=str_len l
 exact PyProof.Rows.len_str (by rw [k];omega) (h _ _ (by rw [k];exact .i_int))
theorem o_len_tup {l:List V} (hz:l.length≤10000000) (h:Q (.int l.length) σ):Op1 X n (fun v=>call (.builtin "len") [v]) (.tup l) σ Q R:=
 fun env outer A g L m I H s v E a' D hv d=>by
 obtain ⟨A₁,hB⟩:=a'.B
 obtain ⟨a,items,rfl,ht,hi⟩:=tup_at (D.imm hB) hv
 have k:items.toArray.size=l.length:=hi.len▸List.size_toArray ..
 exact PyProof.Rows.len_tuple ht (by rw [k];omega) ⟨I,σ,_,fun _ z=>z,D.toks _,by rw [k];exact .i_int,h⟩
theorem o_len_lst {y:V} {l:List V} (hm:IsLs σ l y) (hz:l.length≤10000000) (h:Q (.int l.length) σ):Op1 X n (fun v=>call (.builtin "len") [v]) y σ Q R:=
 fun env outer A g L m I H s v E a' D hv d=>by
 obtain ⟨A₁,hB⟩:=a'.B
 obtain ⟨a,items,rfl,ht,hi⟩:=D.lst hB hm hv
 have k:items.toArray.size=l.length:=hi.len▸List.size_toArray ..
 exact PyProof.Rows.len_list ht (by rw [k];omega) ⟨I,σ,_,fun _ z=>z,D.toks _,by rw [k];exact .i_int,h⟩
theorem o_tuple_lst {y:V} {l:List V} (hm:IsLs σ l y) (hz:l.length≤10000000) (h:Q (.tup l) σ):Op1 X n (fun v=>call (.type "tuple") [v]) y σ Q R:=
 fun env outer A g L m I H s v E a' D hv d=>by
 obtain ⟨A₁,hB⟩:=a'.B
 obtain ⟨a,items,rfl,ht,hi⟩:=D.lst hB hm hv
 refine call_tuple_list ht (fun h' hk=>((D.grow hk s.toks).seqI (fun _ z=>z) hi s.toks).1 h) ?_
 rw [List.size_toArray,hi.len];exact Nat.le_of_succ_le (le_line hz)
theorem o_tuple_tup {l:List V} (h:Q (.tup l) σ):Op1 X n (fun v=>call (.type "tuple") [v]) (.tup l) σ Q R:=
 fun env outer A g L m I H s v E a' D hv d=>by
 obtain ⟨A₁,hB⟩:=a'.B
 obtain ⟨a,items,rfl,ht,_⟩:=tup_at (D.imm hB) hv
 exact call_tuple_tup ht ⟨I,σ,_,fun _ z=>z,D,hv,h⟩
theorem o_max {i j:Int} (h:Q (.int (if j > i then j else i)) σ):Op2 X n (fun v w=>call (.builtin "max") [v,w]) (.int i) (.int j) σ Q R:=
 fun env outer A g L m I H s v w E a' D hv hw d=>by
 obtain ⟨t,rfl⟩:=hv.e_int;obtain ⟨u,rfl⟩:=hw.e_int
 exact max_two_ints a'.hd fun h' tk hk=>⟨I,σ,_,fun _ z=>z,D.grow hk tk,by split<;>exact VR.i_int,h⟩
theorem v_int_int {i:Int}:VOp1 X (fun v=>call (.type "int") [v]) (.int i) (.int i):=fun A P va s Q E a b c ha h=>by
 obtain ⟨t,rfl⟩:=ha.e_int
 exact call_int_int (h _ s.toks .i_int)
theorem v_int_bool {i:Bool}:VOp1 X (fun v=>call (.type "int") [v]) (.bool i) (.int (if i then 1 else 0)):=fun A P va s Q E a b c ha h=>by
 rw [ha.e_bool]
 exact call_int_bool (h _ _ .i_int)
end
def LV.sets (K:LV→Prop):List Nat→List V→LV→Prop
 | [],[],ρ=>K ρ
 | i::is,y::ys,ρ=>ρ.set i y (LV.sets K is ys)
 | _,_,_=>False
inductive TG where
 | nm (i:Nat)
 | tp (is:List Nat)
def asgT (K:LV→Prop) (ρ:LV):TG→V→Prop
 | .nm i,y=>ρ.set i y K
 | .tp is,.tup ys=>LV.sets K is ys ρ
 | _,_=>False
inductive Tgs (fe:FE):List Nat→List Expr→Prop
 | nil:Tgs fe [] []
 | cons {i is x px es}:fe.ls[i]? = some x→Tgs fe is es→Tgs fe (i::is) (.Name x px::es)
inductive Tg (fe:FE):TG→Expr→Prop
 | nm {i x px}:fe.ls[i]? = some x→Tg fe (.nm i) (.Name x px)
 | tp {is es k p}:Tgs fe is es→Tg fe (.tp is) (.Tuple es k p)
section
variable {X:Cx} {fe:FE} {ic:IC} {n:Nat} {ρ:LV} {σ:Store} {R:Prop} {Q:QK}
variable {g:Heap} {L:Addr} {m:Str→Option Value} {I H:Led} {s:Shared}
theorem Tgs.go {A:Around} {E:Value→Shared→Prop} {K:LV→Prop} {P:Unit→Shared→Prop} {is:List Nat} {es:List Expr} (t:Tgs fe is es) :
  ∀ {ws:List Value} {ys:List V} {ρ:LV} {m:Str→Option Value} {s:Shared},Dyn X g L m I H σ s→LocR X fe (X.imm I) m ρ→VRs X (X.imm I) ws ys→LV.sets K is ys ρ →
   (∀ m' s' ρ',Dyn X g L m' I H σ s'→LocR X fe (X.imm I) m' ρ'→K ρ'→P () s')→wpAny X.M A (assignInOrder ((assignEach es (fe.env L)).map (·.2)) ws) P E s:=by
 induction t with
 | nil=>
  intro ws ys ρ m s D c hw h k
  cases ys with
  | cons _ _=>exact h.elim
  | nil=>rw [hw.e_nil];exact assignInOrder_nil (k _ _ _ D c h)
 | cons hx _ ih=>
  intro ws ys ρ m s D c hw h k
  cases ys with
  | nil=>exact h.elim
  | cons y ys=>
   obtain ⟨v,ws,rfl,hv,hws⟩:=hw.e_cons
   exact assignInOrder_cons (PyProof.Rows.assign_Name (D.store c hx hv h fun m' ρ' s' D' c' h'=>ih D' c' hws h' k))
theorem Tgs.len {is:List Nat} {es:List Expr} (t:Tgs fe is es) {K:LV→Prop} {env:Env}:∀ {ys:List V} {ρ:LV},LV.sets K is ys ρ→(assignEach es env).length=ys.length∧(assignEach es env).findIdx? (·.1)=none:=by
 induction t with
 | nil=>
  intro ys ρ h
  cases ys with
  | cons _ _=>exact h.elim
  | nil=>exact ⟨rfl,rfl⟩
 | cons hx _ ih=>
  intro ys ρ h
  cases ys with
  | nil=>exact h.elim
  | cons y ys=>
   obtain ⟨ρ',_,h⟩:=LV.set_is h
   have k:=ih h
   exact ⟨congrArg Nat.succ k.1,by show List.findIdx? _ ((false,_)::assignEach _ env)=none;rw [List.findIdx?_cons,k.2];rfl⟩
theorem Dyn.extBut (D:Dyn X g L m I H σ s) {b:Addr} {h':Heap} (hs:Heap.ExtBut b s.heap h') (hb:s.heap.objs.size≤b) (tk:Nat):Dyn X g L m I H σ { s with heap:=h',toks:=tk }:=
 ⟨D.F.extBut hs hb,D.S.ledger fun _ N=>N.extBut hs hb,D.gens,D.os⟩
theorem Tg.go {A A₁:Around} {outer:List Env} {E:Value→Shared→Prop} {K:LV→Prop} {P:Unit→Shared→Prop} {t:TG} {e:Expr} (ht:Tg fe t e) (hh:A.handled=none) (hB:Below A₁ X.base outer g) {v:Value} {y:V}
  (D:Dyn X g L m I H σ s) (c:LocR X fe (X.imm I) m ρ) (hv:VR X (X.imm I) v y) (h:asgT K ρ t y)
  (k:∀ m' s' ρ',Dyn X g L m' I H σ s'→LocR X fe (X.imm I) m' ρ'→K ρ'→P () s'):wpAny X.M A (assign e (fe.env L) v) P E s:=by
 cases ht with
 | nm hx=>exact PyProof.Rows.assign_Name (D.store c hx hv h fun m' ρ' s' D' c' hk=>k _ _ _ D' c' hk)
 | tp ts=>
  cases y<;>try exact h.elim
  obtain ⟨b,items,rfl,hu,hi⟩:=tup_at (D.imm hB) hv
  have hl:=ts.len (env:=fe.env L) h
  exact assign_Tuple_tuple hh hu (by rw [hl.1,List.size_toArray,hi.len]) hl.2 fun h' he=>ts.go (D.extBut he (Nat.le_refl _) s.toks) c hi h k
def PlU (fe:FE) (es:List Expr) (k:Nat) (pt:Pos) (e:Expr) (l:Nat):Prop:=∀ L,swapsWithSole [.Tuple es k pt] e l (fe.env L)=pure false∧swappedStores [.Tuple es k pt] e (fe.env L)=pure none
theorem ex_unpack {es:List Expr} {k:Nat} {pt pos:Pos} {e:Expr} {is:List Nat} (hu:PlU fe es k pt e pos.line) (ht:Tgs fe is es) (h:Ev X fe.ic n e ρ σ (fun y σ'=>asgT (fun ρ'=>Q.nx ρ' σ') ρ (.tp is) y) R) :
  Ex1 X fe n (.Assign [.Tuple es k pt] e pos) ρ σ Q R:=
 fun outer A g L m I H s E a b c p d=>by
 obtain ⟨A₁,hB⟩:=a.B
 exact Assign_Tuple (hs:=(hu L).1) (hw:=(hu L).2) (h.sm a b c d fun v s₁ I₁ σ₁ y hI D c₁ hv hq=>
  (Tg.tp ht).go a.hd hB D c₁ hv hq fun m' s' ρ' D' c' hk=>⟨I₁,σ₁,m',ρ',hI,D',c',.nx hk⟩)
def PlW (fe:FE) (x y:Str) (es:List Expr) (k:Nat) (pt:Pos) (e:Expr) (l:Nat):Prop:=∀ L,swapsWithSole [.Tuple es k pt] e l (fe.env L)=pure false∧swappedStores [.Tuple es k pt] e (fe.env L)=pure (some [x,y])
theorem ex_swap2 {x y:Str} {px py:Pos} {k k':Nat} {pt pt' pos:Pos} {e₁ e₂:Expr} {i j:Nat} (hx:fe.ls[i]? = some x) (hy:fe.ls[j]? = some y) (p1:PlA e₁) (p2:PlA e₂)
  (hu:PlW fe x y [.Name x px,.Name y py] k pt (.Tuple [e₁,e₂] k' pt') pos.line)
  (h:Ev X fe.ic n e₁ ρ σ (fun v₁ σ₁=>Ev X fe.ic n e₂ ρ σ₁ (fun v₂ σ₂=>ρ.set j v₂ fun ρ₁=>ρ₁.set i v₁ fun ρ₂=>Q.nx ρ₂ σ₂) R) R) :
  Ex1 X fe n (.Assign [.Tuple [.Name x px,.Name y py] k pt] (.Tuple [e₁,e₂] k' pt') pos) ρ σ Q R:=fun outer A g L m I H s E a b c p d=>by
 obtain ⟨A₁,hB⟩:=a.B
 have t:Es X fe.ic n pt' [e₁,e₂] ρ σ (fun ys σ₂=>ys.length≤1000∧∃ v₁ v₂,ys=[v₁,v₂]∧ρ.set j v₂ fun ρ₁=>ρ₁.set i v₁ fun ρ₂=>Q.nx ρ₂ σ₂) R:=
  es_cons p1 (h.mono (fun y₁ σ₁ h=>es_cons p2 (Tr.mono h (fun y₂ σ₂ h=>es_nil ⟨lbt rfl,_,_,rfl,h⟩) id)) id)
 refine Assign_Tuple_swapped (hs:=(hu L).1) (hw:=(hu L).2) (Tr.sm (ev_tuple (Q:=fun y σ₂=>∃ v₁ v₂,y=.tup [v₁,v₂]∧ρ.set j v₂ fun ρ₁=>ρ₁.set i v₁ fun ρ₂=>Q.nx ρ₂ σ₂) (t.mono (fun ys σ₂ h=>⟨h.1,let ⟨a,b,e,q⟩:=h.2;⟨a,b,congrArg V.tup e,q⟩⟩) id)) a b c d fun v s₁ I₁ σ₁ y hI D c₁ hv hq=>?_)
 obtain ⟨v₁,v₂,rfl,hq⟩:=hq
 obtain ⟨b,items,rfl,ht,hi⟩:=tup_at (D.imm hB) hv
 have hn:([x,y]:List Str).length=items.toArray.size:=by rw [List.size_toArray,hi.len];rfl
 rw [hn]
 refine unpackItems_tuple a.hd ht fun h' he=>?_
 have D₂:=D.extBut he (Nat.le_refl _) s₁.toks
 refine hi.two (F:=fun items=>wpAny X.M A (assignInOrder ([x,y].reverse.map fun n=>bindName (fe.env L) n) items.reverse) _ E _) fun w₁ w₂ hw₁ hw₂=>?_
 refine assignInOrder_cons (PyProof.Rows.bindName_ (D₂.store c₁ hy hw₂ hq fun m' ρ' s' D' c' hq=>?_))
 exact assignInOrder_cons (PyProof.Rows.bindName_ (D'.store c' hx hw₁ hq fun m' ρ' s' D' c' hq=>assignInOrder_nil ⟨I₁,σ₁,m',ρ',hI,D',c',.nx hq⟩))
noncomputable def plainIter (o:Obj):Bool:=match o.cls,o.data with
 | .type n,.fields _=>!["enumerate", "zip", "dict_itemiterator", "dict_reverseitemiterator", "odict_iterator", "itertools.zip_longest", "itertools.pairwise"].contains n
 | _,_=>true
inductive AtH (X:Cx) (g:Heap) (L:Addr) (m:Str→Option Value) (I H:Led) (σ:Store) (s:Shared) (it:Addr) (o:Obj):Prop
 | mk (rs:Led):StoreR X (X.imm I) σ rs→s.heap.get? it=some o→it≠L→g.get? it=none→News g L s.heap (I++(H++rs))→((I++(H++rs)).map (·.1)).Nodup→(∀ p∈I++(H++rs),p.1≠it)→AtH X g L m I H σ s it o
theorem Dyn.atH {it:Addr} {o:Obj} (D:Dyn X g L m I ((it,o)::H) σ s):AtH X g L m I H σ s it o:=by
 obtain ⟨rs,hr,hN,hnd⟩:=D.S.ex
 have p:=led_hand I H [(it,o)] rs
 have nd:=List.nodup_cons.mp ((p.map (·.1)).nodup_iff.mp hnd)
 have N:News g L s.heap ((it,o)::(I++(H++rs))):=fun q hq=>hN q (p.mem_iff.mpr hq)
 have h:=N _ (.head _)
 exact ⟨rs,hr,h.1,h.2.1,h.2.2,fun q hq=>N q (.tail _ hq),nd.2,fun q hq e=>nd.1 (e▸List.mem_map_of_mem (f:=(·.1)) hq)⟩
theorem Dyn.inH {it:Addr} {o:Obj} (D:Dyn X g L m I ((it,o)::H) σ s):s.heap.get? it=some o:=let ⟨_,_,h,_,_,_,_,_⟩:=D.atH;h
theorem Dyn.dropH {it:Addr} {o:Obj} (D:Dyn X g L m I ((it,o)::H) σ s):Dyn X g L m I H σ s:=
 let ⟨rs,hr,_,_,_,N,nd,_⟩:=D.atH;⟨D.F,⟨rs,hr,N,nd⟩,D.gens,D.os⟩
theorem Fr.but {h h':Heap} {it:Addr} (F:Fr g L h m) (h1:it≠L) (h2:g.get? it=none) (hk:∀ b o,b≠it→h.get? b=some o→h'.get? b=some o):Fr g L h' m:=
 ⟨F.ns.at' fun o e=>hk L o h1.symm e,fun b ob e=>hk b ob (fun q=>by rw [q,h2] at e;cases e) (F.keep b ob e),F.above⟩
theorem Dyn.mvH {it:Addr} {o o':Obj} (D:Dyn X g L m I ((it,o)::H) σ s) {h':Heap} (hk:∀ b o,b∉[it]→s.heap.get? b=some o→h'.get? b=some o) (ho:h'.get? it=some o') (tk:Nat) :
  Dyn X g L m I ((it,o')::H) σ { s with heap:=h',toks:=tk }:=by
 obtain ⟨rs,hr,_,h1,h2,N,nd,ne⟩:=D.atH
 have hk:∀ b o,b≠it→s.heap.get? b=some o→h'.get? b=some o:=fun b o hb=>hk b o fun h=>hb (List.mem_singleton.mp h)
 refine D.dropH.addH (r:=[(it,o')]) hr (Fr.but D.F h1 h2 hk) (fun p hp=>?_) (nodup_new nd ne) tk
 rcases List.mem_cons.mp hp with q | q
 ·rw [q];exact ⟨ho,h1,h2⟩
 ·exact ⟨hk _ _ (ne p q) (N p q).1,(N p q).2⟩
theorem Dyn.loseH {it:Addr} {o:Obj} (D:Dyn X g L m I ((it,o)::H) σ s) {h':Heap} (hk:∀ b o,b≠it→s.heap.get? b=some o→h'.get? b=some o) (tk:Nat):Dyn X g L m I H σ { s with heap:=h',toks:=tk }:=
 let ⟨rs,hr,_,h1,h2,N,nd,ne⟩:=D.atH;⟨Fr.but D.F h1 h2 hk,⟨rs,hr,fun p q=>⟨hk _ _ (ne p q) (N p q).1,(N p q).2⟩,nd⟩,D.gens,D.os⟩
structure Itr (X:Cx) (sf:Prop) (te:Expr) (it:Addr) (SI:Led→Prop) (K:List V→Obj→Prop):Prop where
 mono:∀ I I',I⊆I'→SI I→SI I'
 self:sf→∀ xs o (A:Around) (s:Shared) (E Q:Value→Shared→Prop),K xs o→s.heap.get? it=some o→Q (.ref it) s→wpAny X.M A (pyIter (.ref it)) Q E s
 item:∀ (outer:List Env) (A A₁:Around) (g:Heap) (L:Addr) (m:Str→Option Value) (I H:Led) (σ:Store) (s:Shared) (E:Value→Shared→Prop) (Q:Option Value→Shared→Prop) (x:V) (xs:List V) (o:Obj),A.handled=none→Below A₁ X.base outer g →
  K (x::xs) o→Dyn X g L m I ((it,o)::H) σ s→SI I→(∀ v s',(∀ (E':Value→Shared→Prop) (Q':Unit→Shared→Prop),(∀ o' I' s'',I⊆I'→K xs o'→Dyn X g L m I' ((it,o')::H) σ s''→VR X (X.imm I') v x→Q' () s'')→wpAny X.M A (letOwnedTupleGo te (.ref it) v) Q' E' s')→Q (some v) s')→wpAny X.M A (pyNext (.ref it)) Q E s
 done:∀ (outer:List Env) (A A₁:Around) (g:Heap) (L:Addr) (m:Str→Option Value) (I H:Led) (σ:Store) (s:Shared) (E:Value→Shared→Prop) (Q:Option Value→Shared→Prop) (o:Obj),A.handled=none→Below A₁ X.base outer g →
  K [] o→Dyn X g L m I ((it,o)::H) σ s→SI I→(∀ s',Dyn X g L m I H σ s'→Q none s')→wpAny X.M A (pyNext (.ref it)) Q E s
inductive WK (X:Cx) (it:Addr) (fp:List Addr) (k:Nat) (St:Nat→Heap→Prop) (SI:Led→Prop) (ys:List V) (xs:List V) (o:Obj):Prop
 | mk (i:Nat) (h:Heap):i≤k→xs=ys.drop i→St i h→h.get? it=some o→plainIter o=true→(∀ b∈fp,b≠it→∃ ob,h.get? b=some ob∧∀ I,SI I→X.imm I b ob)→WK X it fp k St SI ys xs o
theorem WK.here {it:Addr} {fp wr:List Addr} {k:Nat} {P:Nat→Value→Prop} {St:Nat→Heap→Prop} {SI:Led→Prop} {A A₁:Around} (W:Walks X.prog X.w A it fp wr k P St) {outer:List Env} (hB:Below A₁ X.base outer g) {o:Obj} (D:Dyn X g L m I ((it,o)::H) σ s) (hS:SI I) {i:Nat} {h:Heap} (hst:St i h) (ho:h.get? it=some o)
  (hfp:∀ b∈fp,b≠it→∃ ob,h.get? b=some ob∧∀ I,SI I→X.imm I b ob):St i s.heap:=
 W.frame i h s.heap hst fun b hb ob e=>by
  by_cases q:b=it
  ·subst q;rw [ho] at e;cases e;exact D.inH
  ·obtain ⟨ob',f1,f2⟩:=hfp b hb q
   rw [f1] at e;cases e
   exact D.imm hB _ _ (f2 I hS)
theorem go_plain {M:Model} {A:Around} {E:Value→Shared→Prop} {s:Shared} {t:Expr} {it:Addr} {v:Value} {o:Obj} {Q:Unit→Shared→Prop} (ho:s.heap.get? it=some o) (hp:plainIter o=true) (h:Q () s):wpAny M A (letOwnedTupleGo t (.ref it) v) Q E s:=by
 have core:wpAny M A (do
   let (.ref r,.ref a):=(Value.ref it,v) | return
   let o ← load r
   match o.cls,o.data with
   | .type n,.fields vs=>
    if ["enumerate", "zip", "dict_itemiterator", "dict_reverseitemiterator", "odict_iterator", "itertools.zip_longest", "itertools.pairwise"].contains n&&vs[0]? == some (rawInt a) then
     rule "for.unpacks-the-owned-tuple"
     updateField r 0 .none
   | _,_=>pure ()) Q E s:=by
  cases v<;>try exact wpAny_pure h
  refine wpAny_bind (wpAny_load ho ?_)
  obtain ⟨cl,dd,da⟩:=o
  cases cl<;>try exact wpAny_pure h
  cases da<;>try exact wpAny_pure h
  have hp:=(Bool.not_eq_true' _).mp hp
  show wpAny M A (if (_&&_)=true then _ else _) Q E s
  rw [hp,Bool.false_and,if_neg Bool.false_ne_true]
  exact wpAny_pure h
 cases t<;>first | exact wpAny_pure h | exact core
theorem Itr.of_walks {sf:Prop} {te:Expr} {it:Addr} {fp:List Addr} {k:Nat} {P:Nat→Value→Prop} {St:Nat→Heap→Prop} {SI:Led→Prop} (W:∀ A:Around,A.handled=none→Walks X.prog X.w A it fp [it] k P St) (ys:List V) (hn:k=ys.length)
  (mono:∀ I I',I⊆I'→SI I→SI I') (hP:∀ i v I,SI I→P i v→∀ y,ys[i]? = some y→VR X (X.imm I) v y) (here:∀ i h,St i h→∃ o,h.get? it=some o∧plainIter o=true)
  (self:sf→∀ i h o (A:Around) (s:Shared) (E Q:Value→Shared→Prop),St i h→h.get? it=some o→s.heap.get? it=some o→Q (.ref it) s→wpAny X.M A (pyIter (.ref it)) Q E s) :
  Itr X sf te it SI (WK X it fp k St SI ys) where
 mono:=mono
 self:=fun q xs o A s E Q h e hq=>by cases h;exact self q _ _ _ A s E Q ‹_› ‹_› e hq
 item:=fun outer A A₁ g L m I H σ s E Q x xs o hh hB h D hS hQ=>by
  obtain ⟨i,h,hi,hx,hst,ho,hpl,hfp⟩:=h
  have hlt:i<ys.length:=Nat.lt_of_not_le fun q=>by rw [List.drop_eq_nil_of_le q] at hx;cases hx
  rw [List.drop_eq_getElem_cons hlt] at hx
  injection hx with e1 e2
  refine (W A hh).item i s Q E (hn▸hlt) (WK.here (W A hh) hB D hS hst ho hfp) fun v h' tk hv hst1 hk=>?_
  obtain ⟨o',ho',hpl'⟩:=here _ _ hst1
  exact hQ v _ fun E' Q' k=>go_plain ho' hpl' (k o' I _ (fun _ z=>z) ⟨i+1,h',hn▸hlt,e2,hst1,ho',hpl',fun b hb q=>let ⟨ob,f1,f2⟩:=hfp b hb q;⟨ob,hk b ob (fun z=>q (List.mem_singleton.mp z)) (D.imm hB _ _ (f2 I hS)),f2⟩⟩ (D.mvH hk ho' tk)
   (e1▸hP i v I hS hv _ (List.getElem?_eq_getElem hlt)))
 done:=fun outer A A₁ g L m I H σ s E Q o hh hB h D hS hQ=>by
  obtain ⟨i,h,hi,hx,hst,ho,hpl,hfp⟩:=h
  obtain rfl:i=k:=Nat.le_antisymm hi (hn▸List.drop_eq_nil_iff.mp hx.symm)
  exact (W A hh).done s Q E (WK.here (W A hh) hB D hS hst ho hfp) fun h' tk hk=>hQ _ (D.loseH (fun b o hb=>hk b o fun h=>hb (List.mem_singleton.mp h)) tk)
def Src (X:Cx) (sf:Prop) (te:Expr) (y:V) (xs:List V):Prop:=
 ∀ (outer:List Env) (A A₁:Around) (g:Heap) (L:Addr) (m:Str→Option Value) (I H:Led) (σ:Store) (s:Shared) (E:Value→Shared→Prop) (v:Value) (Q:Value→Shared→Prop),A.handled=none→Below A₁ X.base outer g→Dyn X g L m I H σ s→VR X (X.imm I) v y →
  (∀ it SI K o s',Itr X sf te it SI K→SI I→K xs o→Dyn X g L m I ((it,o)::H) σ s'→Q (.ref it) s')→wpAny X.M A (pyIter v) Q E s
theorem seq_hP {items:List Value} {ys:List V} {SI:Led→Prop} (h:∀ I,SI I→VRs X (X.imm I) items ys) (i:Nat) (v:Value) (I:Led) (hS:SI I) (e:items.toArray[i]? = some v) (y:V) (hy:ys[i]? = some y):VR X (X.imm I) v y:=by
 obtain ⟨u,hu,hr⟩:=(h I hS).get hy
 rw [List.getElem?_toArray,hu] at e
 cases e;exact hr
theorem pair_fp {it a:Addr} {o ob:Obj} {SI:Led→Prop} {h:Heap} (ha:h.get? a=some ob) (hS:∀ I,SI I→X.imm I a ob) (b:Addr) (hb:b∈[it,a]) (hne:b≠it):∃ ob,(h.push o).get? b=some ob∧∀ I,SI I→X.imm I b ob:=by
 rcases List.mem_cons.mp hb with q | q
 ·exact absurd q hne
 ·rw [List.mem_singleton.mp q];exact ⟨ob,Heap.get?_push_of_some _ ha,hS⟩
theorem src_tup {te:Expr} {vs:List V}:Src X False te (.tup vs) vs:=fun outer A A₁ g L m I H σ s E v Q hh hB D hv k=>by
 obtain ⟨a,ob,items,kk,rfl,h1,h2,h3,h4⟩:=hv.e_tup
 have ha:=D.imm hB _ _ h1
 exact iter_tuple ⟨ob,ha,h2,kk,h3⟩ (k s.heap.objs.size (fun I=>X.imm I a ob∧VRs X (X.imm I) items vs) _ { cls:=.type "tuple_iterator",data:=.fields #[.ref a,.int 0 0] } _
  (Itr.of_walks (fun A' hA'=>Walks.tuple hA' s.heap.objs.size a (Nat.ne_of_lt (Heap.lt_size ha)) items.toArray) vs ((List.size_toArray ..).trans h4.len) (fun I I' hI z=>⟨imm_mono hI _ _ z.1,z.2.mono (imm_mono hI)⟩) (seq_hP fun _ h=>h.2)
   (fun i h st=>let ⟨⟨o,ho,hc,hd⟩,_⟩:=st;⟨o,ho,by unfold plainIter;rw [hc,hd];rfl⟩) (fun q=>q.elim))
  ⟨h1,h4⟩ ⟨0,s.heap.push _,Nat.zero_le _,rfl,⟨⟨_,Heap.get?_push_size _ rfl,rfl,rfl⟩,Heap.IsTuple.push ⟨ob,ha,h2,kk,h3⟩ _⟩,Heap.get?_push_size _ rfl,rfl,pair_fp ha fun _ h=>h.1⟩ (D.newH _ s.toks rfl))
theorem src_ro {te:Expr} {vs:List V}:Src X True te (.ro vs) vs:=fun outer A A₁ g L m I H σ s E v Q hh hB D hv k=>by
 obtain ⟨a,ob,items,kk,rfl,h1,h2,h3,h4⟩:=hv.e_ro
 have ha:=D.imm hB _ _ h1
 exact wpAny_pyIter_list ⟨ob,ha,h2,kk,h3⟩ (k s.heap.objs.size (fun I=>X.imm I a ob∧VRs X (X.imm I) items vs) _ { cls:=.type "list_iterator",data:=.fields #[.ref a,.int 0 0] } _
  (Itr.of_walks (fun A' hA'=>Walks.list hA' s.heap.objs.size a (Nat.ne_of_lt (Heap.lt_size ha)) items.toArray) vs ((List.size_toArray ..).trans h4.len) (fun I I' hI z=>⟨imm_mono hI _ _ z.1,z.2.mono (imm_mono hI)⟩) (seq_hP fun _ h=>h.2)
   (fun i h st=>let ⟨⟨o,ho,hc,hd⟩,_⟩:=st;⟨o,ho,by unfold plainIter;rw [hc,hd];rfl⟩) (fun _ i h o A s E Q st e e' q=>let ⟨⟨o',ho,hc,hd⟩,_⟩:=st;wpAny_pyIter_listiter ⟨o,e',by rw [e] at ho;cases ho;exact ⟨hc,hd⟩⟩ q))
  ⟨h1,h4⟩ ⟨0,s.heap.push _,Nat.zero_le _,rfl,⟨⟨_,Heap.get?_push_size _ rfl,rfl,rfl⟩,Heap.IsList.push ⟨ob,ha,h2,kk,h3⟩ _⟩,Heap.get?_push_size _ rfl,rfl,pair_fp ha fun _ h=>h.1⟩ (D.newH _ s.toks rfl))
theorem src_str {te:Expr} {l:List Nat}:Src X False te (.str l) (l.map fun c=>.str [c]):=fun outer A A₁ g L m I H σ s E v Q hh hB D hv k=>by
 obtain ⟨t,rfl⟩:=hv.e_str
 have key:∀ (ty:String) (hty:plainIter { cls:=.type ty,data:=.fields #[.str ⟨l.toArray⟩ t,.int 0 0] } = true∧∀ i:Int,plainIter { cls:=.type ty,data:=.fields #[.str ⟨l.toArray⟩ t,.int i 0] } = true),(∀ A':Around,A'.handled=none→Walks X.prog X.w A' s.heap.objs.size [s.heap.objs.size] [s.heap.objs.size] (⟨l.toArray⟩:Str).cps.size (SignAt ⟨l.toArray⟩) (fun i h=>h.IsStrIter s.heap.objs.size ty ⟨l.toArray⟩ t i)) →
   ∀ o:Obj,o = { cls:=.type ty,data:=.fields #[.str ⟨l.toArray⟩ t,.int 0 0] }→Q (.ref s.heap.objs.size) { s with heap:=s.heap.push o }:=fun ty hty W o eo=>by
  subst eo
  exact k s.heap.objs.size (fun _=>True) _ _ _ (Itr.of_walks W (l.map fun c=>V.str [c]) ((List.size_toArray ..).trans (List.length_map ..).symm) (fun _ _ _ _=>trivial)
   (fun i v I _ hv y hy=>by
    obtain ⟨c,u,hc,rfl⟩:=hv
    rw [List.getElem?_map,show l[i]? = some c from (List.getElem?_toArray).symm.trans hc] at hy
    cases hy
    exact VR.i_strL (l:=[c]))
   (fun i h st=>let ⟨o,ho,hc,hd⟩:=st;⟨o,ho,by have:=hty.2 i;unfold plainIter at this ⊢;rw [hc,hd];exact this⟩) fun q=>q.elim) trivial
   ⟨0,s.heap.push _,Nat.zero_le _,rfl,⟨_,Heap.get?_push_size _ rfl,rfl,rfl⟩,Heap.get?_push_size _ rfl,hty.1,fun b hb hne=>absurd (List.mem_singleton.mp hb) hne⟩ (D.newH _ s.toks rfl)
 cases ha:(⟨l.toArray⟩:Str).cps.all (· < 128)
 ·exact wpAny_pyIter_wide ha (key "str_iterator" ⟨rfl,fun _=>rfl⟩ (fun A' hA=>Walks.strWide hA _ _ t) _ rfl)
 ·exact wpAny_pyIter_ascii ha (key "str_ascii_iterator" ⟨rfl,fun _=>rfl⟩ (fun A' hA=>Walks.strAscii hA _ _ t) _ rfl)
theorem fits {i:Int} (h0:0≤i) (h1:i≤10000001):Builtin.Range.rangeFitsLong i=true:=by unfold Builtin.Range.rangeFitsLong;simp;omega
theorem src_rng {te:Expr} {k:Nat} (hk:k≤10000000):Src X True te (.rng k) ((List.range k).map fun i:Nat=>V.int i):=fun outer A A₁ g L m I H σ s E v Q hh hB D hv kk=>by
 obtain ⟨a,t,u,w,rfl,h1⟩:=hv
 have sz:Builtin.Range.rangeSize 0 (k:Int) 1=k:=by
  unfold Builtin.Range.rangeSize
  simp only [show (1:Int) > 0 by omega,if_true,Int.ediv_one]
  split<;>omega
 refine wpAny_pyIter_range (a:=0) (b:=k) (c:=1) (D.imm hB _ _ h1) ?_ ?_
 ·unfold Builtin.Range.small
  rw [sz,fits (by omega) (by omega),fits (i:=k) (by omega) (by omega),fits (i:=1) (by omega) (by omega)]
  simp only [Bool.and_self,Bool.true_and,show (1:Int) > 0 by omega,if_true]
  rw [fits (by omega) (by omega)]
  exact Bool.or_true _
 ·rw [sz]
  have W:∀ A:Around,A.handled=none→Walks X.prog X.w A s.heap.objs.size [s.heap.objs.size] [s.heap.objs.size] k (fun i v=>∃ t,v=.int (0+i * 1) t) (fun i h=>IsRangeIter h s.heap.objs.size (0+(i:Nat) * 1) ((k:Int) - (i:Nat)) 1):=fun A hA=>Walks.range hA _ 0 1 k
  exact kk s.heap.objs.size (fun _=>True) _ { cls:=.type "range_iterator",data:=.fields #[rawInt 0,rawInt k,rawInt 1] } _
   (Itr.of_walks W ((List.range k).map fun i:Nat=>V.int i) ((List.length_map ..).trans List.length_range).symm (fun _ _ _ _=>trivial)
    (fun i v I _ hv y hy=>by
     obtain ⟨t,rfl⟩:=hv
     rw [List.getElem?_map] at hy
     obtain ⟨j,hj,rfl⟩:=Option.map_eq_some_iff.mp hy
     obtain ⟨h1,h2⟩:=List.getElem?_eq_some_iff.mp hj
     rw [List.getElem_range] at h2
     rw [h2,Int.mul_one,Int.zero_add];exact .i_int)
    (fun i h st=>⟨_,st,rfl⟩) fun _ i h o A s E Q st e e' q=>wpAny_pyIter_rangeiter (by rw [show h.get? _=_ from st] at e;cases e;exact e') q) trivial
   ⟨0,s.heap.push _,Nat.zero_le _,rfl,by simpa using Heap.get?_push_size _ rfl,Heap.get?_push_size _ rfl,rfl,fun b hb hne=>absurd (List.mem_singleton.mp hb) hne⟩ (D.newH _ s.toks rfl)
def ForI (body:LV→Store→QK→Prop) (t:TG) (Q:QK):List V→LV→Store→Prop
 | [],ρ,σ=>Q.nx ρ σ
 | x::xs,ρ,σ=>asgT (fun ρ'=>body ρ' σ (Q.lp (ForI body t Q xs))) ρ t x
def PlI (fe:FE) (e:Expr):Prop:=∀ L x,foldedSetIterable e (fe.env L) x=pure x
inductive SrE (X:Cx) (sf:Prop) (te:Expr) (y:V) (K:List V→Prop):Prop
 | mk {xs:List V}:Src X sf te y xs→K xs→SrE X sf te y K
inductive LpI (X:Cx) (fe:FE) (n:Nat) (g:Heap) (L:Addr) (I₁ H:Led) (SI:Led→Prop) (K:List V→Obj→Prop) (it:Addr) (te:TG) (body:List Stmt) (Q:QK) (R:Prop) (k:Nat) (s:Shared):Prop
 | mk (xs:List V) (ρ:LV) (σ:Store) (m:Str→Option Value) (I₂:Led) (o:Obj):k=xs.length→I₁⊆I₂→SI I₂→K xs o→Dyn X g L m I₂ ((it,o)::H) σ s→LocR X fe (X.imm I₂) m ρ→ForI (fun ρ σ Q=>Ex X fe n body ρ σ Q R) te Q xs ρ σ→LpI X fe n g L I₁ H SI K it te body Q R k s
theorem ex_for {t e:Expr} {te:TG} {body:List Stmt} {pos:Pos} {sf:Prop} (ht:Tg fe te t) (hs:PlI fe e) (h:Ev X fe.ic n e ρ σ (fun y σ₁=>SrE X sf t y fun xs=>ForI (fun ρ σ Q=>Ex X fe n body ρ σ Q R) te Q xs ρ σ₁) R):Ex1 X fe n (.For t e body [] pos) ρ σ Q R:=
 fun outer A g L m I H s E a b c p d=>by
 obtain ⟨A₁,hB⟩:=a.B
 refine wpAny_For (hs:=hs L) (h.sm a b c d fun v s₁ I₁ σ₁ y hI D c₁ hv hf=>?_)
 obtain ⟨hsrc,hf⟩:=hf
 refine hsrc outer A A₁ g L m I₁ H σ₁ s₁ E v _ a.hd hB D hv fun it SI K o s₂ hit hSI hK D₂=>?_
 refine codeAny_forLoop_any (I:=LpI X fe n g L I₁ H SI K it te body Q R) (fun k s' z=>?_) _ ⟨_,ρ,σ₁,m,I₁,o,rfl,fun _ z=>z,hSI,hK,D₂,c₁,hf⟩
 obtain ⟨xs,ρ,σ,m,I₂,o,rfl,hI₂,hSI,hK,D,c,hf⟩:=z
 refine wpAny_passesOwn p ?_
 cases xs with
 | nil=>exact hit.done outer A A₁ g L m I₂ H σ s' E _ o a.hd hB hK D hSI fun s'' D'=>wpAny_execs_nil ⟨I₂,σ,m,ρ,fun _ z=>hI₂ (hI z),D',c,.nx hf⟩
 | cons x xs=>
  refine hit.item outer A A₁ g L m I₂ H σ s' E _ x xs o a.hd hB hK D hSI fun v s'' own=>?_
  refine wpAny_passesOwn p (own _ _ fun o' I₃ s₃ hI₃ hK' D' hv=>?_)
  replace hI₂:I₁⊆I₃:=fun _ z=>hI₃ (hI₂ z)
  have hSI:=hit.mono _ _ hI₃ hSI
  have c:=c.mono (imm_mono hI₃)
  refine wpAny_passesOwn p (ht.go a.hd hB D' c hv hf fun m' s₃ ρ' D₃ c₃ hx=>?_)
  refine wpAny_passesOwn p (wpAny_mono (hx outer A g L m' I₃ ((it,o')::H) s₃ E a D₃ c₃ p d) (fun fl s₄ z=>?_) fun _ _ z=>z)
  obtain ⟨I₄,σ₄,m₄,ρ₄,hI₄,D₄,c₄,hq⟩:=z
  have hI':I⊆I₄:=fun _ z=>hI₄ (hI₂ (hI z))
  have go:ForI (fun ρ σ Q=>Ex X fe n body ρ σ Q R) te Q xs ρ₄ σ₄→LpI X fe n g L I₁ H SI K it te body Q R xs.length s₄:=fun hq=>⟨xs,ρ₄,σ₄,m₄,I₄,o',rfl,fun _ z=>hI₄ (hI₂ z),hit.mono _ _ hI₄ hSI,hK',D₄,c₄,hq⟩
  cases hq with
  | nx hq=>exact ⟨xs.length,Nat.lt_succ_self _,go hq⟩
  | rt hv hq=>exact ⟨I₄,σ₄,m₄,ρ₄,hI',D₄.dropH,c₄,.rt hv hq⟩
  | br hq=>exact ⟨I₄,σ₄,m₄,ρ₄,hI',D₄.dropH,c₄,.nx hq⟩
  | ct hq=>exact ⟨xs.length,Nat.lt_succ_self _,go hq⟩
end
inductive Pick (p:Addr×AObj):Store→Store→Prop
 | head {τ:Store}:Pick p (p::τ) τ
 | tail {q:Addr×AObj} {τ τ':Store}:Pick p τ τ'→Pick p (q::τ) (q::τ')
inductive Into:Store→Store→Prop
 | refl {σ:Store}:Into σ σ
 | drop {σ τ:Store} {p:Addr×AObj}:Into σ τ→Into (p::σ) τ
 | take {σ σ₁ τ:Store} {p:Addr×AObj}:Pick p σ σ₁→Into σ₁ τ→Into σ (p::τ)
section
variable {X:Cx} {fe:FE} {ic:IC} {n:Nat} {ρ:LV} {σ τ:Store} {R:Prop}
variable {g:Heap} {L:Addr} {m:Str→Option Value} {I H:Led} {s:Shared}
theorem Sta.cls {env:Env} {outer:List Env} {A:Around} {g:Heap} {L:Addr} (x:Sta X (n+1) env outer A g L) (C:Addr) (rest:List Value):Sta X n env outer (A.under (.builtin "type.__call__" ⟨.ref C::rest,[]⟩)) g L:=by
 have w:(Code.builtin "type.__call__" ⟨.ref C::rest,[]⟩).weight≤1:=lbt rfl
 have u:(Code.builtin "type.__call__" ⟨.ref C::rest,[]⟩).cUnits≤20:=lbt rfl
 refine ⟨x.fr,x.ef,x.ek,x.hd,?_,?_,x.B,x.K,x.KB,x.T⟩
 ·have:=x.rd
  show A.depth+Code.weight _+3 * n<990
  omega
 ·have:=x.ru
  show A.units+Code.cUnits _+20 * n<9800
  omega
noncomputable def clsOK (K:Frag) (C fI:Addr):Bool:=makesIn K C&&findIn K (.ref C) "__init__" == some (some (.ref fI))&&isFn K (.ref fI)&&decide (flds C).Nodup
inductive IniQ (Q:V→Store→Prop) (x:Addr) (σ:Store):V→Prop
 | mk:Q (.ref x) σ→IniQ Q x σ .none
theorem call_cls {C fI:Addr} {ys:List V} {Q:V→Store→Prop} (hok:clsOK X.K C fI=true)
  (h:∀ x,CallOK X n (.ref fI) (.ref x::ys) ((x,.inst C [])::σ) (fun y σ'=>IniQ Q x σ' y) R):CallOK X (n+1) (.ref C) ys σ Q R:=
 fun env outer A g L m I H s ws a b c=>by
 have h1:=band hok
 have h2:=band h1.1
 have h3:=band h2.1
 obtain ⟨rs,hr,hN,hnd⟩:=b.S.ex
 refine make_K b.F hN (a.K.keeps b.F.keep) h3.1 (eq_of_beq h3.2) (eq_of_beq h2.2) fun x dx h' F' N' lo hx=>?_
 have D:Dyn X g L m I H ((x,.inst C [])::σ) { s with heap:=h' }:=b.addS (o:=.inst C []) (r:=[(x,instObj C dx),(dx,emptyDict)]) hr ⟨dx,[],0,rfl,by cases flds C<;>trivial,of_decide_eq_true h1.2⟩ F' N'
  (nodup_new (nodup_new hnd fun p hp e=>Nat.lt_irrefl dx (by have:=lo p hp;rwa [e] at this)) fun p hp e=>(List.mem_cons.mp hp).elim (fun q=>by rw [q] at e;exact Nat.lt_irrefl x (by rwa [show dx=x from e] at hx)) fun q=>by have:=lo p q;rw [e] at this;exact Nat.lt_asymm hx this) s.toks
 refine codeAny_mono (h x env outer _ g L m I H _ (.ref x::ws) (a.cls C ws) D (.i_cons .i_ref c)) fun r s' z=>?_
 rcases r with e | (_ | _ | _ | v)
 ·exact z
 ·exact z.elim
 ·exact z.elim
 ·exact z.elim
 ·obtain ⟨I',σ',y,hI,D,hv,hq⟩:=z
  cases hq with
  | mk hq=>exact ⟨hv.e_none,I',σ',.ref x,hI,D,.i_ref,hq⟩
inductive Apart (X:Cx) (g:Heap) (L:Addr) (m:Str→Option Value) (I H:Led) (σ:Store) (s:Shared) (p:Addr×AObj):Prop
 | mk (r rs:Led):ObjR X (X.imm I) p.1 p.2 r→StoreR X (X.imm I) σ rs→Fr g L s.heap m→News g L s.heap (r++(I++(H++rs)))→((r++(I++(H++rs))).map (·.1)).Nodup→Apart X g L m I H σ s p
theorem Pick.split {p:Addr×AObj} {P:Imm} (h:Pick p σ τ):∀ {rs:Led},StoreR X P σ rs→∃ pre r post,rs=pre++r++post∧ObjR X P p.1 p.2 r∧StoreR X P τ (pre++post):=by
 induction h with
 | head=>intro rs x;cases x with
  | cons y z=>exact ⟨[],_,_,rfl,y,z⟩
 | tail _ ih=>intro rs x;cases x with
  | cons y z=>
   obtain ⟨pre,r,post,rfl,w1,k⟩:=ih z
   rename_i r0
   refine ⟨r0++pre,r,post,by simp only [List.append_assoc],w1,?_⟩
   rw [List.append_assoc];exact .cons y k
theorem led_pick (I H pre r post:Led):(I++(H++(pre++r++post))).Perm (r++(I++(H++(pre++post)))):=by
 rw [List.append_assoc]
 exact (((List.perm_append_comm_assoc pre r post).append_left H).append_left I).trans (led_store I H r (pre++post))
theorem Dyn.apart {p:Addr×AObj} (D:Dyn X g L m I H σ s) (h:Pick p σ τ):Apart X g L m I H τ s p:=by
 obtain ⟨rs,hr,hN,hnd⟩:=D.S.ex
 obtain ⟨pre,r,post,rfl,ho,hk⟩:=h.split hr
 have pm:=led_pick I H pre r post
 exact ⟨r,_,ho,hk,D.F,fun q hq=>hN q (pm.mem_iff.mpr hq),(pm.map _).nodup_iff.mp hnd⟩
theorem Dyn.pick {p:Addr×AObj} (D:Dyn X g L m I H σ s) (h:Pick p σ τ):Dyn X g L m I H (p::τ) s:=let ⟨_,_,ho,hr,F,N,nd⟩:=D.apart h;D.addS hr ho F N nd s.toks
theorem Dyn.drop {p:Addr×AObj} (D:Dyn X g L m I H σ s) (h:Pick p σ τ):Dyn X g L m I H τ s:=
 let ⟨r,rs,ho,hr,F,N,nd⟩:=D.apart h;⟨F,⟨rs,hr,fun q hq=>N q (List.mem_append_right _ hq),by rw [List.map_append] at nd;exact (List.nodup_append.mp nd).2.1⟩,D.gens,D.os⟩
inductive Still (X:Cx) (g:Heap) (L:Addr) (m:Str→Option Value) (I H:Led) (σ:Store) (s:Shared) (p:Addr×AObj):Prop
 | mk (r:Led):ObjR X (X.imm (r++I)) p.1 p.2 r→Dyn X g L m (r++I) H σ s→Still X g L m I H σ s p
theorem Dyn.still {p:Addr×AObj} (D:Dyn X g L m I H σ s) (h:Pick p σ τ):Still X g L m I H τ s p:=
 let ⟨r,_,ho,hr,F,N,nd⟩:=D.apart h;⟨r,ho.mono (imm_mono fun _ z=>List.mem_append_right _ z),D.addI hr F N nd s.toks⟩
theorem keysAre_of {C:Cx} {P:Imm}:∀ {es:List DictEntry} {ns:List Str} {vs:List V},FRs C P es (ns.zip vs)→vs.length=ns.length→keysAre es ns∧VRs C P (es.map (·.val)) vs
 | [],[],[],_,_=>⟨trivial,.i_nil⟩
 | e::es,n::ns,v::vs,h,hl=>
  have k:=keysAre_of h.2.2.2 (Nat.succ.inj hl)
  ⟨⟨h.1,h.2.1,k.1⟩,.i_cons h.2.2.1 k.2⟩
 | _::_,[],_,h,_=>h.elim
 | [],_::_,_::_,h,_=>h.elim
 | _,[],_::_,_,h=>nomatch h
 | _,_::_,[],_,h=>nomatch h
theorem ri_of {r:Led} {a C:Addr} {vs:List V} (hl:vs.length=(flds C).length) (h:ObjR X (X.imm (r++I)) a (.inst C vs) r):VR X (X.imm (r++I)) (.ref a) (.ri C vs):=by
 obtain ⟨dx,es,k,rfl,hf,hn⟩:=h
 have q:=keysAre_of hf hl
 exact ⟨a,dx,es,k,rfl,.inl (.head _),.inl (.tail _ (.head _)),q.1,hn,q.2⟩
theorem ro_of {r:Led} {a:Addr} {vs:List V} (h:ObjR X (X.imm (r++I)) a (.list vs) r):VR X (X.imm (r++I)) (.ref a) (.ro vs):=by
 obtain ⟨items,k,rfl,hv⟩:=h
 exact ⟨a,listOf items.toArray k,items,k,rfl,.inl (.head _),rfl,rfl,hv⟩
theorem Dyn.into (h:Into σ τ):∀ {H:Led},Dyn X g L m I H σ s→Dyn X g L m I H τ s:=by
 induction h with
 | refl=>exact fun D=>D
 | drop _ ih=>exact fun D=>ih (D.drop .head)
 | take hp _ ih=>
  intro H D
  obtain ⟨r,rs,ho,hr,F,N,nd⟩:=D.apart hp
  have D':=ih (D.drop hp |>.addH (r:=r) hr F N nd s.toks)
  obtain ⟨rs',hr',N',nd'⟩:=D'.S.ex
  have pm:=led_hand I H r rs'
  exact D'.addS hr' ho D'.F (fun q hq=>N' q (pm.mem_iff.mpr hq)) ((pm.map _).nodup_iff.mp nd') s.toks
theorem CallOK.pre {f:Value} {ys:List V} {Q:V→Store→Prop} (h:Into σ τ) (x:CallOK X n f ys τ Q R):CallOK X n f ys σ Q R:=
 fun env outer A g L m I H s ws a b c=>x env outer A g L m I H s ws a (b.into h) c
theorem CallOK.pick {f:Value} {ys:List V} {Q:V→Store→Prop} {p:Addr×AObj} (h:Pick p σ τ) (x:CallOK X n f ys (p::τ) Q R):CallOK X n f ys σ Q R:=
 fun env outer A g L m I H s ws a b c=>x env outer A g L m I H s ws a (b.pick h) c
theorem CallOK.post {f:Value} {ys:List V} {Q Q':V→Store→Prop} (x:CallOK X n f ys σ Q R) (k:∀ g L m I₀ I H s σ y v,I₀⊆I→Dyn X g L m I H σ s→VR X (X.imm I) v y→Q y σ→TrR (VR X) X g L m I₀ H Q' v s):CallOK X n f ys σ Q' R:=
 fun env outer A g L m I H s ws a b c=>codeAny_mono (x env outer A g L m I H s ws a b c) fun r s' z=>by
  rcases r with e | (_ | _ | _ | v)
  ·exact z
  ·exact z
  ·exact z
  ·exact z
  ·obtain ⟨I₁,σ₁,y,hI,D,hv,hq⟩:=z
   exact k _ _ _ _ _ _ _ _ _ _ hI D hv hq
inductive FrzE (Q:V→Store→Prop) (y:V) (σ:Store):Prop
 | mk {a C vs σ'}:y=.ref a→Pick (a,.inst C vs) σ σ'→vs.length=(flds C).length→Q (.ri C vs) σ'→FrzE Q y σ
 | lst {a vs σ'}:y=.ref a→Pick (a,.list vs) σ σ'→Q (.ro vs) σ'→FrzE Q y σ
theorem FrzE.go {Q:V→Store→Prop} {y:V} {v:Value} {I₀:Led} (h:FrzE Q y σ) (hI:I₀⊆I) (D:Dyn X g L m I H σ s) (hv:VR X (X.imm I) v y):TrR (VR X) X g L m I₀ H Q v s:=by
 cases h with
 | mk e hp hl hq=>
  subst e
  obtain ⟨r,ho,D'⟩:=D.still hp
  rw [hv.e_ref]
  exact ⟨r++I,_,_,fun _ z=>List.mem_append_right _ (hI z),D',ri_of hl ho,hq⟩
 | lst e hp hq=>
  subst e
  obtain ⟨r,ho,D'⟩:=D.still hp
  rw [hv.e_ref]
  exact ⟨r++I,_,_,fun _ z=>List.mem_append_right _ (hI z),D',ro_of ho,hq⟩
theorem CallOK.frz {f:Value} {ys:List V} {Q:V→Store→Prop} (h:CallOK X n f ys σ (fun y σ₁=>FrzE Q y σ₁) R):CallOK X n f ys σ Q R:=h.post fun _ _ _ _ _ _ _ _ _ _ hI D hv q=>q.go hI D hv
theorem ev_frz {e:Expr} {Q:V→Store→Prop} (h:Ev X ic n e ρ σ (fun y σ₁=>FrzE Q y σ₁) R):Ev X ic n e ρ σ Q R:=
 fun env' env outer A g L m I H s E a b c d=>TrM (h env' env outer A g L m I H s E a b c d) fun v s₁ I₁ σ₁ y hI D hv q=>q.go hI D hv
inductive IntoE (Q:V→Store→Prop) (y:V) (σ:Store):Prop
 | mk {τ:Store}:Into σ τ→Q y τ→IntoE Q y σ
theorem CallOK.into {f:Value} {ys:List V} {Q:V→Store→Prop} (h:CallOK X n f ys σ (fun y σ₁=>IntoE Q y σ₁) R):CallOK X n f ys σ Q R:=
 h.post fun _ _ _ _ _ _ _ _ _ _ hI D hv q=>let ⟨hi,q⟩:=q;⟨_,_,_,hI,D.into hi,hv,q⟩
theorem o_range {k:Nat} {Q:V→Store→Prop} (h:Q (.rng k) σ):Op1 X n (fun v=>call (.type "range") [v]) (.int k) σ Q R:=
 fun env outer A g L m I H s v E a' D hv d=>by
 obtain ⟨t,rfl⟩:=hv.e_int
 exact call_range_1 ⟨_,σ,.rng k,fun _ z=>List.mem_cons_of_mem _ z,D.pushI (rangeObj k s.toks t (s.toks+1)) _ rfl,by exact ⟨_,_,_,_,rfl,.inl (.head _)⟩,h⟩
end
section
variable {X:Cx} {fe:FE} {ic:IC} {n:Nat} {ρ:LV} {σ:Store} {R:Prop} {Q:V→Store→Prop}
theorem o_eq_nil {y:V} {vs:List V} (hm:IsLs σ vs y) (h:Q (.bool vs.isEmpty) σ):Op2 X n (compareOp .Eq) y (.ro []) σ Q R:=fun env outer A g L m I H s v w E a' D hv hw d=>by
 obtain ⟨A₁,hB⟩:=a'.B
 obtain ⟨a,items,rfl,hl,hvs⟩:=D.lst hB hm hv
 obtain ⟨b,it2,rfl,hl2,hi⟩:=D.lst hB .ro hw
 obtain rfl:=hi.e_nil
 cases vs with
 | nil=>
  obtain rfl:=hvs.e_nil
  exact PySem.SeqAt.eq_listAt (e:=fun _=>true) hl hl2 rfl a'.units (fun i hi=>absurd hi (Nat.not_lt_zero i)) ⟨I,σ,.bool true,fun _ z=>z,D,.i_bool,h⟩
 | cons y ys=>exact PySem.SeqAt.eq_list_lengthsAt hl hl2 (by rw [List.size_toArray,hvs.len];rfl) a'.units ⟨I,σ,.bool false,fun _ z=>z,D,.i_bool,h⟩
theorem o_ne_nil {y:V} {vs:List V} (hm:IsLs σ vs y) (h:Q (.bool (!vs.isEmpty)) σ):Op2 X n (compareOp .NotEq) y (.ro []) σ Q R:=fun env outer A g L m I H s v w E a' D hv hw d=>by
 obtain ⟨A₁,hB⟩:=a'.B
 obtain ⟨a,items,rfl,hl,hvs⟩:=D.lst hB hm hv
 obtain ⟨b,it2,rfl,hl2,hi⟩:=D.lst hB .ro hw
 obtain rfl:=hi.e_nil
 show wpAny X.M A (richCompare .NotEq (.ref a) (.ref b)) _ E s
 cases vs with
 | nil=>
  obtain rfl:=hvs.e_nil
  exact PySem.SeqAt.RcNeAt.lists (e:=fun _=>true) hl hl2 rfl a'.units (fun i hi=>absurd hi (Nat.not_lt_zero i)) X.prog X.w E _ ⟨I,σ,.bool false,fun _ z=>z,D,.i_bool,h⟩
 | cons y ys=>exact PySem.SeqAt.RcNeAt.lists_lengths hl hl2 (by rw [List.size_toArray,hvs.len];rfl) a'.units X.prog X.w E _ ⟨I,σ,.bool true,fun _ z=>z,D,.i_bool,h⟩
inductive AreS:List (List Nat)→List V→Prop
 | nil:AreS [] []
 | cons {l ls vs}:AreS ls vs→AreS (l::ls) (.str l::vs)
theorem AreS.map:∀ {ls:List (List Nat)},AreS ls (ls.map V.str)
 | []=>.nil
 | _::_=>.cons AreS.map
theorem strs_are {C:Cx} {P:Imm} {ls:List (List Nat)} {vs:List V} (h:AreS ls vs):∀ {items:List Value},VRs C P items vs→StrsAre items (ls.map fun l=>(⟨l.toArray⟩:Str)):=by
 induction h with
 | nil=>intro items h;rw [h.e_nil];exact .nil
 | cons _ ih=>
  intro items h
  obtain ⟨v,r,rfl,hv,hr⟩:=h.e_cons
  obtain ⟨t,rfl⟩:=hv.e_str
  exact .cons _ _ (ih hr)
theorem any_strs (k:List Nat) (ls:List (List Nat)):((ls.map fun l=>(⟨l.toArray⟩:Str)).any (· == ⟨k.toArray⟩))=ls.any (· == k):=by
 rw [List.any_map]
 congr 1
 funext l
 show ((⟨l.toArray⟩:Str)==⟨k.toArray⟩)=(l==k)
 rw [← toList_beq]
theorem o_in_lst {y:V} {vs:List V} {ls:List (List Nat)} {k:List Nat} (hm:IsLs σ vs y) (hs:AreS ls vs) (h:Q (.bool (ls.any (· == k))) σ):Op2 X n (compareOp .In) (.str k) y σ Q R:=fun env outer A g L m I H s v w E a' D hv hw d=>by
 obtain ⟨A₁,hB⟩:=a'.B
 obtain ⟨t,rfl⟩:=hv.e_str
 obtain ⟨a,items,rfl,hl,hvs⟩:=D.lst hB hm hw
 exact in_list_strs hl (strs_are hs hvs) ⟨I,σ,_,fun _ z=>z,D,.i_bool,by rw [any_strs];exact h⟩
theorem o_notin_tup {vs:List V} {ls:List (List Nat)} {k:List Nat} (hs:AreS ls vs) (h:Q (.bool (!(ls.any (· == k)))) σ):Op2 X n (compareOp .NotIn) (.str k) (.tup vs) σ Q R:=fun env outer A g L m I H s v w E a' D hv hw d=>by
 obtain ⟨A₁,hB⟩:=a'.B
 obtain ⟨t,rfl⟩:=hv.e_str
 obtain ⟨a,items,rfl,hl,hvs⟩:=tup_at (D.imm hB) hw
 exact notin_tuple_strs hl (strs_are hs hvs) ⟨I,σ,_,fun _ z=>z,D,.i_bool,by rw [any_strs];exact h⟩
theorem v_muli {i j:Int} (h:IntMulOk i j):VOp X (binaryOp .Mult) (.int i) (.int j) (.int (i * j)):=fun A Pm va vb s Q E _ _ _ ha hb k=>by
 obtain ⟨t,rfl⟩:=ha.e_int;obtain ⟨u,rfl⟩:=hb.e_int
 exact PySem.P.mul_int (k _ _ .i_int) h
theorem v_modi {i j:Int} (hj:j≠0):VOp X (binaryOp .Mod) (.int i) (.int j) (.int (i.fmod j)):=fun A Pm va vb s Q E _ _ _ ha hb k=>by
 obtain ⟨t,rfl⟩:=ha.e_int;obtain ⟨u,rfl⟩:=hb.e_int
 exact PyProof.Rows.mod_int (s:=s) hj (k _ _ .i_int)
theorem v_divi {i j:Int} (hj:j≠0) (hs:j.natAbs<1073741824):VOp X (binaryOp .FloorDiv) (.int i) (.int j) (.int (i.fdiv j)):=fun A Pm va vb s Q E _ _ _ ha hb k=>by
 obtain ⟨t,rfl⟩:=ha.e_int;obtain ⟨u,rfl⟩:=hb.e_int
 exact floordiv_int hj (k _ _ .i_int) (.inl (PyProof.noPylong_small hs))
theorem v_powi {i j:Int} (h0:0≤j) (h1:j≤1000000) (h2:i.natAbs<2 ^ 64):VOp X (binaryOp .Pow) (.int i) (.int j) (.int (i ^ j.toNat)):=fun A Pm va vb s Q E _ _ _ ha hb k=>by
 obtain ⟨t,rfl⟩:=ha.e_int;obtain ⟨u,rfl⟩:=hb.e_int
 exact pow_int_small h0 h1 h2 (k _ _ .i_int)
noncomputable def ljoin (sep:List Nat):List (List Nat)→List Nat
 | []=>[]
 | x::r=>r.foldl (fun acc p=>acc++sep++p) x
theorem fold_join (sep:List Nat):∀ (r:List (List Nat)) (x:List Nat),(r.map fun l=>(⟨l.toArray⟩:Str)).foldl (fun acc p=>acc++sep.toArray++p.cps) x.toArray=(r.foldl (fun acc p=>acc++sep++p) x).toArray
 | [],x=>rfl
 | y::r,x=>by
  simp only [List.map_cons,List.foldl_cons]
  rw [← fold_join sep r (x++sep++y)]
  congr 1
  simp
theorem txt_join (sep:List Nat) (ls:List (List Nat)):Txt.join ⟨sep.toArray⟩ (ls.map fun l=>(⟨l.toArray⟩:Str))=⟨(ljoin sep ls).toArray⟩:=by
 unfold Txt.join Builtin.Str.glued
 cases ls with
 | nil=>rfl
 | cons x r=>exact congrArg Str.mk (fold_join sep r x)
theorem o_join {y:V} {vs:List V} {sep:List Nat} {ls:List (List Nat)} (hm:IsLs σ vs y) (hs:AreS ls vs) (h1:Nat.ble sep.length 1=true) (hz:(ls.map List.length).sum+ls.length≤16000000) (h:Q (.str (ljoin sep ls)) σ):Op2 X n (fun v w=>call (.builtin "str.join") [v,w]) (.str sep) y σ Q R:=
 fun env outer A g L m I H s v w E a' D hv hw d=>by
 obtain ⟨A₁,hB⟩:=a'.B
 obtain ⟨t,rfl⟩:=hv.e_str
 obtain ⟨a,items,rfl,hl,hvs⟩:=D.lst hB hm hw
 have e:((ls.map fun l=>(⟨l.toArray⟩:Str)).map (·.length)).sum=(ls.map List.length).sum:=by
  rw [List.map_map];congr 1
 have e1:=Nat.mul_le_mul_left ls.length (lbt h1)
 refine join_list hl (strs_are hs hvs) ?_ fun t' k=>⟨I,σ,_,fun _ z=>z,D.toks k,by rw [txt_join];exact .i_strL,h⟩
 rw [e,List.length_map,str_len]
 exact Nat.le_trans (Nat.add_le_add_left (Nat.le_trans e1 (Nat.le_of_eq (Nat.mul_one _))) _) (Nat.le_trans hz (lbt rfl))
theorem occ_nil {l w:List Nat} (h:lfind w l=none) (lim:Nat):Builtin.Str.occurrences ⟨l.toArray⟩ ⟨w.toArray⟩ 0 (⟨l.toArray⟩:Str).length lim=[]:=by
 obtain ⟨f,hf⟩:=StrLaws.occ_chain ⟨l.toArray⟩ ⟨w.toArray⟩ lim
 cases q:Builtin.Str.occurrences ⟨l.toArray⟩ ⟨w.toArray⟩ 0 (⟨l.toArray⟩:Str).length lim with
 | nil=>rfl
 | cons c r=>
  rw [q] at hf
  have:=hf.2.1
  rw [show (⟨l.toArray⟩:Str).length=l.length by simp [Str.length]] at this
  obtain ⟨a,b⟩:=(at_pre l w c).mp this
  rw [lfind_none.mp h c a] at b;cases b
theorem o_repl0 {l w z:List Nat} (hf:lfind w l=none) (h:Q (.str l) σ):Op X n [.str l,.str w,.str z] (fun ws=>call (.builtin "str.replace") ws) σ Q R:=
 fun env outer A g L m I H s ws E a' D hw d=>hw.three (F:=fun ws=>wpAny X.M A (call (.builtin "str.replace") ws) _ E s) fun u v w' hu hv hw=>by
 obtain ⟨t,rfl⟩:=hu.e_str;obtain ⟨u,rfl⟩:=hv.e_str;obtain ⟨t3,rfl⟩:=hw.e_str
 have e:=occ_nil hf ((⟨l.toArray⟩:Str).length+1)
 have g0:Gives (Builtin.«str.replace» ⟨[.str ⟨l.toArray⟩ t,.str ⟨w.toArray⟩ u,.str ⟨z.toArray⟩ t3],[]⟩) (.val (.str ⟨l.toArray⟩ t)):=by
  show Gives (if ((Builtin.Str.occurrences ⟨l.toArray⟩ ⟨w.toArray⟩ 0 (⟨l.toArray⟩:Str).length ((⟨l.toArray⟩:Str).length+1)).isEmpty||((⟨w.toArray⟩:Str).length==0&&(⟨z.toArray⟩:Str).length==0))=true then (do rule "str.replace.nothing";ret (.str ⟨l.toArray⟩ t)) else _) _
  rw [if_pos (by rw [e];rfl)]
  exact .rule (.of_eq rfl)
 exact call_gives F.slot_str_replace (typeIs_str _ _ _) F.entry_str_replace (F.args_str_replace_3 _ _ _) g0 ⟨I,σ,_,fun _ z=>z,D,hu,h⟩
inductive Sz:List Nat→Nat→Prop
 | lit {x:String}:Nat.ble (Str.ofString x).cps.toList.length 1000=true→Sz (Str.ofString x).cps.toList 1
 | var {l:List Nat}:l.length≤1000000→Sz l 1
 | app {a b:List Nat} {i j:Nat}:Sz a i→Sz b j→Sz (a++b) (i+j)
theorem Sz.le {l:List Nat} {k:Nat} (h:Sz l k):l.length≤k * 1000000:=by
 induction h with
 | lit h=>have:=lbt h;omega
 | var h=>omega
 | app _ _ h1 h2=>rw [List.length_append];omega
theorem v_catS {i j:List Nat} {k:Nat} (h:Sz (i++j) k) (hk:Nat.ble k 9=true):VOp X (binaryOp .Add) (.str i) (.str j) (.str (i++j)):=
 v_cat (by have:=h.le;have:=lbt hk;rw [List.length_append] at *;omega)
inductive SeqO (h:Heap) (a:Addr) (ty:String) (items:List Value):Prop
 | mk (dd:Option Addr) (n:Nat) (sl:Array (Option Value)):h.get? a=some ⟨.type ty,dd,.seq items.toArray n,sl⟩→SeqO h a ty items
theorem list_o {h:Heap} {a:Addr} {items:List Value} (x:h.IsList a items.toArray):SeqO h a "list" items:=by
 obtain ⟨⟨cls,dd,data,sl⟩,ho,hc,n,hd⟩:=x
 cases hc;cases hd;exact ⟨dd,n,sl,ho⟩
theorem tup_o {h:Heap} {a:Addr} {items:List Value} (x:IsTup h a items.toArray):SeqO h a "tuple" items:=by
 obtain ⟨⟨cls,dd,data,sl⟩,ho,hc,n,hd⟩:=x
 cases hc;cases hd;exact ⟨dd,n,sl,ho⟩
theorem app_arr (a b:List Value):a.toArray++b.toArray=(a++b).toArray:=List.append_toArray ..
theorem two_line {C:Cx} {P:Imm} {vs ws:List Value} {xs ys:List V} (hx:VRs C P vs xs) (hy:VRs C P ws ys) (hz:xs.length+ys.length≤10000000):vs.toArray.size+ws.toArray.size≤sizeLine:=by
 rw [List.size_toArray,List.size_toArray,hx.len,hy.len];exact Nat.le_trans hz (lbt rfl)
theorem o_addl {xs ys:List V} {y z:V} (hm:IsLs σ xs y) (hm':IsLs σ ys z) (hz:xs.length+ys.length≤10000000) (h:Q (.ro (xs++ys)) σ):Op2 X n (binaryOp .Add) y z σ Q R:=fun env outer A g L m I H s v w E a' D hv hw d=>by
 obtain ⟨A₁,hB⟩:=a'.B
 obtain ⟨l,items,rfl,hl,hx⟩:=D.lst hB hm hv
 obtain ⟨b,items2,rfl,hb,hy⟩:=D.lst hB hm' hw
 obtain ⟨dd,k,sl,ho⟩:=list_o hl
 obtain ⟨dd2,k2,sl2,ho2⟩:=list_o hb
 refine concat_meets ⟨_,ho,rfl⟩ ⟨_,ho2,rfl⟩ noFill_list_add seq_list_add PySem.F.slot_list_add PySem.F.entry_list_add (PySem.F.args_list_add_2 _ _) (list_addW l b items.toArray items2.toArray k k2 dd dd2 sl sl2 (two_line hx hy hz)) ⟨ho,ho2,?_⟩
 rw [app_arr]
 exact (D.seqI (fun _ z=>z) (hx.append hy) s.toks).2 h
theorem o_addt {xs ys:List V} (hx0:xs≠[]) (hy0:ys≠[]) (hz:xs.length+ys.length≤10000000) (h:Q (.tup (xs++ys)) σ):Op2 X n (binaryOp .Add) (.tup xs) (.tup ys) σ Q R:=fun env outer A g L m I H s v w E a' D hv hw d=>by
 obtain ⟨A₁,hB⟩:=a'.B
 obtain ⟨l,items,rfl,hl,hx⟩:=tup_at (D.imm hB) hv
 obtain ⟨b,items2,rfl,hb,hy⟩:=tup_at (D.imm hB) hw
 obtain ⟨dd,k,sl,ho⟩:=tup_o hl
 obtain ⟨dd2,k2,sl2,ho2⟩:=tup_o hb
 have ne:∀ {vs:List Value} {xs:List V},VRs X (X.imm I) vs xs→xs≠[]→vs.toArray.isEmpty=false:=fun {vs xs} h n=>by
  cases vs with
  | cons _ _=>rfl
  | nil=>exact absurd (List.eq_nil_of_length_eq_zero h.len.symm) n
 refine concat_meets ⟨_,ho,rfl⟩ ⟨_,ho2,rfl⟩ noFill_tuple_add seq_tuple_add PySem.F.slot_tuple_add PySem.F.entry_tuple_add (PySem.F.args_tuple_add_2 _ _) (tuple_addW2 l b items.toArray items2.toArray k k2 dd dd2 sl sl2 (by rw [ne hx hx0];exact Bool.false_ne_true) (by rw [ne hy hy0];exact Bool.false_ne_true) (two_line hx hy hz)) ⟨ho,ho2,?_⟩
 rw [app_arr]
 exact (D.seqI (fun _ z=>z) (hx.append hy) s.toks).1 h
theorem v_str_int {i:Int} (hi:i.natAbs.log2<1920):VOp1 X (fun v=>call (.type "str") [v]) (.int i) (.str (Str.ofString (toString i)).cps.toList):=fun A P va s Q E a b c ha h=>by
 obtain ⟨t,rfl⟩:=ha.e_int
 exact PySem.P.str_of_int hi (h _ _ .i_str)
theorem o_mull {a:Addr} {vs:List V} {x:Int} (hm:(a,AObj.list vs)∈σ) (hz:vs.length≤1000) (hx:x=0∨x=1) (h:Q (.ro (if x=0 then [] else vs)) σ):Op2 X n (binaryOp .Mult) (.ref a) (.int x) σ Q R:=fun env outer A g L m I H s v w E a' D hv hw d=>by
 obtain ⟨t,rfl⟩:=hw.e_int
 rw [hv.e_ref]
 obtain ⟨_,⟨items,k,rfl,hvs⟩,hN⟩:=D.S.mem hm
 have hl:=(hN _ (.head _)).1
 have e1:=hvs.len
 refine wpAny_binaryOp_repeat_ref (T := "list") (U := "int") (by decide) ⟨_,hl,rfl⟩ (fun s'=>typeIs_int s' x t) noFill_list_mul F.fills_int_mul F.slot_int_rmul repeat_list F.slot_int_index.lookup
  (call_meets F.slot_int_rmul (typeIs_int s x t) F.entry_int_rmul (F.args_int_rmul_2 _ _) (int___rmul___int_list x t a items.toArray k)
   ⟨hl,rfl,⟨_,hl,rfl⟩,call_meets F.slot_list_mul ⟨_,hl,rfl⟩ F.entry_list_mul (F.args_list_mul_2 _ _)
    (AutoListH.list___mul___list_int_3 a items.toArray k x t (by simp [Builtin.List.listFitsIndex];omega) (by rcases hx with rfl | rfl<;>simp<;>omega) (by rcases hx with rfl | rfl<;>simp [Builtin.List.listTooLong,sizeLine]<;>omega))
    ⟨hl,?_⟩⟩)
 rcases hx with rfl | rfl
 ·have:=(D.seqI (Q:=Q) (fun _ z=>z) (ws:=[]) .i_nil s.toks).2 (by rwa [if_pos rfl] at h)
  simpa using this
 ·have:=(D.seqI (Q:=Q) (fun _ z=>z) hvs s.toks).2 (by rwa [if_neg (by decide)] at h)
  cases items<;>simpa using this
end
end Mine
end
section
open PySem PySem.W PySem.Calls PyProof.Rows PySem.Builtin PySem.Builtin.ObjectAttr
namespace Mine
structure EC where
 (nm q:Str) (N:Addr) (bs bm:List Value) (hdct:Bool) (sn:List Str) (sub:List Value) (ab:Bool) (col:Option Bool) (dd:Option Addr) (k0 k1 k2 k3 k5:Option Value)
noncomputable abbrev EC.obj (c:EC) (C:Addr):Obj:=excClassObj c.nm c.q C c.N c.bs c.bm c.hdct c.sn c.sub c.ab c.col c.dd c.k0 c.k1 c.k2 c.k3 c.k5 "Exception.__new__"
structure EC.OK (c:EC):Prop where
 e:c.bm.contains (.type "Exception")=true
 a:c.bm.contains (.type "AttributeError")=false
 n:c.bm.contains (.type "NameError")=false
 b:c.bm.contains (.type "BaseException")=true
inductive ExcC (X:Cx) (fI:Addr):Prop
 | mk (c:EC):X.K.lookup X.xc=some (c.obj X.xc)→c.OK→findIn X.K (.ref X.xc) "__init__" = some (some (.ref fI))→typeIn X.K (.ref fI)=some (.type "function")→ExcC X fI
inductive RaH (c:EC) (C:Addr) (E:Value→Shared→Prop) (s:Shared) (v:Value):Prop
 | mk (e t:Addr) (de:Option Addr):v=.ref e→s.heap.get? C=some (c.obj C)→s.heap.get? e=some (excObj C de t)→E (.ref e) s→RaH c C E s v
theorem raise_made {M:Model} {A:Around} {E:Value→Shared→Prop} {env:Env} {s:Shared} {x:Sem Value} {Q:Flow→Shared→Prop} {C:Addr} {c:EC} (hc:c.OK) (hh:A.handled=none)
  (h:wpAny M A x (fun v s₁=>RaH c C E s₁ v) E s) :
  wpAny M A (raiseStmt env (some x) none) Q E s:=by
 have hcB:(Value.ref C::c.bm).contains (.type "BaseException")=true:=by rw [List.contains_cons,hc.b,Bool.or_true]
 unfold raiseStmt
 refine wpAny_bind (wpAny_mono h (fun v s₁ h₁=>?_) fun _ _ x=>x)
 obtain ⟨e,t,de,rfl,hC,he,hE⟩:=h₁
 obtain ⟨hp,g,d,tk,os⟩:=s₁
 repeat (first | with_reducible refine wpAny_loadPart_at he ?_ | with_reducible refine wpAny_loadPart_at hC ?_ | (with_reducible refine wpAny_isSubtype_exc hC ?_;rw [hcB]) | wp_step)
 exact wpAny_raiseNew_none hh hE
section
variable {M:Model} {A:Around} {E:Value→Shared→Prop} {h:Heap} {g:Array GenState} {d:Drawn} {t:Nat} {os:OsState}
variable {C:Addr} {c:EC}
theorem check_new_g (hc:c.OK) {rest:List Value} {Q:Unit→Shared→Prop} (hC:h.get? C=some (c.obj C))
  (hq:Q () ⟨h,g,d,t,os⟩):wpAny M A (checkBuiltinCall "Exception.__new__" ⟨.ref C::rest,[]⟩) Q E ⟨h,g,d,t,os⟩:=by
 have F:=PySem.F.excBase_Exception
 have hcont:(Value.ref C::c.bm).contains (.type "Exception")=true:=by rw [List.contains_cons,hc.e,Bool.or_true]
 have hstar:=F.noStar
 unfold checkBuiltinCall;rw [F.newKind,F.newSplit,F.newRow]
 repeat (first | refine wpAny_loadPart_at hC ?_ | (refine wpAny_isSubtype_exc hC ?_;rw [hcont]) | refine wpAny_staticBase_exc hC ?_ | refine wpAny_madeBy_exc hC ?_ | rw [if_neg (by decide)] | rw [if_pos (by decide)] | wp_step)
 exact hq
end
section
variable {prog:Program} {w:World} {A:Around} {E:Value→Shared→Prop} {R:Result→Shared→Prop} {h:Heap} {g:Array GenState} {d:Drawn} {t:Nat} {os:OsState}
variable {C:Addr} {c:EC}
theorem exc_new_g (hc:c.OK) {rest:List Value} (hC:h.get? C=some (c.obj C))
  (hq:R (.ok (.ret (.ref (h.objs.size+1)))) ⟨(h.push (tupObj rest)).push (excObj C none h.objs.size),g,d,t,os⟩) (hrest:rest.length≤sizeLine) :
  codeAny (model prog w) A (.builtin "Exception.__new__" ⟨.ref C::rest,[]⟩) R ⟨h,g,d,t,os⟩:=by
 have F:=PySem.F.excBase_Exception
 have hends:=F.ends
 have hcB:(Value.ref C::c.bm).contains (.type "Exception")=true:=by rw [List.contains_cons,hc.e,Bool.or_true]
 have hcA:(Value.ref C::c.bm).contains (.type "AttributeError")=false:=by rw [List.contains_cons,hc.a];rfl
 have hcN:(Value.ref C::c.bm).contains (.type "NameError")=false:=by rw [List.contains_cons,hc.n];rfl
 refine codeAny_builtinAt F.entry ?_
 unfold Builtin.«BaseException.__new__»
 refine PySem.wpAt_bind ?_
 show PySem.wpAt _ _ _ (stack >>= _) _ _ _
 refine PySem.wpAt_bind (PySem.wpAt_stack fun p below=>PySem.wpAt_of_wpAny ?_)
 wp_walk
 refine PySem.wpAt_of_wpAny ?_
 rw [F.owner]
 repeat (first | with_reducible refine wpAny_madeHere_exc F.canon hC ?_ | with_reducible refine wpAny_loadPart_at hC ?_ | (with_reducible refine wpAny_isSubtype_exc hC ?_;first | rw [hcB] | rw [hcA] | rw [hcN]) | wp_step)
 show R _ _
 rw [Heap.size_push]
 exact hq
theorem type_call_g {K:Frag} (X:K.In h) (hc:c.OK) {rest:List Value} {fI:Addr} {Q:Fin→Shared→Prop}
  (hC:h.get? C=some (c.obj C)) (hi:findIn K (.ref C) "__init__" = some (some (.ref fI))) (hf:typeIn K (.ref fI)=some (.type "function"))
  (hq:wpAny (model prog w) A (call (.ref fI) (.ref (h.objs.size+1)::rest)) (fun r s'=>r=.none∧Q (.done (.ret (.ref (h.objs.size+1)))) s') E ⟨(h.push (tupObj rest)).push (excObj C none h.objs.size),g,d,t,os⟩) (hrest:rest.length≤sizeLine) :
  wpAny (model prog w) A (Builtin.«type.__call__» ⟨.ref C::rest,[]⟩) Q E ⟨h,g,d,t,os⟩:=by
 repeat (first | with_reducible refine wpAny_loadPart_at hC ?_ | with_reducible refine wpAny_madeBy_exc hC ?_ | wp_step)
 refine codeAny_call_builtin_code (Code.quiet_builtin _ PySem.F.excBase_Exception.quiet) (check_new_g hc hC ?_)
 refine exc_new_g hc hC ?_ hrest
 show wpAny _ _ _ _ _ _
 have up:∀ b o,h.get? b=some o→((h.push (tupObj rest)).push (excObj C none h.objs.size)).get? b=some o:=fun b o e=>Heap.get?_push_of_some _ (Heap.get?_push_of_some _ e)
 have hC₁:=up _ _ hC
 have hget:((h.push (tupObj rest)).push (excObj C none h.objs.size)).get? (h.objs.size+1)=some (excObj C none h.objs.size):=by heap_get
 have hcC:(Value.ref C::c.bm).contains (.ref C)=true:=by rw [List.contains_cons,beq_self_eq_true];rfl
 unfold isInstance
 repeat (first | with_reducible refine wpAny_loadPart_at hget ?_ | (with_reducible refine wpAny_isSubtype_exc hC₁ ?_;rw [hcC]) | wp_step)
 show wpAny _ _ (typeLookup (.ref C) _) _ _ _
 refine (looks_findIn (fun b o e=>up b o (X b o e)) hi).at ?_
 refine wpAny_holding (wpAny_bind ?_)
 refine (bind_fn (fun b o e=>up b o (X b o e)) (.ref (h.objs.size+1)) hf).at ?_
 refine wpAny_bind (wpAny_mono hq (fun r s' hr=>?_) fun _ _ x=>x)
 obtain ⟨rfl,hQ⟩:=hr
 wp_walk
 exact hQ
theorem call_exc_g {K:Frag} (X:K.In h) (hc:c.OK) {rest:List Value} {fI:Addr}
  (hC:h.get? C=some (c.obj C)) (hi:findIn K (.ref C) "__init__" = some (some (.ref fI))) (hf:typeIn K (.ref fI)=some (.type "function"))
  (hq:codeAny (model prog w) (A.under (.builtin "type.__call__" ⟨.ref C::rest,[]⟩)) (.call (.ref fI) ⟨.ref (h.objs.size+1)::rest,[]⟩) (InitBack (h.objs.size+1) R) ⟨(h.push (tupObj rest)).push (excObj C none h.objs.size),g,d,t,os⟩) (hrest:rest.length≤sizeLine) :
  codeAny (model prog w) A (.call (.ref C) ⟨rest,[]⟩) R ⟨h,g,d,t,os⟩:=by
 have f1:=tc_lookup
 have f2:=tc_bind (.ref C)
 have hT:(⟨h,g,d,t,os⟩:Shared).TypeIs (.ref C) "type":=⟨_,hC,rfl⟩
 refine codeAny_of_tree ?_
 show wpAny _ _ (callAny (.ref C) _) _ _ _
 repeat (any_goals (first | assumption | with_reducible refine wpAny_loadPart_at hC ?_ | wp_step))
 refine ⟨rfl,?_⟩
 refine codeAny_call_builtin_at (Code.quiet_builtin _ (by decide +kernel)) entry_typeCall (wpAny_check_type_call_sub hC (type_call_g X hc hC hi hf (wpAny_call (codeAny_mono hq fun r s' z=>?_)) hrest))
 rcases r with e | (_ | _ | _ | v)
 ·exact z
 ·exact z.elim
 ·exact z.elim
 ·exact z.elim
 ·exact ⟨z.1,z.2⟩
end
section
variable {M:Model} {A:Around} {E:Value→Shared→Prop} {h:Heap} {g:Array GenState} {d:Drawn} {t:Nat} {os:OsState}
variable {C:Addr} {c:EC}
theorem check_init_g (hc:c.OK) {e:Addr} {oe:Obj} {rest:List Value} {Q:Unit→Shared→Prop}
  (hC:h.get? C=some (c.obj C)) (he:h.get? e=some oe) (hcls:oe.cls=.ref C) (hq:Q () ⟨h,g,d,t,os⟩) :
  wpAny M A (checkBuiltinCall "Exception.__init__" ⟨.ref e::rest,[]⟩) Q E ⟨h,g,d,t,os⟩:=by
 have F:=PySem.F.excBase_Exception
 have hcB:(Value.ref C::c.bm).contains (.type "Exception")=true:=by rw [List.contains_cons,hc.e,Bool.or_true]
 have hshort:=F.noStar
 unfold checkBuiltinCall;rw [F.initKind,F.initSplit,F.initRow]
 repeat (first | (with_reducible refine wpAny_loadPart_at he ?_;rw [hcls]) | with_reducible refine wpAny_loadPart_at hC ?_ | (with_reducible refine wpAny_isSubtype_exc hC ?_;rw [hcB]) | wp_step)
 refine wpAny_onRaise ?_
 rw [show ∀ (a b:String) (n:Nat),Bind.check ⟨.positional, "*", "Exception",.self,[⟨"args",.varPos,false⟩]⟩ a b n (List.map (fun x=>x.fst) ({ pos:=Value.ref e::rest }:Args).kw)=pure () from
  fun a b n=>check_star_args _ _ _ _ _ _]
 exact wpAny_pure hq
end
section
variable {prog:Program} {w:World} {A:Around} {E:Value→Shared→Prop} {K:Frag} {C x:Addr} {s:Shared} {h₀:Heap} {L:Addr} {m:Str→Option Value}
theorem store_in_dict {od od':Obj} {dx:Addr} {name:Str} {tk:Tok} {v:Value} {pre post:Led} {es:List DictEntry} {n:Nat} {Q:Fin→Shared→Prop} (F:Fr h₀ L s.heap m) (N:News h₀ L s.heap (pre++(dx,od)::post))
  (hl:(lookIn name od).isSome=true) (h1:∀ p∈pre,p.1≠dx) (h2:∀ p∈post,p.1≠dx)
  (e:Obj.putName name (PyData.keyHash w.params name) (.str name s.toks) v od=od') (e':od'.data=.dict es.toArray n) (hz:es.length≤1000)
  (h:∀ h',Fr h₀ L h' m→News h₀ L h' (pre++(dx,od')::post)→Q (.done (.ret .none)) { s with heap:=h',toks:=s.toks+1 }) :
  wpAny (model prog w) A (storeInDict dx (.str name tk) name v) Q E s:=by
 obtain ⟨U1,U2⟩:=news_upd (f:=Obj.putName name (PyData.keyHash w.params name) (.str name s.toks) v) F N h1 h2 e (by obtain ⟨_,_,dd,_⟩:=od';cases e';rfl)
 have D:=(N (dx,od) (by simp)).1
 have D':=(U2 (dx,od') (by simp)).1
 unfold storeInDict
 refine wpAny_bind (wpAny_pure (wpAny_bind ?_))
 unfold nsSet
 refine wpAny_bind (wpAny_bind (wpAny_askSetting (wpAny_pure (wpAny_bind (wpAny_mkText (wpAny_bind (wpAny_loadPart D ?_)))))))
 unfold lookIn at hl
 split at hl
 ·rename_i es₀ n₀ q
  rw [q]
  dsimp only
  have c:(!es₀.any (·.key.isStr name)&&es₀.any (·.refKey))=false:=by
   rw [← Array.any_toList,← Array.any_toList]
   split at hl
   ·rename_i en he
    rw [List.any_eq_true.mpr ⟨en,List.mem_of_find?_eq_some he,List.find?_some he⟩];rfl
   ·split at hl
    ·cases hl
    ·rename_i z;rw [Bool.not_eq_true] at z;rw [z,Bool.and_false]
  rw [aRefKeyMayBeTheName_at,c]
  refine wpAny_updatePart D ?_
  refine wpAny_bind (wpAny_lookBehind D' (by rw [e'];exact pastItsLine_dict (by rw [List.size_toArray,sizeLine_eq];omega)) ?_)
  exact wpAny_pure (h _ U1 U2)
 ·cases hl
end
noncomputable def isRef:Value→Bool
 | .ref _=>true
 | _=>false
inductive RefI:Value→Prop
 | mk (a):RefI (.ref a)
theorem isRef_i {v:Value} (h:isRef v=true):RefI v:=by
 cases v<;>first | exact ⟨_⟩ | exact absurd h Bool.false_ne_true
noncomputable def excT:List Value:=[.type "Exception",.type "BaseException",.type "object"]
noncomputable def onlyExc:List Value→Bool
 | []=>false
 | v::r=>v::r==excT||isRef v&&onlyExc r
inductive ExcI (v:Value) (r:List Value):Prop
 | now:v::r=excT→ExcI v r
 | ref (c):v=.ref c→onlyExc r=true→ExcI v r
theorem onlyExc_i {v:Value} {r:List Value} (h:onlyExc (v::r)=true):ExcI v r:=
 (Bool.or_eq_true _ _▸(show (v::r==excT||isRef v&&onlyExc r)=true from h):_∨_).elim (fun h=>.now (eq_of_beq h)) fun h=>by
  have h:=band h
  obtain ⟨c⟩:=isRef_i h.1
  exact .ref c rfl h.2
theorem refuse_exc (self:Value):∀ {l:List Value},onlyExc l=true→refuseLoop self "__setattr__" l=pure ()
 | v::r,e=>by
  cases onlyExc_i e with
  | now h=>rw [h];exact PySem.F.store_Exception.passes self
  | ref c h k=>rw [h,refuseLoop_ref];exact refuse_exc self k
theorem exc_has:∀ {l:List Value},onlyExc l=true→l.contains (.type "object")=true
 | v::r,e=>by
  cases onlyExc_i e with
  | now h=>rw [h];rfl
  | ref c h k=>rw [List.contains_cons,exc_has (l:=r) k,Bool.or_true]
noncomputable def plainOverE (K:Frag) (C:Addr):Bool:=(clsIn K C).any fun cd=>onlyExc cd.mro
theorem osa_openE {prog:Program} {w:World} {A:Around} {K:Frag} {C x:Addr} {s:Shared} {R:Result→Shared→Prop} {ox:Obj} {od:Option Obj} {name:Str} {tk:Tok} {v:Value} (X:K.In s.heap) (I:InstAt s.heap x ox C od) (hp:plainOverE K C=true) (ht:takerIn K C name=some none)
  (h:∀ b,wpAny (model prog w) A.in1 (storeInOwnDict (.ref x) (.ref C) (.str name tk) name v b)
   (fun fin s'=>match fin with | .done f=>R (.ok f) s' | .again c'=>c'.quiet=true∧codeAny (model prog w) A c' R s') (fun e s'=>R (.error e) s') s) :
  codeAny (model prog w) A (.call (.builtin "object.__setattr__") ⟨[.ref x,.str name tk,v],[]⟩) R s:=by
 have SF:=PySem.F.store_object
 obtain ⟨cd,hc,ho⟩:=any_some hp
 have ne:cd.mro.isEmpty=false:=by cases q:cd.mro with | nil=>rw [q] at ho;cases ho | cons _ _=>rfl
 have sub:Looks (model prog w) s.heap (isInstance (.ref x) (.type "object")) true:=I.type.andThen (looks_mroIn X (by unfold mroIn;rw [hc,Option.bind_some,if_neg (by rw [ne];decide),exc_has ho]))
 refine codeAny_call_builtin SF.slot.plain SF.entry (@check_slot (model prog w) _ _ s "object.__setattr__" "object" "__setattr__" (.ref x) [.str name tk,v] [] _ SF.kind SF.split sub (SF.args (.ref x) (.str name tk) v) ?_)
 obtain ⟨attr,ha,hr⟩:=Option.bind_eq_some_iff.mp ht
 have hm:Looks (model prog w) s.heap (mroOf (.ref C)) cd.mro:=(looks_clsIn X hc).andThen .now
 have L3:Looks (model prog w) s.heap (storeTaker? attr) none:=by
  cases attr with
  | none=>exact .now
  | some a=>
   obtain ⟨b,hb,e⟩:=Option.map_eq_some_iff.mp hr
   refine (looks_takesIn X hb).andThen ?_
   cases b with
   | true=>cases e
   | false=>exact .now
 rw [osa_eq,refuse_eq]
 refine wpAny_bind (wpAny_bind (I.type.here (wpAny_bind (hm.here ?_))))
 rw [refuse_exc _ ho]
 exact wpAny_pure (wpAny_bind (I.type.here (wpAny_bind ((looks_findIn X ha).here (wpAny_bind (L3.here (h _)))))))
section
variable {X:Cx} {fe:FE} {ic:IC} {n:Nat} {ρ:LV} {σ:Store} {R:Prop}
variable {g:Heap} {L:Addr} {m:Str→Option Value} {I H:Led} {s:Shared}
inductive RaE (σ:Store) (y:V) (R:Prop):Prop
 | mk {ea d}:y=.ref ea→(ea,AObj.exo d)∈σ→R→RaE σ y R
theorem ex_raise {e:Expr} {pos:Pos} {fI:Addr} {Q:QK} (hX:ExcC X fI) (h:Ev X fe.ic n e ρ σ (fun y σ'=>RaE σ' y R) R):Ex1 X fe n (.Raise (some e) none pos) ρ σ Q R:=
 fun outer A g L m I H s E a b c p d=>by
 obtain ⟨ec,hC,hc,_,_⟩:=hX
 rw [arm_exec_Raise]
 show wpAny X.M A (do standAt pos;raiseStmt (fe.env L) (some (do let v ← eval e (fe.env L);standAt pos;pure v)) none) _ E s
 refine wpAny_bind (wpAny_standAt (raise_made (C:=X.xc) hc a.hd (wpAny_bind (h.sm a b c d fun v s₁ I₁ σ₁ y hI D c₁ hv q=>wpAny_bind (wpAny_standAt (wpAny_pure ?_))))))
 obtain ⟨rfl,hm,hR⟩:=q
 obtain ⟨r,hr,hN⟩:=D.S.mem hm
 have fin:∀ dx t vs,r.head? = some (_,excObj X.xc dx t)→(t,tupObj vs)∈r→RaH ec X.xc E s₁ v:=fun dx t vs e1 e2=>by
  have h1:=hN _ (List.mem_of_mem_head? e1)
  have h2:=hN _ e2
  exact ⟨_,t,dx,hv.e_ref,a.K.keeps D.F.keep _ _ hC,h1.1,d hR _ _ (.new rfl D.gens D.os D.F h1.1 h1.2.1 h1.2.2 h2.1 h2.2.2)⟩
 rename_i dx
 cases dx with
 | none=>
  obtain ⟨t,vs,rfl⟩:=hr
  exact fin none t vs rfl (.tail _ (.head _))
 | some fs=>
  obtain ⟨t,vs,dx,es,k,rfl,_⟩:=hr
  exact fin (some dx) t vs rfl (.tail _ (.head _))
theorem call_exc {fI:Addr} {ys:List V} {Q:V→Store→Prop} (hX:ExcC X fI) (hl:Nat.ble ys.length 900=true)
  (h:∀ e,CallOK X n (.ref fI) (.ref e::ys) ((e,.exo none)::σ) (fun y σ'=>IniQ Q e σ' y) R):CallOK X (n+1) (.ref X.xc) ys σ Q R:=
 fun env outer A g L m I H s ws a b c=>by
 obtain ⟨ec,hC,hc,h4,h5⟩:=hX
 obtain ⟨rs,hr,hN,hnd⟩:=b.S.ex
 have KI:=a.K.keeps b.F.keep
 obtain ⟨hh,gs,d,t,os⟩:=s
 refine call_exc_g KI hc (KI _ _ hC) h4 h5 ?_ (by rw [c.len];exact Nat.le_trans (lbt hl) (lbt rfl))
 have N1:=(hN.push b.F (tupObj ws)).push (b.F.push _) (excObj X.xc none hh.objs.size)
 rw [Heap.size_push] at N1
 have fr:∀ {x:Addr},hh.objs.size≤x→∀ p∈I++(H++rs),p.1≠x:=fun hx p hp e=>absurd (Heap.lt_size (hN p hp).1) (Nat.not_lt.mpr (e▸hx))
 have D':Dyn X g L m I H ((hh.objs.size+1,.exo none)::σ) ⟨(hh.push (tupObj ws)).push (excObj X.xc none hh.objs.size),gs,d,t,os⟩:=
  b.addS (o:=.exo none) (r:=[(hh.objs.size+1,excObj X.xc none hh.objs.size),(hh.objs.size,tupObj ws)]) hr ⟨hh.objs.size,ws,rfl⟩ ((b.F.push _).push _) N1
   (nodup_new (nodup_new hnd (fr (Nat.le_refl _))) fun p hp e=>(List.mem_cons.mp hp).elim (fun q=>by rw [q] at e;exact Nat.succ_ne_self _ e.symm) fun q=>fr (Nat.le_succ _) p q e) t
 refine codeAny_mono (h (hh.objs.size+1) env outer _ g L m I H _ (.ref (hh.objs.size+1)::ws) (a.cls X.xc ws) D' (.i_cons .i_ref c)) fun r s' z=>?_
 rcases r with e | (_ | _ | _ | v)
 ·exact z
 ·exact z.elim
 ·exact z.elim
 ·exact z.elim
 ·obtain ⟨I',σ',y,hI,D,hv,hq⟩:=z
  cases hq with
  | mk hq=>exact ⟨hv.e_none,I',σ',.ref (hh.objs.size+1),hI,D,.i_ref,hq⟩
noncomputable def cmOK (K:Frag) (C:Addr) (name:Str) (f:Addr):Bool:=match typeIn K (.ref C) with
 | some mc=>specialIn K (.ref C) "__getattribute__" == some (some (.builtin "type.__getattribute__"))&&readsIn K C mc&&(match findCls K (.ref C) mc name with | some (.val v)=>v==.ref f | _=>false)&&keepIn K (.ref f)
 | none=>false
theorem ev_clsmeth {x:Str} {np:Pos} {name:Str} {apos pos:Pos} {args:List Expr} {C f:Addr} {Q:V→Store→Prop} (hx:ic.gl x=true) (hg:Gl X x (.ref C)) (ok:cmOK X.K C name f=true)
  (h:Es X ic n pos args ρ σ (fun ys σ₂=>CallOK X n (.ref f) ys σ₂ Q R) R) (hp:PlL args) (hl:Nat.ble args.length 29=true) (he:apos.endLine=pos.line) :
  Ev X ic n (.Call (.Attribute (.Name x np) name apos) args [] pos) ρ σ Q R:=fun env' env outer A g L m I H s E a b c d=>by
 unfold cmOK at ok
 split at ok
 ·rename_i mc hm
  have o1:=band ok
  have o2:=band o1.1
  have o3:=band o2.1
  have o4:=o2.2
  split at o4
  ·rename_i v hfc
   obtain rfl:=eq_of_beq o4
   exact mth_go (fun _ _ _=>rfl) hp hl he (c.glo x _ hx hg A np I σ s _ E b (method_of_cls (pl:=do return (← importBound (.Name x np) env).getD true) b.F a.K (eq_of_beq o3.1)
    (cls_val b.F a.K hm o3.2 hfc rfl (fn_go (first:=[]) a d o1.2 hp (fun _ z=>z) .i_nil (h env' env outer A g L m I H _ E a (b.toks _) c d)))))
  ·cases o4
 ·cases ok
noncomputable def tmOK (K:Frag) (T:String) (name:Str) (id:String):Bool:=!Manifest.isStub T&&(match findCls K (.type T) (.type "type") name with | some (.val v)=>v==.builtin id | _=>false)&&handedIn (.builtin id)
theorem ev_tymeth {x:Str} {np:Pos} {name:Str} {apos pos:Pos} {args:List Expr} {T id:String} {Q:V→Store→Prop} (hx:ic.gl x=true) (hg:Gl X x (.type T)) (ht:typeOf (.type T)=pure (.type "type")) (ok:tmOK X.K T name id=true)
  (h:Es X ic n pos args ρ σ (fun ys σ₂=>Op X n ys (fun ws=>call (.builtin id) ws) σ₂ Q R) R) (hp:PlL args) (hl:Nat.ble args.length 29=true) (he:apos.endLine=pos.line) :
  Ev X ic n (.Call (.Attribute (.Name x np) name apos) args [] pos) ρ σ Q R:=fun env' env outer A g L m I H s E a b c d=>by
 have o1:=band ok
 have o2:=band o1.1
 have o3:=o2.2
 split at o3
 ·rename_i v hfc
  obtain rfl:=eq_of_beq o3
  exact mth_go (fun _ _ _=>rfl) hp hl he (c.glo x _ hx hg A np I σ s _ E b (method_type (pl:=do return (← importBound (.Name x np) env).getD true) b.F a.K ht (bne' o2.1) hfc o1.2
   (bi_go (first:=[]) a d hp (fun _ z=>z) .i_nil (h env' env outer A g L m I H _ E a (b.toks _) c d))))
 ·cases o3
theorem o_exc_init {fI:Addr} {e:Addr} {y:V} {Q:V→Store→Prop} (hX:ExcC X fI) (h:Q .none ((e,.exo none)::σ)):Op2 X n (fun v w=>call (.builtin "Exception.__init__") [v,w]) (.ref e) y ((e,.exo none)::σ) Q R:=
 fun env outer A g L m I H s v w E a D hv hw d=>by
 rw [hv.e_ref]
 obtain ⟨ec,hC,hc,h4,h5⟩:=hX
 have KI:=a.K.keeps D.F.keep
 obtain ⟨_,rs,⟨t,vs,rfl⟩,hr,F,hN,hnd⟩:=D.apart .head
 obtain ⟨hh,gs,dr,tk,os⟩:=s
 have he:=hN _ (.head _)
 refine wpAny_call (codeAny_call_builtin PySem.F.excBase_Exception.init.plain PySem.F.excBase_Exception.initEntry (check_init_g hc (KI _ _ hC) he.1 rfl ?_))
 show wpAny _ _ (do PySem.Builtin.BaseException.bexcPut (.ref e) 0 (← newTuple [w]);ret .none) _ _ _
 refine wpAny_bind (wpAny_newObj_type ?_ (lbt rfl))
 have he':(hh.push (tupObj [w])).get? e=some (excObj X.xc none t):=Heap.get?_push_of_some _ he.1
 have N1:=hN.push F (tupObj [w])
 have nd:=nodup_new (b:=hh.objs.size) (o:=tupObj [w]) hnd fun p hp z=>absurd (Heap.lt_size (hN p hp).1) (by rw [z];exact Nat.lt_irrefl _)
 unfold PySem.Builtin.BaseException.bexcPut
 refine wpAny_bind (wpAny_bind (wpAny_field he' rfl (x:=.ref t) rfl (wpAny_bind (wpAny_setField_rec (vs:=#[.ref t,.none,.none,.none,.bool false,.none]) he' (Nat.lt_of_lt_of_le (Nat.succ_pos _) (Nat.le_refl 6)) fun h' g1 g2=>wpAny_letGo ?_))))
 have p1:((e,excObj X.xc none hh.objs.size)::(hh.objs.size,tupObj [w])::(t,tupObj vs)::(I++(H++rs)):Led).map (·.1)=((e,excObj X.xc none t)::(hh.objs.size,tupObj [w])::(t,tupObj vs)::(I++(H++rs)):Led).map (·.1):=rfl
 have nd2:=((List.Perm.swap (e,excObj X.xc none t) (hh.objs.size,tupObj [w]) ((t,tupObj vs)::(I++(H++rs)))).map (·.1)).nodup_iff.mp nd
 have ne:=List.nodup_cons.mp nd2
 have nt:=List.nodup_cons.mp ne.2
 have sub:∀ p∈((hh.objs.size,tupObj [w])::(I++(H++rs)):Led),h'.get? p.1=some p.2∧p.1≠L∧g.get? p.1=none:=fun p hp=>by
  have mem:p∈((hh.objs.size,tupObj [w])::(t,tupObj vs)::(I++(H++rs)):Led):=(List.mem_cons.mp hp).elim (fun q=>q▸.head _) fun q=>.tail _ (.tail _ q)
  have z:=N1 p ((List.mem_cons.mp mem).elim (fun q=>q▸.head _) fun q=>.tail _ (.tail _ q))
  exact ⟨(g2.2 _ fun q=>ne.1 (q▸List.mem_map_of_mem (f:=(·.1)) mem)).trans z.1,z.2⟩
 exact wpAny_pure ⟨I,_,.none,fun _ z=>z,D.addS (o:=.exo none) (r:=[(e,excObj X.xc none hh.objs.size),(hh.objs.size,tupObj [w])]) hr ⟨hh.objs.size,[w],rfl⟩ (Fr.but (F.push _) he.2.1 he.2.2 fun b o hb q=>(g2.2 b hb).trans q)
  (fun p hp=>(List.mem_cons.mp hp).elim (fun q=>by rw [q];exact ⟨g1,he.2⟩) fun q=>sub p q)
  (List.nodup_cons.mpr ⟨fun q=>ne.1 ((List.mem_cons.mp q).elim (fun q=>q▸.head _) fun q=>.tail _ (.tail _ q)),List.nodup_cons.mpr ⟨fun q=>nt.1 (.tail _ q),(List.nodup_cons.mp nt.2).2⟩⟩) tk,.i_none,h⟩
noncomputable def excSet (X:Cx) (x:Str):Bool:=findIn X.K (.ref X.xc) "__setattr__" == some (some (.builtin "object.__setattr__"))&&plainOverE X.K X.xc&&takerIn X.K X.xc x==some none&&hasDictIn X.K X.xc
noncomputable def excAt (X:Cx) (k:Nat) (x:Str):Bool:=excSet X x&&(flds X.xc)[k]? == some x&&decide (flds X.xc).Nodup&&Nat.ble (flds X.xc).length 900
theorem Dyn.setexc0 {A:Around} {E:Value→Shared→Prop} {P:Unit→Shared→Prop} {e:Addr} {x:Str} {v:Value} {y:V}
  (D:Dyn X g L m I H ((e,.exo none)::σ) s) (K:X.K.In g) (hok:excAt X 0 x=true) (hy:VR X (X.imm I) v y) (hh:hv y=true)
  (h:∀ s',Dyn X g L m I H ((e,.exo (some [y]))::σ) s'→P () s'):wpAny X.M A (setAttr (.ref e) x v) P E s:=by
 have a1:=band hok
 have a2:=band a1.1
 have a3:=band a2.1
 have o1:=band a3.1
 have o2:=band o1.1
 have o3:=band o2.1
 have KI:=K.keeps D.F.keep
 obtain ⟨_,rs,⟨t,vs,rfl⟩,hr,F,hN,hnd⟩:=D.apart .head
 obtain ⟨hp,gs,dr,tk,os⟩:=s
 have he:=hN _ (.head _)
 have hi:InstAt hp e (excObj X.xc none t) X.xc none:=⟨he.1,rfl,rfl,trivial⟩
 refine set_plain KI hi (eq_of_beq o3.1) (osa_openE (s:=⟨hp,gs,dr,tk+1,os⟩) KI hi o3.2 (eq_of_beq o2.2) fun b=>?_)
 obtain ⟨cd,hc,hd'⟩:=any_some o1.2
 unfold storeInOwnDict
 refine wpAny_bind (wpAny_pure (wpAny_bind (wpAny_bind (wpAny_loadPart he.1 (wpAny_bind ((looks_clsIn KI hc).at ?_))))))
 rw [hd']
 refine wpAny_bind (m:=alloc emptyDict) (wpAny_alloc (wpAny_bind (wpAny_update (Heap.get?_push_of_some _ he.1) (wpAny_pure (a:=some hp.objs.size) ?_))))
 have N1:=hN.push F emptyDict
 have nd1:=nodup_new (b:=hp.objs.size) (o:=emptyDict) hnd fun p hp z=>absurd (Heap.lt_size (hN p hp).1) (by rw [z];exact Nat.lt_irrefl _)
 have p2:(((e,excObj X.xc none t)::(hp.objs.size,emptyDict)::(t,tupObj vs)::(I++(H++rs)):Led)).Perm ((hp.objs.size,emptyDict)::(e,excObj X.xc none t)::(t,tupObj vs)::(I++(H++rs))):=.swap _ _ _
 have nd2:=List.nodup_cons.mp ((p2.map (·.1)).nodup_iff.mpr nd1)
 have nd3:=List.nodup_cons.mp nd2.2
 have ob:∃ q,flds X.xc=x::q:=by
  cases q:flds X.xc with
  | nil=>rw [q] at a3;cases a3.2
  | cons z r=>rw [q] at a3;exact ⟨r,by rw [show z=x from Option.some.inj (eq_of_beq a3.2)]⟩
 obtain ⟨q,hq⟩:=ob
 obtain ⟨F2,N3⟩:=news_upd (pre:=[]) (f:=fun o=>{ o with dict:=some hp.objs.size }) (o':=excObj X.xc (some hp.objs.size) t) (F.push emptyDict) (fun p hp=>N1 p (p2.mem_iff.mp hp)) (fun _ h=>nomatch h) (fun p hp z=>nd2.1 (z▸List.mem_map_of_mem (f:=(·.1)) hp)) rfl rfl
 refine store_in_dict (s:=⟨_,gs,dr,tk+1,os⟩) (pre:=[(e,excObj X.xc (some hp.objs.size) t)]) (post:=(t,tupObj vs)::(I++(H++rs))) (od:=emptyDict) (od':=dictOf [⟨PyData.keyHash X.w.params x,.str x (tk+1),v⟩] 1) F2 N3 rfl
  (fun p hpp z=>nd2.1 (by rw [List.mem_singleton.mp hpp] at z;exact z▸.head _)) (fun p hpp z=>nd3.1 (z▸List.mem_map_of_mem (f:=(·.1)) hpp)) (putName_dict x (PyData.keyHash X.w.params x) (.str x (tk+1)) v [] 0) rfl (lbt rfl) fun h' F' N'=>?_
 have p3:(((e,excObj X.xc (some hp.objs.size) t)::(t,tupObj vs)::(hp.objs.size,dictOf [⟨PyData.keyHash X.w.params x,.str x (tk+1),v⟩] 1)::(I++(H++rs)):Led)).Perm ((e,excObj X.xc (some hp.objs.size) t)::(hp.objs.size,dictOf [⟨PyData.keyHash X.w.params x,.str x (tk+1),v⟩] 1)::(t,tupObj vs)::(I++(H++rs))):=(List.Perm.swap _ _ _).cons _
 exact h _ (D.addS (o:=.exo (some [y])) (r:=[(e,excObj X.xc (some hp.objs.size) t),(t,tupObj vs),(hp.objs.size,dictOf [⟨PyData.keyHash X.w.params x,.str x (tk+1),v⟩] 1)]) hr
  ⟨t,vs,hp.objs.size,_,1,rfl,by rw [hq];cases q<;>exact ⟨⟨_,rfl⟩,hy.handed hh,hy,trivial⟩⟩ F' (fun p hp=>N' p (p3.mem_iff.mp hp)) ((p3.map (·.1)).nodup_iff.mpr (List.nodup_cons.mpr ⟨nd2.1,nd2.2⟩)) _)
theorem Dyn.setexc1 {A:Around} {E:Value→Shared→Prop} {P:Unit→Shared→Prop} {e:Addr} {k:Nat} {ys ys':List V} {x:Str} {v:Value} {y:V}
  (D:Dyn X g L m I H ((e,.exo (some ys))::σ) s) (K:X.K.In g) (hok:excAt X k x=true) (hs:SetV y k ys ys') (hy:VR X (X.imm I) v y) (hh:hv y=true)
  (h:∀ s',Dyn X g L m I H ((e,.exo (some ys'))::σ) s'→P () s'):wpAny X.M A (setAttr (.ref e) x v) P E s:=by
 have a1:=band hok
 have a2:=band a1.1
 have a3:=band a2.1
 have o1:=band a3.1
 have o2:=band o1.1
 have o3:=band o2.1
 have KI:=K.keeps D.F.keep
 obtain ⟨_,⟨t,vs,dx,es,j,rfl,hf⟩,hc⟩:=D.S.upd (o':=.exo (some ys')) .head
 obtain ⟨pre,post,hp,hN,hnd,hk⟩:=hc [(e,excObj X.xc (some dx) t),(t,tupObj vs)] [] dx _ rfl
 have p1:=hf.setv (hs:=PyData.keyHash X.w.params x) (t:=s.toks+1) (hy.handed hh) hy hs (of_decide_eq_true a2.2) (eq_of_beq a3.2)
 have hi:InstAt s.heap e (excObj X.xc (some dx) t) X.xc (some (dictOf es j)):=⟨(hN _ (hp _ (.head _))).1,rfl,rfl,(hN (dx,dictOf es j) (List.mem_append_right _ (.head _))).1⟩
 obtain ⟨hp',gs,dr,tk,os⟩:=s
 refine set_plain KI hi (eq_of_beq o3.1) (osa_openE (s:=⟨hp',gs,dr,tk+1,os⟩) KI hi o3.2 (eq_of_beq o2.2) fun b=>?_)
 obtain ⟨cd,hc,hd'⟩:=any_some o1.2
 unfold storeInOwnDict
 refine wpAny_bind (wpAny_pure (wpAny_bind (wpAny_bind (wpAny_loadPart hi.at_ (wpAny_bind ((looks_clsIn KI hc).at ?_))))))
 rw [hd']
 have nd:=hnd
 rw [List.map_append,List.nodup_append,List.map_cons,List.nodup_cons] at nd
 refine wpAny_pure (a:=some dx) (store_in_dict (s:=⟨hp',gs,dr,tk+1,os⟩) (es:=putL x (PyData.keyHash X.w.params x) (.str x (tk+1)) v es) (n:=putN x es j) D.F hN hf.isSome (fun p hp z=>nd.2.2 _ (List.mem_map_of_mem (f:=(·.1)) hp) dx (.head _) z)
  (fun p hp z=>nd.2.1.1 (z▸List.mem_map_of_mem (f:=(·.1)) hp)) (putName_dict ..) rfl ?_ fun h' F' N'=>h _ ⟨F',hk h' _ ⟨t,vs,dx,_,_,rfl,p1⟩ N',D.gens,D.os⟩)
 rw [p1.len,List.length_zip]
 exact Nat.le_trans (Nat.le_trans (Nat.min_le_left _ _) (lbt a1.2)) (lbt rfl)
inductive SxE (k:Nat) (z y:V) (P:Store→Prop):Store→Prop
 | zero {a σ}:z=.ref a→k=0→hv y=true→P ((a,.exo (some [y]))::σ)→SxE k z y P ((a,.exo none)::σ)
 | succ {a ys ys' σ}:z=.ref a→SetV y k ys ys'→hv y=true→P ((a,.exo (some ys'))::σ)→SxE k z y P ((a,.exo (some ys))::σ)
theorem ex_setexc {o e:Expr} {attr:Str} {pa pos:Pos} {k:Nat} {Q:QK} (ok:excAt X k attr=true) (hp:PlV e)
  (h:Ev X fe.ic n e ρ σ (fun y σ₁=>Ev X fe.ic n o ρ σ₁ (fun z σ₂=>SxE k z y (fun σ₃=>Q.nx ρ σ₃) σ₂) R) R):Ex1 X fe n (.Assign [.Attribute o attr pa] e pos) ρ σ Q R:=
 fun outer A g L m I H s E a b c p d=>plainObj_wpAny_Assign_Attribute (hs:=hp _ _ _) (h.sm a b c d fun v s₁ I₁ σ₁ y hI D c₁ hv hq=>
  Tr.sm hq a D c₁ d fun w s₂ I₂ σ₂ z hI₂ D₂ c₂ hz q=>by
   cases q with
   | zero e ek hh q=>
    subst e;subst ek
    rw [hz.e_ref]
    exact D₂.setexc0 a.K ok (hv.mono (imm_mono hI₂)) hh fun s₃ D₃=>⟨I₂,_,m,ρ,fun _ z=>hI₂ (hI z),D₃,c₂,.nx q⟩
   | succ e hs hh q=>
    subst e
    rw [hz.e_ref]
    exact D₂.setexc1 a.K ok hs (hv.mono (imm_mono hI₂)) hh fun s₃ D₃=>⟨I₂,_,m,ρ,fun _ z=>hI₂ (hI z),D₃,c₂,.nx q⟩)
end
noncomputable def frees (sc:Scope):List Str:=(sc.names.filter fun p=>p.2==.free).map (·.1)
noncomputable def closes (fe:FE) (xs:List Str):List (Str×Addr):=xs.map fun x=>(x,(fe.cl.lookup x).getD 0)
theorem cellOf_ok {fe:FE} {L:Addr} {x:Str} (h:(fe.cl.lookup x).isSome=true):cellOf (fe.env L) x=pure ((fe.cl.lookup x).getD 0):=by
 unfold cellOf
 show (match fe.cl.lookup x with | some a=>pure a | none=>_)=_
 cases e:fe.cl.lookup x with
 | none=>rw [e] at h;cases h
 | some a=>rfl
theorem closure_go {fe:FE} {L:Addr}:∀ {ns:List (Str×NameKind)} {acc:List (Str×Addr)},(∀ x∈(ns.filter fun p=>p.2==.free).map (·.1),(fe.cl.lookup x).isSome=true) →
  (forIn (m:=Sem) ns acc fun p r=>if (p.2==NameKind.free)=true then do let c ← cellOf (fe.env L) p.1;pure (ForInStep.yield ((p.1,c)::r)) else pure (ForInStep.yield r))=pure (closes fe ((ns.filter fun p=>p.2==.free).map (·.1)).reverse++acc)
 | [],acc,_=>rfl
 | (x,k)::ns,acc,h=>by
  rw [List.forIn_cons]
  by_cases q:(k==NameKind.free)=true
  ·rw [List.filter_cons_of_pos (p:=fun p:Str×NameKind=>p.2==.free) (a:=(x,k)) q] at h ⊢
   rw [if_pos q,cellOf_ok (h x (.head _))]
   refine (closure_go (acc:=(x,(fe.cl.lookup x).getD 0)::acc) fun z hz=>h z (.tail _ hz)).trans ?_
   rw [List.map_cons,List.reverse_cons]
   unfold closes
   rw [List.map_append,List.append_assoc];rfl
  ·rw [List.filter_cons_of_neg (p:=fun p:Str×NameKind=>p.2==.free) (a:=(x,k)) q] at h ⊢
   rw [if_neg q]
   exact closure_go h
theorem closure_ok {sc:Scope} {fe:FE} {L:Addr} (h:∀ x∈frees sc,(fe.cl.lookup x).isSome=true):closureFor sc (fe.env L)=pure (closes fe (frees sc).reverse):=by
 have e:=(closure_go (L:=L) (acc:=[]) h).trans (congrArg pure (List.append_nil _))
 show (forIn (m:=Sem) sc.names [] (fun p r=>if (p.2==NameKind.free)=true then do let c ← cellOf (fe.env L) p.1;pure (ForInStep.yield ((p.1,c)::r)) else pure (ForInStep.yield r)) >>= fun r=>pure r)=_
 rw [e];rfl
theorem closes_at {fe:FE} {x:Str} {c:Addr} (e:fe.cl.lookup x=some c):∀ {xs:List Str},x∈xs→(closes fe xs).lookup x=some c
 | y::xs,h=>by
  show List.lookup x ((y,(fe.cl.lookup y).getD 0)::closes fe xs)=_
  rw [List.lookup_cons]
  by_cases q:x=y
  ·subst q
   rw [beq_self_eq_true,e];rfl
  ·rw [beq_false_of_ne q]
   exact closes_at e ((List.mem_cons.mp h).resolve_left q)
theorem relabel_at {env:Env} {x:Str} {k:NameKind}:∀ {ns:List (Str×NameKind)},ns.lookup x=some k →
  (ns.map fun (n,k)=>if (k==.free&&env.scope.kind==.function&&env.kindOf n==some .cell) then (n,NameKind.cell) else (n,k)).lookup x=some (if (k==.free&&env.scope.kind==.function&&env.kindOf x==some .cell)=true then .cell else k)
 | [],h=>nomatch h
 | (y,j)::ns,h=>by
  have e:(if (j==.free&&env.scope.kind==.function&&env.kindOf y==some .cell)=true then (y,NameKind.cell) else (y,j))=(y,if (j==.free&&env.scope.kind==.function&&env.kindOf y==some .cell)=true then NameKind.cell else j):=by split<;>rfl
  show List.lookup x ((if _ then (y,NameKind.cell) else (y,j))::List.map _ ns)=_
  rw [e,List.lookup_cons]
  rw [List.lookup_cons] at h
  by_cases q:x=y
  ·subst q
   rw [beq_self_eq_true] at h ⊢
   cases h;rfl
  ·rw [beq_false_of_ne q] at h ⊢
   exact relabel_at h
section
variable {X:Cx} {fe:FE} {ic:IC} {n:Nat} {ρ:LV} {σ:Store} {R:Prop}
variable {g:Heap} {L:Addr} {m:Str→Option Value} {I H:Led} {s:Shared}
theorem Dyn.memH {p:Addr×Obj} (D:Dyn X g L m I H σ s) (h:p∈H):s.heap.get? p.1=some p.2:=
 let ⟨_,_,hN,_⟩:=D.S.ex;(hN p (List.mem_append_right _ (List.mem_append_left _ h))).1
noncomputable def blkIC (sc:Scope) (bl fr:List Str):IC:=⟨bl++fr,glS sc,none⟩
structure Blk (fe:FE) (sc:Scope) (bl fr:List Str):Prop where
 k:sc.kind=.function
 fk:fe.scope.kind=.function
 nc:∀ y∈sc.names,y.2≠.cell
 lo:∀ y∈sc.names,y.2=.local→sc.names.lookup y.1=some .local
 cl:∀ x∈frees sc,(fe.cl.lookup x).isSome=true
 b:∀ x∈bl,sc.names.lookup x=some .local∧dbg x=false
 f:∀ x∈fr,sc.names.lookup x=some .free∧x∈frees sc
noncomputable abbrev Blk.env (fe:FE) (sc:Scope) (CC L:Addr):Env:=compEnvC sc (closes fe (frees sc).reverse) CC (fe.env L)
theorem Blk.nms {sc:Scope} {bl fr:List Str} {L' CC:Addr} {oC:Obj} {m₂:Str→Option Value} {P:Imm} {outer:List Env} {A₁:Around} (Bk:Blk fe sc bl fr) (hB:Below A₁ X.base outer g) (K:X.K.In g) (T:TopRead X.p X.loose X.mg X.mb g) (hC:(CC,oC)∈H) (hN:LCg.NsObj oC m₂)
  (hv:∀ i x y,bl[i]? = some x→ρ.at i=some y→LocV m₂ X P x y) (hc:∀ j x y,fr[j]? = some x→ρ.at (bl.length+j)=some y→CelV X P fe x y):Nms X g L m H P (blkIC sc bl fr) ρ (Blk.env fe sc CC L') where
 val i x y a b:=by
  replace a:(bl++fr)[i]? = some x:=a
  by_cases q:i<bl.length
  ·rw [List.getElem?_append_left q] at a
   obtain ⟨v,hm,hv⟩:=hv i x y a b
   have k:=Bk.b x (List.mem_of_getElem? a)
   exact ⟨v,hv,fun A pos I σ s Q E _ D h=>wpAny_Name (wpAny_loadName_local Bk.k (lookup_relabel_local k.1) (hN.ns (D.memH hC)) hm h) k.2⟩
  ·have q:=Nat.le_of_not_lt q
   rw [List.getElem?_append_right q] at a
   obtain ⟨cc,ob,v,h1,h2,h3,h4,h5,h6⟩:=hc _ x y a ((Nat.add_sub_cancel' q).symm▸b)
   have k:=Bk.f x (List.mem_of_getElem? a)
   refine ⟨v,h6,fun A pos I σ s Q E hp D h=>wpAny_Name (wpAny_loadName_cell Bk.k ((relabel_at k.1).trans ?_) (closes_at h3 (List.mem_reverse.mpr k.2)) ⟨ob,D.imm hB _ _ (hp _ _ h4),h5⟩ h) h2⟩
   rw [show (fe.env L').scope.kind=.function from Bk.fk,show (fe.env L').kindOf x=some .cell from h1];rfl
 glo x v h hg A pos I σ s Q E D hq:=by
  have h:=band h
  have hx:(Blk.env fe sc CC L').kindOf x=some .globalImplicit:=(relabel_at (eq_of_beq h.1)).trans rfl
  rcases hg with hg | hg
  ·exact Name_function_global Bk.k hx (loadGlobal_global (env:=Blk.env fe sc CC L') (T.g.keeps D.F.keep) (mg_of K T.g hg) hq) (bne' h.2)
  ·exact Name_function_global Bk.k hx (loadGlobal_builtin (env:=Blk.env fe sc CC L') (T.g.keeps D.F.keep) (mg_none_of K T.g hg.1) (T.b.keeps D.F.keep) ((T.builtins x hg.2.2).trans hg.2.1) hq) (bne' h.2)
 fn _ e:=nomatch e
def tgMk (two:Bool) (ρc:LV) (v:V) (K:LV→Prop):Prop:=
 match two,v with
 | false,v=>K (.c v ρc)
 | true,.tup [a,b]=>K (.c a (.c b ρc))
 | true,_=>False
inductive BTg:Bool→List Str→Expr→Prop
 | one {x p}:BTg false [x] (.Name x p)
 | two {x y px py k p}:¬ x=y→BTg true [x,y] (.Tuple [.Name x px,.Name y py] k p)
theorem BTg.go {two:Bool} {bl fr:List Str} {te:Expr} {sc:Scope} {CC L':Addr} {oC:Obj} {m₂:Str→Option Value} {ρc:LV} {A A₁:Around} {outer:List Env} {E:Value→Shared→Prop} {P:Unit→Shared→Prop} {K:LV→Prop} {v:Value} {y:V} (t:BTg two bl te) (Bk:Blk fe sc bl fr) (hh:A.handled=none) (hB:Below A₁ X.base outer g)
  (D:Dyn X g L m I ((CC,oC)::H) σ s) (hN:LCg.NsObj oC m₂) (hv:VR X (X.imm I) v y) (h:tgMk two ρc y K)
  (k:∀ oC' m₂' s' ρ,Dyn X g L m I ((CC,oC')::H) σ s'→LCg.NsObj oC' m₂'→(∀ i x z,bl[i]? = some x→ρ.at i=some z→LocV m₂' X (X.imm I) x z)→(∀ j,ρ.at (bl.length+j)=ρc.at j)→K ρ→P () s') :
  wpAny X.M A (assign te (Blk.env fe sc CC L') v) P E s:=by
 have kd:((Blk.env fe sc CC L').scope.kind==.class||((Blk.env fe sc CC L').scope.kind==.module&&(Blk.env fe sc CC L').locals != (Blk.env fe sc CC L').globals))=false:=by
  rw [show (Blk.env fe sc CC L').scope.kind=.function from Bk.k];rfl
 cases t with
 | @one x p=>
  refine wpAny_assign_Name (wpAny_storeName_local (lookup_relabel_local (Bk.b x (.head _)).1) (hN.ns D.inH) (fun h₃ hn₃ hs₃=>?_) kd)
  obtain ⟨oC₃,heC₃,hoC₃⟩:=LCg.ns_obj hn₃
  refine k oC₃ _ _ _ (D.mvH (fun b o hb e=>hs₃.extBut b o (fun q=>hb (List.mem_singleton.mpr q)) e) heC₃ (s.toks+1)) hoC₃ (fun i z w hz hw=>?_) (fun j=>?_) h
  ·cases i with
   | succ i=>cases hz
   | zero=>cases hz;cases hw;exact ⟨v,if_pos rfl,hv⟩
  ·rw [Nat.add_comm];rfl
 | @two x y' px py kk p hxy=>
  cases y<;>try exact h.elim
  rename_i vs
  match vs,h with
  | [a,b],h=>
   obtain ⟨T,items,rfl,hu,hi⟩:=tup_at (D.imm hB) hv
   obtain ⟨w₁,r,rfl,hw₁,hr⟩:=hi.e_cons
   obtain ⟨w₂,r,rfl,hw₂,hr⟩:=hr.e_cons
   obtain rfl:=hr.e_nil
   refine kcp_assign hh hu (lookup_relabel_local (Bk.b x (.head _)).1) (lookup_relabel_local (Bk.b y' (.tail _ (.head _))).1) kd (hN.ns D.inH) fun h3 tk hn3 hk3=>?_
   obtain ⟨oC₃,heC₃,hoC₃⟩:=LCg.ns_obj hn3
   refine k oC₃ _ _ _ (D.mvH (fun b o hb e=>hk3 b o (fun q=>hb (List.mem_singleton.mpr q)) e) heC₃ tk) hoC₃ (fun i z w hz hw=>?_) (fun j=>?_) h
   ·match i,hz,hw with
    | 0,hz,hw=>cases hz;cases hw;exact ⟨w₁,(if_neg hxy).trans (if_pos rfl),hw₁⟩
    | 1,hz,hw=>cases hz;cases hw;exact ⟨w₂,if_pos rfl,hw₂⟩
   ·rw [Nat.add_comm];rfl
def CompI (mk:V→(LV→Prop)→Prop) (cn:LV→Store→(Bool→Store→Prop)→Prop) (el:LV→Store→(V→Store→Prop)→Prop) (K:List V→Store→Prop):List V→List V→Store→Prop
 | [],acc,σ=>K acc σ
 | v::r,acc,σ=>mk v fun ρ=>cn ρ σ fun b σ₁=>cond b (el ρ σ₁ fun y σ₂=>CompI mk cn el K r (acc++[y]) σ₂) (CompI mk cn el K r acc σ₁)
noncomputable abbrev tests (ifs:List Expr) (env:Env):Sem Bool:=forIn ifs true fun c r=>if r=true then do let ok ← isTrue c env (eval c env);pure (ForInStep.yield ok) else pure (ForInStep.yield r)
abbrev Ts (X:Cx) (ic:IC) (n:Nat) (ifs:List Expr) (ρ:LV) (σ:Store) (Q:Bool→Store→Prop) (R:Prop):Prop:=Tr (fun _ (a b:Bool)=>a=b) X ic n (tests ifs) ρ σ Q R
theorem ts_nil {Q:Bool→Store→Prop} (h:Q true σ):Ts X ic n [] ρ σ Q R:=fun env' env outer A g L m I H s E a b c d=>wpAny_tests_nil ⟨I,σ,true,fun _ z=>z,b,rfl,h⟩
theorem ts_one {t:Expr} {Q:Bool→Store→Prop} (h:Te X ic n t ρ σ Q R):Ts X ic n [t] ρ σ Q R:=fun env' env outer A g L m I H s E a b c d=>wpAny_tests_one (h env' env outer A g L m I H s E a b c d)
theorem comp_loop {A:Around} {elt target iter:Expr} {ifs:List Expr} {scope:Scope} {pos:Pos} {it acc:Value} {env:Env} {RR:Result→Shared→Prop} (I:Nat→Shared→Prop)
  (turn:∀ n s,I n s→∀ E,wpAny X.M A (pyNext it) (fun r s₁=>match r with
   | none=>RR (.ok .next) s₁
   | some v=>wpAny X.M A (letOwnedTupleGo target it v) (fun _ s₀=>wpAny X.M A (assign target env v) (fun _ s₂=>
     wpAny X.M A (tests ifs env) (fun ok s₃=>cond ok (wpAny X.M A (eval elt env) (fun x s₄=>
      wpAny X.M A (call (.builtin "list.append") [acc,x]) (fun _ s₅=>∃ m,m<n∧I m s₅) E s₄) E s₃) (∃ m,m<n∧I m s₃)) E s₂) E s₀) E s₁) E s)
  (n:Nat) (h:I n s):codeAny X.M A (.compLoop (.ListComp elt [⟨target,iter,ifs,0⟩] scope pos) 0 it acc env) RR s:=by
 refine codeAny_loop rfl I (fun n s hI=>?_) n h
 show wpAny _ A ((compTurn (.ListComp elt [⟨target,iter,ifs,0⟩] scope pos) 0 it acc env).onRaise (fun x=>do noteFrame x env;theTreesLotGoes x)) _ _ s
 refine wpAny_noted ?_
 rw [compTurn_list]
 refine wpAny_bind (wpAny_standAt (wpAny_bind (wpAny_mono (turn n s hI _) (fun r s₁ h₁=>?_) fun _ _ h'=>h')))
 cases r with
 | none=>exact wpAny_pure h₁
 | some v=>
  refine wpAny_bind (wpAny_mono h₁ (fun _ s₀ h₀'=>?_) fun _ _ h'=>h')
  refine wpAny_bind (wpAny_mono h₀' (fun _ s₂ h₂=>?_) fun _ _ h'=>h')
  refine wpAny_bind (wpAny_mono h₂ (fun ok s₃ h₃=>?_) fun _ _ h'=>h')
  cases ok with
  | false=>exact wpAny_pure ⟨rfl,h₃⟩
  | true=>exact wpAny_bind (wpAny_bind (wpAny_mono h₃ (fun x s₄ h₄=>wpAny_bind (wpAny_mono h₄ (fun _ s₅ h₅=>wpAny_pure (wpAny_pure ⟨rfl,h₅⟩)) fun _ _ h'=>h')) fun _ _ h'=>h'))
theorem Dyn.permI {I' H':Led} (D:Dyn X g L m I H σ s) (hp:(I'++H').Perm (I++H)) (hI:I⊆I'):Dyn X g L m I' H' σ s:=by
 obtain ⟨rs,hr,hN,hnd⟩:=D.S.ex
 have e:(I'++(H'++rs)).Perm (I++(H++rs)):=by
  rw [← List.append_assoc,← List.append_assoc];exact hp.append_right rs
 exact ⟨D.F,⟨rs,hr.mono (imm_mono hI),fun p q=>hN p (e.mem_iff.mp q),(e.map (·.1)).nodup_iff.mpr hnd⟩,D.gens,D.os⟩
theorem Dyn.permH {H':Led} (D:Dyn X g L m I H σ s) (hp:H'.Perm H):Dyn X g L m I H' σ s:=D.permI (hp.append_left I) fun _ z=>z
end
section
variable {X:Cx} {fe:FE} {ic:IC} {n:Nat} {ρ:LV} {σ:Store} {R:Prop}
variable {g:Heap} {L:Addr} {m:Str→Option Value} {I H:Led} {s:Shared}
abbrev CpF (X:Cx) (ic:IC) (n:Nat) (two:Bool) (ρc:LV) (ifs:List Expr) (elt:Expr) (R:Prop) (Fin:List V→Store→Prop):List V→List V→Store→Prop:=
 CompI (tgMk two ρc) (fun ρ σ K=>Ts X ic n ifs ρ σ K R) (fun ρ σ K=>Ev X ic n elt ρ σ K R) Fin
inductive CpI (X:Cx) (ic:IC) (n:Nat) (two:Bool) (ρc:LV) (ifs:List Expr) (elt:Expr) (R:Prop) (Fin:List V→Store→Prop) (g:Heap) (L:Addr) (m:Str→Option Value) (I₁ H:Led) (SI:Led→Prop) (K:List V→Obj→Prop) (it CC DD:Addr) (k:Nat) (s:Shared):Prop
 | mk (xs ysV:List V) (ys:List Value) (σ:Store) (I₂:Led) (o oC:Obj) (m₂:Str→Option Value):k=xs.length→I₁⊆I₂→SI I₂→K xs o→Dyn X g L m I₂ ((it,o)::(CC,oC)::(DD,LCg.lst ys)::H) σ s→LCg.NsObj oC m₂→VRs X (X.imm I₂) ys ysV→ysV.length+xs.length≤1000 →
   CpF X ic n two ρc ifs elt R Fin xs ysV σ→CpI X ic n two ρc ifs elt R Fin g L m I₁ H SI K it CC DD k s
def CpE (X:Cx) (Fin:List V→Store→Prop) (g:Heap) (L:Addr) (m:Str→Option Value) (I₁ H:Led) (DD CC:Addr) (P:Shared→Prop):Prop:=
 ∀ (I₂:Led) (σ:Store) (ysV:List V) (ys:List Value) (oC:Obj) (m₂:Str→Option Value) (s:Shared),I₁⊆I₂→Dyn X g L m I₂ ((CC,oC)::(DD,LCg.lst ys)::H) σ s→LCg.NsObj oC m₂→VRs X (X.imm I₂) ys ysV→Fin ysV σ→P s
theorem comp_block {two:Bool} {bl fr:List Str} {te elt iter:Expr} {ifs:List Expr} {pos:Pos} {sc:Scope} {ρc:LV} {env':Env} {outer:List Env} {A A₁:Around} {I₁:Led} {E:Value→Shared→Prop} {L':Addr} {xv:Value} {y:V} {xs:List V} {Fin:List V→Store→Prop} {RR:Value→Addr→Result→Shared→Prop}
  (t:BTg two bl te) (Bk:Blk fe sc bl fr) (hR:R→False) (a:Sta X n env' outer A g L) (hB:Below A₁ X.base outer g) (D:Dyn X g L m I₁ H σ s) (hv:VR X (X.imm I₁) xv y) (hsrc:Src X True te y xs) (hlen:xs.length≤1000)
  (hc:∀ j x z,fr[j]? = some x→ρc.at j=some z→CelV X (X.imm I₁) fe x z) (hf:CpF X (blkIC sc bl fr) n two ρc ifs elt R Fin xs [] σ)
  (fin:∀ DD CC,CpE X Fin g L m I₁ H DD CC fun s=>RR (.ref DD) CC (.ok .next) s) :
  wpAny X.M A (pyIter xv) (fun it s₂=>wpAny X.M A (newList []) (fun acc s₃=>
   wpAny X.M A (newFunctionEnv sc (fe.env L').globals (closes fe (frees sc).reverse) [] (fe.env L').qual none .none (some (fe.env L'))) (fun cenv s₄=>
    codeAny X.M A (.compStart (.ListComp elt [⟨te,iter,ifs,0⟩] sc pos) 0 it acc { cenv with scope:=relabel sc (fe.env L') }) (RR acc cenv.locals) s₄) E s₃) E s₂) E s:=by
 refine hsrc outer A A₁ g L m I₁ H σ s E xv _ a.hd hB D hv fun it SI K o s₂ hit hSI hK D₂=>?_
 have D₃:=D₂.newH { cls:=.type "list",data:=.seq ([]:List Value).toArray } s₂.toks rfl
 refine wpAny_newObj_type (wpAny_newFunctionEnv Bk.nc (fun y hy=>nomatch hy) (fun h₁ hns₁ hsb₁=>?_) Bk.k)
 dsimp only at hns₁ hsb₁ ⊢
 obtain ⟨oC,heC,hoC⟩:=LCg.ns_obj hns₁
 have D₄:=(D₃.newH { cls:=.type "dict",data:=.dict #[] } s₂.toks rfl).mvH (o':=oC) (fun b o hb e=>hsb₁.extBut b o (fun q=>hb (List.mem_singleton.mpr q)) e) heC (s₂.toks+([]:List (Str×Value)).length)
 clear D₃ heC hns₁ hsb₁
 generalize (s₂.heap.push { cls:=.type "list",data:=.seq ([]:List Value).toArray }).objs.size=CC at *
 have D₅:=D₄.permH (H':=(it,o)::(CC,oC)::(_,LCg.lst [])::H) (List.perm_middle (l₁:=[(CC,oC),(_,LCg.lst [])])).symm
 clear D₄
 refine (fun (kk:codeAny X.M A (.compLoop (.ListComp elt [⟨te,iter,ifs,0⟩] sc pos) 0 (.ref it) (.ref s₂.heap.objs.size) (Blk.env fe sc CC L')) (RR (.ref s₂.heap.objs.size) CC) _)=>codeAny_compStart_list kk (hit.self trivial _ _ _ _ _ _ hK D₅.inH kk)) ?_
 refine comp_loop (CpI X (blkIC sc bl fr) n two ρc ifs elt R Fin g L m I₁ H SI K it CC s₂.heap.objs.size) (fun k s' z E=>?_) xs.length ⟨xs,[],[],σ,I₁,o,oC,_,rfl,fun _ z=>z,hSI,hK,D₅,hoC,.i_nil,Nat.le_trans (Nat.le_of_eq (Nat.zero_add _)) hlen,hf⟩
 clear D₅ hoC hf hSI hK hlen
 obtain ⟨xs,ysV,ys,σ,I₂,o,oC,m₂,rfl,hI₂,hSI,hK,D,hoC,hys,hle,hf⟩:=z
 cases xs with
 | nil=>exact hit.done outer A A₁ g L m I₂ _ σ s' _ _ o a.hd hB hK D hSI fun s'' D'=>fin _ _ I₂ σ ysV ys oC m₂ s'' hI₂ D' hoC hys hf
 | cons v xs=>
  refine hit.item outer A A₁ g L m I₂ _ σ s' _ _ v xs o a.hd hB hK D hSI fun u s'' own=>own _ _ fun o' I₃ s₃ hI₃ hK' D' hu=>?_
  have D1:=D'.permH (H':=(CC,oC)::(it,o')::(s₂.heap.objs.size,LCg.lst ys)::H) (.swap _ _ _)
  refine t.go Bk a.hd hB D1 hoC hu hf fun oC₄ m₄ s₄ ρ D4 hoC₄ hvs hcs hf=>?_
  have D5:=D4.permH (H':=(it,o')::(CC,oC₄)::(s₂.heap.objs.size,LCg.lst ys)::H) (.swap _ _ _)
  have hI₁₃:I₁⊆I₃:=fun _ z=>hI₃ (hI₂ z)
  have N:=Bk.nms (L:=L) (m:=m) (L':=L') hB a.K a.T (H:=(it,o')::(CC,oC₄)::(s₂.heap.objs.size,LCg.lst ys)::H) (.tail _ (.head _)) hoC₄ hvs fun j x z hx hz=>(hc j x z hx ((hcs j).symm.trans hz)).mono (imm_mono hI₁₃)
  refine TrM (hf env' _ outer A g L m I₃ _ s₄ _ a D5 N fun r=>(hR r).elim) fun ok s₅ I₅ σ₅ okb hI₅ D6 e hq=>?_
  subst e
  have le:ysV.length+xs.length+1≤1000:=hle
  have hI₁₅:I₁⊆I₅:=fun _ z=>hI₅ (hI₁₃ z)
  have hS₅:=hit.mono _ _ hI₅ (hit.mono _ _ hI₃ hSI)
  cases ok with
  | false=>exact ⟨xs.length,Nat.lt_succ_self _,xs,ysV,ys,σ₅,I₅,o',oC₄,m₄,rfl,hI₁₅,hS₅,hK',D6,hoC₄,(hys.mono (imm_mono hI₃)).mono (imm_mono hI₅),Nat.le_of_succ_le le,hq⟩
  | true=>
   refine TrM (hq env' _ outer A g L m I₅ _ s₅ _ a D6 (N.mono (imm_mono hI₅)) fun r=>(hR r).elim) fun w s₇ I₇ σ₇ y₇ hI₇ D7 hw hq=>?_
   have D8:=D7.permH (H':=(s₂.heap.objs.size,LCg.lst ys)::(it,o')::(CC,oC₄)::H) (List.perm_middle (l₁:=[(it,o'),(CC,oC₄)])).symm
   have hl:ys.length≤1000:=hys.len▸Nat.le_trans (Nat.le_add_right ..) hle
   refine append_at (hsz:=by rw [List.size_toArray,sizeLine_eq];exact Nat.le_trans hl (lbt rfl)) D8.inH fun h₆ hs₆ hD₆=>?_
   have D9:=(D8.mvH (o':=LCg.lst (ys++[w])) (fun b o hb e=>hs₆.extBut b o (fun q=>hb (List.mem_singleton.mpr q)) e) (hD₆.trans (congrArg some (LCg.lst_snoc ys w))) s₇.toks).permH (H':=(it,o')::(CC,oC₄)::(s₂.heap.objs.size,LCg.lst (ys++[w]))::H) (List.perm_middle (l₁:=[(it,o'),(CC,oC₄)]))
   exact ⟨xs.length,Nat.lt_succ_self _,xs,ysV++[y₇],ys++[w],σ₇,I₇,o',oC₄,m₄,rfl,fun _ z=>hI₇ (hI₁₅ z),hit.mono _ _ hI₇ hS₅,hK',D9,hoC₄,(((hys.mono (imm_mono hI₃)).mono (imm_mono hI₅)).mono (imm_mono hI₇)).append (.i_cons hw .i_nil),by rw [List.length_append];exact Nat.le_trans (Nat.le_of_eq (Nat.succ_add ..)) le,hq⟩
inductive CsE (X:Cx) (R:Prop) (te:Expr) (F:List V→Prop) (y:V):Prop
 | mk {xs:List V}:(R→False)→Src X True te y xs→xs.length≤1000→F xs→CsE X R te F y
noncomputable def LV.pk (ρ:LV):List Nat→LV
 | []=>.n
 | j::js=>.o (ρ.at j) (ρ.pk js)
theorem LV.pk_at {ρ:LV}:∀ {js:List Nat} {j:Nat} {y:V},(ρ.pk js).at j=some y→∃ i,js[j]? = some i∧ρ.at i=some y
 | [],_,_,h=>nomatch h
 | i::_,0,_,h=>⟨i,rfl,h⟩
 | _::js,j+1,_,h=>LV.pk_at (js:=js) h
def frOK (fe:FE) (js:List Nat) (fr:List Str):Prop:=∀ (j i:Nat) (x:Str),js[j]? = some i→fr[j]? = some x→fe.ls.length≤i∧fe.cs[i - fe.ls.length]? = some x
theorem ro_led {DD:Addr} {ys:List Value} {ysV:List V} {I₂:Led} (hys:VRs X (X.imm I₂) ys ysV):VR X (X.imm ((DD,LCg.lst ys)::I₂)) (.ref DD) (.ro ysV):=by
 exact ⟨_,_,ys,ys.length,rfl,.inl (.head _),rfl,rfl,hys.mono (imm_mono fun _ z=>.tail _ z)⟩
theorem ev_comp {two:Bool} {bl fr:List Str} {te elt iter:Expr} {ifs:List Expr} {pos:Pos} {sc:Scope} {js:List Nat} {Q:V→Store→Prop} (hic:ic.fe=some fe) (t:BTg two bl te) (Bk:Blk fe sc bl fr) (hj:frOK fe js fr) (hs:∀ env x,foldedSetIterable iter env x=pure x)
  (h:Ev X ic n iter ρ σ (fun y σ₁=>CsE X R te (fun xs=>CpF X (blkIC sc bl fr) n two (ρ.pk js) ifs elt R (fun ys σ=>∀ a,Q (.ref a) ((a,.list ys)::σ)) xs [] σ₁) y) R):Ev X ic n (.ListComp elt [⟨te,iter,ifs,0⟩] sc pos) ρ σ Q R:=fun env' env outer A g L m I H s E a b c d=>by
 obtain ⟨A₁,hB⟩:=a.B
 obtain ⟨L',rfl,hcel⟩:=c.fn fe hic
 rw [eval_ListComp]
 refine wpAny_comprehension_free (use:=none) rfl (hs _) (closure_ok Bk.cl) Bk.k Bk.lo (TrM (h env' _ outer A g L m I H s E a b c d) fun xv s₁ I₁ σ₁ y hI D hv hq=>?_)
 obtain ⟨hR,hsrc,hlen,hf⟩:=hq
 refine comp_block (RR:=fun acc C=>compPost X.M A E none _ acc C) t Bk hR a hB D hv hsrc hlen (fun j x z hx hz=>?_) hf fun DD CC I₂ σ ysV ys oC m₂ s'' hI₂ D' hoC hys hfin=>?_
 ·obtain ⟨i,hi,hz⟩:=LV.pk_at hz
  obtain ⟨h1,h2⟩:=hj j i x hi hx
  exact (hcel _ x z h2 ((Nat.add_sub_cancel' h1).symm▸hz)).mono (imm_mono hI)
 ·refine ⟨m₂,hoC.ns D'.inH,fun h'' hs''=>?_⟩
  have D'':=D'.loseH (fun b o hb e=>hs''.extBut b o hb e) s''.toks
  obtain ⟨rs,hr,h1,h2,h3,N,nd,ne⟩:=D''.atH
  exact ⟨I₂,_,.ref DD,fun _ z=>hI₂ (hI z),D''.addS (a:=DD) (o:=.list ysV) (r:=[(DD,LCg.lst ys)]) hr ⟨ys,ys.length,rfl,hys⟩ D''.F (fun p hp=>(List.mem_cons.mp hp).elim (fun e=>e▸⟨h1,h2,h3⟩) (N p)) (nodup_new nd ne) s''.toks,.i_ref,hfin DD⟩
theorem ex_asg_comp {two:Bool} {bl fr:List Str} {te elt iter:Expr} {ifs:List Expr} {pos spos pz:Pos} {sc:Scope} {js:List Nat} {z:Str} {i:Nat} {Q:QK} (t:BTg two bl te) (Bk:Blk fe sc bl fr) (hj:frOK fe js fr) (hs:∀ env x,foldedSetIterable iter env x=pure x)
  (hz:fe.ls[i]? = some z) (hsw:∀ L,swapsWith (.ListComp elt [⟨te,iter,ifs,0⟩] sc pos) (some (.Name z pz)) spos.line (fe.env L)=pure true)
  (h:Ev X fe.ic n iter ρ σ (fun y σ₁=>CsE X R te (fun xs=>CpF X (blkIC sc bl fr) n two (ρ.pk js) ifs elt R (fun ys σ=>ρ.set i (.ro ys) fun ρ'=>Q.nx ρ' σ) xs [] σ₁) y) R) :
  Ex1 X fe n (.Assign [.Name z pz] (.ListComp elt [⟨te,iter,ifs,0⟩] sc pos) spos) ρ σ Q R:=fun outer A g L m I H s E a b c p d=>by
 obtain ⟨A₁,hB⟩:=a.B
 have hcel:=c.cel
 rw [exec_Assign_Name_used _ _ _ _ (hsw L)]
 refine wpAny_bind (wpAny_standAt (wpAny_bind ?_))
 show wpAny _ A (do let _ ← comprehension (.ListComp elt [⟨te,iter,ifs,0⟩] sc pos) sc (fe.env L) _ (newList []) false (eval iter (fe.env L)) (some (assign (.Name z pz) (fe.env L)))) _ _ s
 refine wpAny_bind (wpAny_mono (wpAny_comprehension_free (use:=some (assign (.Name z pz) (fe.env L))) (Q:=fun _ s'=>StR X fe g L I H Q .next s') rfl (hs _) (closure_ok Bk.cl) Bk.k Bk.lo
  (h.sm a b c d fun xv s₁ I₁ σ₁ y hI D c₁ hv hq=>?_)) (fun _ s' hq=>wpAny_pure (wpAny_pure hq)) fun _ _ e=>e)
 obtain ⟨hR,hsrc,hlen,hf⟩:=hq
 refine comp_block (RR:=fun acc C=>compPost X.M A E (some (assign (.Name z pz) (fe.env L))) _ acc C) t Bk hR a hB D hv hsrc hlen (fun j x w hx hw=>?_) hf fun DD CC I₂ σ ysV ys oC m₂ s'' hI₂ D' hoC hys hfin=>?_
 ·obtain ⟨i,hi,hw⟩:=LV.pk_at hw
  obtain ⟨h1,h2⟩:=hj j i x hi hx
  exact (hcel _ x w h2 ((Nat.add_sub_cancel' h1).symm▸hw)).mono (imm_mono hI)
 ·have D₂:=D'.permI (I':=(DD,LCg.lst ys)::I₂) (H':=(CC,oC)::H) ((List.perm_middle (l₁:=(DD,LCg.lst ys)::I₂)).trans ((List.Perm.cons _ List.perm_middle.symm).trans (List.perm_middle (l₁:=I₂)).symm)) fun _ z=>.tail _ z
  refine PyProof.Rows.assign_Name (D₂.store (c₁.mono (imm_mono fun _ z=>.tail _ (hI₂ z))) hz (ro_led hys) hfin fun m' ρ' s₃ D₃ c₃ hq=>⟨m₂,hoC.ns D₃.inH,fun h'' hs''=>?_⟩)
  exact ⟨(DD,LCg.lst ys)::I₂,σ,m',ρ',fun _ z=>.tail _ (hI₂ (hI z)),D₃.loseH (fun b o hb e=>hs''.extBut b o hb e) s₃.toks,c₃,.nx hq⟩
end
theorem kvr_of {C:Cx} {P:Imm}:∀ {kvs:List (Str×Value)} {ks:List (List Nat)} {vs:List V},kvs.map (·.1)=ks.map (fun k=>(⟨k.toArray⟩:Str))→VRs C P (kvs.map (·.2)) vs→KVR C P kvs (ks.zip vs)∧ks.length=vs.length
 | [],[],vs,_,h=>by cases vs with | nil=>exact ⟨trivial,rfl⟩ | cons _ _=>simp only [List.map_nil,VRs] at h
 | e::kvs,k::ks,vs,h,h'=>by
  cases vs with
  | nil=>simp only [List.map_cons,VRs] at h'
  | cons y ys=>
   simp only [List.map_cons,VRs] at h'
   injection h with h1 h2
   have ih:=kvr_of h2 h'.2
   exact ⟨⟨h1,h'.1,ih.1⟩,congrArg Nat.succ ih.2⟩
 | [],_::_,_,h,_=>nomatch h
 | _::_,[],_,h,_=>nomatch h
structure DcF (X:Cx) (P:Imm) (ks:List (List Nat)) (vs:List V) (d:Addr) (o:Obj) (kvs:List (Str×Value)) (ep:Nat):Prop where
 p:P d o
 da:∃ des,o.data=.dict des ep
 io:o.IsDictOf (PySem.strKind X.prog X.w) kvs
 k:kvs.map (·.1)=ks.map (fun k=>(⟨k.toArray⟩:Str))
 v:VRs X P (kvs.map (·.2)) vs
 nm:(d==sysModules)=false
inductive DcE (X:Cx) (P:Imm) (ks:List (List Nat)) (vs:List V) (v:Value):Prop
 | mk (d:Addr) (o:Obj) (kvs:List (Str×Value)) (ep:Nat):v=.ref d→DcF X P ks vs d o kvs ep→DcE X P ks vs v
section
variable {X:Cx} {fe:FE} {ic:IC} {n:Nat} {ρ:LV} {σ:Store} {R:Prop} {Q:V→Store→Prop}
variable {g:Heap} {L:Addr} {m:Str→Option Value} {I H:Led} {s:Shared} {ks:List (List Nat)} {vs:List V}
theorem VR.e_rd {P:Imm} {v:Value} (h:VR X P v (.rd ks vs)):DcE X P ks vs v:=by
 obtain ⟨a,o,kvs,des,ep,e1,e2,e3,e4,e5,e6,e7⟩:=h
 exact ⟨a,o,kvs,ep,e1,e2,⟨des,e7⟩,e3,e4,e5,e6⟩
theorem DcF.mono {P P':Imm} (h:∀ a o,P a o→P' a o) {d:Addr} {o:Obj} {kvs:List (Str×Value)} {ep:Nat} (z:DcF X P ks vs d o kvs ep):DcF X P' ks vs d o kvs ep:=⟨h _ _ z.p,z.da,z.io,z.k,z.v.mono h,z.nm⟩
theorem DcF.kv {P:Imm} {d:Addr} {o:Obj} {kvs:List (Str×Value)} {ep:Nat} (z:DcF X P ks vs d o kvs ep):KVR X P kvs (ks.zip vs):=(kvr_of z.k z.v).1
theorem DcF.at {outer:List Env} {A₁:Around} {d:Addr} {o:Obj} {kvs:List (Str×Value)} {ep:Nat} (z:DcF X (X.imm I) ks vs d o kvs ep) (hB:Below A₁ X.base outer g) (D:Dyn X g L m I H σ s):s.heap.DictAt (PySem.strKind X.prog X.w) d kvs ep:=by
 obtain ⟨des,hd⟩:=z.da
 obtain ⟨des',ep',hx,hd',r1,r2,r3⟩:=z.io
 rw [hd] at hd'
 cases hd'
 exact ⟨o,des,D.imm hB _ _ z.p,hx,hd,r1,r2,r3⟩
theorem o_get1r {k:List Nat} (h:Q ((dget (ks.zip vs) k).getD .none) σ):Op X n [.rd ks vs,.str k] (fun ws=>call (.builtin "dict.get") ws) σ Q R:=fun env outer A g L m I H s ws E a' D hw d=>
 hw.two (F:=fun ws=>wpAny X.M A (call (.builtin "dict.get") ws) _ E s) fun u v hu hv=>by
 obtain ⟨A₁,hB⟩:=a'.B
 obtain ⟨t,rfl⟩:=hv.e_str
 obtain ⟨d,o,kvs,ep,rfl,z⟩:=hu.e_rd
 have hD:=(z.at hB D).dictOf
 exact call_meetsIn PySem.F.slot_dict_get hD.typeIs PySem.F.entry_dict_get (PySem.F.args_dict_get_2 _ _) (meets_dict_get (PySem.strKind X.prog X.w) d strKey z.nm) ⟨_,hD.mapOf,⟨I,σ,_,fun _ z=>z,D.toks _,z.kv.getD k .i_none,h⟩⟩
theorem o_get2r {k:List Nat} {y:V} (h:Q ((dget (ks.zip vs) k).getD y) σ):Op X n [.rd ks vs,.str k,y] (fun ws=>call (.builtin "dict.get") ws) σ Q R:=fun env outer A g L m I H s ws E a' D hw d=>
 hw.three (F:=fun ws=>wpAny X.M A (call (.builtin "dict.get") ws) _ E s) fun u v w hu hv hw=>by
 obtain ⟨A₁,hB⟩:=a'.B
 obtain ⟨t,rfl⟩:=hv.e_str
 obtain ⟨d,o,kvs,ep,rfl,z⟩:=hu.e_rd
 have hD:=(z.at hB D).dictOf
 exact call_meetsIn PySem.F.slot_dict_get hD.typeIs PySem.F.entry_dict_get (PySem.F.args_dict_get_3 _ _ _) (meets_dict_get_default (PySem.strKind X.prog X.w) d strKey z.nm w) ⟨_,hD.mapOf,⟨I,σ,_,fun _ z=>z,D.toks _,z.kv.getD k hw,h⟩⟩
theorem KVR.at {C:Cx} {P:Imm}:∀ {kvs:List (Str×Value)} {es:List (List Nat×V)} {i:Nat} {p:List Nat×V},KVR C P kvs es→es[i]? = some p→∃ v,kvs[i]? = some (⟨p.1.toArray⟩,v)∧VR C P v p.2
 | [],[],_,_,_,q=>nomatch q
 | e::_,f::_,0,p,h,q=>by
  cases q
  exact ⟨e.2,congrArg (fun k=>some (k,e.2)) h.1,h.2.1⟩
 | _::_,_::_,i+1,p,h,q=>KVR.at (i:=i) h.2.2 q
 | [],_::_,_,_,h,_=>h.elim
 | _::_,[],_,_,h,_=>h.elim
inductive DcK (es:List (List Nat×V)) (F:List Nat×V→V) (ob:Nat→Value→Value→Obj→Prop) (xs:List V) (o:Obj):Prop
 | mk (i:Nat) (a b:Value):i≤es.length→xs=(es.drop i).map F→ob i a b o→DcK es F ob xs o
theorem DcK.cons {es:List (List Nat×V)} {F:List Nat×V→V} {x:V} {xs:List V} {i:Nat} (hx:x::xs=(es.drop i).map F):∃ p,es[i]? = some p∧x=F p∧xs=(es.drop (i+1)).map F∧i<es.length:=by
 have hlt:i<es.length:=Nat.lt_of_not_le fun q=>by rw [List.drop_eq_nil_of_le q] at hx;cases hx
 rw [List.drop_eq_getElem_cons hlt] at hx
 injection hx with e1 e2
 exact ⟨_,List.getElem?_eq_getElem hlt,e1,e2,hlt⟩
theorem DcK.nil {es:List (List Nat×V)} {F:List Nat×V→V} {i:Nat} (hi:i≤es.length) (hx:[]=(es.drop i).map F):i=es.length:=
 Nat.le_antisymm hi (List.drop_eq_nil_iff.mp (List.map_eq_nil_iff.mp hx.symm))
theorem zlen {P:Imm} {d:Addr} {o:Obj} {kvs:List (Str×Value)} {ep:Nat} (z:DcF X P ks vs d o kvs ep):kvs.length=(ks.zip vs).length:=z.kv.len
theorem src_rd {te:Expr}:Src X False te (.rd ks vs) ((ks.zip vs).map fun p=>.str p.1):=fun outer A A₁ g L m I H σ s E v Q hh hB D hv k=>by
 obtain ⟨d,o,kvs,ep,rfl,z⟩:=hv.e_rd
 refine wpAny_pyIter_dict z.nm (z.at hB D) ?_
 refine k s.heap.objs.size (fun I=>DcF X (X.imm I) ks vs d o kvs ep) (DcK (ks.zip vs) (fun p=>.str p.1) fun i _ _ o=>o.cls=.type "dict_keyiterator"∧o.data=.fields #[.ref d,.int i 0,.int kvs.length 0,.int ep 0]) _ _ ⟨fun _ _ hI z=>z.mono (imm_mono hI),fun q=>q.elim,?_,?_⟩ z ⟨0,.none,.none,Nat.zero_le _,rfl,rfl,rfl⟩ (D.newH _ s.toks rfl)
 ·rintro outer A A₁ g L m I H σ s E Q x xs o hh hB ⟨i,_,_,hi,hx,hc,hd⟩ D z hQ
  obtain ⟨p,hp,rfl,hx,hlt⟩:=DcK.cons hx
  obtain ⟨v,hkv,_⟩:=z.kv.at hp
  refine wpAny_pyNext_dict_item (knd:=PySem.strKind X.prog X.w) (kvs:=kvs) (i:=i) (ep:=ep) ⟨o,D.inH,hc,hd⟩ (z.at hB D) hkv fun key h' hkey hit hs=>?_
  obtain ⟨t,rfl⟩:=Value.isStrOf_shape hkey
  obtain ⟨o',ho',hc',hd'⟩:=hit
  have D':=D.mvH (fun b o hb e=>hs.extBut b o (fun q=>hb (List.mem_singleton.mpr q)) e) ho' s.toks
  exact hQ _ _ fun E' Q' kk=>go_plain (o:=o') ho' (by unfold plainIter;rw [hc',hd'];rfl) (kk o' I _ (fun _ z=>z) ⟨i+1,.none,.none,hlt,hx,hc',hd'⟩ D' .i_strL)
 ·rintro outer A A₁ g L m I H σ s E Q o hh hB ⟨i,_,_,hi,hx,hc,hd⟩ D z hQ
  obtain rfl:=DcK.nil hi hx
  refine wpAny_pyNext_dict_end (knd:=PySem.strKind X.prog X.w) (kvs:=kvs) (ep:=ep) hh ⟨o,D.inH,hc,hd⟩ (z.at hB D) (List.getElem?_eq_none (Nat.le_of_eq (zlen z))) fun h' hs=>hQ _ (D.loseH (fun b o hb e=>hs b o hb e) s.toks)
end
theorem keys_miss_lk:typeLookup (.type "list") (Str.ofString "keys")=pure none:=am_miss_of_fast (by kernel_rfl)
theorem keys_miss {prog:Program} {w:World} {A:Around} {E:Value→Shared→Prop} {s:Shared} {a:Addr} {xs:Array Value} {k:Nat} {sl:Array (Option Value)} {Q:Option Value→Shared→Prop}
  (hx:s.heap.get? a=some { cls:=.type "list",dict:=none,data:=.seq xs k,slots:=sl }) (hA:A.handled=none)
  (h:∀ h' tk,(∀ b o,s.heap.get? b=some o→h'.get? b=some o)→Q none { s with heap:=h',toks:=tk }):wpAny (model prog w) A (getAttr? (.ref a) (Str.ofString "keys")) Q E s:=by
 obtain ⟨hp,g,d,tk,os⟩:=s
 have hT:∀ tk',(⟨hp,g,d,tk',os⟩:Shared).TypeIs (.ref a) "list":=fun _=>⟨_,hx,rfl⟩
 have f1:=sub_AttributeError
 have f3:=F.slot_list_getattribute.lookup
 have f4:=F.slot_list_getattribute.bind (.ref a)
 have f5:=am_list_getattr_none
 unfold getAttr? getAttrBy? getAttrBy
 repeat (any_goals (first | assumption | exact hT _ | ((with_reducible show wpAny _ _ (call (Value.builtin "list.__getattribute__") _ _) _ _ _);refine call_meets F.slot_list_getattribute (hT _) am_entry_list_getattribute (F.args_list_getattribute_2 _ _) (meets_getattribute_miss_list a xs k sl _ _ keys_miss_lk (by decide +kernel) (by size_fits)) ⟨hx,hA,fun h' tk' e hx'=>?_⟩) | wp_step))
 obtain ⟨t',u',he⟩:=hx'.there
 show wpAny _ _ (getattributeRaised _ _ _ _ _ _ _) _ _ _
 unfold getattributeRaised hookOrError attributeErrorLeaves
 repeat (any_goals (first | assumption | wp_step))
 exact h h' tk' hx'.keeps
theorem entry_upd:entryFor table "dict.update.loop" = some Builtin.«dict.update.loop»:=entryFor_of_tree (by kernel_rfl)
theorem plain_upd:plainId "dict.update.loop" = true:=by decide +kernel
noncomputable def dictOf' (ps:List (List Nat×V)):List (List Nat×V):=ps.foldl (fun acc p=>dset acc p.1 p.2) []
section
variable {X:Cx} {fe:FE} {ic:IC} {n:Nat} {ρ:LV} {σ τ:Store} {R:Prop} {Q:V→Store→Prop}
variable {g:Heap} {L:Addr} {m:Str→Option Value} {I H:Led} {s:Shared} {ks:List (List Nat)} {vs:List V}
theorem o_items (h:Q (.itm (.rd ks vs)) σ):Op X n [.rd ks vs] (fun ws=>call (.builtin "dict.items") ws) σ Q R:=fun env outer A g L m I H s ws E a' D hw _=>
 hw.one (F:=fun ws=>wpAny X.M A (call (.builtin "dict.items") ws) _ E s) fun u hu=>by
 obtain ⟨A₁,hB⟩:=a'.B
 obtain ⟨d,o,kvs,ep,rfl,z⟩:=id hu.e_rd
 have hD:=(z.at hB D).dictOf
 refine call_meetsIn PySem.F.slot_dict_items hD.typeIs PySem.F.entry_dict_items (PySem.F.args_dict_items_1 _) (meets_dict_items (PySem.strKind X.prog X.w) d z.nm) ⟨⟨kvs,hD⟩,?_⟩
 refine ⟨(s.heap.objs.size,_)::I,σ,.itm (.rd ks vs),fun _ z=>.tail _ z,D.pushI _ s.toks rfl,?_,h⟩
 exact (⟨_,.ref d,rfl,.inl (.head _),hu.mono (imm_mono fun _ z=>.tail _ z)⟩:∃ a u,Value.ref s.heap.objs.size=.ref a∧X.imm ((s.heap.objs.size,{ cls:=.type "dict_items",data:=.fields #[.ref d] })::I) a { cls:=.type "dict_items",data:=.fields #[u] }∧VR X (X.imm ((s.heap.objs.size,{ cls:=.type "dict_items",data:=.fields #[.ref d] })::I)) u (.rd ks vs))
theorem src_itm {es:List Expr} {kk:Nat} {p:Pos}:Src X True (.Tuple es kk p) (.itm (.rd ks vs)) ((ks.zip vs).map fun p=>.tup [.str p.1,p.2]):=fun outer A A₁ g L m I H σ s E v Q hh hB D hv k=>by
 obtain ⟨w,u,rfl,hP,hu⟩:∃ a u,v=.ref a∧X.imm I a { cls:=.type "dict_items",data:=.fields #[u] }∧VR X (X.imm I) u (.rd ks vs):=hv
 obtain ⟨d,o,kvs,ep,rfl,z⟩:=hu.e_rd
 refine wpAny_pyIter_items ⟨_,D.imm hB _ _ hP,rfl,rfl⟩ (z.at hB D) ?_
 refine k s.heap.objs.size (fun I=>DcF X (X.imm I) ks vs d o kvs ep) (DcK (ks.zip vs) (fun p=>.tup [.str p.1,p.2]) fun i a b o=>o = { cls:=.type "dict_itemiterator",data:=.fields #[.none,.bool false,.ref d,.int i 0,.int kvs.length 0,.int ep 0,a,b] }) _ _ ⟨fun _ _ hI z=>z.mono (imm_mono hI),fun _ xs o A s E Q hK ho q=>?_,?_,?_⟩ z ⟨0,.none,.none,Nat.zero_le _,rfl,rfl⟩ (D.newH _ s.toks rfl)
 ·obtain ⟨i,a,b,_,_,rfl⟩:=hK
  exact kcp_self (i:=i) (n:=kvs.length) ho q
 ·rintro outer A A₁ g L m I H σ s E Q x xs o hh hB ⟨i,a,b,hi,hx,rfl⟩ D z hQ
  obtain ⟨p,hp,rfl,hx,hlt⟩:=DcK.cons hx
  obtain ⟨v,hkv,hv⟩:=z.kv.at hp
  refine wpAny_pyNext_items_item (i:=i) D.inH (z.at hB D) hkv fun key h' hkey hOut hT hsz hkeep=>?_
  obtain ⟨t,rfl⟩:=Value.isStrOf_shape hkey
  have D1:=D.pushI { cls:=.type "tuple",data:=.seq #[.str ⟨p.1.toArray⟩ t,v] } s.toks rfl
  have D2:=D1.mvH (h':=h') (fun b o hb e=>(Heap.get?_push_cases e).elim (fun q=>q.1▸q.2▸hT) (hkeep b o fun q=>hb (List.mem_singleton.mpr q))) hOut s.toks
  refine hQ _ _ fun E' Q' kk=>wpAny_letOwnedTupleGo_items hOut fun h2 hI2 hs2=>?_
  refine kk _ _ _ (fun _ z=>.tail _ z) ⟨i+1,_,_,hlt,hx,rfl⟩ (D2.mvH (fun b o hb e=>hs2.extBut b o (fun q=>hb (List.mem_singleton.mpr q)) e) hI2 s.toks) ?_
  exact ⟨_,_,[.str ⟨p.1.toArray⟩ t,v],_,rfl,.inl (.head _),rfl,rfl,⟨t,rfl⟩,hv.mono (imm_mono fun _ z=>.tail _ z),trivial⟩
 ·rintro outer A A₁ g L m I H σ s E Q o hh hB ⟨i,a,b,hi,hx,rfl⟩ D z hQ
  obtain rfl:=DcK.nil hi hx
  exact wpAny_pyNext_items_end hh D.inH (z.at hB D) (List.getElem?_eq_none (Nat.le_of_eq (zlen z))) fun h' hs=>hQ _ (D.loseH (fun b o hb e=>hs b o hb e) s.toks)
theorem kvr_split {C:Cx} {P:Imm}:∀ {kvs:List (Str×Value)} {es:List (List Nat×V)},KVR C P kvs es→kvs.map (·.1)=(es.map (·.1)).map (fun k=>(⟨k.toArray⟩:Str))∧VRs C P (kvs.map (·.2)) (es.map (·.2))
 | [],[],_=>⟨rfl,.i_nil⟩
 | _::_,_::_,h=>let ⟨a,b⟩:=kvr_split h.2.2;⟨congr (congrArg List.cons h.1) a,.i_cons h.2.1 b⟩
 | [],_::_,h=>h.elim
 | _::_,[],h=>h.elim
noncomputable def rdv (es:List (List Nat×V)):V:=.rd (es.map (·.1)) (es.map (·.2))
theorem rdv_zip:∀ {es:List (List Nat×V)},(es.map (·.1)).zip (es.map (·.2))=es
 | []=>rfl
 | _::_=>congrArg (List.cons _) rdv_zip
theorem dset_le1 (es:List (List Nat×V)) (k:List Nat) (v:V):(dset es k v).length≤es.length+1:=by
 unfold dset
 split
 ·exact Nat.le_succ_of_le (Nat.le_of_eq (List.length_map ..))
 ·exact Nat.le_of_eq (List.length_append ..)
theorem own_none {α:Type} {M:Model} {A:Around} {it v:Value} {t:Sem α} {Q:α→Shared→Prop} {E:Value→Shared→Prop} (h:wpAny M A (letOwnedTupleGo (.Name "" ⟨0,0,0,0⟩) it v >>= fun _=>t) Q E s):wpAny M A t Q E s:=h
inductive DcH (X:Cx) (g:Heap) (L:Addr) (m:Str→Option Value) (I H:Led) (σ:Store) (dd it:Addr) (o:Obj) (es:List (List Nat×V)) (s:Shared):Prop
 | mk (od:Obj) (kvs:List (Str×Value)):od.IsDictOf (PySem.strKind X.prog X.w) kvs→KVR X (X.imm I) kvs es→Dyn X g L m I ((it,o)::(dd,od)::H) σ s→DcH X g L m I H σ dd it o es s
noncomputable abbrev pairV (p:List Nat×V):V:=.tup [.str p.1,p.2]
theorem o_dict {a:Addr} {ps:List (List Nat×V)} (hp:Pick (a,.list (ps.map pairV)) σ τ) (hl:ps.length≤1000) (h:Q (rdv (dictOf' ps)) τ):Op X n [.ref a] (fun ws=>call (.type "dict") ws) σ Q R:=fun env outer A g L m I H s ws E a' D hw _=>
 hw.one (F:=fun ws=>wpAny X.M A (call (.type "dict") ws) _ E s) fun u hu=>by
 obtain ⟨A₁,hB⟩:=a'.B
 rw [hu.e_ref]
 obtain ⟨r,⟨items,k,rfl,hits⟩,D2⟩:=D.still hp
 have ha:=D2.imm hB _ _ (.inl (.head _))
 have ns:(s.heap.objs.size==sysModules)=false:=D.F.notModules (modules_low a'.T.nolimit)
 refine callType_codes (Q₁:=fun obj s₁=>obj=.ref s.heap.objs.size∧s₁ = { s with heap:=s.heap.push { cls:=.type "dict",data:=.dict #[] } }) F.kt_called_dict (F.kt_typeCall_dict_1 _) F.entry_dict_init (kt_code_dict_new _ ⟨rfl,rfl⟩) ?_
 rintro obj s₁ ⟨rfl,rfl⟩
 have hnew:(s.heap.push { cls:=.type "dict",data:=.dict #[] }).DictOf (PySem.strKind X.prog X.w) s.heap.objs.size []:=Heap.DictOf.new s.heap
 have D3:=D2.newH { cls:=.type "dict",data:=.dict #[] } s.toks rfl
 obtain ⟨o0,ho0,hd0⟩:=Heap.dictOf_iff.mp hnew
 rw [Heap.get?_push_size _ rfl] at ho0
 have ha3:=Heap.get?_push_of_some { cls:=.type "dict",data:=.dict #[] } ha
 refine ⟨hnew.typeIs,F.args_dict_init_2 _ _,?_⟩
 unfold Builtin.«dict.__init__»
 refine wpAny_bind ?_
 unfold Builtin.Dict.selfAndRest
 refine wpAny_bind (wpAny_notOrdered_dict hnew.typeIs ?_)
 show wpAny _ _ (pure (s.heap.objs.size,[Value.ref a])) _ _ _
 refine wpAny_pure ?_
 show wpAny _ _ (Builtin.Dict.updateFrom "dict.__init__" s.heap.objs.size (.ref a) [] .none) _ _ _
 unfold Builtin.Dict.updateFrom
 refine wpAny_bind (wpAny_typeOf (T := "list") ⟨_,ha3,rfl⟩ ?_)
 rw [if_pos (by decide)]
 refine wpAny_bind (keys_miss ha3 a'.hd fun h' tk hk=>?_)
 have D4:=D3.grow hk tk
 clear ha3 hk D3
 generalize s.heap.objs.size=dd at *
 show wpAny _ _ (rule _ >>= fun _=>_) _ _ _
 refine wpAny_bind (wpAny_rule (wpAny_bind ?_))
 refine src_ro (te:=.Name "" ⟨0,0,0,0⟩) outer A.in1.in1 A₁ g L m _ _ _ _ _ _ _ a'.hd hB D4 (ro_of (a:=a) (X:=X) ⟨items,k,rfl,hits⟩) fun it SI K o s₂ hit hSI hK D5=>?_
 refine wpAny_pure ⟨plainId_quiet plain_upd _,?_⟩
 have loop:∀ (qs:List (List Nat×V)) (acc:List (List Nat×V)) (i:Int) (o:Obj) (I':Led) (s:Shared),I⊆I'→SI I'→K (qs.map pairV) o→DcH X g L m I' H τ dd it o acc s→acc.length+qs.length≤1000 →
   qs.foldl (fun acc p=>dset acc p.1 p.2) acc=dictOf' ps→codeAny X.M A.in1 (.builtin "dict.update.loop" ⟨[.ref dd,.ref it,.int i 0,.none],[]⟩) (wants (fun r s₂=>r=.none∧TrR (VR X) X g L m I H Q (.ref dd) s₂) E) s:=by
  intro qs
  induction qs with
  | nil=>
   rintro acc i o I' s hI hSI hK ⟨od,kvs,hd,hk,D⟩ hle hf
   refine codeAny_builtin entry_upd ?_
   rw [Around.under_plainId plain_upd _]
   show wpAny _ A.in1.in1 (pyNext (.ref it) >>= _) _ _ _
   refine wpAny_bind (hit.done outer A.in1.in1 A₁ g L m _ _ _ s _ _ o a'.hd hB hK D hSI fun s'' D'=>?_)
   have e:acc=dictOf' ps:=hf
   rw [← e] at h
   have D'':=D'.permI (I':=(dd,od)::I') (H':=H) List.perm_middle.symm fun _ z=>.tail _ z
   obtain ⟨des,ep,hx⟩:=id hd
   obtain ⟨k1,k2⟩:=kvr_split hk
   refine wpAny_bind (wpAny_pure (wpAny_pure ⟨rfl,_,_,_,fun _ z=>.tail _ (hI z),D'',?_,h⟩))
   unfold rdv
   exact ⟨dd,od,kvs,des,ep,rfl,.inl (.head _),hd,k1,k2.mono (imm_mono fun _ z=>.tail _ z),ns,hx.2.1⟩
  | cons p qs ih=>
   rintro acc i o I' s hI hSI hK ⟨od,kvs,hd,hk,D⟩ hle hf
   refine codeAny_builtin entry_upd ?_
   rw [Around.under_plainId plain_upd _]
   show wpAny _ A.in1.in1 (pyNext (.ref it) >>= _) _ _ _
   refine wpAny_bind (hit.item outer A.in1.in1 A₁ g L m _ _ _ s _ _ _ _ o a'.hd hB hK D hSI fun v s'' own=>?_)
   refine own_none (wpAny_bind (own _ _ fun o' I₃ s₃ hI₃ hK' D' hv=>?_))
   obtain ⟨b,its,rfl,ht,hvs⟩:=tup_at (D'.imm hB) hv
   obtain ⟨v1,r1,rfl,hv1,hr1⟩:=hvs.e_cons
   obtain ⟨v2,r2,rfl,hv2,hr2⟩:=hr1.e_cons
   obtain rfl:=hr2.e_nil
   obtain ⟨t,rfl⟩:=hv1.e_str
   obtain ⟨ob,hb,hc,kk,hdat⟩:=id ht
   refine wpAny_bind (wpAny_holding (wpAny_bind (wpAny_tryCatch ?_)))
   unfold Builtin.Dict.pairItems
   refine wpAny_bind (wpAny_typeOf (T := "tuple") ⟨ob,hb,hc⟩ ?_)
   rw [if_pos (by decide)]
   refine wpAny_bind ?_
   unfold seqItems?
   refine wpAny_bind (wpAny_load hb ?_)
   rw [hdat]
   refine wpAny_pure (wpAny_pure ?_)
   have le:acc.length+qs.length+1≤1000:=hle
   have D1:=D'.permH (H':=(dd,od)::(it,o')::H) (.swap _ _ _)
   refine wpAny_holding (wpAny_dictSet_pairs (knd:=PySem.strKind X.prog X.w) strKey (Heap.dictOf_iff.mpr ⟨od,D1.inH,hd⟩) (fun h' hm hs=>?_) (by rw [hk.len,sizeLine_eq];exact Nat.le_trans (Nat.le_trans (Nat.le_add_right ..) (Nat.le_of_succ_le le)) (lbt rfl)))
   obtain ⟨od',ho',hd'⟩:=Heap.dictOf_iff.mp hm
   have D2:=(D1.mvH (fun b o hb e=>hs.extBut b o (fun q=>hb (List.mem_singleton.mpr q)) e) ho' (s₃.toks+1)).permH (H':=(it,o')::(dd,od')::H) (.swap _ _ _)
   refine wpAny_pure ⟨plainId_quiet plain_upd _,ih _ _ o' I₃ _ (fun _ z=>hI₃ (hI z)) (hit.mono _ _ hI₃ hSI) hK' ⟨od',_,hd',(hk.mono (imm_mono hI₃)).stored hv2,D2⟩ ?_ hf⟩
   exact Nat.le_trans (Nat.add_le_add_right (dset_le1 ..) _) (Nat.le_trans (Nat.le_of_eq (Nat.succ_add ..)) le)
 exact loop ps [] 0 o _ s₂ (fun _ z=>.tail _ z) hSI hK ⟨_,[],(by cases ho0;exact hd0),trivial,D5⟩ (by rw [List.length_nil,Nat.zero_add];exact hl) rfl
end
mutual
noncomputable def V.py:V→Option PyData
 | .none=>some .none
 | .str s=>some (.str ⟨s.toArray⟩)
 | .tup vs=>(V.pys vs).map .tuple
 | _=>Option.none
noncomputable def V.pys:List V→Option (List PyData)
 | []=>some []
 | v::vs=>(V.py v).bind fun d=>(V.pys vs).map (List.cons d)
end
inductive RdE (h:Heap) (u:Value) (d:PyData):Prop
 | mk (as:List Addr):Reads h u d as→RdE h u d
inductive RdsE (h:Heap) (us:List Value) (ds:List PyData):Prop
 | mk (as:List Addr):ReadsAll h us ds as→RdsE h us ds
theorem nso {α:Type} {a:α} {p:Prop} (h:none=some a):p:=nomatch h
mutual
theorem py_reads {C:Cx} {P:Imm} {h:Heap} (hP:∀ a o,P a o→h.get? a=some o):∀ {v:V} {u:Value} {d:PyData},V.py v=some d→VR C P u v→RdE h u d
 | .none,u,d,e,hv=>by cases e;obtain rfl:=hv.e_none;exact ⟨_,.none⟩
 | .str s,u,d,e,hv=>by cases e;obtain ⟨t,rfl⟩:=hv.e_str;exact ⟨_,.str _ t⟩
 | .tup vs,u,d,e,hv=>by
  obtain ⟨ds,h1,rfl⟩:=Option.map_eq_some_iff.mp (show (V.pys vs).map PyData.tuple=some d from e)
  obtain ⟨a,o,items,n,rfl,hp,hc,hd,hvs⟩:=hv.e_tup
  obtain ⟨as,hr⟩:=pys_reads hP h1 hvs
  exact ⟨as,.tuple (hP _ _ hp) hc hd hr⟩
 | .bool _,_,_,e,_=>nso e
 | .int _,_,_,e,_=>nso e
 | .ro _,_,_,e,_=>nso e
 | .ri _ _,_,_,e,_=>nso e
 | .rd _ _,_,_,e,_=>nso e
 | .itm _,_,_,e,_=>nso e
 | .rng _,_,_,e,_=>nso e
 | .ref _,_,_,e,_=>nso e
 | .exc,_,_,e,_=>nso e
 | .raw _,_,_,e,_=>nso e
theorem pys_reads {C:Cx} {P:Imm} {h:Heap} (hP:∀ a o,P a o→h.get? a=some o):∀ {vs:List V} {us:List Value} {ds:List PyData},V.pys vs=some ds→VRs C P us vs→RdsE h us ds
 | [],us,ds,e,hv=>by cases e;obtain rfl:=hv.e_nil;exact ⟨_,.nil⟩
 | v::vs,us,ds,e,hv=>by
  obtain ⟨u,r,rfl,h1,h2⟩:=hv.e_cons
  obtain ⟨d,e1,e⟩:=Option.bind_eq_some_iff.mp (show (V.py v).bind (fun d=>(V.pys vs).map (List.cons d))=some ds from e)
  obtain ⟨dr,e2,rfl⟩:=Option.map_eq_some_iff.mp e
  obtain ⟨as,ra⟩:=py_reads hP e1 h1
  obtain ⟨bs,rb⟩:=pys_reads hP e2 h2
  exact ⟨_,.cons ra rb⟩
end
noncomputable def okV (v:V):Bool:=(V.py v).any SeqAt.shaped
theorem okV.eqAt {C:Cx} {P:Imm} {A:Around} {s:Shared} {v:V} (h:okV v=true) (hP:∀ a o,P a o→s.heap.get? a=some o) {x y:Value} (hx:VR C P x v) (hy:VR C P y v) (hu:A.in1.units+64<cLine):SeqAt.EqAt A.in1 s x y true:=by
 unfold okV at h
 cases e:V.py v with
 | none=>rw [e] at h;cases h
 | some d=>
  rw [e] at h
  obtain ⟨as,ra⟩:=py_reads hP e hx
  obtain ⟨bs,rb⟩:=py_reads hP e hy
  exact SeqAt.eqv_refl d (SeqAt.canLay_of_shaped h)▸keq_at ra rb h h hu
noncomputable abbrev prV (p:List Nat×List Nat):V:=.tup [.str p.1,.str p.2]
noncomputable abbrev prD (p:List Nat×List Nat):PyData:=.tuple [.str ⟨p.1.toArray⟩,.str ⟨p.2.toArray⟩]
theorem prD_eqv {p q:List Nat×List Nat}:PyData.eqv (prD q) (prD p)=(q==p):=by
 obtain ⟨a,b⟩:=q
 obtain ⟨c,d⟩:=p
 have h2:∀ a b:List Nat,(Str.mk a.toArray==Str.mk b.toArray)=(a==b):=fun a b=>by rw [Bool.eq_iff_iff];simp
 simp only [prD,PyData.eqv,PyData.eqvAll,h2,Bool.and_true]
 rfl
theorem pr_eqAt {C:Cx} {P:Imm} {A:Around} {s:Shared} {p q:List Nat×List Nat} (hq:okV (prV q)=true) (hp:okV (prV p)=true) (hP:∀ a o,P a o→s.heap.get? a=some o) {x y:Value} (hx:VR C P x (prV q)) (hy:VR C P y (prV p)) (hu:A.in1.units+64<cLine):SeqAt.EqAt A.in1 s x y (q==p):=by
 have e:∀ p,V.py (prV p)=some (prD p):=fun p=>rfl
 unfold okV at hp hq
 rw [e] at hp hq
 obtain ⟨as,ra⟩:=py_reads hP (e q) hx
 obtain ⟨bs,rb⟩:=py_reads hP (e p) hy
 exact prD_eqv▸keq_at ra rb hq hp hu
inductive IsDc (σ:Store):List (List Nat×V)→V→Prop
 | ref {a es}:(a,.dict es)∈σ→IsDc σ es (.ref a)
 | rd {ks vs}:IsDc σ (ks.zip vs) (.rd ks vs)
theorem IsDc.rdv {σ:Store} {es:List (List Nat×V)}:IsDc σ es (rdv es):=by
 have:=@IsDc.rd σ (es.map (·.1)) (es.map (·.2))
 rwa [rdv_zip] at this
inductive DcA (X:Cx) (P:Imm) (h:Heap) (es:List (List Nat×V)) (v:Value):Prop
 | mk (a:Addr) (kvs:List (Str×Value)):v=.ref a→h.DictOf (PySem.strKind X.prog X.w) a kvs→KVR X P kvs es→(a==sysModules)=false→DcA X P h es v
structure EqD (es fs:List (List Nat×V)):Prop where
 len:es.length=fs.length
 hit:∀ p∈es,dget fs p.1=some p.2∧okV p.2=true
section
variable {X:Cx} {fe:FE} {ic:IC} {n:Nat} {ρ:LV} {σ τ:Store} {R:Prop} {Q:V→Store→Prop}
variable {g:Heap} {L:Addr} {m:Str→Option Value} {I H:Led} {s:Shared} {ks:List (List Nat)} {vs:List V}
theorem Dyn.dc {outer:List Env} {A₁:Around} (D:Dyn X g L m I H σ s) (hB:Below A₁ X.base outer g) {y:V} {es:List (List Nat×V)} {v:Value} (h:IsDc σ es y) (hv:VR X (X.imm I) v y):DcA X (X.imm I) s.heap es v:=by
 cases h with
 | ref hm=>
  obtain ⟨o,kvs,hN,hd,hk,ns⟩:=D.S.dict hm
  exact ⟨_,kvs,hv.e_ref,Heap.dictOf_iff.mpr ⟨o,(hN _ (.head _)).1,hd⟩,hk,ns⟩
 | rd=>
  obtain ⟨d,o,kvs,ep,rfl,z⟩:=hv.e_rd
  exact ⟨d,kvs,rfl,(z.at hB D).dictOf,z.kv,z.nm⟩
theorem Sta.u90 {env:Env} {outer:List Env} {A:Around} (x:Sta X n env outer A g L):A.in1.units+64<cLine:=by have:=x.ru;show A.units+1+64<cLine;unfold cLine;omega
theorem KVR.hits {P:Imm} {A:Around} (hP:∀ a o,P a o→s.heap.get? a=some o) (hu:A.in1.units+64<cLine) {kb:List (Str×Value)} {fs:List (List Nat×V)} (hb:KVR X P kb fs) :
  ∀ {ka:List (Str×Value)} {es:List (List Nat×V)},KVR X P ka es→(∀ p∈es,dget fs p.1=some p.2∧okV p.2=true)→KeqHits A.in1 s kb ka true
 | [],[],_,_=>.nil
 | (k,v)::ka,f::es,h,hm=>by
  obtain ⟨h1,h2⟩:=hm f (.head _)
  have:=hb.find (l:=f.1)
  rw [h1] at this
  obtain ⟨u,hu',hv⟩:=this
  obtain rfl:k=⟨f.1.toArray⟩:=h.1
  exact KeqHits.hit hu' (h2 |> fun z=>okV.eqAt z hP h.2.1 hv hu) (KVR.hits hP hu hb h.2.2 fun p hp=>hm p (.tail _ hp))
 | [],_::_,h,_=>h.elim
 | _::_,[],h,_=>h.elim
theorem o_eq_dict {y z:V} {es fs:List (List Nat×V)} (hy:IsDc σ es y) (hz:IsDc σ fs z) (he:EqD es fs) (h:Q (.bool true) σ):Op2 X n (compareOp .Eq) y z σ Q R:=fun env outer A g L m I H s v w E a' D hv hw d=>by
 obtain ⟨A₁,hB⟩:=a'.B
 obtain ⟨a,ka,rfl,da,hka,na⟩:=D.dc hB hy hv
 obtain ⟨b,kb,rfl,db,hkb,nb⟩:=D.dc hB hz hw
 refine keq_eq (knd:=PySem.strKind X.prog X.w) (r:=true) na nb da db a'.units (fun _=>KVR.hits (D.imm hB) a'.u90 hkb hka he.hit) ?_
 rw [hka.len,hkb.len,he.len,beq_self_eq_true]
 exact ⟨I,σ,_,fun _ z=>z,D,.i_bool,h⟩
inductive PrAt (ns:List (List Nat×List Nat)) (items:List Value) (p:List Nat×List Nat) (y:Value):Prop
 | mk (i:Nat) (q:List Nat×List Nat):ns[i]? = some q→items[i]? = some y→(q==p)=true→PrAt ns items p y
theorem o_in_prs {y:V} {ns:List (List Nat×List Nat)} {p:List Nat×List Nat} (hy:IsLs σ (ns.map prV) y) (hp:okV (prV p)=true) (hn:ns.all (fun q=>okV (prV q))=true) (h:Q (.bool (ns.any (· == p))) σ):Op2 X n (compareOp .In) (prV p) y σ Q R:=fun env outer A g L m I H s v w E a' D hv hw d=>by
 obtain ⟨A₁,hB⟩:=a'.B
 obtain ⟨a,items,rfl,hl,hvs⟩:=D.lst hB hy hw
 have hlen:items.length=ns.length:=hvs.len.trans (List.length_map ..)
 have each:∀ (i:Nat) (q:List Nat×List Nat) (y:Value),ns[i]? = some q→items[i]? = some y→SeqAt.EqAt A.in1 s y v (q==p):=fun i q y hq hy=>by
  obtain ⟨y',hy',hr⟩:=hvs.get (i:=i) (y:=prV q) (by rw [List.getElem?_map,hq];rfl)
  rw [hy] at hy'
  cases hy'
  exact pr_eqAt (List.all_eq_true.mp hn q (List.mem_of_getElem? hq)) hp (D.imm hB) hr hv a'.u90
 have dec:∀ y,Decidable (PrAt ns items p y):=fun _=>Classical.propDecidable _
 refine SeqAt.in_listAt (e:=fun y=>decide (PrAt ns items p y)) hl (fun y hy=>?_) ?_
 ·obtain ⟨i,hi⟩:=List.mem_iff_getElem?.mp (List.mem_toArray.mp hy)
  by_cases hx:PrAt ns items p y
  ·rw [decide_eq_true hx]
   obtain ⟨i,q,h1,h2,h3⟩:=hx
   exact h3▸each i q y h1 h2
  ·rw [decide_eq_false hx]
   have hlt:i<ns.length:=hlen▸(List.getElem?_eq_some_iff.mp hi).1
   have hq:=List.getElem?_eq_getElem hlt
   have e:(ns[i]==p)=false:=by
    cases q:ns[i]==p with
    | false=>rfl
    | true=>exact absurd ⟨i,ns[i],hq,hi,q⟩ hx
   exact e▸each i _ y hq hi
 ·have e:(List.toArray items).any (fun y=>decide (PrAt ns items p y))=ns.any (· == p):=by
   rw [List.any_toArray,Bool.eq_iff_iff,List.any_eq_true,List.any_eq_true]
   constructor
   ·rintro ⟨y,_,hy⟩
    obtain ⟨i,q,h1,_,h3⟩:=of_decide_eq_true hy
    exact ⟨q,List.mem_of_getElem? h1,h3⟩
   ·rintro ⟨q,hq,h3⟩
    obtain ⟨i,hi⟩:=List.mem_iff_getElem?.mp hq
    have hlt:i<items.length:=hlen▸(List.getElem?_eq_some_iff.mp hi).1
    have hy:=List.getElem?_eq_getElem hlt
    exact ⟨_,List.mem_of_getElem? hy,decide_eq_true ⟨i,q,hi,hy,h3⟩⟩
  rw [e]
  exact ⟨I,σ,_,fun _ z=>z,D,.i_bool,h⟩
end
theorem prK_inj {p q:List Nat×List Nat} (h:prK p=prK q):p=q:=by
 obtain ⟨a,b⟩:=p
 obtain ⟨c,d⟩:=q
 injection h with h1 h2
 injection h2 with h2
 exact Prod.ext (congrArg (fun s:Str=>s.cps.toList) h1) (congrArg (fun s:Str=>s.cps.toList) h2)
section
variable {prog:Program} {w:World} {A:Around} {E:Value→Shared→Prop} {s:Shared}
theorem td_same {nm:String} {a b:Addr} {xa xb:List (List Str×Addr×Value)} {Q:Bool→Shared→Prop} (ha:(a==sysModules)=false) (hb:(b==sysModules)=false)
  (da:s.heap.DictOfH (TK prog w) a xa) (db:s.heap.DictOfH (TK prog w) b xb) (hl:xa.length=xb.length) (hu:A.units<cLine)
  (hits:∀ x∈xa,∃ (j:Nat) (y:Addr×Value),xb[j]? = some (x.1,y)∧SeqAt.EqAt A s x.2.2 y.2 true) (h:Q true s):wpAny (model prog w) A (Builtin.Dict.samePairs nm a b) Q E s:=by
 obtain ⟨oa,es,ep,hoa,_,hda,hea,hia,hna⟩:=da
 obtain ⟨ob,fs,fp,hob,_,hdb,heb,hib,hnb⟩:=db
 have sa:es.size=xa.length:=size_of_entries hea
 have sb:fs.size=xb.length:=size_of_entries heb
 unfold Builtin.Dict.samePairs Builtin.Dict.showsAll
 rw [if_neg (by rw [ha];exact Bool.false_ne_true),if_neg (by rw [hb];exact Bool.false_ne_true)]
 refine wpAny_bind (wpAny_pure (wpAny_bind (wpAny_pure (wpAny_bind (wpAny_dictEntries hoa hda ?_)))))
 dsimp only
 refine wpAny_bind (wpAny_dictEntries hob hdb ?_)
 rw [if_neg (by rw [sa,sb,hl];simp)]
 refine wpAny_bind (wpAny_dictEpoch hoa hda (wpAny_bind ?_))
 rw [Std.Legacy.Range.forIn_eq_forIn_range']
 simp only [Std.Legacy.Range.size,Nat.sub_zero,Nat.add_sub_cancel,Nat.div_one]
 refine wpAny_forIn_list _ (fun rest q s'=>s'=s∧q=(none,())∧∀ i∈rest,i<es.size) _ ?_ ?_ _ _ ⟨rfl,rfl,fun i hi=>by have:=List.mem_range'_1.mp hi;omega⟩
 ·rintro x rest q s' ⟨rfl,rfl,hr⟩
  have hx:x<es.size:=hr x (.head _)
  obtain ⟨⟨k,ka,v⟩,hxa⟩:∃ z,xa[x]? = some z:=⟨_,List.getElem?_eq_getElem (sa▸hx)⟩
  have hex:es[x]? = some ⟨(TK prog w).hash k,.ref ka,v⟩:=by rw [entry_at hea x,hxa];rfl
  obtain ⟨j,y,hj,he⟩:=hits _ (List.mem_of_getElem? hxa)
  refine wpAny_bind (wpAny_dictEntries hoa hda ?_)
  rw [hex]
  refine wpAny_bind (wpAny_holding (wpAny_bind (wpAny_dictFind_heap (knd:=TK prog w) hu (hia _ (List.mem_of_getElem? hxa)) hob hdb heb hib hnb (fun hno=>absurd hj (hno j y)) fun j' p hj'=>?_)))
  obtain rfl:=idxH_unique hnb hj hj'
  rw [hj] at hj'
  cases hj'
  refine wpAny_bind (wpAny_dictEntries hob hdb ?_)
  rw [entry_at heb j,hj]
  refine wpAny_holding (he prog w _ _ ?_)
  show wpAny _ _ (if (!true)=true then _ else _) _ _ _
  rw [if_neg (by decide)]
  refine wpAny_bind (wpAny_dictEpoch hoa hda ?_)
  rw [if_neg (by simp)]
  exact wpAny_pure ⟨rfl,rfl,fun i hi=>hr i (.tail _ hi)⟩
 ·rintro q s' ⟨rfl,rfl,_⟩
  exact wpAny_pure h
theorem td_eq {a b:Addr} {xa xb:List (List Str×Addr×Value)} {Q:Value→Shared→Prop} (ha:(a==sysModules)=false) (hb:(b==sysModules)=false)
  (da:s.heap.DictOfH (TK prog w) a xa) (db:s.heap.DictOfH (TK prog w) b xb) (hl:xa.length=xb.length) (hu:A.units+1<cLine)
  (hits:∀ x∈xa,∃ (j:Nat) (y:Addr×Value),xb[j]? = some (x.1,y)∧SeqAt.EqAt A.in1 s x.2.2 y.2 true) (h:Q (.bool true) s):wpAny (model prog w) A (compareOp .Eq (.ref a) (.ref b)) Q E s:=by
 refine wpAny_richCompare_same_room (op:=.Eq) da.typeIs db.typeIs PySem.F.slot_dict_eq (wpAny_call_entry PySem.F.slot_dict_eq da.typeIs PySem.F.entry_dict_eq ?_ (PySem.F.args_dict_eq_2 _ _)) (Nat.lt_of_succ_lt hu)
 show wpAny _ _ (Builtin.Dict.dictSlotArgs "__eq__" ⟨[.ref a,.ref b],[]⟩ >>= _) _ _ s
 refine wpAny_bind ?_
 unfold Builtin.Dict.dictSlotArgs
 refine wpAny_bind (wpAny_notOrdered_dict da.typeIs ?_)
 show wpAny _ _ (pure (Value.ref a,Value.ref b)) _ _ s
 refine wpAny_pure (wpAny_bind (wpAny_isInstance (T := "dict") db.typeIs PySem.F.sub_dict_dict ?_))
 simp only [Bool.not_true,Bool.false_eq_true,if_false]
 refine wpAny_bind (wpAny_pure (wpAny_bind (wpAny_pure (wpAny_bind (td_same ha hb da db hl (by exact hu) hits ?_)))))
 exact wpAny_pure ⟨_,rfl,fun x=>(nomatch x),h⟩
end
structure EqT (es fs:List ((List Nat×List Nat)×V)):Prop where
 len:es.length=fs.length
 hit:∀ p∈es,p∈fs∧okV p.2=true
section
variable {X:Cx} {fe:FE} {ic:IC} {n:Nat} {ρ:LV} {σ τ:Store} {R:Prop} {Q:V→Store→Prop}
variable {g:Heap} {L:Addr} {m:Str→Option Value} {I H:Led} {s:Shared} {es fs:List ((List Nat×List Nat)×V)}
inductive TdA (X:Cx) (P:Imm) (h:Heap) (a:Addr) (es:List ((List Nat×List Nat)×V)):Prop
 | mk (xs:List (List Str×Addr×Value)):h.DictOfH (TK X.prog X.w) a xs→xs.map (·.1)=es.map (fun q=>prK q.1)→VRs X P (xs.map (·.2.2)) (es.map (·.2))→(∀ x∈xs,KeyT X P x)→(a==sysModules)=false→TdA X P h a es
theorem KeyT.is {P:Imm} {h:Heap} {x:List Str×Addr×Value} (k:KeyT X P x) (hP:∀ a o,P a o→h.get? a=some o):(TK X.prog X.w).is h x.1 x.2.1:=
 let ⟨o,items,n,h1,h2,h3,h4⟩:=k;⟨o,items,n,hP _ _ h1,h2,h3,h4⟩
theorem Dyn.td {outer:List Env} {A₁:Around} (D:Dyn X g L m I H σ s) (hB:Below A₁ X.base outer g) {a:Addr} (hm:(a,AObj.tdict es)∈σ):TdA X (X.imm I) s.heap a es:=by
 obtain ⟨r,⟨o,rfl,xs,des,ep,h1,h2,h3,h4,h5,h6,h7,h8⟩,hN⟩:=D.S.mem hm
 exact ⟨xs,⟨o,des,ep,(hN _ (.head _)).1,h1,h2,h3,fun x hx=>(h5 x hx).is (D.imm hB),h7⟩,h4,h6,h5,h8⟩
theorem td_at {xs:List (List Str×Addr×Value)} (h4:xs.map (·.1)=es.map (fun q=>prK q.1)) {P:Imm} (h6:VRs X P (xs.map (·.2.2)) (es.map (·.2))) {i:Nat} {q:(List Nat×List Nat)×V} (hq:es[i]? = some q):∃ b v,xs[i]? = some (prK q.1,b,v)∧VR X P v q.2:=by
 obtain ⟨v,h1,h2⟩:=h6.get (i:=i) (y:=q.2) (by rw [List.getElem?_map,hq];rfl)
 have h3:=congrArg (·[i]?) h4
 simp only [List.getElem?_map,hq,Option.map_some] at h1 h3
 cases hx:xs[i]? with
 | none=>rw [hx] at h1;cases h1
 | some x=>
  rw [hx] at h1 h3
  cases h1
  injection h3 with h3
  exact ⟨x.2.1,x.2.2,by rw [← h3],h2⟩
theorem td_has {xs:List (List Str×Addr×Value)} (h4:xs.map (·.1)=es.map (fun q=>prK q.1)) {p:List Nat×List Nat}:(atKey xs (prK p)).isSome=es.any fun q=>q.1==p:=by
 have e:(atKey xs (prK p)).isSome=xs.any fun x=>decide (x.1=prK p):=by
  unfold atKey
  rw [Option.isSome_map,Bool.eq_iff_iff,List.find?_isSome,List.any_eq_true]
 have e2:(xs.any fun x=>decide (x.1=prK p))=(xs.map (·.1)).any fun k=>decide (k=prK p):=by rw [List.any_map];rfl
 rw [e,e2,h4,List.any_map]
 congr 1
 funext q
 show decide (prK q.1=prK p)=(q.1==p)
 by_cases hq:q.1=p
 ·rw [hq,beq_self_eq_true];exact decide_eq_true rfl
 ·rw [beq_false_of_ne hq]
  exact decide_eq_false fun e=>hq (prK_inj e)
inductive KeyE (X:Cx) (P:Imm) (p:List Nat×List Nat) (v k:Value):Prop
 | mk (kb:Addr):k=.ref kb→KeyT X P (prK p,kb,v)→KeyE X P p v k
theorem keyT_of {P:Imm} {k v:Value} {p:List Nat×List Nat} (hk:VR X P k (prV p)):KeyE X P p v k:=by
 obtain ⟨kb,ok,items,n,rfl,hp,hc,hd,hits⟩:=hk.e_tup
 obtain ⟨u1,r1,rfl,h1,hr⟩:=hits.e_cons
 obtain ⟨u2,r2,rfl,h2,hr⟩:=hr.e_cons
 obtain rfl:=hr.e_nil
 obtain ⟨t1,rfl⟩:=h1.e_str
 obtain ⟨t2,rfl⟩:=h2.e_str
 exact ⟨kb,rfl,ok,_,n,hp,hc,hd,.cons (strKind_is X.prog X.w _ t1) (.cons (strKind_is X.prog X.w _ t2) .nil)⟩
theorem o_notin_td {a:Addr} {p:List Nat×List Nat} (hm:(a,AObj.tdict es)∈σ) (h:Q (.bool (!es.any fun q=>q.1==p)) σ):Op2 X n (compareOp .NotIn) (prV p) (.ref a) σ Q R:=fun env outer A g L m I H s v w E a' D hv hw d=>by
 obtain ⟨A₁,hB⟩:=a'.B
 rw [hw.e_ref]
 obtain ⟨kb,rfl,hk⟩:=keyT_of (v:=.none) hv
 obtain ⟨xs,T,h4,_,_,ns⟩:=D.td hB hm
 refine wpAny_notIn_heap (knd:=TK X.prog X.w) (tupleKind_room_in1 (Nat.lt_of_le_of_lt (Nat.le_add_right (A.units+1) 64) a'.u90)) (hk.is (D.imm hB)) ns T ?_
 rw [td_has h4]
 exact ⟨I,σ,_,fun _ z=>z,D.toks _,.i_bool,h⟩
theorem o_eq_td {a b:Addr} (ha:(a,AObj.tdict es)∈σ) (hb:(b,AObj.tdict fs)∈σ) (he:EqT es fs) (h:Q (.bool true) σ):Op2 X n (compareOp .Eq) (.ref a) (.ref b) σ Q R:=fun env outer A g L m I H s v w E a' D hv hw d=>by
 obtain ⟨A₁,hB⟩:=a'.B
 rw [hv.e_ref,hw.e_ref]
 obtain ⟨xa,Ta,ka,va,_,na⟩:=D.td hB ha
 obtain ⟨xb,Tb,kb,vb,_,nb⟩:=D.td hB hb
 have la:xa.length=es.length:=by have:=congrArg List.length ka;rwa [List.length_map,List.length_map] at this
 have lb:xb.length=fs.length:=by have:=congrArg List.length kb;rwa [List.length_map,List.length_map] at this
 refine td_eq na nb Ta Tb (la.trans (he.len.trans lb.symm)) (Nat.lt_of_le_of_lt (Nat.le_add_right (A.units+1) 64) a'.u90) (fun x hx=>?_) ⟨I,σ,_,fun _ z=>z,D,.i_bool,h⟩
 obtain ⟨i,hi⟩:=List.mem_iff_getElem?.mp hx
 have hlt:i<es.length:=la▸(List.getElem?_eq_some_iff.mp hi).1
 obtain ⟨bb,v,h1,h2⟩:=td_at ka va (List.getElem?_eq_getElem hlt)
 rw [hi] at h1
 cases h1
 obtain ⟨h3,h4⟩:=he.hit _ (List.getElem_mem hlt)
 obtain ⟨j,hj⟩:=List.mem_iff_getElem?.mp h3
 obtain ⟨cc,v',h5,h6⟩:=td_at kb vb hj
 exact ⟨j,_,h5,okV.eqAt h4 (D.imm hB) h2 h6 a'.u90⟩
theorem Dyn.setT {outer:List Env} {A₁ A:Around} {E:Value→Shared→Prop} {P:Unit→Shared→Prop} {a:Addr} {p:List Nat×List Nat} {u k v:Value} {y:V} {σ':Store}
  (D:Dyn X g L m I H σ s) (hB:Below A₁ X.base outer g) (hu:A.units+1<cLine) (up:UpdS a (.tdict es) (.tdict (es++[(p,y)])) σ σ') (hnew:(es.any fun q=>q.1==p)=false) (hl:es.length≤1000)
  (hur:VR X (X.imm I) u (.ref a)) (hk:VR X (X.imm I) k (prV p)) (hv:VR X (X.imm I) v y) (h:∀ s',Dyn X g L m I H σ' s'→P () s'):wpAny X.M A (setItem u k v) P E s:=by
 rw [hur.e_ref]
 obtain ⟨kb,rfl,hkt⟩:=keyT_of (v:=v) hk
 obtain ⟨xs,T,h4,h6,h5,ns⟩:=D.td hB up.mem
 have hlen:xs.length=es.length:=by have:=congrArg List.length h4;rwa [List.length_map,List.length_map] at this
 have hno:atKey xs (prK p)=none:=by
  have:=td_has (p:=p) h4
  rw [hnew] at this
  exact Option.isNone_iff_eq_none.mp (Option.isSome_eq_false_iff.mp this)
 obtain ⟨r,⟨o₀,rfl,_⟩,hc⟩:=D.S.upd up
 obtain ⟨pre,post,_,hN,hnd,hkk⟩:=hc [] [] a _ rfl
 have zz:=hN (a,o₀) (List.mem_append.mpr (.inr (.head _)))
 rw [List.map_append,List.nodup_append,List.map_cons,List.nodup_cons] at hnd
 refine wpAny_setItem_heap (hsz:=by rw [hlen,sizeLine_eq];exact Nat.le_trans hl (lbt rfl)) (knd:=TK X.prog X.w) (tupleKind_room_in1 hu) (hkt.is (D.imm hB)) T fun h' hm' hs=>?_
 rw [storedH_new hno] at hm'
 obtain ⟨o',des',ep',ho',hx',hd',he',_,hn'⟩:=hm'
 refine h _ ⟨D.F.change hs zz.2.1 zz.2.2,hkk h' o' ⟨o',rfl,_,des',ep',hx',hd',he',?_,fun x hx=>?_,?_,hn',ns⟩ ?_,D.gens,D.os⟩
 ·rw [List.map_append,List.map_append,h4];rfl
 ·exact (List.mem_append.mp hx).elim (h5 x) fun hx=>List.mem_singleton.mp hx▸hkt
 ·rw [List.map_append,List.map_append]
  exact h6.append (.i_cons hv .i_nil)
 ·exact hN.setIn (fun q hq e=>hnd.2.2 q.1 (List.mem_map_of_mem (f:=(·.1)) hq) a (.head _) e) (fun q hq e=>hnd.2.1.1 (e▸List.mem_map_of_mem (f:=(·.1)) hq)) hs ho'
theorem ev_dictT {pos:Pos} (h:∀ a,Q (.ref a) ((a,.tdict [])::σ)):Ev X ic n (.Dict [] [] pos) ρ σ Q R:=
 fun env' env outer A g L m I H s E a b c d=>b.newDict (ao:=.tdict []) a.T (fun P x o hd ns=>let ⟨des,ep,hx,hdat,_,hp,_⟩:=hd;⟨o,rfl,[],des,ep,hx,hdat,List.length_eq_zero_iff.mp hp.length,rfl,(fun _ h=>nomatch h),.i_nil,List.nodup_nil,ns⟩) fun x s' ns D=>⟨I,_,.ref x,fun _ z=>z,D,.i_ref,h x⟩
theorem ev_ifrep {kx vx c x y:Str} {pk pv pv' pc pa pb pcmp apos pos ipos:Pos} {kc ka kb i j:Nat} {kv vv l':List Nat} (hk:ic.ls[i]? = some kx) (hk2:ρ.at i=some (.str kv)) (hv:ic.ls[j]? = some vx) (hv2:ρ.at j=some (.str vv)) (hxy:(x==y)=false) (hl:vv.length≤1000) (hy:y.length≤1000) (he:apos.endLine=pos.line) (e:Txt.replace ⟨vv.toArray⟩ x y=⟨l'.toArray⟩)
  (h:Q (.str (cond (kv==c.cps.toList) vv l')) σ) :
  Ev X ic n (.IfExp (.Compare (.Name kx pk) [.Eq] [.Constant (.str c) kc pc] pcmp) (.Name vx pv) (.Call (.Attribute (.Name vx pv') "replace" apos) [.Constant (.str x) ka pa,.Constant (.str y) kb pb] [] pos) ipos) ρ σ Q R:=fun env' env outer A g L m I H s E a b cc d=>by
 obtain ⟨A₁,hB⟩:=a.B
 obtain ⟨k1,hkr,kk⟩:=cc.val i kx _ hk hk2
 obtain ⟨v1,hvr,kw⟩:=cc.val j vx _ hv hv2
 obtain ⟨tk,rfl⟩:=hkr.e_str
 obtain ⟨tv,rfl⟩:=id hvr.e_str
 refine IfExp_ (wpAny_isTrue_Compare1 (kk A pk I σ s _ E (fun _ _ z=>z) b (wpAny_Constant_str (PySem.P.eq_str (wpAny_truthy_bool ?_)))) rfl)
 have b1:Dyn X g L m I H σ { s with toks:=s.toks+1 }:=b.toks _
 show if (kv==c.cps.toList)=true then _ else _
 revert h
 cases kv==c.cps.toList<;>intro h
 ·show wpAny X.M A (eval (.Call _ _ [] _) env) _ E _
  refine mth_go (fun _ _ _=>rfl) (fun _=>rfl) rfl he (kw A pv' I σ _ _ E (fun _ _ z=>z) b1 ?_)
  obtain ⟨h1,h2⟩:=b1.mu hB (Mu.str (l:=vv)) hvr
  refine getMethod_builtin (pl:=do return (← importBound _ env).getD true) h1 bm_replace.pa bm_replace.slot bm_replace.ty h2 ?_
  refine Calls.callWith_builtin (first:=[.str ⟨vv.toArray⟩ tv]) (backTo_plain fun _=>rfl) (evalArgs_es (fun _=>rfl) ?_)
  refine spliced_cons (wpAny_Constant_str (k:=ka) (pos:=pa) (spliced_cons (wpAny_Constant_str (k:=kb) (pos:=pb) (wpAny_pure ?_))))
  refine SC.replace (Nat.succ_ne_zero _) (Nat.succ_ne_zero _) (fun e=>absurd e (Nat.ne_of_lt (Nat.lt_succ_self _))) hxy ?_ fun t' tk=>⟨I,σ,_,fun _ z=>z,b.toks _,by rw [e];exact .i_strL,h⟩
  rw [show (⟨vv.toArray⟩:Str).length=vv.length from List.size_toArray ..]
  exact Nat.le_trans (Nat.add_le_add hl (Nat.mul_le_mul (Nat.succ_le_succ hl) hy)) (lbt rfl)
 ·exact kw A pv I σ _ _ E (fun _ _ z=>z) b1 ⟨I,σ,_,fun _ z=>z,b1,hvr,h⟩
end
inductive BI where
 | len | ord | chr | max | range | tuple | int | str | dict
inductive BMk where
 | app | pop | get | sw | find | low | upp | join | repl | items
noncomputable def BMk.T:BMk→String
 | .app=>"list" | .pop=>"list" | .get=>"dict" | .items=>"dict" | _=>"str"
noncomputable def BMk.nm:BMk→Str
 | .app=>"append" | .pop=>"pop" | .get=>"get" | .sw=>"startswith" | .find=>"find" | .low=>"lower" | .upp=>"upper" | .join=>"join" | .repl=>"replace" | .items=>"items"
noncomputable def BMk.id:BMk→String
 | .app=>"list.append" | .pop=>"list.pop" | .get=>"dict.get" | .sw=>"str.startswith" | .find=>"str.find" | .low=>"str.lower" | .upp=>"str.upper" | .join=>"str.join" | .repl=>"str.replace" | .items=>"dict.items"
theorem BMk.ok:∀ k:BMk,BM k.T k.nm k.id
 | .app=>bm_append | .pop=>bm_pop | .get=>bm_get | .sw=>bm_startswith | .find=>bm_find | .low=>bm_lower | .upp=>bm_upper | .join=>bm_join | .repl=>bm_replace | .items=>⟨PySem.F.plainAttrs_dict,PySem.F.slot_dict_items,PySem.F.type_dict_items⟩
noncomputable def BI.id:BI→Value
 | .len=>.builtin "len" | .ord=>.builtin "ord" | .chr=>.builtin "chr" | .max=>.builtin "max" | .range=>.type "range" | .tuple=>.type "tuple" | .int=>.type "int" | .str=>.type "str" | .dict=>.type "dict"
inductive IE where
 | loc (i:Nat) | glo (y:V) | str (x:Str) | sl (x:List Nat) | int (k:Int) | bln (b:Bool) | non
 | tup (es:IE) | lst (es:IE) | lro (es:IE) | dic | dicT
 | fld (C k:Nat) (e:IE)
 | call (f:Addr) (es:IE) | callv (e es:IE) | bi (b:BI) (es:IE)
 | mth (C f:Nat) (o es:IE) | bm (k:BMk) (o es:IE) | clm (C f:Nat) (es:IE) | xin (es:IE)
 | cmp (op:CmpOp) (l r:IE) | cmp2 (o1 o2:CmpOp) (l m r:IE)
 | andc (e r:IE) | orc (e r:IE) | bop1 (e:IE) | not (e:IE) | neg (e:IE) | bin (op:Operator) (l r:IE) | ifx (t a b:IE)
 | item (e i:IE) | sli (e lo hi:IE)
 | ifr (i j:Nat) (c x y:Str)
 | frz (e:IE)
 | comp (elt cnd src:IE) (two:Bool) (bl:List Str) (js:List Nat)
 | nil | cons (e r:IE)
abbrev VK:=V→Store→Prop
structure CP where
 call:Addr→List V→Store→VK→Prop
 keep:Addr→Prop
 R:Prop
structure WP where
 v:LV→Store→VK→Prop
 l:LV→Store→(List V→Store→Prop)→Prop
 t:LV→Store→(Bool→Store→Prop)→Prop
inductive IfE (F:Bool→Prop) (c:Bool):Prop
 | mk:F c→IfE F c
theorem IfE.go {F:Bool→Prop} {c:Bool} (h:IfE F c):F c:=let ⟨h⟩:=h;h
def trW (K:Bool→Prop):V→Prop
 | .bool b=>K b
 | .none=>K false
 | _=>False
def fldW (C k:Nat) (σ:Store) (K:VK):V→Prop
 | .ri D vs=>cond (Nat.beq D C) (nthK vs k fun z=>K z σ) False
 | y=>InE σ C y fun vs=>nthK vs k fun z=>K z σ
def insW (C:Nat) (σ:Store) (P:Prop):V→Prop
 | .ri D _=>cond (Nat.beq D C) P False
 | y=>InE σ C y fun _=>P
def muW (k:BMk) (σ:Store) (P:Prop):V→Prop
 | .str l=>match k with | .app=>False | .pop=>False | .get=>False | .items=>False | _=>P
 | .rd _ _=>match k with | .get=>P | .items=>P | _=>False
 | y=>MuE σ y k.T P
def cmpI (P:Bool→Prop) (i j:Int):CmpOp→Prop
 | .Lt=>P (decide (i<j)) | .LtE=>P (decide (i≤j)) | .Gt=>P (decide (i > j)) | .GtE=>P (decide (i≥j)) | .Eq=>P (i==j) | .NotEq=>P (i != j) | _=>False
def cmpS (P:Bool→Prop) (i j:List Nat):CmpOp→Prop
 | .Eq=>P (i==j) | .NotEq=>P (i != j) | .LtE=>P (leL i j) | .In=>P (lfind i j).isSome | .NotIn=>P (!(lfind i j).isSome) | _=>False
def noneW (P:Bool→Prop):V→Prop
 | .none=>P true | .str _=>P false | .int _=>P false | .ref _=>P false | .ri _ _=>P false | .tup _=>P false | _=>False
def cmpN (P:Bool→Prop) (y:V):CmpOp→Prop
 | .Is=>noneW P y | .IsNot=>noneW (fun b=>P (!b)) y | _=>False
inductive CmE (σ:Store) (P:Bool→Prop):CmpOp→V→V→Prop
 | inD {a es k}:(a,AObj.dict es)∈σ→P (dget es k).isSome→CmE σ P .In (.str k) (.ref a)
 | niD {a es k}:(a,AObj.dict es)∈σ→P (!(dget es k).isSome)→CmE σ P .NotIn (.str k) (.ref a)
 | inL {y vs ls k}:IsLs σ vs y→AreS ls vs→P (ls.any (· == k))→CmE σ P .In (.str k) y
 | niT {vs ls k}:AreS ls vs→P (!ls.any (· == k))→CmE σ P .NotIn (.str k) (.tup vs)
 | eqN {y vs}:IsLs σ vs y→P vs.isEmpty→CmE σ P .Eq y (.ro [])
 | neN {y vs}:IsLs σ vs y→P (!vs.isEmpty)→CmE σ P .NotEq y (.ro [])
 | eqD {y z es fs}:IsDc σ es y→IsDc σ fs z→EqD es fs→P true→CmE σ P .Eq y z
 | eqT {a b es fs}:(a,AObj.tdict es)∈σ→(b,AObj.tdict fs)∈σ→EqT es fs→P true→CmE σ P .Eq (.ref a) (.ref b)
 | inP {y p} {ns:List (List Nat×List Nat)}:IsLs σ (ns.map prV) y→okV (prV p)=true→ns.all (fun q=>okV (prV q))=true→P (ns.any (· == p))→CmE σ P .In (prV p) y
 | niK {a es} {p:List Nat×List Nat}:(a,AObj.tdict es)∈σ→P (!es.any fun q=>q.1==p)→CmE σ P .NotIn (prV p) (.ref a)
def cmpW (op:CmpOp) (σ:Store) (P:Bool→Prop) (y:V):V→Prop
 | .none=>cmpN P y op
 | .int j=>match y with | .int i=>cmpI P i j op | _=>False
 | .str j=>match y with | .str i=>cmpS P i j op | _=>False
 | z=>CmE σ P op y z
inductive BnE (σ:Store) (K:VK):Operator→V→V→Prop
 | mul {i j}:IntMulOk i j→K (.int (i * j)) σ→BnE σ K .Mult (.int i) (.int j)
 | mod {i j:Int}:j≠0→K (.int (i.fmod j)) σ→BnE σ K .Mod (.int i) (.int j)
 | div {i j:Int}:j≠0→j.natAbs<1073741824→K (.int (i.fdiv j)) σ→BnE σ K .FloorDiv (.int i) (.int j)
 | pow {i j:Int}:0≤j→j≤1000000→i.natAbs<2 ^ 64→K (.int (i ^ j.toNat)) σ→BnE σ K .Pow (.int i) (.int j)
 | cat {i j k}:Sz (i++j) k→Nat.ble k 9=true→K (.str (i++j)) σ→BnE σ K .Add (.str i) (.str j)
 | addl {xs ys y z}:IsLs σ xs y→IsLs σ ys z→xs.length+ys.length≤10000000→K (.ro (xs++ys)) σ→BnE σ K .Add y z
 | addt {xs ys}:xs≠[]→ys≠[]→xs.length+ys.length≤10000000→K (.tup (xs++ys)) σ→BnE σ K .Add (.tup xs) (.tup ys)
 | mull {a vs x}:(a,AObj.list vs)∈σ→vs.length≤1000→x=0∨x=1→K (.ro (if x=0 then [] else vs)) σ→BnE σ K .Mult (.ref a) (.int x)
def binI (σ:Store) (K:VK) (i j:Int):Operator→Prop
 | .Add=>K (.int (i+j)) σ | .Sub=>K (.int (i - j)) σ | op=>BnE σ K op (.int i) (.int j)
def binW (op:Operator) (σ:Store) (K:VK) (y:V):V→Prop
 | .int j=>match y with | .int i=>binI σ K i j op | y=>BnE σ K op y (.int j)
 | z=>BnE σ K op y z
inductive BoE (σ:Store) (K:VK):BI→List V→Prop
 | lenS {l}:l.length≤10000000→K (.int l.length) σ→BoE σ K .len [.str l]
 | lenT {l}:l.length≤10000000→K (.int l.length) σ→BoE σ K .len [.tup l]
 | lenL {l y}:IsLs σ l y→l.length≤10000000→K (.int l.length) σ→BoE σ K .len [y]
 | ord {c:Nat}:K (.int c) σ→BoE σ K .ord [.str [c]]
 | chr {c:Int}:0≤c→c≤1114111→K (.str [c.toNat]) σ→BoE σ K .chr [.int c]
 | max {i j:Int}:K (.int (if j > i then j else i)) σ→BoE σ K .max [.int i,.int j]
 | range {k:Nat}:K (.rng k) σ→BoE σ K .range [.int k]
 | tupL {l y}:IsLs σ l y→l.length≤10000000→K (.tup l) σ→BoE σ K .tuple [y]
 | tupT {l}:K (.tup l) σ→BoE σ K .tuple [.tup l]
 | intI {i}:K (.int i) σ→BoE σ K .int [.int i]
 | intB {b}:K (.int (if b then 1 else 0)) σ→BoE σ K .int [.bool b]
 | dict {a τ} {ps:List (List Nat×V)}:Pick (a,AObj.list (ps.map pairV)) σ τ→ps.length≤1000→K (rdv (dictOf' ps)) τ→BoE σ K .dict [.ref a]
 | str {i:Int}:i.natAbs.log2<1920→K (.str (Str.ofString (toString i)).cps.toList) σ→BoE σ K .str [.int i]
inductive MoE (σ:Store) (K:VK):BMk→List V→Prop
 | app {a vs y σ'}:UpdS a (.list vs) (.list (vs++[y])) σ σ'→vs.length≤10000000→K .none σ'→MoE σ K .app [.ref a,y]
 | pop {a vs y σ'}:UpdS a (.list (vs++[y])) (.list vs) σ σ'→vs.length≤10000000→K y σ'→MoE σ K .pop [.ref a]
 | get1 {a es k}:(a,AObj.dict es)∈σ→K ((dget es k).getD .none) σ→MoE σ K .get [.ref a,.str k]
 | get2 {a es k y}:(a,AObj.dict es)∈σ→K ((dget es k).getD y) σ→MoE σ K .get [.ref a,.str k,y]
 | get1r {ks:List (List Nat)} {vs k}:K ((dget (ks.zip vs) k).getD .none) σ→MoE σ K .get [.rd ks vs,.str k]
 | get2r {ks:List (List Nat)} {vs k y}:K ((dget (ks.zip vs) k).getD y) σ→MoE σ K .get [.rd ks vs,.str k,y]
 | items {ks vs}:K (.itm (.rd ks vs)) σ→MoE σ K .items [.rd ks vs]
 | sw {l w} {i:Nat}:i≤l.length→K (.bool (w.isPrefixOf (l.drop i))) σ→MoE σ K .sw [.str l,.str w,.int i]
 | find {l w} {i:Nat}:i≤l.length→K (.int (fnd i (lfind w (l.drop i)))) σ→MoE σ K .find [.str l,.str w,.int i]
 | find1 {l w}:K (.int (fnd 0 (lfind w l))) σ→MoE σ K .find [.str l,.str w]
 | low {l l'}:Txt.lower ⟨l.toArray⟩=⟨l'.toArray⟩→l'.length≤1000→K (.str l') σ→MoE σ K .low [.str l]
 | upp {l l'}:Txt.upper ⟨l.toArray⟩=⟨l'.toArray⟩→l'.length≤1000→K (.str l') σ→MoE σ K .upp [.str l]
 | join {sep y vs ls}:IsLs σ vs y→AreS ls vs→Nat.ble sep.length 1=true→(ls.map List.length).sum+ls.length≤16000000→K (.str (ljoin sep ls)) σ→MoE σ K .join [.str sep,y]
 | repl0 {l w z}:lfind w l=none→K (.str l) σ→MoE σ K .repl [.str l,.str w,.str z]
inductive CoE (R:Prop) (F:List V→Prop):Bool→V→Prop
 | ro {b vs}:(R→False)→vs.length≤1000→F vs→CoE R F b (.ro vs)
 | rng {b k}:(R→False)→k≤1000→F ((List.range k).map fun i:Nat=>V.int i)→CoE R F b (.rng k)
 | itm {ks:List (List Nat)} {vs}:(R→False)→(ks.zip vs).length≤1000→F ((ks.zip vs).map fun p=>.tup [.str p.1,p.2])→CoE R F true (.itm (.rd ks vs))
inductive RpE (K:VK) (σ:Store) (c x y:Str):V→V→Prop
 | mk {k v l'}:Txt.replace ⟨v.toArray⟩ x y=⟨l'.toArray⟩→v.length≤1000→K (.str (cond (k==c.cps.toList) v l')) σ→RpE K σ c x y (.str k) (.str v)
inductive XiE (K:VK):Store→List V→Prop
 | mk {e y σ}:K .none ((e,.exo none)::σ)→XiE K ((e,.exo none)::σ) [.ref e,y]
def nov:LV→Store→VK→Prop:=fun _ _ _=>False
def nol:LV→Store→(List V→Store→Prop)→Prop:=fun _ _ _=>False
abbrev VT:=LV→Store→VK→Prop
abbrev BK:=Bool→Store→Prop
noncomputable def trK (K:BK):VK:=fun y σ=>trW (fun b=>K b σ) y
noncomputable abbrev ofV (v:LV→Store→VK→Prop):WP:=⟨v,nol,fun ρ σ K=>v ρ σ (trK K)⟩
noncomputable def blK (K:VK):BK:=fun b σ=>K (.bool b) σ
noncomputable def notT (K:BK):BK:=fun b σ=>K (!b) σ
noncomputable def fldK (C k:Nat) (K:VK):VK:=fun y σ=>fldW C k σ K y
noncomputable def cmpK2 (op:CmpOp) (y:V) (K:BK):VK:=fun z σ=>cmpW op σ (fun b=>K b σ) y z
noncomputable def cmpK (op:CmpOp) (G:VT) (ρ:LV) (K:BK):VK:=fun y σ=>G ρ σ (cmpK2 op y K)
noncomputable def binK2 (op:Operator) (y:V) (K:VK):VK:=fun z σ=>binW op σ K y z
noncomputable def binK (op:Operator) (G:VT) (ρ:LV) (K:VK):VK:=fun y σ=>G ρ σ (binK2 op y K)
def consK2 (y:V) (K:List V→Store→Prop):List V→Store→Prop:=fun ys σ=>K (y::ys) σ
noncomputable def consK (G:LV→Store→(List V→Store→Prop)→Prop) (ρ:LV) (K:List V→Store→Prop):VK:=fun y σ=>G ρ σ (consK2 y K)
noncomputable def itmK2 (y:V) (K:VK):VK:=fun k σ=>IxE σ y k fun z=>K z σ
noncomputable def itmK (G:VT) (ρ:LV) (K:VK):VK:=fun y σ=>G ρ σ (itmK2 y K)
def andF (K:VK) (G:VK→Prop) (y:V) (σ:Store):Bool→Prop:=fun b=>cond b (G K) (K y σ)
noncomputable def andK (G:VT) (ρ:LV) (K:VK):VK:=fun y σ=>trW (IfE (andF K (G ρ σ) y σ)) y
def orF (K:VK) (G:VK→Prop) (y:V) (σ:Store):Bool→Prop:=fun b=>cond b (K y σ) (G K)
noncomputable def orK (G:VT) (ρ:LV) (K:VK):VK:=fun y σ=>trW (IfE (orF K (G ρ σ) y σ)) y
def andB (G:LV→Store→BK→Prop) (ρ:LV) (K:BK) (σ:Store):Bool→Prop:=fun b=>cond b (G ρ σ K) (K false σ)
noncomputable def andT (G:LV→Store→BK→Prop) (ρ:LV) (K:BK):BK:=fun b σ=>IfE (andB G ρ K σ) b
def orB (G:LV→Store→BK→Prop) (ρ:LV) (K:BK) (σ:Store):Bool→Prop:=fun b=>cond b (K true σ) (G ρ σ K)
noncomputable def orT (G:LV→Store→BK→Prop) (ρ:LV) (K:BK):BK:=fun b σ=>IfE (orB G ρ K σ) b
def ifxB (A B:VT) (ρ:LV) (K:VK) (σ:Store):Bool→Prop:=fun d=>(cond d A B) ρ σ K
noncomputable def ifxT (A B:VT) (ρ:LV) (K:VK):BK:=fun d σ=>IfE (ifxB A B ρ K σ) d
abbrev ST:=LV→Store→QK→Prop
noncomputable def setK (i:Nat) (ρ:LV) (G:ST) (q:QK):VK:=fun y σ=>ρ.set i y fun ρ=>G ρ σ q
noncomputable def thnK (G:ST) (q:QK):QK:=q.thn fun ρ σ=>G ρ σ q
def iffF (A B:ST) (ρ:LV) (q:QK) (σ:Store):Bool→Prop:=fun d=>(cond d A B) ρ σ q
noncomputable def iffK (A B:ST) (ρ:LV) (q:QK):BK:=fun d σ=>IfE (iffF A B ρ q σ) d
def whF (B G:ST) (ρ:LV) (q:QK) (J:LV→Store→Prop) (σ:Store):Bool→Prop:=fun d=>cond d (B ρ σ ((thnK G q).lp J)) (G ρ σ q)
noncomputable def whK (B G:ST) (ρ:LV) (q:QK) (J:LV→Store→Prop):BK:=fun d σ=>IfE (whF B G ρ q J σ) d
noncomputable abbrev ofN (v:LV→Store→VK→Prop):WP:=⟨v,nol,fun _ _ _=>False⟩
def locW (K:V→Prop):Option V→Prop
 | some y=>K y
 | none=>False
def refW (K:Addr→Prop):V→Prop
 | .raw (.ref f)=>K f
 | _=>False
def augW (K:V→Prop) (y:V):V→Prop
 | .int j=>match y with | .int i=>K (.int (i+j)) | _=>False
 | _=>False
def negW (K:V→Prop):V→Prop
 | .int i=>K (.int (-i))
 | _=>False
section
variable (c:CP)
noncomputable def wp:IE→WP
 | .loc i=>ofV fun ρ σ K=>locW (fun y=>K y σ) (ρ.at i)
 | .glo y=>ofV fun _ σ K=>K y σ
 | .str x=>ofV fun _ σ K=>K (.str x.cps.toList) σ
 | .sl x=>ofV fun _ σ K=>K (.str x) σ
 | .int k=>ofV fun _ σ K=>K (.int k) σ
 | .bln b=>ofV fun _ σ K=>K (.bool b) σ
 | .non=>ofV fun _ σ K=>K .none σ
 | .tup es=>ofV fun ρ σ K=>(wp es).l ρ σ fun ys σ₁=>cond (Nat.ble ys.length 1000) (K (.tup ys) σ₁) False
 | .lst es=>ofV fun ρ σ K=>(wp es).l ρ σ fun ys σ₁=>cond (Nat.ble ys.length 1000) (∀ a,K (.ref a) ((a,.list ys)::σ₁)) False
 | .lro es=>ofV fun ρ σ K=>(wp es).l ρ σ fun ys σ₁=>cond (Nat.ble ys.length 1000) (K (.ro ys) σ₁) False
 | .dic=>ofV fun _ σ K=>∀ a,K (.ref a) ((a,.dict [])::σ)
 | .ifr i j c x y=>ofN fun ρ σ K=>locW (fun k=>locW (fun v=>RpE K σ c x y k v) (ρ.at j)) (ρ.at i)
 | .dicT=>ofV fun _ σ K=>∀ a,K (.ref a) ((a,.tdict [])::σ)
 | .fld C k e=>ofV fun ρ σ K=>(wp e).v ρ σ (fldK C k K)
 | .call f es=>ofV fun ρ σ K=>(wp es).l ρ σ fun ys σ₁=>c.call f ys σ₁ K
 | .callv e es=>ofV fun ρ σ K=>(wp e).v ρ σ fun y σ₁=>refW (fun f=>c.keep f∧(wp es).l ρ σ₁ fun ys σ₂=>c.call f ys σ₂ K) y
 | .bi b es=>ofV fun ρ σ K=>(wp es).l ρ σ fun ys σ₁=>BoE σ₁ K b ys
 | .mth C f o es=>ofV fun ρ σ K=>(wp o).v ρ σ fun y σ₁=>insW C σ₁ ((wp es).l ρ σ₁ fun ys σ₂=>c.call f (y::ys) σ₂ K) y
 | .bm k o es=>ofV fun ρ σ K=>(wp o).v ρ σ fun y σ₁=>muW k σ₁ ((wp es).l ρ σ₁ fun ys σ₂=>MoE σ₂ K k (y::ys)) y
 | .clm _ f es=>ofV fun ρ σ K=>(wp es).l ρ σ fun ys σ₁=>c.call f ys σ₁ K
 | .xin es=>ofV fun ρ σ K=>(wp es).l ρ σ fun ys σ₁=>XiE K σ₁ ys
 | .cmp op l r=>⟨fun ρ σ K=>(wp l).v ρ σ (cmpK op (wp r).v ρ (blK K)),nol,fun ρ σ K=>(wp l).v ρ σ (cmpK op (wp r).v ρ K)⟩
 | .cmp2 o1 o2 l m r=>ofN fun ρ σ K=>(wp l).v ρ σ fun y σ₁=>(wp m).v ρ σ₁ fun z σ₂=>cmpW o1 σ₂ (IfE fun b=>cond b ((wp r).v ρ σ₂ fun w σ₃=>cmpW o2 σ₃ (fun b=>K (.bool b) σ₃) z w) (K (.bool false) σ₂)) y z
 | .andc e r=>⟨fun ρ σ K=>(wp e).v ρ σ (andK (wp r).v ρ K),nol,fun ρ σ K=>(wp e).t ρ σ (andT (wp r).t ρ K)⟩
 | .orc e r=>⟨fun ρ σ K=>(wp e).v ρ σ (orK (wp r).v ρ K),nol,fun ρ σ K=>(wp e).t ρ σ (orT (wp r).t ρ K)⟩
 | .bop1 e=>⟨(wp e).v,nol,(wp e).t⟩
 | .not e=>⟨fun ρ σ K=>(wp e).v ρ σ (trK (notT (blK K))),nol,fun ρ σ K=>(wp e).t ρ σ (notT K)⟩
 | .neg e=>ofV fun ρ σ K=>(wp e).v ρ σ fun y σ₁=>negW (fun y=>K y σ₁) y
 | .bin op l r=>ofV fun ρ σ K=>(wp l).v ρ σ (binK op (wp r).v ρ K)
 | .ifx t a b=>ofN fun ρ σ K=>(wp t).t ρ σ (ifxT (wp a).v (wp b).v ρ K)
 | .item e i=>ofV fun ρ σ K=>(wp e).v ρ σ (itmK (wp i).v ρ K)
 | .sli e lo hi=>ofV fun ρ σ K=>(wp e).v ρ σ fun y σ₁=>(wp lo).v ρ σ₁ fun l σ₂=>(wp hi).v ρ σ₂ fun u σ₃=>SlE σ₃ y l u fun z=>K z σ₃
 | .frz e=>ofN fun ρ σ K=>(wp e).v ρ σ fun y σ₁=>FrzE K y σ₁
 | .comp elt cnd src two _ js=>ofV fun ρ σ K=>(wp src).v ρ σ fun y σ₁=>CoE c.R (fun xs=>CompI (tgMk two (ρ.pk js)) (fun ρ σ K=>(wp cnd).t ρ σ fun b σ=>IfE (fun b=>K b σ) b) (wp elt).v (fun ys σ=>∀ a,K (.ref a) ((a,.list ys)::σ)) xs [] σ₁) two y
 | .nil=>⟨nov,fun _ σ K=>K [] σ,fun _ _ _=>False⟩
 | .cons e r=>⟨nov,fun ρ σ K=>(wp e).v ρ σ (consK (wp r).l ρ K),fun _ _ _=>False⟩
end
inductive IS where
 | done | pass (k:IS) | cont | ret (e:IE) | ret0 | expr (e:IE) (k:IS)
 | asg (i:Nat) (e:IE) (k:IS) | asgT (is:List Nat) (e:IE) (k:IS) | swp (i j:Nat) (a b:IE) (k:IS)
 | sett (o i e:IE) (k:IS) | seta (C f:Nat) (o e:IE) (k:IS) | setx (f:Nat) (o e:IE) (k:IS) | seti (o i e:IE) (k:IS)
 | auga (C f:Nat) (o:IE) (e:IE) (k:IS) | aug (i:Nat) (e:IE) (k:IS)
 | raise (e:IE) | bad
 | iff (t:IE) (a b k:IS) | whl (t:IE) (b k:IS) | for_ (t:TG) (e:IE) (b k:IS)
inductive WhE (F:(LV→Store→Prop)→LV→Store→Prop) (ρ:LV) (σ:Store):Prop
 | mk:(∀ J:LV→Store→Prop,(∀ ρ σ,F J ρ σ→J ρ σ)→J ρ σ)→WhE F ρ σ
inductive FoE (F:List V→Prop):V→Prop
 | tup {vs}:F vs→FoE F (.tup vs)
 | ro {vs}:F vs→FoE F (.ro vs)
 | str {l}:F (l.map fun c=>.str [c])→FoE F (.str l)
 | rng {k}:k≤10000000→F ((List.range k).map fun i:Nat=>V.int i)→FoE F (.rng k)
 | rd {ks:List (List Nat)} {vs}:F ((ks.zip vs).map fun p=>.str p.1)→FoE F (.rd ks vs)
inductive SiT (σ:Store) (P:Store→Prop) (z:V):V→V→Prop
 | mk {a σ'} {es:List ((List Nat×List Nat)×V)} {p}:UpdS a (.tdict es) (.tdict (es++[(p,z)])) σ σ'→(es.any fun q=>q.1==p)=false→es.length≤1000→P σ'→SiT σ P z (.ref a) (prV p)
section
variable (c:CP)
def wS:IS→LV→Store→QK→Prop
 | .done,ρ,σ,q=>q.nx ρ σ
 | .pass k,ρ,σ,q=>wS k ρ σ q
 | .cont,ρ,σ,q=>q.ct ρ σ
 | .ret e,ρ,σ,q=>(wp c e).v ρ σ q.rt
 | .ret0,_,σ,q=>q.rt .none σ
 | .expr e k,ρ,σ,q=>(wp c e).v ρ σ fun _ σ₁=>wS k ρ σ₁ q
 | .asg i e k,ρ,σ,q=>(wp c e).v ρ σ (setK i ρ (wS k) q)
 | .asgT is e k,ρ,σ,q=>(wp c e).v ρ σ fun y σ₁=>asgT (fun ρ₁=>wS k ρ₁ σ₁ q) ρ (.tp is) y
 | .swp i j a b k,ρ,σ,q=>(wp c a).v ρ σ fun y σ₁=>(wp c b).v ρ σ₁ fun z σ₂=>ρ.set j z fun ρ₁=>ρ₁.set i y fun ρ₂=>wS k ρ₂ σ₂ q
 | .seta C f o e k,ρ,σ,q=>(wp c e).v ρ σ fun y σ₁=>(wp c o).v ρ σ₁ fun z σ₂=>StE σ₂ C f z y fun σ₃=>wS k ρ σ₃ q
 | .setx f o e k,ρ,σ,q=>(wp c e).v ρ σ fun y σ₁=>(wp c o).v ρ σ₁ fun z σ₂=>SxE f z y (fun σ₃=>wS k ρ σ₃ q) σ₂
 | .seti o i e k,ρ,σ,q=>(wp c e).v ρ σ fun z σ₁=>(wp c o).v ρ σ₁ fun y σ₂=>(wp c i).v ρ σ₂ fun j σ₃=>SiE σ₃ (fun σ₄=>wS k ρ σ₄ q) z y j
 | .sett o i e k,ρ,σ,q=>(wp c e).v ρ σ fun z σ₁=>(wp c o).v ρ σ₁ fun y σ₂=>(wp c i).v ρ σ₂ fun j σ₃=>SiT σ₃ (fun σ₄=>wS k ρ σ₄ q) z y j
 | .auga C f o e k,ρ,σ,q=>(wp c o).v ρ σ fun z σ₁=>InE σ₁ C z fun vs=>nthK vs f fun w=>(wp c e).v ρ σ₁ fun y σ₂=>augW (fun r=>StE σ₂ C f z r fun σ₃=>wS k ρ σ₃ q) w y
 | .aug i e k,ρ,σ,q=>locW (fun w=>(wp c e).v ρ σ fun y σ₁=>augW (fun r=>ρ.set i r fun ρ₁=>wS k ρ₁ σ₁ q) w y) (ρ.at i)
 | .bad,_,_,_=>False
 | .raise e,ρ,σ,q=>(wp c e).v ρ σ fun y σ₁=>RaE σ₁ y c.R
 | .iff t a b k,ρ,σ,q=>(wp c t).t ρ σ (iffK (wS a) (wS b) ρ (thnK (wS k) q))
 | .whl t b k,ρ,σ,q=>WhE (fun J ρ σ=>(wp c t).t ρ σ (whK (wS b) (wS k) ρ q J)) ρ σ
 | .for_ t e b k,ρ,σ,q=>(wp c e).v ρ σ fun y σ₁=>FoE (fun xs=>ForI (wS b) t (thnK (wS k) q) xs ρ σ₁) y
end
inductive EV (e:Expr):Type
 | name (x:Str) (p:Pos) (h:e=.Name x p)
 | const (c:Const) (k:Nat) (p:Pos) (h:e=.Constant c k p)
 | attr (a:Expr) (x:Str) (p:Pos) (h:e=.Attribute a x p)
 | sub (a b:Expr) (p:Pos) (h:e=.Subscript a b p)
 | call (f:Expr) (as:List Expr) (p:Pos) (h:e=.Call f as [] p)
 | cmp (l:Expr) (os:List CmpOp) (rs:List Expr) (p:Pos) (h:e=.Compare l os rs p)
 | bool (o:BoolOp) (es:List Expr) (p:Pos) (h:e=.BoolOp o es p)
 | un (o:UnaryOp) (a:Expr) (p:Pos) (h:e=.UnaryOp o a p)
 | bin (l:Expr) (o:Operator) (r:Expr) (p:Pos) (h:e=.BinOp l o r p)
 | ifx (t a b:Expr) (p:Pos) (h:e=.IfExp t a b p)
 | tup (es:List Expr) (k:Nat) (p:Pos) (h:e=.Tuple es k p)
 | lst (es:List Expr) (p:Pos) (h:e=.List es p)
 | dic (p:Pos) (h:e=.Dict [] [] p)
 | sl (lo hi:Option Expr) (p:Pos) (h:e=.Slice lo hi none p)
 | comp (a t i:Expr) (fs:List Expr) (sc:Scope) (p:Pos) (h:e=.ListComp a [⟨t,i,fs,0⟩] sc p)
 | no
noncomputable def view:(e:Expr)→EV e
 | .Name x p=>.name x p rfl
 | .Constant c k p=>.const c k p rfl
 | .Attribute a x p=>.attr a x p rfl
 | .Subscript a b p=>.sub a b p rfl
 | .Call f as [] p=>.call f as p rfl
 | .Compare l os rs p=>.cmp l os rs p rfl
 | .BoolOp o es p=>.bool o es p rfl
 | .UnaryOp o a p=>.un o a p rfl
 | .BinOp l o r p=>.bin l o r p rfl
 | .IfExp t a b p=>.ifx t a b p rfl
 | .Tuple es k p=>.tup es k p rfl
 | .List es p=>.lst es p rfl
 | .Dict [] [] p=>.dic p rfl
 | .Slice lo hi none p=>.sl lo hi p rfl
 | .ListComp a [⟨t,i,fs,0⟩] sc p=>.comp a t i fs sc p rfl
 | _=>.no
section
variable {e:Expr}
noncomputable def EV.onName (f:Str→Bool):EV e→Bool | .name x _ _=>f x | _=>false
noncomputable def EV.onConst (f:Const→Bool):EV e→Bool | .const c _ _ _=>f c | _=>false
noncomputable def EV.onAttr (f:Expr→Str→Pos→Bool):EV e→Bool | .attr a x p _=>f a x p | _=>false
noncomputable def EV.onSub (f:Expr→Expr→Bool):EV e→Bool | .sub a b _ _=>f a b | _=>false
noncomputable def EV.onCall (f:Expr→List Expr→Pos→Bool):EV e→Bool | .call g as p _=>f g as p | _=>false
noncomputable def EV.onCmp (f:Expr→List CmpOp→List Expr→Bool):EV e→Bool | .cmp l os rs _ _=>f l os rs | _=>false
noncomputable def EV.onBool (f:BoolOp→List Expr→Pos→Bool):EV e→Bool | .bool o es p _=>f o es p | _=>false
noncomputable def EV.onUn (f:UnaryOp→Expr→Bool):EV e→Bool | .un o a _ _=>f o a | _=>false
noncomputable def EV.onBin (f:Expr→Operator→Expr→Bool):EV e→Bool | .bin l o r _ _=>f l o r | _=>false
noncomputable def EV.onIfx (f:Expr→Expr→Expr→Bool):EV e→Bool | .ifx t a b _ _=>f t a b | _=>false
noncomputable def EV.onTup (f:List Expr→Bool):EV e→Bool | .tup es _ _ _=>f es | _=>false
noncomputable def EV.onLst (f:List Expr→Bool):EV e→Bool | .lst es _ _=>f es | _=>false
noncomputable def EV.isDic:EV e→Bool | .dic _ _=>true | _=>false
noncomputable def EV.onSl (f:Option Expr→Option Expr→Bool):EV e→Bool | .sl lo hi _ _=>f lo hi | _=>false
noncomputable def EV.onComp (f:Expr→Expr→Expr→List Expr→Scope→Bool):EV e→Bool | .comp a t i fs sc _ _=>f a t i fs sc | _=>false
@[elab_as_elim] theorem EV.iComp {f:Expr→Expr→Expr→List Expr→Scope→Bool} {v:EV e} {m:Expr→Prop} (h:v.onComp f=true) (k:∀ v0 v1 v2 v3 v4 v5,f v0 v1 v2 v3 v4=true→m (.ListComp v0 [⟨v1,v2,v3,0⟩] v4 v5)):m e:=by cases v<;>first | exact absurd h Bool.false_ne_true | (subst_vars;exact k _ _ _ _ _ _ h)
@[elab_as_elim] theorem EV.iName {f:Str→Bool} {v:EV e} {m:Expr→Prop} (h:v.onName f=true) (k:∀ v0 v1,f v0=true→m (.Name v0 v1)):m e:=by cases v<;>first | exact absurd h Bool.false_ne_true | (subst_vars;exact k _ _ h)
@[elab_as_elim] theorem EV.iConst {f:Const→Bool} {v:EV e} {m:Expr→Prop} (h:v.onConst f=true) (k:∀ v0 v1 v2,f v0=true→m (.Constant v0 v1 v2)):m e:=by cases v<;>first | exact absurd h Bool.false_ne_true | (subst_vars;exact k _ _ _ h)
@[elab_as_elim] theorem EV.iAttr {f:Expr→Str→Pos→Bool} {v:EV e} {m:Expr→Prop} (h:v.onAttr f=true) (k:∀ v0 v1 v2,f v0 v1 v2=true→m (.Attribute v0 v1 v2)):m e:=by cases v<;>first | exact absurd h Bool.false_ne_true | (subst_vars;exact k _ _ _ h)
@[elab_as_elim] theorem EV.iSub {f:Expr→Expr→Bool} {v:EV e} {m:Expr→Prop} (h:v.onSub f=true) (k:∀ v0 v1 v2,f v0 v1=true→m (.Subscript v0 v1 v2)):m e:=by cases v<;>first | exact absurd h Bool.false_ne_true | (subst_vars;exact k _ _ _ h)
@[elab_as_elim] theorem EV.iCall {f:Expr→List Expr→Pos→Bool} {v:EV e} {m:Expr→Prop} (h:v.onCall f=true) (k:∀ v0 v1 v2,f v0 v1 v2=true→m (.Call v0 v1 [] v2)):m e:=by cases v<;>first | exact absurd h Bool.false_ne_true | (subst_vars;exact k _ _ _ h)
@[elab_as_elim] theorem EV.iCmp {f:Expr→List CmpOp→List Expr→Bool} {v:EV e} {m:Expr→Prop} (h:v.onCmp f=true) (k:∀ v0 v1 v2 v3,f v0 v1 v2=true→m (.Compare v0 v1 v2 v3)):m e:=by cases v<;>first | exact absurd h Bool.false_ne_true | (subst_vars;exact k _ _ _ _ h)
@[elab_as_elim] theorem EV.iBool {f:BoolOp→List Expr→Pos→Bool} {v:EV e} {m:Expr→Prop} (h:v.onBool f=true) (k:∀ v0 v1 v2,f v0 v1 v2=true→m (.BoolOp v0 v1 v2)):m e:=by cases v<;>first | exact absurd h Bool.false_ne_true | (subst_vars;exact k _ _ _ h)
@[elab_as_elim] theorem EV.iUn {f:UnaryOp→Expr→Bool} {v:EV e} {m:Expr→Prop} (h:v.onUn f=true) (k:∀ v0 v1 v2,f v0 v1=true→m (.UnaryOp v0 v1 v2)):m e:=by cases v<;>first | exact absurd h Bool.false_ne_true | (subst_vars;exact k _ _ _ h)
@[elab_as_elim] theorem EV.iBin {f:Expr→Operator→Expr→Bool} {v:EV e} {m:Expr→Prop} (h:v.onBin f=true) (k:∀ v0 v1 v2 v3,f v0 v1 v2=true→m (.BinOp v0 v1 v2 v3)):m e:=by cases v<;>first | exact absurd h Bool.false_ne_true | (subst_vars;exact k _ _ _ _ h)
@[elab_as_elim] theorem EV.iIfx {f:Expr→Expr→Expr→Bool} {v:EV e} {m:Expr→Prop} (h:v.onIfx f=true) (k:∀ v0 v1 v2 v3,f v0 v1 v2=true→m (.IfExp v0 v1 v2 v3)):m e:=by cases v<;>first | exact absurd h Bool.false_ne_true | (subst_vars;exact k _ _ _ _ h)
@[elab_as_elim] theorem EV.iTup {f:List Expr→Bool} {v:EV e} {m:Expr→Prop} (h:v.onTup f=true) (k:∀ v0 v1 v2,f v0=true→m (.Tuple v0 v1 v2)):m e:=by cases v<;>first | exact absurd h Bool.false_ne_true | (subst_vars;exact k _ _ _ h)
@[elab_as_elim] theorem EV.iLst {f:List Expr→Bool} {v:EV e} {m:Expr→Prop} (h:v.onLst f=true) (k:∀ v0 v1,f v0=true→m (.List v0 v1)):m e:=by cases v<;>first | exact absurd h Bool.false_ne_true | (subst_vars;exact k _ _ h)
@[elab_as_elim] theorem EV.iDic {v:EV e} {m:Expr→Prop} (h:v.isDic=true) (k:∀ v0,m (.Dict [] [] v0)):m e:=by cases v<;>first | exact absurd h Bool.false_ne_true | (subst_vars;exact k _)
@[elab_as_elim] theorem EV.iSl {f:Option Expr→Option Expr→Bool} {v:EV e} {m:Expr→Prop} (h:v.onSl f=true) (k:∀ v0 v1 v2,f v0 v1=true→m (.Slice v0 v1 none v2)):m e:=by cases v<;>first | exact absurd h Bool.false_ne_true | (subst_vars;exact k _ _ _ h)
end
noncomputable def strB (a b:Str):Bool:=a.cps.toList==b.cps.toList
theorem strB_eq {a b:Str} (h:strB a b=true):a=b:=by
 cases a;cases b
 exact congrArg Str.mk (Array.toList_inj.mp (eq_of_beq h))
noncomputable def nmB (ls:List Str) (i:Nat) (x:Str):Bool:=match ls[i]? with | some y=>strB y x | none=>false
theorem nmB_eq {ls:List Str} {i:Nat} {x:Str} (h:nmB ls i x=true):ls[i]? = some x:=by
 unfold nmB at h
 split at h
 ·rename_i y e;rw [e,strB_eq h]
 ·cases h
noncomputable def cStr (s:Str):Const→Bool | .str x=>strB s x | _=>false
noncomputable def cSl (l:List Nat):Const→Bool | .str x=>x.cps.toList==l | _=>false
noncomputable def cInt (k:Int):Const→Bool | .int j=>k==j | _=>false
noncomputable def cBln (b:Bool):Const→Bool | .bool d=>b==d | _=>false
noncomputable def cNon:Const→Bool | .none=>true | _=>false
noncomputable def gvB (K:Frag) (ic:IC) (v:Value) (x:Str):Bool:=ic.gl x&&(gval K x).any (· == v)
noncomputable def goB (K:Frag) (ic:IC) (y:V) (x:Str):Bool:=ic.gl x&&(gval K x).any (gok K · y)
noncomputable def optB (f:Expr→Bool) (non:Bool):Option Expr→Bool
 | none=>non
 | some e=>f e
noncomputable def isNon:IE→Bool
 | .non=>true
 | _=>false
noncomputable def plB (b:Expr):Bool:=!(view b).onCall fun g as _=>as.isEmpty&&(view g).onName fun _=>true
noncomputable def isTup:IE→Bool
 | .frz e=>isTup e
 | .tup _=>true
 | _=>false
noncomputable def one {α:Type} (l:List α) (f:α→Bool):Bool:=match l with | [x]=>f x | _=>false
noncomputable def two {α:Type} (l:List α) (f:α→α→Bool):Bool:=match l with | [x,y]=>f x y | _=>false
noncomputable def tail1 {α:Type} (l:List α) (f:α→List α→Bool):Bool:=match l with | x::r=>f x r | []=>false
noncomputable def tail2 {α:Type} (l:List α) (f:α→List α→Bool):Bool:=match l with | x::y::r=>f x (y::r) | _=>false
@[elab_as_elim] theorem one_i {α:Type} {l:List α} {f:α→Bool} {m:List α→Prop} (h:one l f=true) (k:∀ v0,f v0=true→m ([v0])):m l:=by
 match l,h with
 | [x],h=>exact k x h
@[elab_as_elim] theorem two_i {α:Type} {l:List α} {f:α→α→Bool} {m:List α→Prop} (h:two l f=true) (k:∀ v0 v1,f v0 v1=true→m ([v0,v1])):m l:=by
 match l,h with
 | [x,y],h=>exact k x y h
@[elab_as_elim] theorem tail1_i {α:Type} {l:List α} {f:α→List α→Bool} {m:List α→Prop} (h:tail1 l f=true) (k:∀ v0 v1,f v0 v1=true→m (v0::v1)):m l:=by
 match l,h with
 | x::r,h=>exact k x r h
@[elab_as_elim] theorem tail2_i {α:Type} {l:List α} {f:α→List α→Bool} {m:List α→Prop} (h:tail2 l f=true) (k:∀ v0 v1 v2,f v0 (v1::v2)=true→m (v0::v1::v2)):m l:=by
 match l,h with
 | x::y::r,h=>exact k x y r h
noncomputable def xinB (K:Frag) (ic:IC) (a:Expr) (x:Str):Bool:=(view a).onName fun y=>gvB K ic (.type "Exception") y&&tmOK K "Exception" x "Exception.__init__"
noncomputable def blkB (fe:FE) (sc:Scope) (bl fr:List Str):Bool:=sc.kind==.function&&fe.scope.kind==.function&&sc.names.all (fun y=>!(y.2==.cell))&&sc.names.all (fun y=>!(y.2==.local)||sc.names.lookup y.1==some .local)&&(frees sc).all (fun x=>(fe.cl.lookup x).isSome)&&bl.all (fun x=>sc.names.lookup x==some .local&&!dbg x)&&fr.all (fun x=>sc.names.lookup x==some .free&&(frees sc).contains x)
theorem blkB_ok {fe:FE} {sc:Scope} {bl fr:List Str} (h:blkB fe sc bl fr=true):Blk fe sc bl fr:=by
 have h1:=band h
 have h2:=band h1.1
 have h3:=band h2.1
 have h4:=band h3.1
 have h5:=band h4.1
 have h6:=band h5.1
 refine ⟨eq_of_beq h6.1,eq_of_beq h6.2,fun y hy e=>?_,fun y hy e=>?_,fun x hx=>List.all_eq_true.mp h3.2 x hx,fun x hx=>?_,fun x hx=>?_⟩
 ·have k:=List.all_eq_true.mp h5.2 y hy
  rw [e] at k;cases k
 ·have k:=List.all_eq_true.mp h4.2 y hy
  rw [e] at k;exact eq_of_beq k
 ·have k:=band (List.all_eq_true.mp h2.2 x hx)
  exact ⟨eq_of_beq k.1,bne' k.2⟩
 ·have k:=band (List.all_eq_true.mp h1.2 x hx)
  exact ⟨eq_of_beq k.1,List.contains_iff_mem.mp k.2⟩
noncomputable def frB (fe:FE):List Nat→List Str→Bool
 | [],[]=>true
 | j::js,x::fr=>Nat.ble fe.ls.length j&&nmB fe.cs (j - fe.ls.length) x&&frB fe js fr
 | _,_=>false
theorem frB_ok {fe:FE}:∀ {js:List Nat} {fr:List Str},frB fe js fr=true→frOK fe js fr
 | [],[],_,_,_,_,h,_=>nomatch h
 | j::js,x::fr,h,k,i,z,h1,h2=>by
  have h:=band h
  have h3:=band h.1
  cases k with
  | zero=>cases h1;cases h2;exact ⟨lbt h3.1,nmB_eq h3.2⟩
  | succ k=>exact frB_ok h.2 k i z h1 h2
 | [],_::_,h,_,_,_,_,_=>nomatch h
 | _::_,[],h,_,_,_,_,_=>nomatch h
noncomputable def btgB:Bool→List Str→Expr→Bool
 | false,bl,e=>one bl fun x=>(view e).onName (strB x)
 | true,bl,e=>two bl fun x y=>!(x==y)&&(view e).onTup fun es=>two es fun a b=>(view a).onName (strB x)&&(view b).onName (strB y)
theorem btgB_ok:∀ {b:Bool} {bl:List Str} {e:Expr},btgB b bl e=true→BTg b bl e
 | false,bl,e,h=>by
  refine one_i h fun x h=>?_
  refine EV.iName h fun y p h=>?_
  rw [strB_eq h];exact .one
 | true,bl,e,h=>by
  refine two_i h fun x y h=>?_
  have h:=band h
  refine EV.iTup h.2 fun es k p h2=>?_
  refine two_i h2 fun a b h2=>?_
  have h2:=band h2
  refine EV.iName h2.1 fun x' p h3=>?_
  refine EV.iName h2.2 fun y' p h4=>?_
  rw [← strB_eq h3,← strB_eq h4]
  exact .two (ne_of_beq_false (bne' h.1))
noncomputable def isTru:IE→Bool
 | .bln b=>b
 | _=>false
noncomputable def ifsB (f:Expr→Bool) (tru:Bool):List Expr→Bool
 | []=>tru
 | [c]=>f c
 | _=>false
section
variable (X:Cx)
noncomputable def chk0:IE→IC→(Expr→Bool)×(List Expr→Bool)
 | .loc i,ic=>⟨fun a=>(view a).onName fun x=>nmB ic.ls i x,fun _=>false⟩
 | .glo y,ic=>⟨fun a=>(view a).onName fun x=>goB X.K ic y x,fun _=>false⟩
 | .str s,ic=>⟨fun a=>(view a).onConst (cStr s),fun _=>false⟩
 | .sl s,ic=>⟨fun a=>(view a).onConst (cSl s),fun _=>false⟩
 | .int s,ic=>⟨fun a=>(view a).onConst (cInt s),fun _=>false⟩
 | .bln s,ic=>⟨fun a=>(view a).onConst (cBln s),fun _=>false⟩
 | .non,ic=>⟨fun a=>(view a).onConst cNon,fun _=>false⟩
 | .tup es,ic=>⟨fun a=>(view a).onTup fun as=>(chk0 es ic).2 as,fun _=>false⟩
 | .lst es,ic=>⟨fun a=>(view a).onLst fun as=>(chk0 es ic).2 as,fun _=>false⟩
 | .lro es,ic=>⟨fun a=>(view a).onLst fun as=>(chk0 es ic).2 as,fun _=>false⟩
 | .dic,ic=>⟨fun a=>(view a).isDic,fun _=>false⟩
 | .ifr i j c x y,ic=>⟨fun a=>(view a).onIfx fun t u w=>(view t).onCmp (fun k os rs=>(view k).onName (nmB ic.ls i)&&one os (fun o=>o==.Eq)&&one rs fun z=>(view z).onConst (cStr c))&&(view u).onName (nmB ic.ls j)&&(view w).onCall fun g as p=>(view g).onAttr (fun b z ap=>strB "replace" z&&(view b).onName (nmB ic.ls j)&&ap.endLine==p.line)&&two as fun d e=>(view d).onConst (cStr x)&&(view e).onConst (cStr y)&&!(x==y)&&Nat.ble y.length 1000,fun _=>false⟩
 | .dicT,_=>⟨fun a=>(view a).isDic,fun _=>false⟩
 | .comp elt cnd src two bl js,ic=>⟨fun a=>(view a).onComp fun a' t i fs sc=>match ic.fe with
   | none=>false
   | some fe=>blkB fe sc bl (js.map fun j=>(ic.ls[j]?).getD "")&&frB fe js (js.map fun j=>(ic.ls[j]?).getD "")&&btgB two bl t&&(chk0 elt (blkIC sc bl (js.map fun j=>(ic.ls[j]?).getD ""))).1 a'&&ifsB (chk0 cnd (blkIC sc bl (js.map fun j=>(ic.ls[j]?).getD ""))).1 (isTru cnd) fs&&(chk0 src ic).1 i,fun _=>false⟩
 | .fld C k e,ic=>⟨fun a=>(view a).onAttr fun b x _=>fldOK X.K C k x&&plB b&&(chk0 e ic).1 b,fun _=>false⟩
 | .call f es,ic=>⟨fun a=>(view a).onCall fun g as _=>(view g).onName (gvB X.K ic (.ref f))&&keepIn X.K (.ref f)&&(chk0 es ic).2 as,fun _=>false⟩
 | .callv e es,ic=>⟨fun a=>(view a).onCall fun g as _=>(view g).onSub (fun _ _=>true)&&(chk0 e ic).1 g&&(chk0 es ic).2 as,fun _=>false⟩
 | .bi b es,ic=>⟨fun a=>(view a).onCall fun g as _=>(view g).onName (gvB X.K ic b.id)&&(chk0 es ic).2 as,fun _=>false⟩
 | .mth C f o es,ic=>⟨fun a=>(view a).onCall fun g as p=>(view g).onAttr fun b x ap=>methOK X.K C x f&&plB b&&(chk0 o ic).1 b&&(chk0 es ic).2 as&&Nat.ble as.length 29&&ap.endLine==p.line,fun _=>false⟩
 | .bm k o es,ic=>⟨fun a=>(view a).onCall fun g as p=>(view g).onAttr fun b x ap=>strB k.nm x&&plB b&&(chk0 o ic).1 b&&(chk0 es ic).2 as&&Nat.ble as.length 29&&ap.endLine==p.line,fun _=>false⟩
 | .clm C f es,ic=>⟨fun a=>(view a).onCall fun g as p=>(view g).onAttr fun b x ap=>(view b).onName (gvB X.K ic (.ref C))&&cmOK X.K C x f&&(chk0 es ic).2 as&&Nat.ble as.length 29&&ap.endLine==p.line,fun _=>false⟩
 | .xin es,ic=>⟨fun a=>(view a).onCall fun g as p=>(view g).onAttr fun b x ap=>xinB X.K ic b x&&(chk0 es ic).2 as&&Nat.ble as.length 29&&ap.endLine==p.line,fun _=>false⟩
 | .cmp op l r,ic=>⟨fun a=>(view a).onCmp fun x os rs=>one os (fun o=>o==op)&&one rs (fun y=>(chk0 l ic).1 x&&(chk0 r ic).1 y),fun _=>false⟩
 | .cmp2 o1 o2 l m r,ic=>⟨fun a=>(view a).onCmp fun x os rs=>two os (fun p q=>p==o1&&q==o2)&&two rs (fun y z=>(chk0 l ic).1 x&&(chk0 m ic).1 y&&(chk0 r ic).1 z),fun _=>false⟩
 | .andc e r,ic=>⟨fun a=>(view a).onBool fun o es p=>o==.And&&tail2 es fun x xs=>(chk0 e ic).1 x&&(chk0 r ic).1 (.BoolOp .And xs p),fun _=>false⟩
 | .orc e r,ic=>⟨fun a=>(view a).onBool fun o es p=>o==.Or&&tail2 es fun x xs=>(chk0 e ic).1 x&&(chk0 r ic).1 (.BoolOp .Or xs p),fun _=>false⟩
 | .bop1 e,ic=>⟨fun a=>(view a).onBool fun o es _=>one es fun x=>(chk0 e ic).1 x,fun _=>false⟩
 | .not e,ic=>⟨fun a=>(view a).onUn fun o x=>o==.Not&&(chk0 e ic).1 x,fun _=>false⟩
 | .neg e,ic=>⟨fun a=>(view a).onUn fun o x=>o==.USub&&(chk0 e ic).1 x,fun _=>false⟩
 | .bin op l r,ic=>⟨fun a=>(view a).onBin fun x o y=>o==op&&(chk0 l ic).1 x&&(chk0 r ic).1 y,fun _=>false⟩
 | .ifx t a b,ic=>⟨fun e=>(view e).onIfx fun x y z=>(chk0 t ic).1 x&&(chk0 a ic).1 y&&(chk0 b ic).1 z,fun _=>false⟩
 | .item e i,ic=>⟨fun a=>(view a).onSub fun x y=>(chk0 e ic).1 x&&(chk0 i ic).1 y,fun _=>false⟩
 | .sli e lo hi,ic=>⟨fun a=>(view a).onSub fun x y=>(chk0 e ic).1 x&&(view y).onSl fun l u=>optB (chk0 lo ic).1 (isNon lo) l&&optB (chk0 hi ic).1 (isNon hi) u,fun _=>false⟩
 | .frz e,ic=>⟨(chk0 e ic).1,fun _=>false⟩
 | .nil,ic=>⟨fun _=>false,fun as=>as.isEmpty⟩
 | .cons e r,ic=>⟨fun _=>false,fun as=>tail1 as fun x xs=>(chk0 e ic).1 x&&(chk0 r ic).2 xs⟩
noncomputable abbrev chk (ic:IC) (e:IE):(Expr→Bool)×(List Expr→Bool):=chk0 X e ic
end
section
variable {X:Cx} {fe:FE} {ic:IC} {n:Nat} {ρ:LV} {σ:Store} {R:Prop}
theorem cmpI_ok {i j:Int} {P:Bool→Prop} {Q:VK} (k:∀ b,P b→Q (.bool b) σ):∀ {op:CmpOp},cmpI P i j op→Op2 X n (compareOp op) (.int i) (.int j) σ Q R
 | .Lt,h=>v_lti.op (k _ h) | .LtE,h=>v_lei.op (k _ h) | .Gt,h=>v_gti.op (k _ h) | .GtE,h=>v_gei.op (k _ h) | .Eq,h=>v_eqi.op (k _ h) | .NotEq,h=>v_nei.op (k _ h)
 | .Is,h=>h.elim | .IsNot,h=>h.elim | .In,h=>h.elim | .NotIn,h=>h.elim
theorem cmpS_ok {i j:List Nat} {P:Bool→Prop} {Q:VK} (k:∀ b,P b→Q (.bool b) σ):∀ {op:CmpOp},cmpS P i j op→Op2 X n (compareOp op) (.str i) (.str j) σ Q R
 | .LtE,h=>v_les.op (k _ h) | .Eq,h=>v_eqs.op (k _ h) | .NotEq,h=>v_nes.op (k _ h) | .In,h=>v_inL.op (k _ h) | .NotIn,h=>v_notinL.op (k _ h)
 | .Is,h=>h.elim | .IsNot,h=>h.elim | .Lt,h=>h.elim | .Gt,h=>h.elim | .GtE,h=>h.elim
theorem none_ok {P:Bool→Prop}:∀ {y:V},noneW P y→∃ b,P b∧∀ (C:Cx) (Pm:Imm) v,VR C Pm v y→(v==Value.none)=b
 | .none,h=>⟨_,h,fun C P v h=>by rw [h.e_none];rfl⟩
 | .str _,h=>⟨_,h,fun C P v h=>by obtain ⟨t,rfl⟩:=h.e_str;rfl⟩
 | .int _,h=>⟨_,h,fun C P v h=>by obtain ⟨t,rfl⟩:=h.e_int;rfl⟩
 | .ref _,h=>⟨_,h,fun C P v h=>by rw [h.e_ref];rfl⟩
 | .ri _ _,h=>⟨_,h,fun C P v h=>by obtain ⟨a,_,_,_,rfl,_⟩:=h;rfl⟩
 | .tup _,h=>⟨_,h,fun C P v h=>by obtain ⟨a,_,_,_,rfl,_⟩:=h.e_tup;rfl⟩
 | .bool _,h=>h.elim | .ro _,h=>h.elim | .rd _ _,h=>h.elim | .itm _,h=>h.elim | .rng _,h=>h.elim | .exc,h=>h.elim | .raw _,h=>h.elim
theorem cmpN_ok {y:V} {P:Bool→Prop} {Q:VK} (k:∀ b,P b→Q (.bool b) σ):∀ {op:CmpOp},cmpN P y op→Op2 X n (compareOp op) y .none σ Q R
 | .Is,h=>let ⟨_,hp,e⟩:=none_ok h;(v_is e).op (k _ hp)
 | .IsNot,h=>let ⟨_,hp,e⟩:=none_ok (P:=fun b=>P (!b)) h;(v_isnot e).op (k _ hp)
 | .Eq,h=>h.elim | .NotEq,h=>h.elim | .In,h=>h.elim | .NotIn,h=>h.elim | .Lt,h=>h.elim | .LtE,h=>h.elim | .Gt,h=>h.elim | .GtE,h=>h.elim
theorem cmE_ok {op:CmpOp} {y z:V} {P:Bool→Prop} {Q:VK} (k:∀ b,P b→Q (.bool b) σ) (h:CmE σ P op y z):Op2 X n (compareOp op) y z σ Q R:=by
 cases h with
 | inD m h=>exact o_in_dict m (k _ h)
 | niD m h=>exact o_notin_dict m (k _ h)
 | inL m a h=>exact o_in_lst m a (k _ h)
 | niT a h=>exact o_notin_tup a (k _ h)
 | eqN m h=>exact o_eq_nil m (k _ h)
 | neN m h=>exact o_ne_nil m (k _ h)
 | eqD a b e h=>exact o_eq_dict a b e (k _ h)
 | eqT a b e h=>exact o_eq_td a b e (k _ h)
 | inP m a b h=>exact o_in_prs m a b (k _ h)
 | niK m h=>exact o_notin_td m (k _ h)
theorem cmpW_ok {op:CmpOp} {y z:V} {P:Bool→Prop} {Q:VK} (k:∀ b,P b→Q (.bool b) σ) (h:cmpW op σ P y z):Op2 X n (compareOp op) y z σ Q R:=by
 cases z<;>try exact cmE_ok k h
 ·exact cmpN_ok k h
 ·cases y<;>first | exact cmpI_ok k h | exact h.elim
 ·cases y<;>first | exact cmpS_ok k h | exact h.elim
theorem bnE_ok {op:Operator} {y z:V} {Q:VK} (h:BnE σ Q op y z):Op2 X n (binaryOp op) y z σ Q R:=by
 cases h with
 | mul c h=>exact (v_muli c).op h
 | mod a h=>exact (v_modi a).op h
 | div a b h=>exact (v_divi a b).op h
 | pow a b c h=>exact (v_powi a b c).op h
 | cat a b h=>exact (v_catS a b).op h
 | addl a b c h=>exact o_addl a b c h
 | addt a b c h=>exact o_addt a b c h
 | mull a b c h=>exact o_mull a b c h
theorem binW_ok {op:Operator} {y z:V} {Q:VK} (h:binW op σ Q y z):Op2 X n (binaryOp op) y z σ Q R:=by
 cases z<;>try exact bnE_ok h
 cases y<;>try exact bnE_ok h
 cases op<;>first | exact bnE_ok h | exact v_addi.op h | exact v_subi.op h
theorem augW_ok {y z:V} {K:V→Prop} {Q:VK} (k:∀ y,K y→Q y σ) (h:augW K y z):Op2 X n (inplaceOp .Add) y z σ Q R:=by
 cases z<;>try exact h.elim
 cases y<;>try exact h.elim
 exact v_iaddi.op (k _ h)
theorem boE_ok {b:BI} {ys:List V} {Q:VK} (h:BoE σ Q b ys):Op X n ys (fun ws=>PySem.call b.id ws) σ Q R:=by
 cases h with
 | lenS a h=>exact ((v_len_str a).op h).op
 | lenT a h=>exact (o_len_tup a h).op
 | lenL m a h=>exact (o_len_lst m a h).op
 | ord h=>exact (v_ord.op h).op
 | chr a b h=>exact ((v_chr a b).op h).op
 | max h=>exact (o_max h).op
 | range h=>exact (o_range h).op
 | tupL m a h=>exact (o_tuple_lst m a h).op
 | tupT h=>exact (o_tuple_tup h).op
 | intI h=>exact (v_int_int.op h).op
 | intB h=>exact (v_int_bool.op h).op
 | dict m a h=>exact o_dict m a h
 | str a h=>exact ((v_str_int a).op h).op
theorem v_low {l l':List Nat} (e:Txt.lower ⟨l.toArray⟩=⟨l'.toArray⟩) (hl:l'.length≤1000):VOp1 X (fun v=>PySem.call (.builtin "str.lower") [v]) (.str l) (.str l'):=fun A P va s Q E a b c ha h=>by
 obtain ⟨t,rfl⟩:=ha.e_str
 refine SC.lower (by rw [e];unfold Builtin.Str.tooLong sizeLine;simp [Str.length];omega) ?_
 rw [e]
 exact h _ _ .i_strL
theorem v_upp {l l':List Nat} (e:Txt.upper ⟨l.toArray⟩=⟨l'.toArray⟩) (hl:l'.length≤1000):VOp1 X (fun v=>PySem.call (.builtin "str.upper") [v]) (.str l) (.str l'):=fun A P va s Q E a b c ha h=>by
 obtain ⟨t,rfl⟩:=ha.e_str
 refine SC.upper (by rw [e];unfold Builtin.Str.tooLong sizeLine;simp [Str.length];omega) ?_
 rw [e]
 exact h _ _ .i_strL
theorem moE_ok {b:BMk} {ys:List V} {Q:VK} (h:MoE σ Q b ys):Op X n ys (fun ws=>PySem.call (.builtin b.id) ws) σ Q R:=by
 cases h with
 | app u a h=>exact (o_append u a h).op
 | pop u a h=>exact (o_pop u a h).op
 | get1 m h=>exact (o_get1 m h).op
 | get2 m h=>exact o_get2 m h
 | get1r h=>exact o_get1r h
 | get2r h=>exact o_get2r h
 | items h=>exact o_items h
 | sw a h=>exact o_startswith a h
 | find a h=>exact o_find a h
 | find1 h=>exact (v_find.op h).op
 | low a b h=>exact ((v_low a b).op h).op
 | upp a b h=>exact ((v_upp a b).op h).op
 | join m a b c h=>exact (o_join m a b c h).op
 | repl0 a h=>exact o_repl0 a h
theorem trW_ok {y:V} {K:Bool→Prop} (h:trW K y):TrE X y K:=by
 cases y<;>first | exact ⟨t_bool,h⟩ | exact ⟨t_none,h⟩ | exact h.elim
theorem cond_t {b:Bool} {P:Prop} (h:cond b P False):b=true∧P:=by
 cases b with
 | true=>exact ⟨rfl,h⟩
 | false=>exact h.elim
theorem fldW_ok {C k:Nat} {y:V} {K:VK} (h:fldW C k σ K y):InE σ C y fun vs=>nthK vs k fun z=>K z σ:=by
 cases y<;>try exact h
 have h:=cond_t h
 cases Nat.eq_of_beq_eq_true h.1
 exact ⟨.ri,h.2⟩
theorem insW_ok {C:Nat} {y:V} {P:Prop} (h:insW C σ P y):InE σ C y fun _=>P:=by
 cases y<;>try exact h
 have h:=cond_t h
 cases Nat.eq_of_beq_eq_true h.1
 exact ⟨.ri,h.2⟩
theorem muW_ok {k:BMk} {y:V} {P:Prop} (h:muW k σ P y):MuE σ y k.T P:=by
 cases y<;>try exact h
 all_goals cases k<;>first | exact h.elim | exact ⟨.str,h⟩ | exact ⟨.rd,h⟩
structure CP.OK (X:Cx) (n:Nat) (R:Prop) (c:CP):Prop where
 call:∀ f ys σ K,c.call f ys σ K→CallOK X n (.ref f) ys σ K R
 keep:∀ f,c.keep f→keepIn X.K (.ref f)=true
 R':R→c.R
 R:c.R→R
noncomputable def isCmp:IE→Bool
 | .comp ..=>true
 | .frz e=>isCmp e
 | _=>false
structure Pl (a:Expr) (cp:Bool):Prop where
 A:PlA a
 B:plB a=true→PlB a
 V:cp=false→PlV a
 C:PlC a
 S:PlS a
 I:∀ env x,foldedSetIterable a env x=pure x
abbrev Un (a:Expr):Prop:=∀ es k pt env,swappedStores [.Tuple es k pt] a env=pure none
inductive H4:Expr→Prop
 | name {x p}:H4 (.Name x p)
 | const {c k p}:H4 (.Constant c k p)
 | attr {a x p}:H4 (.Attribute a x p)
 | sub {a b p}:H4 (.Subscript a b p)
 | callN {x q as p}:H4 (.Call (.Name x q) as [] p)
 | callS {a b q as p}:H4 (.Call (.Subscript a b q) as [] p)
 | callA {a x q as p}:H4 (.Call (.Attribute a x q) as [] p)
 | bin {l o r p}:H4 (.BinOp l o r p)
 | lst {es p}:H4 (.List es p)
 | dic {p}:H4 (.Dict [] [] p)
inductive H3:Expr→Prop
 | cmp {l os rs p}:H3 (.Compare l os rs p)
 | bool {o es p}:H3 (.BoolOp o es p)
 | un {o a p}:H3 (.UnaryOp o a p)
 | ifx {t a b p}:H3 (.IfExp t a b p)
theorem p4 {a:Expr} {cp:Bool} (h:H4 a):Pl a cp∧Un a∧PlT a:=by
 cases h
 case callN x q as p=>exact ⟨⟨fun _ _=>rfl,fun h _ _ _=>(by cases as<;>first | rfl | cases h),fun _ _ _ _=>rfl,fun _=>rfl,fun _ _=>rfl,fun _ _=>rfl⟩,fun _ _ _ _=>rfl,fun _=>rfl⟩
 case callS a b q as p=>exact ⟨⟨fun _ _=>rfl,fun h _ _ _=>(by cases as<;>first | rfl | cases h),fun _ _ _ _=>rfl,fun _=>rfl,fun _ _=>rfl,fun _ _=>rfl⟩,fun _ _ _ _=>rfl,fun _=>rfl⟩
 case callA a x q as p=>exact ⟨⟨fun _ _=>rfl,fun h _ _ _=>(by cases as<;>rfl),fun _ _ _ _=>rfl,fun _=>rfl,fun _ _=>rfl,fun _ _=>rfl⟩,fun _ _ _ _=>rfl,fun _=>rfl⟩
 all_goals exact ⟨⟨fun _ _=>rfl,fun _ _ _ _=>rfl,fun _ _ _ _=>rfl,fun _=>rfl,fun _ _=>rfl,fun _ _=>rfl⟩,fun _ _ _ _=>rfl,fun _=>rfl⟩
theorem p3 {a:Expr} {cp:Bool} (h:H3 a):Pl a cp∧Un a:=by
 cases h<;>exact ⟨⟨fun _ _=>rfl,fun _ _ _ _=>rfl,fun _ _ _ _=>rfl,fun _=>rfl,fun _ _=>rfl,fun _ _=>rfl⟩,fun _ _ _ _=>rfl⟩
theorem p4' {a:Expr} {cp tup:Bool} {P:Prop} (h:H4 a) (q:P):Pl a cp∧(tup=false→∀ es k pt env,swappedStores [.Tuple es k pt] a env=pure none)∧PlT a∧P:=let k:=p4 (cp:=cp) h;⟨k.1,fun _=>k.2.1,k.2.2,q⟩
theorem cStr_i {s:Str} {c:Const} (h:cStr s c=true):c=.str s:=by
 cases c<;>first | exact absurd h Bool.false_ne_true | exact congrArg Const.str (strB_eq h).symm
theorem cSl_i {l:List Nat} {c:Const} (h:cSl l c=true):∃ x:Str,x.cps.toList=l∧c=.str x:=by
 cases c<;>first | exact absurd h Bool.false_ne_true | exact ⟨_,eq_of_beq h,rfl⟩
theorem cInt_i {k:Int} {c:Const} (h:cInt k c=true):c=.int k:=by
 cases c<;>first | exact absurd h Bool.false_ne_true | exact congrArg Const.int (eq_of_beq h).symm
theorem cBln_i {b:Bool} {c:Const} (h:cBln b c=true):c=.bool b:=by
 cases c<;>first | exact absurd h Bool.false_ne_true | exact congrArg Const.bool (eq_of_beq h).symm
theorem cNon_i {c:Const} (h:cNon c=true):c=.none:=by
 cases c<;>first | exact absurd h Bool.false_ne_true | rfl
structure Snd (X:Cx) (ic:IC) (n:Nat) (R:Prop) (c:CP) (e:IE):Prop where
 pl:∀ a,(chk X ic e).1 a=true→Pl a (isCmp e)
 un:∀ a,(chk X ic e).1 a=true→isTup e=false→∀ es k pt env,swappedStores [.Tuple es k pt] a env=pure none
 v:∀ a,(chk X ic e).1 a=true→∀ {ρ σ K},(wp c e).v ρ σ K→Ev X ic n a ρ σ K R
 t:∀ a,(chk X ic e).1 a=true→∀ {ρ σ K},(wp c e).t ρ σ K→Te X ic n a ρ σ K R
 l:∀ as,(chk X ic e).2 as=true→PlL as∧∀ {pos ρ σ K},(wp c e).l ρ σ K→Es X ic n pos as ρ σ K R
theorem Snd.ofV {c:CP} {e:IE} (k:∀ a,(chk X ic e).1 a=true→Pl a (isCmp e)∧(isTup e=false→∀ es k pt env,swappedStores [.Tuple es k pt] a env=pure none)∧PlT a∧∀ {ρ σ K},(wp c e).v ρ σ K→Ev X ic n a ρ σ K R)
  (ht:∀ ρ σ K,(wp c e).t ρ σ K→(wp c e).v ρ σ fun y σ₁=>trW (fun b=>K b σ₁) y) (hl:∀ as,(chk X ic e).2 as=false):Snd X ic n R c e where
 pl a h:=(k a h).1
 un a h:=(k a h).2.1
 v a h:=(k a h).2.2.2
 t a h _ _ _ q:=te_val (k a h).2.2.1 (((k a h).2.2.2 (ht _ _ _ q)).mono (fun _ _ q=>trW_ok q) id)
 l as h:=by rw [hl] at h;cases h
theorem Snd.ofX {c:CP} {e:IE} (k:∀ a,(chk X ic e).1 a=true→Pl a (isCmp e)∧(isTup e=false→∀ es k pt env,swappedStores [.Tuple es k pt] a env=pure none)∧∀ {ρ σ K},(wp c e).v ρ σ K→Ev X ic n a ρ σ K R)
  (ht:∀ ρ σ K,¬(wp c e).t ρ σ K) (hl:∀ as,(chk X ic e).2 as=false):Snd X ic n R c e where
 pl a h:=(k a h).1
 un a h:=(k a h).2.1
 v a h:=(k a h).2.2
 t a h _ _ _ q:=(ht _ _ _ q).elim
 l as h:=by rw [hl] at h;cases h
theorem gl_of {K:Frag} {v:Value} {x:Str} (hK:K=X.K) (h:gvB K ic v x=true):ic.gl x=true∧Gl X x v:=by
 subst hK
 have h:=band h
 refine ⟨h.1,gval_sound ?_⟩
 cases q:gval X.K x with
 | none=>rw [q] at h;exact nomatch h.2
 | some u=>rw [q] at h;rw [eq_of_beq (show (u==v)=true from h.2)]
theorem go_of {y:V} {x:Str} (h:goB X.K ic y x=true) (hK:X.K.In X.base):ic.gl x=true∧∃ v,Gl X x v∧VR X (X.imm []) v y:=by
 have h:=band h
 refine ⟨h.1,?_⟩
 cases q:gval X.K x with
 | none=>rw [q] at h;exact nomatch h.2
 | some u=>rw [q] at h;exact ⟨u,gval_sound q,gok_sound (fun a o e=>.inr (hK a o e)) h.2⟩
end
section
variable {X:Cx} {fe:FE} {ic:IC} {n:Nat} {ρ:LV} {σ:Store} {R:Prop}
theorem const_snd {c:CP} {e:IE} {cB:Const→Bool} {Kv:VK→Store→Prop} (hc:(chk X ic e).1=fun a=>(view a).onConst cB) (hv:(wp c e).v=fun _ σ K=>Kv K σ) (ht:(wp c e).t=fun ρ σ K=>(wp c e).v ρ σ fun y σ₁=>trW (fun b=>K b σ₁) y) (hl:∀ as,(chk X ic e).2 as=false)
  (k:∀ cc k p,cB cc=true→∀ {ρ σ K},Kv K σ→Ev X ic n (.Constant cc k p) ρ σ K R):Snd X ic n R c e:=
 .ofV (fun a h=>by
  rw [hc] at h
  refine EV.iConst h fun cc i p h=>?_
  refine p4' .const (fun {ρ σ K} q=>k _ _ _ h ?_)
  rw [hv] at q;exact q) (fun ρ σ K q=>by rw [ht] at q;exact q) hl
theorem snd_loc {c:CP} (i:Nat):Snd X ic n R c (.loc i):=
 .ofV (fun a h=>by
  refine EV.iName h fun x p h=>?_
  refine p4' .name (fun {ρ σ K} q=>?_)
  replace q:locW (fun y=>K y σ) (ρ.at i):=q
  cases e:ρ.at i with
  | none=>rw [e] at q;exact q.elim
  | some y=>rw [e] at q;exact ev_loc (nmB_eq h) e q) (fun _ _ _ q=>q) fun _=>rfl
theorem snd_glo {c:CP} (y:V):Snd X ic n R c (.glo y):=
 .ofV (fun a h=>by
  refine EV.iName h fun x p h=>?_
  refine p4' .name (fun {ρ σ K} q=>fun env' env outer A g L m I H s E a b c d=>?_)
  obtain ⟨h1,v,h2,h3⟩:=go_of h a.KB
  exact ev_glo h1 h2 h3 q env' env outer A g L m I H s E a b c d) (fun _ _ _ q=>q) fun _=>rfl
theorem condE {b:Bool} {A B A' B':Prop} (h:cond b A B) (f:A→A') (g:B→B'):cond b A' B':=by
 cases b with
 | true=>exact f h
 | false=>exact g h
theorem isNon_i {e:IE} (h:isNon e=true):e=.non:=by
 unfold isNon at h
 split at h
 ·rfl
 ·cases h
theorem isTru_i {e:IE} (h:isTru e=true):e=.bln true:=by
 unfold isTru at h
 split at h
 ·rw [h]
 ·cases h
theorem opt_ok {c:CP} {e:IE} (s:Snd X ic n R c e) {a:Option Expr} (h:optB (chk X ic e).1 (isNon e) a=true) {ρ:LV} {σ:Store} {K K':VK} (k:∀ y σ,K y σ→K' y σ) (q:(wp c e).v ρ σ K):EvO X ic n a ρ σ K' R:=by
 cases a with
 | some a=>exact evo_some ((s.v a h q).mono k id)
 | none=>
  obtain rfl:=isNon_i h
  exact evo_none (k _ _ q)
theorem lastMarks2 {o₁ o₂:CmpOp} {a b:Expr} (h:PlC b):lastMarks [o₁,o₂] [a,b]=false:=h o₂
theorem tgMk_mono {two:Bool} {ρc:LV} {v:V} {K K':LV→Prop} (k:∀ ρ,K ρ→K' ρ) (h:tgMk two ρc v K):tgMk two ρc v K':=by
 unfold tgMk at h ⊢
 split at h<;>first | exact k _ h | exact h.elim
theorem CompI.mono {two:Bool} {ρc:LV} {cn cn':LV→Store→(Bool→Store→Prop)→Prop} {el el':LV→Store→(V→Store→Prop)→Prop} {F:List V→Store→Prop} (hc:∀ ρ σ K K',(∀ b σ,K b σ→K' b σ)→cn ρ σ K→cn' ρ σ K') (he:∀ ρ σ K K',(∀ y σ,K y σ→K' y σ)→el ρ σ K→el' ρ σ K') :
  ∀ {xs acc σ},CompI (tgMk two ρc) cn el F xs acc σ→CompI (tgMk two ρc) cn' el' F xs acc σ
 | [],_,_,h=>h
 | _::_,_,_,h=>tgMk_mono (fun _ h=>hc _ _ _ _ (fun b _ h=>condE h (fun h=>he _ _ _ _ (fun _ _ h=>CompI.mono hc he h) h) fun h=>CompI.mono hc he h) h) h
theorem ifs_ok {c:CP} {e:IE} (s:Snd X ic n R c e) {fs:List Expr} (h:ifsB (chk X ic e).1 (isTru e) fs=true) {ρ:LV} {σ:Store} {K K':Bool→Store→Prop} (k:∀ b σ,K b σ→K' b σ) (q:(wp c e).t ρ σ K):Ts X ic n fs ρ σ K' R:=by
 match fs,h with
 | [],h=>
  obtain rfl:=isTru_i h
  exact ts_nil (k _ _ q)
 | [t],h=>exact ts_one ((s.t t h q).mono k id)
theorem coE_ok {R':Prop} {two:Bool} {bl:List Str} {te:Expr} {F F':List V→Prop} {y:V} (t:BTg two bl te) (hR:R→R') (k:∀ xs,F xs→F' xs) (h:CoE R' F two y):CsE X R te F' y:=by
 cases h with
 | ro a b h=>exact ⟨fun r=>a (hR r),src_ro,b,k _ h⟩
 | rng a b h=>exact ⟨fun r=>a (hR r),src_rng (Nat.le_trans b (lbt rfl)),by rw [List.length_map,List.length_range];exact b,k _ h⟩
 | itm a b h=>cases t;exact ⟨fun r=>a (hR r),src_itm,by rw [List.length_map];exact b,k _ h⟩
inductive IfrI (ls:List Str) (i j:Nat) (c x y:Str):Expr→Prop
 | mk {kx vx pk pv pv' pt p pp ap kc pc ka pa kb pb}:ls[i]? = some kx→ls[j]? = some vx→(x==y)=false→y.length≤1000→ap.endLine=pp.line →
   IfrI ls i j c x y (.IfExp (.Compare (.Name kx pk) [.Eq] [.Constant (.str c) kc pc] pt) (.Name vx pv) (.Call (.Attribute (.Name vx pv') "replace" ap) [.Constant (.str x) ka pa,.Constant (.str y) kb pb] [] pp) p)
inductive CstE (x:Str):Expr→Prop
 | mk (k p):CstE x (.Constant (.str x) k p)
theorem cst_i {x:Str} {a:Expr} (h:(view a).onConst (cStr x)=true):CstE x a:=by
 refine EV.iConst h fun cc kc pc h=>?_
 exact cStr_i h▸⟨kc,pc⟩
theorem rep_i {ls:List Str} {j:Nat} {x y:Str} {w:Expr} (h:((view w).onCall fun g as p=>(view g).onAttr (fun b z ap=>strB "replace" z&&(view b).onName (nmB ls j)&&ap.endLine==p.line)&&two as fun d e=>(view d).onConst (cStr x)&&(view e).onConst (cStr y)&&!(x==y)&&Nat.ble y.length 1000)=true) :
  ∃ vx pv ap ka pa kb pb pp,(ls[j]? = some vx∧(x==y)=false∧y.length≤1000∧ap.endLine=pp.line)∧w=.Call (.Attribute (.Name vx pv) "replace" ap) [.Constant (.str x) ka pa,.Constant (.str y) kb pb] [] pp:=by
 refine EV.iCall h fun gg as pp k7=>?_
 have k7:=band k7
 refine EV.iAttr k7.1 fun b zz ap k8=>?_
 have k8:=band k8
 have k9:=band k8.1
 refine EV.iName k9.2 fun vx pv k10=>?_
 refine two_i k7.2 fun d e k11=>?_
 have k11:=band k11
 have k12:=band k11.1
 have k13:=band k12.1
 obtain ⟨ka,pa⟩:=cst_i k13.1
 obtain ⟨kb,pb⟩:=cst_i k13.2
 obtain rfl:=strB_eq k9.1
 exact ⟨vx,pv,ap,ka,pa,kb,pb,pp,⟨nmB_eq k10,bne' k12.2,lbt k11.2,eq_of_beq k8.2⟩,rfl⟩
theorem ifr_i {ic:IC} {i j:Nat} {c x y:Str} {a:Expr} (h:(chk X ic (.ifr i j c x y)).1 a=true):IfrI ic.ls i j c x y a:=by
 refine EV.iIfx h fun t u w p h=>?_
 have h:=band h
 have h1:=band h.1
 refine EV.iCmp h1.1 fun k os rs pt k1=>?_
 have k1:=band k1
 have k2:=band k1.1
 refine EV.iName k2.1 fun kx pk k3=>?_
 refine one_i k2.2 fun o k4=>?_
 refine one_i k1.2 fun z k5=>?_
 obtain ⟨kc,pc⟩:=cst_i k5
 refine EV.iName h1.2 fun vx pv k6=>?_
 obtain ⟨vx',pv',ap,ka,pa,kb,pb,pp,k7,rfl⟩:=rep_i h.2
 obtain rfl:=eq_of_beq k4
 obtain rfl:vx=vx':=Option.some.inj ((nmB_eq k6).symm.trans k7.1)
 exact .mk (nmB_eq k3) k7.1 k7.2.1 k7.2.2.1 k7.2.2.2
theorem ifr_go {c x y kx vx:Str} {pk pv pv' pt p pp ap pc pa pb:Pos} {i j kc ka kb:Nat} {K:VK} (k1:ic.ls[i]? = some kx) (k2:ic.ls[j]? = some vx) (k3:(x==y)=false) (k4:y.length≤1000) (k5:ap.endLine=pp.line) (q:locW (fun k=>locW (fun v=>RpE K σ c x y k v) (ρ.at j)) (ρ.at i)) :
  Ev X ic n (.IfExp (.Compare (.Name kx pk) [.Eq] [.Constant (.str c) kc pc] pt) (.Name vx pv) (.Call (.Attribute (.Name vx pv') "replace" ap) [.Constant (.str x) ka pa,.Constant (.str y) kb pb] [] pp) p) ρ σ K R:=by
 cases e1:ρ.at i with
 | none=>rw [e1] at q;exact q.elim
 | some kv=>
  rw [e1] at q
  cases e2:ρ.at j with
  | none=>rw [e2] at q;exact q.elim
  | some vv=>
   rw [e2] at q
   obtain ⟨a1,a2,a3⟩:=q
   exact ev_ifrep k1 e1 k2 e2 k3 a2 k4 k5 a1 a3
theorem sound {fI:Addr} (hX:ExcC X fI) {c:CP} (ok:c.OK X n R):∀ (e:IE) (ic:IC),Snd X ic n R c e
 | .loc i,ic=>snd_loc i
 | .glo y,ic=>snd_glo y
 | .str s,ic=>const_snd (cB:=cStr s) (Kv:=fun K σ=>K (.str s.cps.toList) σ) rfl rfl rfl (fun _=>rfl) fun cc k p h {ρ σ K} q=>cStr_i h▸ev_str q
 | .sl s,ic=>const_snd (cB:=cSl s) (Kv:=fun K σ=>K (.str s) σ) rfl rfl rfl (fun _=>rfl) fun cc k p h {ρ σ K} q=>by
   obtain ⟨x,rfl,rfl⟩:=cSl_i h
   exact ev_str q
 | .int s,ic=>const_snd (cB:=cInt s) (Kv:=fun K σ=>K (.int s) σ) rfl rfl rfl (fun _=>rfl) fun cc k p h {ρ σ K} q=>cInt_i h▸ev_int q
 | .bln s,ic=>const_snd (cB:=cBln s) (Kv:=fun K σ=>K (.bool s) σ) rfl rfl rfl (fun _=>rfl) fun cc k p h {ρ σ K} q=>cBln_i h▸ev_bool q
 | .non,ic=>const_snd (cB:=cNon) (Kv:=fun K σ=>K .none σ) rfl rfl rfl (fun _=>rfl) fun cc k p h {ρ σ K} q=>cNon_i h▸ev_none q
 | .tup es,ic=>.ofV (fun a h=>by
   refine EV.iTup h fun as k p h=>?_
   exact ⟨⟨fun _ _=>rfl,fun _ _ _ _=>rfl,fun _ _ _ _=>rfl,fun _=>rfl,fun _ _=>rfl,fun _ _=>rfl⟩,fun h=>(nomatch h),fun _=>rfl,fun q=>ev_tuple ((((sound hX ok es ic).l as h).2 q).mono (fun _ _ q=>have q:=cond_t q;⟨lbt q.1,q.2⟩) id)⟩) (fun _ _ _ q=>q) fun _=>rfl
 | .lst es,ic=>.ofV (fun a h=>by
   refine EV.iLst h fun as p h=>?_
   exact p4' .lst (fun q=>ev_list ((((sound hX ok es ic).l as h).2 q).mono (fun _ _ q=>have q:=cond_t q;⟨lbt q.1,q.2⟩) id))) (fun _ _ _ q=>q) fun _=>rfl
 | .lro es,ic=>.ofV (fun a h=>by
   refine EV.iLst h fun as p h=>?_
   exact p4' .lst (fun q=>ev_list_ro ((((sound hX ok es ic).l as h).2 q).mono (fun _ _ q=>have q:=cond_t q;⟨lbt q.1,q.2⟩) id))) (fun _ _ _ q=>q) fun _=>rfl
 | .dic,ic=>.ofV (fun a h=>by
   refine EV.iDic h fun p=>?_
   exact p4' .dic (fun q=>ev_dict0 q)) (fun _ _ _ q=>q) fun _=>rfl
 | .ifr i j c x y,ic=>.ofX (fun a h=>by
   obtain ⟨k1,k2,k3,k4,k5⟩:=ifr_i h
   exact ⟨(p3 .ifx).1,fun _=>(p3 (cp:=false) .ifx).2,fun q=>ifr_go k1 k2 k3 k4 k5 q⟩) (fun _ _ _ q=>q.elim) fun _=>rfl
 | .dicT,ic=>.ofV (fun a h=>by
   refine EV.iDic h fun p=>?_
   exact p4' .dic (fun q=>ev_dictT q)) (fun _ _ _ q=>q) fun _=>rfl
 | .comp elt cnd src two bl js,ic=>.ofV (fun a h=>by
   refine EV.iComp h fun a' t i fs sc p k0=>?_
   clear h
   split at k0
   ·cases k0
   ·rename_i fe e
    have h:=band k0
    have h1:=band h.1
    have h2:=band h1.1
    have h3:=band h2.1
    have h4:=band h3.1
    have is:=sound hX ok src ic
    refine ⟨⟨fun _ _=>rfl,fun _ _ _ _=>rfl,fun z=>(nomatch z),fun _=>rfl,fun _ _=>rfl,fun _ _=>rfl⟩,fun _ _ _ _ _=>rfl,fun _=>rfl,fun {ρ σ K} q=>?_⟩
    have go:∀ {xs acc σ},CompI (tgMk two (ρ.pk js)) (fun ρ σ K=>(wp c cnd).t ρ σ fun b σ=>IfE (fun b=>K b σ) b) (wp c elt).v (fun ys σ=>∀ a,K (.ref a) ((a,.list ys)::σ)) xs acc σ→CpF X (blkIC sc bl (js.map fun j=>(ic.ls[j]?).getD "")) n two (ρ.pk js) fs a' R (fun ys σ=>∀ a,K (.ref a) ((a,.list ys)::σ)) xs acc σ:=fun z=>by
     refine CompI.mono ?_ ?_ z
     ·intro ρ σ K K' k q
      exact ifs_ok (sound hX ok cnd _) h1.2 (fun b σ q=>k b σ (IfE.go q)) q
     ·intro ρ σ K K' k q
      exact ((sound hX ok elt _).v _ h2.2 q).mono k id
    exact ev_comp e (btgB_ok h3.2) (blkB_ok h4.1) (frB_ok h4.2) (is.pl _ h.2).I ((is.v _ h.2 q).mono (fun y σ₁ q=>coE_ok (btgB_ok h3.2) ok.R' (fun _ z=>go z) q) id)) (fun _ _ _ q=>q) fun _=>rfl
 | .fld C k e,ic=>.ofV (fun a h=>by
   refine EV.iAttr h fun b x p h=>?_
   have h:=band h
   have h1:=band h.1
   have ih:=sound hX ok e ic
   exact p4' .attr (fun q=>ev_fld h1.1 ((ih.v b h.2 q).mono (fun _ _ q=>fldW_ok q) id) ((ih.pl b h.2).B h1.2))) (fun _ _ _ q=>q) fun _=>rfl
 | .call f es,ic=>.ofV (fun a h=>by
   refine EV.iCall h fun g as p h=>?_
   have h:=band h
   have h1:=band h.1
   refine EV.iName h1.1 fun x px h2=>?_
   have h2:=gl_of (X:=X) rfl h2
   have ih:=(sound hX ok es ic).l as h.2
   exact p4' .callN (fun q=>ev_call h2.1 h2.2 h1.2 ih.1 ((ih.2 q).mono (fun _ _ q=>ok.call _ _ _ _ q) id))) (fun _ _ _ q=>q) fun _=>rfl
 | .callv e es,ic=>.ofV (fun a h=>by
   refine EV.iCall h fun g as p h=>?_
   have h:=band h
   have h1:=band h.1
   have h12:=h1.2
   revert h12
   refine EV.iSub h1.1 fun x y px _ h12=>?_
   have ih:=(sound hX ok es ic).l as h.2
   refine p4' .callS (fun {ρ σ K} q=>?_)
   refine ev_callv (fun _=>rfl) ih.1 (((sound hX ok e ic).v _ h12 q).mono (fun y σ₁ q=>?_) id)
   cases y<;>first | exact q.elim | skip
   rename_i v
   cases v<;>first | exact q.elim | exact ⟨rfl,ok.keep _ q.1,(ih.2 q.2).mono (fun _ _ q=>ok.call _ _ _ _ q) id⟩) (fun _ _ _ q=>q) fun _=>rfl
 | .bi b es,ic=>.ofV (fun a h=>by
   refine EV.iCall h fun g as p h=>?_
   have h:=band h
   refine EV.iName h.1 fun x px h2=>?_
   have h2:=gl_of (X:=X) rfl h2
   have ih:=(sound hX ok es ic).l as h.2
   refine p4' .callN (fun {ρ σ K} q=>?_)
   have k:=(ih.2 (pos:=p) q).mono (fun _ _ q=>boE_ok (X:=X) (n:=n) (R:=R) q) id
   cases b<;>first | exact ev_bcall h2.1 h2.2 ih.1 k | exact ev_tcall h2.1 h2.2 ih.1 k) (fun _ _ _ q=>q) fun _=>rfl
 | .mth C f o es,ic=>.ofV (fun a h=>by
   refine EV.iCall h fun g as p h=>?_
   refine EV.iAttr h fun b x ap h=>?_
   have h:=band h
   have h1:=band h.1
   have h2:=band h1.1
   have h3:=band h2.1
   have h4:=band h3.1
   have ih:=(sound hX ok es ic).l as h2.2
   have io:=sound hX ok o ic
   exact p4' .callA (fun q=>ev_mth h4.1 ((io.v b h3.2 q).mono (fun _ _ q=>let ⟨a,q⟩:=insW_ok q;⟨a,(ih.2 q).mono (fun _ _ q=>ok.call _ _ _ _ q) id⟩) id) ((io.pl b h3.2).B h4.2) ih.1 h1.2 (eq_of_beq h.2))) (fun _ _ _ q=>q) fun _=>rfl
 | .bm k o es,ic=>.ofV (fun a h=>by
   refine EV.iCall h fun g as p h=>?_
   refine EV.iAttr h fun b x ap h=>?_
   have h:=band h
   have h1:=band h.1
   have h2:=band h1.1
   have h3:=band h2.1
   have h4:=band h3.1
   have ih:=(sound hX ok es ic).l as h2.2
   have io:=sound hX ok o ic
   exact p4' .callA (fun q=>ev_bmeth (strB_eq h4.1▸k.ok) ((io.v b h3.2 q).mono (fun _ _ q=>let ⟨a,q⟩:=muW_ok q;⟨a,(ih.2 q).mono (fun _ _ q=>moE_ok q) id⟩) id) ((io.pl b h3.2).B h4.2) ih.1 h1.2 (eq_of_beq h.2))) (fun _ _ _ q=>q) fun _=>rfl
 | .clm C f es,ic=>.ofV (fun a h=>by
   refine EV.iCall h fun g as p h=>?_
   refine EV.iAttr h fun b x ap h=>?_
   have h:=band h
   have h1:=band h.1
   have h2:=band h1.1
   have h3:=band h2.1
   refine EV.iName h3.1 fun y py h4=>?_
   have h4:=gl_of (X:=X) rfl h4
   have ih:=(sound hX ok es ic).l as h2.2
   exact p4' .callA (fun q=>ev_clsmeth h4.1 h4.2 h3.2 ((ih.2 q).mono (fun _ _ q=>ok.call _ _ _ _ q) id) ih.1 h1.2 (eq_of_beq h.2))) (fun _ _ _ q=>q) fun _=>rfl
 | .xin es,ic=>.ofV (fun a h=>by
   refine EV.iCall h fun g as p h=>?_
   refine EV.iAttr h fun b x ap h=>?_
   have h:=band h
   have h1:=band h.1
   have h2:=band h1.1
   refine EV.iName h2.1 fun y py h4=>?_
   have h4:=band h4
   have h5:=gl_of (X:=X) rfl h4.1
   have ih:=(sound hX ok es ic).l as h2.2
   exact p4' .callA (fun q=>ev_tymeth h5.1 h5.2 rfl h4.2 ((ih.2 q).mono (fun _ _ q=>by cases q with | mk q=>exact (o_exc_init hX q).op) id) ih.1 h1.2 (eq_of_beq h.2))) (fun _ _ _ q=>q) fun _=>rfl
 | .item e i,ic=>.ofV (fun a h=>by
   refine EV.iSub h fun x y p h=>?_
   have h:=band h
   have ie:=sound hX ok e ic
   have ii:=sound hX ok i ic
   exact p4' .sub (fun q=>ev_item (ii.pl y h.2).S ((ie.v x h.1 q).mono (fun _ _ q=>(ii.v y h.2 q)) id))) (fun _ _ _ q=>q) fun _=>rfl
 | .sli e lo hi,ic=>.ofV (fun a h=>by
   refine EV.iSub h fun x y p h=>?_
   have h:=band h
   refine EV.iSl h.2 fun l u ps h2=>?_
   have h2:=band h2
   have ie:=sound hX ok e ic
   exact p4' .sub (fun q=>ev_slice ((ie.v x h.1 q).mono (fun _ _ q=>opt_ok (sound hX ok lo ic) h2.1 (fun _ _ q=>opt_ok (sound hX ok hi ic) h2.2 (fun _ _ q=>q) q) q) id))) (fun _ _ _ q=>q) fun _=>rfl
 | .bin op l r,ic=>.ofV (fun a h=>by
   refine EV.iBin h fun x o y p h=>?_
   have h:=band h
   have h1:=band h.1
   obtain rfl:=eq_of_beq h1.1
   exact p4' .bin (fun q=>ev_bin (((sound hX ok l ic).v x h1.2 q).mono (fun _ _ q=>((sound hX ok r ic).v y h.2 q).mono (fun _ _ q=>binW_ok q) id) id))) (fun _ _ _ q=>q) fun _=>rfl
 | .neg e,ic=>.ofV (fun a h=>by
   refine EV.iUn h fun o x p h=>?_
   have h:=band h
   obtain rfl:=eq_of_beq h.1
   refine ⟨⟨fun _ _=>rfl,fun _ _ _ _=>rfl,fun _ _ _ _=>rfl,fun _=>rfl,fun _ _=>rfl,fun _ _=>rfl⟩,fun _ _ _ _ _=>rfl,fun _=>rfl,fun {ρ σ K} q=>ev_neg (((sound hX ok e ic).v x h.2 q).mono (fun y σ₁ q=>?_) id)⟩
   cases y<;>first | exact ⟨q⟩ | exact q.elim) (fun _ _ _ q=>q) fun _=>rfl
 | .not e,ic=>{
   pl:=fun a h=>by refine EV.iUn h fun o x p h=>?_;exact (p3 .un).1
   un:=fun a h=>by refine EV.iUn h fun o x p h=>?_;exact fun _=>(p3 (cp:=false) .un).2
   v:=fun a h ρ σ K q=>by
    refine EV.iUn h fun o x p h=>?_
    have h:=band h
    obtain rfl:=eq_of_beq h.1
    exact ev_not (((sound hX ok e ic).v x h.2 q).mono (fun _ _ q=>trW_ok q) id)
   t:=fun a h ρ σ K q=>by
    refine EV.iUn h fun o x p h=>?_
    have h:=band h
    obtain rfl:=eq_of_beq h.1
    exact te_not ((sound hX ok e ic).t x h.2 q)
   l:=fun as h=>nomatch h }
 | .ifx t x y,ic=>{
   pl:=fun a h=>by refine EV.iIfx h fun t x y p h=>?_;exact (p3 .ifx).1
   un:=fun a h=>by refine EV.iIfx h fun t x y p h=>?_;exact fun _=>(p3 (cp:=false) .ifx).2
   v:=fun a h ρ σ K q=>by
    refine EV.iIfx h fun t' x' y' p h=>?_
    have h:=band h
    have h1:=band h.1
    exact ev_ifexp (((sound hX ok t ic).t t' h1.1 q).mono (fun b _ q=>by
     have q:=q.go
     cases b with
     | true=>exact (sound hX ok x ic).v x' h1.2 q
     | false=>exact (sound hX ok y ic).v y' h.2 q) id)
   t:=fun a h ρ σ K q=>q.elim
   l:=fun as h=>nomatch h }
 | .cmp op l r,ic=>{
   pl:=fun a h=>by refine EV.iCmp h fun x os rs p h=>?_;exact (p3 .cmp).1
   un:=fun a h=>by refine EV.iCmp h fun x os rs p h=>?_;exact fun _=>(p3 (cp:=false) .cmp).2
   v:=fun a h ρ σ K q=>by
    refine EV.iCmp h fun x os rs p h=>?_
    have h:=band h
    refine one_i h.1 fun o h1=>?_
    refine one_i h.2 fun y h2=>?_
    obtain rfl:=eq_of_beq h1
    have h2:=band h2
    exact ev_cmp ((sound hX ok r ic).pl y h2.2).C (((sound hX ok l ic).v x h2.1 q).mono (fun _ _ q=>((sound hX ok r ic).v y h2.2 q).mono (fun _ _ q=>cmpW_ok (fun _ q=>q) q) id) id)
   t:=fun a h ρ σ K q=>by
    refine EV.iCmp h fun x os rs p h=>?_
    have h:=band h
    refine one_i h.1 fun o h1=>?_
    refine one_i h.2 fun y h2=>?_
    obtain rfl:=eq_of_beq h1
    have h2:=band h2
    exact te_cmp ((sound hX ok r ic).pl y h2.2).C (((sound hX ok l ic).v x h2.1 q).mono (fun _ _ q=>((sound hX ok r ic).v y h2.2 q).mono (fun _ _ q=>cmpW_ok (fun _ q=>⟨q⟩) q) id) id)
   l:=fun as h=>nomatch h }
 | .cmp2 o1 o2 l m r,ic=>{
   pl:=fun a h=>by refine EV.iCmp h fun x os rs p h=>?_;exact (p3 .cmp).1
   un:=fun a h=>by refine EV.iCmp h fun x os rs p h=>?_;exact fun _=>(p3 (cp:=false) .cmp).2
   v:=fun a h ρ σ K q=>by
    refine EV.iCmp h fun x os rs p h=>?_
    have h:=band h
    refine two_i h.1 fun a b h1=>?_
    refine two_i h.2 fun y z h2=>?_
    have h1:=band h1
    obtain rfl:=eq_of_beq h1.1
    obtain rfl:=eq_of_beq h1.2
    have h2:=band h2
    have h3:=band h2.1
    refine ev_cmp2 (lastMarks2 ((sound hX ok r ic).pl z h2.2).C) (((sound hX ok l ic).v x h3.1 q).mono (fun _ _ q=>((sound hX ok m ic).v y h3.2 q).mono (fun _ _ q=>cmpW_ok (fun b q=>⟨?_⟩) q) id) id)
    have q:=q.go
    cases b with
    | true=>exact ((sound hX ok r ic).v z h2.2 q).mono (fun _ _ q=>cmpW_ok (fun _ q=>q) q) id
    | false=>exact q
   t:=fun a h ρ σ K q=>q.elim
   l:=fun as h=>nomatch h }
 | .andc e r,ic=>{
   pl:=fun a h=>by refine EV.iBool h fun o es p h=>?_;exact (p3 .bool).1
   un:=fun a h=>by refine EV.iBool h fun o es p h=>?_;exact fun _=>(p3 (cp:=false) .bool).2
   v:=fun a h ρ σ K q=>by
    refine EV.iBool h fun o es p h=>?_
    have h:=band h
    obtain rfl:=eq_of_beq h.1
    refine tail2_i h.2 fun x y es h2=>?_
    have h2:=band h2
    exact ev_and (((sound hX ok e ic).v x h2.1 q).mono (fun _ _ q=>let ⟨a,q⟩:=trW_ok q;⟨a,condE (IfE.go q) (fun q=>(sound hX ok r ic).v _ h2.2 q) fun q=>q⟩) id)
   t:=fun a h ρ σ K q=>by
    refine EV.iBool h fun o es p h=>?_
    have h:=band h
    obtain rfl:=eq_of_beq h.1
    refine tail2_i h.2 fun x y es h2=>?_
    have h2:=band h2
    exact te_and (((sound hX ok e ic).t x h2.1 q).mono (fun _ _ q=>condE (IfE.go q) (fun q=>(sound hX ok r ic).t _ h2.2 q) fun q=>q) id)
   l:=fun as h=>nomatch h }
 | .orc e r,ic=>{
   pl:=fun a h=>by refine EV.iBool h fun o es p h=>?_;exact (p3 .bool).1
   un:=fun a h=>by refine EV.iBool h fun o es p h=>?_;exact fun _=>(p3 (cp:=false) .bool).2
   v:=fun a h ρ σ K q=>by
    refine EV.iBool h fun o es p h=>?_
    have h:=band h
    obtain rfl:=eq_of_beq h.1
    refine tail2_i h.2 fun x y es h2=>?_
    have h2:=band h2
    exact ev_or (((sound hX ok e ic).v x h2.1 q).mono (fun _ _ q=>let ⟨a,q⟩:=trW_ok q;⟨a,condE (IfE.go q) (fun q=>q) fun q=>(sound hX ok r ic).v _ h2.2 q⟩) id)
   t:=fun a h ρ σ K q=>by
    refine EV.iBool h fun o es p h=>?_
    have h:=band h
    obtain rfl:=eq_of_beq h.1
    refine tail2_i h.2 fun x y es h2=>?_
    have h2:=band h2
    exact te_or (((sound hX ok e ic).t x h2.1 q).mono (fun _ _ q=>condE (IfE.go q) (fun q=>q) fun q=>(sound hX ok r ic).t _ h2.2 q) id)
   l:=fun as h=>nomatch h }
 | .bop1 e,ic=>{
   pl:=fun a h=>by refine EV.iBool h fun o es p h=>?_;exact (p3 .bool).1
   un:=fun a h=>by refine EV.iBool h fun o es p h=>?_;exact fun _=>(p3 (cp:=false) .bool).2
   v:=fun a h ρ σ K q=>by
    refine EV.iBool h fun o es p h=>?_
    refine one_i h fun x h=>?_
    exact ev_bool1 ((sound hX ok e ic).v x h q)
   t:=fun a h ρ σ K q=>by
    refine EV.iBool h fun o es p h=>?_
    refine one_i h fun x h=>?_
    have k:=(sound hX ok e ic).t x h q
    cases o with
    | And=>exact te_and (k.mono (fun b _ q=>by cases b with | true=>exact te_and_nil q | false=>exact q) id)
    | Or=>exact te_or (k.mono (fun b _ q=>by cases b with | true=>exact q | false=>exact te_or_nil q) id)
   l:=fun as h=>nomatch h }
 | .frz e,ic=>{
   pl:=(sound hX ok e ic).pl
   un:=(sound hX ok e ic).un
   v:=fun a h ρ σ K q=>ev_frz ((sound hX ok e ic).v a h q)
   t:=fun _ _ _ _ _ q=>q.elim
   l:=fun as h=>nomatch h }
 | .nil,ic=>{
   pl:=fun a h=>nomatch h
   un:=fun a h=>nomatch h
   v:=fun a h=>nomatch h
   t:=fun a h=>nomatch h
   l:=fun as h=>by
    cases as with
    | nil=>exact ⟨fun _=>rfl,fun q=>es_nil q⟩
    | cons _ _=>cases h }
 | .cons e r,ic=>{
   pl:=fun a h=>nomatch h
   un:=fun a h=>nomatch h
   v:=fun a h=>nomatch h
   t:=fun a h=>nomatch h
   l:=fun as h=>by
    refine tail1_i h fun a as h=>?_
    have h:=band h
    have ie:=sound hX ok e ic
    have ir:=(sound hX ok r ic).l as h.2
    exact ⟨fun env=>by rw [(ie.pl a h.1).A,ir.1];rfl,fun q=>es_cons (ie.pl a h.1).A ((ie.v a h.1 q).mono (fun _ _ q=>ir.2 q) id)⟩ }
end
inductive SV (s:Stmt):Type
 | pass (p:Pos) (h:s=.Pass p)
 | cont (p:Pos) (h:s=.Continue p)
 | ret (e:Expr) (p:Pos) (h:s=.Return (some e) p)
 | ret0 (p:Pos) (h:s=.Return none p)
 | expr (e:Expr) (p:Pos) (h:s=.Expr e p)
 | asg (t e:Expr) (p:Pos) (h:s=.Assign [t] e p)
 | aug (t:Expr) (op:Operator) (e:Expr) (p:Pos) (h:s=.AugAssign t op e p)
 | raise (e:Expr) (p:Pos) (h:s=.Raise (some e) none p)
 | iff (t:Expr) (b o:List Stmt) (p:Pos) (h:s=.If t b o p)
 | whl (t:Expr) (b:List Stmt) (p:Pos) (h:s=.While t b [] p)
 | for_ (t e:Expr) (b:List Stmt) (p:Pos) (h:s=.For t e b [] p)
 | no
noncomputable def viewS:(s:Stmt)→SV s
 | .Pass p=>.pass p rfl
 | .Continue p=>.cont p rfl
 | .Return (some e) p=>.ret e p rfl
 | .Return none p=>.ret0 p rfl
 | .Expr e p=>.expr e p rfl
 | .Assign [t] e p=>.asg t e p rfl
 | .AugAssign t op e p=>.aug t op e p rfl
 | .Raise (some e) none p=>.raise e p rfl
 | .If t b o p=>.iff t b o p rfl
 | .While t b [] p=>.whl t b p rfl
 | .For t e b [] p=>.for_ t e b p rfl
 | _=>.no
section
variable {s:Stmt}
noncomputable def SV.isPass:SV s→Bool | .pass _ _=>true | _=>false
noncomputable def SV.isCont:SV s→Bool | .cont _ _=>true | _=>false
noncomputable def SV.isRet0:SV s→Bool | .ret0 _ _=>true | _=>false
noncomputable def SV.onRet (f:Expr→Bool):SV s→Bool | .ret e _ _=>f e | _=>false
noncomputable def SV.onExpr (f:Expr→Bool):SV s→Bool | .expr e _ _=>f e | _=>false
noncomputable def SV.onAsg (f:Expr→Expr→Pos→Bool):SV s→Bool | .asg t e p _=>f t e p | _=>false
noncomputable def SV.onAug (f:Expr→Operator→Expr→Bool):SV s→Bool | .aug t o e _ _=>f t o e | _=>false
noncomputable def SV.onRaise (f:Expr→Bool):SV s→Bool | .raise e _ _=>f e | _=>false
noncomputable def SV.onIff (f:Expr→List Stmt→List Stmt→Bool):SV s→Bool | .iff t b o _ _=>f t b o | _=>false
noncomputable def SV.onWhl (f:Expr→List Stmt→Bool):SV s→Bool | .whl t b _ _=>f t b | _=>false
noncomputable def SV.onFor (f:Expr→Expr→List Stmt→Bool):SV s→Bool | .for_ t e b _ _=>f t e b | _=>false
@[elab_as_elim] theorem SV.iPass {v:SV s} {m:Stmt→Prop} (h:v.isPass=true) (k:∀ v0,m (.Pass v0)):m s:=by cases v<;>first | exact absurd h Bool.false_ne_true | (subst_vars;exact k _)
@[elab_as_elim] theorem SV.iCont {v:SV s} {m:Stmt→Prop} (h:v.isCont=true) (k:∀ v0,m (.Continue v0)):m s:=by cases v<;>first | exact absurd h Bool.false_ne_true | (subst_vars;exact k _)
@[elab_as_elim] theorem SV.iRet0 {v:SV s} {m:Stmt→Prop} (h:v.isRet0=true) (k:∀ v0,m (.Return none v0)):m s:=by cases v<;>first | exact absurd h Bool.false_ne_true | (subst_vars;exact k _)
@[elab_as_elim] theorem SV.iRet {f:Expr→Bool} {v:SV s} {m:Stmt→Prop} (h:v.onRet f=true) (k:∀ v0 v1,f v0=true→m (.Return (some v0) v1)):m s:=by cases v<;>first | exact absurd h Bool.false_ne_true | (subst_vars;exact k _ _ h)
@[elab_as_elim] theorem SV.iExpr {f:Expr→Bool} {v:SV s} {m:Stmt→Prop} (h:v.onExpr f=true) (k:∀ v0 v1,f v0=true→m (.Expr v0 v1)):m s:=by cases v<;>first | exact absurd h Bool.false_ne_true | (subst_vars;exact k _ _ h)
@[elab_as_elim] theorem SV.iAsg {f:Expr→Expr→Pos→Bool} {v:SV s} {m:Stmt→Prop} (h:v.onAsg f=true) (k:∀ v0 v1 v2,f v0 v1 v2=true→m (.Assign [v0] v1 v2)):m s:=by cases v<;>first | exact absurd h Bool.false_ne_true | (subst_vars;exact k _ _ _ h)
@[elab_as_elim] theorem SV.iAug {f:Expr→Operator→Expr→Bool} {v:SV s} {m:Stmt→Prop} (h:v.onAug f=true) (k:∀ v0 v1 v2 v3,f v0 v1 v2=true→m (.AugAssign v0 v1 v2 v3)):m s:=by cases v<;>first | exact absurd h Bool.false_ne_true | (subst_vars;exact k _ _ _ _ h)
@[elab_as_elim] theorem SV.iRaise {f:Expr→Bool} {v:SV s} {m:Stmt→Prop} (h:v.onRaise f=true) (k:∀ v0 v1,f v0=true→m (.Raise (some v0) none v1)):m s:=by cases v<;>first | exact absurd h Bool.false_ne_true | (subst_vars;exact k _ _ h)
@[elab_as_elim] theorem SV.iIff {f:Expr→List Stmt→List Stmt→Bool} {v:SV s} {m:Stmt→Prop} (h:v.onIff f=true) (k:∀ v0 v1 v2 v3,f v0 v1 v2=true→m (.If v0 v1 v2 v3)):m s:=by cases v<;>first | exact absurd h Bool.false_ne_true | (subst_vars;exact k _ _ _ _ h)
@[elab_as_elim] theorem SV.iWhl {f:Expr→List Stmt→Bool} {v:SV s} {m:Stmt→Prop} (h:v.onWhl f=true) (k:∀ v0 v1 v2,f v0 v1=true→m (.While v0 v1 [] v2)):m s:=by cases v<;>first | exact absurd h Bool.false_ne_true | (subst_vars;exact k _ _ _ h)
@[elab_as_elim] theorem SV.iFor {f:Expr→Expr→List Stmt→Bool} {v:SV s} {m:Stmt→Prop} (h:v.onFor f=true) (k:∀ v0 v1 v2 v3,f v0 v1 v2=true→m (.For v0 v1 v2 [] v3)):m s:=by cases v<;>first | exact absurd h Bool.false_ne_true | (subst_vars;exact k _ _ _ _ h)
end
noncomputable def tgsB (ls:List Str):List Nat→List Expr→Bool
 | [],[]=>true
 | i::is,e::es=>(view e).onName (nmB ls i)&&tgsB ls is es
 | _,_=>false
theorem tgsB_ok {fe:FE}:∀ {is:List Nat} {es:List Expr},tgsB fe.ls is es=true→Tgs fe is es
 | [],[],_=>.nil
 | i::is,e::es,h=>by
  have h:=band h
  refine EV.iName h.1 fun x p h1=>?_
  exact .cons (nmB_eq h1) (tgsB_ok h.2)
 | [],_::_,h=>nomatch h
 | _::_,[],h=>nomatch h
noncomputable def tgB (ls:List Str):TG→Expr→Bool
 | .nm i,e=>(view e).onName (nmB ls i)
 | .tp is,e=>(view e).onTup (tgsB ls is)
theorem tgB_ok {fe:FE} {t:TG} {e:Expr} (h:tgB fe.ls t e=true):Tg fe t e:=by
 cases t with
 | nm i=>refine EV.iName h fun x p h=>?_;exact .nm (nmB_eq h)
 | tp is=>refine EV.iTup h fun es k p h=>?_;exact .tp (tgsB_ok h)
noncomputable def isStar:Expr→Bool
 | .Starred ..=>true
 | _=>false
noncomputable def swpB (sc:Scope) (x y:Str) (p q:Pos) (a b:Expr):Bool:=q.line==p.line&&!(x==y)&&!isStar a&&!isStar b&&!(foldedForSure 8 a&&foldedForSure 8 b)&&!(constantsAlone 8 a&&constantsAlone 8 b)
noncomputable def swF (env:Env) (line:Nat):Expr→Option Str
 | .Name z0 pos=>if env.kindOf z0==some .local&&pos.line==line then some z0 else none
 | _=>none
theorem sw_eq {a b:Expr} {x y:Str} {px py:Pos} {k k':Nat} {pt pt':Pos} {env:Env}:swappedStores [.Tuple [.Name x px,.Name y py] k pt] (.Tuple [a,b] k' pt') env =
 (if (env.blockKind != .function)=true then pure none else if (isStar a||(isStar b||false))=true then pure none else
  if ((([.Name x px,.Name y py].filterMap (swF env px.line))).length != 2||([.Name x px,.Name y py].filterMap (swF env px.line)).eraseDups.length != ([.Name x px,.Name y py].filterMap (swF env px.line)).length)=true then pure none else
  if ([a,b].all (foldedForSure 8))=true then pure none else if ([a,b].all (constantsAlone 8))=true then unsupported "assign.tuple-of-constant-expressions:order-of-the-stores" else pure (some ([.Name x px,.Name y py].filterMap (swF env px.line)))):=rfl
theorem swF_eq {env:Env} {l:Nat} {z:Str} {p:Pos} (hz:env.kindOf z=some .local) (hp:(p.line==l)=true):swF env l (.Name z p)=some z:=by
 show (if (env.kindOf z==some .local&&p.line==l)=true then some z else none)=_
 rw [hz,hp]
 rfl
theorem swp_ok {env:Env} {x y:Str} {px py:Pos} (hk:env.blockKind=.function) (hx:env.kindOf x=some .local) (hy:env.kindOf y=some .local) {a b:Expr} (h:swpB env.scope x y px py a b=true) (k k':Nat) (pt pt':Pos) :
  swappedStores [.Tuple [.Name x px,.Name y py] k pt] (.Tuple [a,b] k' pt') env=pure (some [x,y]):=by
 have h1:=band h
 have h2:=band h1.1
 have h3:=band h2.1
 have h4:=band h3.1
 have h5:=band h4.1
 have e2:(([a,b]:List Expr).all (foldedForSure 8))=false:=by rw [List.all_cons,List.all_cons,List.all_nil,Bool.and_true];exact bne' h2.2
 have e3:(([a,b]:List Expr).all (constantsAlone 8))=false:=by rw [List.all_cons,List.all_cons,List.all_nil,Bool.and_true];exact bne' h1.2
 have ne:(y==x)=false:=by rw [Bool.beq_comm];exact bne' h5.2
 have hn:[.Name x px,.Name y py].filterMap (swF env px.line)=[x,y]:=by
  rw [List.filterMap_cons,swF_eq hx (beq_self_eq_true _),List.filterMap_cons,swF_eq hy h5.1]
  rfl
 have hd:([x,y]:List Str).eraseDups=[x,y]:=by
  rw [List.eraseDups_cons,List.filter_cons,ne]
  rfl
 rw [sw_eq,hn,hd,hk,bne' h4.2,bne' h3.2,e2,e3]
 rfl
section
variable (X:Cx) (fe:FE)
noncomputable def chkS:IS→List Stmt→Bool
 | .done,ss=>ss.isEmpty
 | .pass k,ss=>tail1 ss fun s r=>(viewS s).isPass&&chkS k r
 | .cont,ss=>one ss fun s=>(viewS s).isCont
 | .ret e,ss=>one ss fun s=>(viewS s).onRet (chk X fe.ic e).1
 | .ret0,ss=>one ss fun s=>(viewS s).isRet0
 | .bad,_=>true
 | .raise e,ss=>one ss fun s=>(viewS s).onRaise (chk X fe.ic e).1
 | .expr e k,ss=>!isCmp e&&tail1 ss fun s r=>(viewS s).onExpr (chk X fe.ic e).1&&chkS k r
 | .asg i e k,ss=>!isCmp e&&tail1 ss fun s r=>((viewS s).onAsg fun t v _=>(view t).onName (nmB fe.ls i)&&(chk X fe.ic e).1 v)&&chkS k r
 | .asgT is e k,ss=>!isCmp e&&tail1 ss fun s r=>((viewS s).onAsg fun t v _=>(view t).onTup (tgsB fe.ls is)&&!isTup e&&(chk X fe.ic e).1 v)&&chkS k r
 | .swp i j a b k,ss=>tail1 ss fun s r=>((viewS s).onAsg fun t v _=>(view t).onTup (fun ts=>two ts fun x y=>(view x).onName (fun x'=>nmB fe.ls i x'&&(view y).onName fun y'=>nmB fe.ls j y'&&(view v).onTup fun vs=>two vs fun d e=>
   swpB fe.scope x' y' x.pos y.pos d e&&(chk X fe.ic a).1 d&&(chk X fe.ic b).1 e)))&&chkS k r
 | .seta C f o e k,ss=>!isCmp e&&tail1 ss fun s r=>((viewS s).onAsg fun t v _=>(view t).onAttr fun ob x _=>setAt X.K C f x&&(chk X fe.ic o).1 ob&&(chk X fe.ic e).1 v)&&chkS k r
 | .setx f o e k,ss=>!isCmp e&&tail1 ss fun s r=>((viewS s).onAsg fun t v _=>(view t).onAttr fun ob x _=>excAt X f x&&(chk X fe.ic o).1 ob&&(chk X fe.ic e).1 v)&&chkS k r
 | .seti o i e k,ss=>!isCmp e&&tail1 ss fun s r=>((viewS s).onAsg fun t v _=>(view t).onSub fun ob ix=>(chk X fe.ic o).1 ob&&(chk X fe.ic i).1 ix&&(chk X fe.ic e).1 v)&&chkS k r
 | .sett o i e k,ss=>!isCmp e&&tail1 ss fun s r=>((viewS s).onAsg fun t v _=>(view t).onSub fun ob ix=>(chk X fe.ic o).1 ob&&(chk X fe.ic i).1 ix&&(chk X fe.ic e).1 v)&&chkS k r
 | .auga C f o e k,ss=>tail1 ss fun s r=>((viewS s).onAug fun t op v=>op==.Add&&(view t).onAttr fun ob x _=>setAt X.K C f x&&fldOK X.K C f x&&(chk X fe.ic o).1 ob&&(chk X fe.ic e).1 v)&&chkS k r
 | .aug i e k,ss=>tail1 ss fun s r=>((viewS s).onAug fun t op v=>op==.Add&&(view t).onName (nmB fe.ls i)&&(chk X fe.ic e).1 v)&&chkS k r
 | .iff t a b k,ss=>tail1 ss fun s r=>((viewS s).onIff fun t' b' o'=>(chk X fe.ic t).1 t'&&chkS a b'&&chkS b o')&&chkS k r
 | .whl t b k,ss=>tail1 ss fun s r=>((viewS s).onWhl fun t' b'=>(chk X fe.ic t).1 t'&&chkS b b')&&chkS k r
 | .for_ t e b k,ss=>tail1 ss fun s r=>((viewS s).onFor fun t' e' b'=>tgB fe.ls t t'&&(chk X fe.ic e).1 e'&&chkS b b')&&chkS k r
end
section
variable {X:Cx} {fe:FE} {n:Nat} {R:Prop} {c:CP} {fI:Addr}
theorem LV.set_mono:∀ {ρ:LV} {i:Nat} {y:V} {K K':LV→Prop},(∀ ρ,K ρ→K' ρ)→ρ.set i y K→ρ.set i y K'
 | .n,_,_,_,_,_,h=>h.elim
 | .c _ _,0,_,_,_,k,h=>k _ h
 | .o _ _,0,_,_,_,k,h=>k _ h
 | .c _ r,_+1,_,_,_,k,h=>LV.set_mono (ρ:=r) (fun _ z=>k _ z) h
 | .o _ r,_+1,_,_,_,k,h=>LV.set_mono (ρ:=r) (fun _ z=>k _ z) h
theorem LV.sets_mono {K K':LV→Prop} (k:∀ ρ,K ρ→K' ρ):∀ {is:List Nat} {ys:List V} {ρ:LV},LV.sets K is ys ρ→LV.sets K' is ys ρ
 | [],[],_,h=>k _ h
 | _::is,_::ys,_,h=>LV.set_mono (fun _ z=>LV.sets_mono k (is:=is) (ys:=ys) z) h
 | [],_::_,_,h=>h.elim
 | _::_,[],_,h=>h.elim
theorem asgT_mono {K K':LV→Prop} (k:∀ ρ,K ρ→K' ρ) {ρ:LV} {t:TG} {y:V} (h:asgT K ρ t y):asgT K' ρ t y:=by
 cases t with
 | nm i=>exact LV.set_mono k h
 | tp is=>cases y<;>first | exact h.elim | exact LV.sets_mono k h
theorem Sm.lp {t:Env→Sem Flow} {ρ:LV} {σ:Store} {q:QK} {J J':LV→Store→Prop} (x:Sm X fe n t ρ σ (q.lp J) R) (h:∀ ρ σ,J ρ σ→J' ρ σ):Sm X fe n t ρ σ (q.lp J') R:=
 x.mono (fun ρ σ P fl z=>by
  cases z with
  | nx z=>exact .nx (h _ _ z)
  | rt v z=>exact .rt v z
  | br z=>exact .br z
  | ct z=>exact .ct (h _ _ z)) id
theorem ForI.mono {b:LV→Store→QK→Prop} {bs:List Stmt} {t:TG} (h:∀ ρ σ q,b ρ σ q→Ex X fe n bs ρ σ q R) {q:QK}:∀ {xs:List V} {ρ:LV} {σ:Store},ForI b t q xs ρ σ→ForI (fun ρ σ q=>Ex X fe n bs ρ σ q R) t q xs ρ σ
 | [],_,_,z=>z
 | x::xs,ρ,σ,z=>asgT_mono (fun ρ' z=>Sm.lp (h _ _ _ z) fun _ _ z=>ForI.mono h z) z
theorem ForI.thn {bs:List Stmt} {t:TG} {q:QK} {K K':LV→Store→Prop} (h:∀ ρ σ,K ρ σ→K' ρ σ):∀ {xs:List V} {ρ:LV} {σ:Store},ForI (fun ρ σ q=>Ex X fe n bs ρ σ q R) t (q.thn K) xs ρ σ→ForI (fun ρ σ q=>Ex X fe n bs ρ σ q R) t (q.thn K') xs ρ σ
 | [],_,_,z=>h _ _ z
 | x::xs,ρ,σ,z=>asgT_mono (fun ρ' z=>Sm.mono z (fun ρ σ P fl z=>by
  cases z with
  | nx z=>exact .nx (ForI.thn h z)
  | rt v z=>exact .rt v z
  | br z=>exact .br (h _ _ z)
  | ct z=>exact .ct (ForI.thn h z)) id) z
theorem nthK_mono {K K':V→Prop} (k:∀ y,K y→K' y):∀ {vs:List V} {i:Nat},nthK vs i K→nthK vs i K'
 | [],_,h=>h.elim
 | _::_,0,h=>k _ h
 | _::r,_+1,h=>nthK_mono (vs:=r) k h
theorem Src.weak {y:V} {xs:List V} {te:Expr} (h:Src X True te y xs):Src X False te y xs:=fun outer A A₁ g L m I H σ s E v Q hh hB D hv k=>
 h outer A A₁ g L m I H σ s E v Q hh hB D hv fun it SI K o s' i=>k it SI K o s' ⟨i.mono,fun f=>f.elim,i.item,i.done⟩
theorem sources {y:V} {F:List V→Prop} {te:Expr} (h:FoE F y):SrE X False te y F:=by
 cases h with
 | tup h=>exact ⟨src_tup,h⟩
 | ro h=>exact ⟨src_ro.weak,h⟩
 | str h=>exact ⟨src_str,h⟩
 | rng k h=>exact ⟨(src_rng k).weak,h⟩
 | rd h=>exact ⟨src_rd,h⟩
theorem ex_sett {ρ:LV} {σ:Store} {o i e:Expr} {pa pos:Pos} {Q:QK} (hp:PlV e)
  (h:Ev X fe.ic n e ρ σ (fun z σ₁=>Ev X fe.ic n o ρ σ₁ (fun y σ₂=>Ev X fe.ic n i ρ σ₂ (fun k σ₃=>SiT σ₃ (fun σ₄=>Q.nx ρ σ₄) z y k) R) R) R):Ex1 X fe n (.Assign [.Subscript o i pa] e pos) ρ σ Q R:=
 fun outer A g L m I H s E a b c p d=>wpAny_Assign_Subscript (hs:=hp _ _ _) (h.sm a b c d fun w s₁ I₁ σ₁ z hI D c₁ hw hq=>
  Tr.sm hq a D c₁ d fun v s₂ I₂ σ₂ y hI₂ D₂ c₂ hv hq=>Tr.sm hq a D₂ c₂ d fun u s₃ I₃ σ₃ k hI₃ D₃ c₃ hu q=>by
   obtain ⟨up,hn,hl,q⟩:=q
   obtain ⟨A₁,hB⟩:=a.B
   exact D₃.setT hB (Nat.lt_of_le_of_lt (Nat.le_add_right (A.units+1) 64) a.u90) up hn hl (hv.mono (imm_mono hI₃)) hu (hw.mono (imm_mono fun _ z=>hI₃ (hI₂ z))) fun s₄ D₄=>⟨I₃,_,m,ρ,fun _ z=>hI₃ (hI₂ (hI z)),D₄,c₃,.nx q⟩)
theorem EV.xName {e:Expr} {f:Str→Bool} (h:(view e).onName f=true):∃ x p,e=.Name x p∧f x=true:=EV.iName (m:=fun z=>∃ x p,z=.Name x p∧f x=true) h fun x p h=>⟨x,p,rfl,h⟩
theorem soundS (hX:ExcC X fI) (ok:c.OK X n R) (fk:fe.ok=true):∀ (s:IS) {ss:List Stmt},chkS X fe s ss=true→∀ {ρ σ q},wS c s ρ σ q→Ex X fe n ss ρ σ q R
 | .done,ss,h,ρ,σ,q,z=>by
  cases ss with
  | nil=>exact ex_nil z
  | cons _ _=>cases h
 | .pass k,ss,h,ρ,σ,q,z=>by
  refine tail1_i h fun s r h=>?_
  have h:=band h
  refine SV.iPass h.1 fun p=>?_
  exact ex_cons (ex_pass (soundS hX ok fk k h.2 z))
 | .cont,ss,h,ρ,σ,q,z=>by
  refine one_i h fun s h=>?_
  refine SV.iCont h fun p=>?_
  exact ex_cons (ex_cont z)
 | .ret e,ss,h,ρ,σ,q,z=>by
  refine one_i h fun s h=>?_
  refine SV.iRet h fun a p h=>?_
  exact ex_cons (ex_ret ((sound hX ok e fe.ic).v a h z))
 | .ret0,ss,h,ρ,σ,q,z=>by
  refine one_i h fun s h=>?_
  refine SV.iRet0 h fun p=>?_
  exact ex_cons (ex_ret0 z)
 | .bad,ss,h,ρ,σ,q,z=>z.elim
 | .raise e,ss,h,ρ,σ,q,z=>by
  refine one_i h fun s h=>?_
  refine SV.iRaise h fun a p h=>?_
  exact ex_cons (ex_raise hX (((sound hX ok e fe.ic).v a h z).mono (fun _ _ ⟨a,b,r⟩=>⟨a,b,ok.R r⟩) id))
 | .expr e k,ss,h,ρ,σ,q,z=>by
  have h0:=band h
  clear h
  refine tail1_i h0.2 fun s r h=>?_
  have h:=band h
  refine SV.iExpr h.1 fun a p h1=>?_
  have ie:=sound hX ok e fe.ic
  exact ex_cons (ex_expr ((ie.pl a h1).V (bne' h0.1)) ((ie.v a h1 z).mono (fun _ _ z=>soundS hX ok fk k h.2 z) id))
 | .asg i e k,ss,h,ρ,σ,q,z=>by
  have h0:=band h
  clear h
  refine tail1_i h0.2 fun s r h=>?_
  have h:=band h
  refine SV.iAsg h.1 fun t v p h1=>?_
  have h1:=band h1
  refine EV.iName h1.1 fun x px h2=>?_
  have ie:=sound hX ok e fe.ic
  exact ex_cons (ex_assign (nmB_eq h2) ((ie.pl v h1.2).V (bne' h0.1)) ((ie.v v h1.2 z).mono (fun _ _ z=>LV.set_mono (fun _ z=>soundS hX ok fk k h.2 z) z) id))
 | .asgT is e k,ss,h,ρ,σ,q,z=>by
  have h0:=band h
  clear h
  refine tail1_i h0.2 fun s r h=>?_
  have h:=band h
  refine SV.iAsg h.1 fun t v p h1=>?_
  have h1:=band h1
  have h2:=band h1.1
  refine EV.iTup h2.1 fun es kk px h3=>?_
  have ie:=sound hX ok e fe.ic
  exact ex_cons (ex_unpack (fun L=>⟨(by rw [swapsWithSole];exact (ie.pl v h1.2).V (bne' h0.1) _ _ _),ie.un v h1.2 (bne' h2.2) _ _ _ _⟩) (tgsB_ok h3) ((ie.v v h1.2 z).mono (fun _ _ z=>asgT_mono (fun _ z=>soundS hX ok fk k h.2 z) z) id))
 | .swp i j a b k,ss,h,ρ,σ,q,z=>by
  refine tail1_i h fun s r h=>?_
  have h:=band h
  refine SV.iAsg h.1 fun t v p h1=>?_
  refine EV.iTup h1 fun ts kk pt h2=>?_
  refine two_i h2 fun x y h3=>?_
  obtain ⟨x',px,rfl,h4⟩:=EV.xName h3
  have h4:=band h4
  obtain ⟨y',py,rfl,h5⟩:=EV.xName h4.2
  have h5:=band h5
  refine EV.iTup h5.2 fun vs kk' pv h6=>?_
  refine two_i h6 fun d e h7=>?_
  have h7:=band h7
  have h8:=band h7.1
  have ia:=sound hX ok a fe.ic
  have ib:=sound hX ok b fe.ic
  have lx:=nmB_eq h4.1
  have ly:=nmB_eq h5.1
  exact ex_cons (ex_swap2 lx ly (ia.pl d h8.2).A (ib.pl e h7.2).A (fun L=>⟨rfl,swp_ok (env:=fe.env L) (by show (if fe.scope.kind.isAnnotationScope=true then _ else _)=_;rw [FE.kind fk];rfl) (FE.lcl fk lx).1 (FE.lcl fk ly).1 h8.1 _ _ _ _⟩)
   ((ia.v d h8.2 z).mono (fun _ _ z=>(ib.v e h7.2 z).mono (fun _ _ z=>LV.set_mono (fun _ z=>LV.set_mono (fun _ z=>soundS hX ok fk k h.2 z) z) z) id) id))
 | .seta C f o e k,ss,h,ρ,σ,q,z=>by
  have h0:=band h
  clear h
  refine tail1_i h0.2 fun s r h=>?_
  have h:=band h
  refine SV.iAsg h.1 fun t v p h1=>?_
  refine EV.iAttr h1 fun b x px h2=>?_
  have h2:=band h2
  have h3:=band h2.1
  have ie:=sound hX ok e fe.ic
  exact ex_cons (ex_setattr h3.1 ((ie.pl v h2.2).V (bne' h0.1)) ((ie.v v h2.2 z).mono (fun _ _ z=>((sound hX ok o fe.ic).v b h3.2 z).mono (fun _ _ ⟨a,b,c,d,z⟩=>⟨a,b,c,d,soundS hX ok fk k h.2 z⟩) id) id))
 | .setx f o e k,ss,h,ρ,σ,q,z=>by
  have h0:=band h
  clear h
  refine tail1_i h0.2 fun s r h=>?_
  have h:=band h
  refine SV.iAsg h.1 fun t v p h1=>?_
  refine EV.iAttr h1 fun b x px h2=>?_
  have h2:=band h2
  have h3:=band h2.1
  have ie:=sound hX ok e fe.ic
  exact ex_cons (ex_setexc h3.1 ((ie.pl v h2.2).V (bne' h0.1)) ((ie.v v h2.2 z).mono (fun _ _ z=>((sound hX ok o fe.ic).v b h3.2 z).mono (fun _ _ z=>by
   cases z with
   | zero a b c z=>exact .zero a b c (soundS hX ok fk k h.2 z)
   | succ a b c z=>exact .succ a b c (soundS hX ok fk k h.2 z)) id) id))
 | .seti o i e k,ss,h,ρ,σ,q,z=>by
  have h0:=band h
  clear h
  refine tail1_i h0.2 fun s r h=>?_
  have h:=band h
  refine SV.iAsg h.1 fun t v p h1=>?_
  refine EV.iSub h1 fun b x px h2=>?_
  have h2:=band h2
  have h3:=band h2.1
  have ie:=sound hX ok e fe.ic
  exact ex_cons (ex_setitem ((ie.pl v h2.2).V (bne' h0.1)) ((ie.v v h2.2 z).mono (fun _ _ z=>((sound hX ok o fe.ic).v b h3.1 z).mono (fun _ _ z=>((sound hX ok i fe.ic).v x h3.2 z).mono (fun _ _ u=>by
   cases u with
   | list a b c w=>exact .list a b c (soundS hX ok fk k h.2 w)
   | dict a b w=>exact .dict a b (soundS hX ok fk k h.2 w)) id) id) id))
 | .sett o i e k,ss,h,ρ,σ,q,z=>by
  have h0:=band h
  clear h
  refine tail1_i h0.2 fun s r h=>?_
  have h:=band h
  refine SV.iAsg h.1 fun t v p h1=>?_
  refine EV.iSub h1 fun b x px h2=>?_
  have h2:=band h2
  have h3:=band h2.1
  have ie:=sound hX ok e fe.ic
  exact ex_cons (ex_sett ((ie.pl v h2.2).V (bne' h0.1)) ((ie.v v h2.2 z).mono (fun _ _ z=>((sound hX ok o fe.ic).v b h3.1 z).mono (fun _ _ z=>((sound hX ok i fe.ic).v x h3.2 z).mono (fun _ _ u=>by
   cases u with
   | mk a b c w=>exact .mk a b c (soundS hX ok fk k h.2 w)) id) id) id))
 | .auga C f o e k,ss,h,ρ,σ,q,z=>by
  refine tail1_i h fun s r h=>?_
  have h:=band h
  refine SV.iAug h.1 fun t op v p h1=>?_
  have h1:=band h1
  obtain rfl:=eq_of_beq h1.1
  refine EV.iAttr h1.2 fun b x px h2=>?_
  have h2:=band h2
  have h3:=band h2.1
  have h4:=band h3.1
  exact ex_cons (ex_augattr h4.1 h4.2 (((sound hX ok o fe.ic).v b h3.2 z).mono (fun _ _ ⟨i,z⟩=>⟨i,nthK_mono (fun _ z=>((sound hX ok e fe.ic).v v h2.2 z).mono (fun _ _ z=>augW_ok (fun _ ⟨a,b,c,d,z⟩=>⟨a,b,c,d,soundS hX ok fk k h.2 z⟩) z) id) z⟩) id))
 | .aug i e k,ss,h,ρ,σ,q,z=>by
  refine tail1_i h fun s r h=>?_
  have h:=band h
  refine SV.iAug h.1 fun t op v p h1=>?_
  have h1:=band h1
  have h2:=band h1.1
  obtain rfl:=eq_of_beq h2.1
  refine EV.iName h2.2 fun x px h3=>?_
  replace z:locW _ (ρ.at i):=z
  cases w:ρ.at i with
  | none=>rw [w] at z;exact z.elim
  | some y=>
   rw [w] at z
   exact ex_cons (ex_aug (nmB_eq h3) w (((sound hX ok e fe.ic).v v h1.2 z).mono (fun _ _ z=>augW_ok (fun _ z=>LV.set_mono (fun _ z=>soundS hX ok fk k h.2 z) z) z) id))
 | .iff t a b k,ss,h,ρ,σ,q,z=>by
  refine tail1_i h fun s r h=>?_
  have h:=band h
  refine SV.iIff h.1 fun t' a' b' p h1=>?_
  have h1:=band h1
  have h2:=band h1.1
  refine ex_cons (ex_if (((sound hX ok t fe.ic).t t' h2.1 z).mono (fun d σ₁ z=>?_) id))
  have z:=IfE.go z
  have e:∀ {s ss},(∀ {ρ σ q},wS c s ρ σ q→Ex X fe n ss ρ σ q R)→wS c s ρ σ₁ (q.thn fun ρ₂ σ₂=>wS c k ρ₂ σ₂ q)→Ex X fe n ss ρ σ₁ (q.thn fun ρ₂ σ₂=>Ex X fe n r ρ₂ σ₂ q R) R:=fun f z=>(f z).mono (fun _ _ _ _ z=>by
   cases z with
   | nx z=>exact .nx (soundS hX ok fk k h.2 z)
   | rt v z=>exact .rt v z
   | br z=>exact .br z
   | ct z=>exact .ct z) id
  cases d with
  | true=>exact e (soundS hX ok fk a h2.2) z
  | false=>exact e (soundS hX ok fk b h1.2) z
 | .whl t b k,ss,h,ρ,σ,q,z=>by
  refine tail1_i h fun s r h=>?_
  have h:=band h
  refine SV.iWhl h.1 fun t' b' p h1=>?_
  have h1:=band h1
  obtain ⟨z⟩:=z
  refine ex_cons (ex_while (z (fun ρ σ=>WhJ X fe n t' b' ρ σ (q.thn fun ρ₂ σ₂=>Ex X fe n r ρ₂ σ₂ q R) R) fun ρ σ z=>wh_step (((sound hX ok t fe.ic).t t' h1.1 z).mono (fun d σ₁ z=>?_) id)))
  have z:=IfE.go z
  cases d with
  | true=>exact (soundS hX ok fk b h1.2 z).mono (fun _ _ _ _ z=>by
    cases z with
    | nx z=>exact .nx z
    | rt v z=>exact .rt v z
    | br z=>exact .br (soundS hX ok fk k h.2 z)
    | ct z=>exact .ct z) id
  | false=>exact soundS hX ok fk k h.2 z
 | .for_ t e b k,ss,h,ρ,σ,q,z=>by
  refine tail1_i h fun s r h=>?_
  have h:=band h
  refine SV.iFor h.1 fun t' e' b' p h1=>?_
  have h1:=band h1
  have h2:=band h1.1
  have ie:=sound hX ok e fe.ic
  refine ex_cons (ex_for (sf:=False) (tgB_ok h2.1) (fun L x=>(ie.pl e' h2.2).I _ x) ((ie.v e' h2.2 z).mono (fun y σ₁ z=>?_) id))
  obtain ⟨a,z⟩:=sources z
  exact ⟨a,ForI.thn (fun _ _ z=>soundS hX ok fk k h.2 z) (ForI.mono (fun _ _ _ z=>soundS hX ok fk b h1.2 z) z)⟩
end
structure FD where
 a:Addr
 ls:List Str
 na:Nat
 dy:List V
 ir:IS
noncomputable def cok (X:Cx) (n:Nat) (R:Prop):CP:=⟨fun f ys σ K=>CallOK X n (.ref f) ys σ K R,fun f=>keepIn X.K (.ref f)=true,R⟩
theorem cok_ok {X:Cx} {n:Nat} {R:Prop}:(cok X n R).OK X n R:=⟨fun _ _ _ _ h=>h,fun _ h=>h,id,id⟩
noncomputable def dvB:List Value→List V→Bool
 | [],[]=>true
 | .none::vs,.none::ys=>dvB vs ys
 | .int i _::vs,.int j::ys=>i==j&&dvB vs ys
 | _,_=>false
theorem dvB_ok {X:Cx} {P:Imm}:∀ {vs:List Value} {ys:List V},dvB vs ys=true→VRs X P vs ys
 | [],[],_=>.i_nil
 | v::vs,y::ys,h=>by
  cases v with
  | none=>cases y<;>first | exact .i_cons .i_none (dvB_ok h) | exact absurd h Bool.false_ne_true
  | int i t=>
   cases y<;>first | exact absurd h Bool.false_ne_true | skip
   have h:=band h
   obtain rfl:=eq_of_beq h.1
   exact .i_cons .i_int (dvB_ok h.2)
  | _=>exact absurd h Bool.false_ne_true
 | [],_::_,h=>absurd h Bool.false_ne_true
 | v::_,[],h=>by cases v<;>exact absurd h Bool.false_ne_true
noncomputable def dfl (K:Frag) (f:FuncData) (k:Nat):List Value:=match f.defaults with
 | .ref d=>match K.lookup d with
  | some ⟨_,_,.seq items _,_⟩=>items.toList.drop (items.toList.length - k)
  | _=>[]
 | _=>[]
noncomputable def fdB (X:Cx) (F:FD):Option Obj→Bool
 | some ⟨_,_,.func f,_⟩=>match f.body with
  | .stmts b=>Nat.beq f.globals mainGlobals&&f.closure.isEmpty&&Nat.beq f.builtins 0&&codeIn X.K f.code f.qualname&&noCells f.scope&&(FE.mk f.qualname f.scope F.a f.code F.ls [] []).ok&&(F.ls.take F.na).all (fun x=>f.scope.names.lookup x==some .local)&&dvB (dfl X.K f F.dy.length) F.dy&&chkS X (FE.mk f.qualname f.scope F.a f.code F.ls [] []) F.ir b&&Nat.ble F.na F.ls.length
  | _=>false
 | _=>false
noncomputable def bndS (X:Cx) (F:FD) (ws:List Value) (S:Setting):Option Obj→Bool×Option (List (Str×Value))
 | some ⟨_,_,.func f,_⟩=>(true,peek X.K S (bindArgs f ⟨ws,[]⟩))
 | _=>(false,none)
noncomputable def bndT (X:Cx) (F:FD) (ws:List Value):Option Obj→List (Str×Value)
 | some ⟨_,_,.func f,_⟩=>(F.ls.take F.na).zip (ws++dfl X.K f F.dy.length)
 | _=>[]
def allV:Nat→(List Value→Prop)→Prop
 | 0,p=>p []
 | k+1,p=>∀ v,allV k fun vs=>p (v::vs)
theorem allV.go:∀ {k:Nat} {p:List Value→Prop},allV k p→∀ ws:List Value,ws.length=k→p ws
 | 0,_,h,[],_=>h
 | k+1,_,h,w::ws,e=>allV.go (k:=k) (h w) ws (Nat.succ.inj e)
 | 0,_,_,_::_,e=>nomatch e
 | _+1,_,_,[],e=>nomatch e
structure FOK (X:Cx) (F:FD):Prop where
 go:∀ {n:Nat} {ys:List V} {σ:Store} {Q:VK} {R:Prop},ys.length+F.dy.length=F.na→wS (cok X n R) F.ir (LV.ofs (ys++F.dy) (F.ls.length - F.na)) σ (retK Q)→CallOK X (n+1) (.ref F.a) ys σ Q R
theorem fok {X:Cx} {F:FD} {fI:Addr} (hX:ExcC X fI) (h:fdB X F (X.K.lookup F.a)=true) (hb:allV (F.na - F.dy.length) fun ws=>∀ S,bndS X F ws S (X.K.lookup F.a)=(true,some (bndT X F ws (X.K.lookup F.a)))):FOK X F:=by
 constructor
 intro n ys σ Q R hl hw
 cases e:X.K.lookup F.a with
 | none=>rw [e] at h;exact absurd h Bool.false_ne_true
 | some o=>
  rw [e] at h hb
  obtain ⟨oc,od,data,osl⟩:=o
  cases data with
  | func f=>
   obtain ⟨nm,q,ps,body,sc,gl,cl,dV,kV,doc,pm,an,cd,ct,bt⟩:=f
   cases body with
   | stmts b=>
    have h:=band h
    have h1:=band h.1
    have h2:=band h1.1
    have h3:=band h2.1
    have h4:=band h3.1
    have h5:=band h4.1
    have h6:=band h5.1
    have h7:=band h6.1
    have h8:=band h7.1
    obtain rfl:=Nat.eq_of_beq_eq_true h8.1
    obtain rfl:=Nat.eq_of_beq_eq_true h7.2
    obtain rfl:=List.isEmpty_iff.mp h8.2
    have hk:F.na≤F.ls.length:=lbt h.2
    have hv:=dvB_ok (X:=X) (P:=X.imm []) h2.2
    refine callF (fe:=FE.mk q sc F.a cd F.ls [] []) (dV:=dV) (kV:=kV) (dv:=dfl X.K _ F.dy.length) (dy:=F.dy) (names:=F.ls.take F.na) (us:=F.ls.drop F.na) e ?_ rfl (fun s ws hs hlen=>kp_binds hs fun S=>congrArg Prod.snd (hb.go ws (by rw [hlen,← hl,Nat.add_sub_cancel]) S)) hv ?_ (List.take_append_drop _ _).symm (soundS hX cok_ok h4.2 F.ir h1.2 hw)
    ·show (codeIn X.K cd q&&noCells sc&&_&&_)=true
     rw [h6.2,h5.2,show (FE.mk q sc F.a cd F.ls [] []).ok=true from h4.2,h3.2];rfl
    ·rw [List.length_take,Nat.min_eq_left hk,List.length_append,hl]
   | _=>exact absurd h Bool.false_ne_true
  | _=>exact absurd h Bool.false_ne_true
noncomputable abbrev LV.s (v:V) (r:LV):LV:=.o (some v) r
section
variable {F:Bool→Prop} {p:Prop} [Decidable p]
theorem ifd (h:p→F true) (k:¬p→F false):IfE F (decide p):=⟨if q:p then (decide_eq_true q).symm▸h q else (decide_eq_false q).symm▸k q⟩
theorem ifT (q:p) (h:F true):IfE F (decide p):=⟨(decide_eq_true q).symm▸h⟩
theorem ifF (q:¬p) (h:F false):IfE F (decide p):=⟨(decide_eq_false q).symm▸h⟩
theorem ifb {b:Bool} (h:b=true→F true) (k:b=false→F false):IfE F b:=⟨by cases b;exact k rfl;exact h rfl⟩
theorem ifn {b:Bool} (h:b=false→F true) (k:b=true→F false):IfE F !b:=⟨by cases b;exact h rfl;exact k rfl⟩
theorem ifBT {b:Bool} (q:b=true) (h:F true):IfE F b:=⟨q.symm▸h⟩
theorem ifBF {b:Bool} (q:b=false) (h:F false):IfE F b:=⟨q.symm▸h⟩
theorem ifNT {b:Bool} (q:b=false) (h:F true):IfE F !b:=⟨q.symm▸h⟩
theorem ifNF {b:Bool} (q:b=true) (h:F false):IfE F !b:=⟨q.symm▸h⟩
theorem ife {α:Type} [BEq α] [LawfulBEq α] {i j:α} (h:i=j→F true) (k:i≠j→F false):IfE F (i==j):=ifb (fun q=>h (eq_of_beq q)) fun q=>k (ne_of_beq_false q)
theorem ifeT {α:Type} [BEq α] [LawfulBEq α] {i j:α} (q:i=j) (h:F true):IfE F (i==j):=ifBT (beq_iff_eq.mpr q) h
theorem ifeF {α:Type} [BEq α] [LawfulBEq α] {i j:α} (q:i≠j) (h:F false):IfE F (i==j):=ifBF (beq_false_of_ne q) h
end
theorem ifg {α:Type} {F:Bool→Prop} {P:α→Prop} {b:Bool} {x y:α} (h:P (cond b x y)) (ht:P x→F true) (hf:P y→F false):IfE F b:=⟨by cases b;exact hf h;exact ht h⟩
theorem ifog {α:Type} {F:Bool→Prop} {P:α→Prop} {a b:Bool} {x y:α} (h:P (cond (a||b) x y)) (ht:P x→F true) (hf:P (cond b x y)→F false):IfE F a:=⟨by cases a;exact hf h;exact ht h⟩
theorem qi {Q:VK} {σ:Store} {i j:Int} (e:i=j) (h:Q (.int j) σ):Q (.int i) σ:=e▸h
theorem ifq {F:Bool→Prop} {Q:VK} {σ:Store} {b x y:Bool} (h:Q (.bool (cond b x y)) σ) (ht:Q (.bool x) σ→F true) (hf:Q (.bool y) σ→F false):IfE F b:=⟨by cases b;exact hf h;exact ht h⟩
theorem ifo {F:Bool→Prop} {Q:VK} {σ:Store} {b x:Bool} (h:Q (.bool (b||x)) σ) (ht:Q (.bool b) σ→F true) (hf:Q (.bool x) σ→F false):IfE F b:=⟨by cases b;exact hf h;exact ht h⟩
theorem ifa {F:Bool→Prop} {Q:VK} {σ:Store} {b x:Bool} (h:Q (.bool (b&&x)) σ) (ht:Q (.bool x) σ→F true) (hf:Q (.bool b) σ→F false):IfE F b:=⟨by cases b;exact hf h;exact ht h⟩
theorem ifnq {F:Bool→Prop} {Q:VK} {σ:Store} {b x y:Bool} (h:Q (.bool (cond b x y)) σ) (ht:Q (.bool y) σ→F true) (hf:Q (.bool x) σ→F false):IfE F (!b):=⟨by cases b;exact ht h;exact hf h⟩
noncomputable def btw (l a z:List Nat):Bool:=cond (leL a l) (leL l z) false
theorem ifb2 {F:Bool→Prop} {K:VK} {σ:Store} {l a z:List Nat} (h:K (.bool (btw l a z)) σ) (ht:K (.bool (leL l z)) σ→F true) (hf:K (.bool false) σ→F false):IfE F (leL a l):=ifq h ht hf
theorem fo_map {α ι:Type} {f:α→V} {b:LV→Store→QK→Prop} {t:TG} {q:QK} {P:List α→Store→Prop} {ρf:ι→LV} (h0:∀ i σ,P [] σ→q.nx (ρf i) σ)
  (h1:∀ a as i σ,P (a::as) σ→(∀ i σ,P as σ→ForI b t q (as.map f) (ρf i) σ)→asgT (fun ρ'=>b ρ' σ (q.lp (ForI b t q (as.map f)))) (ρf i) t (f a)):∀ {as:List α} {i:ι} {σ:Store},P as σ→ForI b t q (as.map f) (ρf i) σ
 | [],i,σ,h=>h0 i σ h
 | a::as,i,σ,h=>h1 a as i σ h fun _ _ h=>fo_map h0 h1 h
noncomputable def IS.lb:IS→IS
 | .for_ _ _ b _=>b | .whl _ b _=>b | .asg _ _ k=>k.lb | .swp _ _ _ _ k=>k.lb | .expr _ k=>k.lb | .iff _ _ _ k=>k.lb | s=>s
noncomputable def IS.nx:IS→IS
 | .asg _ _ k=>k | .asgT _ _ k=>k | .swp _ _ _ _ k=>k | .expr _ k=>k | .iff _ _ _ k=>k | .seta _ _ _ _ k=>k | s=>s
noncomputable def IS.lk:IS→IS
 | .for_ _ _ _ k=>k | .whl _ _ k=>k | .asg _ _ k=>k.lk | .swp _ _ _ _ k=>k.lk | .expr _ k=>k.lk | .iff _ _ _ k=>k.lk | s=>s
end Mine
end
section
namespace Mine.Top
noncomputable section
abbrev pr:Program:=PySem.Challenge.pw_nu0079_01
def nthS:Nat→List Stmt→Stmt
 | _,[]=>.Pass ⟨0,0,0,0⟩
 | 0,s::_=>s
 | n+1,_::r=>nthS n r
def clsB:Stmt→List Stmt
 | .ClassDef _ _ _ b _ _ _ _ _ _ _=>b
 | _=>[]
def S (i:Nat):Stmt:=nthS i pr.main.body
def M (i j:Nat):Stmt:=nthS j (clsB (S i))
def fA:Stmt→Arguments
 | .FunctionDef _ a _ _ _ _ _ _ _ _=>a
 | _=>⟨[],[],none,[],[],none,[]⟩
def fB:Stmt→List Stmt
 | .FunctionDef _ _ b _ _ _ _ _ _ _=>b
 | _=>[]
def fS:Stmt→Scope
 | .FunctionDef _ _ _ _ _ _ s _ _ _=>s
 | _=>⟨.function,[],false,false,[]⟩
def ev:List Obj→List Obj
 | []=>[]
 | [a]=>[a]
 | a::_::r=>a::ev r
def od:List Obj→List Obj
 | []=>[]
 | [_]=>[]
 | _::b::r=>b::od r
def mkT:Nat→List Obj→BT
 | 0,_=>.nil
 | _+1,[]=>.nil
 | n+1,o::r=>.node o (mkT n (ev r)) (mkT n (od r))
noncomputable def ob (o:Obj):Obj:=o
noncomputable def y (l:List Nat):Str:=⟨l.toArray⟩
noncomputable def zz:Obj:=⟨.none,none,.fields #[],#[]⟩
noncomputable def ee:Obj:=⟨.type "tuple",none,.seq #[] 0,#[]⟩
noncomputable def cO (a:Str) (b:Nat) (c:Str) (d:Nat) (e:Str) (f:Nat) (g h i j k:Int) (l:Addr) (m:Bool) (n:Int) (o:Addr) (p q r s:Value) (t u:Int) (v:Str) (w:Nat):Obj:=⟨.type "code",none,.fields #[.str a b,.str c d,.str e f,.int g 0,.int h 0,.int i 0,.int j 0,.int k 0,.ref l,.bool m,.int n 0,.ref o,p,q,r,s,.int t 0,.int u 0,.str v w],#[]⟩
noncomputable def fO (a b:Str) (s:Stmt) (n:Nat) (c d e f:Value) (g:Option Addr) (h i:Value):Obj:=⟨.type "function",none,.func ⟨a,b,fA s,.stmts (fB s),fS s,n,[],c,d,e,f,g,h,i,0⟩,#[]⟩
noncomputable def gO (a b:Str) (s:Stmt):Obj:=⟨.none,none,.func ⟨a,b,fA s,.stmts (fB s),fS s,0,[],.none,.none,.none,.none,none,.none,.none,0⟩,#[]⟩
noncomputable def uO (l:Array Value) (n:Nat):Obj:=⟨.type "tuple",none,.seq l n,#[]⟩
noncomputable def dO (l:Array DictEntry) (n:Nat):Obj:=⟨.type "dict",none,.dict l n,#[]⟩
noncomputable def kE (P:Params) (t:Str) (n:Nat) (v:Value):DictEntry:=⟨PyData.keyHash P t,.str t n,v⟩
def t0:=y [95,95,110,97,109,101,95,95]
def t1:=y [98,117,105,108,116,105,110,115]
def t2:=y [95,95,100,111,99,95,95]
def t3:=y [95,95,112,97,99,107,97,103,101,95,95]
def t4:=y [95,95,108,111,97,100,101,114,95,95]
def t5:=y [95,95,115,112,101,99,95,95]
def t6:=y [95,95,98,117,105,108,100,95,99,108,97,115,115,95,95]
def t7:=y [95,95,105,109,112,111,114,116,95,95]
def t8:=y [97,98,115]
def t9:=y [97,108,108]
def t10:=y [97,110,121]
def t11:=y [97,115,99,105,105]
def t12:=y [98,105,110]
def t13:=y [98,114,101,97,107,112,111,105,110,116]
def t14:=y [99,97,108,108,97,98,108,101]
def t15:=y [99,104,114]
def t16:=y [99,111,109,112,105,108,101]
def t17:=y [100,101,108,97,116,116,114]
def t18:=y [100,105,114]
def t19:=y [100,105,118,109,111,100]
def t20:=y [101,118,97,108]
def t21:=y [101,120,101,99]
def t22:=y [102,111,114,109,97,116]
def t23:=y [103,101,116,97,116,116,114]
def t24:=y [103,108,111,98,97,108,115]
def t25:=y [104,97,115,97,116,116,114]
def t26:=y [104,97,115,104]
def t27:=y [104,101,120]
def t28:=y [105,100]
def t29:=y [105,110,112,117,116]
def t30:=y [105,115,105,110,115,116,97,110,99,101]
def t31:=y [105,115,115,117,98,99,108,97,115,115]
def t32:=y [105,116,101,114]
def t33:=y [97,105,116,101,114]
def t34:=y [108,101,110]
def t35:=y [108,111,99,97,108,115]
def t36:=y [109,97,120]
def t37:=y [109,105,110]
def t38:=y [110,101,120,116]
def t39:=y [97,110,101,120,116]
def t40:=y [111,99,116]
def t41:=y [111,114,100]
def t42:=y [112,111,119]
def t43:=y [112,114,105,110,116]
def t44:=y [114,101,112,114]
def t45:=y [114,111,117,110,100]
def t46:=y [115,101,116,97,116,116,114]
def t47:=y [115,111,114,116,101,100]
def t48:=y [115,117,109]
def t49:=y [118,97,114,115]
def t50:=y [78,111,110,101]
def t51:=y [69,108,108,105,112,115,105,115]
def t52:=y [78,111,116,73,109,112,108,101,109,101,110,116,101,100]
def t53:=y [70,97,108,115,101]
def t54:=y [84,114,117,101]
def t55:=y [98,111,111,108]
def t56:=y [109,101,109,111,114,121,118,105,101,119]
def t57:=y [98,121,116,101,97,114,114,97,121]
def t58:=y [98,121,116,101,115]
def t59:=y [99,108,97,115,115,109,101,116,104,111,100]
def t60:=y [99,111,109,112,108,101,120]
def t61:=y [100,105,99,116]
def t62:=y [101,110,117,109,101,114,97,116,101]
def t63:=y [102,105,108,116,101,114]
def t64:=y [102,108,111,97,116]
def t65:=y [102,114,111,122,101,110,115,101,116]
def t66:=y [112,114,111,112,101,114,116,121]
def t67:=y [105,110,116]
def t68:=y [108,105,115,116]
def t69:=y [109,97,112]
def t70:=y [111,98,106,101,99,116]
def t71:=y [114,97,110,103,101]
def t72:=y [114,101,118,101,114,115,101,100]
def t73:=y [115,101,116]
def t74:=y [115,108,105,99,101]
def t75:=y [115,116,97,116,105,99,109,101,116,104,111,100]
def t76:=y [115,116,114]
def t77:=y [115,117,112,101,114]
def t78:=y [116,117,112,108,101]
def t79:=y [116,121,112,101]
def t80:=y [122,105,112]
def t81:=y [95,95,100,101,98,117,103,95,95]
def t82:=y [66,97,115,101,69,120,99,101,112,116,105,111,110]
def t83:=y [66,97,115,101,69,120,99,101,112,116,105,111,110,71,114,111,117,112]
def t84:=y [69,120,99,101,112,116,105,111,110]
def t85:=y [71,101,110,101,114,97,116,111,114,69,120,105,116]
def t86:=y [75,101,121,98,111,97,114,100,73,110,116,101,114,114,117,112,116]
def t87:=y [83,121,115,116,101,109,69,120,105,116]
def t88:=y [65,114,105,116,104,109,101,116,105,99,69,114,114,111,114]
def t89:=y [65,115,115,101,114,116,105,111,110,69,114,114,111,114]
def t90:=y [65,116,116,114,105,98,117,116,101,69,114,114,111,114]
def t91:=y [66,117,102,102,101,114,69,114,114,111,114]
def t92:=y [69,79,70,69,114,114,111,114]
def t93:=y [73,109,112,111,114,116,69,114,114,111,114]
def t94:=y [76,111,111,107,117,112,69,114,114,111,114]
def t95:=y [77,101,109,111,114,121,69,114,114,111,114]
def t96:=y [78,97,109,101,69,114,114,111,114]
def t97:=y [79,83,69,114,114,111,114]
def t98:=y [82,101,102,101,114,101,110,99,101,69,114,114,111,114]
def t99:=y [82,117,110,116,105,109,101,69,114,114,111,114]
def t100:=y [83,116,111,112,65,115,121,110,99,73,116,101,114,97,116,105,111,110]
def t101:=y [83,116,111,112,73,116,101,114,97,116,105,111,110]
def t102:=y [83,121,110,116,97,120,69,114,114,111,114]
def t103:=y [83,121,115,116,101,109,69,114,114,111,114]
def t104:=y [84,121,112,101,69,114,114,111,114]
def t105:=y [86,97,108,117,101,69,114,114,111,114]
def t106:=y [87,97,114,110,105,110,103]
def t107:=y [70,108,111,97,116,105,110,103,80,111,105,110,116,69,114,114,111,114]
def t108:=y [79,118,101,114,102,108,111,119,69,114,114,111,114]
def t109:=y [90,101,114,111,68,105,118,105,115,105,111,110,69,114,114,111,114]
def t110:=y [66,121,116,101,115,87,97,114,110,105,110,103]
def t111:=y [68,101,112,114,101,99,97,116,105,111,110,87,97,114,110,105,110,103]
def t112:=y [69,110,99,111,100,105,110,103,87,97,114,110,105,110,103]
def t113:=y [70,117,116,117,114,101,87,97,114,110,105,110,103]
def t114:=y [73,109,112,111,114,116,87,97,114,110,105,110,103]
def t115:=y [80,101,110,100,105,110,103,68,101,112,114,101,99,97,116,105,111,110,87,97,114,110,105,110,103]
def t116:=y [82,101,115,111,117,114,99,101,87,97,114,110,105,110,103]
def t117:=y [82,117,110,116,105,109,101,87,97,114,110,105,110,103]
def t118:=y [83,121,110,116,97,120,87,97,114,110,105,110,103]
def t119:=y [85,110,105,99,111,100,101,87,97,114,110,105,110,103]
def t120:=y [85,115,101,114,87,97,114,110,105,110,103]
def t121:=y [66,108,111,99,107,105,110,103,73,79,69,114,114,111,114]
def t122:=y [67,104,105,108,100,80,114,111,99,101,115,115,69,114,114,111,114]
def t123:=y [67,111,110,110,101,99,116,105,111,110,69,114,114,111,114]
def t124:=y [70,105,108,101,69,120,105,115,116,115,69,114,114,111,114]
def t125:=y [70,105,108,101,78,111,116,70,111,117,110,100,69,114,114,111,114]
def t126:=y [73,110,116,101,114,114,117,112,116,101,100,69,114,114,111,114]
def t127:=y [73,115,65,68,105,114,101,99,116,111,114,121,69,114,114,111,114]
def t128:=y [78,111,116,65,68,105,114,101,99,116,111,114,121,69,114,114,111,114]
def t129:=y [80,101,114,109,105,115,115,105,111,110,69,114,114,111,114]
def t130:=y [80,114,111,99,101,115,115,76,111,111,107,117,112,69,114,114,111,114]
def t131:=y [84,105,109,101,111,117,116,69,114,114,111,114]
def t132:=y [73,110,100,101,110,116,97,116,105,111,110,69,114,114,111,114]
def t133:=y [95,73,110,99,111,109,112,108,101,116,101,73,110,112,117,116,69,114,114,111,114]
def t134:=y [73,110,100,101,120,69,114,114,111,114]
def t135:=y [75,101,121,69,114,114,111,114]
def t136:=y [77,111,100,117,108,101,78,111,116,70,111,117,110,100,69,114,114,111,114]
def t137:=y [78,111,116,73,109,112,108,101,109,101,110,116,101,100,69,114,114,111,114]
def t138:=y [80,121,116,104,111,110,70,105,110,97,108,105,122,97,116,105,111,110,69,114,114,111,114]
def t139:=y [82,101,99,117,114,115,105,111,110,69,114,114,111,114]
def t140:=y [85,110,98,111,117,110,100,76,111,99,97,108,69,114,114,111,114]
def t141:=y [85,110,105,99,111,100,101,69,114,114,111,114]
def t142:=y [66,114,111,107,101,110,80,105,112,101,69,114,114,111,114]
def t143:=y [67,111,110,110,101,99,116,105,111,110,65,98,111,114,116,101,100,69,114,114,111,114]
def t144:=y [67,111,110,110,101,99,116,105,111,110,82,101,102,117,115,101,100,69,114,114,111,114]
def t145:=y [67,111,110,110,101,99,116,105,111,110,82,101,115,101,116,69,114,114,111,114]
def t146:=y [84,97,98,69,114,114,111,114]
def t147:=y [85,110,105,99,111,100,101,68,101,99,111,100,101,69,114,114,111,114]
def t148:=y [85,110,105,99,111,100,101,69,110,99,111,100,101,69,114,114,111,114]
def t149:=y [85,110,105,99,111,100,101,84,114,97,110,115,108,97,116,101,69,114,114,111,114]
def t150:=y [69,120,99,101,112,116,105,111,110,71,114,111,117,112]
def t151:=y [69,110,118,105,114,111,110,109,101,110,116,69,114,114,111,114]
def t152:=y [73,79,69,114,114,111,114]
def t153:=y [111,112,101,110]
def t154:=y [113,117,105,116]
def t155:=y [101,120,105,116]
def t156:=y [99,111,112,121,114,105,103,104,116]
def t157:=y [99,114,101,100,105,116,115]
def t158:=y [108,105,99,101,110,115,101]
def t159:=y [104,101,108,112]
def t160:=y [95,95,109,97,105,110,95,95]
def t161:=y [95,95,97,110,110,111,116,97,116,105,111,110,115,95,95]
def t162:=y [95,95,98,117,105,108,116,105,110,115,95,95]
def t163:=y [95,95,102,105,108,101,95,95]
def t164:=y [47,99,108,97,105,109,47,99,117,116,46,112,121]
def t165:=y [95,95,99,97,99,104,101,100,95,95]
def t166:=y [60,109,111,100,117,108,101,62]
def t167:=y [109,97,114,107,117,112,109,105,108,108,46,99,104,97,114,115]
def t168:=y [95,119,97,108,108]
def t169:=y [83,80,65,67,69,83,95,99,104,97,114,115]
def t170:=y [32,9,10,13]
def t171:=y [67,72,65,82,95,82,65,78,71,69,83]
def t172:=y [83,84,65,82,84,95,82,65,78,71,69,83]
def t173:=y [77,79,82,69,95,82,65,78,71,69,83]
def t174:=y [70,73,82,83,84,95,66,69,89,79,78,68]
def t175:=y [105,115,95,105,110,95,114,97,110,103,101,115]
def t176:=y [105,115,95,115,112,97,99,101]
def t177:=y [105,115,95,99,104,97,114]
def t178:=y [105,115,95,115,109,97,108,108,95,108,101,116,116,101,114]
def t179:=y [105,115,95,110,97,109,101,95,115,116,97,114,116]
def t180:=y [105,115,95,110,97,109,101,95,99,104,97,114]
def t181:=y [105,115,95,110,109,116,111,107,101,110]
def t182:=y [105,115,95,110,97,109,101]
def t183:=y [107]
def t184:=y [99,111,100,101]
def t185:=y [114,97,110,103,101,115]
def t186:=y [108,111,119]
def t187:=y [104,105,103,104]
def t188:=y [115,105,103,110]
def t189:=y [116,101,120,116]
def t190:=y [109,97,114,107,117,112,109,105,108,108,46,101,114,114,111,114,115]
def t191:=y [115,112,97,99,101,95,115,112,108,105,116]
def t192:=y [99,111,108,108,97,112,115,101,100]
def t193:=y [65,116,116,114,105,98,117,116,101,82,117,108,101]
def t194:=y [110,111,114,109,97,108,105,115,101,100]
def t195:=y [102,111,117,110,100]
def t196:=y [98,101,103,105,110]
def t197:=y [112,108,97,99,101]
def t198:=y [95,95,109,111,100,117,108,101,95,95]
def t199:=y [109,97,114,107,117,112,109,105,108,108,46,97,116,116,114,105,98,117,116,101,95,114,117,108,101,115]
def t200:=y [95,95,113,117,97,108,110,97,109,101,95,95]
def t201:=y [95,95,102,105,114,115,116,108,105,110,101,110,111,95,95]
def t202:=y [95,95,105,110,105,116,95,95]
def t203:=y [114,111,119]
def t204:=y [104,97,115,95,118,97,108,117,101]
def t205:=y [95,95,115,116,97,116,105,99,95,97,116,116,114,105,98,117,116,101,115,95,95]
def t206:=y [115,101,108,102]
def t207:=y [107,105,110,100]
def t208:=y [99,104,111,105,99,101,115]
def t209:=y [109,111,100,101]
def t210:=y [118,97,108,117,101]
def t211:=y [65,116,116,114,105,98,117,116,101,82,117,108,101,46,95,95,105,110,105,116,95,95]
def t212:=y [65,116,116,114,105,98,117,116,101,82,117,108,101,46,114,111,119]
def t213:=y [65,116,116,114,105,98,117,116,101,82,117,108,101,46,104,97,115,95,118,97,108,117,101]
def t214:=y [95,95,100,105,99,116,95,95]
def t215:=y [95,95,119,101,97,107,114,101,102,95,95]
def t216:=y [116,121,112,101,46,95,95,115,117,98,99,108,97,115,115,101,115,95,95,46,69,120,99,101,112,116,105,111,110,46,48]
def t217:=y [116,121,112,101,46,95,95,115,117,98,99,108,97,115,115,101,115,95,95,46,69,120,99,101,112,116,105,111,110,46,110]
def t218:=y [77,97,114,107,117,112,69,114,114,111,114]
def t219:=y [109,101,115,115,97,103,101]
def t220:=y [77,97,114,107,117,112,69,114,114,111,114,46,95,95,105,110,105,116,95,95]
def t221:=y [83,121,110,116,97,120,70,97,117,108,116]
def t222:=y [83,121,110,116,97,120,70,97,117,108,116,46,95,95,105,110,105,116,95,95]
def t223:=y [69,110,116,105,116,121,70,97,117,108,116]
def t224:=y [76,105,109,105,116,70,97,117,108,116]
def t225:=y [109,97,114,107,117,112,109,105,108,108,46,100,116,100,95,119,111,114,100,115]
def t226:=y [68,116,100,70,97,117,108,116]
def t227:=y [68,116,100,70,97,117,108,116,46,95,95,105,110,105,116,95,95]
def t228:=y [68,116,100,83,99,97,110,110,101,114]
def t229:=y [102,97,117,108,116]
def t230:=y [105,115,95,111,118,101,114]
def t231:=y [108,111,111,107,115]
def t232:=y [116,97,107,101,115]
def t233:=y [101,120,112,101,99,116]
def t234:=y [115,112,97,99,101,115]
def t235:=y [110,101,101,100,95,115,112,97,99,101,115]
def t236:=y [108,111,111,107,115,95,97,116,95,110,97,109,101]
def t237:=y [116,111,107,101,110]
def t238:=y [110,97,109,101]
def t239:=y [117,110,116,105,108]
def t240:=y [113,117,111,116,101,100]
def t241:=y [101,110,100]
def t242:=y [68,116,100,83,99,97,110,110,101,114,46,95,95,105,110,105,116,95,95]
def t243:=y [68,116,100,83,99,97,110,110,101,114,46,102,97,117,108,116]
def t244:=y [68,116,100,83,99,97,110,110,101,114,46,105,115,95,111,118,101,114]
def t245:=y [119,111,114,100]
def t246:=y [68,116,100,83,99,97,110,110,101,114,46,108,111,111,107,115]
def t247:=y [68,116,100,83,99,97,110,110,101,114,46,116,97,107,101,115]
def t248:=y [68,116,100,83,99,97,110,110,101,114,46,101,120,112,101,99,116]
def t249:=y [68,116,100,83,99,97,110,110,101,114,46,115,112,97,99,101,115]
def t250:=y [68,116,100,83,99,97,110,110,101,114,46,110,101,101,100,95,115,112,97,99,101,115]
def t251:=y [68,116,100,83,99,97,110,110,101,114,46,108,111,111,107,115,95,97,116,95,110,97,109,101]
def t252:=y [68,116,100,83,99,97,110,110,101,114,46,116,111,107,101,110]
def t253:=y [68,116,100,83,99,97,110,110,101,114,46,110,97,109,101]
def t254:=y [68,116,100,83,99,97,110,110,101,114,46,117,110,116,105,108]
def t255:=y [113,117,111,116,101]
def t256:=y [68,116,100,83,99,97,110,110,101,114,46,113,117,111,116,101,100]
def t257:=y [68,116,100,83,99,97,110,110,101,114,46,101,110,100]
def t258:=y [97,116]
def t259:=y [109,97,114,107,117,112,109,105,108,108,46,99,111,110,116,101,110,116,95,109,111,100,101,108]
def t260:=y [100,101,99,108,97,114,97,116,105,111,110,95,101,110,100]
def t261:=y [77,65,82,75,83]
def t262:=y [80,67,68,65,84,65]
def t263:=y [35,80,67,68,65,84,65]
def t264:=y [114,101,97,100,95,109,97,114,107]
def t265:=y [71,114,111,117,112]
def t266:=y [114,101,97,100,95,103,114,111,117,112]
def t267:=y [63]
def t268:=y [42]
def t269:=y [43]
def t270:=y [115,99,97,110,110,101,114]
def t271:=y [109,97,114,107]
def t272:=y [115,101,116,95,115,105,103,110]
def t273:=y [112,97,114,116,105,99,108,101]
def t274:=y [71,114,111,117,112,46,95,95,105,110,105,116,95,95]
def t275:=y [71,114,111,117,112,46,115,101,116,95,115,105,103,110]
def t276:=y [71,114,111,117,112,46,112,97,114,116,105,99,108,101]
def t277:=y [112,97,114,116,105,99,108,101,115]
def t278:=y [103,114,111,117,112,115]
def t279:=y [109,97,114,107,117,112,109,105,108,108,46,100,116,100]
def t280:=y [103,111,101,115,95,111,110]
def t281:=y [114,101,97,100,95,109,105,120,101,100]
def t282:=y [114,101,97,100,95,115,112,101,99]
def t283:=y [114,101,97,100,95,109,111,100,101,108]
def t284:=y [78,111,116,97,116,105,111,110]
def t285:=y [103,114,111,117,112]
def t286:=y [110,97,109,101,115]
def t287:=y [112,117,98,108,105,99]
def t288:=y [115,121,115,116,101,109]
def t289:=y [78,111,116,97,116,105,111,110,46,95,95,105,110,105,116,95,95]
def t290:=y [68,116,100]
def t291:=y [100,101,99,108,97,114,101,95,101,108,101,109,101,110,116]
def t292:=y [100,101,99,108,97,114,101,95,97,116,116,114,105,98,117,116,101]
def t293:=y [100,101,99,108,97,114,101,95,110,111,116,97,116,105,111,110]
def t294:=y [109,111,100,101,108]
def t295:=y [114,117,108,101,115]
def t296:=y [114,117,108,101]
def t297:=y [110,97,109,101,115,95,111,102,95,107,105,110,100]
def t298:=y [105,100,95,110,97,109,101]
def t299:=y [102,97,117,108,116,115]
def t300:=y [101,108,101,109,101,110,116,95,102,97,117,108,116,115]
def t301:=y [110,111,116,97,116,105,111,110,95,102,97,117,108,116,115]
def t302:=y [114,111,111,116]
def t303:=y [68,116,100,46,95,95,105,110,105,116,95,95]
def t304:=y [68,116,100,46,100,101,99,108,97,114,101,95,101,108,101,109,101,110,116]
def t305:=y [101,108,101,109,101,110,116]
def t306:=y [68,116,100,46,100,101,99,108,97,114,101,95,97,116,116,114,105,98,117,116,101]
def t307:=y [68,116,100,46,100,101,99,108,97,114,101,95,110,111,116,97,116,105,111,110]
def t308:=y [68,116,100,46,109,111,100,101,108]
def t309:=y [68,116,100,46,114,117,108,101,115]
def t310:=y [68,116,100,46,114,117,108,101]
def t311:=y [68,116,100,46,110,97,109,101,115,95,111,102,95,107,105,110,100]
def t312:=y [68,116,100,46,105,100,95,110,97,109,101]
def t313:=y [68,116,100,46,102,97,117,108,116,115]
def t314:=y [68,116,100,46,101,108,101,109,101,110,116,95,102,97,117,108,116,115]
def t315:=y [68,116,100,46,110,111,116,97,116,105,111,110,95,102,97,117,108,116,115]
def t316:=y [97,116,116,114,105,98,117,116,101,115]
def t317:=y [101,108,101,109,101,110,116,115]
def t318:=y [110,111,116,97,116,105,111,110,115]
def t319:=y [109,97,114,107,117,112,109,105,108,108,46,101,110,116,105,116,121,95,116,101,120,116,115]
def t320:=y [68,73,71,73,84,83]
def t321:=y [48,49,50,51,52,53,54,55,56,57]
def t322:=y [72,69,88,95,68,73,71,73,84,83]
def t323:=y [48,49,50,51,52,53,54,55,56,57,97,98,99,100,101,102]
def t324:=y [77,79,83,84,95,68,73,71,73,84,83]
def t325:=y [118,97,108,117,101,95,111,102,95,100,105,103,105,116,115]
def t326:=y [119,105,116,104,111,117,116,95,110,111,117,103,104,116,115]
def t327:=y [99,111,100,101,95,111,102]
def t328:=y [99,104,97,114,95,111,102]
def t329:=y [112,114,101,100,101,102,105,110,101,100]
def t330:=y [86,65,76,85,69,95,83,80,65,67,69,83]
def t331:=y [9,13,10]
def t332:=y [100,105,103,105,116,115]
def t333:=y [115,105,103,110,115]
def t334:=y [110,117,109,98,101,114]
def t335:=y [100,105,103,105,116]
def t336:=y [109,97,114,107,117,112,109,105,108,108,46,114,101,102,101,114,101,110,99,101,115]
def t337:=y [116,111,108,100]
def t338:=y [71,114,111,119,116,104]
def t339:=y [97,100,100]
def t340:=y [101,110,116,101,114]
def t341:=y [108,101,97,118,101]
def t342:=y [112,117,116,95,105,110]
def t343:=y [108,105,109,105,116,115]
def t344:=y [71,114,111,119,116,104,46,95,95,105,110,105,116,95,95]
def t345:=y [109,97,110,121]
def t346:=y [71,114,111,119,116,104,46,97,100,100]
def t347:=y [71,114,111,119,116,104,46,101,110,116,101,114]
def t348:=y [71,114,111,119,116,104,46,108,101,97,118,101]
def t349:=y [71,114,111,119,116,104,46,112,117,116,95,105,110]
def t350:=y [115,105,122,101]
def t351:=y [80,101,110,100,105,110,103]
def t352:=y [114,117,110]
def t353:=y [114,101,102,101,114,101,110,99,101]
def t354:=y [80,101,110,100,105,110,103,46,95,95,105,110,105,116,95,95]
def t355:=y [80,101,110,100,105,110,103,46,105,115,95,111,118,101,114]
def t356:=y [109,97,114,107,115]
def t357:=y [80,101,110,100,105,110,103,46,114,117,110]
def t358:=y [80,101,110,100,105,110,103,46,114,101,102,101,114,101,110,99,101]
def t359:=y [83,116,97,99,107]
def t360:=y [103,114,111,119,116,104,95,102,111,114]
def t361:=y [116,101,120,116,95,105,110,95,118,97,108,117,101]
def t362:=y [115,105,103,110,95,111,114,95,101,110,116,105,116,121]
def t363:=y [98,108,97,110,107,95,115,112,97,99,101,115]
def t364:=y [116,111,112]
def t365:=y [103,114,111,119,116,104]
def t366:=y [83,116,97,99,107,46,95,95,105,110,105,116,95,95]
def t367:=y [83,116,97,99,107,46,116,111,112]
def t368:=y [83,116,97,99,107,46,112,117,116,95,105,110]
def t369:=y [114,111,119,115]
def t370:=y [116,97,98,108,101]
def t371:=y [114,97,119]
def t372:=y [115,116,97,99,107]
def t373:=y [112,101,110,100,105,110,103]
def t374:=y [109,97,114,107,117,112,109,105,108,108,46,100,116,100,95,114,101,97,100,101,114]
def t375:=y [108,105,116,101,114,97,108,95,118,97,108,117,101]
def t376:=y [108,105,116,101,114,97,108,95,112,97,114,116]
def t377:=y [80,76,65,73,78,95,75,73,78,68,83]
def t378:=y [87,79,82,68,83]
def t379:=y [80,85,66,76,73,67,95,83,73,71,78,83]
def t380:=y [32,13,10,45,39,40,41,43,44,46,47,58,61,63,59,33,42,35,64,36,95,37]
def t381:=y [79,112,101,110,84,101,120,116]
def t382:=y [111,112,101,110,101,100]
def t383:=y [67,68,65,84,65]
def t384:=y [73,68,82,69,70,83]
def t385:=y [73,68,82,69,70]
def t386:=y [73,68]
def t387:=y [69,78,84,73,84,73,69,83]
def t388:=y [69,78,84,73,84,89]
def t389:=y [78,77,84,79,75,69,78,83]
def t390:=y [78,77,84,79,75,69,78]
def t391:=y [60,33,69,76,69,77,69,78,84]
def t392:=y [60,33,65,84,84,76,73,83,84]
def t393:=y [60,33,69,78,84,73,84,89]
def t394:=y [60,33,78,79,84,65,84,73,79,78]
def t395:=y [79,112,101,110,84,101,120,116,46,95,95,105,110,105,116,95,95]
def t396:=y [112,105,101,99,101,115]
def t397:=y [108,101,102,116]
def t398:=y [99,108,111,115,101,100]
def t399:=y [68,116,100,82,101,97,100,101,114]
def t400:=y [114,101,97,100]
def t401:=y [114,101,97,100,95,111,110,101]
def t402:=y [114,101,97,100,95,105,110,115,116,114,117,99,116,105,111,110]
def t403:=y [114,101,97,100,95,100,101,99,108,97,114,97,116,105,111,110]
def t404:=y [114,101,97,100,95,101,108,101,109,101,110,116]
def t405:=y [114,101,97,100,95,97,116,116,114,105,98,117,116,101,115]
def t406:=y [114,101,97,100,95,100,101,102,97,117,108,116]
def t407:=y [114,101,97,100,95,101,110,116,105,116,121]
def t408:=y [114,101,97,100,95,110,111,116,97,116,105,111,110]
def t409:=y [100,116,100]
def t410:=y [68,116,100,82,101,97,100,101,114,46,95,95,105,110,105,116,95,95]
def t411:=y [68,116,100,82,101,97,100,101,114,46,114,101,97,100]
def t412:=y [68,116,100,82,101,97,100,101,114,46,114,101,97,100,95,111,110,101]
def t413:=y [68,116,100,82,101,97,100,101,114,46,114,101,97,100,95,105,110,115,116,114,117,99,116,105,111,110]
def t414:=y [107,110,111,119,110]
def t415:=y [105,110,110,101,114]
def t416:=y [68,116,100,82,101,97,100,101,114,46,114,101,97,100,95,100,101,99,108,97,114,97,116,105,111,110]
def t417:=y [68,116,100,82,101,97,100,101,114,46,114,101,97,100,95,101,108,101,109,101,110,116]
def t418:=y [68,116,100,82,101,97,100,101,114,46,114,101,97,100,95,97,116,116,114,105,98,117,116,101,115]
def t419:=y [68,116,100,82,101,97,100,101,114,46,114,101,97,100,95,100,101,102,97,117,108,116]
def t420:=y [105,115,95,112,97,114,97,109,101,116,101,114]
def t421:=y [117,110,112,97,114,115,101,100]
def t422:=y [68,116,100,82,101,97,100,101,114,46,114,101,97,100,95,101,110,116,105,116,121]
def t423:=y [68,116,100,82,101,97,100,101,114,46,114,101,97,100,95,110,111,116,97,116,105,111,110]
def t424:=y [109,97,114,107,117,112,109,105,108,108,46,101,110,116,105,116,105,101,115]
def t425:=y [114,101,97,100,95,99,104,111,105,99,101,115]
def t426:=y [114,101,97,100,95,107,105,110,100]
def t427:=y [114,101,97,100,95,111,117,116,101,114]
def t428:=y [112,117,98,108,105,99,95,110,97,109,101]
def t429:=y [114,101,97,100,95,100,116,100]
def t430:=y [83,80,65,67,69,83,95,101,110,116,105,116,105,101,115]
def t431:=y [32,9,13,10]
def t432:=y [84,69,88,84,95,72,69,65,68]
def t433:=y [60,63,120,109,108]
def t434:=y [76,105,109,105,116,115]
def t435:=y [105,115,95,110,111,116,97,116,105,111,110]
def t436:=y [97,104,101,97,100]
def t437:=y [105,115,95,108,101,116,116,101,114]
def t438:=y [109,111,115,116,95,100,101,112,116,104]
def t439:=y [109,111,115,116,95,115,105,122,101]
def t440:=y [76,105,109,105,116,115,46,95,95,105,110,105,116,95,95]
def t441:=y [69,110,116,105,116,121]
def t442:=y [112,108,97,105,110,95,114,101,102,101,114,101,110,99,101]
def t443:=y [119,105,116,104,111,117,116,95,104,101,97,100]
def t444:=y [105,115,95,111,117,116,101,114]
def t445:=y [105,115,95,117,110,112,97,114,115,101,100]
def t446:=y [110,111,116,97,116,105,111,110]
def t447:=y [69,110,116,105,116,121,46,95,95,105,110,105,116,95,95]
def t448:=y [69,110,116,105,116,121,46,105,115,95,111,117,116,101,114]
def t449:=y [69,110,116,105,116,121,46,105,115,95,117,110,112,97,114,115,101,100]
def t450:=y [69,110,116,105,116,121,84,97,98,108,101]
def t451:=y [100,101,99,108,97,114,101]
def t452:=y [101,110,116,105,116,121]
def t453:=y [105,115,95,100,101,99,108,97,114,101,100]
def t454:=y [111,117,116,101,114,95,116,101,120,116]
def t455:=y [116,101,120,116,95,111,102]
def t456:=y [114,101,112,108,97,99,101,109,101,110,116]
def t457:=y [105,110,110,101,114,95,114,101,112,108,97,99,101,109,101,110,116]
def t458:=y [112,97,114,97,109,101,116,101,114]
def t459:=y [111,117,116,101,114]
def t460:=y [69,110,116,105,116,121,84,97,98,108,101,46,95,95,105,110,105,116,95,95]
def t461:=y [69,110,116,105,116,121,84,97,98,108,101,46,100,101,99,108,97,114,101]
def t462:=y [69,110,116,105,116,121,84,97,98,108,101,46,101,110,116,105,116,121]
def t463:=y [69,110,116,105,116,121,84,97,98,108,101,46,105,115,95,100,101,99,108,97,114,101,100]
def t464:=y [69,110,116,105,116,121,84,97,98,108,101,46,105,115,95,117,110,112,97,114,115,101,100]
def t465:=y [69,110,116,105,116,121,84,97,98,108,101,46,111,117,116,101,114,95,116,101,120,116]
def t466:=y [69,110,116,105,116,121,84,97,98,108,101,46,116,101,120,116,95,111,102]
def t467:=y [112,108,97,105,110]
def t468:=y [69,110,116,105,116,121,84,97,98,108,101,46,114,101,112,108,97,99,101,109,101,110,116]
def t469:=y [69,110,116,105,116,121,84,97,98,108,101,46,105,110,110,101,114,95,114,101,112,108,97,99,101,109,101,110,116]
def t470:=y [69,110,116,105,116,121,84,97,98,108,101,46,112,97,114,97,109,101,116,101,114]
def t471:=y [103,101,110,101,114,97,108]
def t472:=y [112,97,114,97,109,101,116,101,114,115]
def t473:=y [108,97,119,95,110,117,48,48,55,57,95,48,49]
def t474:=y [95,108,97,119,95,112,111,111,108]
def t475:=y [95,108,97,119,95,116,97,107,101]
def t476:=y [95,108,97,119,95,111,110,101]
def t477:=y [95,108,97,119,95,115,112,97,99,101]
def t478:=y [95,108,97,119,95,113,117,111,116,101,100]
def t479:=y [95,108,97,119,95,101,108,101,109,101,110,116]
def t480:=y [95,108,97,119,95,97,116,116,114,105,98,117,116,101]
def t481:=y [95,108,97,119,95,101,110,116,105,116,121]
def t482:=y [95,108,97,119,95,110,111,116,97,116,105,111,110]
def t483:=y [95,108,97,119,95,100,101,99,108,97,114,97,116,105,111,110]
def t484:=y [95,108,97,119,95,98,101,116,119,101,101,110]
def t485:=y [95,108,97,119,95,116,101,120,116,115]
def t486:=y [115,99,114,105,112,116]
def t487:=y [99,101,108,108]
def t488:=y [98,105,103]
def t489:=y [109,105,120,101,100]
def t490:=y [115,111,117,114,99,101]
def t491:=y [100,114,97,119,110]
def t492:=y [116,104,105,110,103,115]
def t493:=y [109,111,100,101,108,115]
def t494:=y [107,105,110,100,115]
def t495:=y [119,111,114,100,115]
def t496:=y [119,97,121]
def t497:=y [102,111,117,110,100,95,114,111,119,115]
def t498:=y [109,111,114,101]
def t499:=y [111,110,101]
def t500:=y [114,101,115,116]
def t501:=y [95,108,97,119,95,114,101,102,117,115,101,100]
def t502:=y [95,108,97,119,95,105,115,95,114,101,97,100]
def t503:=y [108,97,119]
def o0 (P:Params):Obj:=dO #[kE P t0 1 (.str t1 160),kE P t2 2 (.builtin "builtins.__doc__:str#opaque"),kE P t3 3 (.builtin "builtins.__package__:str#opaque"),kE P t4 4 (.builtin "builtins.__loader__:shared#opaque"),kE P t5 5 (.builtin "builtins.__spec__#opaque"),kE P t6 6 (.builtin "__build_class__"),kE P t7 7 (.builtin "__import__"),kE P t8 8 (.builtin "abs"),kE P t9 9 (.builtin "all"),kE P t10 10 (.builtin "any"),kE P t11 11 (.builtin "ascii"),kE P t12 12 (.builtin "bin"),kE P t13 13 (.builtin "breakpoint"),kE P t14 14 (.builtin "callable"),kE P t15 15 (.builtin "chr"),kE P t16 16 (.builtin "compile"),kE P t17 17 (.builtin "delattr"),kE P t18 18 (.builtin "dir"),kE P t19 19 (.builtin "divmod"),kE P t20 20 (.builtin "eval"),kE P t21 21 (.builtin "exec"),kE P t22 22 (.builtin "format"),kE P t23 23 (.builtin "getattr"),kE P t24 24 (.builtin "globals"),kE P t25 25 (.builtin "hasattr"),kE P t26 26 (.builtin "hash"),kE P t27 27 (.builtin "hex"),kE P t28 28 (.builtin "id"),kE P t29 29 (.builtin "input"),kE P t30 30 (.builtin "isinstance"),kE P t31 31 (.builtin "issubclass"),kE P t32 32 (.builtin "iter"),kE P t33 33 (.builtin "aiter"),kE P t34 34 (.builtin "len"),kE P t35 35 (.builtin "locals"),kE P t36 36 (.builtin "max"),kE P t37 37 (.builtin "min"),kE P t38 38 (.builtin "next"),kE P t39 39 (.builtin "anext"),kE P t40 40 (.builtin "oct"),kE P t41 41 (.builtin "ord"),kE P t42 42 (.builtin "pow"),kE P t43 43 (.builtin "print"),kE P t44 44 (.builtin "repr"),kE P t45 45 (.builtin "round"),kE P t46 46 (.builtin "setattr"),kE P t47 47 (.builtin "sorted"),kE P t48 48 (.builtin "sum"),kE P t49 49 (.builtin "vars"),kE P t50 50 .none,kE P t51 51 (.ellipsis),kE P t52 52 (.notImplemented),kE P t53 53 (.bool false),kE P t54 54 (.bool true),kE P t55 55 (.type "bool"),kE P t56 56 (.type "memoryview"),kE P t57 57 (.type "bytearray"),kE P t58 58 (.type "bytes"),kE P t59 59 (.type "classmethod"),kE P t60 60 (.type "complex"),kE P t61 61 (.type "dict"),kE P t62 62 (.type "enumerate"),kE P t63 63 (.type "filter"),kE P t64 64 (.type "float"),kE P t65 65 (.type "frozenset"),kE P t66 66 (.type "property"),kE P t67 67 (.type "int"),kE P t68 68 (.type "list"),kE P t69 69 (.type "map"),kE P t70 70 (.type "object"),kE P t71 71 (.type "range"),kE P t72 72 (.type "reversed"),kE P t73 73 (.type "set"),kE P t74 74 (.type "slice"),kE P t75 75 (.type "staticmethod"),kE P t76 76 (.type "str"),kE P t77 77 (.type "super"),kE P t78 78 (.type "tuple"),kE P t79 79 (.type "type"),kE P t80 80 (.type "zip"),kE P t81 81 (.bool true),kE P t82 82 (.type "BaseException"),kE P t83 83 (.type "BaseExceptionGroup"),kE P t84 84 (.type "Exception"),kE P t85 85 (.type "GeneratorExit"),kE P t86 86 (.type "KeyboardInterrupt"),kE P t87 87 (.type "SystemExit"),kE P t88 88 (.type "ArithmeticError"),kE P t89 89 (.type "AssertionError"),kE P t90 90 (.type "AttributeError"),kE P t91 91 (.type "BufferError"),kE P t92 92 (.type "EOFError"),kE P t93 93 (.type "ImportError"),kE P t94 94 (.type "LookupError"),kE P t95 95 (.type "MemoryError"),kE P t96 96 (.type "NameError"),kE P t97 97 (.type "OSError"),kE P t98 98 (.type "ReferenceError"),kE P t99 99 (.type "RuntimeError"),kE P t100 100 (.type "StopAsyncIteration"),kE P t101 101 (.type "StopIteration"),kE P t102 102 (.type "SyntaxError"),kE P t103 103 (.type "SystemError"),kE P t104 104 (.type "TypeError"),kE P t105 105 (.type "ValueError"),kE P t106 106 (.type "Warning"),kE P t107 107 (.type "FloatingPointError"),kE P t108 108 (.type "OverflowError"),kE P t109 109 (.type "ZeroDivisionError"),kE P t110 110 (.type "BytesWarning"),kE P t111 111 (.type "DeprecationWarning"),kE P t112 112 (.type "EncodingWarning"),kE P t113 113 (.type "FutureWarning"),kE P t114 114 (.type "ImportWarning"),kE P t115 115 (.type "PendingDeprecationWarning"),kE P t116 116 (.type "ResourceWarning"),kE P t117 117 (.type "RuntimeWarning"),kE P t118 118 (.type "SyntaxWarning"),kE P t119 119 (.type "UnicodeWarning"),kE P t120 120 (.type "UserWarning"),kE P t121 121 (.type "BlockingIOError"),kE P t122 122 (.type "ChildProcessError"),kE P t123 123 (.type "ConnectionError"),kE P t124 124 (.type "FileExistsError"),kE P t125 125 (.type "FileNotFoundError"),kE P t126 126 (.type "InterruptedError"),kE P t127 127 (.type "IsADirectoryError"),kE P t128 128 (.type "NotADirectoryError"),kE P t129 129 (.type "PermissionError"),kE P t130 130 (.type "ProcessLookupError"),kE P t131 131 (.type "TimeoutError"),kE P t132 132 (.type "IndentationError"),kE P t133 133 (.type "_IncompleteInputError"),kE P t134 134 (.type "IndexError"),kE P t135 135 (.type "KeyError"),kE P t136 136 (.type "ModuleNotFoundError"),kE P t137 137 (.type "NotImplementedError"),kE P t138 138 (.type "PythonFinalizationError"),kE P t139 139 (.type "RecursionError"),kE P t140 140 (.type "UnboundLocalError"),kE P t141 141 (.type "UnicodeError"),kE P t142 142 (.type "BrokenPipeError"),kE P t143 143 (.type "ConnectionAbortedError"),kE P t144 144 (.type "ConnectionRefusedError"),kE P t145 145 (.type "ConnectionResetError"),kE P t146 146 (.type "TabError"),kE P t147 147 (.type "UnicodeDecodeError"),kE P t148 148 (.type "UnicodeEncodeError"),kE P t149 149 (.type "UnicodeTranslateError"),kE P t150 150 (.type "ExceptionGroup"),kE P t151 151 (.type "OSError"),kE P t152 152 (.type "OSError"),kE P t153 153 (.builtin "open"),kE P t154 154 (.builtin "builtins.quit#opaque"),kE P t155 155 (.builtin "builtins.exit#opaque"),kE P t156 156 (.builtin "builtins.copyright#opaque"),kE P t157 157 (.builtin "builtins.credits#opaque"),kE P t158 158 (.builtin "builtins.license#opaque"),kE P t159 159 (.builtin "builtins.help#opaque")] 159
def o1 (P:Params):Obj:=dO #[kE P t1 162 (.ref 4),kE P t160 163 (.ref 5)] 2
def o2:=ob ⟨.none,none,.dict #[] 0,#[]⟩
def o3 (P:Params):Obj:=dO #[kE P t0 165 (.str t160 164),kE P t2 166 .none,kE P t3 167 .none,kE P t4 168 (.builtin "__main__.__loader__#opaque"),kE P t5 169 .none,kE P t161 170 (.ref 6),kE P t162 171 (.ref 4),kE P t163 173 (.str t164 172),kE P t165 174 .none] 9
def o4:=ob ⟨.type "module",(some (0)),.plain,#[]⟩
def o5:=ob ⟨.type "module",(some (3)),.plain,#[]⟩
def o6:=dO #[] 0
def o9:=cO t166 176 t166 177 t164 178 1 0 0 0 0 7 false 175 8 .none .none .none .none 179 1 t164 180
def o10:=ob ⟨.type "frame",none,.plain,#[(some (.ref 9)),(some (.ref 3)),(some (.ref 3)),none,(some (.str t160 164)),none,(some (.ref 0))]⟩
def o13:=cO t166 182 t166 183 t164 184 1 0 0 0 0 11 false 181 12 .none .none .none .none 185 1 t164 186
def o14:=ob ⟨.type "frame",none,.plain,#[(some (.ref 13)),(some (.ref 3)),(some (.ref 3)),none,(some (.str t160 164)),none,(some (.ref 0))]⟩
def d3 (P:Params):List DictEntry:=[kE P t2 166 .none,kE P t3 167 .none,kE P t4 168 (.builtin "__main__.__loader__#opaque"),kE P t5 169 .none,kE P t161 170 (.ref 6),kE P t162 171 (.ref 4),kE P t163 173 (.str t164 172),kE P t165 174 .none,kE P t168 193 (.ref 21),kE P t169 197 (.str t170 196),kE P t171 204 (.ref 25),kE P t172 229 (.ref 38),kE P t173 236 (.ref 42),kE P t174 238 (.int 128 237),kE P t175 248 (.ref 49),kE P t176 255 (.ref 56),kE P t177 263 (.ref 63),kE P t178 270 (.ref 70),kE P t179 277 (.ref 77),kE P t180 284 (.ref 84),kE P t181 292 (.ref 91),kE P t182 299 (.ref 98),kE P t191 309 (.ref 105),kE P t192 316 (.ref 112),kE P t193 367 (.ref 143),kE P t194 375 (.ref 154),kE P t218 406 (.ref 171),kE P t221 433 (.ref 192),kE P t223 449 (.ref 204),kE P t224 465 (.ref 216),kE P t226 492 (.ref 236),kE P t228 625 (.ref 346),kE P t260 636 (.ref 357),kE P t261 642 (.ref 358),kE P t262 644 (.str t263 643),kE P t264 652 (.ref 365),kE P t265 701 (.ref 396),kE P t266 711 (.ref 407),kE P t280 720 (.ref 414),kE P t281 729 (.ref 421),kE P t282 736 (.ref 428),kE P t283 745 (.ref 435),kE P t284 780 (.ref 452),kE P t290 911 (.ref 550),kE P t320 915 (.str t321 914),kE P t322 917 (.str t323 916),kE P t324 919 (.int 12 918),kE P t325 930 (.ref 561),kE P t326 938 (.ref 568),kE P t327 944 (.ref 573),kE P t328 954 (.ref 581),kE P t329 961 (.ref 588),kE P t330 965 (.str t331 964),kE P t338 1028 (.ref 633),kE P t351 1085 (.ref 675),kE P t359 1132 (.ref 710),kE P t360 1140 (.ref 721),kE P t361 1152 (.ref 729),kE P t362 1162 (.ref 736),kE P t363 1170 (.ref 743),kE P t375 1182 (.ref 751),kE P t376 1193 (.ref 758),kE P t377 1204 (.ref 759),kE P t378 1209 (.ref 760),kE P t379 1211 (.str t380 1210),kE P t381 1242 (.ref 777),kE P t342 1257 (.ref 788),kE P t382 1268 (.ref 795),kE P t399 1405 (.ref 875),kE P t425 1415 (.ref 886),kE P t426 1424 (.ref 893),kE P t427 1434 (.ref 900),kE P t428 1444 (.ref 907),kE P t429 1455 (.ref 915),kE P t430 1459 (.str t431 1458),kE P t432 1461 (.str t433 1460),kE P t434 1494 (.ref 933),kE P t441 1543 (.ref 968),kE P t442 1551 (.ref 979),kE P t443 1560 (.ref 986),kE P t450 1671 (.ref 1068),kE P t474 1684 (.ref 1079),kE P t475 1693 (.ref 1086),kE P t476 1701 (.ref 1093),kE P t477 1708 (.ref 1100),kE P t478 1717 (.ref 1107),kE P t479 1729 (.ref 1114),kE P t480 1746 (.ref 1121),kE P t481 1758 (.ref 1128),kE P t482 1767 (.ref 1135),kE P t483 1782 (.ref 1142),kE P t484 1789 (.ref 1149),kE P t485 1804 (.ref 1156),kE P t501 1811 (.ref 1163),kE P t502 1817 (.ref 1168),kE P t503 1823 (.ref 1173)]
def f3 (P:Params) (v:Value) (k n:Nat):Obj:=dO (kE P t0 165 v::(d3 P).take k).toArray n
noncomputable def d12:List Value:=[.int 1 0,.int 0 0,.ref 20,.int 10 0,.int 0 0,.ref 48,.int 17 0,.int 0 0,.ref 55,.int 19 0,.int 0 0,.ref 62,.int 24 0,.int 0 0,.ref 69,.int 26 0,.int 0 0,.ref 76,.int 30 0,.int 0 0,.ref 83,.int 36 0,.int 0 0,.ref 90,.int 41 0,.int 0 0,.ref 97,.int 43 0,.int 0 0,.ref 104,.int 51 0,.int 0 0,.ref 111,.int 54 0,.int 0 0,.ref 118,.int 67 0,.int 0 0,.ref 153,.int 72 0,.int 0 0,.ref 160,.int 77 0,.int 0 0,.ref 180,.int 82 0,.int 0 0,.ref 200,.int 84 0,.int 0 0,.ref 212,.int 86 0,.int 0 0,.ref 224,.int 92 0,.int 0 0,.ref 244,.int 161 0,.int 0 0,.ref 356,.int 177 0,.int 0 0,.ref 364,.int 182 0,.int 0 0,.ref 371,.int 198 0,.int 0 0,.ref 406,.int 212 0,.int 0 0,.ref 413,.int 220 0,.int 0 0,.ref 420,.int 234 0,.int 0 0,.ref 427,.int 244 0,.int 0 0,.ref 434,.int 251 0,.int 0 0,.ref 441,.int 257 0,.int 0 0,.ref 462,.int 310 0,.int 0 0,.ref 560,.int 320 0,.int 0 0,.ref 567,.int 325 0,.int 0 0,.ref 572,.int 334 0,.int 0 0,.ref 580,.int 341 0,.int 0 0,.ref 587,.int 355 0,.int 0 0,.ref 594,.int 380 0,.int 0 0,.ref 643,.int 403 0,.int 0 0,.ref 685,.int 418 0,.int 0 0,.ref 720,.int 420 0,.int 0 0,.ref 728,.int 431 0,.int 0 0,.ref 735,.int 439 0,.int 0 0,.ref 742,.int 443 0,.int 0 0,.ref 750,.int 452 0,.int 0 0,.ref 757,.int 465 0,.int 0 0,.ref 766,.int 470 0,.int 0 0,.ref 787,.int 493 0,.int 0 0,.ref 794,.int 500 0,.int 0 0,.ref 801,.int 615 0,.int 0 0,.ref 885,.int 628 0,.int 0 0,.ref 892,.int 639 0,.int 0 0,.ref 899,.int 653 0,.int 0 0,.ref 906,.int 659 0,.int 0 0,.ref 914,.int 666 0,.int 0 0,.ref 921,.int 671 0,.int 0 0,.ref 943,.int 684 0,.int 0 0,.ref 978,.int 687 0,.int 0 0,.ref 985,.int 695 0,.int 0 0,.ref 992,.int 745 0,.int 0 0,.ref 1078,.int 752 0,.int 0 0,.ref 1085,.int 759 0,.int 0 0,.ref 1092,.int 761 0,.int 0 0,.ref 1099,.int 763 0,.int 0 0,.ref 1106,.int 766 0,.int 0 0,.ref 1113,.int 773 0,.int 0 0,.ref 1120,.int 786 0,.int 0 0,.ref 1127,.int 796 0,.int 0 0,.ref 1134,.int 804 0,.int 0 0,.ref 1141,.int 817 0,.int 0 0,.ref 1148,.int 819 0,.int 0 0,.ref 1155,.int 831 0,.int 0 0,.ref 1162,.int 837 0,.int 0 0,.ref 1167,.int 853 0,.int 0 0,.ref 1172]
noncomputable def f12 (k:Nat):Obj:=⟨.none,none,.fields (d12.take k).toArray,#[]⟩
def o3v1 (P:Params):=f3 P (.str t167 194) 22 23
def o12v1:=f12 27
def o17:=uO #[.str t183 190] 0
def o19:=gO t168 t168 (S 0)
def o20:=cO t168 187 t168 188 t164 189 1 1 0 0 3 15 true 181 16 .none (.ref 17) (.ref 18) (.ref 19) 191 1 t164 192
def o21:=fO t168 t168 (S 0) 3 .none .none .none (.str t160 164) none (.ref 20) .none
def o22:=uO #[.int 32 198,.int 55295 199] 0
def o23:=uO #[.int 57344 200,.int 65533 201] 0
def o24:=uO #[.int 65536 202,.int 1114111 203] 0
def o25:=uO #[.ref 22,.ref 23,.ref 24] 0
def o26:=uO #[.int 192 205,.int 214 206] 0
def o27:=uO #[.int 216 207,.int 246 208] 0
def o28:=uO #[.int 248 209,.int 767 210] 0
def o29:=uO #[.int 880 211,.int 893 212] 0
def o30:=uO #[.int 895 213,.int 8191 214] 0
def o31:=uO #[.int 8204 215,.int 8205 216] 0
def o32:=uO #[.int 8304 217,.int 8591 218] 0
def o33:=uO #[.int 11264 219,.int 12271 220] 0
def o34:=uO #[.int 12289 221,.int 55295 222] 0
def o35:=uO #[.int 63744 223,.int 64975 224] 0
def o36:=uO #[.int 65008 225,.int 65533 226] 0
def o37:=uO #[.int 65536 227,.int 983039 228] 0
def o38:=uO #[.ref 26,.ref 27,.ref 28,.ref 29,.ref 30,.ref 31,.ref 32,.ref 33,.ref 34,.ref 35,.ref 36,.ref 37] 0
def o39:=uO #[.int 183 230,.int 183 231] 0
def o40:=uO #[.int 768 232,.int 879 233] 0
def o41:=uO #[.int 8255 234,.int 8256 235] 0
def o42:=uO #[.ref 39,.ref 40,.ref 41] 0
def o45:=uO #[.str t184 242,.str t185 243,.str t186 244,.str t187 245] 0
def o47:=gO t175 t175 (S 7)
def o48:=cO t175 239 t175 240 t164 241 10 2 0 0 3 43 true 181 44 .none (.ref 45) (.ref 46) (.ref 47) 246 10 t164 247
def o49:=fO t175 t175 (S 7) 3 .none .none .none (.str t167 194) none (.ref 48) .none
def o52:=uO #[.str t188 252] 0
def o54:=gO t176 t176 (S 8)
def o55:=cO t176 249 t176 250 t164 251 17 1 0 0 3 50 true 181 51 .none (.ref 52) (.ref 53) (.ref 54) 253 17 t164 254
def o56:=fO t176 t176 (S 8) 3 .none .none .none (.str t167 194) none (.ref 55) .none
def o59:=uO #[.str t188 259,.str t184 260] 0
def o61:=gO t177 t177 (S 9)
def o62:=cO t177 256 t177 257 t164 258 19 1 0 0 3 57 true 181 58 .none (.ref 59) (.ref 60) (.ref 61) 261 19 t164 262
def o63:=fO t177 t177 (S 9) 3 .none .none .none (.str t167 194) none (.ref 62) .none
def o66:=uO #[.str t188 267] 0
def o68:=gO t178 t178 (S 10)
def o69:=cO t178 264 t178 265 t164 266 24 1 0 0 3 64 true 181 65 .none (.ref 66) (.ref 67) (.ref 68) 268 24 t164 269
def o70:=fO t178 t178 (S 10) 3 .none .none .none (.str t167 194) none (.ref 69) .none
def o73:=uO #[.str t188 274] 0
def o75:=gO t179 t179 (S 11)
def o76:=cO t179 271 t179 272 t164 273 26 1 0 0 3 71 true 181 72 .none (.ref 73) (.ref 74) (.ref 75) 275 26 t164 276
def o77:=fO t179 t179 (S 11) 3 .none .none .none (.str t167 194) none (.ref 76) .none
def o80:=uO #[.str t188 281] 0
def o82:=gO t180 t180 (S 12)
def o83:=cO t180 278 t180 279 t164 280 30 1 0 0 3 78 true 181 79 .none (.ref 80) (.ref 81) (.ref 82) 282 30 t164 283
def o84:=fO t180 t180 (S 12) 3 .none .none .none (.str t167 194) none (.ref 83) .none
def o87:=uO #[.str t189 288,.str t188 289] 0
def o89:=gO t181 t181 (S 13)
def o90:=cO t181 285 t181 286 t164 287 36 1 0 0 3 85 true 181 86 .none (.ref 87) (.ref 88) (.ref 89) 290 36 t164 291
def o91:=fO t181 t181 (S 13) 3 .none .none .none (.str t167 194) none (.ref 90) .none
def o94:=uO #[.str t189 296] 0
def o96:=gO t182 t182 (S 14)
def o97:=cO t182 293 t182 294 t164 295 41 1 0 0 3 92 true 181 93 .none (.ref 94) (.ref 95) (.ref 96) 297 41 t164 298
def o98:=fO t182 t182 (S 14) 3 .none .none .none (.str t167 194) none (.ref 97) .none
def o3v2 (P:Params):=f3 P (.str t190 376) 26 27
def o12v2:=f12 39
def o101:=uO #[.str t189 303,.str t195 304,.str t196 305,.str t197 306] 0
def o103:=gO t191 t191 (S 15)
def o104:=cO t191 300 t191 301 t164 302 43 1 0 0 3 99 true 181 100 .none (.ref 101) (.ref 102) (.ref 103) 307 43 t164 308
def o105:=fO t191 t191 (S 15) 3 .none .none .none (.str t167 194) none (.ref 104) .none
def o108:=uO #[.str t189 313] 0
def o110:=gO t192 t192 (S 16)
def o111:=cO t192 310 t192 311 t164 312 51 1 0 0 3 106 true 181 107 .none (.ref 108) (.ref 109) (.ref 110) 314 51 t164 315
def o112:=fO t192 t192 (S 16) 3 .none .none .none (.str t167 194) none (.ref 111) .none
def o114:=ob ⟨.type "builtin_function_or_method",none,.fields #[.builtin "type.__prepare__",.type "type"],#[]⟩
def o115 (P:Params):Obj:=dO #[kE P t198 326 (.str t199 317),kE P t200 328 (.str t193 327),kE P t201 330 (.int 54 329),kE P t202 341 (.ref 126),kE P t203 348 (.ref 133),kE P t204 355 (.ref 140),kE P t205 360 (.ref 141)] 7
def o117:=ob ⟨.none,none,.fields #[.int 56 0,.int 4 0,.ref 125,.int 62 0,.int 4 0,.ref 132,.int 65 0,.int 4 0,.ref 139],#[]⟩
def o118:=cO t193 321 t193 322 t164 323 54 0 0 0 0 116 false 181 117 .none .none .none .none 324 54 t164 325
def o119:=ob ⟨.type "frame",none,.plain,#[(some (.ref 118)),(some (.ref 3)),(some (.ref 115)),none,(some (.str t199 317)),none,(some (.ref 0))]⟩
def o122:=uO #[.str t206 334,.str t207 335,.str t208 336,.str t209 337,.str t210 338] 0
def o124:=gO t202 t211 (M 18 0)
def o125:=cO t202 331 t211 332 t164 333 56 5 0 0 3 120 true 181 121 .none (.ref 122) (.ref 123) (.ref 124) 339 56 t164 340
def o126:=fO t202 t211 (M 18 0) 3 .none .none .none (.str t199 317) none (.ref 125) .none
def o129:=uO #[.str t206 345] 0
def o131:=gO t203 t212 (M 18 1)
def o132:=cO t203 342 t212 343 t164 344 62 1 0 0 3 127 true 181 128 .none (.ref 129) (.ref 130) (.ref 131) 346 62 t164 347
def o133:=fO t203 t212 (M 18 1) 3 .none .none .none (.str t199 317) none (.ref 132) .none
def o136:=uO #[.str t206 352] 0
def o138:=gO t204 t213 (M 18 2)
def o139:=cO t204 349 t213 350 t164 351 65 1 0 0 3 134 true 181 135 .none (.ref 136) (.ref 137) (.ref 138) 353 65 t164 354
def o140:=fO t204 t213 (M 18 2) 3 .none .none .none (.str t199 317) none (.ref 139) .none
def o141:=uO #[.str t208 356,.str t207 357,.str t209 358,.str t210 359] 0
def o142 (P:Params):Obj:=dO #[kE P t198 326 (.str t199 317),kE P t201 330 (.int 54 329),kE P t202 341 (.ref 126),kE P t203 348 (.ref 133),kE P t204 355 (.ref 140),kE P t205 360 (.ref 141),kE P t214 362 (.ref 144),kE P t215 364 (.ref 145),kE P t2 365 .none] 4
def o143:=ob ⟨.type "type",none,.cls ⟨t193,[.type "object"],[.ref 143,.type "object"],142,t193,true,[],[],false,none,false⟩,#[none,none,(some (.str t193 319)),(some (.str t193 327)),(some (.builtin "object.__new__")),(some (.bool true))]⟩
def o144:=ob ⟨.type "getset_descriptor",none,.fields #[.str t214 361,.ref 143,.builtin "function.__dict__",.builtin "function.__dict__#set"],#[]⟩
def o145:=ob ⟨.type "getset_descriptor",none,.fields #[.str t215 363,.ref 143,.builtin "ExceptionGroup.__weakref__",.none],#[]⟩
def o146:=ob ⟨.type "super",none,.fields #[.ref 143,.ref 143,.ref 143],#[]⟩
def o147:=ob ⟨.type "builtin_function_or_method",none,.fields #[.builtin "object.__init_subclass__",.ref 143],#[]⟩
def o150:=uO #[.str t207 371,.str t210 372] 0
def o152:=gO t194 t194 (S 19)
def o153:=cO t194 368 t194 369 t164 370 67 2 0 0 3 148 true 181 149 .none (.ref 150) (.ref 151) (.ref 152) 373 67 t164 374
def o154:=fO t194 t194 (S 19) 3 .none .none .none (.str t199 317) none (.ref 153) .none
def o2v1 (P:Params):=ob ⟨.none,none,.dict #[kE P t216 403 (.int 171 0),kE P t217 404 (.int 1 0)] 2,#[]⟩
def o3v3 (P:Params):=f3 P (.str t190 376) 27 28
def o12v3:=f12 42
def o155:=uO #[.type "Exception"] 0
def o156:=ob ⟨.type "builtin_function_or_method",none,.fields #[.builtin "type.__prepare__",.type "type"],#[]⟩
def o157 (P:Params):Obj:=dO #[kE P t198 385 (.str t190 376),kE P t200 387 (.str t218 386),kE P t201 389 (.int 72 388),kE P t202 397 (.ref 168),kE P t205 399 (.ref 169)] 5
def o159:=ob ⟨.none,none,.fields #[.int 74 0,.int 4 0,.ref 167],#[]⟩
def o160:=cO t218 380 t218 381 t164 382 72 0 0 0 0 158 false 181 159 .none .none .none .none 383 72 t164 384
def o161:=ob ⟨.type "frame",none,.plain,#[(some (.ref 160)),(some (.ref 3)),(some (.ref 157)),none,(some (.str t190 376)),none,(some (.ref 0))]⟩
def o164:=uO #[.str t206 393,.str t219 394] 0
def o166:=gO t202 t220 (M 21 0)
def o167:=cO t202 390 t220 391 t164 392 74 2 0 0 3 162 true 181 163 .none (.ref 164) (.ref 165) (.ref 166) 395 74 t164 396
def o168:=fO t202 t220 (M 21 0) 3 .none .none .none (.str t190 376) none (.ref 167) .none
def o169:=uO #[.str t219 398] 0
def o170 (P:Params):Obj:=dO #[kE P t198 385 (.str t190 376),kE P t201 389 (.int 72 388),kE P t202 397 (.ref 168),kE P t205 399 (.ref 169),kE P t215 401 (.ref 172),kE P t2 402 .none] 3
def o171:=ob ⟨.type "type",none,.cls ⟨t218,[.type "Exception"],[.ref 171,.type "Exception",.type "BaseException",.type "object"],170,t218,true,[],[],false,none,false⟩,#[(some (.ref 155)),none,(some (.str t218 378)),(some (.str t218 386)),(some (.builtin "Exception.__new__")),(some (.bool true))]⟩
def o172:=ob ⟨.type "getset_descriptor",none,.fields #[.str t215 400,.ref 171,.builtin "ExceptionGroup.__weakref__",.none],#[]⟩
def o173:=ob ⟨.type "super",none,.fields #[.ref 171,.ref 171,.ref 171],#[]⟩
def o174:=ob ⟨.type "builtin_function_or_method",none,.fields #[.builtin "object.__init_subclass__",.ref 171],#[]⟩
def o3v4 (P:Params):=f3 P (.str t190 376) 28 29
def o12v4:=f12 45
def o171v1:=ob ⟨.type "type",none,.cls ⟨t218,[.type "Exception"],[.ref 171,.type "Exception",.type "BaseException",.type "object"],170,t218,true,[],[.ref 192],false,none,false⟩,#[(some (.ref 155)),none,(some (.str t218 378)),(some (.str t218 386)),(some (.builtin "Exception.__new__")),(some (.bool true))]⟩
def o175:=uO #[.ref 171] 0
def o176:=ob ⟨.type "builtin_function_or_method",none,.fields #[.builtin "type.__prepare__",.type "type"],#[]⟩
def o177 (P:Params):Obj:=dO #[kE P t198 414 (.str t190 376),kE P t200 416 (.str t221 415),kE P t201 418 (.int 77 417),kE P t202 428 (.ref 189),kE P t205 430 (.ref 190)] 5
def o179:=ob ⟨.none,none,.fields #[.int 79 0,.int 4 0,.ref 188],#[]⟩
def o180:=cO t221 409 t221 410 t164 411 77 0 0 0 0 178 false 181 179 .none .none .none .none 412 77 t164 413
def o181:=ob ⟨.type "frame",none,.plain,#[(some (.ref 180)),(some (.ref 3)),(some (.ref 177)),none,(some (.str t190 376)),none,(some (.ref 0))]⟩
def o182:=uO #[.int 0 419] 0
def o185:=uO #[.str t206 423,.str t219 424,.str t197 425] 0
def o187:=gO t202 t222 (M 22 0)
def o188:=cO t202 420 t222 421 t164 422 79 3 0 0 3 183 true 181 184 .none (.ref 185) (.ref 186) (.ref 187) 426 79 t164 427
def o189:=fO t202 t222 (M 22 0) 3 (.ref 182) .none .none (.str t190 376) none (.ref 188) .none
def o190:=uO #[.str t197 429] 0
def o191 (P:Params):Obj:=dO #[kE P t198 414 (.str t190 376),kE P t201 418 (.int 77 417),kE P t202 428 (.ref 189),kE P t205 430 (.ref 190),kE P t2 431 .none] 2
def o192:=ob ⟨.type "type",none,.cls ⟨t221,[.ref 171],[.ref 192,.ref 171,.type "Exception",.type "BaseException",.type "object"],191,t221,true,[],[],false,none,false⟩,#[(some (.ref 175)),none,(some (.str t221 407)),(some (.str t221 415)),(some (.builtin "Exception.__new__")),(some (.bool true))]⟩
def o193:=ob ⟨.type "super",none,.fields #[.ref 192,.ref 192,.ref 192],#[]⟩
def o194:=ob ⟨.type "builtin_function_or_method",none,.fields #[.builtin "object.__init_subclass__",.ref 192],#[]⟩
def o3v5 (P:Params):=f3 P (.str t190 376) 29 30
def o12v5:=f12 48
def o171v2:=ob ⟨.type "type",none,.cls ⟨t218,[.type "Exception"],[.ref 171,.type "Exception",.type "BaseException",.type "object"],170,t218,true,[],[.ref 192,.ref 204],false,none,false⟩,#[(some (.ref 155)),none,(some (.str t218 378)),(some (.str t218 386)),(some (.builtin "Exception.__new__")),(some (.bool true))]⟩
def o195:=uO #[.ref 171] 0
def o196:=ob ⟨.type "builtin_function_or_method",none,.fields #[.builtin "type.__prepare__",.type "type"],#[]⟩
def o197 (P:Params):Obj:=dO #[kE P t198 441 (.str t190 376),kE P t200 443 (.str t223 442),kE P t201 445 (.int 82 444),kE P t205 446 (.ref 202)] 4
def o200:=cO t223 436 t223 437 t164 438 82 0 0 0 0 198 false 181 199 .none .none .none .none 439 82 t164 440
def o201:=ob ⟨.type "frame",none,.plain,#[(some (.ref 200)),(some (.ref 3)),(some (.ref 197)),none,(some (.str t190 376)),none,(some (.ref 0))]⟩
def o203 (P:Params):Obj:=dO #[kE P t198 441 (.str t190 376),kE P t201 445 (.int 82 444),kE P t205 446 (.ref 202),kE P t2 447 .none] 2
def o204:=ob ⟨.type "type",none,.cls ⟨t223,[.ref 171],[.ref 204,.ref 171,.type "Exception",.type "BaseException",.type "object"],203,t223,true,[],[],false,none,false⟩,#[(some (.ref 195)),none,(some (.str t223 434)),(some (.str t223 442)),(some (.builtin "Exception.__new__")),(some (.bool true))]⟩
def o205:=ob ⟨.type "super",none,.fields #[.ref 204,.ref 204,.ref 204],#[]⟩
def o206:=ob ⟨.type "builtin_function_or_method",none,.fields #[.builtin "object.__init_subclass__",.ref 204],#[]⟩
def o3v6 (P:Params):=f3 P (.str t190 376) 30 31
def o12v6:=f12 51
def o171v3:=ob ⟨.type "type",none,.cls ⟨t218,[.type "Exception"],[.ref 171,.type "Exception",.type "BaseException",.type "object"],170,t218,true,[],[.ref 192,.ref 204,.ref 216],false,none,false⟩,#[(some (.ref 155)),none,(some (.str t218 378)),(some (.str t218 386)),(some (.builtin "Exception.__new__")),(some (.bool true))]⟩
def o207:=uO #[.ref 171] 0
def o208:=ob ⟨.type "builtin_function_or_method",none,.fields #[.builtin "type.__prepare__",.type "type"],#[]⟩
def o209 (P:Params):Obj:=dO #[kE P t198 457 (.str t190 376),kE P t200 459 (.str t224 458),kE P t201 461 (.int 84 460),kE P t205 462 (.ref 214)] 4
def o212:=cO t224 452 t224 453 t164 454 84 0 0 0 0 210 false 181 211 .none .none .none .none 455 84 t164 456
def o213:=ob ⟨.type "frame",none,.plain,#[(some (.ref 212)),(some (.ref 3)),(some (.ref 209)),none,(some (.str t190 376)),none,(some (.ref 0))]⟩
def o215 (P:Params):Obj:=dO #[kE P t198 457 (.str t190 376),kE P t201 461 (.int 84 460),kE P t205 462 (.ref 214),kE P t2 463 .none] 2
def o216:=ob ⟨.type "type",none,.cls ⟨t224,[.ref 171],[.ref 216,.ref 171,.type "Exception",.type "BaseException",.type "object"],215,t224,true,[],[],false,none,false⟩,#[(some (.ref 207)),none,(some (.str t224 450)),(some (.str t224 458)),(some (.builtin "Exception.__new__")),(some (.bool true))]⟩
def o217:=ob ⟨.type "super",none,.fields #[.ref 216,.ref 216,.ref 216],#[]⟩
def o218:=ob ⟨.type "builtin_function_or_method",none,.fields #[.builtin "object.__init_subclass__",.ref 216],#[]⟩
def o3v7 (P:Params):=f3 P (.str t225 493) 31 32
def o12v7:=f12 54
def o171v4:=ob ⟨.type "type",none,.cls ⟨t218,[.type "Exception"],[.ref 171,.type "Exception",.type "BaseException",.type "object"],170,t218,true,[],[.ref 192,.ref 204,.ref 216,.ref 236],false,none,false⟩,#[(some (.ref 155)),none,(some (.str t218 378)),(some (.str t218 386)),(some (.builtin "Exception.__new__")),(some (.bool true))]⟩
def o219:=uO #[.ref 171] 0
def o220:=ob ⟨.type "builtin_function_or_method",none,.fields #[.builtin "type.__prepare__",.type "type"],#[]⟩
def o221 (P:Params):Obj:=dO #[kE P t198 473 (.str t190 376),kE P t200 475 (.str t226 474),kE P t201 477 (.int 86 476),kE P t202 487 (.ref 233),kE P t205 489 (.ref 234)] 5
def o223:=ob ⟨.none,none,.fields #[.int 88 0,.int 4 0,.ref 232],#[]⟩
def o224:=cO t226 468 t226 469 t164 470 86 0 0 0 0 222 false 181 223 .none .none .none .none 471 86 t164 472
def o225:=ob ⟨.type "frame",none,.plain,#[(some (.ref 224)),(some (.ref 3)),(some (.ref 221)),none,(some (.str t190 376)),none,(some (.ref 0))]⟩
def o226:=uO #[.int 0 478] 0
def o229:=uO #[.str t206 482,.str t219 483,.str t197 484] 0
def o231:=gO t202 t227 (M 25 0)
def o232:=cO t202 479 t227 480 t164 481 88 3 0 0 3 227 true 181 228 .none (.ref 229) (.ref 230) (.ref 231) 485 88 t164 486
def o233:=fO t202 t227 (M 25 0) 3 (.ref 226) .none .none (.str t190 376) none (.ref 232) .none
def o234:=uO #[.str t197 488] 0
def o235 (P:Params):Obj:=dO #[kE P t198 473 (.str t190 376),kE P t201 477 (.int 86 476),kE P t202 487 (.ref 233),kE P t205 489 (.ref 234),kE P t2 490 .none] 2
def o236:=ob ⟨.type "type",none,.cls ⟨t226,[.ref 171],[.ref 236,.ref 171,.type "Exception",.type "BaseException",.type "object"],235,t226,true,[],[],false,none,false⟩,#[(some (.ref 219)),none,(some (.str t226 466)),(some (.str t226 474)),(some (.builtin "Exception.__new__")),(some (.bool true))]⟩
def o237:=ob ⟨.type "super",none,.fields #[.ref 236,.ref 236,.ref 236],#[]⟩
def o238:=ob ⟨.type "builtin_function_or_method",none,.fields #[.builtin "object.__init_subclass__",.ref 236],#[]⟩
def o3v8 (P:Params):=f3 P (.str t225 493) 32 33
def o12v8:=f12 57
def o240:=ob ⟨.type "builtin_function_or_method",none,.fields #[.builtin "type.__prepare__",.type "type"],#[]⟩
def o241 (P:Params):Obj:=dO #[kE P t198 502 (.str t225 493),kE P t200 504 (.str t228 503),kE P t201 506 (.int 92 505),kE P t202 514 (.ref 252),kE P t229 522 (.ref 259),kE P t230 529 (.ref 266),kE P t231 537 (.ref 273),kE P t232 545 (.ref 280),kE P t233 553 (.ref 287),kE P t234 561 (.ref 294),kE P t235 568 (.ref 301),kE P t236 575 (.ref 308),kE P t237 583 (.ref 315),kE P t238 590 (.ref 322),kE P t239 600 (.ref 329),kE P t240 608 (.ref 336),kE P t241 615 (.ref 343),kE P t205 618 (.ref 344)] 18
def o243:=ob ⟨.none,none,.fields #[.int 94 0,.int 4 0,.ref 251,.int 98 0,.int 4 0,.ref 258,.int 101 0,.int 4 0,.ref 265,.int 104 0,.int 4 0,.ref 272,.int 107 0,.int 4 0,.ref 279,.int 113 0,.int 4 0,.ref 286,.int 117 0,.int 4 0,.ref 293,.int 123 0,.int 4 0,.ref 300,.int 127 0,.int 4 0,.ref 307,.int 130 0,.int 4 0,.ref 314,.int 138 0,.int 4 0,.ref 321,.int 143 0,.int 4 0,.ref 328,.int 151 0,.int 4 0,.ref 335,.int 157 0,.int 4 0,.ref 342],#[]⟩
def o244:=cO t228 497 t228 498 t164 499 92 0 0 0 0 242 false 181 243 .none .none .none .none 500 92 t164 501
def o245:=ob ⟨.type "frame",none,.plain,#[(some (.ref 244)),(some (.ref 3)),(some (.ref 241)),none,(some (.str t225 493)),none,(some (.ref 0))]⟩
def o248:=uO #[.str t206 510,.str t189 511] 0
def o250:=gO t202 t242 (M 27 0)
def o251:=cO t202 507 t242 508 t164 509 94 2 0 0 3 246 true 181 247 .none (.ref 248) (.ref 249) (.ref 250) 512 94 t164 513
def o252:=fO t202 t242 (M 27 0) 3 .none .none .none (.str t225 493) none (.ref 251) .none
def o255:=uO #[.str t206 518,.str t219 519] 0
def o257:=gO t229 t243 (M 27 1)
def o258:=cO t229 515 t243 516 t164 517 98 2 0 0 3 253 true 181 254 .none (.ref 255) (.ref 256) (.ref 257) 520 98 t164 521
def o259:=fO t229 t243 (M 27 1) 3 .none .none .none (.str t225 493) none (.ref 258) .none
def o262:=uO #[.str t206 526] 0
def o264:=gO t230 t244 (M 27 2)
def o265:=cO t230 523 t244 524 t164 525 101 1 0 0 3 260 true 181 261 .none (.ref 262) (.ref 263) (.ref 264) 527 101 t164 528
def o266:=fO t230 t244 (M 27 2) 3 .none .none .none (.str t225 493) none (.ref 265) .none
def o269:=uO #[.str t206 533,.str t245 534] 0
def o271:=gO t231 t246 (M 27 3)
def o272:=cO t231 530 t246 531 t164 532 104 2 0 0 3 267 true 181 268 .none (.ref 269) (.ref 270) (.ref 271) 535 104 t164 536
def o273:=fO t231 t246 (M 27 3) 3 .none .none .none (.str t225 493) none (.ref 272) .none
def o276:=uO #[.str t206 541,.str t245 542] 0
def o278:=gO t232 t247 (M 27 4)
def o279:=cO t232 538 t247 539 t164 540 107 2 0 0 3 274 true 181 275 .none (.ref 276) (.ref 277) (.ref 278) 543 107 t164 544
def o280:=fO t232 t247 (M 27 4) 3 .none .none .none (.str t225 493) none (.ref 279) .none
def o283:=uO #[.str t206 549,.str t245 550] 0
def o285:=gO t233 t248 (M 27 5)
def o286:=cO t233 546 t248 547 t164 548 113 2 0 0 3 281 true 181 282 .none (.ref 283) (.ref 284) (.ref 285) 551 113 t164 552
def o287:=fO t233 t248 (M 27 5) 3 .none .none .none (.str t225 493) none (.ref 286) .none
def o290:=uO #[.str t206 557,.str t196 558] 0
def o292:=gO t234 t249 (M 27 6)
def o293:=cO t234 554 t249 555 t164 556 117 1 0 0 3 288 true 181 289 .none (.ref 290) (.ref 291) (.ref 292) 559 117 t164 560
def o294:=fO t234 t249 (M 27 6) 3 .none .none .none (.str t225 493) none (.ref 293) .none
def o297:=uO #[.str t206 565] 0
def o299:=gO t235 t250 (M 27 7)
def o300:=cO t235 562 t250 563 t164 564 123 1 0 0 3 295 true 181 296 .none (.ref 297) (.ref 298) (.ref 299) 566 123 t164 567
def o301:=fO t235 t250 (M 27 7) 3 .none .none .none (.str t225 493) none (.ref 300) .none
def o304:=uO #[.str t206 572] 0
def o306:=gO t236 t251 (M 27 8)
def o307:=cO t236 569 t251 570 t164 571 127 1 0 0 3 302 true 181 303 .none (.ref 304) (.ref 305) (.ref 306) 573 127 t164 574
def o308:=fO t236 t251 (M 27 8) 3 .none .none .none (.str t225 493) none (.ref 307) .none
def o311:=uO #[.str t206 579,.str t196 580] 0
def o313:=gO t237 t252 (M 27 9)
def o314:=cO t237 576 t252 577 t164 578 130 1 0 0 3 309 true 181 310 .none (.ref 311) (.ref 312) (.ref 313) 581 130 t164 582
def o315:=fO t237 t252 (M 27 9) 3 .none .none .none (.str t225 493) none (.ref 314) .none
def o318:=uO #[.str t206 587] 0
def o320:=gO t238 t253 (M 27 10)
def o321:=cO t238 584 t253 585 t164 586 138 1 0 0 3 316 true 181 317 .none (.ref 318) (.ref 319) (.ref 320) 588 138 t164 589
def o322:=fO t238 t253 (M 27 10) 3 .none .none .none (.str t225 493) none (.ref 321) .none
def o325:=uO #[.str t206 594,.str t245 595,.str t241 596,.str t195 597] 0
def o327:=gO t239 t254 (M 27 11)
def o328:=cO t239 591 t254 592 t164 593 143 2 0 0 3 323 true 181 324 .none (.ref 325) (.ref 326) (.ref 327) 598 143 t164 599
def o329:=fO t239 t254 (M 27 11) 3 .none .none .none (.str t225 493) none (.ref 328) .none
def o332:=uO #[.str t206 604,.str t255 605] 0
def o334:=gO t240 t256 (M 27 12)
def o335:=cO t240 601 t256 602 t164 603 151 1 0 0 3 330 true 181 331 .none (.ref 332) (.ref 333) (.ref 334) 606 151 t164 607
def o336:=fO t240 t256 (M 27 12) 3 .none .none .none (.str t225 493) none (.ref 335) .none
def o339:=uO #[.str t206 612] 0
def o341:=gO t241 t257 (M 27 13)
def o342:=cO t241 609 t257 610 t164 611 157 1 0 0 3 337 true 181 338 .none (.ref 339) (.ref 340) (.ref 341) 613 157 t164 614
def o343:=fO t241 t257 (M 27 13) 3 .none .none .none (.str t225 493) none (.ref 342) .none
def o344:=uO #[.str t258 616,.str t189 617] 0
def o345 (P:Params):Obj:=dO #[kE P t198 502 (.str t225 493),kE P t201 506 (.int 92 505),kE P t202 514 (.ref 252),kE P t229 522 (.ref 259),kE P t230 529 (.ref 266),kE P t231 537 (.ref 273),kE P t232 545 (.ref 280),kE P t233 553 (.ref 287),kE P t234 561 (.ref 294),kE P t235 568 (.ref 301),kE P t236 575 (.ref 308),kE P t237 583 (.ref 315),kE P t238 590 (.ref 322),kE P t239 600 (.ref 329),kE P t240 608 (.ref 336),kE P t241 615 (.ref 343),kE P t205 618 (.ref 344),kE P t214 620 (.ref 347),kE P t215 622 (.ref 348),kE P t2 623 .none] 4
def o346:=ob ⟨.type "type",none,.cls ⟨t228,[.type "object"],[.ref 346,.type "object"],345,t228,true,[],[],false,none,false⟩,#[none,none,(some (.str t228 495)),(some (.str t228 503)),(some (.builtin "object.__new__")),(some (.bool true))]⟩
def o347:=ob ⟨.type "getset_descriptor",none,.fields #[.str t214 619,.ref 346,.builtin "function.__dict__",.builtin "function.__dict__#set"],#[]⟩
def o348:=ob ⟨.type "getset_descriptor",none,.fields #[.str t215 621,.ref 346,.builtin "ExceptionGroup.__weakref__",.none],#[]⟩
def o349:=ob ⟨.type "super",none,.fields #[.ref 346,.ref 346,.ref 346],#[]⟩
def o350:=ob ⟨.type "builtin_function_or_method",none,.fields #[.builtin "object.__init_subclass__",.ref 346],#[]⟩
def o3v9 (P:Params):=f3 P (.str t259 637) 38 39
def o12v9:=f12 69
def o353:=uO #[.str t189 629,.str t196 630,.str t258 631,.str t255 632,.str t188 633] 0
def o355:=gO t260 t260 (S 28)
def o356:=cO t260 626 t260 627 t164 628 161 2 0 0 3 351 true 181 352 .none (.ref 353) (.ref 354) (.ref 355) 634 161 t164 635
def o357:=fO t260 t260 (S 28) 3 .none .none .none (.str t225 493) none (.ref 356) .none
def o358:=uO #[.str t267 639,.str t268 640,.str t269 641] 0
def o361:=uO #[.str t270 648,.str t271 649] 0
def o363:=gO t264 t264 (S 32)
def o364:=cO t264 645 t264 646 t164 647 177 1 0 0 3 359 true 181 360 .none (.ref 361) (.ref 362) (.ref 363) 650 177 t164 651
def o365:=fO t264 t264 (S 32) 3 .none .none .none (.str t259 637) none (.ref 364) .none
def o367:=ob ⟨.type "builtin_function_or_method",none,.fields #[.builtin "type.__prepare__",.type "type"],#[]⟩
def o368 (P:Params):Obj:=dO #[kE P t198 660 (.str t259 637),kE P t200 662 (.str t265 661),kE P t201 664 (.int 182 663),kE P t202 672 (.ref 379),kE P t272 681 (.ref 386),kE P t273 690 (.ref 393),kE P t205 694 (.ref 394)] 7
def o370:=ob ⟨.none,none,.fields #[.int 184 0,.int 4 0,.ref 378,.int 189 0,.int 4 0,.ref 385,.int 195 0,.int 4 0,.ref 392],#[]⟩
def o371:=cO t265 655 t265 656 t164 657 182 0 0 0 0 369 false 181 370 .none .none .none .none 658 182 t164 659
def o372:=ob ⟨.type "frame",none,.plain,#[(some (.ref 371)),(some (.ref 3)),(some (.ref 368)),none,(some (.str t259 637)),none,(some (.ref 0))]⟩
def o375:=uO #[.str t206 668,.str t197 669] 0
def o377:=gO t202 t274 (M 33 0)
def o378:=cO t202 665 t274 666 t164 667 184 2 0 0 3 373 true 181 374 .none (.ref 375) (.ref 376) (.ref 377) 670 184 t164 671
def o379:=fO t202 t274 (M 33 0) 3 .none .none .none (.str t259 637) none (.ref 378) .none
def o382:=uO #[.str t206 676,.str t270 677,.str t188 678] 0
def o384:=gO t272 t275 (M 33 1)
def o385:=cO t272 673 t275 674 t164 675 189 3 0 0 3 380 true 181 381 .none (.ref 382) (.ref 383) (.ref 384) 679 189 t164 680
def o386:=fO t272 t275 (M 33 1) 3 .none .none .none (.str t259 637) none (.ref 385) .none
def o389:=uO #[.str t206 685,.str t271 686,.str t207 687] 0
def o391:=gO t273 t276 (M 33 2)
def o392:=cO t273 682 t276 683 t164 684 195 2 0 0 3 387 true 181 388 .none (.ref 389) (.ref 390) (.ref 391) 688 195 t164 689
def o393:=fO t273 t276 (M 33 2) 3 .none .none .none (.str t259 637) none (.ref 392) .none
def o394:=uO #[.str t277 691,.str t197 692,.str t188 693] 0
def o395 (P:Params):Obj:=dO #[kE P t198 660 (.str t259 637),kE P t201 664 (.int 182 663),kE P t202 672 (.ref 379),kE P t272 681 (.ref 386),kE P t273 690 (.ref 393),kE P t205 694 (.ref 394),kE P t214 696 (.ref 397),kE P t215 698 (.ref 398),kE P t2 699 .none] 4
def o396:=ob ⟨.type "type",none,.cls ⟨t265,[.type "object"],[.ref 396,.type "object"],395,t265,true,[],[],false,none,false⟩,#[none,none,(some (.str t265 653)),(some (.str t265 661)),(some (.builtin "object.__new__")),(some (.bool true))]⟩
def o397:=ob ⟨.type "getset_descriptor",none,.fields #[.str t214 695,.ref 396,.builtin "function.__dict__",.builtin "function.__dict__#set"],#[]⟩
def o398:=ob ⟨.type "getset_descriptor",none,.fields #[.str t215 697,.ref 396,.builtin "ExceptionGroup.__weakref__",.none],#[]⟩
def o399:=ob ⟨.type "super",none,.fields #[.ref 396,.ref 396,.ref 396],#[]⟩
def o400:=ob ⟨.type "builtin_function_or_method",none,.fields #[.builtin "object.__init_subclass__",.ref 396],#[]⟩
def o403:=uO #[.str t270 705,.str t278 706,.str t238 707,.str t195 708] 0
def o405:=gO t266 t266 (S 34)
def o406:=cO t266 702 t266 703 t164 704 198 1 0 0 3 401 true 181 402 .none (.ref 403) (.ref 404) (.ref 405) 709 198 t164 710
def o407:=fO t266 t266 (S 34) 3 .none .none .none (.str t259 637) none (.ref 406) .none
def o3v10 (P:Params):=f3 P (.str t279 746) 43 44
def o12v10:=f12 84
def o410:=uO #[.str t270 715,.str t285 716,.str t188 717] 0
def o412:=gO t280 t280 (S 35)
def o413:=cO t280 712 t280 713 t164 714 212 2 0 0 3 408 true 181 409 .none (.ref 410) (.ref 411) (.ref 412) 718 212 t164 719
def o414:=fO t280 t280 (S 35) 3 .none .none .none (.str t259 637) none (.ref 413) .none
def o417:=uO #[.str t270 724,.str t286 725,.str t238 726] 0
def o419:=gO t281 t281 (S 36)
def o420:=cO t281 721 t281 722 t164 723 220 1 0 0 3 415 true 181 416 .none (.ref 417) (.ref 418) (.ref 419) 727 220 t164 728
def o421:=fO t281 t281 (S 36) 3 .none .none .none (.str t259 637) none (.ref 420) .none
def o424:=uO #[.str t270 733] 0
def o426:=gO t282 t282 (S 37)
def o427:=cO t282 730 t282 731 t164 732 234 1 0 0 3 422 true 181 423 .none (.ref 424) (.ref 425) (.ref 426) 734 234 t164 735
def o428:=fO t282 t282 (S 37) 3 .none .none .none (.str t259 637) none (.ref 427) .none
def o431:=uO #[.str t189 740,.str t270 741,.str t195 742] 0
def o433:=gO t283 t283 (S 38)
def o434:=cO t283 737 t283 738 t164 739 244 1 0 0 3 429 true 181 430 .none (.ref 431) (.ref 432) (.ref 433) 743 244 t164 744
def o435:=fO t283 t283 (S 38) 3 .none .none .none (.str t259 637) none (.ref 434) .none
def o437:=ob ⟨.type "builtin_function_or_method",none,.fields #[.builtin "type.__prepare__",.type "type"],#[]⟩
def o438 (P:Params):Obj:=dO #[kE P t198 755 (.str t279 746),kE P t200 757 (.str t284 756),kE P t201 759 (.int 251 758),kE P t202 769 (.ref 449),kE P t205 773 (.ref 450)] 5
def o440:=ob ⟨.none,none,.fields #[.int 253 0,.int 4 0,.ref 448],#[]⟩
def o441:=cO t284 750 t284 751 t164 752 251 0 0 0 0 439 false 181 440 .none .none .none .none 753 251 t164 754
def o442:=ob ⟨.type "frame",none,.plain,#[(some (.ref 441)),(some (.ref 3)),(some (.ref 438)),none,(some (.str t279 746)),none,(some (.ref 0))]⟩
def o445:=uO #[.str t206 763,.str t238 764,.str t287 765,.str t288 766] 0
def o447:=gO t202 t289 (M 40 0)
def o448:=cO t202 760 t289 761 t164 762 253 4 0 0 3 443 true 181 444 .none (.ref 445) (.ref 446) (.ref 447) 767 253 t164 768
def o449:=fO t202 t289 (M 40 0) 3 .none .none .none (.str t279 746) none (.ref 448) .none
def o450:=uO #[.str t238 770,.str t287 771,.str t288 772] 0
def o451 (P:Params):Obj:=dO #[kE P t198 755 (.str t279 746),kE P t201 759 (.int 251 758),kE P t202 769 (.ref 449),kE P t205 773 (.ref 450),kE P t214 775 (.ref 453),kE P t215 777 (.ref 454),kE P t2 778 .none] 4
def o452:=ob ⟨.type "type",none,.cls ⟨t284,[.type "object"],[.ref 452,.type "object"],451,t284,true,[],[],false,none,false⟩,#[none,none,(some (.str t284 748)),(some (.str t284 756)),(some (.builtin "object.__new__")),(some (.bool true))]⟩
def o453:=ob ⟨.type "getset_descriptor",none,.fields #[.str t214 774,.ref 452,.builtin "function.__dict__",.builtin "function.__dict__#set"],#[]⟩
def o454:=ob ⟨.type "getset_descriptor",none,.fields #[.str t215 776,.ref 452,.builtin "ExceptionGroup.__weakref__",.none],#[]⟩
def o455:=ob ⟨.type "super",none,.fields #[.ref 452,.ref 452,.ref 452],#[]⟩
def o456:=ob ⟨.type "builtin_function_or_method",none,.fields #[.builtin "object.__init_subclass__",.ref 452],#[]⟩
def o3v11 (P:Params):=f3 P (.str t279 746) 44 45
def o12v11:=f12 87
def o458:=ob ⟨.type "builtin_function_or_method",none,.fields #[.builtin "type.__prepare__",.type "type"],#[]⟩
def o459 (P:Params):Obj:=dO #[kE P t198 788 (.str t279 746),kE P t200 790 (.str t290 789),kE P t201 792 (.int 257 791),kE P t202 800 (.ref 470),kE P t291 810 (.ref 477),kE P t292 821 (.ref 484),kE P t293 832 (.ref 491),kE P t294 840 (.ref 498),kE P t295 848 (.ref 505),kE P t296 857 (.ref 512),kE P t297 866 (.ref 519),kE P t298 874 (.ref 526),kE P t299 881 (.ref 533),kE P t300 889 (.ref 540),kE P t301 899 (.ref 547),kE P t205 904 (.ref 548)] 16
def o461:=ob ⟨.none,none,.fields #[.int 259 0,.int 4 0,.ref 469,.int 265 0,.int 4 0,.ref 476,.int 270 0,.int 4 0,.ref 483,.int 278 0,.int 4 0,.ref 490,.int 283 0,.int 4 0,.ref 497,.int 286 0,.int 4 0,.ref 504,.int 289 0,.int 4 0,.ref 511,.int 292 0,.int 4 0,.ref 518,.int 295 0,.int 4 0,.ref 525,.int 298 0,.int 4 0,.ref 532,.int 301 0,.int 4 0,.ref 539,.int 304 0,.int 4 0,.ref 546],#[]⟩
def o462:=cO t290 783 t290 784 t164 785 257 0 0 0 0 460 false 181 461 .none .none .none .none 786 257 t164 787
def o463:=ob ⟨.type "frame",none,.plain,#[(some (.ref 462)),(some (.ref 3)),(some (.ref 459)),none,(some (.str t279 746)),none,(some (.ref 0))]⟩
def o466:=uO #[.str t206 796,.str t302 797] 0
def o468:=gO t202 t303 (M 41 0)
def o469:=cO t202 793 t303 794 t164 795 259 2 0 0 3 464 true 181 465 .none (.ref 466) (.ref 467) (.ref 468) 798 259 t164 799
def o470:=fO t202 t303 (M 41 0) 3 .none .none .none (.str t279 746) none (.ref 469) .none
def o473:=uO #[.str t206 804,.str t238 805,.str t294 806,.str t197 807] 0
def o475:=gO t291 t304 (M 41 1)
def o476:=cO t291 801 t304 802 t164 803 265 4 0 0 3 471 true 181 472 .none (.ref 473) (.ref 474) (.ref 475) 808 265 t164 809
def o477:=fO t291 t304 (M 41 1) 3 .none .none .none (.str t279 746) none (.ref 476) .none
def o480:=uO #[.str t206 814,.str t305 815,.str t238 816,.str t296 817,.str t295 818] 0
def o482:=gO t292 t306 (M 41 2)
def o483:=cO t292 811 t306 812 t164 813 270 4 0 0 3 478 true 181 479 .none (.ref 480) (.ref 481) (.ref 482) 819 270 t164 820
def o484:=fO t292 t306 (M 41 2) 3 .none .none .none (.str t279 746) none (.ref 483) .none
def o487:=uO #[.str t206 825,.str t238 826,.str t287 827,.str t288 828,.str t197 829] 0
def o489:=gO t293 t307 (M 41 3)
def o490:=cO t293 822 t307 823 t164 824 278 5 0 0 3 485 true 181 486 .none (.ref 487) (.ref 488) (.ref 489) 830 278 t164 831
def o491:=fO t293 t307 (M 41 3) 3 .none .none .none (.str t279 746) none (.ref 490) .none
def o494:=uO #[.str t206 836,.str t238 837] 0
def o496:=gO t294 t308 (M 41 4)
def o497:=cO t294 833 t308 834 t164 835 283 2 0 0 3 492 true 181 493 .none (.ref 494) (.ref 495) (.ref 496) 838 283 t164 839
def o498:=fO t294 t308 (M 41 4) 3 .none .none .none (.str t279 746) none (.ref 497) .none
def o501:=uO #[.str t206 844,.str t305 845] 0
def o503:=gO t295 t309 (M 41 5)
def o504:=cO t295 841 t309 842 t164 843 286 2 0 0 3 499 true 181 500 .none (.ref 501) (.ref 502) (.ref 503) 846 286 t164 847
def o505:=fO t295 t309 (M 41 5) 3 .none .none .none (.str t279 746) none (.ref 504) .none
def o508:=uO #[.str t206 852,.str t305 853,.str t238 854] 0
def o510:=gO t296 t310 (M 41 6)
def o511:=cO t296 849 t310 850 t164 851 289 3 0 0 3 506 true 181 507 .none (.ref 508) (.ref 509) (.ref 510) 855 289 t164 856
def o512:=fO t296 t310 (M 41 6) 3 .none .none .none (.str t279 746) none (.ref 511) .none
def o515:=uO #[.str t206 861,.str t305 862,.str t207 863] 0
def o517:=gO t297 t311 (M 41 7)
def o518:=cO t297 858 t311 859 t164 860 292 3 0 0 3 513 true 181 514 .none (.ref 515) (.ref 516) (.ref 517) 864 292 t164 865
def o519:=fO t297 t311 (M 41 7) 3 .none .none .none (.str t279 746) none (.ref 518) .none
def o522:=uO #[.str t206 870,.str t305 871] 0
def o524:=gO t298 t312 (M 41 8)
def o525:=cO t298 867 t312 868 t164 869 295 2 0 0 3 520 true 181 521 .none (.ref 522) (.ref 523) (.ref 524) 872 295 t164 873
def o526:=fO t298 t312 (M 41 8) 3 .none .none .none (.str t279 746) none (.ref 525) .none
def o529:=uO #[.str t206 878] 0
def o531:=gO t299 t313 (M 41 9)
def o532:=cO t299 875 t313 876 t164 877 298 1 0 0 3 527 true 181 528 .none (.ref 529) (.ref 530) (.ref 531) 879 298 t164 880
def o533:=fO t299 t313 (M 41 9) 3 .none .none .none (.str t279 746) none (.ref 532) .none
def o536:=uO #[.str t206 885,.str t305 886] 0
def o538:=gO t300 t314 (M 41 10)
def o539:=cO t300 882 t314 883 t164 884 301 2 0 0 3 534 true 181 535 .none (.ref 536) (.ref 537) (.ref 538) 887 301 t164 888
def o540:=fO t300 t314 (M 41 10) 3 .none .none .none (.str t279 746) none (.ref 539) .none
def o543:=uO #[.str t206 893,.str t305 894,.str t238 895,.str t296 896] 0
def o545:=gO t301 t315 (M 41 11)
def o546:=cO t301 890 t315 891 t164 892 304 4 0 0 3 541 true 181 542 .none (.ref 543) (.ref 544) (.ref 545) 897 304 t164 898
def o547:=fO t301 t315 (M 41 11) 3 .none .none .none (.str t279 746) none (.ref 546) .none
def o548:=uO #[.str t316 900,.str t317 901,.str t318 902,.str t302 903] 0
def o549 (P:Params):Obj:=dO #[kE P t198 788 (.str t279 746),kE P t201 792 (.int 257 791),kE P t202 800 (.ref 470),kE P t291 810 (.ref 477),kE P t292 821 (.ref 484),kE P t293 832 (.ref 491),kE P t294 840 (.ref 498),kE P t295 848 (.ref 505),kE P t296 857 (.ref 512),kE P t297 866 (.ref 519),kE P t298 874 (.ref 526),kE P t299 881 (.ref 533),kE P t300 889 (.ref 540),kE P t301 899 (.ref 547),kE P t205 904 (.ref 548),kE P t214 906 (.ref 551),kE P t215 908 (.ref 552),kE P t2 909 .none] 4
def o550:=ob ⟨.type "type",none,.cls ⟨t290,[.type "object"],[.ref 550,.type "object"],549,t290,true,[],[],false,none,false⟩,#[none,none,(some (.str t290 781)),(some (.str t290 789)),(some (.builtin "object.__new__")),(some (.bool true))]⟩
def o551:=ob ⟨.type "getset_descriptor",none,.fields #[.str t214 905,.ref 550,.builtin "function.__dict__",.builtin "function.__dict__#set"],#[]⟩
def o552:=ob ⟨.type "getset_descriptor",none,.fields #[.str t215 907,.ref 550,.builtin "ExceptionGroup.__weakref__",.none],#[]⟩
def o553:=ob ⟨.type "super",none,.fields #[.ref 550,.ref 550,.ref 550],#[]⟩
def o554:=ob ⟨.type "builtin_function_or_method",none,.fields #[.builtin "object.__init_subclass__",.ref 550],#[]⟩
def o3v12 (P:Params):=f3 P (.str t319 962) 53 54
def o12v12:=f12 102
def o557:=uO #[.str t332 923,.str t333 924,.str t334 925,.str t335 926,.str t210 927] 0
def o559:=gO t325 t325 (S 46)
def o560:=cO t325 920 t325 921 t164 922 310 2 0 0 3 555 true 181 556 .none (.ref 557) (.ref 558) (.ref 559) 928 310 t164 929
def o561:=fO t325 t325 (S 46) 3 .none .none .none (.str t336 912) none (.ref 560) .none
def o564:=uO #[.str t332 934,.str t196 935] 0
def o566:=gO t326 t326 (S 47)
def o567:=cO t326 931 t326 932 t164 933 320 1 0 0 3 562 true 181 563 .none (.ref 564) (.ref 565) (.ref 566) 936 320 t164 937
def o568:=fO t326 t326 (S 47) 3 .none .none .none (.str t336 912) none (.ref 567) .none
def o571:=gO t327 t327 (S 48)
def o572:=cO t327 939 t327 940 t164 941 325 1 0 0 3 569 true 181 570 .none .none .none (.ref 571) 942 325 t164 943
def o573:=fO t327 t327 (S 48) 3 .none .none .none (.str t336 912) none (.ref 572) .none
def o574:=uO #[.int 0 945] 0
def o577:=uO #[.str t337 949,.str t197 950,.str t184 951] 0
def o579:=gO t328 t328 (S 49)
def o580:=cO t328 946 t328 947 t164 948 334 2 0 0 3 575 true 181 576 .none (.ref 577) (.ref 578) (.ref 579) 952 334 t164 953
def o581:=fO t328 t328 (S 49) 3 (.ref 574) .none .none (.str t336 912) none (.ref 580) .none
def o584:=uO #[.str t238 958] 0
def o586:=gO t329 t329 (S 50)
def o587:=cO t329 955 t329 956 t164 957 341 1 0 0 3 582 true 181 583 .none (.ref 584) (.ref 585) (.ref 586) 959 341 t164 960
def o588:=fO t329 t329 (S 50) 3 .none .none .none (.str t336 912) none (.ref 587) .none
def o3v13 (P:Params):=f3 P (.str t319 962) 54 55
def o12v13:=f12 105
def o590:=ob ⟨.type "builtin_function_or_method",none,.fields #[.builtin "type.__prepare__",.type "type"],#[]⟩
def o591 (P:Params):Obj:=dO #[kE P t198 973 (.str t319 962),kE P t200 975 (.str t338 974),kE P t201 977 (.int 355 976),kE P t202 985 (.ref 602),kE P t339 993 (.ref 609),kE P t340 1001 (.ref 616),kE P t341 1008 (.ref 623),kE P t342 1017 (.ref 630),kE P t205 1021 (.ref 631)] 9
def o593:=ob ⟨.none,none,.fields #[.int 357 0,.int 4 0,.ref 601,.int 362 0,.int 4 0,.ref 608,.int 367 0,.int 4 0,.ref 615,.int 374 0,.int 4 0,.ref 622,.int 377 0,.int 4 0,.ref 629],#[]⟩
def o594:=cO t338 968 t338 969 t164 970 355 0 0 0 0 592 false 181 593 .none .none .none .none 971 355 t164 972
def o595:=ob ⟨.type "frame",none,.plain,#[(some (.ref 594)),(some (.ref 3)),(some (.ref 591)),none,(some (.str t319 962)),none,(some (.ref 0))]⟩
def o598:=uO #[.str t206 981,.str t343 982] 0
def o600:=gO t202 t344 (M 53 0)
def o601:=cO t202 978 t344 979 t164 980 357 2 0 0 3 596 true 181 597 .none (.ref 598) (.ref 599) (.ref 600) 983 357 t164 984
def o602:=fO t202 t344 (M 53 0) 3 .none .none .none (.str t319 962) none (.ref 601) .none
def o605:=uO #[.str t206 989,.str t345 990] 0
def o607:=gO t339 t346 (M 53 1)
def o608:=cO t339 986 t346 987 t164 988 362 2 0 0 3 603 true 181 604 .none (.ref 605) (.ref 606) (.ref 607) 991 362 t164 992
def o609:=fO t339 t346 (M 53 1) 3 .none .none .none (.str t319 962) none (.ref 608) .none
def o612:=uO #[.str t206 997,.str t238 998] 0
def o614:=gO t340 t347 (M 53 2)
def o615:=cO t340 994 t347 995 t164 996 367 2 0 0 3 610 true 181 611 .none (.ref 612) (.ref 613) (.ref 614) 999 367 t164 1000
def o616:=fO t340 t347 (M 53 2) 3 .none .none .none (.str t319 962) none (.ref 615) .none
def o619:=uO #[.str t206 1005] 0
def o621:=gO t341 t348 (M 53 3)
def o622:=cO t341 1002 t348 1003 t164 1004 374 1 0 0 3 617 true 181 618 .none (.ref 619) (.ref 620) (.ref 621) 1006 374 t164 1007
def o623:=fO t341 t348 (M 53 3) 3 .none .none .none (.str t319 962) none (.ref 622) .none
def o626:=uO #[.str t206 1012,.str t238 1013,.str t189 1014] 0
def o628:=gO t342 t349 (M 53 4)
def o629:=cO t342 1009 t349 1010 t164 1011 377 3 0 0 3 624 true 181 625 .none (.ref 626) (.ref 627) (.ref 628) 1015 377 t164 1016
def o630:=fO t342 t349 (M 53 4) 3 .none .none .none (.str t319 962) none (.ref 629) .none
def o631:=uO #[.str t343 1018,.str t153 1019,.str t350 1020] 0
def o632 (P:Params):Obj:=dO #[kE P t198 973 (.str t319 962),kE P t201 977 (.int 355 976),kE P t202 985 (.ref 602),kE P t339 993 (.ref 609),kE P t340 1001 (.ref 616),kE P t341 1008 (.ref 623),kE P t342 1017 (.ref 630),kE P t205 1021 (.ref 631),kE P t214 1023 (.ref 634),kE P t215 1025 (.ref 635),kE P t2 1026 .none] 4
def o633:=ob ⟨.type "type",none,.cls ⟨t338,[.type "object"],[.ref 633,.type "object"],632,t338,true,[],[],false,none,false⟩,#[none,none,(some (.str t338 966)),(some (.str t338 974)),(some (.builtin "object.__new__")),(some (.bool true))]⟩
def o634:=ob ⟨.type "getset_descriptor",none,.fields #[.str t214 1022,.ref 633,.builtin "function.__dict__",.builtin "function.__dict__#set"],#[]⟩
def o635:=ob ⟨.type "getset_descriptor",none,.fields #[.str t215 1024,.ref 633,.builtin "ExceptionGroup.__weakref__",.none],#[]⟩
def o636:=ob ⟨.type "super",none,.fields #[.ref 633,.ref 633,.ref 633],#[]⟩
def o637:=ob ⟨.type "builtin_function_or_method",none,.fields #[.builtin "object.__init_subclass__",.ref 633],#[]⟩
def o3v14 (P:Params):=f3 P (.str t319 962) 55 56
def o12v14:=f12 108
def o639:=ob ⟨.type "builtin_function_or_method",none,.fields #[.builtin "type.__prepare__",.type "type"],#[]⟩
def o640 (P:Params):Obj:=dO #[kE P t198 1036 (.str t319 962),kE P t200 1038 (.str t351 1037),kE P t201 1040 (.int 380 1039),kE P t202 1049 (.ref 651),kE P t230 1056 (.ref 658),kE P t352 1065 (.ref 665),kE P t353 1074 (.ref 672),kE P t205 1078 (.ref 673)] 8
def o642:=ob ⟨.none,none,.fields #[.int 382 0,.int 4 0,.ref 650,.int 387 0,.int 4 0,.ref 657,.int 390 0,.int 4 0,.ref 664,.int 396 0,.int 4 0,.ref 671],#[]⟩
def o643:=cO t351 1031 t351 1032 t164 1033 380 0 0 0 0 641 false 181 642 .none .none .none .none 1034 380 t164 1035
def o644:=ob ⟨.type "frame",none,.plain,#[(some (.ref 643)),(some (.ref 3)),(some (.ref 640)),none,(some (.str t319 962)),none,(some (.ref 0))]⟩
def o647:=uO #[.str t206 1044,.str t189 1045,.str t238 1046] 0
def o649:=gO t202 t354 (M 54 0)
def o650:=cO t202 1041 t354 1042 t164 1043 382 3 0 0 3 645 true 181 646 .none (.ref 647) (.ref 648) (.ref 649) 1047 382 t164 1048
def o651:=fO t202 t354 (M 54 0) 3 .none .none .none (.str t319 962) none (.ref 650) .none
def o654:=uO #[.str t206 1053] 0
def o656:=gO t230 t355 (M 54 1)
def o657:=cO t230 1050 t355 1051 t164 1052 387 1 0 0 3 652 true 181 653 .none (.ref 654) (.ref 655) (.ref 656) 1054 387 t164 1055
def o658:=fO t230 t355 (M 54 1) 3 .none .none .none (.str t319 962) none (.ref 657) .none
def o661:=uO #[.str t206 1060,.str t356 1061,.str t196 1062] 0
def o663:=gO t352 t357 (M 54 2)
def o664:=cO t352 1057 t357 1058 t164 1059 390 2 0 0 3 659 true 181 660 .none (.ref 661) (.ref 662) (.ref 663) 1063 390 t164 1064
def o665:=fO t352 t357 (M 54 2) 3 .none .none .none (.str t319 962) none (.ref 664) .none
def o668:=uO #[.str t206 1069,.str t241 1070,.str t245 1071] 0
def o670:=gO t353 t358 (M 54 3)
def o671:=cO t353 1066 t358 1067 t164 1068 396 1 0 0 3 666 true 181 667 .none (.ref 668) (.ref 669) (.ref 670) 1072 396 t164 1073
def o672:=fO t353 t358 (M 54 3) 3 .none .none .none (.str t319 962) none (.ref 671) .none
def o673:=uO #[.str t258 1075,.str t238 1076,.str t189 1077] 0
def o674 (P:Params):Obj:=dO #[kE P t198 1036 (.str t319 962),kE P t201 1040 (.int 380 1039),kE P t202 1049 (.ref 651),kE P t230 1056 (.ref 658),kE P t352 1065 (.ref 665),kE P t353 1074 (.ref 672),kE P t205 1078 (.ref 673),kE P t214 1080 (.ref 676),kE P t215 1082 (.ref 677),kE P t2 1083 .none] 4
def o675:=ob ⟨.type "type",none,.cls ⟨t351,[.type "object"],[.ref 675,.type "object"],674,t351,true,[],[],false,none,false⟩,#[none,none,(some (.str t351 1029)),(some (.str t351 1037)),(some (.builtin "object.__new__")),(some (.bool true))]⟩
def o676:=ob ⟨.type "getset_descriptor",none,.fields #[.str t214 1079,.ref 675,.builtin "function.__dict__",.builtin "function.__dict__#set"],#[]⟩
def o677:=ob ⟨.type "getset_descriptor",none,.fields #[.str t215 1081,.ref 675,.builtin "ExceptionGroup.__weakref__",.none],#[]⟩
def o678:=ob ⟨.type "super",none,.fields #[.ref 675,.ref 675,.ref 675],#[]⟩
def o679:=ob ⟨.type "builtin_function_or_method",none,.fields #[.builtin "object.__init_subclass__",.ref 675],#[]⟩
def o3v15 (P:Params):=f3 P (.str t319 962) 60 61
def o12v15:=f12 123
def o681:=ob ⟨.type "builtin_function_or_method",none,.fields #[.builtin "type.__prepare__",.type "type"],#[]⟩
def o682 (P:Params):Obj:=dO #[kE P t198 1093 (.str t319 962),kE P t200 1095 (.str t359 1094),kE P t201 1097 (.int 403 1096),kE P t202 1106 (.ref 693),kE P t364 1113 (.ref 700),kE P t342 1122 (.ref 707),kE P t205 1125 (.ref 708)] 7
def o684:=ob ⟨.none,none,.fields #[.int 405 0,.int 4 0,.ref 692,.int 409 0,.int 4 0,.ref 699,.int 415 0,.int 4 0,.ref 706],#[]⟩
def o685:=cO t359 1088 t359 1089 t164 1090 403 0 0 0 0 683 false 181 684 .none .none .none .none 1091 403 t164 1092
def o686:=ob ⟨.type "frame",none,.plain,#[(some (.ref 685)),(some (.ref 3)),(some (.ref 682)),none,(some (.str t319 962)),none,(some (.ref 0))]⟩
def o689:=uO #[.str t206 1101,.str t189 1102,.str t365 1103] 0
def o691:=gO t202 t366 (M 55 0)
def o692:=cO t202 1098 t366 1099 t164 1100 405 3 0 0 3 687 true 181 688 .none (.ref 689) (.ref 690) (.ref 691) 1104 405 t164 1105
def o693:=fO t202 t366 (M 55 0) 3 .none .none .none (.str t319 962) none (.ref 692) .none
def o696:=uO #[.str t206 1110] 0
def o698:=gO t364 t367 (M 55 1)
def o699:=cO t364 1107 t367 1108 t164 1109 409 1 0 0 3 694 true 181 695 .none (.ref 696) (.ref 697) (.ref 698) 1111 409 t164 1112
def o700:=fO t364 t367 (M 55 1) 3 .none .none .none (.str t319 962) none (.ref 699) .none
def o703:=uO #[.str t206 1117,.str t238 1118,.str t189 1119] 0
def o705:=gO t342 t368 (M 55 2)
def o706:=cO t342 1114 t368 1115 t164 1116 415 3 0 0 3 701 true 181 702 .none (.ref 703) (.ref 704) (.ref 705) 1120 415 t164 1121
def o707:=fO t342 t368 (M 55 2) 3 .none .none .none (.str t319 962) none (.ref 706) .none
def o708:=uO #[.str t365 1123,.str t369 1124] 0
def o709 (P:Params):Obj:=dO #[kE P t198 1093 (.str t319 962),kE P t201 1097 (.int 403 1096),kE P t202 1106 (.ref 693),kE P t364 1113 (.ref 700),kE P t342 1122 (.ref 707),kE P t205 1125 (.ref 708),kE P t214 1127 (.ref 711),kE P t215 1129 (.ref 712),kE P t2 1130 .none] 4
def o710:=ob ⟨.type "type",none,.cls ⟨t359,[.type "object"],[.ref 710,.type "object"],709,t359,true,[],[],false,none,false⟩,#[none,none,(some (.str t359 1086)),(some (.str t359 1094)),(some (.builtin "object.__new__")),(some (.bool true))]⟩
def o711:=ob ⟨.type "getset_descriptor",none,.fields #[.str t214 1126,.ref 710,.builtin "function.__dict__",.builtin "function.__dict__#set"],#[]⟩
def o712:=ob ⟨.type "getset_descriptor",none,.fields #[.str t215 1128,.ref 710,.builtin "ExceptionGroup.__weakref__",.none],#[]⟩
def o713:=ob ⟨.type "super",none,.fields #[.ref 710,.ref 710,.ref 710],#[]⟩
def o714:=ob ⟨.type "builtin_function_or_method",none,.fields #[.builtin "object.__init_subclass__",.ref 710],#[]⟩
def o717:=uO #[.str t370 1136,.str t365 1137] 0
def o719:=gO t360 t360 (S 56)
def o720:=cO t360 1133 t360 1134 t164 1135 418 2 0 0 3 715 true 181 716 .none (.ref 717) (.ref 718) (.ref 719) 1138 418 t164 1139
def o721:=fO t360 t360 (S 56) 3 .none .none .none (.str t319 962) none (.ref 720) .none
def o722:=uO #[.none] 0
def o725:=uO #[.str t371 1144,.str t370 1145,.str t365 1146,.str t372 1147,.str t195 1148,.str t373 1149] 0
def o727:=gO t361 t361 (S 57)
def o728:=cO t361 1141 t361 1142 t164 1143 420 3 0 0 3 723 true 181 724 .none (.ref 725) (.ref 726) (.ref 727) 1150 420 t164 1151
def o729:=fO t361 t361 (S 57) 3 (.ref 722) .none .none (.str t319 962) none (.ref 728) .none
def o732:=uO #[.str t245 1156,.str t370 1157,.str t372 1158,.str t188 1159] 0
def o734:=gO t362 t362 (S 58)
def o735:=cO t362 1153 t362 1154 t164 1155 431 3 0 0 3 730 true 181 731 .none (.ref 732) (.ref 733) (.ref 734) 1160 431 t164 1161
def o736:=fO t362 t362 (S 58) 3 .none .none .none (.str t319 962) none (.ref 735) .none
def o739:=uO #[.str t189 1166,.str t188 1167] 0
def o741:=gO t363 t363 (S 59)
def o742:=cO t363 1163 t363 1164 t164 1165 439 1 0 0 3 737 true 181 738 .none (.ref 739) (.ref 740) (.ref 741) 1168 439 t164 1169
def o743:=fO t363 t363 (S 59) 3 .none .none .none (.str t319 962) none (.ref 742) .none
def o3v16 (P:Params):=f3 P (.str t374 1194) 68 69
def o12v16:=f12 138
def o744:=uO #[.none] 0
def o747:=uO #[.str t371 1174,.str t370 1175,.str t365 1176,.str t372 1177,.str t195 1178,.str t373 1179] 0
def o749:=gO t375 t375 (S 60)
def o750:=cO t375 1171 t375 1172 t164 1173 443 3 0 0 3 745 true 181 746 .none (.ref 747) (.ref 748) (.ref 749) 1180 443 t164 1181
def o751:=fO t375 t375 (S 60) 3 (.ref 744) .none .none (.str t319 962) none (.ref 750) .none
def o754:=uO #[.str t373 1186,.str t370 1187,.str t372 1188,.str t271 1189,.str t245 1190] 0
def o756:=gO t376 t376 (S 61)
def o757:=cO t376 1183 t376 1184 t164 1185 452 3 0 0 3 752 true 181 753 .none (.ref 754) (.ref 755) (.ref 756) 1191 452 t164 1192
def o758:=fO t376 t376 (S 61) 3 .none .none .none (.str t319 962) none (.ref 757) .none
def o759:=uO #[.str t383 1196,.str t384 1197,.str t385 1198,.str t386 1199,.str t387 1200,.str t388 1201,.str t389 1202,.str t390 1203] 0
def o760:=uO #[.str t391 1205,.str t392 1206,.str t393 1207,.str t394 1208] 0
def o762:=ob ⟨.type "builtin_function_or_method",none,.fields #[.builtin "type.__prepare__",.type "type"],#[]⟩
def o763 (P:Params):Obj:=dO #[kE P t198 1219 (.str t374 1194),kE P t200 1221 (.str t381 1220),kE P t201 1223 (.int 465 1222),kE P t202 1232 (.ref 774),kE P t205 1235 (.ref 775)] 5
def o765:=ob ⟨.none,none,.fields #[.int 467 0,.int 4 0,.ref 773],#[]⟩
def o766:=cO t381 1214 t381 1215 t164 1216 465 0 0 0 0 764 false 181 765 .none .none .none .none 1217 465 t164 1218
def o767:=ob ⟨.type "frame",none,.plain,#[(some (.ref 766)),(some (.ref 3)),(some (.ref 763)),none,(some (.str t374 1194)),none,(some (.ref 0))]⟩
def o770:=uO #[.str t206 1227,.str t189 1228,.str t238 1229] 0
def o772:=gO t202 t395 (M 66 0)
def o773:=cO t202 1224 t395 1225 t164 1226 467 3 0 0 3 768 true 181 769 .none (.ref 770) (.ref 771) (.ref 772) 1230 467 t164 1231
def o774:=fO t202 t395 (M 66 0) 3 .none .none .none (.str t374 1194) none (.ref 773) .none
def o775:=uO #[.str t238 1233,.str t270 1234] 0
def o776 (P:Params):Obj:=dO #[kE P t198 1219 (.str t374 1194),kE P t201 1223 (.int 465 1222),kE P t202 1232 (.ref 774),kE P t205 1235 (.ref 775),kE P t214 1237 (.ref 778),kE P t215 1239 (.ref 779),kE P t2 1240 .none] 4
def o777:=ob ⟨.type "type",none,.cls ⟨t381,[.type "object"],[.ref 777,.type "object"],776,t381,true,[],[],false,none,false⟩,#[none,none,(some (.str t381 1212)),(some (.str t381 1220)),(some (.builtin "object.__new__")),(some (.bool true))]⟩
def o778:=ob ⟨.type "getset_descriptor",none,.fields #[.str t214 1236,.ref 777,.builtin "function.__dict__",.builtin "function.__dict__#set"],#[]⟩
def o779:=ob ⟨.type "getset_descriptor",none,.fields #[.str t215 1238,.ref 777,.builtin "ExceptionGroup.__weakref__",.none],#[]⟩
def o780:=ob ⟨.type "super",none,.fields #[.ref 777,.ref 777,.ref 777],#[]⟩
def o781:=ob ⟨.type "builtin_function_or_method",none,.fields #[.builtin "object.__init_subclass__",.ref 777],#[]⟩
def o784:=uO #[.str t189 1246,.str t370 1247,.str t365 1248,.str t396 1249,.str t397 1250,.str t255 1251,.str t270 1252,.str t398 1253,.str t188 1254] 0
def o786:=gO t342 t342 (S 67)
def o787:=cO t342 1243 t342 1244 t164 1245 470 3 0 0 3 782 true 181 783 .none (.ref 784) (.ref 785) (.ref 786) 1255 470 t164 1256
def o788:=fO t342 t342 (S 67) 3 .none .none .none (.str t374 1194) none (.ref 787) .none
def o791:=uO #[.str t270 1261,.str t370 1262,.str t365 1263,.str t238 1264,.str t189 1265] 0
def o793:=gO t382 t382 (S 68)
def o794:=cO t382 1258 t382 1259 t164 1260 493 3 0 0 3 789 true 181 790 .none (.ref 791) (.ref 792) (.ref 793) 1266 493 t164 1267
def o795:=fO t382 t382 (S 68) 3 .none .none .none (.str t374 1194) none (.ref 794) .none
def o3v17 (P:Params):=f3 P (.str t374 1194) 69 70
def o12v17:=f12 141
def o797:=ob ⟨.type "builtin_function_or_method",none,.fields #[.builtin "type.__prepare__",.type "type"],#[]⟩
def o798 (P:Params):Obj:=dO #[kE P t198 1276 (.str t374 1194),kE P t200 1278 (.str t399 1277),kE P t201 1280 (.int 500 1279),kE P t202 1290 (.ref 809),kE P t400 1301 (.ref 816),kE P t401 1311 (.ref 823),kE P t402 1321 (.ref 830),kE P t403 1334 (.ref 837),kE P t404 1345 (.ref 844),kE P t405 1359 (.ref 851),kE P t406 1369 (.ref 858),kE P t407 1382 (.ref 865),kE P t408 1394 (.ref 872),kE P t205 1398 (.ref 873)] 14
def o800:=ob ⟨.none,none,.fields #[.int 502 0,.int 4 0,.ref 808,.int 507 0,.int 4 0,.ref 815,.int 521 0,.int 4 0,.ref 822,.int 534 0,.int 4 0,.ref 829,.int 543 0,.int 4 0,.ref 836,.int 564 0,.int 4 0,.ref 843,.int 571 0,.int 4 0,.ref 850,.int 581 0,.int 4 0,.ref 857,.int 592 0,.int 4 0,.ref 864,.int 610 0,.int 4 0,.ref 871],#[]⟩
def o801:=cO t399 1271 t399 1272 t164 1273 500 0 0 0 0 799 false 181 800 .none .none .none .none 1274 500 t164 1275
def o802:=ob ⟨.type "frame",none,.plain,#[(some (.ref 801)),(some (.ref 3)),(some (.ref 798)),none,(some (.str t374 1194)),none,(some (.ref 0))]⟩
def o805:=uO #[.str t206 1284,.str t370 1285,.str t409 1286,.str t365 1287] 0
def o807:=gO t202 t410 (M 69 0)
def o808:=cO t202 1281 t410 1282 t164 1283 502 4 0 0 3 803 true 181 804 .none (.ref 805) (.ref 806) (.ref 807) 1288 502 t164 1289
def o809:=fO t202 t410 (M 69 0) 3 .none .none .none (.str t374 1194) none (.ref 808) .none
def o812:=uO #[.str t206 1294,.str t189 1295,.str t397 1296,.str t270 1297,.str t398 1298] 0
def o814:=gO t400 t411 (M 69 1)
def o815:=cO t400 1291 t411 1292 t164 1293 507 2 0 0 3 810 true 181 811 .none (.ref 812) (.ref 813) (.ref 814) 1299 507 t164 1300
def o816:=fO t400 t411 (M 69 1) 3 .none .none .none (.str t374 1194) none (.ref 815) .none
def o819:=uO #[.str t206 1305,.str t270 1306,.str t196 1307,.str t337 1308] 0
def o821:=gO t401 t412 (M 69 2)
def o822:=cO t401 1302 t412 1303 t164 1304 521 2 0 0 3 817 true 181 818 .none (.ref 819) (.ref 820) (.ref 821) 1309 521 t164 1310
def o823:=fO t401 t412 (M 69 2) 3 .none .none .none (.str t374 1194) none (.ref 822) .none
def o826:=uO #[.str t206 1315,.str t270 1316,.str t196 1317,.str t238 1318] 0
def o828:=gO t402 t413 (M 69 3)
def o829:=cO t402 1312 t413 1313 t164 1314 534 2 0 0 3 824 true 181 825 .none (.ref 826) (.ref 827) (.ref 828) 1319 534 t164 1320
def o830:=fO t402 t413 (M 69 3) 3 .none .none .none (.str t374 1194) none (.ref 829) .none
def o833:=uO #[.str t206 1325,.str t270 1326,.str t196 1327,.str t241 1328,.str t245 1329,.str t414 1330,.str t415 1331] 0
def o835:=gO t403 t416 (M 69 4)
def o836:=cO t403 1322 t416 1323 t164 1324 543 3 0 0 3 831 true 181 832 .none (.ref 833) (.ref 834) (.ref 835) 1332 543 t164 1333
def o837:=fO t403 t416 (M 69 4) 3 .none .none .none (.str t374 1194) none (.ref 836) .none
def o840:=uO #[.str t206 1338,.str t415 1339,.str t197 1340,.str t238 1341,.str t294 1342] 0
def o842:=gO t404 t417 (M 69 5)
def o843:=cO t404 1335 t417 1336 t164 1337 564 3 0 0 3 838 true 181 839 .none (.ref 840) (.ref 841) (.ref 842) 1343 564 t164 1344
def o844:=fO t404 t417 (M 69 5) 3 .none .none .none (.str t374 1194) none (.ref 843) .none
def o847:=uO #[.str t206 1349,.str t415 1350,.str t305 1351,.str t238 1352,.str t207 1353,.str t208 1354,.str t209 1355,.str t210 1356] 0
def o849:=gO t405 t418 (M 69 6)
def o850:=cO t405 1346 t418 1347 t164 1348 571 2 0 0 3 845 true 181 846 .none (.ref 847) (.ref 848) (.ref 849) 1357 571 t164 1358
def o851:=fO t405 t418 (M 69 6) 3 .none .none .none (.str t374 1194) none (.ref 850) .none
def o854:=uO #[.str t206 1363,.str t415 1364,.str t207 1365,.str t209 1366] 0
def o856:=gO t406 t419 (M 69 7)
def o857:=cO t406 1360 t419 1361 t164 1362 581 3 0 0 3 852 true 181 853 .none (.ref 854) (.ref 855) (.ref 856) 1367 581 t164 1368
def o858:=fO t406 t419 (M 69 7) 3 .none .none .none (.str t374 1194) none (.ref 857) .none
def o861:=uO #[.str t206 1373,.str t415 1374,.str t420 1375,.str t238 1376,.str t287 1377,.str t288 1378,.str t421 1379] 0
def o863:=gO t407 t422 (M 69 8)
def o864:=cO t407 1370 t422 1371 t164 1372 592 2 0 0 3 859 true 181 860 .none (.ref 861) (.ref 862) (.ref 863) 1380 592 t164 1381
def o865:=fO t407 t422 (M 69 8) 3 .none .none .none (.str t374 1194) none (.ref 864) .none
def o868:=uO #[.str t206 1386,.str t415 1387,.str t197 1388,.str t238 1389,.str t287 1390,.str t288 1391] 0
def o870:=gO t408 t423 (M 69 9)
def o871:=cO t408 1383 t423 1384 t164 1385 610 3 0 0 3 866 true 181 867 .none (.ref 868) (.ref 869) (.ref 870) 1392 610 t164 1393
def o872:=fO t408 t423 (M 69 9) 3 .none .none .none (.str t374 1194) none (.ref 871) .none
def o873:=uO #[.str t409 1395,.str t365 1396,.str t370 1397] 0
def o874 (P:Params):Obj:=dO #[kE P t198 1276 (.str t374 1194),kE P t201 1280 (.int 500 1279),kE P t202 1290 (.ref 809),kE P t400 1301 (.ref 816),kE P t401 1311 (.ref 823),kE P t402 1321 (.ref 830),kE P t403 1334 (.ref 837),kE P t404 1345 (.ref 844),kE P t405 1359 (.ref 851),kE P t406 1369 (.ref 858),kE P t407 1382 (.ref 865),kE P t408 1394 (.ref 872),kE P t205 1398 (.ref 873),kE P t214 1400 (.ref 876),kE P t215 1402 (.ref 877),kE P t2 1403 .none] 4
def o875:=ob ⟨.type "type",none,.cls ⟨t399,[.type "object"],[.ref 875,.type "object"],874,t399,true,[],[],false,none,false⟩,#[none,none,(some (.str t399 1269)),(some (.str t399 1277)),(some (.builtin "object.__new__")),(some (.bool true))]⟩
def o876:=ob ⟨.type "getset_descriptor",none,.fields #[.str t214 1399,.ref 875,.builtin "function.__dict__",.builtin "function.__dict__#set"],#[]⟩
def o877:=ob ⟨.type "getset_descriptor",none,.fields #[.str t215 1401,.ref 875,.builtin "ExceptionGroup.__weakref__",.none],#[]⟩
def o878:=ob ⟨.type "super",none,.fields #[.ref 875,.ref 875,.ref 875],#[]⟩
def o879:=ob ⟨.type "builtin_function_or_method",none,.fields #[.builtin "object.__init_subclass__",.ref 875],#[]⟩
def o3v18 (P:Params):=f3 P (.str t424 1456) 77 78
def o12v18:=f12 159
def o882:=uO #[.str t415 1409,.str t435 1410,.str t195 1411,.str t238 1412] 0
def o884:=gO t425 t425 (S 70)
def o885:=cO t425 1406 t425 1407 t164 1408 615 2 0 0 3 880 true 181 881 .none (.ref 882) (.ref 883) (.ref 884) 1413 615 t164 1414
def o886:=fO t425 t425 (S 70) 3 .none .none .none (.str t374 1194) none (.ref 885) .none
def o889:=uO #[.str t415 1419,.str t196 1420,.str t245 1421] 0
def o891:=gO t426 t426 (S 71)
def o892:=cO t426 1416 t426 1417 t164 1418 628 1 0 0 3 887 true 181 888 .none (.ref 889) (.ref 890) (.ref 891) 1422 628 t164 1423
def o893:=fO t426 t426 (S 71) 3 .none .none .none (.str t374 1194) none (.ref 892) .none
def o896:=uO #[.str t415 1428,.str t435 1429,.str t287 1430,.str t436 1431] 0
def o898:=gO t427 t427 (S 72)
def o899:=cO t427 1425 t427 1426 t164 1427 639 2 0 0 3 894 true 181 895 .none (.ref 896) (.ref 897) (.ref 898) 1432 639 t164 1433
def o900:=fO t427 t427 (S 72) 3 .none .none .none (.str t374 1194) none (.ref 899) .none
def o903:=uO #[.str t415 1438,.str t189 1439,.str t188 1440,.str t437 1441] 0
def o905:=gO t428 t428 (S 73)
def o906:=cO t428 1435 t428 1436 t164 1437 653 2 0 0 3 901 true 181 902 .none (.ref 903) (.ref 904) (.ref 905) 1442 653 t164 1443
def o907:=fO t428 t428 (S 73) 3 .none .none .none (.str t374 1194) none (.ref 906) .none
def o908:=uO #[.none] 0
def o911:=uO #[.str t189 1448,.str t370 1449,.str t238 1450,.str t365 1451,.str t409 1452] 0
def o913:=gO t429 t429 (S 74)
def o914:=cO t429 1445 t429 1446 t164 1447 659 4 0 0 3 909 true 181 910 .none (.ref 911) (.ref 912) (.ref 913) 1453 659 t164 1454
def o915:=fO t429 t429 (S 74) 3 (.ref 908) .none .none (.str t374 1194) none (.ref 914) .none
def o917:=ob ⟨.type "builtin_function_or_method",none,.fields #[.builtin "type.__prepare__",.type "type"],#[]⟩
def o918 (P:Params):Obj:=dO #[kE P t198 1469 (.str t424 1456),kE P t200 1471 (.str t434 1470),kE P t201 1473 (.int 666 1472),kE P t202 1484 (.ref 930),kE P t205 1487 (.ref 931)] 5
def o920:=ob ⟨.none,none,.fields #[.int 668 0,.int 4 0,.ref 929],#[]⟩
def o921:=cO t434 1464 t434 1465 t164 1466 666 0 0 0 0 919 false 181 920 .none .none .none .none 1467 666 t164 1468
def o922:=ob ⟨.type "frame",none,.plain,#[(some (.ref 921)),(some (.ref 3)),(some (.ref 918)),none,(some (.str t424 1456)),none,(some (.ref 0))]⟩
def o923:=uO #[.int 20 1474,.int 100000 1475] 0
def o926:=uO #[.str t206 1479,.str t438 1480,.str t439 1481] 0
def o928:=gO t202 t440 (M 78 0)
def o929:=cO t202 1476 t440 1477 t164 1478 668 3 0 0 3 924 true 181 925 .none (.ref 926) (.ref 927) (.ref 928) 1482 668 t164 1483
def o930:=fO t202 t440 (M 78 0) 3 (.ref 923) .none .none (.str t424 1456) none (.ref 929) .none
def o931:=uO #[.str t438 1485,.str t439 1486] 0
def o932 (P:Params):Obj:=dO #[kE P t198 1469 (.str t424 1456),kE P t201 1473 (.int 666 1472),kE P t202 1484 (.ref 930),kE P t205 1487 (.ref 931),kE P t214 1489 (.ref 934),kE P t215 1491 (.ref 935),kE P t2 1492 .none] 4
def o933:=ob ⟨.type "type",none,.cls ⟨t434,[.type "object"],[.ref 933,.type "object"],932,t434,true,[],[],false,none,false⟩,#[none,none,(some (.str t434 1462)),(some (.str t434 1470)),(some (.builtin "object.__new__")),(some (.bool true))]⟩
def o934:=ob ⟨.type "getset_descriptor",none,.fields #[.str t214 1488,.ref 933,.builtin "function.__dict__",.builtin "function.__dict__#set"],#[]⟩
def o935:=ob ⟨.type "getset_descriptor",none,.fields #[.str t215 1490,.ref 933,.builtin "ExceptionGroup.__weakref__",.none],#[]⟩
def o936:=ob ⟨.type "super",none,.fields #[.ref 933,.ref 933,.ref 933],#[]⟩
def o937:=ob ⟨.type "builtin_function_or_method",none,.fields #[.builtin "object.__init_subclass__",.ref 933],#[]⟩
def o3v19 (P:Params):=f3 P (.str t424 1456) 80 81
def o12v19:=f12 168
def o939:=ob ⟨.type "builtin_function_or_method",none,.fields #[.builtin "type.__prepare__",.type "type"],#[]⟩
def o940 (P:Params):Obj:=dO #[kE P t198 1502 (.str t424 1456),kE P t200 1504 (.str t441 1503),kE P t201 1506 (.int 671 1505),kE P t202 1517 (.ref 951),kE P t444 1524 (.ref 958),kE P t445 1531 (.ref 965),kE P t205 1536 (.ref 966)] 7
def o942:=ob ⟨.none,none,.fields #[.int 673 0,.int 4 0,.ref 950,.int 679 0,.int 4 0,.ref 957,.int 682 0,.int 4 0,.ref 964],#[]⟩
def o943:=cO t441 1497 t441 1498 t164 1499 671 0 0 0 0 941 false 181 942 .none .none .none .none 1500 671 t164 1501
def o944:=ob ⟨.type "frame",none,.plain,#[(some (.ref 943)),(some (.ref 3)),(some (.ref 940)),none,(some (.str t424 1456)),none,(some (.ref 0))]⟩
def o947:=uO #[.str t206 1510,.str t238 1511,.str t210 1512,.str t288 1513,.str t446 1514] 0
def o949:=gO t202 t447 (M 79 0)
def o950:=cO t202 1507 t447 1508 t164 1509 673 5 0 0 3 945 true 181 946 .none (.ref 947) (.ref 948) (.ref 949) 1515 673 t164 1516
def o951:=fO t202 t447 (M 79 0) 3 .none .none .none (.str t424 1456) none (.ref 950) .none
def o954:=uO #[.str t206 1521] 0
def o956:=gO t444 t448 (M 79 1)
def o957:=cO t444 1518 t448 1519 t164 1520 679 1 0 0 3 952 true 181 953 .none (.ref 954) (.ref 955) (.ref 956) 1522 679 t164 1523
def o958:=fO t444 t448 (M 79 1) 3 .none .none .none (.str t424 1456) none (.ref 957) .none
def o961:=uO #[.str t206 1528] 0
def o963:=gO t445 t449 (M 79 2)
def o964:=cO t445 1525 t449 1526 t164 1527 682 1 0 0 3 959 true 181 960 .none (.ref 961) (.ref 962) (.ref 963) 1529 682 t164 1530
def o965:=fO t445 t449 (M 79 2) 3 .none .none .none (.str t424 1456) none (.ref 964) .none
def o966:=uO #[.str t238 1532,.str t446 1533,.str t288 1534,.str t210 1535] 0
def o967 (P:Params):Obj:=dO #[kE P t198 1502 (.str t424 1456),kE P t201 1506 (.int 671 1505),kE P t202 1517 (.ref 951),kE P t444 1524 (.ref 958),kE P t445 1531 (.ref 965),kE P t205 1536 (.ref 966),kE P t214 1538 (.ref 969),kE P t215 1540 (.ref 970),kE P t2 1541 .none] 4
def o968:=ob ⟨.type "type",none,.cls ⟨t441,[.type "object"],[.ref 968,.type "object"],967,t441,true,[],[],false,none,false⟩,#[none,none,(some (.str t441 1495)),(some (.str t441 1503)),(some (.builtin "object.__new__")),(some (.bool true))]⟩
def o969:=ob ⟨.type "getset_descriptor",none,.fields #[.str t214 1537,.ref 968,.builtin "function.__dict__",.builtin "function.__dict__#set"],#[]⟩
def o970:=ob ⟨.type "getset_descriptor",none,.fields #[.str t215 1539,.ref 968,.builtin "ExceptionGroup.__weakref__",.none],#[]⟩
def o971:=ob ⟨.type "super",none,.fields #[.ref 968,.ref 968,.ref 968],#[]⟩
def o972:=ob ⟨.type "builtin_function_or_method",none,.fields #[.builtin "object.__init_subclass__",.ref 968],#[]⟩
def o975:=uO #[.str t238 1547,.str t188 1548] 0
def o977:=gO t442 t442 (S 80)
def o978:=cO t442 1544 t442 1545 t164 1546 684 1 0 0 3 973 true 181 974 .none (.ref 975) (.ref 976) (.ref 977) 1549 684 t164 1550
def o979:=fO t442 t442 (S 80) 3 .none .none .none (.str t424 1456) none (.ref 978) .none
def o982:=uO #[.str t189 1555,.str t350 1556,.str t241 1557] 0
def o984:=gO t443 t443 (S 81)
def o985:=cO t443 1552 t443 1553 t164 1554 687 1 0 0 3 980 true 181 981 .none (.ref 982) (.ref 983) (.ref 984) 1558 687 t164 1559
def o986:=fO t443 t443 (S 81) 3 .none .none .none (.str t424 1456) none (.ref 985) .none
def o3v20 (P:Params):=f3 P (.str t424 1456) 81 82
def o12v20:=f12 171
def o988:=ob ⟨.type "builtin_function_or_method",none,.fields #[.builtin "type.__prepare__",.type "type"],#[]⟩
def o989 (P:Params):Obj:=dO #[kE P t198 1568 (.str t424 1456),kE P t200 1570 (.str t450 1569),kE P t201 1572 (.int 695 1571),kE P t202 1581 (.ref 1001),kE P t451 1594 (.ref 1009),kE P t452 1602 (.ref 1016),kE P t453 1610 (.ref 1023),kE P t445 1618 (.ref 1030),kE P t454 1626 (.ref 1037),kE P t455 1634 (.ref 1044),kE P t456 1643 (.ref 1051),kE P t457 1651 (.ref 1058),kE P t458 1659 (.ref 1065),kE P t205 1664 (.ref 1066)] 14
def o991:=ob ⟨.none,none,.fields #[.int 697 0,.int 4 0,.ref 1000,.int 703 0,.int 4 0,.ref 1008,.int 710 0,.int 4 0,.ref 1015,.int 715 0,.int 4 0,.ref 1022,.int 718 0,.int 4 0,.ref 1029,.int 721 0,.int 4 0,.ref 1036,.int 726 0,.int 4 0,.ref 1043,.int 731 0,.int 4 0,.ref 1050,.int 735 0,.int 4 0,.ref 1057,.int 740 0,.int 4 0,.ref 1064],#[]⟩
def o992:=cO t450 1563 t450 1564 t164 1565 695 0 0 0 0 990 false 181 991 .none .none .none .none 1566 695 t164 1567
def o993:=ob ⟨.type "frame",none,.plain,#[(some (.ref 992)),(some (.ref 3)),(some (.ref 989)),none,(some (.str t424 1456)),none,(some (.ref 0))]⟩
def o994:=uO #[.none] 0
def o997:=uO #[.str t206 1576,.str t343 1577,.str t459 1578] 0
def o999:=gO t202 t460 (M 82 0)
def o1000:=cO t202 1573 t460 1574 t164 1575 697 3 0 0 3 995 true 181 996 .none (.ref 997) (.ref 998) (.ref 999) 1579 697 t164 1580
def o1001:=fO t202 t460 (M 82 0) 3 (.ref 994) .none .none (.str t424 1456) none (.ref 1000) .none
def o1002:=uO #[.none,.none] 0
def o1005:=uO #[.str t206 1585,.str t420 1586,.str t238 1587,.str t210 1588,.str t288 1589,.str t446 1590,.str t369 1591] 0
def o1007:=gO t451 t461 (M 82 1)
def o1008:=cO t451 1582 t461 1583 t164 1584 703 6 0 0 3 1003 true 181 1004 .none (.ref 1005) (.ref 1006) (.ref 1007) 1592 703 t164 1593
def o1009:=fO t451 t461 (M 82 1) 3 (.ref 1002) .none .none (.str t424 1456) none (.ref 1008) .none
def o1012:=uO #[.str t206 1598,.str t238 1599] 0
def o1014:=gO t452 t462 (M 82 2)
def o1015:=cO t452 1595 t462 1596 t164 1597 710 2 0 0 3 1010 true 181 1011 .none (.ref 1012) (.ref 1013) (.ref 1014) 1600 710 t164 1601
def o1016:=fO t452 t462 (M 82 2) 3 .none .none .none (.str t424 1456) none (.ref 1015) .none
def o1019:=uO #[.str t206 1606,.str t238 1607] 0
def o1021:=gO t453 t463 (M 82 3)
def o1022:=cO t453 1603 t463 1604 t164 1605 715 2 0 0 3 1017 true 181 1018 .none (.ref 1019) (.ref 1020) (.ref 1021) 1608 715 t164 1609
def o1023:=fO t453 t463 (M 82 3) 3 .none .none .none (.str t424 1456) none (.ref 1022) .none
def o1026:=uO #[.str t206 1614,.str t238 1615] 0
def o1028:=gO t445 t464 (M 82 4)
def o1029:=cO t445 1611 t464 1612 t164 1613 718 2 0 0 3 1024 true 181 1025 .none (.ref 1026) (.ref 1027) (.ref 1028) 1616 718 t164 1617
def o1030:=fO t445 t464 (M 82 4) 3 .none .none .none (.str t424 1456) none (.ref 1029) .none
def o1033:=uO #[.str t206 1622,.str t452 1623] 0
def o1035:=gO t454 t465 (M 82 5)
def o1036:=cO t454 1619 t465 1620 t164 1621 721 2 0 0 3 1031 true 181 1032 .none (.ref 1033) (.ref 1034) (.ref 1035) 1624 721 t164 1625
def o1037:=fO t454 t465 (M 82 5) 3 .none .none .none (.str t424 1456) none (.ref 1036) .none
def o1040:=uO #[.str t206 1630,.str t452 1631] 0
def o1042:=gO t455 t466 (M 82 6)
def o1043:=cO t455 1627 t466 1628 t164 1629 726 2 0 0 3 1038 true 181 1039 .none (.ref 1040) (.ref 1041) (.ref 1042) 1632 726 t164 1633
def o1044:=fO t455 t466 (M 82 6) 3 .none .none .none (.str t424 1456) none (.ref 1043) .none
def o1047:=uO #[.str t206 1638,.str t238 1639,.str t467 1640] 0
def o1049:=gO t456 t468 (M 82 7)
def o1050:=cO t456 1635 t468 1636 t164 1637 731 2 0 0 3 1045 true 181 1046 .none (.ref 1047) (.ref 1048) (.ref 1049) 1641 731 t164 1642
def o1051:=fO t456 t468 (M 82 7) 3 .none .none .none (.str t424 1456) none (.ref 1050) .none
def o1054:=uO #[.str t206 1647,.str t238 1648] 0
def o1056:=gO t457 t469 (M 82 8)
def o1057:=cO t457 1644 t469 1645 t164 1646 735 2 0 0 3 1052 true 181 1053 .none (.ref 1054) (.ref 1055) (.ref 1056) 1649 735 t164 1650
def o1058:=fO t457 t469 (M 82 8) 3 .none .none .none (.str t424 1456) none (.ref 1057) .none
def o1061:=uO #[.str t206 1655,.str t238 1656] 0
def o1063:=gO t458 t470 (M 82 9)
def o1064:=cO t458 1652 t470 1653 t164 1654 740 2 0 0 3 1059 true 181 1060 .none (.ref 1061) (.ref 1062) (.ref 1063) 1657 740 t164 1658
def o1065:=fO t458 t470 (M 82 9) 3 .none .none .none (.str t424 1456) none (.ref 1064) .none
def o1066:=uO #[.str t471 1660,.str t343 1661,.str t459 1662,.str t472 1663] 0
def o1067 (P:Params):Obj:=dO #[kE P t198 1568 (.str t424 1456),kE P t201 1572 (.int 695 1571),kE P t202 1581 (.ref 1001),kE P t451 1594 (.ref 1009),kE P t452 1602 (.ref 1016),kE P t453 1610 (.ref 1023),kE P t445 1618 (.ref 1030),kE P t454 1626 (.ref 1037),kE P t455 1634 (.ref 1044),kE P t456 1643 (.ref 1051),kE P t457 1651 (.ref 1058),kE P t458 1659 (.ref 1065),kE P t205 1664 (.ref 1066),kE P t214 1666 (.ref 1069),kE P t215 1668 (.ref 1070),kE P t2 1669 .none] 4
def o1068:=ob ⟨.type "type",none,.cls ⟨t450,[.type "object"],[.ref 1068,.type "object"],1067,t450,true,[],[],false,none,false⟩,#[none,none,(some (.str t450 1561)),(some (.str t450 1569)),(some (.builtin "object.__new__")),(some (.bool true))]⟩
def o1069:=ob ⟨.type "getset_descriptor",none,.fields #[.str t214 1665,.ref 1068,.builtin "function.__dict__",.builtin "function.__dict__#set"],#[]⟩
def o1070:=ob ⟨.type "getset_descriptor",none,.fields #[.str t215 1667,.ref 1068,.builtin "ExceptionGroup.__weakref__",.none],#[]⟩
def o1071:=ob ⟨.type "super",none,.fields #[.ref 1068,.ref 1068,.ref 1068],#[]⟩
def o1072:=ob ⟨.type "builtin_function_or_method",none,.fields #[.builtin "object.__init_subclass__",.ref 1068],#[]⟩
def o3v21 (P:Params):=f3 P (.str t473 1672) 93 94
def o12v21:=f12 207
def o1075:=uO #[.str t486 1677,.str t183 1678,.str t487 1679,.str t488 1680,.str t489 1681] 0
def o1077:=gO t474 t474 (S 84)
def o1078:=cO t474 1674 t474 1675 t164 1676 745 2 0 0 3 1073 true 181 1074 .none (.ref 1075) (.ref 1076) (.ref 1077) 1682 745 t164 1683
def o1079:=fO t474 t474 (S 84) 3 .none .none .none (.str t473 1672) none (.ref 1078) .none
def o1082:=uO #[.str t490 1688,.str t364 1689,.str t491 1690] 0
def o1084:=gO t475 t475 (S 85)
def o1085:=cO t475 1685 t475 1686 t164 1687 752 2 0 0 3 1080 true 181 1081 .none (.ref 1082) (.ref 1083) (.ref 1084) 1691 752 t164 1692
def o1086:=fO t475 t475 (S 85) 3 .none .none .none (.str t473 1672) none (.ref 1085) .none
def o1089:=uO #[.str t490 1697,.str t492 1698] 0
def o1091:=gO t476 t476 (S 86)
def o1092:=cO t476 1694 t476 1695 t164 1696 759 2 0 0 3 1087 true 181 1088 .none (.ref 1089) (.ref 1090) (.ref 1091) 1699 759 t164 1700
def o1093:=fO t476 t476 (S 86) 3 .none .none .none (.str t473 1672) none (.ref 1092) .none
def o1096:=uO #[.str t490 1705] 0
def o1098:=gO t477 t477 (S 87)
def o1099:=cO t477 1702 t477 1703 t164 1704 761 1 0 0 3 1094 true 181 1095 .none (.ref 1096) (.ref 1097) (.ref 1098) 1706 761 t164 1707
def o1100:=fO t477 t477 (S 87) 3 .none .none .none (.str t473 1672) none (.ref 1099) .none
def o1103:=uO #[.str t490 1712,.str t189 1713,.str t255 1714] 0
def o1105:=gO t478 t478 (S 88)
def o1106:=cO t478 1709 t478 1710 t164 1711 763 2 0 0 3 1101 true 181 1102 .none (.ref 1103) (.ref 1104) (.ref 1105) 1715 763 t164 1716
def o1107:=fO t478 t478 (S 88) 3 .none .none .none (.str t473 1672) none (.ref 1106) .none
def o1110:=uO #[.str t490 1721,.str t238 1722,.str t493 1723,.str t273 1724,.str t294 1725,.str t189 1726] 0
def o1112:=gO t479 t479 (S 89)
def o1113:=cO t479 1718 t479 1719 t164 1720 766 1 0 0 3 1108 true 181 1109 .none (.ref 1110) (.ref 1111) (.ref 1112) 1727 766 t164 1728
def o1114:=fO t479 t479 (S 89) 3 .none .none .none (.str t473 1672) none (.ref 1113) .none
def o1117:=uO #[.str t490 1733,.str t305 1734,.str t238 1735,.str t494 1736,.str t207 1737,.str t208 1738,.str t337 1739,.str t209 1740,.str t495 1741,.str t210 1742,.str t371 1743] 0
def o1119:=gO t480 t480 (S 90)
def o1120:=cO t480 1730 t480 1731 t164 1732 773 1 0 0 3 1115 true 181 1116 .none (.ref 1117) (.ref 1118) (.ref 1119) 1744 773 t164 1745
def o1121:=fO t480 t480 (S 90) 3 .none .none .none (.str t473 1672) none (.ref 1120) .none
def o1124:=uO #[.str t490 1750,.str t238 1751,.str t496 1752,.str t495 1753,.str t210 1754,.str t371 1755] 0
def o1126:=gO t481 t481 (S 91)
def o1127:=cO t481 1747 t481 1748 t164 1749 786 1 0 0 3 1122 true 181 1123 .none (.ref 1124) (.ref 1125) (.ref 1126) 1756 786 t164 1757
def o1128:=fO t481 t481 (S 91) 3 .none .none .none (.str t473 1672) none (.ref 1127) .none
def o1131:=uO #[.str t490 1762,.str t238 1763,.str t496 1764] 0
def o1133:=gO t482 t482 (S 92)
def o1134:=cO t482 1759 t482 1760 t164 1761 796 1 0 0 3 1129 true 181 1130 .none (.ref 1131) (.ref 1132) (.ref 1133) 1765 796 t164 1766
def o1135:=fO t482 t482 (S 92) 3 .none .none .none (.str t473 1672) none (.ref 1134) .none
def o1138:=uO #[.str t490 1771,.str t207 1772,.str t491 1773,.str t245 1774,.str t497 1775,.str t495 1776,.str t498 1777,.str t195 1778,.str t499 1779] 0
def o1140:=gO t483 t483 (S 93)
def o1141:=cO t483 1768 t483 1769 t164 1770 804 1 0 0 3 1136 true 181 1137 .none (.ref 1138) (.ref 1139) (.ref 1140) 1780 804 t164 1781
def o1142:=fO t483 t483 (S 93) 3 .none .none .none (.str t473 1672) none (.ref 1141) .none
def o1145:=uO #[.str t490 1786] 0
def o1147:=gO t484 t484 (S 94)
def o1148:=cO t484 1783 t484 1784 t164 1785 817 1 0 0 3 1143 true 181 1144 .none (.ref 1145) (.ref 1146) (.ref 1147) 1787 817 t164 1788
def o1149:=fO t484 t484 (S 94) 3 .none .none .none (.str t473 1672) none (.ref 1148) .none
def o1152:=uO #[.str t490 1793,.str t369 1794,.str t195 1795,.str t258 1796,.str t189 1797,.str t496 1798,.str t238 1799,.str t245 1800,.str t500 1801] 0
def o1154:=gO t485 t485 (S 95)
def o1155:=cO t485 1790 t485 1791 t164 1792 819 2 0 0 3 1150 true 181 1151 .none (.ref 1152) (.ref 1153) (.ref 1154) 1802 819 t164 1803
def o1156:=fO t485 t485 (S 95) 3 .none .none .none (.str t473 1672) none (.ref 1155) .none
def o3v22 (P:Params):=f3 P (.str t473 1672) 96 97
def o12v22:=f12 216
def o1159:=uO #[.str t189 1808] 0
def o1161:=gO t501 t501 (S 96)
def o1162:=cO t501 1805 t501 1806 t164 1807 831 1 0 0 3 1157 true 181 1158 .none (.ref 1159) (.ref 1160) (.ref 1161) 1809 831 t164 1810
def o1163:=fO t501 t501 (S 96) 3 .none .none .none (.str t473 1672) none (.ref 1162) .none
def o1166:=gO t502 t502 (S 97)
def o1167:=cO t502 1812 t502 1813 t164 1814 837 3 0 0 3 1164 true 181 1165 .none .none .none (.ref 1166) 1815 837 t164 1816
def o1168:=fO t502 t502 (S 97) 3 .none .none .none (.str t473 1672) none (.ref 1167) .none
def o1171:=gO t503 t503 (S 98)
def o1172:=cO t503 1818 t503 1819 t164 1820 853 1 0 0 3 1169 true 181 1170 .none .none .none (.ref 1171) 1821 853 t164 1822
def o1173:=fO t503 t503 (S 98) 3 .none .none .none (.str t473 1672) none (.ref 1172) .none
def g0 (P:Params) (x2 x3 x12:Obj):List Obj:=[o0 P,o1 P,x2,x3,o4,o5,o6,ee,zz,o9,o10,ee,x12,o13,o14,ee,zz,o17,ee,o19,o20,o21,o22,o23,o24,o25,o26,o27,o28,o29,o30,o31]
def b0v0 (P:Params):List Obj:=[o0 P,o1 P,o2,o3 P,o4,o5,o6,ee,zz,o9,o10,ee,zz,o13,o14]
def l0 (P:Params):List Obj:=b0v0 P
def T0 (P:Params):BT:=mkT 20 (l0 P)
def X0 (w:World) (os:OsState):SharedT:=⟨T0 w.params,15,{},#[],{},187,os⟩
def b0v1 (P:Params):=g0 P o2 (o3v1 P) o12v1
def b1v0 (P:Params):List Obj:=[o32,o33,o34,o35,o36,o37,o38,o39,o40,o41,o42,ee,zz,o45,ee,o47,o48,o49,ee,zz,o52,ee,o54,o55,o56,ee,zz,o59,ee,o61,o62,o63]
def b2v0 (P:Params):List Obj:=[ee,zz,o66,ee,o68,o69,o70,ee,zz,o73,ee,o75,o76,o77,ee,zz,o80,ee,o82,o83,o84,ee,zz,o87,ee,o89,o90,o91,ee,zz,o94,ee]
def b3v0 (P:Params):List Obj:=[o96,o97,o98]
def l1 (P:Params):List Obj:=b0v1 P++(b1v0 P++(b2v0 P++(b3v0 P)))
def T1 (P:Params):BT:=mkT 20 (l1 P)
def X1 (w:World) (os:OsState):SharedT:=⟨T1 w.params,99,{},#[],{},300,os⟩
def b0v2 (P:Params):=g0 P o2 (o3v2 P) o12v2
def b3v1 (P:Params):List Obj:=[o96,o97,o98,ee,zz,o101,ee,o103,o104,o105,ee,zz,o108,ee,o110,o111,o112,ee,o114,o115 P,ee,o117,o118,o119,ee,zz,o122,ee,o124,o125,o126,ee]
def b4v0 (P:Params):List Obj:=[zz,o129,ee,o131,o132,o133,ee,zz,o136,ee,o138,o139,o140,o141,o142 P,o143,o144,o145,o146,o147,ee,zz,o150,ee,o152,o153,o154]
def l2 (P:Params):List Obj:=b0v2 P++(b1v0 P++(b2v0 P++(b3v1 P++(b4v0 P))))
def T2 (P:Params):BT:=mkT 20 (l2 P)
def X2 (w:World) (os:OsState):SharedT:=⟨T2 w.params,155,{},#[],{},378,os⟩
def b0v3 (P:Params):=g0 P (o2v1 P) (o3v3 P) o12v3
def b4v1 (P:Params):List Obj:=[zz,o129,ee,o131,o132,o133,ee,zz,o136,ee,o138,o139,o140,o141,o142 P,o143,o144,o145,o146,o147,ee,zz,o150,ee,o152,o153,o154,o155,o156,o157 P,ee,o159]
def b5v0 (P:Params):List Obj:=[o160,o161,ee,zz,o164,ee,o166,o167,o168,o169,o170 P,o171,o172,o173,o174]
def l3 (P:Params):List Obj:=b0v3 P++(b1v0 P++(b2v0 P++(b3v1 P++(b4v1 P++(b5v0 P)))))
def T3 (P:Params):BT:=mkT 20 (l3 P)
def X3 (w:World) (os:OsState):SharedT:=⟨T3 w.params,175,{},#[],{},407,os⟩
def b0v4 (P:Params):=g0 P (o2v1 P) (o3v4 P) o12v4
def b5v1 (P:Params):List Obj:=[o160,o161,ee,zz,o164,ee,o166,o167,o168,o169,o170 P,o171v1,o172,o173,o174,o175,o176,o177 P,ee,o179,o180,o181,o182,ee,zz,o185,ee,o187,o188,o189,o190,o191 P]
def b6v0 (P:Params):List Obj:=[o192,o193,o194]
def l4 (P:Params):List Obj:=b0v4 P++(b1v0 P++(b2v0 P++(b3v1 P++(b4v1 P++(b5v1 P++(b6v0 P))))))
def T4 (P:Params):BT:=mkT 20 (l4 P)
def X4 (w:World) (os:OsState):SharedT:=⟨T4 w.params,195,{},#[],{},434,os⟩
def b0v5 (P:Params):=g0 P (o2v1 P) (o3v5 P) o12v5
def b5v2 (P:Params):List Obj:=[o160,o161,ee,zz,o164,ee,o166,o167,o168,o169,o170 P,o171v2,o172,o173,o174,o175,o176,o177 P,ee,o179,o180,o181,o182,ee,zz,o185,ee,o187,o188,o189,o190,o191 P]
def b6v1 (P:Params):List Obj:=[o192,o193,o194,o195,o196,o197 P,ee,zz,o200,o201,ee,o203 P,o204,o205,o206]
def l5 (P:Params):List Obj:=b0v5 P++(b1v0 P++(b2v0 P++(b3v1 P++(b4v1 P++(b5v2 P++(b6v1 P))))))
def T5 (P:Params):BT:=mkT 20 (l5 P)
def X5 (w:World) (os:OsState):SharedT:=⟨T5 w.params,207,{},#[],{},450,os⟩
def b0v6 (P:Params):=g0 P (o2v1 P) (o3v6 P) o12v6
def b5v3 (P:Params):List Obj:=[o160,o161,ee,zz,o164,ee,o166,o167,o168,o169,o170 P,o171v3,o172,o173,o174,o175,o176,o177 P,ee,o179,o180,o181,o182,ee,zz,o185,ee,o187,o188,o189,o190,o191 P]
def b6v2 (P:Params):List Obj:=[o192,o193,o194,o195,o196,o197 P,ee,zz,o200,o201,ee,o203 P,o204,o205,o206,o207,o208,o209 P,ee,zz,o212,o213,ee,o215 P,o216,o217,o218]
def l6 (P:Params):List Obj:=b0v6 P++(b1v0 P++(b2v0 P++(b3v1 P++(b4v1 P++(b5v3 P++(b6v2 P))))))
def T6 (P:Params):BT:=mkT 20 (l6 P)
def X6 (w:World) (os:OsState):SharedT:=⟨T6 w.params,219,{},#[],{},466,os⟩
def b0v7 (P:Params):=g0 P (o2v1 P) (o3v7 P) o12v7
def b5v4 (P:Params):List Obj:=[o160,o161,ee,zz,o164,ee,o166,o167,o168,o169,o170 P,o171v4,o172,o173,o174,o175,o176,o177 P,ee,o179,o180,o181,o182,ee,zz,o185,ee,o187,o188,o189,o190,o191 P]
def b6v3 (P:Params):List Obj:=[o192,o193,o194,o195,o196,o197 P,ee,zz,o200,o201,ee,o203 P,o204,o205,o206,o207,o208,o209 P,ee,zz,o212,o213,ee,o215 P,o216,o217,o218,o219,o220,o221 P,ee,o223]
def b7v0 (P:Params):List Obj:=[o224,o225,o226,ee,zz,o229,ee,o231,o232,o233,o234,o235 P,o236,o237,o238]
def l7 (P:Params):List Obj:=b0v7 P++(b1v0 P++(b2v0 P++(b3v1 P++(b4v1 P++(b5v4 P++(b6v3 P++(b7v0 P)))))))
def T7 (P:Params):BT:=mkT 20 (l7 P)
def X7 (w:World) (os:OsState):SharedT:=⟨T7 w.params,239,{},#[],{},495,os⟩
def b0v8 (P:Params):=g0 P (o2v1 P) (o3v8 P) o12v8
def b7v1 (P:Params):List Obj:=[o224,o225,o226,ee,zz,o229,ee,o231,o232,o233,o234,o235 P,o236,o237,o238,ee,o240,o241 P,ee,o243,o244,o245,ee,zz,o248,ee,o250,o251,o252,ee,zz,o255]
def b8v0 (P:Params):List Obj:=[ee,o257,o258,o259,ee,zz,o262,ee,o264,o265,o266,ee,zz,o269,ee,o271,o272,o273,ee,zz,o276,ee,o278,o279,o280,ee,zz,o283,ee,o285,o286,o287]
def b9v0 (P:Params):List Obj:=[ee,zz,o290,ee,o292,o293,o294,ee,zz,o297,ee,o299,o300,o301,ee,zz,o304,ee,o306,o307,o308,ee,zz,o311,ee,o313,o314,o315,ee,zz,o318,ee]
def b10v0 (P:Params):List Obj:=[o320,o321,o322,ee,zz,o325,ee,o327,o328,o329,ee,zz,o332,ee,o334,o335,o336,ee,zz,o339,ee,o341,o342,o343,o344,o345 P,o346,o347,o348,o349,o350]
def l8 (P:Params):List Obj:=b0v8 P++(b1v0 P++(b2v0 P++(b3v1 P++(b4v1 P++(b5v4 P++(b6v3 P++(b7v1 P++(b8v0 P++(b9v0 P++(b10v0 P))))))))))
def T8 (P:Params):BT:=mkT 20 (l8 P)
def X8 (w:World) (os:OsState):SharedT:=⟨T8 w.params,351,{},#[],{},626,os⟩
def b0v9 (P:Params):=g0 P (o2v1 P) (o3v9 P) o12v9
def b10v1 (P:Params):List Obj:=[o320,o321,o322,ee,zz,o325,ee,o327,o328,o329,ee,zz,o332,ee,o334,o335,o336,ee,zz,o339,ee,o341,o342,o343,o344,o345 P,o346,o347,o348,o349,o350,ee]
def b11v0 (P:Params):List Obj:=[zz,o353,ee,o355,o356,o357,o358,ee,zz,o361,ee,o363,o364,o365,ee,o367,o368 P,ee,o370,o371,o372,ee,zz,o375,ee,o377,o378,o379,ee,zz,o382,ee]
def b12v0 (P:Params):List Obj:=[o384,o385,o386,ee,zz,o389,ee,o391,o392,o393,o394,o395 P,o396,o397,o398,o399,o400,ee,zz,o403,ee,o405,o406,o407]
def l9 (P:Params):List Obj:=b0v9 P++(b1v0 P++(b2v0 P++(b3v1 P++(b4v1 P++(b5v4 P++(b6v3 P++(b7v1 P++(b8v0 P++(b9v0 P++(b10v1 P++(b11v0 P++(b12v0 P))))))))))))
def T9 (P:Params):BT:=mkT 20 (l9 P)
def X9 (w:World) (os:OsState):SharedT:=⟨T9 w.params,408,{},#[],{},712,os⟩
def b0v10 (P:Params):=g0 P (o2v1 P) (o3v10 P) o12v10
def b12v1 (P:Params):List Obj:=[o384,o385,o386,ee,zz,o389,ee,o391,o392,o393,o394,o395 P,o396,o397,o398,o399,o400,ee,zz,o403,ee,o405,o406,o407,ee,zz,o410,ee,o412,o413,o414,ee]
def b13v0 (P:Params):List Obj:=[zz,o417,ee,o419,o420,o421,ee,zz,o424,ee,o426,o427,o428,ee,zz,o431,ee,o433,o434,o435,ee,o437,o438 P,ee,o440,o441,o442,ee,zz,o445,ee,o447]
def b14v0 (P:Params):List Obj:=[o448,o449,o450,o451 P,o452,o453,o454,o455,o456]
def l10 (P:Params):List Obj:=b0v10 P++(b1v0 P++(b2v0 P++(b3v1 P++(b4v1 P++(b5v4 P++(b6v3 P++(b7v1 P++(b8v0 P++(b9v0 P++(b10v1 P++(b11v0 P++(b12v1 P++(b13v0 P++(b14v0 P))))))))))))))
def T10 (P:Params):BT:=mkT 20 (l10 P)
def X10 (w:World) (os:OsState):SharedT:=⟨T10 w.params,457,{},#[],{},781,os⟩
def b0v11 (P:Params):=g0 P (o2v1 P) (o3v11 P) o12v11
def b14v1 (P:Params):List Obj:=[o448,o449,o450,o451 P,o452,o453,o454,o455,o456,ee,o458,o459 P,ee,o461,o462,o463,ee,zz,o466,ee,o468,o469,o470,ee,zz,o473,ee,o475,o476,o477,ee,zz]
def b15v0 (P:Params):List Obj:=[o480,ee,o482,o483,o484,ee,zz,o487,ee,o489,o490,o491,ee,zz,o494,ee,o496,o497,o498,ee,zz,o501,ee,o503,o504,o505,ee,zz,o508,ee,o510,o511]
def b16v0 (P:Params):List Obj:=[o512,ee,zz,o515,ee,o517,o518,o519,ee,zz,o522,ee,o524,o525,o526,ee,zz,o529,ee,o531,o532,o533,ee,zz,o536,ee,o538,o539,o540,ee,zz,o543]
def b17v0 (P:Params):List Obj:=[ee,o545,o546,o547,o548,o549 P,o550,o551,o552,o553,o554]
def l11 (P:Params):List Obj:=b0v11 P++(b1v0 P++(b2v0 P++(b3v1 P++(b4v1 P++(b5v4 P++(b6v3 P++(b7v1 P++(b8v0 P++(b9v0 P++(b10v1 P++(b11v0 P++(b12v1 P++(b13v0 P++(b14v1 P++(b15v0 P++(b16v0 P++(b17v0 P)))))))))))))))))
def T11 (P:Params):BT:=mkT 20 (l11 P)
def X11 (w:World) (os:OsState):SharedT:=⟨T11 w.params,555,{},#[],{},912,os⟩
def b0v12 (P:Params):=g0 P (o2v1 P) (o3v12 P) o12v12
def b17v1 (P:Params):List Obj:=[ee,o545,o546,o547,o548,o549 P,o550,o551,o552,o553,o554,ee,zz,o557,ee,o559,o560,o561,ee,zz,o564,ee,o566,o567,o568,ee,zz,o571,o572,o573,o574,ee]
def b18v0 (P:Params):List Obj:=[zz,o577,ee,o579,o580,o581,ee,zz,o584,ee,o586,o587,o588]
def l12 (P:Params):List Obj:=b0v12 P++(b1v0 P++(b2v0 P++(b3v1 P++(b4v1 P++(b5v4 P++(b6v3 P++(b7v1 P++(b8v0 P++(b9v0 P++(b10v1 P++(b11v0 P++(b12v1 P++(b13v0 P++(b14v1 P++(b15v0 P++(b16v0 P++(b17v1 P++(b18v0 P))))))))))))))))))
def T12 (P:Params):BT:=mkT 20 (l12 P)
def X12 (w:World) (os:OsState):SharedT:=⟨T12 w.params,589,{},#[],{},966,os⟩
def b0v13 (P:Params):=g0 P (o2v1 P) (o3v13 P) o12v13
def b18v1 (P:Params):List Obj:=[zz,o577,ee,o579,o580,o581,ee,zz,o584,ee,o586,o587,o588,ee,o590,o591 P,ee,o593,o594,o595,ee,zz,o598,ee,o600,o601,o602,ee,zz,o605,ee,o607]
def b19v0 (P:Params):List Obj:=[o608,o609,ee,zz,o612,ee,o614,o615,o616,ee,zz,o619,ee,o621,o622,o623,ee,zz,o626,ee,o628,o629,o630,o631,o632 P,o633,o634,o635,o636,o637]
def l13 (P:Params):List Obj:=b0v13 P++(b1v0 P++(b2v0 P++(b3v1 P++(b4v1 P++(b5v4 P++(b6v3 P++(b7v1 P++(b8v0 P++(b9v0 P++(b10v1 P++(b11v0 P++(b12v1 P++(b13v0 P++(b14v1 P++(b15v0 P++(b16v0 P++(b17v1 P++(b18v1 P++(b19v0 P)))))))))))))))))))
def T13 (P:Params):BT:=mkT 20 (l13 P)
def X13 (w:World) (os:OsState):SharedT:=⟨T13 w.params,638,{},#[],{},1029,os⟩
def b0v14 (P:Params):=g0 P (o2v1 P) (o3v14 P) o12v14
def b19v1 (P:Params):List Obj:=[o608,o609,ee,zz,o612,ee,o614,o615,o616,ee,zz,o619,ee,o621,o622,o623,ee,zz,o626,ee,o628,o629,o630,o631,o632 P,o633,o634,o635,o636,o637,ee,o639]
def b20v0 (P:Params):List Obj:=[o640 P,ee,o642,o643,o644,ee,zz,o647,ee,o649,o650,o651,ee,zz,o654,ee,o656,o657,o658,ee,zz,o661,ee,o663,o664,o665,ee,zz,o668,ee,o670,o671]
def b21v0 (P:Params):List Obj:=[o672,o673,o674 P,o675,o676,o677,o678,o679]
def l14 (P:Params):List Obj:=b0v14 P++(b1v0 P++(b2v0 P++(b3v1 P++(b4v1 P++(b5v4 P++(b6v3 P++(b7v1 P++(b8v0 P++(b9v0 P++(b10v1 P++(b11v0 P++(b12v1 P++(b13v0 P++(b14v1 P++(b15v0 P++(b16v0 P++(b17v1 P++(b18v1 P++(b19v1 P++(b20v0 P++(b21v0 P)))))))))))))))))))))
def T14 (P:Params):BT:=mkT 20 (l14 P)
def X14 (w:World) (os:OsState):SharedT:=⟨T14 w.params,680,{},#[],{},1086,os⟩
def b0v15 (P:Params):=g0 P (o2v1 P) (o3v15 P) o12v15
def b21v1 (P:Params):List Obj:=[o672,o673,o674 P,o675,o676,o677,o678,o679,ee,o681,o682 P,ee,o684,o685,o686,ee,zz,o689,ee,o691,o692,o693,ee,zz,o696,ee,o698,o699,o700,ee,zz,o703]
def b22v0 (P:Params):List Obj:=[ee,o705,o706,o707,o708,o709 P,o710,o711,o712,o713,o714,ee,zz,o717,ee,o719,o720,o721,o722,ee,zz,o725,ee,o727,o728,o729,ee,zz,o732,ee,o734,o735]
def b23v0 (P:Params):List Obj:=[o736,ee,zz,o739,ee,o741,o742,o743]
def l15 (P:Params):List Obj:=b0v15 P++(b1v0 P++(b2v0 P++(b3v1 P++(b4v1 P++(b5v4 P++(b6v3 P++(b7v1 P++(b8v0 P++(b9v0 P++(b10v1 P++(b11v0 P++(b12v1 P++(b13v0 P++(b14v1 P++(b15v0 P++(b16v0 P++(b17v1 P++(b18v1 P++(b19v1 P++(b20v0 P++(b21v1 P++(b22v0 P++(b23v0 P)))))))))))))))))))))))
def T15 (P:Params):BT:=mkT 20 (l15 P)
def X15 (w:World) (os:OsState):SharedT:=⟨T15 w.params,744,{},#[],{},1171,os⟩
def b0v16 (P:Params):=g0 P (o2v1 P) (o3v16 P) o12v16
def b23v1 (P:Params):List Obj:=[o736,ee,zz,o739,ee,o741,o742,o743,o744,ee,zz,o747,ee,o749,o750,o751,ee,zz,o754,ee,o756,o757,o758,o759,o760,ee,o762,o763 P,ee,o765,o766,o767]
def b24v0 (P:Params):List Obj:=[ee,zz,o770,ee,o772,o773,o774,o775,o776 P,o777,o778,o779,o780,o781,ee,zz,o784,ee,o786,o787,o788,ee,zz,o791,ee,o793,o794,o795]
def l16 (P:Params):List Obj:=b0v16 P++(b1v0 P++(b2v0 P++(b3v1 P++(b4v1 P++(b5v4 P++(b6v3 P++(b7v1 P++(b8v0 P++(b9v0 P++(b10v1 P++(b11v0 P++(b12v1 P++(b13v0 P++(b14v1 P++(b15v0 P++(b16v0 P++(b17v1 P++(b18v1 P++(b19v1 P++(b20v0 P++(b21v1 P++(b22v0 P++(b23v1 P++(b24v0 P))))))))))))))))))))))))
def T16 (P:Params):BT:=mkT 20 (l16 P)
def X16 (w:World) (os:OsState):SharedT:=⟨T16 w.params,796,{},#[],{},1269,os⟩
def b0v17 (P:Params):=g0 P (o2v1 P) (o3v17 P) o12v17
def b24v1 (P:Params):List Obj:=[ee,zz,o770,ee,o772,o773,o774,o775,o776 P,o777,o778,o779,o780,o781,ee,zz,o784,ee,o786,o787,o788,ee,zz,o791,ee,o793,o794,o795,ee,o797,o798 P,ee]
def b25v0 (P:Params):List Obj:=[o800,o801,o802,ee,zz,o805,ee,o807,o808,o809,ee,zz,o812,ee,o814,o815,o816,ee,zz,o819,ee,o821,o822,o823,ee,zz,o826,ee,o828,o829,o830,ee]
def b26v0 (P:Params):List Obj:=[zz,o833,ee,o835,o836,o837,ee,zz,o840,ee,o842,o843,o844,ee,zz,o847,ee,o849,o850,o851,ee,zz,o854,ee,o856,o857,o858,ee,zz,o861,ee,o863]
def b27v0 (P:Params):List Obj:=[o864,o865,ee,zz,o868,ee,o870,o871,o872,o873,o874 P,o875,o876,o877,o878,o879]
def l17 (P:Params):List Obj:=b0v17 P++(b1v0 P++(b2v0 P++(b3v1 P++(b4v1 P++(b5v4 P++(b6v3 P++(b7v1 P++(b8v0 P++(b9v0 P++(b10v1 P++(b11v0 P++(b12v1 P++(b13v0 P++(b14v1 P++(b15v0 P++(b16v0 P++(b17v1 P++(b18v1 P++(b19v1 P++(b20v0 P++(b21v1 P++(b22v0 P++(b23v1 P++(b24v1 P++(b25v0 P++(b26v0 P++(b27v0 P)))))))))))))))))))))))))))
def T17 (P:Params):BT:=mkT 20 (l17 P)
def X17 (w:World) (os:OsState):SharedT:=⟨T17 w.params,880,{},#[],{},1406,os⟩
def b0v18 (P:Params):=g0 P (o2v1 P) (o3v18 P) o12v18
def b27v1 (P:Params):List Obj:=[o864,o865,ee,zz,o868,ee,o870,o871,o872,o873,o874 P,o875,o876,o877,o878,o879,ee,zz,o882,ee,o884,o885,o886,ee,zz,o889,ee,o891,o892,o893,ee,zz]
def b28v0 (P:Params):List Obj:=[o896,ee,o898,o899,o900,ee,zz,o903,ee,o905,o906,o907,o908,ee,zz,o911,ee,o913,o914,o915,ee,o917,o918 P,ee,o920,o921,o922,o923,ee,zz,o926,ee]
def b29v0 (P:Params):List Obj:=[o928,o929,o930,o931,o932 P,o933,o934,o935,o936,o937]
def l18 (P:Params):List Obj:=b0v18 P++(b1v0 P++(b2v0 P++(b3v1 P++(b4v1 P++(b5v4 P++(b6v3 P++(b7v1 P++(b8v0 P++(b9v0 P++(b10v1 P++(b11v0 P++(b12v1 P++(b13v0 P++(b14v1 P++(b15v0 P++(b16v0 P++(b17v1 P++(b18v1 P++(b19v1 P++(b20v0 P++(b21v1 P++(b22v0 P++(b23v1 P++(b24v1 P++(b25v0 P++(b26v0 P++(b27v1 P++(b28v0 P++(b29v0 P)))))))))))))))))))))))))))))
def T18 (P:Params):BT:=mkT 20 (l18 P)
def X18 (w:World) (os:OsState):SharedT:=⟨T18 w.params,938,{},#[],{},1495,os⟩
def b0v19 (P:Params):=g0 P (o2v1 P) (o3v19 P) o12v19
def b29v1 (P:Params):List Obj:=[o928,o929,o930,o931,o932 P,o933,o934,o935,o936,o937,ee,o939,o940 P,ee,o942,o943,o944,ee,zz,o947,ee,o949,o950,o951,ee,zz,o954,ee,o956,o957,o958,ee]
def b30v0 (P:Params):List Obj:=[zz,o961,ee,o963,o964,o965,o966,o967 P,o968,o969,o970,o971,o972,ee,zz,o975,ee,o977,o978,o979,ee,zz,o982,ee,o984,o985,o986]
def l19 (P:Params):List Obj:=b0v19 P++(b1v0 P++(b2v0 P++(b3v1 P++(b4v1 P++(b5v4 P++(b6v3 P++(b7v1 P++(b8v0 P++(b9v0 P++(b10v1 P++(b11v0 P++(b12v1 P++(b13v0 P++(b14v1 P++(b15v0 P++(b16v0 P++(b17v1 P++(b18v1 P++(b19v1 P++(b20v0 P++(b21v1 P++(b22v0 P++(b23v1 P++(b24v1 P++(b25v0 P++(b26v0 P++(b27v1 P++(b28v0 P++(b29v1 P++(b30v0 P))))))))))))))))))))))))))))))
def T19 (P:Params):BT:=mkT 20 (l19 P)
def X19 (w:World) (os:OsState):SharedT:=⟨T19 w.params,987,{},#[],{},1561,os⟩
def b0v20 (P:Params):=g0 P (o2v1 P) (o3v20 P) o12v20
def b30v1 (P:Params):List Obj:=[zz,o961,ee,o963,o964,o965,o966,o967 P,o968,o969,o970,o971,o972,ee,zz,o975,ee,o977,o978,o979,ee,zz,o982,ee,o984,o985,o986,ee,o988,o989 P,ee,o991]
def b31v0 (P:Params):List Obj:=[o992,o993,o994,ee,zz,o997,ee,o999,o1000,o1001,o1002,ee,zz,o1005,ee,o1007,o1008,o1009,ee,zz,o1012,ee,o1014,o1015,o1016,ee,zz,o1019,ee,o1021,o1022,o1023]
def b32v0 (P:Params):List Obj:=[ee,zz,o1026,ee,o1028,o1029,o1030,ee,zz,o1033,ee,o1035,o1036,o1037,ee,zz,o1040,ee,o1042,o1043,o1044,ee,zz,o1047,ee,o1049,o1050,o1051,ee,zz,o1054,ee]
def b33v0 (P:Params):List Obj:=[o1056,o1057,o1058,ee,zz,o1061,ee,o1063,o1064,o1065,o1066,o1067 P,o1068,o1069,o1070,o1071,o1072]
def l20 (P:Params):List Obj:=b0v20 P++(b1v0 P++(b2v0 P++(b3v1 P++(b4v1 P++(b5v4 P++(b6v3 P++(b7v1 P++(b8v0 P++(b9v0 P++(b10v1 P++(b11v0 P++(b12v1 P++(b13v0 P++(b14v1 P++(b15v0 P++(b16v0 P++(b17v1 P++(b18v1 P++(b19v1 P++(b20v0 P++(b21v1 P++(b22v0 P++(b23v1 P++(b24v1 P++(b25v0 P++(b26v0 P++(b27v1 P++(b28v0 P++(b29v1 P++(b30v1 P++(b31v0 P++(b32v0 P++(b33v0 P)))))))))))))))))))))))))))))))))
def T20 (P:Params):BT:=mkT 20 (l20 P)
def X20 (w:World) (os:OsState):SharedT:=⟨T20 w.params,1073,{},#[],{},1672,os⟩
def b0v21 (P:Params):=g0 P (o2v1 P) (o3v21 P) o12v21
def b33v1 (P:Params):List Obj:=[o1056,o1057,o1058,ee,zz,o1061,ee,o1063,o1064,o1065,o1066,o1067 P,o1068,o1069,o1070,o1071,o1072,ee,zz,o1075,ee,o1077,o1078,o1079,ee,zz,o1082,ee,o1084,o1085,o1086,ee]
def b34v0 (P:Params):List Obj:=[zz,o1089,ee,o1091,o1092,o1093,ee,zz,o1096,ee,o1098,o1099,o1100,ee,zz,o1103,ee,o1105,o1106,o1107,ee,zz,o1110,ee,o1112,o1113,o1114,ee,zz,o1117,ee,o1119]
def b35v0 (P:Params):List Obj:=[o1120,o1121,ee,zz,o1124,ee,o1126,o1127,o1128,ee,zz,o1131,ee,o1133,o1134,o1135,ee,zz,o1138,ee,o1140,o1141,o1142,ee,zz,o1145,ee,o1147,o1148,o1149,ee,zz]
def b36v0 (P:Params):List Obj:=[o1152,ee,o1154,o1155,o1156]
def l21 (P:Params):List Obj:=b0v21 P++(b1v0 P++(b2v0 P++(b3v1 P++(b4v1 P++(b5v4 P++(b6v3 P++(b7v1 P++(b8v0 P++(b9v0 P++(b10v1 P++(b11v0 P++(b12v1 P++(b13v0 P++(b14v1 P++(b15v0 P++(b16v0 P++(b17v1 P++(b18v1 P++(b19v1 P++(b20v0 P++(b21v1 P++(b22v0 P++(b23v1 P++(b24v1 P++(b25v0 P++(b26v0 P++(b27v1 P++(b28v0 P++(b29v1 P++(b30v1 P++(b31v0 P++(b32v0 P++(b33v1 P++(b34v0 P++(b35v0 P++(b36v0 P))))))))))))))))))))))))))))))))))))
def T21 (P:Params):BT:=mkT 20 (l21 P)
def X21 (w:World) (os:OsState):SharedT:=⟨T21 w.params,1157,{},#[],{},1805,os⟩
def b0v22 (P:Params):=g0 P (o2v1 P) (o3v22 P) o12v22
def b36v1 (P:Params):List Obj:=[o1152,ee,o1154,o1155,o1156,ee,zz,o1159,ee,o1161,o1162,o1163,ee,zz,o1166,o1167,o1168,ee,zz,o1171,o1172,o1173]
def l22 (P:Params):List Obj:=b0v22 P++(b1v0 P++(b2v0 P++(b3v1 P++(b4v1 P++(b5v4 P++(b6v3 P++(b7v1 P++(b8v0 P++(b9v0 P++(b10v1 P++(b11v0 P++(b12v1 P++(b13v0 P++(b14v1 P++(b15v0 P++(b16v0 P++(b17v1 P++(b18v1 P++(b19v1 P++(b20v0 P++(b21v1 P++(b22v0 P++(b23v1 P++(b24v1 P++(b25v0 P++(b26v0 P++(b27v1 P++(b28v0 P++(b29v1 P++(b30v1 P++(b31v0 P++(b32v0 P++(b33v1 P++(b34v0 P++(b35v0 P++(b36v1 P))))))))))))))))))))))))))))))))))))
def T22 (P:Params):BT:=mkT 20 (l22 P)
def X22 (w:World) (os:OsState):SharedT:=⟨T22 w.params,1174,{},#[],{},1824,os⟩
def envv:Env:={ scope:=pr.main.scope,locals:=mainNs,globals:=mainNs,cells:=[],code:=.ref 13,frame:=some 14 }
abbrev tf:Frame:=topFrame ⟨0,0,0,0⟩
def stL (i n:Nat):List Stmt:=(pr.main.body.drop i).take n
theorem pc0 (w:World) (os:OsState) (p:Program) (b:List Stmt):segRunT treeTable p w 11 (some (.ref 6)) 1 396 (X0 w os) (piecesOf (stL 0 15) envv (.body b envv) ⟨0,0,0,0⟩ [tf])=some (.next,X1 w os,.body b envv,⟨41,0,42,69⟩):=by
 rw [PySem.W.Fast.te10110043849684766642,PySem.W.Fast.te14364793385576792824]
 kernel_rfl
theorem pc1 (w:World) (os:OsState) (p:Program) (b:List Stmt):segRunT treeTable p w 11 (some (.ref 6)) 1 400 (X1 w os) (piecesOf (stL 15 6) envv (.body b envv) ⟨41,0,42,69⟩ [tf])=some (.next,X2 w os,.body b envv,⟨71,0,71,8⟩):=by
 rw [PySem.W.Fast.te10110043849684766642,PySem.W.Fast.te14364793385576792824]
 kernel_rfl
theorem pc2 (w:World) (os:OsState) (p:Program) (b:List Stmt):segRunT treeTable p w 11 (some (.ref 6)) 1 229 (X2 w os) (piecesOf (stL 21 1) envv (.body b envv) ⟨71,0,71,8⟩ [tf])=some (.next,X3 w os,.body b envv,⟨72,0,76,30⟩):=by
 rw [PySem.W.Fast.te10110043849684766642,PySem.W.Fast.te14364793385576792824]
 kernel_rfl
theorem pc3 (w:World) (os:OsState) (p:Program) (b:List Stmt):segRunT treeTable p w 11 (some (.ref 6)) 1 249 (X3 w os) (piecesOf (stL 22 1) envv (.body b envv) ⟨72,0,76,30⟩ [tf])=some (.next,X4 w os,.body b envv,⟨77,0,81,26⟩):=by
 rw [PySem.W.Fast.te10110043849684766642,PySem.W.Fast.te14364793385576792824]
 kernel_rfl
theorem pc4 (w:World) (os:OsState) (p:Program) (b:List Stmt):segRunT treeTable p w 11 (some (.ref 6)) 1 214 (X4 w os) (piecesOf (stL 23 1) envv (.body b envv) ⟨77,0,81,26⟩ [tf])=some (.next,X5 w os,.body b envv,⟨82,0,83,8⟩):=by
 rw [PySem.W.Fast.te10110043849684766642,PySem.W.Fast.te14364793385576792824]
 kernel_rfl
theorem pc5 (w:World) (os:OsState) (p:Program) (b:List Stmt):segRunT treeTable p w 11 (some (.ref 6)) 1 214 (X5 w os) (piecesOf (stL 24 1) envv (.body b envv) ⟨82,0,83,8⟩ [tf])=some (.next,X6 w os,.body b envv,⟨84,0,85,8⟩):=by
 rw [PySem.W.Fast.te10110043849684766642,PySem.W.Fast.te14364793385576792824]
 kernel_rfl
theorem pc6 (w:World) (os:OsState) (p:Program) (b:List Stmt):segRunT treeTable p w 11 (some (.ref 6)) 1 258 (X6 w os) (piecesOf (stL 25 2) envv (.body b envv) ⟨84,0,85,8⟩ [tf])=some (.next,X7 w os,.body b envv,⟨91,0,91,8⟩):=by
 rw [PySem.W.Fast.te10110043849684766642,PySem.W.Fast.te14364793385576792824]
 kernel_rfl
theorem pc7 (w:World) (os:OsState) (p:Program) (b:List Stmt):segRunT treeTable p w 11 (some (.ref 6)) 1 637 (X7 w os) (piecesOf (stL 27 1) envv (.body b envv) ⟨91,0,91,8⟩ [tf])=some (.next,X8 w os,.body b envv,⟨92,0,160,69⟩):=by
 rw [PySem.W.Fast.te10110043849684766642,PySem.W.Fast.te14364793385576792824]
 kernel_rfl
theorem pc8 (w:World) (os:OsState) (p:Program) (b:List Stmt):segRunT treeTable p w 11 (some (.ref 6)) 1 417 (X8 w os) (piecesOf (stL 28 7) envv (.body b envv) ⟨92,0,160,69⟩ [tf])=some (.next,X9 w os,.body b envv,⟨198,0,211,46⟩):=by
 rw [PySem.W.Fast.te10110043849684766642,PySem.W.Fast.te14364793385576792824]
 kernel_rfl
theorem pc9 (w:World) (os:OsState) (p:Program) (b:List Stmt):segRunT treeTable p w 11 (some (.ref 6)) 1 358 (X9 w os) (piecesOf (stL 35 6) envv (.body b envv) ⟨198,0,211,46⟩ [tf])=some (.next,X10 w os,.body b envv,⟨251,0,256,28⟩):=by
 rw [PySem.W.Fast.te10110043849684766642,PySem.W.Fast.te14364793385576792824]
 kernel_rfl
theorem pc10 (w:World) (os:OsState) (p:Program) (b:List Stmt):segRunT treeTable p w 11 (some (.ref 6)) 1 589 (X10 w os) (piecesOf (stL 41 1) envv (.body b envv) ⟨251,0,256,28⟩ [tf])=some (.next,X11 w os,.body b envv,⟨257,0,305,16⟩):=by
 rw [PySem.W.Fast.te10110043849684766642,PySem.W.Fast.te14364793385576792824]
 kernel_rfl
theorem pc11 (w:World) (os:OsState) (p:Program) (b:List Stmt):segRunT treeTable p w 11 (some (.ref 6)) 1 206 (X11 w os) (piecesOf (stL 42 11) envv (.body b envv) ⟨257,0,305,16⟩ [tf])=some (.next,X12 w os,.body b envv,⟨354,0,354,12⟩):=by
 rw [PySem.W.Fast.te10110043849684766642,PySem.W.Fast.te14364793385576792824]
 kernel_rfl
theorem pc12 (w:World) (os:OsState) (p:Program) (b:List Stmt):segRunT treeTable p w 11 (some (.ref 6)) 1 353 (X12 w os) (piecesOf (stL 53 1) envv (.body b envv) ⟨354,0,354,12⟩ [tf])=some (.next,X13 w os,.body b envv,⟨355,0,379,27⟩):=by
 rw [PySem.W.Fast.te10110043849684766642,PySem.W.Fast.te14364793385576792824]
 kernel_rfl
theorem pc13 (w:World) (os:OsState) (p:Program) (b:List Stmt):segRunT treeTable p w 11 (some (.ref 6)) 1 323 (X13 w os) (piecesOf (stL 54 1) envv (.body b envv) ⟨355,0,379,27⟩ [tf])=some (.next,X14 w os,.body b envv,⟨380,0,402,19⟩):=by
 rw [PySem.W.Fast.te10110043849684766642,PySem.W.Fast.te14364793385576792824]
 kernel_rfl
theorem pc14 (w:World) (os:OsState) (p:Program) (b:List Stmt):segRunT treeTable p w 11 (some (.ref 6)) 1 416 (X14 w os) (piecesOf (stL 55 5) envv (.body b envv) ⟨380,0,402,19⟩ [tf])=some (.next,X15 w os,.body b envv,⟨439,0,442,15⟩):=by
 rw [PySem.W.Fast.te10110043849684766642,PySem.W.Fast.te14364793385576792824]
 kernel_rfl
theorem pc15 (w:World) (os:OsState) (p:Program) (b:List Stmt):segRunT treeTable p w 11 (some (.ref 6)) 1 413 (X15 w os) (piecesOf (stL 60 9) envv (.body b envv) ⟨439,0,442,15⟩ [tf])=some (.next,X16 w os,.body b envv,⟨493,0,499,31⟩):=by
 rw [PySem.W.Fast.te10110043849684766642,PySem.W.Fast.te14364793385576792824]
 kernel_rfl
theorem pc16 (w:World) (os:OsState) (p:Program) (b:List Stmt):segRunT treeTable p w 11 (some (.ref 6)) 1 547 (X16 w os) (piecesOf (stL 69 1) envv (.body b envv) ⟨493,0,499,31⟩ [tf])=some (.next,X17 w os,.body b envv,⟨500,0,614,62⟩):=by
 rw [PySem.W.Fast.te10110043849684766642,PySem.W.Fast.te14364793385576792824]
 kernel_rfl
theorem pc17 (w:World) (os:OsState) (p:Program) (b:List Stmt):segRunT treeTable p w 11 (some (.ref 6)) 1 416 (X17 w os) (piecesOf (stL 70 9) envv (.body b envv) ⟨500,0,614,62⟩ [tf])=some (.next,X18 w os,.body b envv,⟨666,0,670,34⟩):=by
 rw [PySem.W.Fast.te10110043849684766642,PySem.W.Fast.te14364793385576792824]
 kernel_rfl
theorem pc18 (w:World) (os:OsState) (p:Program) (b:List Stmt):segRunT treeTable p w 11 (some (.ref 6)) 1 352 (X18 w os) (piecesOf (stL 79 3) envv (.body b envv) ⟨666,0,670,34⟩ [tf])=some (.next,X19 w os,.body b envv,⟨687,0,694,25⟩):=by
 rw [PySem.W.Fast.te10110043849684766642,PySem.W.Fast.te14364793385576792824]
 kernel_rfl
theorem pc19 (w:World) (os:OsState) (p:Program) (b:List Stmt):segRunT treeTable p w 11 (some (.ref 6)) 1 523 (X19 w os) (piecesOf (stL 82 1) envv (.body b envv) ⟨687,0,694,25⟩ [tf])=some (.next,X20 w os,.body b envv,⟨695,0,743,50⟩):=by
 rw [PySem.W.Fast.te10110043849684766642,PySem.W.Fast.te14364793385576792824]
 kernel_rfl
theorem pc20 (w:World) (os:OsState) (p:Program) (b:List Stmt):segRunT treeTable p w 11 (some (.ref 6)) 1 405 (X20 w os) (piecesOf (stL 83 13) envv (.body b envv) ⟨695,0,743,50⟩ [tf])=some (.next,X21 w os,.body b envv,⟨819,0,830,39⟩):=by
 rw [PySem.W.Fast.te10110043849684766642,PySem.W.Fast.te14364793385576792824]
 kernel_rfl
theorem pc21 (w:World) (os:OsState) (p:Program) (b:List Stmt):segRunT treeTable p w 11 (some (.ref 6)) 1 82 (X21 w os) (piecesOf (stL 96 3) envv (.body b envv) ⟨819,0,830,39⟩ [tf])=some (.next,X22 w os,.body b envv,⟨853,0,870,77⟩):=by
 rw [PySem.W.Fast.te10110043849684766642,PySem.W.Fast.te14364793385576792824]
 kernel_rfl
end
end Mine.Top
end
section
namespace Mine.Top
noncomputable abbrev bE:List Stmt:=behindTheImports pr
theorem preT (w:World) (os:OsState):topGo treeTable pr w 11 (some (.ref 6)) 12 ⟨boot_heap w.params,#[],boot_drawn,boot_toks,os⟩ (topStub pr)=some ((X0 w os).abs,⟨denote treeTable (.body bE envv),.body bE envv,⟨0,0,0,0⟩,[tf]⟩):=by
 kernel_rfl
theorem blockT (w:World) (os:OsState):segRun treeTable pr w 11 (some (.ref 6)) 1 1 (X0 w os).abs (blockOf bE envv (.body bE envv) ⟨0,0,0,0⟩ [tf])=some (.next,(X0 w os).abs,.body bE envv,⟨0,0,0,0⟩):=by
 kernel_rfl
theorem finT (w:World) (os:OsState):topRun treeTable pr w 11 (some (.ref 6)) 2 (X22 w os).abs ⟨doneF .next,.body bE envv,⟨853,0,870,77⟩,[tf]⟩=some (X22 w os).abs:=by
 kernel_rfl
theorem openT {N:Nat} (hN:Nat.ble 600 N=true):∀ w:World,(fencedOpening treeTable pr w N).map (fun s=>(s.heap,s.gens,s.drawn,s.toks))=some (boot_heap w.params,Array.mk [],boot_drawn,boot_toks):=
 boot_open (by kernel_rfl) hN (fun s=>by kernel_rfl)
theorem sizeT (w:World):((boot_heap w.params).isNs mainGlobals&&(#[]:Array GenState).size==0,(boot_heap w.params).objs.size,(boot_heap w.params).nsMap mainGlobals "__annotations__")=(true,11,some (.ref 6)):=by
 kernel_rfl
theorem restT:bE=(stL 0 15++(stL 15 6++(stL 21 1++(stL 22 1++(stL 23 1++(stL 24 1++(stL 25 2++(stL 27 1++(stL 28 7++(stL 35 6++(stL 41 1++(stL 42 11++(stL 53 1++(stL 54 1++(stL 55 5++(stL 60 9++(stL 69 1++(stL 70 9++(stL 79 3++(stL 82 1++(stL 83 13++(stL 96 3++[])))))))))))))))))))))):=by kernel_rfl
theorem runT (w:World) (os:OsState):topRun treeTable pr w 11 (some (.ref 6)) (12+(1+(396+(400+(229+(249+(214+(214+(258+(637+(417+(358+(589+(206+(353+(323+(416+(413+(547+(416+(352+(523+(405+(82+2)))))))))))))))))))))))) ⟨boot_heap w.params,#[],boot_drawn,boot_toks,os⟩ (topStub pr)=some (X22 w os).abs:=by
 refine go_top (preT w os) (piece_block (blockT w os) ?_)
 have k:=piece_app (segRun_of (pc0 w os pr bE)) (piece_app (segRun_of (pc1 w os pr bE)) (piece_app (segRun_of (pc2 w os pr bE)) (piece_app (segRun_of (pc3 w os pr bE)) (piece_app (segRun_of (pc4 w os pr bE)) (piece_app (segRun_of (pc5 w os pr bE)) (piece_app (segRun_of (pc6 w os pr bE)) (piece_app (segRun_of (pc7 w os pr bE)) (piece_app (segRun_of (pc8 w os pr bE)) (piece_app (segRun_of (pc9 w os pr bE)) (piece_app (segRun_of (pc10 w os pr bE)) (piece_app (segRun_of (pc11 w os pr bE)) (piece_app (segRun_of (pc12 w os pr bE)) (piece_app (segRun_of (pc13 w os pr bE)) (piece_app (segRun_of (pc14 w os pr bE)) (piece_app (segRun_of (pc15 w os pr bE)) (piece_app (segRun_of (pc16 w os pr bE)) (piece_app (segRun_of (pc17 w os pr bE)) (piece_app (segRun_of (pc18 w os pr bE)) (piece_app (segRun_of (pc19 w os pr bE)) (piece_app (segRun_of (pc20 w os pr bE)) (piece_app (segRun_of (pc21 w os pr bE)) (piece_nil (finT w os)))))))))))))))))))))))
 exact (congrArg (fun l=>topRun treeTable pr w 11 (some (.ref 6)) _ (X0 w os).abs (restOf l envv (.body bE envv) ⟨0,0,0,0⟩ [tf])) restT).trans k
noncomputable def asK:List Addr:=[2,3,9,13,20,21,22,23,24,25,26,27,28,29,30,31,32,33,34,35,36,37,38,39,40,41,42,48,49,55,56,62,63,69,70,76,77,83,84,90,91,97,98,104,105,111,112,118,125,126,132,133,139,140,142,143,153,154,160,167,168,170,171,180,182,188,189,191,192,200,203,204,212,215,216,224,226,232,233,235,236,244,251,252,258,259,265,266,272,273,279,280,286,287,293,294,300,301,307,308,314,315,321,322,328,329,335,336,342,343,345,346,356,357,358,364,365,371,378,379,385,386,392,393,395,396,406,407,413,414,420,421,427,428,434,435,441,448,449,451,452,462,469,470,476,477,483,484,490,491,497,498,504,505,511,512,518,519,525,526,532,533,539,540,546,547,549,550,560,561,567,568,572,573,574,580,581,587,588,594,601,602,608,609,615,616,622,623,629,630,632,633,643,650,651,657,658,664,665,671,672,674,675,685,692,693,699,700,706,707,709,710,720,721,722,728,729,735,736,742,743,744,750,751,757,758,759,760,766,773,774,776,777,787,788,794,795,801,808,809,815,816,822,823,829,830,836,837,843,844,850,851,857,858,864,865,871,872,874,875,885,886,892,893,899,900,906,907,908,914,915,921,923,929,930,932,933,943,950,951,957,958,964,965,967,968,978,979,985,986,992,994,1000,1001,1002,1008,1009,1015,1016,1022,1023,1029,1030,1036,1037,1043,1044,1050,1051,1057,1058,1064,1065,1067,1068,1078,1079,1085,1086,1092,1093,1099,1100,1106,1107,1113,1114,1120,1121,1127,1128,1134,1135,1141,1142,1148,1149,1155,1156,1162,1163,1167,1168,1172,1173]
noncomputable def KK (P:Params):Frag:=[(2,o2v1 P),(3,o3v22 P),(9,o9),(13,o13),(20,o20),(21,o21),(22,o22),(23,o23),(24,o24),(25,o25),(26,o26),(27,o27),(28,o28),(29,o29),(30,o30),(31,o31),(32,o32),(33,o33),(34,o34),(35,o35),(36,o36),(37,o37),(38,o38),(39,o39),(40,o40),(41,o41),(42,o42),(48,o48),(49,o49),(55,o55),(56,o56),(62,o62),(63,o63),(69,o69),(70,o70),(76,o76),(77,o77),(83,o83),(84,o84),(90,o90),(91,o91),(97,o97),(98,o98),(104,o104),(105,o105),(111,o111),(112,o112),(118,o118),(125,o125),(126,o126),(132,o132),(133,o133),(139,o139),(140,o140),(142,o142 P),(143,o143),(153,o153),(154,o154),(160,o160),(167,o167),(168,o168),(170,o170 P),(171,o171v4),(180,o180),(182,o182),(188,o188),(189,o189),(191,o191 P),(192,o192),(200,o200),(203,o203 P),(204,o204),(212,o212),(215,o215 P),(216,o216),(224,o224),(226,o226),(232,o232),(233,o233),(235,o235 P),(236,o236),(244,o244),(251,o251),(252,o252),(258,o258),(259,o259),(265,o265),(266,o266),(272,o272),(273,o273),(279,o279),(280,o280),(286,o286),(287,o287),(293,o293),(294,o294),(300,o300),(301,o301),(307,o307),(308,o308),(314,o314),(315,o315),(321,o321),(322,o322),(328,o328),(329,o329),(335,o335),(336,o336),(342,o342),(343,o343),(345,o345 P),(346,o346),(356,o356),(357,o357),(358,o358),(364,o364),(365,o365),(371,o371),(378,o378),(379,o379),(385,o385),(386,o386),(392,o392),(393,o393),(395,o395 P),(396,o396),(406,o406),(407,o407),(413,o413),(414,o414),(420,o420),(421,o421),(427,o427),(428,o428),(434,o434),(435,o435),(441,o441),(448,o448),(449,o449),(451,o451 P),(452,o452),(462,o462),(469,o469),(470,o470),(476,o476),(477,o477),(483,o483),(484,o484),(490,o490),(491,o491),(497,o497),(498,o498),(504,o504),(505,o505),(511,o511),(512,o512),(518,o518),(519,o519),(525,o525),(526,o526),(532,o532),(533,o533),(539,o539),(540,o540),(546,o546),(547,o547),(549,o549 P),(550,o550),(560,o560),(561,o561),(567,o567),(568,o568),(572,o572),(573,o573),(574,o574),(580,o580),(581,o581),(587,o587),(588,o588),(594,o594),(601,o601),(602,o602),(608,o608),(609,o609),(615,o615),(616,o616),(622,o622),(623,o623),(629,o629),(630,o630),(632,o632 P),(633,o633),(643,o643),(650,o650),(651,o651),(657,o657),(658,o658),(664,o664),(665,o665),(671,o671),(672,o672),(674,o674 P),(675,o675),(685,o685),(692,o692),(693,o693),(699,o699),(700,o700),(706,o706),(707,o707),(709,o709 P),(710,o710),(720,o720),(721,o721),(722,o722),(728,o728),(729,o729),(735,o735),(736,o736),(742,o742),(743,o743),(744,o744),(750,o750),(751,o751),(757,o757),(758,o758),(759,o759),(760,o760),(766,o766),(773,o773),(774,o774),(776,o776 P),(777,o777),(787,o787),(788,o788),(794,o794),(795,o795),(801,o801),(808,o808),(809,o809),(815,o815),(816,o816),(822,o822),(823,o823),(829,o829),(830,o830),(836,o836),(837,o837),(843,o843),(844,o844),(850,o850),(851,o851),(857,o857),(858,o858),(864,o864),(865,o865),(871,o871),(872,o872),(874,o874 P),(875,o875),(885,o885),(886,o886),(892,o892),(893,o893),(899,o899),(900,o900),(906,o906),(907,o907),(908,o908),(914,o914),(915,o915),(921,o921),(923,o923),(929,o929),(930,o930),(932,o932 P),(933,o933),(943,o943),(950,o950),(951,o951),(957,o957),(958,o958),(964,o964),(965,o965),(967,o967 P),(968,o968),(978,o978),(979,o979),(985,o985),(986,o986),(992,o992),(994,o994),(1000,o1000),(1001,o1001),(1002,o1002),(1008,o1008),(1009,o1009),(1015,o1015),(1016,o1016),(1022,o1022),(1023,o1023),(1029,o1029),(1030,o1030),(1036,o1036),(1037,o1037),(1043,o1043),(1044,o1044),(1050,o1050),(1051,o1051),(1057,o1057),(1058,o1058),(1064,o1064),(1065,o1065),(1067,o1067 P),(1068,o1068),(1078,o1078),(1079,o1079),(1085,o1085),(1086,o1086),(1092,o1092),(1093,o1093),(1099,o1099),(1100,o1100),(1106,o1106),(1107,o1107),(1113,o1113),(1114,o1114),(1120,o1120),(1121,o1121),(1127,o1127),(1128,o1128),(1134,o1134),(1135,o1135),(1141,o1141),(1142,o1142),(1148,o1148),(1149,o1149),(1155,o1155),(1156,o1156),(1162,o1162),(1163,o1163),(1167,o1167),(1168,o1168),(1172,o1172),(1173,o1173)]
noncomputable def qq:Program:={ pr with main:={ pr.main with body:=[S 98] } }
noncomputable def loo:List Str:=pr.boundNames.filter fun x=>!(x==("law" : Str))
noncomputable abbrev H1 (P:Params):Heap:=absHeap (T22 P) 1174 {}
theorem look1 (w:World) (os:OsState):(staticsOk (importedModules pr.main.body) (boot_heap w.params) (H1 w.params)&&namesBound pr (H1 w.params)&&gensDone ⟨H1 w.params,#[],{},1824,os⟩&&laidKept (boot_heap w.params) (H1 w.params))=true:=by
 kernel_rfl
theorem look2 (w:World) (os:OsState):openSeen qq loo (importedModules pr.main.body) (fun _=>true) true ⟨H1 w.params,#[],{},1824,os⟩=openGood qq loo:=by
 kernel_rfl
theorem look3 (P:Params):asK.map (fun a=>(T22 P).get a >>= alive)=(KK P).map fun p=>some p.2:=by
 kernel_rfl
end Mine.Top
end
section
namespace Mine
open Mine.Top
structure Bun where
 w:World
 base:Heap
 mg:Str→Option Value
 mb:Str→Option Value
 os:OsState
noncomputable def XX (B:Bun):Cx:=⟨pr,B.w,KK B.w.params,B.base,qq,loo,B.mg,B.mb,B.os,236⟩
section
variable {B:Bun}
theorem exC:ExcC (XX B) 233:=.mk ⟨t226,t226,235,[.ref 171],[.ref 171,.type "Exception",.type "BaseException",.type "object"],true,[],[],false,none,none,some (.ref 219),none,some (.str t226 466),some (.str t226 474),some (.bool true)⟩ (by kernel_rfl) ⟨rfl,rfl,rfl,rfl⟩ (by kernel_rfl) (by kernel_rfl)
noncomputable def g_CHAR_RANGES:V:=.tup [.tup [.int 32,.int 55295],.tup [.int 57344,.int 65533],.tup [.int 65536,.int 1114111]]
noncomputable def g_HEX_DIGITS:V:=.str [48,49,50,51,52,53,54,55,56,57,97,98,99,100,101,102]
noncomputable def g_MORE_RANGES:V:=.tup [.tup [.int 183,.int 183],.tup [.int 768,.int 879],.tup [.int 8255,.int 8256]]
noncomputable def g_PLAIN_KINDS:V:=.tup [.str [67,68,65,84,65],.str [73,68,82,69,70,83],.str [73,68,82,69,70],.str [73,68],.str [69,78,84,73,84,73,69,83],.str [69,78,84,73,84,89],.str [78,77,84,79,75,69,78,83],.str [78,77,84,79,75,69,78]]
noncomputable def g_PUBLIC_SIGNS:V:=.str [32,13,10,45,39,40,41,43,44,46,47,58,61,63,59,33,42,35,64,36,95,37]
noncomputable def g_START_RANGES:V:=.tup [.tup [.int 192,.int 214],.tup [.int 216,.int 246],.tup [.int 248,.int 767],.tup [.int 880,.int 893],.tup [.int 895,.int 8191],.tup [.int 8204,.int 8205],.tup [.int 8304,.int 8591],.tup [.int 11264,.int 12271],.tup [.int 12289,.int 55295],.tup [.int 63744,.int 64975],.tup [.int 65008,.int 65533],.tup [.int 65536,.int 983039]]
noncomputable def g_WORDS:V:=.tup [.str [60,33,69,76,69,77,69,78,84],.str [60,33,65,84,84,76,73,83,84],.str [60,33,69,78,84,73,84,89],.str [60,33,78,79,84,65,84,73,79,78]]
noncomputable def i_49:IS:=.for_ (.tp [2,3]) (.loc 1) (.iff (.cmp .Lt (.loc 0) (.loc 2)) (.ret (.bln false)) .done (.iff (.cmp .LtE (.loc 0) (.loc 3)) (.ret (.bln true)) .done .done)) (.ret (.bln false))
noncomputable abbrev F_49:FD:=⟨49,["code", "ranges", "low", "high"],2,[],i_49⟩
theorem ok_49:FOK (XX B) F_49:=fok exC (by kernel_rfl) (by intro _ _ _;kernel_rfl)
noncomputable def i_56:IS:=.ret (.andc (.cmp .In (.loc 0) (.glo (.str [32,9,10,13]))) (.bop1 (.cmp .NotEq (.loc 0) (.sl []))))
noncomputable abbrev F_56:FD:=⟨56,["sign"],1,[],i_56⟩
theorem ok_56:FOK (XX B) F_56:=fok exC (by kernel_rfl) (by intro _ _;kernel_rfl)
noncomputable def i_63:IS:=.asg 1 (.bi .ord (.cons (.loc 0) .nil)) (.iff (.cmp .Lt (.loc 1) (.int 32)) (.ret (.cmp .In (.loc 0) (.glo (.str [32,9,10,13])))) .done (.ret (.call 49 (.cons (.loc 1) (.cons (.glo (g_CHAR_RANGES)) .nil)))))
noncomputable abbrev F_63:FD:=⟨63,["sign", "code"],1,[],i_63⟩
theorem ok_63:FOK (XX B) F_63:=fok exC (by kernel_rfl) (by intro _ _;kernel_rfl)
noncomputable def i_70:IS:=.ret (.cmp2 .LtE .LtE (.sl [97]) (.loc 0) (.sl [122]))
noncomputable abbrev F_70:FD:=⟨70,["sign"],1,[],i_70⟩
theorem ok_70:FOK (XX B) F_70:=fok exC (by kernel_rfl) (by intro _ _;kernel_rfl)
noncomputable def i_77:IS:=.iff (.cmp .Lt (.bi .ord (.cons (.loc 0) .nil)) (.glo (.int 128))) (.ret (.orc (.call 70 (.cons (.loc 0) .nil)) (.orc (.cmp2 .LtE .LtE (.sl [65]) (.loc 0) (.sl [90])) (.orc (.cmp .Eq (.loc 0) (.sl [95])) (.bop1 (.cmp .Eq (.loc 0) (.sl [58]))))))) .done (.ret (.call 49 (.cons (.bi .ord (.cons (.loc 0) .nil)) (.cons (.glo (g_START_RANGES)) .nil))))
noncomputable abbrev F_77:FD:=⟨77,["sign"],1,[],i_77⟩
theorem ok_77:FOK (XX B) F_77:=fok exC (by kernel_rfl) (by intro _ _;kernel_rfl)
noncomputable def i_84:IS:=.iff (.call 77 (.cons (.loc 0) .nil)) (.ret (.bln true)) .done (.iff (.cmp .Lt (.bi .ord (.cons (.loc 0) .nil)) (.glo (.int 128))) (.ret (.orc (.cmp2 .LtE .LtE (.sl [48]) (.loc 0) (.sl [57])) (.orc (.cmp .Eq (.loc 0) (.sl [45])) (.bop1 (.cmp .Eq (.loc 0) (.sl [46])))))) .done (.ret (.call 49 (.cons (.bi .ord (.cons (.loc 0) .nil)) (.cons (.glo (g_MORE_RANGES)) .nil)))))
noncomputable abbrev F_84:FD:=⟨84,["sign"],1,[],i_84⟩
theorem ok_84:FOK (XX B) F_84:=fok exC (by kernel_rfl) (by intro _ _;kernel_rfl)
noncomputable def i_91:IS:=.for_ (.nm 1) (.loc 0) (.iff (.not (.call 84 (.cons (.loc 1) .nil))) (.ret (.bln false)) .done .done) (.ret (.cmp .NotEq (.loc 0) (.sl [])))
noncomputable abbrev F_91:FD:=⟨91,["text", "sign"],1,[],i_91⟩
theorem ok_91:FOK (XX B) F_91:=fok exC (by kernel_rfl) (by intro _ _;kernel_rfl)
noncomputable def i_98:IS:=.ret (.andc (.cmp .NotEq (.loc 0) (.sl [])) (.andc (.call 77 (.cons (.item (.loc 0) (.int 0)) .nil)) (.bop1 (.call 91 (.cons (.loc 0) .nil)))))
noncomputable abbrev F_98:FD:=⟨98,["text"],1,[],i_98⟩
theorem ok_98:FOK (XX B) F_98:=fok exC (by kernel_rfl) (by intro _ _;kernel_rfl)
noncomputable def i_105:IS:=.swp 1 2 (.lst .nil) (.int 0) (.for_ (.nm 3) (.bi .range (.cons (.bin .Add (.bi .len (.cons (.loc 0) .nil)) (.int 1)) .nil)) (.iff (.orc (.cmp .Eq (.loc 3) (.bi .len (.cons (.loc 0) .nil))) (.bop1 (.call 56 (.cons (.item (.loc 0) (.loc 3)) .nil)))) (.iff (.cmp .Gt (.loc 3) (.loc 2)) (.expr (.bm .app (.loc 1) (.cons (.sli (.loc 0) (.loc 2) (.loc 3)) .nil)) .done) .done (.asg 2 (.bin .Add (.loc 3) (.int 1)) .done)) .done .done) (.ret (.loc 1)))
noncomputable abbrev F_105:FD:=⟨105,["text", "found", "begin", "place"],1,[],i_105⟩
theorem ok_105:FOK (XX B) F_105:=fok exC (by kernel_rfl) (by intro _ _;kernel_rfl)
noncomputable def i_112:IS:=.ret (.bm .join (.sl [32]) (.cons (.call 105 (.cons (.loc 0) .nil)) .nil))
noncomputable abbrev F_112:FD:=⟨112,["text"],1,[],i_112⟩
theorem ok_112:FOK (XX B) F_112:=fok exC (by kernel_rfl) (by intro _ _;kernel_rfl)
noncomputable def i_126:IS:=.seta 143 0 (.loc 0) (.loc 1) (.seta 143 1 (.loc 0) (.bi .tuple (.cons (.loc 2) .nil)) (.seta 143 2 (.loc 0) (.loc 3) (.seta 143 3 (.loc 0) (.loc 4) .done)))
noncomputable abbrev F_126:FD:=⟨126,["self", "kind", "choices", "mode", "value"],5,[],i_126⟩
theorem ok_126:FOK (XX B) F_126:=fok exC (by kernel_rfl) (by intro _ _ _ _ _ _;kernel_rfl)
noncomputable def i_133:IS:=.ret (.tup (.cons (.fld 143 0 (.loc 0)) (.cons (.fld 143 1 (.loc 0)) (.cons (.fld 143 2 (.loc 0)) (.cons (.fld 143 3 (.loc 0)) .nil)))))
noncomputable abbrev F_133:FD:=⟨133,["self"],1,[],i_133⟩
theorem ok_133:FOK (XX B) F_133:=fok exC (by kernel_rfl) (by intro _ _;kernel_rfl)
noncomputable def i_154:IS:=.iff (.cmp .Eq (.loc 0) (.sl [67,68,65,84,65])) (.ret (.loc 1)) .done (.ret (.call 112 (.cons (.loc 1) .nil)))
noncomputable abbrev F_154:FD:=⟨154,["kind", "value"],2,[],i_154⟩
theorem ok_154:FOK (XX B) F_154:=fok exC (by kernel_rfl) (by intro _ _ _;kernel_rfl)
noncomputable def i_168:IS:=.expr (.xin (.cons (.loc 0) (.cons (.loc 1) .nil))) (.setx 0 (.loc 0) (.loc 1) .done)
noncomputable abbrev F_168:FD:=⟨168,["self", "message"],2,[],i_168⟩
theorem ok_168:FOK (XX B) F_168:=fok exC (by kernel_rfl) (by intro _ _ _;kernel_rfl)
noncomputable def i_233:IS:=.expr (.clm 171 168 (.cons (.loc 0) (.cons (.loc 1) .nil))) (.setx 1 (.loc 0) (.loc 2) .done)
noncomputable abbrev F_233:FD:=⟨233,["self", "message", "place"],3,[],i_233⟩
theorem ok_233:FOK (XX B) F_233:=fok exC (by kernel_rfl) (by intro _ _ _ _;kernel_rfl)
noncomputable def i_252:IS:=.seta 346 0 (.loc 0) (.loc 1) (.seta 346 1 (.loc 0) (.int 0) .done)
noncomputable abbrev F_252:FD:=⟨252,["self", "text"],2,[],i_252⟩
theorem ok_252:FOK (XX B) F_252:=fok exC (by kernel_rfl) (by intro _ _ _;kernel_rfl)
noncomputable def i_259:IS:=.ret (.call 236 (.cons (.loc 1) (.cons (.fld 346 1 (.loc 0)) .nil)))
noncomputable abbrev F_259:FD:=⟨259,["self", "message"],2,[],i_259⟩
theorem ok_259:FOK (XX B) F_259:=fok exC (by kernel_rfl) (by intro _ _ _;kernel_rfl)
noncomputable def i_266:IS:=.ret (.cmp .GtE (.fld 346 1 (.loc 0)) (.bi .len (.cons (.fld 346 0 (.loc 0)) .nil)))
noncomputable abbrev F_266:FD:=⟨266,["self"],1,[],i_266⟩
theorem ok_266:FOK (XX B) F_266:=fok exC (by kernel_rfl) (by intro _ _;kernel_rfl)
noncomputable def i_273:IS:=.ret (.bm .sw (.fld 346 0 (.loc 0)) (.cons (.loc 1) (.cons (.fld 346 1 (.loc 0)) .nil)))
noncomputable abbrev F_273:FD:=⟨273,["self", "word"],2,[],i_273⟩
theorem ok_273:FOK (XX B) F_273:=fok exC (by kernel_rfl) (by intro _ _ _;kernel_rfl)
noncomputable def i_280:IS:=.iff (.not (.mth 346 273 (.loc 0) (.cons (.loc 1) .nil))) (.ret (.bln false)) .done (.auga 346 1 (.loc 0) (.bi .len (.cons (.loc 1) .nil)) (.ret (.bln true)))
noncomputable abbrev F_280:FD:=⟨280,["self", "word"],2,[],i_280⟩
theorem ok_280:FOK (XX B) F_280:=fok exC (by kernel_rfl) (by intro _ _ _;kernel_rfl)
noncomputable def i_287:IS:=.iff (.not (.mth 346 280 (.loc 0) (.cons (.loc 1) .nil))) (.raise (.mth 346 259 (.loc 0) (.cons (.bin .Add (.str "expected ") (.loc 1)) .nil))) .done .done
noncomputable abbrev F_287:FD:=⟨287,["self", "word"],2,[],i_287⟩
theorem ok_287:FOK (XX B) F_287:=fok exC (by kernel_rfl) (by intro _ _ _;kernel_rfl)
noncomputable def i_294:IS:=.asg 1 (.fld 346 1 (.loc 0)) (.whl (.andc (.cmp .Lt (.fld 346 1 (.loc 0)) (.bi .len (.cons (.fld 346 0 (.loc 0)) .nil))) (.bop1 (.call 56 (.cons (.item (.fld 346 0 (.loc 0)) (.fld 346 1 (.loc 0))) .nil)))) (.auga 346 1 (.loc 0) (.int 1) .done) (.ret (.bin .Sub (.fld 346 1 (.loc 0)) (.loc 1))))
noncomputable abbrev F_294:FD:=⟨294,["self", "begin"],1,[],i_294⟩
theorem ok_294:FOK (XX B) F_294:=fok exC (by kernel_rfl) (by intro _ _;kernel_rfl)
noncomputable def i_301:IS:=.iff (.cmp .Eq (.mth 346 294 (.loc 0) .nil) (.int 0)) (.raise (.mth 346 259 (.loc 0) (.cons (.str "expected a space") .nil))) .done .done
noncomputable abbrev F_301:FD:=⟨301,["self"],1,[],i_301⟩
theorem ok_301:FOK (XX B) F_301:=fok exC (by kernel_rfl) (by intro _ _;kernel_rfl)
noncomputable def i_308:IS:=.ret (.andc (.cmp .Lt (.fld 346 1 (.loc 0)) (.bi .len (.cons (.fld 346 0 (.loc 0)) .nil))) (.bop1 (.call 77 (.cons (.item (.fld 346 0 (.loc 0)) (.fld 346 1 (.loc 0))) .nil))))
noncomputable abbrev F_308:FD:=⟨308,["self"],1,[],i_308⟩
theorem ok_308:FOK (XX B) F_308:=fok exC (by kernel_rfl) (by intro _ _;kernel_rfl)
noncomputable def i_315:IS:=.asg 1 (.fld 346 1 (.loc 0)) (.whl (.andc (.cmp .Lt (.fld 346 1 (.loc 0)) (.bi .len (.cons (.fld 346 0 (.loc 0)) .nil))) (.bop1 (.call 84 (.cons (.item (.fld 346 0 (.loc 0)) (.fld 346 1 (.loc 0))) .nil)))) (.auga 346 1 (.loc 0) (.int 1) .done) (.iff (.cmp .Eq (.fld 346 1 (.loc 0)) (.loc 1)) (.raise (.mth 346 259 (.loc 0) (.cons (.str "expected a name") .nil))) .done (.ret (.sli (.fld 346 0 (.loc 0)) (.loc 1) (.fld 346 1 (.loc 0))))))
noncomputable abbrev F_315:FD:=⟨315,["self", "begin"],1,[],i_315⟩
theorem ok_315:FOK (XX B) F_315:=fok exC (by kernel_rfl) (by intro _ _;kernel_rfl)
noncomputable def i_322:IS:=.iff (.not (.mth 346 308 (.loc 0) .nil)) (.raise (.mth 346 259 (.loc 0) (.cons (.str "expected a name") .nil))) .done (.ret (.mth 346 315 (.loc 0) .nil))
noncomputable abbrev F_322:FD:=⟨322,["self"],1,[],i_322⟩
theorem ok_322:FOK (XX B) F_322:=fok exC (by kernel_rfl) (by intro _ _;kernel_rfl)
noncomputable def i_329:IS:=.asg 2 (.bm .find (.fld 346 0 (.loc 0)) (.cons (.loc 1) (.cons (.fld 346 1 (.loc 0)) .nil))) (.iff (.cmp .Lt (.loc 2) (.int 0)) (.raise (.mth 346 259 (.loc 0) (.cons (.bin .Add (.str "expected ") (.loc 1)) .nil))) .done (.asg 3 (.sli (.fld 346 0 (.loc 0)) (.fld 346 1 (.loc 0)) (.loc 2)) (.seta 346 1 (.loc 0) (.bin .Add (.loc 2) (.bi .len (.cons (.loc 1) .nil))) (.ret (.loc 3)))))
noncomputable abbrev F_329:FD:=⟨329,["self", "word", "end", "found"],2,[],i_329⟩
theorem ok_329:FOK (XX B) F_329:=fok exC (by kernel_rfl) (by intro _ _ _;kernel_rfl)
noncomputable def i_336:IS:=.for_ (.nm 1) (.tup (.cons (.sl [34]) (.cons (.sl [39]) .nil))) (.iff (.mth 346 280 (.loc 0) (.cons (.loc 1) .nil)) (.ret (.mth 346 329 (.loc 0) (.cons (.loc 1) .nil))) .done .done) (.raise (.mth 346 259 (.loc 0) (.cons (.str "expected a literal") .nil)))
noncomputable abbrev F_336:FD:=⟨336,["self", "quote"],1,[],i_336⟩
theorem ok_336:FOK (XX B) F_336:=fok exC (by kernel_rfl) (by intro _ _;kernel_rfl)
noncomputable def i_343:IS:=.expr (.mth 346 294 (.loc 0) .nil) (.iff (.not (.mth 346 266 (.loc 0) .nil)) (.raise (.mth 346 259 (.loc 0) (.cons (.str "something stands behind a declaration") .nil))) .done .done)
noncomputable abbrev F_343:FD:=⟨343,["self"],1,[],i_343⟩
theorem ok_343:FOK (XX B) F_343:=fok exC (by kernel_rfl) (by intro _ _;kernel_rfl)
noncomputable def i_357:IS:=.swp 2 3 (.loc 1) (.sl []) (.whl (.cmp .Lt (.loc 2) (.bi .len (.cons (.loc 0) .nil))) (.asg 4 (.item (.loc 0) (.loc 2)) (.iff (.cmp .NotEq (.loc 3) (.sl [])) (.iff (.cmp .Eq (.loc 4) (.loc 3)) (.asg 3 (.sl []) .done) .done .done) (.iff (.orc (.cmp .Eq (.loc 4) (.sl [34])) (.bop1 (.cmp .Eq (.loc 4) (.sl [39])))) (.asg 3 (.loc 4) .done) (.iff (.cmp .Eq (.loc 4) (.sl [62])) (.ret (.bin .Add (.loc 2) (.int 1))) .done .done) .done) (.aug 2 (.int 1) .done))) (.raise (.call 236 (.cons (.str "a declaration has no end") (.cons (.loc 1) .nil)))))
noncomputable abbrev F_357:FD:=⟨357,["text", "begin", "at", "quote", "sign"],2,[],i_357⟩
theorem ok_357:FOK (XX B) F_357:=fok exC (by kernel_rfl) (by intro _ _ _;kernel_rfl)
noncomputable def i_365:IS:=.for_ (.nm 1) (.glo (.tup [.str [63],.str [42],.str [43]])) (.iff (.mth 346 280 (.loc 0) (.cons (.loc 1) .nil)) (.ret (.loc 1)) .done .done) (.ret (.sl []))
noncomputable abbrev F_365:FD:=⟨365,["scanner", "mark"],1,[],i_365⟩
theorem ok_365:FOK (XX B) F_365:=fok exC (by kernel_rfl) (by intro _ _;kernel_rfl)
noncomputable def i_379:IS:=.seta 396 0 (.loc 0) (.loc 1) (.seta 396 1 (.loc 0) (.lst .nil) (.seta 396 2 (.loc 0) (.sl []) .done))
noncomputable abbrev F_379:FD:=⟨379,["self", "place"],2,[],i_379⟩
theorem ok_379:FOK (XX B) F_379:=fok exC (by kernel_rfl) (by intro _ _ _;kernel_rfl)
noncomputable def i_386:IS:=.iff (.cmp .Eq (.fld 396 2 (.loc 0)) (.sl [])) (.seta 396 2 (.loc 0) (.loc 2) .done) (.iff (.cmp .NotEq (.fld 396 2 (.loc 0)) (.loc 2)) .bad .done .done) .done
noncomputable abbrev F_386:FD:=⟨386,["self", "scanner", "sign"],3,[],i_386⟩
theorem ok_386:FOK (XX B) F_386:=fok exC (by kernel_rfl) (by intro _ _ _ _;kernel_rfl)
noncomputable def i_393:IS:=.asg 2 (.ifx (.cmp .Eq (.fld 396 2 (.loc 0)) (.sl [124])) (.sl [99,104,111,105,99,101]) (.sl [115,101,113])) (.ret (.tup (.cons (.loc 2) (.cons (.bi .tuple (.cons (.fld 396 1 (.loc 0)) .nil)) (.cons (.loc 1) .nil)))))
noncomputable abbrev F_393:FD:=⟨393,["self", "mark", "kind"],2,[],i_393⟩
theorem ok_393:FOK (XX B) F_393:=fok exC (by kernel_rfl) (by intro _ _ _;kernel_rfl)
noncomputable def i_407:IS:=.asg 1 (.lst (.cons (.call 396 (.cons (.fld 346 1 (.loc 0)) .nil)) .nil)) (.whl (.bln true) (.expr (.mth 346 294 (.loc 0) .nil) (.iff (.mth 346 280 (.loc 0) (.cons (.sl [40]) .nil)) (.expr (.bm .app (.loc 1) (.cons (.call 396 (.cons (.fld 346 1 (.loc 0)) .nil)) .nil)) .cont) .done (.asg 2 (.mth 346 322 (.loc 0) .nil) (.expr (.bm .app (.fld 396 1 (.item (.loc 1) (.neg (.int 1)))) (.cons (.tup (.cons (.sl [110,97,109,101]) (.cons (.loc 2) (.cons (.call 365 (.cons (.loc 0) .nil)) .nil)))) .nil)) (.whl (.not (.call 414 (.cons (.loc 0) (.cons (.item (.loc 1) (.neg (.int 1))) .nil)))) (.asg 3 (.mth 396 393 (.bm .pop (.loc 1) .nil) (.cons (.call 365 (.cons (.loc 0) .nil)) .nil)) (.iff (.cmp .Eq (.loc 1) (.lro .nil)) (.ret (.loc 3)) .done (.expr (.bm .app (.fld 396 1 (.item (.loc 1) (.neg (.int 1)))) (.cons (.loc 3) .nil)) .done))) .done))))) .done)
noncomputable abbrev F_407:FD:=⟨407,["scanner", "groups", "name", "found"],1,[],i_407⟩
theorem ok_407:FOK (XX B) F_407:=fok exC (by kernel_rfl) (by intro _ _;kernel_rfl)
noncomputable def i_414:IS:=.expr (.mth 346 294 (.loc 0) .nil) (.for_ (.nm 2) (.tup (.cons (.sl [44]) (.cons (.sl [124]) .nil))) (.iff (.mth 346 280 (.loc 0) (.cons (.loc 2) .nil)) (.expr (.mth 396 386 (.loc 1) (.cons (.loc 0) (.cons (.loc 2) .nil))) (.ret (.bln true))) .done .done) (.expr (.mth 346 287 (.loc 0) (.cons (.sl [41]) .nil)) (.ret (.bln false))))
noncomputable abbrev F_414:FD:=⟨414,["scanner", "group", "sign"],2,[],i_414⟩
theorem ok_414:FOK (XX B) F_414:=fok exC (by kernel_rfl) (by intro _ _ _;kernel_rfl)
noncomputable def i_421:IS:=.asg 1 (.lst .nil) (.expr (.mth 346 294 (.loc 0) .nil) (.whl (.mth 346 280 (.loc 0) (.cons (.sl [124]) .nil)) (.expr (.mth 346 294 (.loc 0) .nil) (.asg 2 (.mth 346 322 (.loc 0) .nil) (.iff (.cmp .In (.loc 2) (.loc 1)) .bad .done (.expr (.bm .app (.loc 1) (.cons (.loc 2) .nil)) (.expr (.mth 346 294 (.loc 0) .nil) .done))))) (.expr (.mth 346 287 (.loc 0) (.cons (.sl [41]) .nil)) (.iff (.andc (.not (.mth 346 280 (.loc 0) (.cons (.sl [42]) .nil))) (.bop1 (.cmp .NotEq (.loc 1) (.lro .nil)))) .bad .done (.ret (.tup (.cons (.sl [109,105,120,101,100]) (.cons (.bi .tuple (.cons (.loc 1) .nil)) .nil))))))))
noncomputable abbrev F_421:FD:=⟨421,["scanner", "names", "name"],1,[],i_421⟩
theorem ok_421:FOK (XX B) F_421:=fok exC (by kernel_rfl) (by intro _ _;kernel_rfl)
noncomputable def i_428:IS:=.iff (.mth 346 280 (.loc 0) (.cons (.sl [69,77,80,84,89]) .nil)) (.ret (.tup (.cons (.sl [101,109,112,116,121]) .nil))) .done (.iff (.mth 346 280 (.loc 0) (.cons (.sl [65,78,89]) .nil)) (.ret (.tup (.cons (.sl [97,110,121]) .nil))) .done (.expr (.mth 346 287 (.loc 0) (.cons (.sl [40]) .nil)) (.expr (.mth 346 294 (.loc 0) .nil) (.iff (.mth 346 280 (.loc 0) (.cons (.glo (.str [35,80,67,68,65,84,65])) .nil)) (.ret (.call 421 (.cons (.loc 0) .nil))) .done (.ret (.tup (.cons (.sl [99,104,105,108,100,114,101,110]) (.cons (.call 407 (.cons (.loc 0) .nil)) .nil))))))))
noncomputable abbrev F_428:FD:=⟨428,["scanner"],1,[],i_428⟩
theorem ok_428:FOK (XX B) F_428:=fok exC (by kernel_rfl) (by intro _ _;kernel_rfl)
noncomputable def i_435:IS:=.asg 1 (.call 346 (.cons (.loc 0) .nil)) (.expr (.mth 346 294 (.loc 1) .nil) (.asg 2 (.call 428 (.cons (.loc 1) .nil)) (.expr (.mth 346 343 (.loc 1) .nil) (.ret (.loc 2)))))
noncomputable abbrev F_435:FD:=⟨435,["text", "scanner", "found"],1,[],i_435⟩
theorem ok_435:FOK (XX B) F_435:=fok exC (by kernel_rfl) (by intro _ _;kernel_rfl)
noncomputable def i_449:IS:=.seta 452 0 (.loc 0) (.loc 1) (.seta 452 1 (.loc 0) (.loc 2) (.seta 452 2 (.loc 0) (.loc 3) .done))
noncomputable abbrev F_449:FD:=⟨449,["self", "name", "public", "system"],4,[],i_449⟩
theorem ok_449:FOK (XX B) F_449:=fok exC (by kernel_rfl) (by intro _ _ _ _ _;kernel_rfl)
noncomputable def i_470:IS:=.seta 550 0 (.loc 0) (.loc 1) (.seta 550 1 (.loc 0) .dic (.seta 550 2 (.loc 0) .dic (.seta 550 3 (.loc 0) .dic .done)))
noncomputable abbrev F_470:FD:=⟨470,["self", "root"],2,[],i_470⟩
theorem ok_470:FOK (XX B) F_470:=fok exC (by kernel_rfl) (by intro _ _ _;kernel_rfl)
noncomputable def i_477:IS:=.iff (.cmp .In (.loc 1) (.fld 550 1 (.loc 0))) (.raise (.call 236 (.cons (.bin .Add (.bin .Add (.str "the element ") (.loc 1)) (.str " is declared twice")) (.cons (.loc 3) .nil)))) .done (.seti (.fld 550 1 (.loc 0)) (.loc 1) (.loc 2) .done)
noncomputable abbrev F_477:FD:=⟨477,["self", "name", "model", "place"],4,[],i_477⟩
theorem ok_477:FOK (XX B) F_477:=fok exC (by kernel_rfl) (by intro _ _ _ _ _;kernel_rfl)
noncomputable def i_484:IS:=.asg 4 (.bm .get (.fld 550 2 (.loc 0)) (.cons (.loc 1) .nil)) (.iff (.cmp .Is (.loc 4) .non) (.asg 4 .dic (.seti (.fld 550 2 (.loc 0)) (.loc 1) (.loc 4) .done)) .done (.iff (.cmp .NotIn (.loc 2) (.loc 4)) (.seti (.loc 4) (.loc 2) (.loc 3) .done) .done .done))
noncomputable abbrev F_484:FD:=⟨484,["self", "element", "name", "rule", "rules"],4,[],i_484⟩
theorem ok_484:FOK (XX B) F_484:=fok exC (by kernel_rfl) (by intro _ _ _ _ _;kernel_rfl)
noncomputable def i_491:IS:=.iff (.cmp .In (.loc 1) (.fld 550 3 (.loc 0))) (.raise (.call 236 (.cons (.bin .Add (.bin .Add (.str "the notation ") (.loc 1)) (.str " is declared twice")) (.cons (.loc 4) .nil)))) .done (.seti (.fld 550 3 (.loc 0)) (.loc 1) (.call 452 (.cons (.loc 1) (.cons (.loc 2) (.cons (.loc 3) .nil)))) .done)
noncomputable abbrev F_491:FD:=⟨491,["self", "name", "public", "system", "place"],5,[],i_491⟩
theorem ok_491:FOK (XX B) F_491:=fok exC (by kernel_rfl) (by intro _ _ _ _ _ _;kernel_rfl)
noncomputable def i_505:IS:=.ret (.bm .get (.fld 550 2 (.loc 0)) (.cons (.loc 1) (.cons .dic .nil)))
noncomputable abbrev F_505:FD:=⟨505,["self", "element"],2,[],i_505⟩
theorem ok_505:FOK (XX B) F_505:=fok exC (by kernel_rfl) (by intro _ _ _;kernel_rfl)
noncomputable def i_512:IS:=.ret (.bm .get (.mth 550 505 (.loc 0) (.cons (.loc 1) .nil)) (.cons (.loc 2) .nil))
noncomputable abbrev F_512:FD:=⟨512,["self", "element", "name"],3,[],i_512⟩
theorem ok_512:FOK (XX B) F_512:=fok exC (by kernel_rfl) (by intro _ _ _ _;kernel_rfl)
noncomputable def i_561:IS:=.iff (.cmp .Eq (.loc 0) (.sl [])) (.ret .non) .done (.asg 2 (.int 0) (.for_ (.nm 3) (.loc 0) (.asg 4 (.bm .find (.loc 1) (.cons (.loc 3) .nil)) (.iff (.cmp .Lt (.loc 4) (.int 0)) (.ret .non) .done (.asg 2 (.bin .Add (.bin .Mult (.loc 2) (.bi .len (.cons (.loc 1) .nil))) (.loc 4)) .done))) (.ret (.loc 2))))
noncomputable abbrev F_561:FD:=⟨561,["digits", "signs", "number", "digit", "value"],2,[],i_561⟩
theorem ok_561:FOK (XX B) F_561:=fok exC (by kernel_rfl) (by intro _ _ _;kernel_rfl)
noncomputable def i_568:IS:=.asg 1 (.int 0) (.whl (.andc (.cmp .Lt (.loc 1) (.bin .Sub (.bi .len (.cons (.loc 0) .nil)) (.int 1))) (.bop1 (.cmp .Eq (.item (.loc 0) (.loc 1)) (.sl [48])))) (.aug 1 (.int 1) .done) (.ret (.sli (.loc 0) (.loc 1) .non)))
noncomputable abbrev F_568:FD:=⟨568,["digits", "begin"],1,[],i_568⟩
theorem ok_568:FOK (XX B) F_568:=fok exC (by kernel_rfl) (by intro _ _;kernel_rfl)
noncomputable def i_573:IS:=.iff (.cmp .Eq (.sli (.loc 0) .non (.int 1)) (.sl [120])) (.swp 1 2 (.call 568 (.cons (.sli (.loc 0) (.int 1) .non) .nil)) (.glo (g_HEX_DIGITS)) .bad) (.swp 1 2 (.call 568 (.cons (.loc 0) .nil)) (.glo (.str [48,49,50,51,52,53,54,55,56,57])) .done) (.iff (.cmp .Gt (.bi .len (.cons (.loc 1) .nil)) (.glo (.int 12))) (.ret .non) .done (.ret (.call 561 (.cons (.loc 1) (.cons (.loc 2) .nil)))))
noncomputable abbrev F_573:FD:=⟨573,["told", "digits", "signs"],1,[],i_573⟩
theorem ok_573:FOK (XX B) F_573:=fok exC (by kernel_rfl) (by intro _ _;kernel_rfl)
noncomputable def i_581:IS:=.asg 2 (.call 573 (.cons (.loc 0) .nil)) (.iff (.cmp .Is (.loc 2) .non) .bad .done (.iff (.orc (.cmp .Gt (.loc 2) (.int 1114111)) (.bop1 (.not (.call 63 (.cons (.bi .chr (.cons (.loc 2) .nil)) .nil))))) .bad .done (.ret (.bi .chr (.cons (.loc 2) .nil)))))
noncomputable abbrev F_581_1:FD:=⟨581,["told", "place", "code"],2,[.int 0],i_581⟩
theorem ok_581_1:FOK (XX B) F_581_1:=fok exC (by kernel_rfl) (by intro _ _;kernel_rfl)
noncomputable def i_588:IS:=.iff (.cmp .Eq (.loc 0) (.sl [108,116])) (.ret (.sl [60])) .done (.iff (.cmp .Eq (.loc 0) (.sl [103,116])) (.ret (.sl [62])) .done (.iff (.cmp .Eq (.loc 0) (.sl [97,109,112])) (.ret (.sl [38])) .done (.iff (.cmp .Eq (.loc 0) (.sl [97,112,111,115])) (.ret (.sl [39])) .done (.iff (.cmp .Eq (.loc 0) (.sl [113,117,111,116])) (.ret (.sl [34])) .done (.ret .non)))))
noncomputable abbrev F_588:FD:=⟨588,["name"],1,[],i_588⟩
theorem ok_588:FOK (XX B) F_588:=fok exC (by kernel_rfl) (by intro _ _;kernel_rfl)
noncomputable def i_602:IS:=.seta 633 0 (.loc 0) (.loc 1) (.seta 633 1 (.loc 0) (.int 0) (.seta 633 2 (.loc 0) (.lst .nil) .done))
noncomputable abbrev F_602:FD:=⟨602,["self", "limits"],2,[],i_602⟩
theorem ok_602:FOK (XX B) F_602:=fok exC (by kernel_rfl) (by intro _ _ _;kernel_rfl)
noncomputable def i_609:IS:=.seta 633 1 (.loc 0) (.bin .Add (.fld 633 1 (.loc 0)) (.loc 1)) (.iff (.cmp .Gt (.fld 633 1 (.loc 0)) (.fld 933 1 (.fld 633 0 (.loc 0)))) .bad .done .done)
noncomputable abbrev F_609:FD:=⟨609,["self", "many"],2,[],i_609⟩
theorem ok_609:FOK (XX B) F_609:=fok exC (by kernel_rfl) (by intro _ _ _;kernel_rfl)
noncomputable def i_616:IS:=.iff (.cmp .In (.loc 1) (.fld 633 2 (.loc 0))) .bad .done (.iff (.cmp .GtE (.bi .len (.cons (.fld 633 2 (.loc 0)) .nil)) (.fld 933 0 (.fld 633 0 (.loc 0)))) .bad .done (.expr (.bm .app (.fld 633 2 (.loc 0)) (.cons (.loc 1) .nil)) .done))
noncomputable abbrev F_616:FD:=⟨616,["self", "name"],2,[],i_616⟩
theorem ok_616:FOK (XX B) F_616:=fok exC (by kernel_rfl) (by intro _ _ _;kernel_rfl)
noncomputable def i_623:IS:=.expr (.bm .pop (.fld 633 2 (.loc 0)) .nil) .done
noncomputable abbrev F_623:FD:=⟨623,["self"],1,[],i_623⟩
theorem ok_623:FOK (XX B) F_623:=fok exC (by kernel_rfl) (by intro _ _;kernel_rfl)
noncomputable def i_651:IS:=.seta 675 0 (.loc 0) (.loc 1) (.seta 675 1 (.loc 0) (.loc 2) (.seta 675 2 (.loc 0) (.int 0) .done))
noncomputable abbrev F_651:FD:=⟨651,["self", "text", "name"],3,[],i_651⟩
theorem ok_651:FOK (XX B) F_651:=fok exC (by kernel_rfl) (by intro _ _ _ _;kernel_rfl)
noncomputable def i_658:IS:=.ret (.cmp .Eq (.fld 675 2 (.loc 0)) (.bi .len (.cons (.fld 675 0 (.loc 0)) .nil)))
noncomputable abbrev F_658:FD:=⟨658,["self"],1,[],i_658⟩
theorem ok_658:FOK (XX B) F_658:=fok exC (by kernel_rfl) (by intro _ _;kernel_rfl)
noncomputable def i_665:IS:=.asg 2 (.fld 675 2 (.loc 0)) (.whl (.andc (.cmp .Lt (.fld 675 2 (.loc 0)) (.bi .len (.cons (.fld 675 0 (.loc 0)) .nil))) (.bop1 (.cmp .NotIn (.item (.fld 675 0 (.loc 0)) (.fld 675 2 (.loc 0))) (.loc 1)))) (.seta 675 2 (.loc 0) (.bin .Add (.fld 675 2 (.loc 0)) (.int 1)) .done) (.ret (.sli (.fld 675 0 (.loc 0)) (.loc 2) (.fld 675 2 (.loc 0)))))
noncomputable abbrev F_665:FD:=⟨665,["self", "marks", "begin"],2,[],i_665⟩
theorem ok_665:FOK (XX B) F_665:=fok exC (by kernel_rfl) (by intro _ _ _;kernel_rfl)
noncomputable def i_672:IS:=.asg 1 (.bm .find (.fld 675 0 (.loc 0)) (.cons (.sl [59]) (.cons (.fld 675 2 (.loc 0)) .nil))) (.asg 2 (.sli (.fld 675 0 (.loc 0)) (.bin .Add (.fld 675 2 (.loc 0)) (.int 1)) (.bi .max (.cons (.loc 1) (.cons (.fld 675 2 (.loc 0)) .nil)))) (.iff (.orc (.cmp .Lt (.loc 1) (.int 0)) (.bop1 (.andc (.cmp .NotEq (.sli (.loc 2) .non (.int 1)) (.sl [35])) (.bop1 (.not (.call 98 (.cons (.loc 2) .nil))))))) .bad .done (.seta 675 2 (.loc 0) (.bin .Add (.loc 1) (.int 1)) (.ret (.loc 2)))))
noncomputable abbrev F_672:FD:=⟨672,["self", "end", "word"],1,[],i_672⟩
theorem ok_672:FOK (XX B) F_672:=fok exC (by kernel_rfl) (by intro _ _;kernel_rfl)
noncomputable def i_693:IS:=.seta 710 0 (.loc 0) (.loc 2) (.seta 710 1 (.loc 0) (.lst (.cons (.call 675 (.cons (.loc 1) (.cons .non .nil))) .nil)) .done)
noncomputable abbrev F_693:FD:=⟨693,["self", "text", "growth"],3,[],i_693⟩
theorem ok_693:FOK (XX B) F_693:=fok exC (by kernel_rfl) (by intro _ _ _ _;kernel_rfl)
noncomputable def i_700:IS:=.whl (.andc (.cmp .NotEq (.fld 710 1 (.loc 0)) (.lro .nil)) (.bop1 (.mth 675 658 (.item (.fld 710 1 (.loc 0)) (.neg (.int 1))) .nil))) (.iff (.cmp .IsNot (.fld 675 1 (.bm .pop (.fld 710 1 (.loc 0)) .nil)) .non) (.expr (.mth 633 623 (.fld 710 0 (.loc 0)) .nil) .done) .done .done) (.ret (.ifx (.cmp .NotEq (.fld 710 1 (.loc 0)) (.lro .nil)) (.item (.fld 710 1 (.loc 0)) (.neg (.int 1))) .non))
noncomputable abbrev F_700:FD:=⟨700,["self"],1,[],i_700⟩
theorem ok_700:FOK (XX B) F_700:=fok exC (by kernel_rfl) (by intro _ _;kernel_rfl)
noncomputable def i_721:IS:=.ret (.ifx (.cmp .Is (.loc 1) .non) (.call 633 (.cons (.fld 1068 0 (.loc 0)) .nil)) (.loc 1))
noncomputable abbrev F_721:FD:=⟨721,["table", "growth"],2,[],i_721⟩
theorem ok_721:FOK (XX B) F_721:=fok exC (by kernel_rfl) (by intro _ _ _;kernel_rfl)
noncomputable def i_729:IS:=.swp 3 4 (.call 710 (.cons (.loc 0) (.cons (.call 721 (.cons (.loc 1) (.cons (.loc 2) .nil))) .nil))) (.lst .nil) (.asg 5 (.mth 710 700 (.loc 3) .nil) (.whl (.cmp .IsNot (.loc 5) .non) (.expr (.bm .app (.loc 4) (.cons (.call 743 (.cons (.mth 675 665 (.loc 5) (.cons (.sl [38,60]) .nil)) .nil)) .nil)) (.iff (.not (.mth 675 658 (.loc 5) .nil)) (.iff (.cmp .Eq (.item (.fld 675 0 (.loc 5)) (.fld 675 2 (.loc 5))) (.sl [60])) .bad .done (.expr (.bm .app (.loc 4) (.cons (.call 736 (.cons (.mth 675 672 (.loc 5) .nil) (.cons (.loc 1) (.cons (.loc 3) .nil)))) .nil)) .done)) .done (.asg 5 (.mth 710 700 (.loc 3) .nil) .done))) (.ret (.bm .join (.sl []) (.cons (.loc 4) .nil)))))
noncomputable abbrev F_729:FD:=⟨729,["raw", "table", "growth", "stack", "found", "pending"],3,[],i_729⟩
theorem ok_729:FOK (XX B) F_729:=fok exC (by kernel_rfl) (by intro _ _ _ _;kernel_rfl)
noncomputable def i_736:IS:=.iff (.cmp .Eq (.sli (.loc 0) .non (.int 1)) (.sl [35])) (.ret (.call 581 (.cons (.sli (.loc 0) (.int 1) .non) .nil))) .done (.asg 3 (.call 588 (.cons (.loc 0) .nil)) (.iff (.cmp .Is (.loc 3) .non) (.expr (.mth 710 707 (.loc 2) (.cons (.loc 0) (.cons (.mth 1068 1058 (.loc 1) (.cons (.loc 0) .nil)) .nil))) (.ret (.sl []))) .done (.ret (.loc 3))))
noncomputable abbrev F_736:FD:=⟨736,["word", "table", "stack", "sign"],3,[],i_736⟩
theorem ok_736:FOK (XX B) F_736:=fok exC (by kernel_rfl) (by intro _ _ _ _;kernel_rfl)
noncomputable def i_743:IS:=.for_ (.nm 1) (.glo (.str [9,13,10])) (.asg 0 (.bm .repl (.loc 0) (.cons (.loc 1) (.cons (.sl [32]) .nil))) .done) (.ret (.loc 0))
noncomputable abbrev F_743:FD:=⟨743,["text", "sign"],1,[],i_743⟩
theorem ok_743:FOK (XX B) F_743:=fok exC (by kernel_rfl) (by intro _ _;kernel_rfl)
noncomputable def i_751:IS:=.swp 3 4 (.call 710 (.cons (.loc 0) (.cons (.call 721 (.cons (.loc 1) (.cons (.loc 2) .nil))) .nil))) (.lst .nil) (.asg 5 (.mth 710 700 (.loc 3) .nil) (.whl (.cmp .IsNot (.loc 5) .non) (.expr (.bm .app (.loc 4) (.cons (.mth 675 665 (.loc 5) (.cons (.sl [38,37]) .nil)) .nil)) (.iff (.not (.mth 675 658 (.loc 5) .nil)) (.expr (.bm .app (.loc 4) (.cons (.call 758 (.cons (.loc 5) (.cons (.loc 1) (.cons (.loc 3) .nil)))) .nil)) .done) .done (.asg 5 (.mth 710 700 (.loc 3) .nil) .done))) (.ret (.bm .join (.sl []) (.cons (.loc 4) .nil)))))
noncomputable abbrev F_751:FD:=⟨751,["raw", "table", "growth", "stack", "found", "pending"],3,[],i_751⟩
theorem ok_751:FOK (XX B) F_751:=fok exC (by kernel_rfl) (by intro _ _ _ _;kernel_rfl)
noncomputable def i_758:IS:=.asg 3 (.item (.fld 675 0 (.loc 0)) (.fld 675 2 (.loc 0))) (.asg 4 (.mth 675 672 (.loc 0) .nil) (.iff (.cmp .Eq (.loc 3) (.sl [37])) (.iff (.cmp .Eq (.sli (.loc 4) .non (.int 1)) (.sl [35])) .bad .done (.expr (.mth 710 707 (.loc 2) (.cons (.bin .Add (.sl [37]) (.loc 4)) (.cons (.mth 1068 1065 (.loc 1) (.cons (.loc 4) .nil)) .nil))) (.ret (.sl [])))) .done (.ret (.ifx (.cmp .Eq (.sli (.loc 4) .non (.int 1)) (.sl [35])) (.call 581 (.cons (.sli (.loc 4) (.int 1) .non) .nil)) (.bin .Add (.bin .Add (.sl [38]) (.loc 4)) (.sl [59]))))))
noncomputable abbrev F_758:FD:=⟨758,["pending", "table", "stack", "mark", "word"],3,[],i_758⟩
theorem ok_758:FOK (XX B) F_758:=fok exC (by kernel_rfl) (by intro _ _ _ _;kernel_rfl)
noncomputable def i_774:IS:=.seta 777 0 (.loc 0) (.call 346 (.cons (.loc 1) .nil)) (.seta 777 1 (.loc 0) (.loc 2) .done)
noncomputable abbrev F_774:FD:=⟨774,["self", "text", "name"],3,[],i_774⟩
theorem ok_774:FOK (XX B) F_774:=fok exC (by kernel_rfl) (by intro _ _ _ _;kernel_rfl)
noncomputable def i_788:IS:=.swp 3 4 (.lst .nil) (.lst (.cons (.call 777 (.cons (.loc 0) (.cons .non .nil))) .nil)) (.asg 5 (.sl []) (.whl (.cmp .NotEq (.loc 4) (.lro .nil)) (.asg 6 (.fld 777 0 (.item (.loc 4) (.neg (.int 1)))) (.iff (.mth 346 266 (.loc 6) .nil) (.asg 7 (.bm .pop (.loc 4) .nil) (.iff (.cmp .IsNot (.fld 777 1 (.loc 7)) .non) (.expr (.mth 633 623 (.loc 2) .nil) (.expr (.bm .app (.loc 3) (.cons (.sl [32]) .nil)) .done)) .done .cont)) .done (.asg 8 (.item (.fld 346 0 (.loc 6)) (.fld 346 1 (.loc 6))) (.auga 346 1 (.loc 6) (.int 1) (.iff (.andc (.cmp .Eq (.loc 5) (.sl [])) (.andc (.cmp .Eq (.loc 8) (.sl [37])) (.bop1 (.mth 346 308 (.loc 6) .nil)))) (.expr (.bm .app (.loc 4) (.cons (.call 795 (.cons (.loc 6) (.cons (.loc 1) (.cons (.loc 2) .nil)))) .nil)) (.expr (.bm .app (.loc 3) (.cons (.sl [32]) .nil)) .cont)) .done (.iff (.cmp .NotEq (.loc 5) (.sl [])) (.asg 5 (.ifx (.cmp .Eq (.loc 8) (.loc 5)) (.sl []) (.loc 5)) .done) (.iff (.orc (.cmp .Eq (.loc 8) (.sl [34])) (.bop1 (.cmp .Eq (.loc 8) (.sl [39])))) (.asg 5 (.loc 8) .done) .done .done) (.expr (.bm .app (.loc 3) (.cons (.loc 8) .nil)) .done))))))) (.ret (.bm .join (.sl []) (.cons (.loc 3) .nil)))))
noncomputable abbrev F_788:FD:=⟨788,["text", "table", "growth", "pieces", "left", "quote", "scanner", "closed", "sign"],3,[],i_788⟩
theorem ok_788:FOK (XX B) F_788:=fok exC (by kernel_rfl) (by intro _ _ _ _;kernel_rfl)
noncomputable def i_795:IS:=.asg 3 (.mth 346 322 (.loc 0) .nil) (.expr (.mth 346 287 (.loc 0) (.cons (.sl [59]) .nil)) (.expr (.mth 633 616 (.loc 2) (.cons (.bin .Add (.sl [37]) (.loc 3)) .nil)) (.asg 4 (.mth 1068 1065 (.loc 1) (.cons (.loc 3) .nil)) (.expr (.mth 633 609 (.loc 2) (.cons (.bi .len (.cons (.loc 4) .nil)) .nil)) (.ret (.call 777 (.cons (.loc 4) (.cons (.loc 3) .nil))))))))
noncomputable abbrev F_795:FD:=⟨795,["scanner", "table", "growth", "name", "text"],3,[],i_795⟩
theorem ok_795:FOK (XX B) F_795:=fok exC (by kernel_rfl) (by intro _ _ _ _;kernel_rfl)
noncomputable def i_809:IS:=.seta 875 0 (.loc 0) (.loc 1) (.seta 875 1 (.loc 0) (.loc 2) (.seta 875 2 (.loc 0) (.loc 3) .done))
noncomputable abbrev F_809:FD:=⟨809,["self", "table", "dtd", "growth"],4,[],i_809⟩
theorem ok_809:FOK (XX B) F_809:=fok exC (by kernel_rfl) (by intro _ _ _ _ _;kernel_rfl)
noncomputable def i_816:IS:=.asg 2 (.lst (.cons (.call 777 (.cons (.loc 1) (.cons .non .nil))) .nil)) (.whl (.cmp .NotEq (.loc 2) (.lro .nil)) (.asg 3 (.fld 777 0 (.item (.loc 2) (.neg (.int 1)))) (.expr (.mth 346 294 (.loc 3) .nil) (.iff (.mth 346 266 (.loc 3) .nil) (.asg 4 (.bm .pop (.loc 2) .nil) (.iff (.cmp .IsNot (.fld 777 1 (.loc 4)) .non) (.expr (.mth 633 623 (.fld 875 2 (.loc 0)) .nil) .done) .done .done)) (.iff (.mth 346 280 (.loc 3) (.cons (.sl [37]) .nil)) (.expr (.bm .app (.loc 2) (.cons (.call 795 (.cons (.loc 3) (.cons (.fld 875 0 (.loc 0)) (.cons (.fld 875 2 (.loc 0)) .nil)))) .nil)) .done) (.expr (.mth 875 823 (.loc 0) (.cons (.loc 3) .nil)) .done) .done) .done))) .done)
noncomputable abbrev F_816:FD:=⟨816,["self", "text", "left", "scanner", "closed"],2,[],i_816⟩
theorem ok_816:FOK (XX B) F_816:=fok exC (by kernel_rfl) (by intro _ _ _;kernel_rfl)
noncomputable def i_823:IS:=.asg 2 (.fld 346 1 (.loc 1)) (.iff (.mth 346 280 (.loc 1) (.cons (.sl [60,33,45,45]) .nil)) (.asg 3 (.mth 346 329 (.loc 1) (.cons (.sl [45,45,62]) .nil)) (.iff (.orc (.cmp .In (.sl [45,45]) (.loc 3)) (.bop1 (.cmp .Eq (.sli (.loc 3) (.neg (.int 1)) .non) (.sl [45])))) (.raise (.call 236 (.cons (.str "-- within a comment") (.cons (.loc 2) .nil)))) .done .done)) (.iff (.mth 346 280 (.loc 1) (.cons (.sl [60,63]) .nil)) (.expr (.mth 875 830 (.loc 0) (.cons (.loc 1) .nil)) .done) (.iff (.mth 346 273 (.loc 1) (.cons (.sl [60,33,91]) .nil)) (.raise (.call 236 (.cons (.str "conditional parts are left out") (.cons (.loc 2) .nil)))) (.expr (.mth 875 837 (.loc 0) (.cons (.loc 1) (.cons (.loc 2) .nil))) .done) .done) .done) .done)
noncomputable abbrev F_823:FD:=⟨823,["self", "scanner", "begin", "told"],2,[],i_823⟩
theorem ok_823:FOK (XX B) F_823:=fok exC (by kernel_rfl) (by intro _ _ _;kernel_rfl)
noncomputable def i_830:IS:=.asg 2 (.fld 346 1 (.loc 1)) (.asg 3 (.mth 346 322 (.loc 1) .nil) (.iff (.cmp .Eq (.bm .low (.loc 3) .nil) (.sl [120,109,108])) (.raise (.call 236 (.cons (.str "an instruction that is called xml") (.cons (.loc 2) .nil)))) .done (.iff (.not (.mth 346 280 (.loc 1) (.cons (.sl [63,62]) .nil))) (.expr (.mth 346 301 (.loc 1) .nil) (.expr (.mth 346 329 (.loc 1) (.cons (.sl [63,62]) .nil)) .done)) .done .done)))
noncomputable abbrev F_830:FD:=⟨830,["self", "scanner", "begin", "name"],2,[],i_830⟩
theorem ok_830:FOK (XX B) F_830:=fok exC (by kernel_rfl) (by intro _ _ _;kernel_rfl)
noncomputable def i_837:IS:=.asg 3 (.call 357 (.cons (.fld 346 0 (.loc 1)) (.cons (.loc 2) .nil))) (.asg 4 (.sl []) (.for_ (.nm 5) (.glo (g_WORDS)) (.iff (.mth 346 273 (.loc 1) (.cons (.loc 5) .nil)) (.asg 4 (.loc 5) .done) .done .done) (.iff (.cmp .Eq (.loc 4) (.sl [])) (.raise (.call 236 (.cons (.str "no declaration") (.cons (.loc 2) .nil)))) .done (.asg 6 (.call 346 (.cons (.call 788 (.cons (.sli (.fld 346 0 (.loc 1)) (.bin .Add (.loc 2) (.bi .len (.cons (.loc 4) .nil))) (.bin .Sub (.loc 3) (.int 1))) (.cons (.fld 875 0 (.loc 0)) (.cons (.fld 875 2 (.loc 0)) .nil)))) .nil)) (.seta 346 1 (.loc 1) (.loc 3) (.expr (.mth 346 301 (.loc 6) .nil) (.iff (.cmp .Eq (.loc 4) (.sl [60,33,69,76,69,77,69,78,84])) (.expr (.mth 875 844 (.loc 0) (.cons (.loc 6) (.cons (.loc 2) .nil))) .done) (.iff (.cmp .Eq (.loc 4) (.sl [60,33,65,84,84,76,73,83,84])) (.expr (.mth 875 851 (.loc 0) (.cons (.loc 6) .nil)) .done) (.iff (.cmp .Eq (.loc 4) (.sl [60,33,69,78,84,73,84,89])) (.expr (.mth 875 865 (.loc 0) (.cons (.loc 6) .nil)) .done) (.expr (.mth 875 872 (.loc 0) (.cons (.loc 6) (.cons (.loc 2) .nil))) .done) .done) .done) (.expr (.mth 346 343 (.loc 6) .nil) .done))))))))
noncomputable abbrev F_837:FD:=⟨837,["self", "scanner", "begin", "end", "word", "known", "inner"],3,[],i_837⟩
theorem ok_837:FOK (XX B) F_837:=fok exC (by kernel_rfl) (by intro _ _ _ _;kernel_rfl)
noncomputable def i_844:IS:=.asg 3 (.mth 346 322 (.loc 1) .nil) (.expr (.mth 346 301 (.loc 1) .nil) (.asg 4 (.call 435 (.cons (.sli (.fld 346 0 (.loc 1)) (.fld 346 1 (.loc 1)) .non) .nil)) (.seta 346 1 (.loc 1) (.bi .len (.cons (.fld 346 0 (.loc 1)) .nil)) (.expr (.mth 550 477 (.fld 875 1 (.loc 0)) (.cons (.loc 3) (.cons (.loc 4) (.cons (.loc 2) .nil)))) .done))))
noncomputable abbrev F_844:FD:=⟨844,["self", "inner", "place", "name", "model"],3,[],i_844⟩
theorem ok_844:FOK (XX B) F_844:=fok exC (by kernel_rfl) (by intro _ _ _ _;kernel_rfl)
noncomputable def i_851:IS:=.asg 2 (.mth 346 322 (.loc 1) .nil) (.whl (.andc (.cmp .Gt (.mth 346 294 (.loc 1) .nil) (.int 0)) (.bop1 (.not (.mth 346 266 (.loc 1) .nil)))) (.asg 3 (.mth 346 322 (.loc 1) .nil) (.expr (.mth 346 301 (.loc 1) .nil) (.asgT [4,5] (.call 893 (.cons (.loc 1) .nil)) (.expr (.mth 346 301 (.loc 1) .nil) (.asgT [6,7] (.mth 875 858 (.loc 0) (.cons (.loc 1) (.cons (.loc 4) .nil))) (.expr (.mth 550 484 (.fld 875 1 (.loc 0)) (.cons (.loc 2) (.cons (.loc 3) (.cons (.call 143 (.cons (.loc 4) (.cons (.loc 5) (.cons (.loc 6) (.cons (.loc 7) .nil))))) .nil)))) .done)))))) .done)
noncomputable abbrev F_851:FD:=⟨851,["self", "inner", "element", "name", "kind", "choices", "mode", "value"],2,[],i_851⟩
theorem ok_851:FOK (XX B) F_851:=fok exC (by kernel_rfl) (by intro _ _ _;kernel_rfl)
noncomputable def i_858:IS:=.iff (.mth 346 280 (.loc 1) (.cons (.sl [35,82,69,81,85,73,82,69,68]) .nil)) (.ret (.tup (.cons (.sl [114,101,113,117,105,114,101,100]) (.cons .non .nil)))) .done (.iff (.mth 346 280 (.loc 1) (.cons (.sl [35,73,77,80,76,73,69,68]) .nil)) (.ret (.tup (.cons (.sl [105,109,112,108,105,101,100]) (.cons .non .nil)))) .done (.asg 3 (.sl [100,101,102,97,117,108,116]) (.iff (.mth 346 280 (.loc 1) (.cons (.sl [35,70,73,88,69,68]) .nil)) (.expr (.mth 346 301 (.loc 1) .nil) (.asg 3 (.sl [102,105,120,101,100]) .done)) .done (.ret (.tup (.cons (.loc 3) (.cons (.call 154 (.cons (.loc 2) (.cons (.call 729 (.cons (.mth 346 336 (.loc 1) .nil) (.cons (.fld 875 0 (.loc 0)) (.cons (.fld 875 2 (.loc 0)) .nil)))) .nil))) .nil)))))))
noncomputable abbrev F_858:FD:=⟨858,["self", "inner", "kind", "mode"],3,[],i_858⟩
theorem ok_858:FOK (XX B) F_858:=fok exC (by kernel_rfl) (by intro _ _ _ _;kernel_rfl)
noncomputable def i_865:IS:=.asg 2 (.mth 346 280 (.loc 1) (.cons (.sl [37]) .nil)) (.iff (.loc 2) (.expr (.mth 346 301 (.loc 1) .nil) .done) .done (.asg 3 (.mth 346 322 (.loc 1) .nil) (.expr (.mth 346 301 (.loc 1) .nil) (.iff (.orc (.mth 346 273 (.loc 1) (.cons (.sl [34]) .nil)) (.bop1 (.mth 346 273 (.loc 1) (.cons (.sl [39]) .nil)))) (.expr (.mth 1068 1009 (.fld 875 0 (.loc 0)) (.cons (.loc 2) (.cons (.loc 3) (.cons (.call 751 (.cons (.mth 346 336 (.loc 1) .nil) (.cons (.fld 875 0 (.loc 0)) (.cons (.fld 875 2 (.loc 0)) .nil)))) .nil)))) .ret0) .done (.asgT [4,5] (.call 900 (.cons (.loc 1) (.cons (.bln false) .nil))) (.asg 6 .non (.iff (.andc (.cmp .Gt (.mth 346 294 (.loc 1) .nil) (.int 0)) (.bop1 (.mth 346 280 (.loc 1) (.cons (.sl [78,68,65,84,65]) .nil)))) (.iff (.loc 2) (.raise (.mth 346 259 (.loc 1) (.cons (.str "a parameter entity with a notation") .nil))) .done (.expr (.mth 346 301 (.loc 1) .nil) (.asg 6 (.mth 346 322 (.loc 1) .nil) .done))) .done (.expr (.mth 1068 1009 (.fld 875 0 (.loc 0)) (.cons (.loc 2) (.cons (.loc 3) (.cons .non (.cons (.loc 5) (.cons (.loc 6) .nil)))))) .done))))))))
noncomputable abbrev F_865:FD:=⟨865,["self", "inner", "is_parameter", "name", "public", "system", "unparsed"],2,[],i_865⟩
theorem ok_865:FOK (XX B) F_865:=fok exC (by kernel_rfl) (by intro _ _ _;kernel_rfl)
noncomputable def i_872:IS:=.asg 3 (.mth 346 322 (.loc 1) .nil) (.expr (.mth 346 301 (.loc 1) .nil) (.asgT [4,5] (.call 900 (.cons (.loc 1) (.cons (.bln true) .nil))) (.expr (.mth 550 491 (.fld 875 1 (.loc 0)) (.cons (.loc 3) (.cons (.loc 4) (.cons (.loc 5) (.cons (.loc 2) .nil))))) .done)))
noncomputable abbrev F_872:FD:=⟨872,["self", "inner", "place", "name", "public", "system"],3,[],i_872⟩
theorem ok_872:FOK (XX B) F_872:=fok exC (by kernel_rfl) (by intro _ _ _ _;kernel_rfl)
noncomputable def i_886:IS:=.expr (.mth 346 287 (.loc 0) (.cons (.sl [40]) .nil)) (.asg 2 (.lst .nil) (.whl (.bln true) (.expr (.mth 346 294 (.loc 0) .nil) (.asg 3 (.ifx (.loc 1) (.mth 346 322 (.loc 0) .nil) (.mth 346 315 (.loc 0) .nil)) (.iff (.cmp .In (.loc 3) (.loc 2)) (.raise (.mth 346 259 (.loc 0) (.cons (.str "a choice stands twice") .nil))) .done (.expr (.bm .app (.loc 2) (.cons (.loc 3) .nil)) (.expr (.mth 346 294 (.loc 0) .nil) (.iff (.not (.mth 346 280 (.loc 0) (.cons (.sl [124]) .nil))) (.expr (.mth 346 287 (.loc 0) (.cons (.sl [41]) .nil)) (.ret (.bi .tuple (.cons (.loc 2) .nil)))) .done .done)))))) .done))
noncomputable abbrev F_886:FD:=⟨886,["inner", "is_notation", "found", "name"],2,[],i_886⟩
theorem ok_886:FOK (XX B) F_886:=fok exC (by kernel_rfl) (by intro _ _ _;kernel_rfl)
noncomputable def i_893:IS:=.iff (.mth 346 273 (.loc 0) (.cons (.sl [40]) .nil)) (.ret (.tup (.cons (.sl [101,110,117,109,101,114,97,116,105,111,110]) (.cons (.call 886 (.cons (.loc 0) (.cons (.bln false) .nil))) .nil)))) .done (.asg 1 (.fld 346 1 (.loc 0)) (.asg 2 (.mth 346 322 (.loc 0) .nil) (.iff (.cmp .Eq (.loc 2) (.sl [78,79,84,65,84,73,79,78])) (.expr (.mth 346 301 (.loc 0) .nil) (.ret (.tup (.cons (.sl [110,111,116,97,116,105,111,110]) (.cons (.call 886 (.cons (.loc 0) (.cons (.bln true) .nil))) .nil))))) .done (.iff (.cmp .NotIn (.loc 2) (.glo (g_PLAIN_KINDS))) (.raise (.call 236 (.cons (.bin .Add (.str "no kind of attributes: ") (.loc 2)) (.cons (.loc 1) .nil)))) .done (.ret (.tup (.cons (.loc 2) (.cons (.tup .nil) .nil))))))))
noncomputable abbrev F_893:FD:=⟨893,["inner", "begin", "word"],1,[],i_893⟩
theorem ok_893:FOK (XX B) F_893:=fok exC (by kernel_rfl) (by intro _ _;kernel_rfl)
noncomputable def i_900:IS:=.iff (.mth 346 280 (.loc 0) (.cons (.sl [83,89,83,84,69,77]) .nil)) (.expr (.mth 346 301 (.loc 0) .nil) (.ret (.tup (.cons .non (.cons (.mth 346 336 (.loc 0) .nil) .nil))))) .done (.expr (.mth 346 287 (.loc 0) (.cons (.sl [80,85,66,76,73,67]) .nil)) (.expr (.mth 346 301 (.loc 0) .nil) (.asg 2 (.call 907 (.cons (.loc 0) (.cons (.mth 346 336 (.loc 0) .nil) .nil))) (.asg 3 (.fld 346 1 (.loc 0)) (.iff (.andc (.cmp .Gt (.mth 346 294 (.loc 0) .nil) (.int 0)) (.bop1 (.orc (.mth 346 273 (.loc 0) (.cons (.sl [34]) .nil)) (.bop1 (.mth 346 273 (.loc 0) (.cons (.sl [39]) .nil)))))) (.ret (.tup (.cons (.loc 2) (.cons (.mth 346 336 (.loc 0) .nil) .nil)))) .done (.seta 346 1 (.loc 0) (.loc 3) (.iff (.not (.loc 1)) (.raise (.mth 346 259 (.loc 0) (.cons (.str "expected a system name") .nil))) .done (.ret (.tup (.cons (.loc 2) (.cons .non .nil)))))))))))
noncomputable abbrev F_900:FD:=⟨900,["inner", "is_notation", "public", "ahead"],2,[],i_900⟩
theorem ok_900:FOK (XX B) F_900:=fok exC (by kernel_rfl) (by intro _ _ _;kernel_rfl)
noncomputable def i_907:IS:=.for_ (.nm 2) (.loc 1) (.asg 3 (.orc (.cmp2 .LtE .LtE (.sl [97]) (.loc 2) (.sl [122])) (.orc (.cmp2 .LtE .LtE (.sl [65]) (.loc 2) (.sl [90])) (.bop1 (.cmp2 .LtE .LtE (.sl [48]) (.loc 2) (.sl [57]))))) (.iff (.andc (.not (.loc 3)) (.bop1 (.cmp .NotIn (.loc 2) (.glo (g_PUBLIC_SIGNS))))) (.raise (.mth 346 259 (.loc 0) (.cons (.str "a sign that no public name has") .nil))) .done .done)) (.ret (.call 112 (.cons (.loc 1) .nil)))
noncomputable abbrev F_907:FD:=⟨907,["inner", "text", "sign", "is_letter"],2,[],i_907⟩
theorem ok_907:FOK (XX B) F_907:=fok exC (by kernel_rfl) (by intro _ _ _;kernel_rfl)
noncomputable def i_915:IS:=.asg 4 (.call 550 (.cons (.loc 2) .nil)) (.expr (.mth 875 816 (.call 875 (.cons (.loc 1) (.cons (.loc 4) (.cons (.ifx (.cmp .Is (.loc 3) .non) (.call 633 (.cons (.fld 1068 0 (.loc 1)) .nil)) (.loc 3)) .nil)))) (.cons (.loc 0) .nil)) (.ret (.loc 4)))
noncomputable abbrev F_915_3:FD:=⟨915,["text", "table", "name", "growth", "dtd"],4,[.none],i_915⟩
theorem ok_915_3:FOK (XX B) F_915_3:=fok exC (by kernel_rfl) (by intro _ _ _ _;kernel_rfl)
noncomputable def i_930:IS:=.seta 933 0 (.loc 0) (.loc 1) (.seta 933 1 (.loc 0) (.loc 2) .done)
noncomputable abbrev F_930_1:FD:=⟨930,["self", "most_depth", "most_size"],3,[.int 20,.int 100000],i_930⟩
theorem ok_930_1:FOK (XX B) F_930_1:=fok exC (by kernel_rfl) (by intro _ _;kernel_rfl)
noncomputable def i_951:IS:=.seta 968 0 (.loc 0) (.loc 1) (.seta 968 1 (.loc 0) (.loc 2) (.seta 968 2 (.loc 0) (.loc 3) (.seta 968 3 (.loc 0) (.loc 4) .done)))
noncomputable abbrev F_951:FD:=⟨951,["self", "name", "value", "system", "notation"],5,[],i_951⟩
theorem ok_951:FOK (XX B) F_951:=fok exC (by kernel_rfl) (by intro _ _ _ _ _ _;kernel_rfl)
noncomputable def i_958:IS:=.ret (.cmp .Is (.fld 968 1 (.loc 0)) .non)
noncomputable abbrev F_958:FD:=⟨958,["self"],1,[],i_958⟩
theorem ok_958:FOK (XX B) F_958:=fok exC (by kernel_rfl) (by intro _ _;kernel_rfl)
noncomputable def i_965:IS:=.ret (.cmp .IsNot (.fld 968 3 (.loc 0)) .non)
noncomputable abbrev F_965:FD:=⟨965,["self"],1,[],i_965⟩
theorem ok_965:FOK (XX B) F_965:=fok exC (by kernel_rfl) (by intro _ _;kernel_rfl)
noncomputable def i_1001:IS:=.seta 1068 0 (.loc 0) (.loc 1) (.seta 1068 1 (.loc 0) (.ifx (.cmp .Is (.loc 2) .non) .dic (.loc 2)) (.seta 1068 2 (.loc 0) .dic (.seta 1068 3 (.loc 0) .dic .done)))
noncomputable abbrev F_1001_2:FD:=⟨1001,["self", "limits", "outer"],3,[.none],i_1001⟩
theorem ok_1001_2:FOK (XX B) F_1001_2:=fok exC (by kernel_rfl) (by intro _ _ _;kernel_rfl)
noncomputable def i_1009:IS:=.asg 6 (.ifx (.loc 1) (.fld 1068 3 (.loc 0)) (.fld 1068 2 (.loc 0))) (.iff (.orc (.cmp .In (.loc 2) (.loc 6)) (.bop1 (.andc (.not (.loc 1)) (.bop1 (.cmp .IsNot (.call 588 (.cons (.loc 2) .nil)) .non))))) (.ret (.bln false)) .done (.seti (.loc 6) (.loc 2) (.call 968 (.cons (.loc 2) (.cons (.loc 3) (.cons (.loc 4) (.cons (.loc 5) .nil))))) (.ret (.bln true))))
noncomputable abbrev F_1009:FD:=⟨1009,["self", "is_parameter", "name", "value", "system", "notation", "rows"],6,[],i_1009⟩
theorem ok_1009:FOK (XX B) F_1009:=fok exC (by kernel_rfl) (by intro _ _ _ _ _ _ _;kernel_rfl)
noncomputable abbrev F_1009_4:FD:=⟨1009,["self", "is_parameter", "name", "value", "system", "notation", "rows"],6,[.none,.none],i_1009⟩
theorem ok_1009_4:FOK (XX B) F_1009_4:=fok exC (by kernel_rfl) (by intro _ _ _ _ _;kernel_rfl)
noncomputable def i_1044:IS:=.iff (.mth 968 965 (.loc 1) .nil) .bad .done (.ret (.ifx (.mth 968 958 (.loc 1) .nil) (.mth 1068 1037 (.loc 0) (.cons (.loc 1) .nil)) (.fld 968 1 (.loc 1))))
noncomputable abbrev F_1044:FD:=⟨1044,["self", "entity"],2,[],i_1044⟩
theorem ok_1044:FOK (XX B) F_1044:=fok exC (by kernel_rfl) (by intro _ _ _;kernel_rfl)
noncomputable def i_1065:IS:=.iff (.cmp .NotIn (.loc 1) (.fld 1068 3 (.loc 0))) .bad .done (.ret (.mth 1068 1044 (.loc 0) (.cons (.item (.fld 1068 3 (.loc 0)) (.loc 1)) .nil)))
noncomputable abbrev F_1065:FD:=⟨1065,["self", "name"],2,[],i_1065⟩
theorem ok_1065:FOK (XX B) F_1065:=fok exC (by kernel_rfl) (by intro _ _ _;kernel_rfl)
noncomputable def i_1079:IS:=.asg 2 (.int 0) (.iff (.cmp .Lt (.loc 1) (.bi .len (.cons (.loc 0) .nil))) (.asg 2 (.item (.loc 0) (.loc 1)) .done) .done (.asg 3 (.bi .max (.cons (.bi .int (.cons (.loc 2) .nil)) (.cons (.bi .int (.cons (.bin .Sub (.neg (.int 1)) (.loc 2)) .nil)) .nil))) (.asg 4 (.bin .Mod (.bi .int (.cons (.bin .Mult (.bin .Add (.bin .Add (.bin .Add (.bin .Mod (.bi .int (.cons (.loc 3) .nil)) (.int 2147483629)) (.bin .Mult (.bin .Mult (.int 7919) (.loc 1)) (.loc 1))) (.bin .Mult (.int 31) (.loc 1))) (.int 17)) (.int 48271)) .nil)) (.int 2147483647)) (.ret (.lst (.cons (.bin .Mult (.loc 3) (.bi .int (.cons (.cmp .GtE (.loc 3) (.bin .Pow (.int 10) (.int 18))) .nil))) (.cons (.loc 4) .nil)))))))
noncomputable abbrev F_1079:FD:=⟨1079,["script", "k", "cell", "big", "mixed"],2,[],i_1079⟩
theorem ok_1079:FOK (XX B) F_1079:=fok exC (by kernel_rfl) (by intro _ _ _;kernel_rfl)
noncomputable def i_1086:IS:=.iff (.cmp .Gt (.item (.loc 0) (.int 0)) (.int 0)) (.asg 2 (.bin .Mod (.bi .int (.cons (.item (.loc 0) (.int 0)) .nil)) (.loc 1)) (.seti (.loc 0) (.int 0) (.bin .FloorDiv (.item (.loc 0) (.int 0)) (.loc 1)) (.ret (.loc 2)))) .done (.seti (.loc 0) (.int 1) (.bin .Mod (.bi .int (.cons (.bin .Add (.bin .Mult (.item (.loc 0) (.int 1)) (.int 39373)) (.int 7)) .nil)) (.int 2147483647)) (.ret (.bin .Mod (.bi .int (.cons (.bin .FloorDiv (.bin .Mod (.bi .int (.cons (.bin .Mult (.item (.loc 0) (.int 1)) (.item (.loc 0) (.int 1))) .nil)) (.int 2147483629)) (.int 32)) .nil)) (.loc 1))))
noncomputable abbrev F_1086:FD:=⟨1086,["source", "top", "drawn"],2,[],i_1086⟩
theorem ok_1086:FOK (XX B) F_1086:=fok exC (by kernel_rfl) (by intro _ _ _;kernel_rfl)
noncomputable def i_1093:IS:=.ret (.item (.loc 1) (.call 1086 (.cons (.loc 0) (.cons (.bi .len (.cons (.loc 1) .nil)) .nil))))
noncomputable abbrev F_1093:FD:=⟨1093,["source", "things"],2,[],i_1093⟩
theorem ok_1093:FOK (XX B) F_1093:=fok exC (by kernel_rfl) (by intro _ _ _;kernel_rfl)
noncomputable def i_1100:IS:=.ret (.call 1093 (.cons (.loc 0) (.cons (.lro (.cons (.sl [32]) (.cons (.sl [10]) (.cons (.sl [32,9,32]) .nil)))) .nil)))
noncomputable abbrev F_1100:FD:=⟨1100,["source"],1,[],i_1100⟩
theorem ok_1100:FOK (XX B) F_1100:=fok exC (by kernel_rfl) (by intro _ _;kernel_rfl)
noncomputable def i_1107:IS:=.asg 2 (.call 1093 (.cons (.loc 0) (.cons (.lro (.cons (.sl [34]) (.cons (.sl [39]) .nil))) .nil))) (.ret (.bin .Add (.bin .Add (.loc 2) (.loc 1)) (.loc 2)))
noncomputable abbrev F_1107:FD:=⟨1107,["source", "text", "quote"],2,[],i_1107⟩
theorem ok_1107:FOK (XX B) F_1107:=fok exC (by kernel_rfl) (by intro _ _ _;kernel_rfl)
noncomputable def i_1114:IS:=.asg 1 (.call 1093 (.cons (.loc 0) (.cons (.lro (.cons (.sl [97]) (.cons (.sl [98]) (.cons (.sl [99]) .nil)))) .nil))) (.asg 2 (.lst (.cons (.tup (.cons (.tup (.cons (.sl [101,109,112,116,121]) .nil)) (.cons (.sl [69,77,80,84,89]) .nil))) (.cons (.tup (.cons (.tup (.cons (.sl [97,110,121]) .nil)) (.cons (.sl [65,78,89]) .nil))) (.cons (.tup (.cons (.tup (.cons (.sl [109,105,120,101,100]) (.cons (.tup (.cons (.sl [98]) .nil)) .nil))) (.cons (.sl [40,32,35,80,67,68,65,84,65,32,124,32,98,32,41,42]) .nil))) .nil)))) (.asg 3 (.tup (.cons (.sl [115,101,113]) (.cons (.tup (.cons (.tup (.cons (.sl [110,97,109,101]) (.cons (.sl [98]) (.cons (.sl []) .nil)))) (.cons (.tup (.cons (.sl [110,97,109,101]) (.cons (.sl [99]) (.cons (.sl [63]) .nil)))) .nil))) (.cons (.sl [42]) .nil)))) (.expr (.bm .app (.loc 2) (.cons (.tup (.cons (.tup (.cons (.sl [99,104,105,108,100,114,101,110]) (.cons (.loc 3) .nil))) (.cons (.bin .Add (.bin .Add (.sl [40,98,44]) (.call 1100 (.cons (.loc 0) .nil))) (.sl [99,63,41,42])) .nil))) .nil)) (.asgT [4,5] (.call 1093 (.cons (.loc 0) (.cons (.loc 2) .nil))) (.ret (.lro (.cons (.tup (.cons (.sl [101,108,101,109,101,110,116]) (.cons (.loc 1) (.cons (.loc 4) .nil)))) (.cons (.lro (.cons (.loc 1) (.cons (.loc 5) .nil))) .nil))))))))
noncomputable abbrev F_1114:FD:=⟨1114,["source", "name", "models", "particle", "model", "text"],1,[],i_1114⟩
theorem ok_1114:FOK (XX B) F_1114:=fok exC (by kernel_rfl) (by intro _ _;kernel_rfl)
noncomputable def i_1121:IS:=.swp 1 2 (.call 1093 (.cons (.loc 0) (.cons (.lro (.cons (.sl [97]) (.cons (.sl [98]) .nil))) .nil))) (.call 1093 (.cons (.loc 0) (.cons (.lro (.cons (.sl [112]) (.cons (.sl [113]) .nil))) .nil))) (.asg 3 (.lro (.cons (.tup (.cons (.sl [67,68,65,84,65]) (.cons (.tup .nil) (.cons (.sl [67,68,65,84,65]) .nil)))) (.cons (.tup (.cons (.sl [78,77,84,79,75,69,78,83]) (.cons (.tup .nil) (.cons (.sl [78,77,84,79,75,69,78,83]) .nil)))) (.cons (.tup (.cons (.sl [73,68]) (.cons (.tup .nil) (.cons (.sl [73,68]) .nil)))) .nil)))) (.asg 3 (.bin .Add (.loc 3) (.lro (.cons (.tup (.cons (.sl [101,110,117,109,101,114,97,116,105,111,110]) (.cons (.tup (.cons (.sl [117]) (.cons (.sl [118]) .nil))) (.cons (.sl [40,117,124,32,118,41]) .nil)))) (.cons (.tup (.cons (.sl [110,111,116,97,116,105,111,110]) (.cons (.tup (.cons (.sl [103]) .nil)) (.cons (.sl [78,79,84,65,84,73,79,78,32,40,103,41]) .nil)))) .nil)))) (.asgT [4,5,6] (.call 1093 (.cons (.loc 0) (.cons (.loc 3) .nil))) (.asg 7 (.call 1093 (.cons (.loc 0) (.cons (.lro (.cons (.sl [114,101,113,117,105,114,101,100]) (.cons (.sl [105,109,112,108,105,101,100]) (.cons (.sl [100,101,102,97,117,108,116]) (.cons (.sl [102,105,120,101,100]) .nil))))) .nil))) (.asg 8 (.lro (.cons (.loc 1) (.cons (.loc 2) (.cons (.loc 6) .nil)))) (.iff (.cmp .In (.loc 7) (.lro (.cons (.sl [114,101,113,117,105,114,101,100]) (.cons (.sl [105,109,112,108,105,101,100]) .nil)))) (.ret (.lro (.cons (.tup (.cons (.sl [97,116,116,114,105,98,117,116,101]) (.cons (.loc 1) (.cons (.loc 2) (.cons (.loc 4) (.cons (.loc 5) (.cons (.loc 7) (.cons .non .nil)))))))) (.cons (.bin .Add (.loc 8) (.lro (.cons (.bin .Add (.sl [35]) (.bm .upp (.loc 7) .nil)) .nil))) .nil)))) .done (.asgT [9,10] (.call 1093 (.cons (.loc 0) (.cons (.lro (.cons (.tup (.cons (.sl [117]) (.cons (.sl [117]) .nil))) (.cons (.tup (.cons (.sl [117,32,32,118]) (.cons (.sl [117,32,32,118]) .nil))) (.cons (.tup (.cons (.sl [118,62,119]) (.cons (.sl [118,62,119]) .nil))) (.cons (.tup (.cons (.sl [120,38,121]) (.cons (.sl [120,38,35,51,56,59,121]) .nil))) (.cons (.tup (.cons (.sl [34]) (.cons (.sl [38,113,117,111,116,59]) .nil))) .nil)))))) .nil))) (.asg 8 (.bin .Add (.bin .Add (.loc 8) (.bin .Mult (.lst (.cons (.sl [35,70,73,88,69,68]) .nil)) (.bi .int (.cons (.cmp .Eq (.loc 7) (.sl [102,105,120,101,100])) .nil)))) (.lro (.cons (.call 1107 (.cons (.loc 0) (.cons (.loc 10) .nil))) .nil))) (.asg 9 (.ifr 4 9 "CDATA" "  " " ") (.ret (.lro (.cons (.tup (.cons (.sl [97,116,116,114,105,98,117,116,101]) (.cons (.loc 1) (.cons (.loc 2) (.cons (.loc 4) (.cons (.loc 5) (.cons (.loc 7) (.cons (.loc 9) .nil)))))))) (.cons (.loc 8) .nil)))))))))))))
noncomputable abbrev F_1121:FD:=⟨1121,["source", "element", "name", "kinds", "kind", "choices", "told", "mode", "words", "value", "raw"],1,[],i_1121⟩
theorem ok_1121:FOK (XX B) F_1121:=fok exC (by kernel_rfl) (by intro _ _;kernel_rfl)
noncomputable def i_1128:IS:=.asg 1 (.call 1093 (.cons (.loc 0) (.cons (.lro (.cons (.sl [101]) (.cons (.sl [102]) .nil))) .nil))) (.asg 2 (.call 1086 (.cons (.loc 0) (.cons (.int 4) .nil))) (.iff (.cmp .Eq (.loc 2) (.int 0)) (.ret (.lro (.cons (.tup (.cons (.sl [101,110,116,105,116,121]) (.cons (.loc 1) (.cons .non (.cons (.sl [115,46,120]) (.cons .non .nil)))))) (.cons (.lro (.cons (.loc 1) (.cons (.sl [83,89,83,84,69,77]) (.cons (.call 1107 (.cons (.loc 0) (.cons (.sl [115,46,120]) .nil))) .nil)))) .nil)))) .done (.iff (.cmp .Eq (.loc 2) (.int 1)) (.asg 3 (.lro (.cons (.loc 1) (.cons (.sl [80,85,66,76,73,67]) (.cons (.call 1107 (.cons (.loc 0) (.cons (.sl [45,47,47,112]) .nil))) (.cons (.call 1107 (.cons (.loc 0) (.cons (.sl [115,46,121]) .nil))) (.cons (.sl [78,68,65,84,65]) (.cons (.sl [103]) .nil))))))) (.ret (.lro (.cons (.tup (.cons (.sl [101,110,116,105,116,121]) (.cons (.loc 1) (.cons .non (.cons (.sl [115,46,121]) (.cons (.sl [103]) .nil)))))) (.cons (.loc 3) .nil))))) .done (.asgT [4,5] (.call 1093 (.cons (.loc 0) (.cons (.lro (.cons (.tup (.cons (.sl [116]) (.cons (.sl [116]) .nil))) (.cons (.tup (.cons (.sl [60,97,62,120,60,47,97,62]) (.cons (.sl [60,97,62,120,60,47,97,62]) .nil))) (.cons (.tup (.cons (.sl [65,38,101,59]) (.cons (.sl [38,35,54,53,59,38,101,59]) .nil))) (.cons (.tup (.cons (.sl []) (.cons (.sl []) .nil))) .nil))))) .nil))) (.ret (.lro (.cons (.tup (.cons (.sl [101,110,116,105,116,121]) (.cons (.loc 1) (.cons (.loc 4) (.cons .non (.cons .non .nil)))))) (.cons (.lro (.cons (.loc 1) (.cons (.call 1107 (.cons (.loc 0) (.cons (.loc 5) .nil))) .nil))) .nil))))))))
noncomputable abbrev F_1128:FD:=⟨1128,["source", "name", "way", "words", "value", "raw"],1,[],i_1128⟩
theorem ok_1128:FOK (XX B) F_1128:=fok exC (by kernel_rfl) (by intro _ _;kernel_rfl)
noncomputable def i_1135:IS:=.asg 1 (.call 1093 (.cons (.loc 0) (.cons (.lro (.cons (.sl [103]) (.cons (.sl [104]) .nil))) .nil))) (.asg 2 (.call 1086 (.cons (.loc 0) (.cons (.int 3) .nil))) (.iff (.cmp .Eq (.loc 2) (.int 0)) (.ret (.lro (.cons (.tup (.cons (.sl [110,111,116,97,116,105,111,110]) (.cons (.loc 1) (.cons .non (.cons (.sl [115,46,110]) .nil))))) (.cons (.lro (.cons (.loc 1) (.cons (.sl [83,89,83,84,69,77]) (.cons (.call 1107 (.cons (.loc 0) (.cons (.sl [115,46,110]) .nil))) .nil)))) .nil)))) .done (.iff (.cmp .Eq (.loc 2) (.int 1)) (.ret (.lro (.cons (.tup (.cons (.sl [110,111,116,97,116,105,111,110]) (.cons (.loc 1) (.cons (.sl [112,32,113]) (.cons .non .nil))))) (.cons (.lro (.cons (.loc 1) (.cons (.sl [80,85,66,76,73,67]) (.cons (.call 1107 (.cons (.loc 0) (.cons (.sl [32,112,32,32,113]) .nil))) .nil)))) .nil)))) .done (.ret (.lro (.cons (.tup (.cons (.sl [110,111,116,97,116,105,111,110]) (.cons (.loc 1) (.cons (.sl [112]) (.cons (.sl [115]) .nil))))) (.cons (.lro (.cons (.loc 1) (.cons (.sl [80,85,66,76,73,67]) (.cons (.call 1107 (.cons (.loc 0) (.cons (.sl [112]) .nil))) (.cons (.call 1107 (.cons (.loc 0) (.cons (.sl [115]) .nil))) .nil))))) .nil)))))))
noncomputable abbrev F_1135:FD:=⟨1135,["source", "name", "way"],1,[],i_1135⟩
theorem ok_1135:FOK (XX B) F_1135:=fok exC (by kernel_rfl) (by intro _ _;kernel_rfl)
noncomputable def i_1142:IS:=.asg 1 (.call 1086 (.cons (.loc 0) (.cons (.int 5) .nil))) (.asg 2 (.callv (.item (.lro (.cons (.glo (.raw (.ref 1114))) (.cons (.glo (.raw (.ref 1121))) (.cons (.glo (.raw (.ref 1121))) (.cons (.glo (.raw (.ref 1128))) (.cons (.glo (.raw (.ref 1135))) .nil)))))) (.loc 1)) (.cons (.loc 0) .nil)) (.asg 3 (.item (.lro (.cons (.sl [69,76,69,77,69,78,84]) (.cons (.sl [65,84,84,76,73,83,84]) (.cons (.sl [65,84,84,76,73,83,84]) (.cons (.sl [69,78,84,73,84,89]) (.cons (.sl [78,79,84,65,84,73,79,78]) .nil)))))) (.loc 1)) (.swp 4 5 (.lst (.cons (.item (.loc 2) (.int 0)) .nil)) (.item (.loc 2) (.int 1)) (.iff (.andc (.cmp .Eq (.loc 3) (.sl [65,84,84,76,73,83,84])) (.bop1 (.cmp .Eq (.call 1086 (.cons (.loc 0) (.cons (.int 2) .nil))) (.int 0)))) (.asg 6 (.call 1121 (.cons (.loc 0) .nil)) (.expr (.bm .app (.loc 4) (.cons (.bin .Add (.sli (.item (.loc 2) (.int 0)) .non (.int 2)) (.sli (.item (.loc 6) (.int 0)) (.int 2) .non)) .nil)) (.asg 5 (.bin .Add (.loc 5) (.sli (.item (.loc 6) (.int 1)) (.int 1) .non)) .done))) .done (.asg 7 (.bin .Add (.sl [60,33]) (.loc 3)) (.for_ (.nm 8) (.loc 5) (.asg 7 (.bin .Add (.bin .Add (.loc 7) (.call 1100 (.cons (.loc 0) .nil))) (.loc 8)) .done) (.ret (.lro (.cons (.frz (.loc 4)) (.cons (.bin .Add (.bin .Add (.loc 7) (.call 1093 (.cons (.loc 0) (.cons (.lro (.cons (.sl []) (.cons (.sl [32]) .nil))) .nil)))) (.sl [62])) .nil))))))))))
noncomputable abbrev F_1142:FD:=⟨1142,["source", "kind", "drawn", "word", "found_rows", "words", "more", "found", "one"],1,[],i_1142⟩
theorem ok_1142:FOK (XX B) F_1142:=fok exC (by kernel_rfl) (by intro _ _;kernel_rfl)
noncomputable def i_1149:IS:=.ret (.call 1093 (.cons (.loc 0) (.cons (.lro (.cons (.sl []) (.cons (.sl [32]) (.cons (.sl [60,33,45,45,32,62,32,60,33,69,76,69,77,69,78,84,32,45,45,62]) (.cons (.sl [60,63,103,111,32,62,32,111,110,63,62]) (.cons (.sl [10]) .nil)))))) .nil)))
noncomputable abbrev F_1149:FD:=⟨1149,["source"],1,[],i_1149⟩
theorem ok_1149:FOK (XX B) F_1149:=fok exC (by kernel_rfl) (by intro _ _;kernel_rfl)
noncomputable def i_1156:IS:=.asg 2 (.sl []) (.for_ (.nm 3) (.bi .range (.cons (.bi .len (.cons (.loc 1) .nil)) .nil)) (.swp 4 5 (.item (.item (.loc 1) (.loc 3)) (.int 1)) (.call 1086 (.cons (.loc 0) (.cons (.int 6) .nil))) (.asg 6 (.bin .Add (.sl [109]) (.bi .str (.cons (.loc 3) .nil))) (.iff (.andc (.cmp .Eq (.loc 5) (.int 0)) (.andc (.cmp .NotIn (.sl [34]) (.loc 4)) (.bop1 (.cmp .NotIn (.sl [38]) (.loc 4))))) (.asg 4 (.bin .Add (.bin .Add (.bin .Add (.bin .Add (.bin .Add (.bin .Add (.sl [60,33,69,78,84,73,84,89,32,37,32]) (.loc 6)) (.sl [32,34])) (.loc 4)) (.sl [34,62,37])) (.loc 6)) (.sl [59])) .done) (.iff (.andc (.cmp .Eq (.loc 5) (.int 1)) (.bop1 (.cmp .Eq (.item (.item (.item (.item (.loc 1) (.loc 3)) (.int 0)) (.int 0)) (.int 0)) (.sl [101,108,101,109,101,110,116])))) (.swp 7 8 (.sli (.loc 4) .non (.int 10)) (.sli (.loc 4) (.int 10) (.neg (.int 1))) (.asg 4 (.bin .Add (.bin .Add (.bin .Add (.bin .Add (.bin .Add (.bin .Add (.bin .Add (.bin .Add (.sl [60,33,69,78,84,73,84,89,32,37,32]) (.loc 6)) (.sl [32,39])) (.loc 8)) (.sl [39,62])) (.loc 7)) (.sl [37])) (.loc 6)) (.sl [59,62])) .done)) .done .done) (.asg 2 (.bin .Add (.bin .Add (.loc 2) (.call 1149 (.cons (.loc 0) .nil))) (.loc 4)) .done)))) (.ret (.bin .Add (.loc 2) (.call 1149 (.cons (.loc 0) .nil)))))
noncomputable abbrev F_1156:FD:=⟨1156,["source", "rows", "found", "at", "text", "way", "name", "word", "rest"],2,[],i_1156⟩
theorem ok_1156:FOK (XX B) F_1156:=fok exC (by kernel_rfl) (by intro _ _ _;kernel_rfl)
noncomputable def i_1168:IS:=.asg 3 (.bi .dict (.cons (.comp (.tup (.cons (.item (.loc 0) (.int 1)) (.cons (.item (.loc 0) (.int 2)) .nil))) (.cmp .Eq (.item (.loc 0) (.int 0)) (.sl [101,108,101,109,101,110,116])) (.loc 0) false ["row"] []) .nil)) (.asg 4 (.bi .dict (.cons (.comp (.tup (.cons (.item (.loc 0) (.int 1)) (.cons (.sli (.loc 0) (.int 2) .non) .nil))) (.cmp .Eq (.item (.loc 0) (.int 0)) (.sl [110,111,116,97,116,105,111,110])) (.loc 0) false ["row"] []) .nil)) (.swp 5 6 .dicT .dic (.for_ (.nm 7) (.loc 0) (.iff (.andc (.cmp .Eq (.item (.loc 7) (.int 0)) (.sl [97,116,116,114,105,98,117,116,101])) (.bop1 (.cmp .NotIn (.sli (.loc 7) (.int 1) (.int 3)) (.loc 5)))) (.sett (.loc 5) (.sli (.loc 7) (.int 1) (.int 3)) (.sli (.loc 7) (.int 3) .non) .done) .done (.iff (.andc (.cmp .Eq (.item (.loc 7) (.int 0)) (.sl [101,110,116,105,116,121])) (.bop1 (.cmp .NotIn (.item (.loc 7) (.int 1)) (.loc 6)))) (.seti (.loc 6) (.item (.loc 7) (.int 1)) (.sli (.loc 7) (.int 2) .non) .done) .done .done)) (.asg 8 .dicT (.for_ (.nm 9) (.fld 550 2 (.loc 1)) (.for_ (.nm 10) (.mth 550 505 (.loc 1) (.cons (.loc 9) .nil)) (.sett (.loc 8) (.tup (.cons (.loc 9) (.cons (.loc 10) .nil))) (.mth 143 133 (.mth 550 512 (.loc 1) (.cons (.loc 9) (.cons (.loc 10) .nil))) .nil) .done) .done) (.asg 11 (.bi .dict (.cons (.comp (.tup (.cons (.loc 0) (.cons (.tup (.cons (.fld 968 1 (.loc 1)) (.cons (.fld 968 2 (.loc 1)) (.cons (.fld 968 3 (.loc 1)) .nil)))) .nil))) (.bln true) (.bm .items (.fld 1068 2 (.loc 2)) .nil) true ["name", "one"] []) .nil)) (.asg 12 (.bi .dict (.cons (.comp (.tup (.cons (.loc 0) (.cons (.tup (.cons (.fld 452 1 (.loc 1)) (.cons (.fld 452 2 (.loc 1)) .nil))) .nil))) (.bln true) (.bm .items (.fld 550 3 (.loc 1)) .nil) true ["name", "one"] []) .nil)) (.ret (.andc (.cmp .Eq (.fld 550 1 (.loc 1)) (.loc 3)) (.andc (.cmp .Eq (.loc 8) (.loc 5)) (.andc (.cmp .Eq (.loc 11) (.loc 6)) (.bop1 (.cmp .Eq (.loc 12) (.loc 4))))))))))))))
noncomputable abbrev F_1168:FD:=⟨1168,["rows", "dtd", "table", "elements", "notations", "rules", "entities", "row", "told", "element", "name", "known", "others"],3,[],i_1168⟩
theorem ok_1168:FOK (XX B) F_1168:=fok exC (by kernel_rfl) (by intro _ _ _ _;kernel_rfl)
end
section
variable {B:Bun} {n:Nat} {σ:Store} {Q:V→Store→Prop} {R:Prop}
theorem c_168 {e:Addr} {l:List Nat} (h:Q .none ((e,.exo (some [.str l]))::σ)):CallOK (XX B) (n+1) (.ref 168) [.ref e,.str l] ((e,.exo none)::σ) Q R:=by
 refine ok_168.go rfl ?_
 refine .mk ?_
 exact .zero rfl rfl rfl h
theorem c_233 {e:Addr} {l:List Nat} {p:V} (hp:hv p=true) (h:Q .none ((e,.exo (some [.str l,p]))::σ)):CallOK (XX B) (n+2) (.ref 233) [.ref e,.str l,p] ((e,.exo none)::σ) Q R:=by
 refine ok_233.go rfl ?_
 refine c_168 ?_
 exact .succ rfl (.s .n) hp h
theorem c_236 {l:List Nat} {p:V} (hp:hv p=true) (h:∀ e d,Q (.ref e) ((e,.exo d)::σ)):CallOK (XX B) (n+3) (.ref 236) [.str l,p] σ Q R:=
 call_exc exC rfl fun e=>c_233 hp (.mk (h e _))
noncomputable def inRanges (c:Int):List (Int×Int)→Bool
 | []=>false
 | (l,h)::r=>cond (decide (c<l)) false (cond (decide (c≤h)) true (inRanges c r))
noncomputable def rngs (rs:List (Int×Int)):List V:=rs.map fun p=>.tup [.int p.1,.int p.2]
theorem c_49 {c:Int} {rs:List (Int×Int)} (h:Q (.bool (inRanges c rs)) σ):CallOK (XX B) (n+1) (.ref 49) [.int c,.tup (rngs rs)] σ Q R:=by
 refine ok_49.go rfl ?_
 refine .tup ?_
 refine fo_map (P:=fun rs σ=>Q (.bool (inRanges c rs)) σ) (ρf:=fun p:Option V×Option V=>.c _ (.c _ (.o p.1 (.o p.2 .n)))) (i:=(none,none)) (fun i σ h=>h) (fun a as i σ h ih=>?_) h
 exact ifq h id fun h=>ifq h id fun h=>ih (some _,some _) _ h
noncomputable def charR:List (Int×Int):=[(32,55295),(57344,65533),(65536,1114111)]
noncomputable def startR:List (Int×Int):=[(192,214),(216,246),(248,767),(880,893),(895,8191),(8204,8205),(8304,8591),(11264,12271),(12289,55295),(63744,64975),(65008,65533),(65536,983039)]
noncomputable def moreR:List (Int×Int):=[(183,183),(768,879),(8255,8256)]
noncomputable abbrev spS:List Nat:=[32,9,10,13]
noncomputable def isSpace (l:List Nat):Bool:=(lfind l spS).isSome&&l != []
theorem c_56 {l:List Nat} (h:Q (.bool (isSpace l)) σ):CallOK (XX B) (n+1) (.ref 56) [.str l] σ Q R:=by
 refine ok_56.go rfl ?_
 exact ifa h id id
noncomputable def isChar (c:Nat):Bool:=cond (decide ((c:Int)<32)) (lfind [c] spS).isSome (inRanges c charR)
theorem c_63 {c:Nat} (h:Q (.bool (isChar c)) σ):CallOK (XX B) (n+2) (.ref 63) [.str [c]] σ Q R:=by
 refine ok_63.go rfl ?_
 refine .ord ?_
 exact ifq h id fun h=>c_49 (rs:=charR) h
noncomputable def smallL (l:List Nat):Bool:=btw l [97] [122]
theorem c_70 {l:List Nat} (h:Q (.bool (smallL l)) σ):CallOK (XX B) (n+1) (.ref 70) [.str l] σ Q R:=by
 refine ok_70.go rfl ?_
 exact ifq h id id
noncomputable def isStart (c:Nat):Bool:=cond (decide ((c:Int)<128)) (smallL [c]||(btw [c] [65] [90]||([c]==[95]||[c]==[58]))) (inRanges c startR)
theorem c_77 {c:Nat} (h:Q (.bool (isStart c)) σ):CallOK (XX B) (n+2) (.ref 77) [.str [c]] σ Q R:=by
 refine ok_77.go rfl ?_
 refine .ord ?_
 refine ifq h (fun h=>?_) (fun h=>.ord (c_49 (rs:=startR) h))
 refine c_70 ?_
 refine ifo h id fun h=>?_
 refine ifb2 (K:=orK _ _ _) ?_ id id
 exact ifo h id fun h=>ifo h id id
noncomputable def isDig (l:List Nat):Bool:=btw l [48] [57]
noncomputable def isNameC (c:Nat):Bool:=cond (isStart c) true (cond (decide ((c:Int)<128)) (isDig [c]||([c]==[45]||[c]==[46])) (inRanges c moreR))
theorem c_84 {c:Nat} (h:Q (.bool (isNameC c)) σ):CallOK (XX B) (n+3) (.ref 84) [.str [c]] σ Q R:=by
 refine ok_84.go rfl ?_
 refine c_77 ?_
 refine ifq h id fun h=>?_
 refine .ord ?_
 refine ifq h (fun h=>?_) (fun h=>.ord (c_49 (rs:=moreR) h))
 refine ifb2 (K:=orK _ _ _) ?_ id id
 exact ifo h id fun h=>ifo h id id
end
noncomputable abbrev scan (t:List Nat) (i:Nat):AObj:=.inst 346 [.str t,.int i]
structure Lf (t r:List Nat):Prop where
 suf:r <:+ t
 len:t.length≤1000000
noncomputable def scR (t r:List Nat):AObj:=scan t (t.length - r.length)
theorem Lf.drop {t r:List Nat} (h:Lf t r):t.drop (t.length - r.length)=r:=by
 obtain ⟨x,rfl⟩:=h.suf
 rw [List.length_append,Nat.add_sub_cancel,List.drop_left]
theorem Lf.len_le {t r:List Nat} (h:Lf t r):r.length≤t.length:=h.suf.length_le
theorem Lf.right {t x r:List Nat} (h:Lf t (x++r)):Lf t r:=⟨(List.suffix_append x r).trans h.suf,h.len⟩
theorem Lf.tail {t r:List Nat} {c:Nat} (h:Lf t (c::r)):Lf t r:=⟨(List.suffix_cons c r).trans h.suf,h.len⟩
theorem Lf.self {t:List Nat} (h:t.length≤1000000):Lf t t:=⟨List.suffix_refl t,h⟩
theorem Lf.nil {t r:List Nat} (h:Lf t r):Lf t []:=⟨List.nil_suffix,h.len⟩
theorem scR_self (t:List Nat):scan t 0=scR t t:=by unfold scR;rw [Nat.sub_self]
theorem Lf.nx {t x r:List Nat} (h:Lf t (x++r)):t.length - (x++r).length+x.length=t.length - r.length:=by
 have:=h.len_le
 rw [List.length_append] at this
 rw [List.length_append,Nat.add_comm x.length,← Nat.sub_sub,Nat.sub_add_cancel (Nat.le_sub_of_add_le this)]
theorem Lf.mv {t x r:List Nat} (h:Lf t (x++r)):((t.length - (x++r).length:Nat):Int)+x.length=(t.length - r.length:Nat):=congrArg Int.ofNat h.nx
noncomputable def hdn (p:Nat→Bool):List Nat→Bool
 | []=>true
 | c::_=>!p c
noncomputable def isSp (c:Nat):Bool:=isSpace [c]
def Sps (s:List Nat):Prop:=∀ c∈s,isSp c=true
noncomputable abbrev nsp:List Nat→Bool:=hdn isSp
noncomputable abbrev nnc:List Nat→Bool:=hdn isNameC
theorem le7 {k:Nat} (h:k≤1000000):k≤10000000:=Nat.le_trans h (lbt rfl)
theorem at_lt {t r:List Nat} {c:Nat} (h:Lf t (c::r)):((t.length - (c::r).length:Nat):Int)<t.length:=by
 have:=h.len_le
 rw [List.length_cons] at *
 omega
theorem at_ge {t:List Nat}:¬((t.length - ([]:List Nat).length:Nat):Int)<t.length:=Int.lt_irrefl _
theorem idx_nat {n j:Nat} (h:j<n) (b:n≤10000000):idx n (j:Int)=some j:=by
 unfold idx
 rw [if_pos ⟨by omega,by omega⟩]
 unfold seqIndex?
 rw [if_neg (Int.not_lt.mpr (Int.natCast_nonneg j))]
 exact if_pos (by rw [decide_eq_true (Int.natCast_nonneg j),decide_eq_true (Int.ofNat_lt.mpr h)];rfl)
theorem Lf.ix {σ:Store} {t r:List Nat} {c:Nat} (h:Lf t (c::r)):Ix σ (.str t) (.int (t.length - (c::r).length:Nat)) (.str [c]):=by
 have e:=congrArg (·[0]?) h.drop
 refine .str (idx_nat (Int.ofNat_lt.mp (at_lt h)) (le7 h.len)) ?_
 simpa using e
theorem qb {Q:VK} {σ:Store} {b b':Bool} (e:b'=b) (h:Q (.bool b) σ):Q (.bool b') σ:=e▸h
section
variable {B:Bun} {n:Nat} {σ:Store} {Q:V→Store→Prop} {R:Prop} {a:Addr} {t r:List Nat}
theorem qs {y:V} {i j:Int} (e:i=j) (h:Q y ((a,.inst 346 [.str t,.int j])::σ)):Q y ((a,.inst 346 [.str t,.int i])::σ):=e▸h
theorem k_346:clsOK (XX B).K 346 252=true:=by kernel_rfl
theorem d_346 (ht:t.length≤1000000) (h:∀ a,Lf t t→Q (.ref a) ((a,scR t t)::σ)):CallOK (XX B) (n+2) (.ref 346) [.str t] σ Q R:=by
 refine call_cls k_346 fun a=>?_
 refine ok_252.go rfl ?_
 refine .mk rfl .n .head rfl ?_
 refine .mk rfl (.s .n) .head rfl ?_
 refine .mk ?_
 have h:=h a (.self ht)
 rw [← scR_self] at h
 exact h
theorem c_259 {l:List Nat} (h:∀ e d,Q (.ref e) ((e,.exo d)::(a,scR t r)::σ)):CallOK (XX B) (n+4) (.ref 259) [.ref a,.str l] ((a,scR t r)::σ) Q R:=by
 refine ok_259.go rfl ?_
 refine .mk (.ref (.head _)) ?_
 exact c_236 rfl h
theorem d_266 (hm:(a,scR t r)∈σ) (hl:Lf t r) (h:Q (.bool r.isEmpty) σ):CallOK (XX B) (n+1) (.ref 266) [.ref a] σ Q R:=by
 refine ok_266.go rfl ?_
 refine .mk (.ref hm) ?_
 refine .mk (.ref hm) ?_
 refine .lenS (le7 hl.len) ?_
 have e:decide (((t.length - r.length:Nat):Int)≥t.length)=r.isEmpty:=by
  cases r with
  | nil=>exact decide_eq_true (Int.le_refl _)
  | cons c r=>exact decide_eq_false fun z=>Int.lt_irrefl _ (Int.lt_of_lt_of_le (at_lt hl) z)
 exact qb (Q:=Q) e h
theorem d_273 {x:List Nat} {b:Bool} (hm:(a,scR t r)∈σ) (hl:Lf t r) (hp:x.isPrefixOf r=b) (h:Q (.bool b) σ):CallOK (XX B) (n+1) (.ref 273) [.ref a,.str x] σ Q R:=by
 refine ok_273.go rfl ?_
 refine .mk (.ref hm) ?_
 refine .mk (.ref hm) ?_
 refine .sw (Nat.sub_le ..) ?_
 exact qb (Q:=Q) ((congrArg _ hl.drop).trans hp) h
theorem pre_app {x r:List Nat}:x.isPrefixOf (x++r)=true:=List.isPrefixOf_iff_prefix.mpr (List.prefix_append x r)
theorem d_280T {x:List Nat} (hl:Lf t (x++r)) (h:Lf t r→Q (.bool true) ((a,scR t r)::σ)):CallOK (XX B) (n+2) (.ref 280) [.ref a,.str x] ((a,scR t (x++r))::σ) Q R:=by
 refine ok_280.go rfl ?_
 refine .mk (.ref (.head _)) ?_
 refine d_273 (.head _) hl pre_app ?_
 refine .mk ?_
 refine .mk (.ref (.head _)) ?_
 refine .lenS (le7 (Nat.le_trans (List.length_append▸Nat.le_add_right ..) (Nat.le_trans hl.len_le hl.len))) ?_
 refine .mk rfl (.s .z) .head rfl ?_
 exact qs (Q:=Q) hl.mv (h hl.right)
theorem d_280F {x:List Nat} (hl:Lf t r) (hp:x.isPrefixOf r=false) (h:Q (.bool false) ((a,scR t r)::σ)):CallOK (XX B) (n+2) (.ref 280) [.ref a,.str x] ((a,scR t r)::σ) Q R:=by
 refine ok_280.go rfl ?_
 refine .mk (.ref (.head _)) ?_
 refine d_273 (.head _) hl hp ?_
 exact .mk h
theorem dflt {l:List Nat} (h:R):CallOK (XX B) (n+4) (.ref 259) [.ref a,.str l] ((a,scR t r)::σ) (fun y σ=>RaE σ y R) R:=c_259 fun _ _=>.mk rfl (.head _) h
theorem d_287 {x:List Nat} (hl:Lf t (x++r)) (h:Lf t r→Q .none ((a,scR t r)::σ)):CallOK (XX B) (n+5) (.ref 287) [.ref a,.str x] ((a,scR t (x++r))::σ) Q R:=by
 refine ok_287.go rfl ?_
 refine .mk (.ref (.head _)) ?_
 refine d_280T hl fun hl=>?_
 exact .mk (h hl)
noncomputable abbrev cnd (f:Addr):IE:=.andc (.cmp .Lt (.fld 346 1 (.loc 0)) (.bi .len (.cons (.fld 346 0 (.loc 0)) .nil))) (.bop1 (.call f (.cons (.item (.fld 346 0 (.loc 0)) (.fld 346 1 (.loc 0))) .nil)))
noncomputable abbrev stp:IS:=.auga 346 1 (.loc 0) (.int 1) .done
theorem scanL {f:Addr} {p:Nat→Bool} {k:IS} {ρ:LV} {q:QK} (hf:∀ {c σ K},K (.bool (p c)) σ→CallOK (XX B) n (.ref f) [.str [c]] σ K R) (hr:hdn p r=true) (h:Lf t r→wS (cok (XX B) n R) k (.c (.ref a) ρ) ((a,scR t r)::σ) q) {s:List Nat} (hs:∀ c∈s,p c=true) (hl:Lf t (s++r)) :
  wS (cok (XX B) n R) (.whl (cnd f) stp k) (.c (.ref a) ρ) ((a,scR t (s++r))::σ) q:=by
 refine .mk fun J hJ=>?_
 induction s with
 | nil=>
  refine hJ _ _ ?_
  refine .mk (.ref (.head _)) ?_
  refine .mk (.ref (.head _)) ?_
  refine .lenS (le7 hl.len) ?_
  cases r with
  | nil=>exact ifF at_ge (.mk (h hl))
  | cons c r=>
   refine ifT (at_lt hl) ?_
   refine .mk (.ref (.head _)) ?_
   refine .mk (.ref (.head _)) ?_
   refine .mk hl.ix ?_
   refine hf ?_
   exact ifBF (Bool.not_eq_true' _ |>.mp hr) (h hl)
 | cons c s ih=>
  refine hJ _ _ ?_
  refine .mk (.ref (.head _)) ?_
  refine .mk (.ref (.head _)) ?_
  refine .lenS (le7 hl.len) ?_
  refine ifT (at_lt hl) ?_
  refine .mk (.ref (.head _)) ?_
  refine .mk (.ref (.head _)) ?_
  refine .mk (Lf.ix (r:=s++r) hl) ?_
  refine hf ?_
  refine ifBT (hs c (.head _)) ?_
  refine .mk (.ref (.head _)) ?_
  refine .mk rfl (.s .z) .head rfl ?_
  exact qs (Q:=fun _ σ=>J _ σ) (y:=.none) (Lf.mv (x:=[c]) (r:=s++r) hl) (ih (fun c hc=>hs c (.tail _ hc)) hl.tail)
theorem d_294 {s:List Nat} (hl:Lf t (s++r)) (hs:Sps s) (hr:nsp r=true) (h:Lf t r→Q (.int s.length) ((a,scR t r)::σ)):CallOK (XX B) (n+2) (.ref 294) [.ref a] ((a,scR t (s++r))::σ) Q R:=by
 refine ok_294.go rfl ?_
 refine .mk (.ref (.head _)) ?_
 refine scanL (f:=56) (p:=isSp) c_56 hr (fun hl'=>?_) hs hl
 refine .mk (.ref (.head _)) ?_
 have e:((t.length - r.length:Nat):Int) - (t.length - (s++r).length:Nat)=s.length:=by rw [← hl.mv,Int.add_comm,Int.add_sub_cancel]
 exact (congrArg (fun i=>Q (.int i) ((a,scR t r)::σ)) e).mpr (h hl')
theorem d_301 {s:List Nat} (hl:Lf t (s++r)) (hs:Sps s) (h0:s≠[]) (hr:nsp r=true) (h:Lf t r→Q .none ((a,scR t r)::σ)):CallOK (XX B) (n+5) (.ref 301) [.ref a] ((a,scR t (s++r))::σ) Q R:=by
 refine ok_301.go rfl ?_
 refine .mk (.ref (.head _)) ?_
 refine d_294 hl hs hr fun hl=>?_
 exact ifeF (fun e=>h0 (List.eq_nil_of_length_eq_zero (Int.ofNat.inj e))) (h hl)
theorem d_301x (hl:Lf t r) (hr:nsp r=true) (h:R):CallOK (XX B) (n+5) (.ref 301) [.ref a] ((a,scR t r)::σ) Q R:=by
 refine ok_301.go rfl ?_
 refine .mk (.ref (.head _)) ?_
 refine d_294 (s:=[]) hl (fun _ h=>nomatch h) hr fun hl=>?_
 refine .mk ?_
 refine .mk (.ref (.head _)) ?_
 exact dflt h
noncomputable def nmAt (r:List Nat):Bool:=r.head?.any isStart
theorem d_308 (hm:(a,scR t r)∈σ) (hl:Lf t r) (h:Q (.bool (nmAt r)) σ):CallOK (XX B) (n+3) (.ref 308) [.ref a] σ Q R:=by
 refine ok_308.go rfl ?_
 refine .mk (.ref hm) ?_
 refine .mk (.ref hm) ?_
 refine .lenS (le7 hl.len) ?_
 cases r with
 | nil=>
  refine ifF at_ge ?_
  exact qb (Q:=Q) (decide_eq_false at_ge) h
 | cons c r=>
  refine ifT (at_lt hl) ?_
  refine .mk (.ref hm) ?_
  refine .mk (.ref hm) ?_
  refine .mk hl.ix ?_
  exact c_77 h
structure IsTk (m:List Nat):Prop where
 ne:m≠[]
 all:∀ c∈m,isNameC c=true
structure IsNm (m:List Nat):Prop extends IsTk m where
 start:nmAt m=true
theorem IsNm.at {m r:List Nat} (h:IsNm m):nmAt (m++r)=true:=by
 obtain ⟨⟨h1,_⟩,h2⟩:=h
 cases m with
 | nil=>exact absurd rfl h1
 | cons c m=>exact h2
theorem lclip_nat {n j:Nat} (h:j≤n):lclip n (j:Int)=j:=by
 unfold lclip
 rw [if_neg (Int.not_lt.mpr (Int.natCast_nonneg j)),Int.min_eq_left (Int.ofNat_le.mpr h),Int.max_eq_right (Int.natCast_nonneg j)];rfl
theorem Lf.cut {m:List Nat} (h:Lf t (m++r)):lsl t (some ((t.length - (m++r).length:Nat):Int)) (some ((t.length - r.length:Nat):Int))=m:=by
 have e:=h.nx
 have l:=h.len_le
 have d:=h.drop
 show (t.take (lclip t.length _)).drop (lclip t.length _)=m
 rw [lclip_nat (Nat.sub_le ..),lclip_nat (Nat.sub_le ..),← e,List.drop_take,d,Nat.add_sub_cancel_left,List.take_left]
theorem d_315 {m:List Nat} (hl:Lf t (m++r)) (hm:IsTk m) (hr:nnc r=true) (h:Lf t r→Q (.str m) ((a,scR t r)::σ)):CallOK (XX B) (n+5) (.ref 315) [.ref a] ((a,scR t (m++r))::σ) Q R:=by
 refine ok_315.go rfl ?_
 refine .mk (.ref (.head _)) ?_
 refine scanL (f:=84) (p:=isNameC) c_84 hr (fun hl'=>?_) hm.all hl
 refine .mk (.ref (.head _)) ?_
 refine ifeF ?_ ?_
 ·rw [← hl.mv]
  have:=List.length_pos_iff.mpr hm.ne
  omega
 refine .mk (.ref (.head _)) ?_
 refine .mk (.ref (.head _)) ?_
 refine .mk (a:=some _) (b:=some _) rfl rfl (.str (le7 hl.len)) ?_
 exact (congrArg (fun i=>Q (.str i) ((a,scR t r)::σ)) hl.cut).mpr (h hl')
theorem d_322 {m:List Nat} (hl:Lf t (m++r)) (hm:IsNm m) (hr:nnc r=true) (h:Lf t r→Q (.str m) ((a,scR t r)::σ)):CallOK (XX B) (n+6) (.ref 322) [.ref a] ((a,scR t (m++r))::σ) Q R:=by
 refine ok_322.go rfl ?_
 refine .mk (.ref (.head _)) ?_
 refine d_308 (.head _) hl ?_
 refine ifNF hm.at ?_
 refine .mk (.ref (.head _)) ?_
 exact d_315 hl hm.toIsTk hr h
end
section
variable {B:Bun} {n:Nat} {σ:Store} {Q:V→Store→Prop} {R:Prop} {a:Addr} {t r:List Nat}
theorem mo_find {σ:Store} {K:VK} {l w:List Nat} {i:Nat} {k:Int} (hi:i≤l.length) (e:fnd i (lfind w (l.drop i))=k) (h:K (.int k) σ):MoE σ K .find [.str l,.str w,.int i]:=.find hi (e▸h)
theorem qs' {y y':V} {i j:Int} (e':y=y') (e:i=j) (h:Q y' ((a,.inst 346 [.str t,.int j])::σ)):Q y ((a,.inst 346 [.str t,.int i])::σ):=e▸e'▸h
theorem Lf.find {x m:List Nat} (hl:Lf t (m++(x++r))) (hf:lfind x (m++(x++r))=some m.length):fnd (t.length - (m++(x++r)).length) (lfind x (t.drop (t.length - (m++(x++r)).length)))=(t.length - (x++r).length:Nat):=by
 rw [hl.drop,hf,← hl.nx];rfl
theorem d_329 {x m:List Nat} (hl:Lf t (m++(x++r))) (hf:lfind x (m++(x++r))=some m.length) (h:Lf t r→Q (.str m) ((a,scR t r)::σ)):CallOK (XX B) (n+5) (.ref 329) [.ref a,.str x] ((a,scR t (m++(x++r)))::σ) Q R:=by
 refine ok_329.go rfl ?_
 refine .mk (.ref (.head _)) ?_
 refine .mk (.ref (.head _)) ?_
 refine mo_find (Nat.sub_le ..) (hl.find hf) ?_
 refine ifF (Int.not_lt.mpr (Int.natCast_nonneg _)) ?_
 refine .mk (.ref (.head _)) ?_
 refine .mk (.ref (.head _)) ?_
 refine .mk (a:=some _) (b:=some _) rfl rfl (.str (le7 hl.len)) ?_
 have l:=hl.right
 refine .lenS (le7 (Nat.le_trans (List.length_append▸Nat.le_add_right ..) (Nat.le_trans l.len_le l.len))) ?_
 refine .mk rfl (.s .z) .head rfl ?_
 exact qs' (Q:=Q) (congrArg V.str hl.cut) l.mv (h l.right)
structure Quo (q x:List Nat):Prop where
 sign:q=[34]∨q=[39]
 free:∀ c∈x,q≠[c]
theorem lfind1 {q:Nat}:∀ {x r:List Nat},(∀ c∈x,[q]≠[c])→lfind [q] (x++q::r)=some x.length
 | [],r,_=>by
  show lfind [q] (q::r)=some 0
  unfold lfind
  rw [if_pos (by simp)]
 | c::x,r,h=>by
  show lfind [q] (c::(x++q::r))=some (x.length+1)
  unfold lfind
  rw [if_neg (by have:=h c (.head _);simpa using this),lfind1 fun c hc=>h c (.tail _ hc)];rfl
theorem d_336 {q x:List Nat} (hl:Lf t (q++(x++(q++r)))) (hq:Quo q x) (h:Lf t r→Q (.str x) ((a,scR t r)::σ)):CallOK (XX B) (n+7) (.ref 336) [.ref a] ((a,scR t (q++(x++(q++r))))::σ) Q R:=by
 refine ok_336.go rfl ?_
 refine .tup ?_
 obtain ⟨q1 | q1,hf⟩:=hq
 ·cases q1
  refine .mk (.ref (.head _)) ?_
  refine d_280T hl fun hl=>?_
  refine .mk ?_
  refine .mk (.ref (.head _)) ?_
  exact d_329 hl (lfind1 hf) h
 ·cases q1
  refine .mk (.ref (.head _)) ?_
  refine d_280F hl rfl ?_
  refine .mk ?_
  refine .mk (.ref (.head _)) ?_
  refine d_280T hl fun hl=>?_
  refine .mk ?_
  refine .mk (.ref (.head _)) ?_
  exact d_329 hl (lfind1 hf) h
inductive NoQuo:List Nat→Prop
 | no {r:List Nat}:[34].isPrefixOf r=false→[39].isPrefixOf r=false→NoQuo r
 | dq {r:List Nat}:lfind [34] r=none→NoQuo (34::r)
 | sq {r:List Nat}:lfind [39] r=none→NoQuo (39::r)
theorem d_343 (hl:Lf t r) (hs:Sps r) (h:Q .none ((a,scR t [])::σ)):CallOK (XX B) (n+5) (.ref 343) [.ref a] ((a,scR t r)::σ) Q R:=by
 have e:=List.append_nil r
 rw [← e] at hl ⊢
 refine ok_343.go rfl ?_
 refine .mk (.ref (.head _)) ?_
 refine d_294 (r:=[]) hl hs rfl fun hl=>?_
 refine .mk (.ref (.head _)) ?_
 refine d_266 (.head _) hl ?_
 exact .mk h
noncomputable def allB (p:Nat→Bool) (z:Bool):List Nat→Bool
 | []=>z
 | c::r=>cond (p c) (allB p z r) false
noncomputable def isNmtoken (l:List Nat):Bool:=allB isNameC (l != []) l
theorem c_91 {l:List Nat} (h:Q (.bool (isNmtoken l)) σ):CallOK (XX B) (n+4) (.ref 91) [.str l] σ Q R:=by
 refine ok_91.go rfl ?_
 refine .str ?_
 refine fo_map (P:=fun l' σ=>Q (.bool (allB isNameC (l != []) l')) σ) (ρf:=fun i=>.c _ (.o i .n)) (i:=none) (fun i σ h=>h) (fun c l' i σ h ih=>?_) h
 refine c_84 ?_
 exact ifnq h id fun h=>ih (some _) _ h
noncomputable def isName (l:List Nat):Bool:=l != []&&(isStart (l.headD 0)&&isNmtoken l)
theorem c_98 {l:List Nat} (hl:l.length≤1000000) (h:Q (.bool (isName l)) σ):CallOK (XX B) (n+5) (.ref 98) [.str l] σ Q R:=by
 refine ok_98.go rfl ?_
 cases l with
 | nil=>exact .mk h
 | cons c r=>
  refine .mk ?_
  refine .mk (.str (idx_nat (j:=0) (Nat.zero_lt_succ _) (le7 hl)) rfl) ?_
  refine c_77 ?_
  refine ifa (Q:=Q) h (fun h=>c_91 h) id
noncomputable def wordsA:List Nat→List Nat→List (List Nat)
 | cur,[]=>if cur=[] then [] else [cur]
 | cur,c::r=>if isSp c then (if cur=[] then wordsA [] r else cur::wordsA [] r) else wordsA (cur++[c]) r
theorem wA_nil {r:List Nat} (h:hdn isSp r=false∨r=[]):wordsA [] r=wordsA [] r.tail:=by
 rcases h with h | rfl
 ·cases r with
  | nil=>cases h
  | cons c r=>exact (if_pos (Bool.not_eq_false' .. |>.mp h)).trans (if_pos rfl)
 ·rfl
theorem wA_cur {cur r:List Nat} (h0:cur≠[]) (h:hdn isSp r=false∨r=[]):wordsA cur r=cur::wordsA [] r.tail:=by
 rcases h with h | rfl
 ·cases r with
  | nil=>cases h
  | cons c r=>exact (if_pos (Bool.not_eq_false' .. |>.mp h)).trans (if_neg h0)
 ·exact if_neg h0
theorem lsl_cut {b cur r:List Nat}:lsl (b++(cur++r)) (some (b.length:Int)) (some ((b++cur).length:Int))=cur:=by
 have l:(b++cur).length≤(b++(cur++r)).length:=by rw [← List.append_assoc,List.length_append (as:=b++cur)];exact Nat.le_add_right ..
 show ((b++(cur++r)).take (lclip _ _)).drop (lclip _ _)=cur
 rw [lclip_nat l,lclip_nat (Nat.le_trans (List.length_append▸Nat.le_add_right ..) l),← List.append_assoc,List.take_left,List.drop_left]
theorem spl {q:QK} (ht:t.length≤1000000) (h:∀ x y,q.nx (.c (.str t) (.s (.ref a) (.s x (.s y .n)))) ((a,.list ((wordsA [] t).map .str))::σ)):∀ (r cur b:List Nat) (F:List (List Nat)) (o:Option V),t=b++(cur++r)→F.length≤b.length→F++wordsA cur r=wordsA [] t →
  ForI (wS (cok (XX B) (n+1) R) i_105.lb) (.nm 3) q ((List.range' (b++cur).length (r.length+1)).map fun i:Nat=>V.int i) (.c (.str t) (.s (.ref a) (.s (.int b.length) (.o o .n)))) ((a,.list (F.map .str))::σ):=by
 have fin:∀ (r cur b:List Nat) (F:List (List Nat)) (q:QK),(hdn isSp r=false∨r=[])→t=b++(cur++r)→F.length≤b.length→F++wordsA cur r=wordsA [] t →
  (∀ (F:List (List Nat)),F.length≤(b++cur).length+1→F++wordsA [] r.tail=wordsA [] t→q.nx (.c (.str t) (.s (.ref a) (.s (.int ((b++cur).length+1:Nat)) (.s (.int (b++cur).length) .n)))) ((a,.list (F.map .str))::σ)) →
  wS (cok (XX B) (n+1) R) (.iff (.cmp .Gt (.loc 3) (.loc 2)) (.expr (.bm .app (.loc 1) (.cons (.sli (.loc 0) (.loc 2) (.loc 3)) .nil)) .done) .done (.asg 2 (.bin .Add (.loc 3) (.int 1)) .done)) (.c (.str t) (.s (.ref a) (.s (.int b.length) (.s (.int (b++cur).length) .n)))) ((a,.list (F.map .str))::σ) q:=by
  intro r cur b F q hr e hF hw k
  refine ifd (fun z=>?_) fun z=>?_
  ·have h0:cur≠[]:=fun e=>by subst e;rw [List.append_nil] at z;exact Int.lt_irrefl _ z
   refine .mk (.list (.head _)) ?_
   refine .mk (a:=some _) (b:=some _) rfl rfl (.str (le7 ht)) ?_
   subst e
   rw [lsl_cut]
   refine .app .head (by rw [List.length_map];rw [List.length_append] at ht;omega) ?_
   have k:=k (F++[cur]) (by rw [List.length_append,List.length_append];exact Nat.succ_le_succ (Nat.le_trans hF (Nat.le_add_right ..))) (by rw [← hw,wA_cur h0 hr,List.append_assoc];rfl)
   rw [List.map_append] at k
   exact k
  ·have h0:cur=[]:=List.eq_nil_of_length_eq_zero (by rw [List.length_append] at z;omega)
   subst h0
   exact k F (by rw [List.append_nil];exact Nat.le_succ_of_le hF) (by rw [← hw,wA_nil hr])
 intro r
 induction r with
 | nil=>
  intro cur b F o e hF hw
  refine .lenS (le7 ht) ?_
  refine ifeT (by rw [e,List.append_nil]) ?_
  refine .mk (fin [] cur b F _ (.inr rfl) e hF hw fun F _ hw=>?_)
  obtain rfl:F=wordsA [] t:=(List.append_nil F).symm.trans hw
  exact h _ _
 | cons c r ih=>
  intro cur b F o e hF hw
  refine .lenS (le7 ht) ?_
  refine ifeF (by rw [e];simp only [List.length_append,List.length_cons];omega) ?_
  refine .mk (.str (idx_nat (by rw [e];simp only [List.length_append,List.length_cons];omega) (le7 ht)) (c:=c) (by rw [e,← List.append_assoc,List.getElem?_append_right (Nat.le_refl _),Nat.sub_self];rfl)) ?_
  refine c_56 ?_
  refine ifb (fun hc=>?_) fun hc=>?_
  ·refine fin (c::r) cur b F _ (.inl (congrArg not hc)) e hF hw fun F hF hw=>?_
   have:=ih [] (b++(cur++[c])) F (some (.int (b++cur).length)) (by rw [e,List.nil_append,List.append_assoc,List.append_assoc];rfl) (by rw [← List.append_assoc,List.length_append (bs:=[c])];exact hF) hw
   rw [List.append_nil,← List.append_assoc,List.length_append (bs:=[c])] at this
   exact this
  ·have:=ih (cur++[c]) b F (some (.int (b++cur).length)) (by rw [e,List.append_assoc];rfl) hF (by rw [← hw];exact congrArg _ (if_neg (by rw [show isSp c=false from hc];exact Bool.false_ne_true)).symm)
   rw [← List.append_assoc,List.length_append (bs:=[c])] at this
   exact this
theorem c_105 (ht:t.length≤1000000) (h:∀ a,Q (.ref a) ((a,.list ((wordsA [] t).map .str))::σ)):CallOK (XX B) (n+2) (.ref 105) [.str t] σ Q R:=by
 refine ok_105.go rfl ?_
 refine fun a=>?_
 refine .lenS (le7 ht) ?_
 refine .range (k:=t.length+1) ?_
 refine .rng (Nat.le_trans (Nat.succ_le_succ ht) (lbt rfl)) ?_
 rw [List.range_eq_range']
 exact spl ht (fun _ _=>h a) t [] [] [] none rfl (Nat.le_refl _) rfl
noncomputable def collap (t:List Nat):List Nat:=ljoin [32] (wordsA [] t)
theorem wordsA_sum:∀ (r cur:List Nat),((wordsA cur r).map List.length).sum+(wordsA cur r).length≤cur.length+r.length+1
 | [],cur=>by unfold wordsA;split<;>simp
 | c::r,cur=>by
  have h1:=wordsA_sum r []
  have h2:=wordsA_sum r (cur++[c])
  unfold wordsA
  split
  ·split
   ·simp at h1 ⊢;omega
   ·simp at h1 ⊢;omega
  ·simp at h2 ⊢;omega
theorem c_112 (ht:t.length≤1000000) (h:∀ a σ',Q (.str (collap t)) ((a,σ')::σ)):CallOK (XX B) (n+3) (.ref 112) [.str t] σ Q R:=by
 refine ok_112.go rfl ?_
 refine c_105 ht fun a=>?_
 have k:=Nat.le_trans (wordsA_sum t []) (Nat.add_le_add_right (Nat.le_trans (Nat.le_of_eq (Nat.zero_add _)) ht) 1)
 exact .join (.ref (.head _)) .map rfl (Nat.le_trans k (lbt rfl)) (h _ _)
noncomputable def dend:List Nat→List Nat→Option (List Nat)
 | _,[]=>none
 | q,c::r=>cond (q != []) (cond ([c]==q) (dend [] r) (dend q r)) (cond ([c]==[34]||[c]==[39]) (dend [c] r) (cond ([c]==[62]) (some r) (dend q r)))
def dnW (F:List Nat→Prop) (R:Prop):Option (List Nat)→Prop
 | some r=>F r
 | none=>R
theorem at3 {J:LV→Store→Prop} {x y:V} {z:LV} {i j:Int} (e:i=j) (h:J (.c x (.c y (.s (.int j) z))) σ):J (.c x (.c y (.s (.int i) z))) σ:=e▸h
theorem c_357 (hl:Lf t r) (h:dnW (fun r'=>Lf t r'→Q (.int (t.length - r'.length:Nat)) σ) R (dend [] r)):CallOK (XX B) (n+4) (.ref 357) [.str t,.int (t.length - r.length:Nat)] σ Q R:=by
 refine ok_357.go rfl ?_
 refine .mk fun J hJ=>?_
 have key:∀ {i:Int} (r q:List Nat) (o:Option V),Lf t r→dnW (fun r'=>Lf t r'→Q (.int (t.length - r'.length:Nat)) σ) R (dend q r)→J (.c (.str t) (.c (.int i) (.s (.int (t.length - r.length:Nat)) (.s (.str q) (.o o .n))))) σ:=by
  intro i r
  induction r with
  | nil=>
   intro q o hl h
   refine hJ _ _ ?_
   refine .lenS (le7 hl.len) ?_
   refine ifF at_ge ?_
   exact c_236 rfl fun _ _=>.mk rfl (.head _) h
  | cons c r ih=>
   intro q o hl h
   have st:∀ q',dnW _ R (dend q' r)→J (.c (.str t) (.c _ (.s (.int _) (.s (.str q') (.s (.str [c]) .n))))) σ:=fun q' h=>at3 (hl.mv (x:=[c]) (r:=r)) (ih q' (some _) hl.tail h)
   refine hJ _ _ ?_
   refine .lenS (le7 hl.len) ?_
   refine ifT (at_lt hl) ?_
   refine .mk hl.ix ?_
   refine ifg (P:=dnW _ R) h (fun h=>?_) fun h=>?_
   ·exact ifg (P:=dnW _ R) h (fun h=>st [] h) fun h=>st q h
   refine ifog (P:=dnW _ R) h (fun h=>.mk (st [c] h)) fun h=>?_
   refine ifg (P:=dnW _ R) h (fun h=>st [c] h) fun h=>?_
   refine ifg (P:=dnW _ R) h (fun h=>?_) fun h=>st q h
   exact qi (Q:=Q) (hl.mv (x:=[c]) (r:=r)) (h hl.tail)
 exact key r [] none hl h
inductive Mk:List Nat→List Nat→List Nat→Prop
 | q {r:List Nat}:Mk (63::r) [63] r
 | s {r:List Nat}:Mk (42::r) [42] r
 | no {r:List Nat}:[63].isPrefixOf r=false→[42].isPrefixOf r=false→[43].isPrefixOf r=false→Mk r [] r
theorem d_365 {m r':List Nat} (hm:Mk r m r') (hl:Lf t r) (h:Lf t r'→Q (.str m) ((a,scR t r')::σ)):CallOK (XX B) (n+3) (.ref 365) [.ref a] ((a,scR t r)::σ) Q R:=by
 refine ok_365.go rfl ?_
 refine .tup ?_
 refine .mk (.ref (.head _)) ?_
 cases hm with
 | q=>
  refine d_280T (x:=[63]) hl fun hl=>?_
  exact .mk (h hl)
 | s=>
  refine d_280F hl rfl ?_
  refine .mk ?_
  refine .mk (.ref (.head _)) ?_
  refine d_280T (x:=[42]) hl fun hl=>?_
  exact .mk (h hl)
 | no h1 h2 h3=>
  refine d_280F hl h1 ?_
  refine .mk ?_
  refine .mk (.ref (.head _)) ?_
  refine d_280F hl h2 ?_
  refine .mk ?_
  refine .mk (.ref (.head _)) ?_
  refine d_280F hl h3 ?_
  exact .mk (h hl)
noncomputable abbrev grp (p:V) (b:Addr) (s:List Nat):AObj:=.inst 396 [p,.ref b,.str s]
theorem k_396:clsOK (XX B).K 396 379=true:=by kernel_rfl
theorem c_396 {p:V} (hp:hv p=true) (h:∀ a b,Q (.ref a) ((b,.list [])::(a,grp p b [])::σ)):CallOK (XX B) (n+2) (.ref 396) [p] σ Q R:=by
 refine call_cls k_396 fun a=>?_
 refine ok_379.go rfl ?_
 refine .mk rfl .n .head hp ?_
 refine fun b=>?_
 refine .mk rfl (.s .n) (.tail .head) rfl ?_
 refine .mk rfl (.s (.s .n)) (.tail .head) rfl ?_
 exact .mk (h a b)
theorem c_386 {s:Addr} {p:V} {b:Addr} {x:List Nat} (h:Q .none ((a,grp p b x)::σ)):CallOK (XX B) (n+1) (.ref 386) [.ref a,.ref s,.str x] ((a,grp p b [])::σ) Q R:=by
 refine ok_386.go rfl ?_
 refine .mk (.ref (.head _)) ?_
 refine .mk ?_
 exact .mk rfl (.s (.s .z)) .head rfl h
noncomputable abbrev sSeq:List Nat:=[115,101,113]
theorem c_393 {p:V} {b:Addr} {s m:List Nat} {vs:List V} (hs:(s==[124])=false) (hl:Nat.ble vs.length 1000=true) (h:Q (.tup [.str sSeq,.tup vs,.str m]) ((a,grp p b s)::(b,.list vs)::σ)):CallOK (XX B) (n+1) (.ref 393) [.ref a,.str m] ((a,grp p b s)::(b,.list vs)::σ) Q R:=by
 refine ok_393.go rfl ?_
 refine .mk (.ref (.head _)) ?_
 refine ifBF hs ?_
 refine .mk (.ref (.head _)) ?_
 refine .tupL (.ref (.tail _ (.head _))) (Nat.le_trans (lbt hl) (lbt rfl)) ?_
 exact h
theorem c_414a {g:Addr} {p:V} {b:Addr} (hl:Lf t (44::r)) (h:Lf t r→Q (.bool true) ((g,grp p b [44])::(a,scR t r)::σ)):CallOK (XX B) (n+6) (.ref 414) [.ref a,.ref g] ((a,scR t (44::r))::(g,grp p b [])::σ) Q R:=by
 refine ok_414.go rfl ?_
 refine .mk (.ref (.head _)) ?_
 refine d_294 (s:=[]) hl (fun _ h=>nomatch h) rfl fun hl=>?_
 refine .tup ?_
 refine .mk (.ref (.head _)) ?_
 refine d_280T (x:=[44]) hl fun hl=>?_
 refine .mk ?_
 refine .mk (.ref (.tail _ (.head _))) ?_
 refine CallOK.pick (.tail .head) ?_
 exact c_386 (h hl)
theorem c_414b {g:Addr} (hl:Lf t (41::r)) (h:Lf t r→Q (.bool false) ((a,scR t r)::σ)):CallOK (XX B) (n+6) (.ref 414) [.ref a,.ref g] ((a,scR t (41::r))::σ) Q R:=by
 refine ok_414.go rfl ?_
 refine .mk (.ref (.head _)) ?_
 refine d_294 (s:=[]) hl (fun _ h=>nomatch h) rfl fun hl=>?_
 refine .tup ?_
 refine .mk (.ref (.head _)) ?_
 refine d_280F hl rfl ?_
 refine .mk ?_
 refine .mk (.ref (.head _)) ?_
 refine d_280F hl rfl ?_
 refine .mk ?_
 refine .mk (.ref (.head _)) ?_
 exact d_287 (x:=[41]) hl h
theorem nm1 {c:Nat} (h:isStart c=true):IsNm [c]:=⟨⟨List.cons_ne_nil _ _,fun d hd=>by rw [List.mem_singleton.mp hd];exact congrArg (cond · _ _) h⟩,h⟩
noncomputable abbrev pN (x m:List Nat):V:=.tup [.str [110,97,109,101],.str x,.str m]
noncomputable def mSeq:V:=.tup [.str sSeq,.tup [pN [98] [],pN [99] [63]],.str [42]]
theorem c_407 {s:List Nat} (hs:Sps s) (hl:Lf t (98::44::(s++99::63::41::42::r))) (h:Lf t r→Q mSeq ((a,scR t r)::σ)):CallOK (XX B) (n+7) (.ref 407) [.ref a] ((a,scR t (98::44::(s++99::63::41::42::r)))::σ) Q R:=by
 refine CallOK.into ?_
 refine ok_407.go rfl ?_
 refine .mk (.ref (.head _)) ?_
 refine c_396 rfl fun g b=>?_
 refine fun gs=>?_
 refine .mk fun J hJ=>?_
 refine hJ _ _ ?_
 refine .mk ?_
 refine .mk (.ref (.tail _ (.tail _ (.tail _ (.head _))))) ?_
 refine CallOK.pick (.tail (.tail (.tail .head))) ?_
 refine d_294 (s:=[]) hl (fun _ h=>nomatch h) rfl fun hl=>?_
 refine .mk (.ref (.head _)) ?_
 refine d_280F hl rfl ?_
 refine .mk ?_
 refine .mk (.ref (.head _)) ?_
 refine d_322 (m:=[98]) hl (nm1 rfl) rfl fun hl=>?_
 refine .mk (.lst (.ref (.tail _ (.head _))) rfl rfl) ?_
 refine .mk (.ref (.tail _ (.tail _ (.tail _ (.head _))))) ?_
 refine .mk (.list (.tail _ (.tail _ (.head _)))) ?_
 refine d_365 (.no rfl rfl rfl) hl fun hl=>?_
 refine .app (.tail (.tail .head)) (Nat.zero_le _) ?_
 refine .mk fun J' hJ'=>?_
 refine hJ' _ _ ?_
 refine .mk (.lst (.ref (.tail _ (.head _))) rfl rfl) ?_
 refine CallOK.pick (.tail (.tail (.tail .head))) (CallOK.pick (.tail .head) ?_)
 refine c_414a hl fun hl=>?_
 refine .mk ?_
 refine hJ _ _ ?_
 refine .mk ?_
 refine .mk (.ref (.tail _ (.head _))) ?_
 refine CallOK.pick (.tail .head) ?_
 refine d_294 hl hs rfl fun hl=>?_
 refine .mk (.ref (.head _)) ?_
 refine d_280F hl rfl ?_
 refine .mk ?_
 refine .mk (.ref (.head _)) ?_
 refine d_322 (m:=[99]) hl (nm1 rfl) rfl fun hl=>?_
 refine .mk (.lst (.ref (.tail _ (.tail _ (.head _)))) rfl rfl) ?_
 refine .mk (.ref (.tail _ (.head _))) ?_
 refine .mk (.list (.tail _ (.tail _ (.tail _ (.head _))))) ?_
 refine d_365 .q hl fun hl=>?_
 refine .app (.tail (.tail (.tail .head))) (lbt rfl) ?_
 refine .mk fun J'' hJ''=>?_
 refine hJ'' _ _ ?_
 refine .mk (.lst (.ref (.tail _ (.tail _ (.head _)))) rfl rfl) ?_
 refine c_414b hl fun hl=>?_
 refine .mk ?_
 refine .mk (.list (.tail _ (.tail _ (.head _)))) ?_
 refine .pop (vs:=[]) (.tail (.tail .head)) (Nat.zero_le _) ?_
 refine .mk (.ref (.tail _ (.head _))) ?_
 refine d_365 .s hl fun hl=>?_
 refine CallOK.pick (.tail (.tail (.tail .head))) (CallOK.pick (.tail (.tail .head)) ?_)
 refine c_393 rfl rfl ?_
 refine .eqN (.ref (.tail _ (.tail _ (.tail _ (.head _))))) ?_
 refine .mk ?_
 exact .mk (.drop (.drop (.take .head (.drop .refl)))) (h hl)
theorem sp1:Sps [32]:=fun c h=>by rw [List.mem_singleton.mp h];rfl
theorem Sps.nil:Sps []:=fun _ h=>nomatch h
noncomputable def mMixed:V:=.tup [.str [109,105,120,101,100],.tup [.str [98]]]
theorem c_421 (hl:Lf t (32::124::32::98::32::41::42::r)) (h:Lf t r→Q mMixed ((a,scR t r)::σ)):CallOK (XX B) (n+7) (.ref 421) [.ref a] ((a,scR t (32::124::32::98::32::41::42::r))::σ) Q R:=by
 refine CallOK.into ?_
 refine ok_421.go rfl ?_
 refine fun g=>?_
 refine .mk (.ref (.tail _ (.head _))) ?_
 refine CallOK.pick (.tail .head) ?_
 refine d_294 (s:=[32]) hl sp1 rfl fun hl=>?_
 refine .mk fun J hJ=>?_
 refine hJ _ _ ?_
 refine .mk (.ref (.head _)) ?_
 refine d_280T (x:=[124]) hl fun hl=>?_
 refine .mk ?_
 refine .mk (.ref (.head _)) ?_
 refine d_294 (s:=[32]) hl sp1 rfl fun hl=>?_
 refine .mk (.ref (.head _)) ?_
 refine d_322 (m:=[98]) hl (nm1 rfl) rfl fun hl=>?_
 refine .inL (.ref (.tail _ (.head _))) .nil ?_
 refine .mk ?_
 refine .mk (.list (.tail _ (.head _))) ?_
 refine .app (.tail .head) (Nat.zero_le _) ?_
 refine .mk (.ref (.head _)) ?_
 refine d_294 (s:=[32]) hl sp1 rfl fun hl=>?_
 refine hJ _ _ ?_
 refine .mk (.ref (.head _)) ?_
 refine d_280F hl rfl ?_
 refine .mk ?_
 refine .mk (.ref (.head _)) ?_
 refine d_287 (x:=[41]) hl fun hl=>?_
 refine .mk (.ref (.head _)) ?_
 refine d_280T (x:=[42]) hl fun hl=>?_
 refine .mk ?_
 refine .mk ?_
 refine .tupL (.ref (.tail _ (.head _))) (lbt rfl) ?_
 exact .mk (.take .head (.drop .refl)) (h hl)
inductive Mdl:List Nat→V→Prop
 | emp:Mdl [69,77,80,84,89] (.tup [.str [101,109,112,116,121]])
 | any:Mdl [65,78,89] (.tup [.str [97,110,121]])
 | mix:Mdl [40,32,35,80,67,68,65,84,65,32,124,32,98,32,41,42] mMixed
 | seq {s:List Nat}:Sps s→Mdl (40::98::44::(s++[99,63,41,42])) (.tup [.str [99,104,105,108,100,114,101,110],mSeq])
theorem c_428 {m:List Nat} {v:V} (hm:Mdl m v) (hl:Lf t (m++r)) (h:Lf t r→Q v ((a,scR t r)::σ)):CallOK (XX B) (n+8) (.ref 428) [.ref a] ((a,scR t (m++r))::σ) Q R:=by
 refine ok_428.go rfl ?_
 refine .mk (.ref (.head _)) ?_
 cases hm with
 | emp=>
  refine d_280T hl fun hl=>?_
  exact .mk (h hl)
 | any=>
  refine d_280F hl rfl ?_
  refine .mk ?_
  refine .mk (.ref (.head _)) ?_
  refine d_280T hl fun hl=>?_
  exact .mk (h hl)
 | mix=>
  refine d_280F hl rfl ?_
  refine .mk ?_
  refine .mk (.ref (.head _)) ?_
  refine d_280F hl rfl ?_
  refine .mk ?_
  refine .mk (.ref (.head _)) ?_
  refine d_287 (x:=[40]) hl fun hl=>?_
  refine .mk (.ref (.head _)) ?_
  refine d_294 (s:=[32]) hl sp1 rfl fun hl=>?_
  refine .mk (.ref (.head _)) ?_
  refine d_280T (x:=[35,80,67,68,65,84,65]) hl fun hl=>?_
  refine .mk ?_
  exact c_421 hl h
 | @seq s hs=>
  rw [show 40::98::44::(s++[99,63,41,42])++r=40::98::44::(s++99::63::41::42::r) from congrArg (40::98::44::·) (List.append_assoc ..)] at hl ⊢
  refine d_280F hl rfl ?_
  refine .mk ?_
  refine .mk (.ref (.head _)) ?_
  refine d_280F hl rfl ?_
  refine .mk ?_
  refine .mk (.ref (.head _)) ?_
  refine d_287 (x:=[40]) hl fun hl=>?_
  refine .mk (.ref (.head _)) ?_
  refine d_294 (s:=[]) hl .nil rfl fun hl=>?_
  refine .mk (.ref (.head _)) ?_
  refine d_280F hl rfl ?_
  refine .mk ?_
  exact c_407 hs hl h
theorem c_435 {m e:List Nat} {v:V} (hm:Mdl m v) (he:Sps e) (ht:(m++e).length≤1000000) (h:Q v σ):CallOK (XX B) (n+9) (.ref 435) [.str (m++e)] σ Q R:=by
 refine CallOK.into ?_
 refine ok_435.go rfl ?_
 refine d_346 ht fun a hl=>?_
 refine .mk (.ref (.head _)) ?_
 refine d_294 (s:=[]) hl .nil ?_ fun hl=>?_
 ·cases hm<;>rfl
 refine c_428 hm hl fun hl=>?_
 refine .mk (.ref (.head _)) ?_
 refine d_343 hl he ?_
 exact .mk (.drop .refl) h
noncomputable abbrev arule (k c m v:V):V:=.ri 143 [k,c,m,v]
theorem k_143:clsOK (XX B).K 143 126=true:=by kernel_rfl
theorem c_143 {k m v:V} {cs:List V} (hk:hv k=true) (hm:hv m=true) (hw:hv v=true) (h:Q (arule k (.tup cs) m v) σ):CallOK (XX B) (n+2) (.ref 143) [k,.tup cs,m,v] σ Q R:=by
 refine CallOK.frz (call_cls k_143 fun a=>?_)
 refine ok_126.go rfl ?_
 refine .mk rfl .n .head hk ?_
 refine .tupT ?_
 refine .mk rfl (.s .n) .head rfl ?_
 refine .mk rfl (.s (.s .n)) .head hm ?_
 refine .mk rfl (.s (.s (.s .n))) .head hw ?_
 exact .mk (.mk rfl .head rfl h)
theorem c_133 {k c m v:V} (h:Q (.tup [k,c,m,v]) σ):CallOK (XX B) (n+1) (.ref 133) [arule k c m v] σ Q R:=ok_133.go rfl h
noncomputable abbrev notat (k p s:V):V:=.ri 452 [k,p,s]
theorem k_452:clsOK (XX B).K 452 449=true:=by kernel_rfl
theorem c_452 {k m v:V} (hk:hv k=true) (hm:hv m=true) (hw:hv v=true) (h:Q (notat k m v) σ):CallOK (XX B) (n+2) (.ref 452) [k,m,v] σ Q R:=by
 refine CallOK.frz (call_cls k_452 fun a=>?_)
 refine ok_449.go rfl ?_
 refine .mk rfl .n .head hk ?_
 refine .mk rfl (.s .n) .head hm ?_
 refine .mk rfl (.s (.s .n)) .head hw ?_
 exact .mk (.mk rfl .head rfl h)
noncomputable abbrev dtdV (r:V) (e t o:Addr):V:=.ri 550 [r,.ref e,.ref t,.ref o]
theorem k_550:clsOK (XX B).K 550 470=true:=by kernel_rfl
theorem c_550 {r:V} (hr:hv r=true) (h:∀ e t o,Q (dtdV r e t o) ((o,.dict [])::(t,.dict [])::(e,.dict [])::σ)):CallOK (XX B) (n+2) (.ref 550) [r] σ Q R:=by
 refine CallOK.frz (call_cls k_550 fun a=>?_)
 refine ok_470.go rfl ?_
 refine .mk rfl .n .head hr ?_
 refine fun e=>?_
 refine .mk rfl (.s .n) (.tail .head) rfl ?_
 refine fun t=>?_
 refine .mk rfl (.s (.s .n)) (.tail (.tail .head)) rfl ?_
 refine fun o=>?_
 refine .mk rfl (.s (.s (.s .n))) (.tail (.tail (.tail .head))) rfl ?_
 exact .mk (.mk rfl (.tail (.tail (.tail .head))) rfl (h e t o))
def newW (P R:Prop):Option V→Prop
 | none=>P
 | some _=>R
theorem ifnew {F:Bool→Prop} {P:Prop} {o:Option V} (h:newW P R o) (ht:R→F true) (hf:P→F false):IfE F o.isSome:=⟨by cases o;exact hf h;exact ht h⟩
theorem c_477 {e t o:Addr} {r M:V} {nm:List Nat} {es:List (List Nat×V)} {p:Nat} (hs:es.length≤1000) (hl:nm.length≤1000000) (h:newW (Q .none ((e,.dict (dset es nm M))::σ)) R (dget es nm)):CallOK (XX B) (n+4) (.ref 477) [dtdV r e t o,.str nm,M,.int p] ((e,.dict es)::σ) Q R:=by
 refine ok_477.go rfl ?_
 refine .inD (.head _) ?_
 refine ifnew h (fun h=>?_) fun h=>?_
 ·refine .cat (.app (.lit rfl) (.var hl)) rfl ?_
  refine .cat (.app (.app (.lit rfl) (.var hl)) (.lit rfl)) rfl ?_
  exact c_236 rfl fun _ _=>.mk rfl (.head _) h
 ·exact .dict .head (Nat.le_trans hs (lbt rfl)) h
theorem c_491 {e t o:Addr} {r pu sy:V} {nm:List Nat} {es:List (List Nat×V)} {p:Nat} (hs:es.length≤1000) (hl:nm.length≤1000000) (hp:hv pu=true) (hy:hv sy=true) (h:newW (Q .none ((o,.dict (dset es nm (notat (.str nm) pu sy)))::σ)) R (dget es nm)):CallOK (XX B) (n+4) (.ref 491) [dtdV r e t o,.str nm,pu,sy,.int p] ((o,.dict es)::σ) Q R:=by
 refine ok_491.go rfl ?_
 refine .inD (.head _) ?_
 refine ifnew h (fun h=>?_) fun h=>?_
 ·refine .cat (.app (.lit rfl) (.var hl)) rfl ?_
  refine .cat (.app (.app (.lit rfl) (.var hl)) (.lit rfl)) rfl ?_
  exact c_236 rfl fun _ _=>.mk rfl (.head _) h
 ·refine c_452 rfl hp hy ?_
  exact .dict .head (Nat.le_trans hs (lbt rfl)) h
theorem getD_some {K:VK} {o:Option V} {y z:V} (e:o=some y) (h:K y σ):K (o.getD z) σ:=by rw [e];exact h
theorem getD_none {K:VK} {o:Option V} {z:V} (e:o=none) (h:K z σ):K (o.getD z) σ:=by rw [e];exact h
theorem c_484a {e t o:Addr} {r M:V} {el nm:List Nat} {es:List (List Nat×V)} (hs:es.length≤1000) (he:dget es el=none) (h:∀ x,Q .none ((x,.dict [(nm,M)])::(t,.dict (dset es el (.ref x)))::σ)):CallOK (XX B) (n+1) (.ref 484) [dtdV r e t o,.str el,.str nm,M] ((t,.dict es)::σ) Q R:=by
 refine ok_484.go rfl ?_
 refine .mk (.dict (.head _)) ?_
 refine .get1 (.head _) (getD_none he ?_)
 refine .mk ?_
 refine fun x=>?_
 refine .dict (.tail .head) (Nat.le_trans hs (lbt rfl)) ?_
 refine .niD (.head _) ?_
 refine .mk ?_
 exact .dict .head (Nat.zero_le _) (h x)
theorem c_484b {e t o x:Addr} {r M:V} {el nm:List Nat} {es rs:List (List Nat×V)} (hs:rs.length≤1000) (he:dget es el=some (.ref x)) (h:Q .none ((t,.dict es)::(x,.dict (cond (dget rs nm).isSome rs (dset rs nm M)))::σ)):CallOK (XX B) (n+1) (.ref 484) [dtdV r e t o,.str el,.str nm,M] ((t,.dict es)::(x,.dict rs)::σ) Q R:=by
 refine ok_484.go rfl ?_
 refine .mk (.dict (.head _)) ?_
 refine .get1 (.head _) (getD_some he ?_)
 refine .mk ?_
 refine .niD (.tail _ (.head _)) ?_
 cases z:(dget rs nm).isSome with
 | true=>
  rw [z] at h
  exact .mk h
 | false=>
  rw [z] at h
  refine .mk ?_
  exact .dict (.tail .head) (Nat.le_trans hs (lbt rfl)) h
noncomputable abbrev limV:V:=.ri 933 [.int 20,.int 100000]
theorem k_933:clsOK (XX B).K 933 930=true:=by kernel_rfl
theorem c_933 (h:Q limV σ):CallOK (XX B) (n+2) (.ref 933) [] σ Q R:=by
 refine CallOK.frz (call_cls k_933 fun a=>?_)
 refine ok_930_1.go rfl ?_
 refine .mk rfl .n .head rfl ?_
 refine .mk rfl (.s .n) .head rfl ?_
 exact .mk (.mk rfl .head rfl h)
noncomputable abbrev groO (s:Nat) (o:Addr):AObj:=.inst 633 [limV,.int s,.ref o]
theorem k_633:clsOK (XX B).K 633 602=true:=by kernel_rfl
theorem c_633 (h:∀ a o,Q (.ref a) ((o,.list [])::(a,groO 0 o)::σ)):CallOK (XX B) (n+2) (.ref 633) [limV] σ Q R:=by
 refine call_cls k_633 fun a=>?_
 refine ok_602.go rfl ?_
 refine .mk rfl .n .head rfl ?_
 refine .mk rfl (.s .n) .head rfl ?_
 refine fun o=>?_
 refine .mk rfl (.s (.s .n)) (.tail .head) rfl ?_
 exact .mk (h a o)
theorem c_609 {o:Addr} {s k:Nat} (hk:s+k≤100000) (h:Q .none ((a,groO (s+k) o)::σ)):CallOK (XX B) (n+1) (.ref 609) [.ref a,.int k] ((a,groO s o)::σ) Q R:=by
 refine ok_609.go rfl ?_
 refine .mk (.ref (.head _)) ?_
 refine .mk rfl (.s .z) .head rfl ?_
 refine .mk (.ref (.head _)) ?_
 refine .mk (.ref (.head _)) ?_
 exact ifF (Int.not_lt.mpr (Int.ofNat_le.mpr hk)) h
theorem c_616 {o:Addr} {s:Nat} {nm:List Nat} (h:Q .none ((a,groO s o)::(o,.list [.str nm])::σ)):CallOK (XX B) (n+1) (.ref 616) [.ref a,.str nm] ((a,groO s o)::(o,.list [])::σ) Q R:=by
 refine ok_616.go rfl ?_
 refine .mk (.ref (.head _)) ?_
 refine .inL (.ref (.tail _ (.head _))) .nil ?_
 refine .mk ?_
 refine .mk (.ref (.head _)) ?_
 refine .lenL (.ref (.tail _ (.head _))) (Nat.zero_le _) ?_
 refine .mk (.ref (.head _)) ?_
 refine .mk ?_
 refine .mk (.ref (.head _)) ?_
 refine .mk (.list (.tail _ (.head _))) ?_
 exact .app (.tail .head) (Nat.zero_le _) h
theorem c_623 {o:Addr} {s:Nat} {y:V} (h:Q .none ((a,groO s o)::(o,.list [])::σ)):CallOK (XX B) (n+1) (.ref 623) [.ref a] ((a,groO s o)::(o,.list [y])::σ) Q R:=by
 refine ok_623.go rfl ?_
 refine .mk (.ref (.head _)) ?_
 refine .mk (.list (.tail _ (.head _))) ?_
 exact .pop (vs:=[]) (.tail .head) (Nat.zero_le _) h
noncomputable def peR (t r:List Nat):AObj:=.inst 675 [.str t,.none,.int (t.length - r.length:Nat)]
theorem qp {y:V} {i j:Int} (e:i=j) (h:Q y ((a,.inst 675 [.str t,.none,.int j])::σ)):Q y ((a,.inst 675 [.str t,.none,.int i])::σ):=e▸h
theorem k_675:clsOK (XX B).K 675 651=true:=by kernel_rfl
theorem d_675 (h:∀ a,Q (.ref a) ((a,peR t t)::σ)):CallOK (XX B) (n+2) (.ref 675) [.str t,.none] σ Q R:=by
 refine call_cls k_675 fun a=>?_
 refine ok_651.go rfl ?_
 refine .mk rfl .n .head rfl ?_
 refine .mk rfl (.s .n) .head rfl ?_
 refine .mk rfl (.s (.s .n)) .head rfl ?_
 exact .mk (qp (Q:=Q) (congrArg Int.ofNat (Nat.sub_self _)).symm (h a))
theorem d_658 (hl:Lf t r) (h:Q (.bool r.isEmpty) ((a,peR t r)::σ)):CallOK (XX B) (n+1) (.ref 658) [.ref a] ((a,peR t r)::σ) Q R:=by
 refine ok_658.go rfl ?_
 refine .mk (.ref (.head _)) ?_
 refine .mk (.ref (.head _)) ?_
 refine .lenS (le7 hl.len) ?_
 have e:(((t.length - r.length:Nat):Int)==t.length)=r.isEmpty:=by
  cases r with
  | nil=>exact beq_self_eq_true _
  | cons c r=>exact beq_false_of_ne (Int.ne_of_lt (at_lt hl))
 exact qb (Q:=Q) e h
noncomputable abbrev nin (ms:List Nat) (c:Nat):Bool:=!(lfind [c] ms).isSome
theorem sl_cut {m:List Nat} {P:V→Prop} {i j:Int} (hl:Lf t (m++r)) (e:i=(t.length - (m++r).length:Nat)) (e':j=(t.length - r.length:Nat)) (h:P (.str m)):SlE σ (.str t) (.int i) (.int j) P:=by
 subst e e'
 exact .mk (a:=some _) (b:=some _) rfl rfl (.str (le7 hl.len)) (hl.cut.symm▸h)
theorem d_665 {ms x:List Nat} (hl:Lf t (x++r)) (hx:x.all (nin ms)=true) (hr:hdn (nin ms) r=true) (h:Lf t r→Q (.str x) ((a,peR t r)::σ)):CallOK (XX B) (n+1) (.ref 665) [.ref a,.str ms] ((a,peR t (x++r))::σ) Q R:=by
 refine ok_665.go rfl ?_
 refine .mk (.ref (.head _)) ?_
 refine .mk fun J hJ=>?_
 have key:∀ (y:List Nat) {i:Int},y.all (nin ms)=true→Lf t (y++r)→(Lf t r→wS (cok (XX B) n R) i_665.lk (.c (.ref a) (.c (.str ms) (.s (.int i) .n))) ((a,peR t r)::σ) (retK Q))→J (.c (.ref a) (.c (.str ms) (.s (.int i) .n))) ((a,peR t (y++r))::σ):=by
  intro y i
  induction y with
  | nil=>
   intro _ hl fin
   refine hJ _ _ ?_
   refine .mk (.ref (.head _)) ?_
   refine .mk (.ref (.head _)) ?_
   refine .lenS (le7 hl.len) ?_
   cases r with
   | nil=>exact ifF at_ge (.mk (fin hl))
   | cons c r=>
    refine ifT (at_lt hl) ?_
    refine .mk (.ref (.head _)) ?_
    refine .mk (.ref (.head _)) ?_
    refine .mk hl.ix ?_
    exact ifBF (bne' hr) (fin hl)
  | cons c y ih=>
   intro hx hl fin
   have hx:=band hx
   refine hJ _ _ ?_
   refine .mk (.ref (.head _)) ?_
   refine .mk (.ref (.head _)) ?_
   refine .lenS (le7 hl.len) ?_
   refine ifT (at_lt hl) ?_
   refine .mk (.ref (.head _)) ?_
   refine .mk (.ref (.head _)) ?_
   refine .mk (Lf.ix (r:=y++r) hl) ?_
   refine ifBT hx.1 ?_
   refine .mk (.ref (.head _)) ?_
   refine .mk rfl (.s (.s .z)) .head rfl ?_
   exact qp (Q:=fun _ σ=>J _ σ) (y:=.none) (Lf.mv (x:=[c]) (r:=y++r) hl) (ih hx.2 hl.tail fin)
 refine key x hx hl fun l=>?_
 refine .mk (.ref (.head _)) ?_
 refine .mk (.ref (.head _)) ?_
 exact sl_cut hl rfl rfl (h l)
theorem d_672 {wd:List Nat} {c:Nat} (hl:Lf t (c::(wd++59::r))) (hf:lfind [59] (c::(wd++59::r))=some (wd.length+1)) (hw:(lsl wd none (some 1) != [35])=false∨isName wd=true) (h:Lf t r→Q (.str wd) ((a,peR t r)::σ)):CallOK (XX B) (n+6) (.ref 672) [.ref a] ((a,peR t (c::(wd++59::r)))::σ) Q R:=by
 have l2:Lf t (59::r):=hl.tail.right
 have lw:wd.length≤1000000:=Nat.le_trans (Nat.le_trans (List.length_append▸Nat.le_add_right ..) hl.tail.len_le) hl.len
 refine ok_672.go rfl ?_
 refine .mk (.ref (.head _)) ?_
 refine .mk (.ref (.head _)) ?_
 refine mo_find (Nat.sub_le ..) (Lf.find (m:=c::wd) (x:=[59]) hl hf) ?_
 refine .mk (.ref (.head _)) ?_
 refine .mk (.ref (.head _)) ?_
 refine .mk (.ref (.head _)) ?_
 refine .max ?_
 refine sl_cut (m:=wd) (r:=59::r) hl.tail (hl.mv (x:=[c]) (r:=wd++59::r)) (if_neg (Int.not_lt.mpr ?_)) ?_
 ·exact Int.ofNat_le.mpr (Nat.sub_le_sub_left (by simp;omega) _)
 refine ifF (Int.not_lt.mpr (Int.natCast_nonneg _)) ?_
 refine .mk (a:=none) (b:=some 1) rfl rfl (.str (le7 lw)) ?_
 have fin:wS (cok (XX B) (n+5) R) i_672.lk (.c (.ref a) (.s (.int (t.length - (59::r).length:Nat)) (.s (.str wd) .n))) ((a,peR t (c::(wd++59::r)))::σ) (retK Q):=by
  refine .mk rfl (.s (.s .z)) .head rfl ?_
  exact qp (Q:=Q) (l2.mv (x:=[59]) (r:=r)) (h l2.tail)
 rcases hw with hw | hw
 ·exact ifBF hw (.mk fin)
 refine ifb (fun _=>?_) fun _=>.mk fin
 refine c_98 lw ?_
 rw [hw]
 exact .mk fin
noncomputable abbrev stkV (gr ro:Addr):V:=.ri 710 [.ref gr,.ref ro]
theorem k_710:clsOK (XX B).K 710 693=true:=by kernel_rfl
theorem c_710 {gr:Addr} (h:∀ ro p,Q (stkV gr ro) ((ro,.list [.ref p])::(p,peR t t)::σ)):CallOK (XX B) (n+4) (.ref 710) [.str t,.ref gr] σ Q R:=by
 refine CallOK.frz (call_cls k_710 fun a=>?_)
 refine ok_693.go rfl ?_
 refine .mk rfl .n .head rfl ?_
 refine d_675 fun p=>?_
 refine fun ro=>?_
 refine .mk rfl (.s .n) (.tail (.tail .head)) rfl ?_
 exact .mk (.mk rfl (.tail (.tail .head)) rfl (h ro p))
theorem c_700a {gr ro p:Addr} (hl:Lf t r) (hr:r.isEmpty=false) (h:Q (.ref p) ((p,peR t r)::(ro,.list [.ref p])::σ)):CallOK (XX B) (n+3) (.ref 700) [stkV gr ro] ((p,peR t r)::(ro,.list [.ref p])::σ) Q R:=by
 refine ok_700.go rfl ?_
 refine .mk fun J hJ=>?_
 refine hJ _ _ ?_
 refine .neN (.ref (.tail _ (.head _))) ?_
 refine .mk ?_
 refine .mk (.lst (.ref (.tail _ (.head _))) rfl rfl) ?_
 refine .mk (.ref (.head _)) ?_
 refine d_658 hl ?_
 refine ifBF hr ?_
 refine .neN (.ref (.tail _ (.head _))) ?_
 refine .mk ?_
 exact .mk (.lst (.ref (.tail _ (.head _))) rfl rfl) h
theorem c_700b {gr ro p:Addr} (hl:Lf t []) (h:Q .none σ):CallOK (XX B) (n+3) (.ref 700) [stkV gr ro] ((p,peR t [])::(ro,.list [.ref p])::σ) Q R:=by
 refine CallOK.into ?_
 refine ok_700.go rfl ?_
 refine .mk fun J hJ=>?_
 refine hJ _ _ ?_
 refine .neN (.ref (.tail _ (.head _))) ?_
 refine .mk ?_
 refine .mk (.lst (.ref (.tail _ (.head _))) rfl rfl) ?_
 refine .mk (.ref (.head _)) ?_
 refine d_658 hl ?_
 refine .mk ?_
 refine .mk (.list (.tail _ (.head _))) ?_
 refine .pop (vs:=[]) (.tail .head) (Nat.zero_le _) ?_
 refine .mk (.ref (.head _)) ?_
 refine .mk ?_
 refine hJ _ _ ?_
 refine .neN (.ref (.tail _ (.head _))) ?_
 refine .mk (.mk ?_)
 refine .neN (.ref (.tail _ (.head _))) ?_
 refine .mk ?_
 exact .mk (.drop (.drop .refl)) h
theorem c_721 {table:V} {gr:Addr} (h:Q (.ref gr) σ):CallOK (XX B) (n+1) (.ref 721) [table,.ref gr] σ Q R:=ok_721.go rfl (.mk h)
theorem c_568 {c d:Nat} (hc:([c]==[48])=false) (h:Q (.str [c,d]) σ):CallOK (XX B) (n+1) (.ref 568) [.str [c,d]] σ Q R:=by
 refine ok_568.go rfl ?_
 refine .mk fun J hJ=>?_
 refine hJ _ _ ?_
 refine .lenS (lbt rfl) ?_
 refine .mk ?_
 refine .mk (.str (j:=0) rfl rfl) ?_
 refine ifBF hc ?_
 exact .mk (a:=some 0) (b:=none) rfl rfl (.str (lbt rfl)) h
inductive Num:List Nat→Nat→Prop
 | a:Num [51,56] 38
 | b:Num [54,53] 65
theorem c_561 {l:List Nat} {k:Nat} (hk:Num l k) (h:Q (.int k) σ):CallOK (XX B) (n+1) (.ref 561) [.str l,.str [48,49,50,51,52,53,54,55,56,57]] σ Q R:=by
 refine ok_561.go rfl ?_
 cases hk
 all_goals
  refine .mk ?_
  refine .str ?_
  refine .find1 ?_
  refine .mk ?_
  refine .lenS (lbt rfl) ?_
  refine .mul (IntMulOk.of_left (lbt rfl)) ?_
  refine .find1 ?_
  refine .mk ?_
  refine .lenS (lbt rfl) ?_
  refine .mul (IntMulOk.of_left (lbt rfl)) ?_
  exact h
theorem c_573 {l:List Nat} {k:Nat} (hk:Num l k) (h:Q (.int k) σ):CallOK (XX B) (n+2) (.ref 573) [.str l] σ Q R:=by
 refine ok_573.go rfl ?_
 have fin:∀ {K:VK},K (.str l) σ→CallOK (XX B) (n+1) (.ref 568) [.str l] σ K R:=fun w=>by cases hk<;>exact c_568 rfl w
 refine .mk (a:=none) (b:=some 1) rfl rfl (.str (by cases hk<;>exact lbt rfl)) ?_
 refine ifeF (by cases hk<;>exact fun h=>nomatch h) ?_
 refine fin ?_
 refine .lenS (by cases hk<;>exact lbt rfl) ?_
 refine ifF (by cases hk<;>exact fun h=>nomatch h) ?_
 exact c_561 hk h
theorem c_581 {l:List Nat} {k:Nat} (hk:Num l k) (h:Q (.str [k]) σ):CallOK (XX B) (n+3) (.ref 581) [.str l] σ Q R:=by
 refine ok_581_1.go rfl ?_
 refine c_573 hk ?_
 refine .mk ?_
 cases hk
 all_goals
  refine .mk ?_
  refine .chr (by decide) (by decide) ?_
  refine c_63 ?_
  refine .mk ?_
  exact .chr (by decide) (by decide) h
theorem c_588v {l:List Nat} {v:V} (e:(l=[113,117,111,116]∧v=.str [34])∨(l.length≤1∧v=.none)) (h:Q v σ):CallOK (XX B) (n+1) (.ref 588) [.str l] σ Q R:=by
 refine ok_588.go rfl ?_
 rcases e with ⟨rfl,rfl⟩ | ⟨e,rfl⟩
 ·refine .mk ?_
  refine .mk ?_
  refine .mk ?_
  refine .mk ?_
  exact .mk h
 ·have k:∀ {x y:Nat} {z:List Nat},l≠x::y::z:=fun z=>by rw [z] at e;exact absurd e (by simp)
  exact ifeF k (ifeF k (ifeF k (ifeF k (ifeF k h))))
inductive RefV:List Nat→List Nat→Prop
 | amp:RefV [35,51,56] [38]
 | quot:RefV [113,117,111,116] [34]
theorem c_736 {l v:List Nat} {table stack:V} (hr:RefV l v) (h:Q (.str v) σ):CallOK (XX B) (n+4) (.ref 736) [.str l,table,stack] σ Q R:=by
 refine ok_736.go rfl ?_
 cases hr
 ·refine .mk (a:=none) (b:=some 1) rfl rfl (.str (lbt rfl)) ?_
  refine .mk ?_
  refine .mk (a:=some 1) (b:=none) rfl rfl (.str (lbt rfl)) ?_
  exact c_581 .a h
 ·refine .mk (a:=none) (b:=some 1) rfl rfl (.str (lbt rfl)) ?_
  refine .mk ?_
  refine c_588v (.inl ⟨rfl,rfl⟩) ?_
  exact .mk h
theorem c_743 {l:List Nat} (h1:lfind [9] l=none) (h2:lfind [13] l=none) (h3:lfind [10] l=none) (h:Q (.str l) σ):CallOK (XX B) (n+1) (.ref 743) [.str l] σ Q R:=by
 refine ok_743.go rfl ?_
 refine .str ?_
 refine .repl0 h1 ?_
 refine .repl0 h2 ?_
 exact .repl0 h3 h
inductive TV:List Nat→List (List Nat)→Prop
 | last {x:List Nat}:x.all (nin [38,60])=true→x.isEmpty=false→x.all (nin [9,13,10])=true→TV x [x]
 | ref1 {x wd s:List Nat}:x.all (nin [38,60])=true→x.all (nin [9,13,10])=true→RefV wd s→TV (x++38::(wd++[59])) [x,s]
 | ref {x wd s r:List Nat} {ps}:x.all (nin [38,60])=true→x.all (nin [9,13,10])=true→RefV wd s→r.isEmpty=false→TV r ps→TV (x++38::(wd++59::r)) (x::s::ps)
theorem nin_find {c:Nat}:∀ {x ms:List Nat},(lfind [c] ms).isSome=true→x.all (nin ms)=true→lfind [c] x=none
 | [],ms,h,_=>rfl
 | d::x,ms,h,hx=>by
  have hx:=band hx
  unfold lfind
  rw [if_neg,nin_find h hx.2];rfl
  intro e
  have e:(c==d&&true)=true:=e
  rw [Bool.and_true] at e
  obtain rfl:=eq_of_beq e
  have:=hx.1
  rw [show nin ms c = !(lfind [c] ms).isSome from rfl,h] at this
  cases this
theorem AreS.snoc {x:List Nat}:∀ {ls:List (List Nat)} {vs:List V},AreS ls vs→AreS (ls++[x]) (vs++[.str x])
 | _,_,.nil=>.cons .nil
 | _,_,.cons h=>.cons h.snoc
theorem AreS.bd {ls ps tot:List (List Nat)} {vs:List V} (h:AreS ls vs) (e:ls++ps=tot) (k:tot.length≤1000000):vs.length≤10000000:=by
 have:vs.length=ls.length:=by
  clear e
  induction h with
  | nil=>rfl
  | cons _ ih=>exact congrArg Nat.succ ih
 subst e
 rw [List.length_append] at k
 exact le7 (this▸Nat.le_trans (Nat.le_add_right ..) k)
theorem refw {wd s:List Nat} (h:RefV wd s):(lsl wd none (some 1) != [35])=false∨isName wd=true:=by cases h;exact .inl rfl;exact .inr rfl
theorem refs {wd s r:List Nat} (h:RefV wd s):lfind [59] (38::(wd++59::r))=some (wd.length+1):=by cases h<;>rfl
theorem snoc2 {x:List Nat} {ls ps tot:List (List Nat)} (e:ls++x::ps=tot):(ls++[x])++ps=tot:=by rw [← e,List.append_assoc];rfl
theorem TV.ne {r:List Nat} {ps:List (List Nat)} (h:TV r ps):r.isEmpty=false:=by
 cases h with
 | last _ h _=>exact h
 | @ref1 x=>cases x<;>rfl
 | @ref x=>cases x<;>rfl
theorem c_729 {raw:List Nat} {ps:List (List Nat)} {table:V} {gr:Addr} (ht:raw.length≤1000000) (hr:TV raw ps) (hp:(ps.map List.length).sum+ps.length≤1000000) (h:Q (.str (ljoin [] ps)) σ):CallOK (XX B) (n+7) (.ref 729) [.str raw,table,.ref gr] σ Q R:=by
 have hpl:=Nat.le_trans (Nat.le_add_left ..) hp
 refine CallOK.into ?_
 refine ok_729.go rfl ?_
 refine c_721 ?_
 refine c_710 fun ro p=>?_
 refine fun fd=>?_
 have hl:Lf raw raw:=.self ht
 refine CallOK.pick (.tail .head) (CallOK.pick (.tail (.tail .head)) ?_)
 refine c_700a hl hr.ne ?_
 refine .mk fun J hJ=>?_
 have fin:∀ {ls vs},AreS ls vs→ls=ps→J (.c (.str raw) (.c table (.c (.ref gr) (.s (stkV gr ro) (.s (.ref fd) (.s .none .n)))))) ((fd,.list vs)::σ):=fun hA e=>by
  subst e
  refine hJ _ _ ?_
  refine .mk ?_
  exact .join (.ref (.head _)) hA rfl (Nat.le_trans hp (lbt rfl)) (.mk (.drop .refl) h)
 have turn:∀ {x r ls ps' vs},x.all (nin [38,60])=true→x.all (nin [9,13,10])=true→hdn (nin [38,60]) r=true→Lf raw (x++r)→AreS ls vs→ls++x::ps'=ps →
   (∀ {vs},Lf raw r→AreS (ls++[x]) vs→wS (cok (XX B) (n+6) R) i_729.lb.nx (.c (.str raw) (.c table (.c (.ref gr) (.s (stkV gr ro) (.s (.ref fd) (.s (.ref p) .n)))))) ((p,peR raw r)::(ro,.list [.ref p])::(fd,.list vs)::σ) ((thnK (wS (cok (XX B) (n+6) R) i_729.lk) (retK fun y σ₁=>IntoE Q y σ₁)).lp J)) →
   J (.c (.str raw) (.c table (.c (.ref gr) (.s (stkV gr ro) (.s (.ref fd) (.s (.ref p) .n)))))) ((p,peR raw (x++r))::(ro,.list [.ref p])::(fd,.list vs)::σ):=fun {x r ls ps' vs} h1 h2 h3 hl hA e k=>by
  refine hJ _ _ ?_
  refine .mk ?_
  refine .mk (.list (.tail _ (.tail _ (.head _)))) ?_
  refine .mk (.ref (.head _)) ?_
  refine d_665 hl h1 h3 fun hl=>?_
  refine c_743 (nin_find rfl h2) (nin_find rfl h2) (nin_find rfl h2) ?_
  refine .app (.tail (.tail .head)) (hA.bd e hpl) ?_
  exact k hl hA.snoc
 have refT:∀ {wd s r:List Nat} {ls ps' vs},RefV wd s→Lf raw (38::(wd++59::r))→AreS ls vs→ls++s::ps'=ps →
   (∀ {vs},Lf raw r→AreS (ls++[s]) vs→wS (cok (XX B) (n+6) R) i_729.lb.nx.nx (.c (.str raw) (.c table (.c (.ref gr) (.s (stkV gr ro) (.s (.ref fd) (.s (.ref p) .n)))))) ((p,peR raw r)::(ro,.list [.ref p])::(fd,.list vs)::σ) ((thnK (wS (cok (XX B) (n+6) R) i_729.lk) (retK fun y σ₁=>IntoE Q y σ₁)).lp J)) →
   wS (cok (XX B) (n+6) R) i_729.lb.nx (.c (.str raw) (.c table (.c (.ref gr) (.s (stkV gr ro) (.s (.ref fd) (.s (.ref p) .n)))))) ((p,peR raw (38::(wd++59::r)))::(ro,.list [.ref p])::(fd,.list vs)::σ) ((thnK (wS (cok (XX B) (n+6) R) i_729.lk) (retK fun y σ₁=>IntoE Q y σ₁)).lp J):=fun hw hl hA e k=>by
  refine .mk (.ref (.head _)) ?_
  refine d_658 hl ?_
  refine .mk ?_
  refine .mk (.ref (.head _)) ?_
  refine .mk (.ref (.head _)) ?_
  refine .mk hl.ix ?_
  refine .mk ?_
  refine .mk (.list (.tail _ (.tail _ (.head _)))) ?_
  refine .mk (.ref (.head _)) ?_
  refine d_672 hl (refs hw) (refw hw) fun hl=>?_
  refine c_736 hw ?_
  refine .app (.tail (.tail .head)) (hA.bd e hpl) ?_
  exact k hl hA.snoc
 have key:∀ {r ps'},TV r ps'→∀ {ls vs},Lf raw r→AreS ls vs→ls++ps'=ps→J (.c (.str raw) (.c table (.c (.ref gr) (.s (stkV gr ro) (.s (.ref fd) (.s (.ref p) .n)))))) ((p,peR raw r)::(ro,.list [.ref p])::(fd,.list vs)::σ):=by
  intro r ps' hr
  induction hr with
  | @last x h1 h2 h3=>
   intro ls vs hl hA e
   have e':=List.append_nil x
   rw [← e'] at hl ⊢
   refine turn h1 h3 rfl hl hA e fun hl hA=>?_
   refine .mk (.ref (.head _)) ?_
   refine d_658 hl ?_
   refine .mk ?_
   refine c_700b hl ?_
   exact fin hA e
  | ref1 h1 h2 hw=>
   intro ls vs hl hA e
   refine turn h1 h2 rfl hl hA e fun hl hA=>?_
   refine refT hw hl hA (snoc2 e) fun hl hA=>?_
   refine c_700b hl ?_
   exact fin hA ((List.append_nil _).symm.trans (snoc2 (snoc2 e)))
  | ref h1 h2 hw hne _ ih=>
   intro ls vs hl hA e
   refine turn h1 h2 rfl hl hA e fun hl hA=>?_
   refine refT hw hl hA (snoc2 e) fun hl hA=>?_
   refine c_700a hl hne ?_
   exact ih hl hA (snoc2 (snoc2 e))
 exact key hr hl .nil rfl
theorem c_700 {gr ro p:Addr} (hl:Lf t r) (h0:r.isEmpty=true→Q .none σ) (h1:r.isEmpty=false→Q (.ref p) ((p,peR t r)::(ro,.list [.ref p])::σ)):CallOK (XX B) (n+3) (.ref 700) [stkV gr ro] ((p,peR t r)::(ro,.list [.ref p])::σ) Q R:=by
 cases r with
 | nil=>exact c_700b hl (h0 rfl)
 | cons _ _=>exact c_700a hl rfl (h1 rfl)
inductive LRef:List Nat→List Nat→Prop
 | num:LRef [35,54,53] [65]
 | ent:LRef [101] [38,101,59]
theorem c_758 {p:Addr} {wd s:List Nat} {table stack:V} (hw:LRef wd s) (hl:Lf t (38::(wd++59::r))) (h:Lf t r→Q (.str s) ((p,peR t r)::σ)):CallOK (XX B) (n+7) (.ref 758) [.ref p,table,stack] ((p,peR t (38::(wd++59::r)))::σ) Q R:=by
 refine ok_758.go rfl ?_
 refine .mk (.ref (.head _)) ?_
 refine .mk (.ref (.head _)) ?_
 refine .mk hl.ix ?_
 refine .mk (.ref (.head _)) ?_
 refine d_672 hl (by cases hw<;>rfl) (by cases hw;exact .inl rfl;exact .inr rfl) fun l2=>?_
 refine .mk ?_
 cases hw
 ·refine .mk (a:=none) (b:=some 1) rfl rfl (.str (lbt rfl)) ?_
  refine .mk ?_
  refine .mk (a:=some 1) (b:=none) rfl rfl (.str (lbt rfl)) ?_
  exact c_581 .b (h l2)
 ·refine .mk (a:=none) (b:=some 1) rfl rfl (.str (lbt rfl)) ?_
  refine .mk ?_
  refine .cat (.var (lbt rfl)) rfl ?_
  exact .cat (.var (lbt rfl)) rfl (h l2)
inductive LT:List Nat→List (List Nat)→Prop
 | nil:LT [] []
 | last {x:List Nat}:x.all (nin [38,37])=true→x.isEmpty=false→LT x [x]
 | ref {x wd s r:List Nat} {ps}:x.all (nin [38,37])=true→LRef wd s→LT r ps→LT (x++38::(wd++59::r)) (x::s::ps)
theorem LT.inv {r:List Nat} {ps:List (List Nat)} (h:LT r ps) (e:r.isEmpty=true):ps=[]:=by
 cases h with
 | nil=>rfl
 | last _ h=>rw [h] at e;cases e
 | @ref x=>cases x<;>cases e
theorem c_751 {raw:List Nat} {ps:List (List Nat)} {table:V} {gr:Addr} (ht:raw.length≤1000000) (hr:LT raw ps) (hp:(ps.map List.length).sum+ps.length≤1000000) (h:Q (.str (ljoin [] ps)) σ):CallOK (XX B) (n+8) (.ref 751) [.str raw,table,.ref gr] σ Q R:=by
 have hpl:=Nat.le_trans (Nat.le_add_left ..) hp
 refine CallOK.into ?_
 refine ok_751.go rfl ?_
 refine c_721 ?_
 refine c_710 fun ro p=>?_
 refine fun fd=>?_
 have hl:Lf raw raw:=.self ht
 refine CallOK.pick (.tail .head) (CallOK.pick (.tail (.tail .head)) ?_)
 have fin:∀ {J:LV→Store→Prop},(∀ ρ σ,(wp (cok (XX B) (n+7) R) (.cmp .IsNot (.loc 5) .non)).t ρ σ (whK (wS (cok (XX B) (n+7) R) i_751.lb) (wS (cok (XX B) (n+7) R) i_751.lk) ρ (retK fun y σ₁=>IntoE Q y σ₁) J)→J ρ σ)→∀ {ls vs},AreS ls vs→ls=ps→J (.c (.str raw) (.c table (.c (.ref gr) (.s (stkV gr ro) (.s (.ref fd) (.s .none .n)))))) ((fd,.list vs)::σ):=fun hJ _ _ hA e=>by
  subst e
  refine hJ _ _ ?_
  refine .mk ?_
  exact .join (.ref (.head _)) hA rfl (Nat.le_trans hp (lbt rfl)) (.mk (.drop .refl) h)
 refine c_700 hl (fun e=>.mk fun J hJ=>fin hJ .nil (hr.inv e).symm) fun hne=>.mk fun J hJ=>?_
 have key:∀ {r ps'},LT r ps'→r.isEmpty=false→∀ {ls vs},Lf raw r→AreS ls vs→ls++ps'=ps→J (.c (.str raw) (.c table (.c (.ref gr) (.s (stkV gr ro) (.s (.ref fd) (.s (.ref p) .n)))))) ((p,peR raw r)::(ro,.list [.ref p])::(fd,.list vs)::σ):=by
  intro r ps' hr
  induction hr with
  | nil=>intro h;cases h
  | @last x h1 h2=>
   intro _ ls vs hl hA e
   have e':=List.append_nil x
   rw [← e'] at hl ⊢
   refine hJ _ _ ?_
   refine .mk ?_
   refine .mk (.list (.tail _ (.tail _ (.head _)))) ?_
   refine .mk (.ref (.head _)) ?_
   refine d_665 hl h1 rfl fun hl=>?_
   refine .app (.tail (.tail .head)) (hA.bd e hpl) ?_
   refine .mk (.ref (.head _)) ?_
   refine d_658 hl ?_
   refine .mk ?_
   refine c_700b hl ?_
   exact fin hJ hA.snoc e
  | ref h1 hw hr ih=>
   intro _ ls vs hl hA e
   refine hJ _ _ ?_
   refine .mk ?_
   refine .mk (.list (.tail _ (.tail _ (.head _)))) ?_
   refine .mk (.ref (.head _)) ?_
   refine d_665 hl h1 rfl fun hl=>?_
   refine .app (.tail (.tail .head)) (hA.bd e hpl) ?_
   refine .mk (.ref (.head _)) ?_
   refine d_658 hl ?_
   refine .mk ?_
   refine .mk (.list (.tail _ (.tail _ (.head _)))) ?_
   refine c_758 hw hl fun hl=>?_
   refine .app (.tail (.tail .head)) (hA.snoc.bd (snoc2 e) hpl) ?_
   refine c_700 hl (fun q=>?_) fun q=>?_
   ·exact fin hJ hA.snoc.snoc (by have e:=snoc2 (snoc2 e);rw [hr.inv q,List.append_nil] at e;exact e)
   ·exact ih q hl hA.snoc.snoc (snoc2 (snoc2 e))
 exact key hr hne hl .nil rfl
noncomputable abbrev entV (nm v s nt:V):V:=.ri 968 [nm,v,s,nt]
theorem k_968:clsOK (XX B).K 968 951=true:=by kernel_rfl
theorem c_968 {nm v s nt:V} (h1:hv nm=true) (h2:hv v=true) (h3:hv s=true) (h4:hv nt=true) (h:Q (entV nm v s nt) σ):CallOK (XX B) (n+2) (.ref 968) [nm,v,s,nt] σ Q R:=by
 refine CallOK.frz (call_cls k_968 fun a=>?_)
 refine ok_951.go rfl ?_
 refine .mk rfl .n .head h1 ?_
 refine .mk rfl (.s .n) .head h2 ?_
 refine .mk rfl (.s (.s .n)) .head h3 ?_
 refine .mk rfl (.s (.s (.s .n))) .head h4 ?_
 exact .mk (.mk rfl .head rfl h)
noncomputable abbrev tabV (ou g p:Addr):V:=.ri 1068 [limV,.ref ou,.ref g,.ref p]
theorem k_1068:clsOK (XX B).K 1068 1001=true:=by kernel_rfl
theorem c_1068 (h:∀ ou g p,Q (tabV ou g p) ((p,.dict [])::(g,.dict [])::σ)):CallOK (XX B) (n+2) (.ref 1068) [limV] σ Q R:=by
 refine CallOK.into (CallOK.frz (call_cls k_1068 fun a=>?_))
 refine ok_1001_2.go rfl ?_
 refine .mk rfl .n .head rfl ?_
 refine .mk ?_
 refine fun ou=>?_
 refine .mk rfl (.s .n) (.tail .head) rfl ?_
 refine fun g=>?_
 refine .mk rfl (.s (.s .n)) (.tail (.tail .head)) rfl ?_
 refine fun p=>?_
 refine .mk rfl (.s (.s (.s .n))) (.tail (.tail (.tail .head))) rfl ?_
 refine .mk (.mk rfl (.tail (.tail (.tail .head))) rfl ?_)
 exact .mk (.take .head (.take .head (.drop .refl))) (h ou g p)
noncomputable def dnew (es:List (List Nat×V)) (k:List Nat) (v:V):List (List Nat×V):=cond (dget es k).isSome es (dset es k v)
theorem w_1009 {ou g p:Addr} {gs:List (List Nat×V)} {nm:List Nat} {v s nt:V} (hs:gs.length≤1000) (h2:hv v=true) (h3:hv s=true) (h4:hv nt=true) (hp:nm.length≤1) (h:∀ y,Q y ((g,.dict (dnew gs nm (entV (.str nm) v s nt)))::σ)) :
  wS (cok (XX B) (n+2) R) i_1009 (.c (tabV ou g p) (.c (.bool false) (.c (.str nm) (.c v (.c s (.c nt (.o none .n))))))) ((g,.dict gs)::σ) (retK Q):=by
 refine .mk ?_
 refine .inD (.head _) ?_
 refine ifg (P:=fun es=>∀ y,Q y ((g,.dict es)::σ)) h (fun h=>.mk (h _)) fun h=>?_
 refine .mk ?_
 refine c_588v (.inr ⟨hp,rfl⟩) ?_
 refine .mk ?_
 refine c_968 rfl h2 h3 h4 ?_
 exact .dict .head (Nat.le_trans hs (lbt rfl)) (h _)
theorem c_1009g {ou g p:Addr} {gs:List (List Nat×V)} {nm:List Nat} {v s nt:V} (hs:gs.length≤1000) (h2:hv v=true) (h3:hv s=true) (h4:hv nt=true) (hp:nm.length≤1) (h:∀ y,Q y ((g,.dict (dnew gs nm (entV (.str nm) v s nt)))::σ)):CallOK (XX B) (n+3) (.ref 1009) [tabV ou g p,.bool false,.str nm,v,s,nt] ((g,.dict gs)::σ) Q R:=ok_1009.go rfl (w_1009 hs h2 h3 h4 hp h)
theorem c_1009h {ou g p:Addr} {gs:List (List Nat×V)} {nm:List Nat} {v:V} (hs:gs.length≤1000) (h2:hv v=true) (hp:nm.length≤1) (h:∀ y,Q y ((g,.dict (dnew gs nm (entV (.str nm) v .none .none)))::σ)):CallOK (XX B) (n+3) (.ref 1009) [tabV ou g p,.bool false,.str nm,v] ((g,.dict gs)::σ) Q R:=ok_1009_4.go rfl (w_1009 hs h2 rfl rfl hp h)
theorem c_1009p {ou g p:Addr} {ps:List (List Nat×V)} {nm:List Nat} {v:V} (hs:ps.length≤1000) (h2:hv v=true) (hf:dget ps nm=none) (h:∀ y,Q y ((p,.dict (dset ps nm (entV (.str nm) v .none .none)))::σ)):CallOK (XX B) (n+3) (.ref 1009) [tabV ou g p,.bool true,.str nm,v] ((p,.dict ps)::σ) Q R:=by
 refine ok_1009_4.go rfl ?_
 refine .mk ?_
 refine .inD (.head _) ?_
 refine ifBF (congrArg Option.isSome hf) ?_
 refine .mk (.mk ?_)
 refine c_968 rfl h2 rfl rfl ?_
 exact .dict .head (Nat.le_trans hs (lbt rfl)) (h _)
theorem c_1044 {ou g p:Addr} {nm:V} {x:List Nat} (h:Q (.str x) σ):CallOK (XX B) (n+2) (.ref 1044) [tabV ou g p,entV nm (.str x) .none .none] σ Q R:=by
 refine ok_1044.go rfl ?_
 refine ok_965.go rfl ?_
 refine .mk ?_
 refine ok_958.go rfl ?_
 exact .mk h
theorem c_1065 {ou g p:Addr} {nm x:List Nat} {ps:List (List Nat×V)} (hf:dget ps nm=some (entV (.str nm) (.str x) .none .none)) (h:Q (.str x) ((p,.dict ps)::σ)):CallOK (XX B) (n+3) (.ref 1065) [tabV ou g p,.str nm] ((p,.dict ps)::σ) Q R:=by
 refine ok_1065.go rfl ?_
 refine .niD (.head _) ?_
 refine ifNF (congrArg Option.isSome hf) ?_
 refine .mk (.dict (.head _) hf) ?_
 exact c_1044 h
noncomputable abbrev openV (s:Addr) (nm:V):V:=.ri 777 [.ref s,nm]
theorem k_777:clsOK (XX B).K 777 774=true:=by kernel_rfl
theorem c_777 {nm:V} (ht:t.length≤1000000) (hm:hv nm=true) (h:∀ s,Lf t t→Q (openV s nm) ((s,scR t t)::σ)):CallOK (XX B) (n+4) (.ref 777) [.str t,nm] σ Q R:=by
 refine CallOK.frz (call_cls k_777 fun a=>?_)
 refine ok_774.go rfl ?_
 refine d_346 ht fun s hl=>?_
 refine .mk rfl .n (.tail .head) rfl ?_
 refine .mk rfl (.s .n) (.tail .head) hm ?_
 exact .mk (.mk rfl (.tail .head) rfl (h s hl))
theorem c_795 {s gr o ou g p:Addr} {m x:List Nat} {z:Nat} {ps:List (List Nat×V)} (hl:Lf t (m++([59]++r))) (hm:IsNm m) (hf:dget ps m=some (entV (.str m) (.str x) .none .none)) (hx:x.length≤100000) (hz:z+x.length≤100000)
  (h:∀ s',Lf t r→Lf x x→Q (openV s' (.str m)) ((s',scR x x)::(s,scR t r)::(gr,groO (z+x.length) o)::(o,.list [.str ([37]++m)])::(p,.dict ps)::σ)) :
  CallOK (XX B) (n+7) (.ref 795) [.ref s,tabV ou g p,.ref gr] ((s,scR t (m++([59]++r)))::(gr,groO z o)::(o,.list [])::(p,.dict ps)::σ) Q R:=by
 have lm:m.length≤1000000:=Nat.le_trans (Nat.le_trans (List.length_append▸Nat.le_add_right ..) hl.len_le) hl.len
 refine CallOK.into ?_
 refine ok_795.go rfl ?_
 refine .mk (.ref (.head _)) ?_
 refine d_322 hl hm rfl fun hl=>?_
 refine .mk (.ref (.head _)) ?_
 refine d_287 hl fun hl=>?_
 refine .mk (.ref (.tail _ (.head _))) ?_
 refine .cat (.app (.var (lbt rfl)) (.var lm)) rfl ?_
 refine CallOK.pick (.tail (.tail .head)) (CallOK.pick (.tail (.tail .head)) ?_)
 refine c_616 ?_
 refine CallOK.pick (.tail (.tail (.tail .head))) ?_
 refine c_1065 hf ?_
 refine .mk (.ref (.tail _ (.head _))) ?_
 refine .lenS (Nat.le_trans hx (lbt rfl)) ?_
 refine CallOK.pick (.tail .head) ?_
 refine c_609 hz ?_
 refine c_777 (Nat.le_trans hx (lbt rfl)) rfl fun s' l=>?_
 exact .mk (.take .head (.take (.tail (.tail (.tail .head))) (.take .head (.take (.tail .head) .refl)))) (h s' hl l)
noncomputable def np:List Nat→Bool
 | []=>true
 | c::r=>(c != 37||!nmAt r)&&np r
theorem ljoin_nil (ls:List (List Nat)):ljoin [] ls=ls.flatten:=by
 cases ls with
 | nil=>rfl
 | cons x r=>
  show r.foldl (fun acc p=>acc++[]++p) x=x++r.flatten
  induction r generalizing x with
  | nil=>exact (List.append_nil x).symm
  | cons y r ih=>rw [List.foldl_cons,ih,List.flatten_cons,List.append_nil,List.append_assoc]
noncomputable abbrev ρ788 (t:List Nat) (tb gr:V) (pi lf:Addr) (q:List Nat) (sc cl sg:Option V):LV:=.c (.str t) (.c tb (.c gr (.s (.ref pi) (.s (.ref lf) (.s (.str q) (.o sc (.o cl (.o sg .n))))))))
abbrev H788 (c:CP) (q:QK) (J:LV→Store→Prop):Prop:=∀ ρ σ,(wp c (.cmp .NotEq (.loc 4) (.lro .nil))).t ρ σ (whK (wS c i_788.lb) (wS c i_788.lk) ρ q J)→J ρ σ
theorem AreS.len {ls:List (List Nat)} {vs:List V} (h:AreS ls vs):vs.length=ls.length:=by
 induction h with
 | nil=>rfl
 | cons _ ih=>exact congrArg Nat.succ ih
theorem Lf.upd {σ':Store} {c:Nat} (hl:Lf t (c::r)) (u:UpdS a (scR t (c::r)) (scR t r) σ σ'):UpdS a (scR t (c::r)) (.inst 346 [.str t,.int (((t.length - (c::r).length:Nat):Int)+1)]) σ σ':=by
 rw [show ((t.length - (c::r).length:Nat):Int)+1=(t.length - r.length:Nat) from hl.mv (x:=[c]) (r:=r)]
 exact u
structure St788 (pi lf s:Addr) (t:List Nat) (L:List V) (St:List Nat→List V→Store):Prop where
 L:∀ r P,(lf,.list L)∈St r P
 S:∀ r P,(s,scR t r)∈St r P
 P:∀ r P,(pi,.list P)∈St r P
 uS:∀ r r' P,UpdS s (scR t r) (scR t r') (St r P) (St r' P)
 uP:∀ r P P',UpdS pi (.list P) (.list P') (St r P) (St r P')
theorem turn788 {St:List Nat→List V→Store} {J:LV→Store→Prop} {q:QK} {t₀:List Nat} {tb gr:V} {pi lf s:Addr} {L P:List V} {j c:Nat} {nm:V} {w:List Nat} {sc cl sg:Option V} (hS:St788 pi lf s t L St) (hJ:H788 (cok (XX B) (n+3) R) q J) (hi:idx L.length (-1)=some j) (hL:L[j]? = some (openV s nm)) (h0:L.isEmpty=false)
  (hl:Lf t (c::r)) (hP:P.length≤10000000) (hc:c=37→nmAt r=false) (k:∀ w' sc cl sg,(w=[]→c≠34→c≠39→w'=[])→Lf t r→J (ρ788 t₀ tb gr pi lf w' sc cl sg) (St r (P++[.str [c]]))):J (ρ788 t₀ tb gr pi lf w sc cl sg) (St (c::r) P):=by
 refine hJ _ _ ?_
 refine .neN (.ref (hS.L _ _)) ?_
 refine ifNT h0 ?_
 refine .mk (.lst (.ref (hS.L _ _)) hi hL) ?_
 refine .mk (.ref (hS.S _ _)) ?_
 refine d_266 (hS.S _ _) hl ?_
 refine .mk ?_
 refine .mk (.ref (hS.S _ _)) ?_
 refine .mk (.ref (hS.S _ _)) ?_
 refine .mk hl.ix ?_
 refine .mk (.ref (hS.S _ _)) ?_
 refine .mk rfl (.s .z) (hl.upd (hS.uS _ _ _)) rfl ?_
 have fin:wS (cok (XX B) (n+3) R) (.iff (.cmp .NotEq (.loc 5) (.sl [])) (.asg 5 (.ifx (.cmp .Eq (.loc 8) (.loc 5)) (.sl []) (.loc 5)) .done) (.iff (.orc (.cmp .Eq (.loc 8) (.sl [34])) (.bop1 (.cmp .Eq (.loc 8) (.sl [39])))) (.asg 5 (.loc 8) .done) .done .done) (.expr (.bm .app (.loc 3) (.cons (.loc 8) .nil)) .done))
   (ρ788 t₀ tb gr pi lf w (some (.ref s)) cl (some (.str [c]))) (St r P) ((thnK (wS (cok (XX B) (n+3) R) i_788.lk) q).lp J):=by
  have app:∀ w',(w=[]→c≠34→c≠39→w'=[])→wS (cok (XX B) (n+3) R) (.expr (.bm .app (.loc 3) (.cons (.loc 8) .nil)) .done) (ρ788 t₀ tb gr pi lf w' (some (.ref s)) cl (some (.str [c]))) (St r P) ((thnK (wS (cok (XX B) (n+3) R) i_788.lk) q).lp J):=fun w' hw=>by
   refine .mk (.list (hS.P _ _)) ?_
   refine .app (hS.uP _ _ _) hP ?_
   exact k w' (some (.ref s)) cl (some (.str [c])) hw hl.tail
  refine ifb (fun q=>?_) fun _=>?_
  ·have hw:∀ {w':List Nat},w=[]→c≠34→c≠39→w'=[]:=fun e=>by subst e;cases q
   refine ifb (fun _=>?_) fun _=>?_
   ·exact app [] hw
   ·exact app w hw
  ·refine ife (fun e=>.mk ?_) fun _=>?_
   ·exact app [c] fun _ h=>absurd (List.cons.inj e).1 h
   refine ife (fun e=>?_) fun _=>?_
   ·exact app [c] fun _ _ h=>absurd (List.cons.inj e).1 h
   ·exact app w fun e _ _=>e
 refine ifb (fun _=>?_) fun _=>.mk fin
 refine ife (fun e=>?_) fun _=>.mk fin
 refine .mk (.ref (hS.S _ _)) ?_
 refine d_308 (hS.S _ _) hl.tail ?_
 exact ifBF (hc (List.cons.inj e).1) fin
theorem run788 {St:List Nat→List V→Store} {J:LV→Store→Prop} {q:QK} {t₀:List Nat} {tb gr:V} {pi lf s:Addr} {L:List V} {j:Nat} {nm:V} (hS:St788 pi lf s t L St) (hJ:H788 (cok (XX B) (n+3) R) q J) (hi:idx L.length (-1)=some j) (hL:L[j]? = some (openV s nm)) (h0:L.isEmpty=false) :
  ∀ {r:List Nat} {ls:List (List Nat)} {P:List V} {w sc cl sg},np r=true→Lf t r→AreS ls P→ls.length+r.length≤1000000→(∀ {ls' P' w sc cl sg},AreS ls' P'→ls'.flatten=ls.flatten++r→ls'.length=ls.length+r.length→J (ρ788 t₀ tb gr pi lf w sc cl sg) (St [] P'))→J (ρ788 t₀ tb gr pi lf w sc cl sg) (St r P)
 | [],ls,P,w,sc,cl,sg,hn,hl,hA,hb,k=>k hA (List.append_nil _).symm rfl
 | c::r,ls,P,w,sc,cl,sg,hn,hl,hA,hb,k=>by
  have hn:=band hn
  refine turn788 hS hJ hi hL h0 hl (le7 (hA.len▸Nat.le_trans (Nat.le_add_right ..) hb)) (fun e=>?_) fun w sc cl sg _ hl=>?_
  ·subst e;exact bne' hn.1
  refine run788 hS hJ hi hL h0 hn.2 hl hA.snoc (by rw [List.length_append];exact Nat.le_trans (Nat.le_of_eq (Nat.succ_add_eq_add_succ ..)) hb) fun hA e1 e2=>k hA (e1.trans ?_) (e2.trans ?_)
  ·rw [List.flatten_append,List.append_assoc];rfl
  ·rw [List.length_append];exact Nat.succ_add_eq_add_succ ..
theorem sumL (ls:List (List Nat)):(ls.map List.length).sum=ls.flatten.length:=List.length_flatten.symm
theorem c_788a {tb g:V} (ht:t.length≤100000) (hnp:np t=true) (h:Q (.str t) σ):CallOK (XX B) (n+8) (.ref 788) [.str t,tb,g] σ Q R:=by
 have ht':t.length≤1000000:=Nat.le_trans ht (lbt rfl)
 refine CallOK.into ?_
 refine ok_788.go rfl ?_
 refine fun pi=>?_
 refine c_777 ht' rfl fun s hl=>?_
 refine fun lf=>?_
 refine .mk fun J hJ=>?_
 have hS:St788 pi lf s t [openV s .none] (fun r P=>(lf,.list [openV s .none])::(s,scR t r)::(pi,.list P)::σ):=⟨fun _ _=>.head _,fun _ _=>.tail _ (.head _),fun _ _=>.tail _ (.tail _ (.head _)),fun _ _ _=>.tail .head,fun _ _ _=>.tail (.tail .head)⟩
 refine run788 (n:=n+4) hS hJ rfl rfl rfl hnp hl .nil (Nat.le_trans (Nat.le_of_eq (Nat.zero_add _)) ht') fun hA e1 e2=>?_
 refine hJ _ _ ?_
 refine .neN (.ref (.head _)) ?_
 refine .mk ?_
 refine .mk (.lst (.ref (.head _)) rfl rfl) ?_
 refine .mk (.ref (.tail _ (.head _))) ?_
 refine d_266 (.tail _ (.head _)) hl.nil ?_
 refine .mk ?_
 refine .mk (.list (.head _)) ?_
 refine .pop (vs:=[]) .head (Nat.zero_le _) ?_
 refine .mk ?_
 refine hJ _ _ ?_
 refine .neN (.ref (.head _)) ?_
 refine .mk ?_
 refine .join (.ref (.tail _ (.tail _ (.head _)))) hA rfl ?_ ?_
 ·rw [sumL,e1,e2]
  exact Nat.le_trans (Nat.add_le_add (Nat.le_trans (Nat.le_of_eq (by rfl)) ht) (Nat.le_trans (Nat.le_of_eq (Nat.zero_add _)) ht)) (lbt rfl)
 ·exact .mk (.drop (.drop (.drop .refl))) (((ljoin_nil _).trans e1).symm▸h)
theorem c_788b {gr o ou g p:Addr} {m x:List Nat} {c z:Nat} {ps:List (List Nat×V)} (hc:isSp c=true) (hm:IsNm m) (hf:dget ps m=some (entV (.str m) (.str x) .none .none)) (hnp:np x=true) (hx:x.length≤10000) (hz:z+x.length≤100000) (hml:m.length≤1000)
  (h:Q (.str (c::32::(x++[32]))) ((gr,groO (z+x.length) o)::(o,.list [])::(p,.dict ps)::σ)) :
  CallOK (XX B) (n+8) (.ref 788) [.str (c::37::(m++([59]++[]))),tabV ou g p,.ref gr] ((gr,groO z o)::(o,.list [])::(p,.dict ps)::σ) Q R:=by
 have hl:(c::37::(m++([59]++[]))).length≤1000000:=by simp;omega
 generalize et:c::37::(m++([59]++[]))=t at hl ⊢
 refine CallOK.into ?_
 refine ok_788.go rfl ?_
 refine fun pi=>?_
 refine c_777 hl rfl fun s hl=>?_
 refine fun lf=>?_
 refine .mk fun J hJ=>?_
 have hS:St788 pi lf s t [openV s .none] (fun r P=>(lf,.list [openV s .none])::(s,scR t r)::(pi,.list P)::(gr,groO z o)::(o,.list [])::(p,.dict ps)::σ):=⟨fun _ _=>.head _,fun _ _=>.tail _ (.head _),fun _ _=>.tail _ (.tail _ (.head _)),fun _ _ _=>.tail .head,fun _ _ _=>.tail (.tail .head)⟩
 have hq:∀ d,isSp d=false→c≠d:=fun d q e=>by rw [e,q] at hc;cases hc
 have e1:scR t t=scR t (c::37::(m++([59]++[]))):=by rw [et]
 rw [e1]
 refine turn788 (n:=n+4) hS hJ rfl rfl rfl (et▸hl) (Nat.zero_le _) (fun e=>absurd e (hq _ rfl)) fun w sc cl sg hw hl=>?_
 obtain rfl:=hw rfl (hq _ rfl) (hq _ rfl)
 refine hJ _ _ ?_
 refine .neN (.ref (.head _)) ?_
 refine .mk ?_
 refine .mk (.lst (.ref (.head _)) rfl rfl) ?_
 refine .mk (.ref (.tail _ (.head _))) ?_
 refine d_266 (.tail _ (.head _)) hl ?_
 refine .mk ?_
 refine .mk (.ref (.tail _ (.head _))) ?_
 refine .mk (.ref (.tail _ (.head _))) ?_
 refine .mk hl.ix ?_
 refine .mk (.ref (.tail _ (.head _))) ?_
 refine .mk rfl (.s .z) (hl.upd (.tail .head)) rfl ?_
 have hl:=hl.tail
 refine .mk (.mk ?_)
 refine .mk (.ref (.tail _ (.head _))) ?_
 refine d_308 (.tail _ (.head _)) hl ?_
 refine ifBT hm.at ?_
 refine .mk (.list (.head _)) ?_
 refine CallOK.pick (.tail (.tail (.tail (.tail (.tail .head))))) (CallOK.pick (.tail (.tail (.tail (.tail (.tail .head))))) (CallOK.pick (.tail (.tail (.tail (.tail (.tail .head))))) (CallOK.pick (.tail (.tail (.tail (.tail .head)))) ?_)))
 refine c_795 hl hm hf (Nat.le_trans hx (lbt rfl)) hz fun s' hl hx'=>?_
 refine .app (.tail (.tail (.tail (.tail (.tail .head))))) (lbt rfl) ?_
 refine .mk (.list (.tail _ (.tail _ (.tail _ (.tail _ (.tail _ (.tail _ (.head _)))))))) ?_
 refine .app (.tail (.tail (.tail (.tail (.tail (.tail .head)))))) (lbt rfl) ?_
 have hS2:St788 pi lf s' x [openV s .none,openV s' (.str m)] (fun r P=>(s',scR x r)::(s,scR t [])::(gr,groO (z+x.length) o)::(o,.list [.str ([37]++m)])::(p,.dict ps)::(lf,.list [openV s .none,openV s' (.str m)])::(pi,.list P)::σ):=
  ⟨fun _ _=>.tail _ (.tail _ (.tail _ (.tail _ (.tail _ (.head _))))),fun _ _=>.head _,fun _ _=>.tail _ (.tail _ (.tail _ (.tail _ (.tail _ (.tail _ (.head _)))))),fun _ _ _=>.head,fun _ _ _=>.tail (.tail (.tail (.tail (.tail (.tail .head)))))⟩
 refine run788 (n:=n+4) (ls:=[[c],[32]]) hS2 hJ (j:=1) rfl rfl rfl hnp hx' (.cons (.cons .nil)) (Nat.le_trans (Nat.add_le_add_left hx _) (lbt rfl)) @fun ls' _ _ _ _ _ hA e1 e2=>?_
 refine hJ _ _ ?_
 refine .neN (.ref (.tail _ (.tail _ (.tail _ (.tail _ (.tail _ (.head _))))))) ?_
 refine .mk ?_
 refine .mk (.lst (.ref (.tail _ (.tail _ (.tail _ (.tail _ (.tail _ (.head _))))))) (j:=1) rfl rfl) ?_
 refine .mk (.ref (.head _)) ?_
 refine d_266 (.head _) hx'.nil ?_
 refine .mk ?_
 refine .mk (.list (.tail _ (.tail _ (.tail _ (.tail _ (.tail _ (.head _))))))) ?_
 refine .pop (vs:=[openV s .none]) (.tail (.tail (.tail (.tail (.tail .head))))) (lbt rfl) ?_
 refine .mk ?_
 refine .mk (.ref (.tail _ (.tail _ (.head _)))) ?_
 refine CallOK.pick (.tail (.tail (.tail .head))) (CallOK.pick (.tail (.tail (.tail .head))) ?_)
 refine c_623 ?_
 refine .mk (.list (.tail _ (.tail _ (.tail _ (.tail _ (.tail _ (.tail _ (.head _)))))))) ?_
 have hb:_≤10000+10000:=Nat.le_trans (Nat.le_of_eq (hA.len.trans e2)) (Nat.add_le_add (lbt rfl:2≤10000) hx)
 refine .app (.tail (.tail (.tail (.tail (.tail (.tail .head)))))) (Nat.le_trans hb (lbt rfl)) ?_
 refine hJ _ _ ?_
 refine .neN (.ref (.tail _ (.tail _ (.tail _ (.tail _ (.tail _ (.head _))))))) ?_
 refine .mk ?_
 refine .mk (.lst (.ref (.tail _ (.tail _ (.tail _ (.tail _ (.tail _ (.head _))))))) (j:=0) rfl rfl) ?_
 refine .mk (.ref (.tail _ (.tail _ (.tail _ (.head _))))) ?_
 refine d_266 (.tail _ (.tail _ (.tail _ (.head _)))) hl.nil ?_
 refine .mk ?_
 refine .mk (.list (.tail _ (.tail _ (.tail _ (.tail _ (.tail _ (.head _))))))) ?_
 refine .pop (vs:=[]) (.tail (.tail (.tail (.tail (.tail .head))))) (Nat.zero_le _) ?_
 refine .mk ?_
 refine hJ _ _ ?_
 refine .neN (.ref (.tail _ (.tail _ (.tail _ (.tail _ (.tail _ (.head _))))))) ?_
 refine .mk ?_
 have ef:(ls'++[[32]]).flatten=c::32::(x++[32]):=by rw [List.flatten_append,e1];rfl
 refine .join (.ref (.tail _ (.tail _ (.tail _ (.tail _ (.tail _ (.tail _ (.head _)))))))) hA.snoc rfl ?_ ?_
 ·rw [sumL,ef,List.length_append,e2]
  simp only [List.length_cons,List.length_append,List.length_nil]
  omega
 ·exact .mk (.take .head (.take .head (.drop (.drop (.take .head (.drop (.drop .refl))))))) (((ljoin_nil _).trans ef).symm▸h)
theorem pre1 {c d:Nat} {r:List Nat}:[c].isPrefixOf (d::r)=(c==d):=Bool.and_true _
theorem lfind_mem {c:Nat}:∀ {l:List Nat},(lfind [c] l).isSome=true→c∈l
 | [],h=>nomatch h
 | d::l,h=>by
  unfold lfind at h
  by_cases e:c=d
  ·subst e;exact .head _
  ·rw [pre1,beq_false_of_ne e,if_neg Bool.false_ne_true,Option.isSome_map] at h
   exact .tail _ (lfind_mem h)
structure Sp1 (s:List Nat):Prop where
 sps:Sps s
 ne:s≠[]
theorem isSp_nn {c:Nat} (h:isSp c=true):isNameC c=false:=by
 have h:=lfind_mem (band h).1
 rcases List.mem_cons.mp h with rfl | h
 ·rfl
 rcases List.mem_cons.mp h with rfl | h
 ·rfl
 rcases List.mem_cons.mp h with rfl | h
 ·rfl
 obtain rfl:=List.mem_singleton.mp h
 rfl
theorem isName_ns {c:Nat} (h:isNameC c=true):isSp c=false:=by
 cases q:isSp c with
 | false=>rfl
 | true=>rw [isSp_nn q] at h;cases h
theorem Sps.nnc {s:List Nat} (h:Sps s):nnc s=true:=by
 cases s with
 | nil=>rfl
 | cons c s=>exact congrArg not (isSp_nn (h c (.head _)))
theorem Sp1.nnc {s r:List Nat} (h:Sp1 s):nnc (s++r)=true:=by
 obtain ⟨h1,h2⟩:=h
 cases s with
 | nil=>exact absurd rfl h2
 | cons c s=>exact congrArg not (isSp_nn (h1 c (.head _)))
theorem IsTk.nsp {m r:List Nat} (h:IsTk m):nsp (m++r)=true:=by
 obtain ⟨h1,h2⟩:=h
 cases m with
 | nil=>exact absurd rfl h1
 | cons c s=>exact congrArg not (isName_ns (h2 c (.head _)))
theorem Quo.nsp {q x r:List Nat} (h:Quo q x):nsp (q++r)=true:=by
 obtain ⟨rfl | rfl,_⟩:=h<;>rfl
theorem tk1 {c:Nat} (h:isNameC c=true):IsTk [c]:=⟨List.cons_ne_nil _ _,fun d hd=>by rw [List.mem_singleton.mp hd];exact h⟩
theorem c_886a (hl:Lf t (40::117::124::32::118::41::r)) (h:Lf t r→Q (.tup [.str [117],.str [118]]) ((a,scR t r)::σ)):CallOK (XX B) (n+7) (.ref 886) [.ref a,.bool false] ((a,scR t (40::117::124::32::118::41::r))::σ) Q R:=by
 refine CallOK.into ?_
 refine ok_886.go rfl ?_
 refine .mk (.ref (.head _)) ?_
 refine d_287 (x:=[40]) hl fun hl=>?_
 refine fun f=>?_
 refine .mk fun J hJ=>?_
 refine hJ _ _ ?_
 refine .mk ?_
 refine .mk (.ref (.tail _ (.head _))) ?_
 refine CallOK.pick (.tail .head) ?_
 refine d_294 (s:=[]) hl .nil rfl fun hl=>?_
 refine .mk ?_
 refine .mk (.ref (.head _)) ?_
 refine d_315 (m:=[117]) hl (tk1 rfl) rfl fun hl=>?_
 refine .inL (.ref (.tail _ (.head _))) .nil ?_
 refine .mk ?_
 refine .mk (.list (.tail _ (.head _))) ?_
 refine .app (.tail .head) (Nat.zero_le _) ?_
 refine .mk (.ref (.head _)) ?_
 refine d_294 (s:=[]) hl .nil rfl fun hl=>?_
 refine .mk (.ref (.head _)) ?_
 refine d_280T (x:=[124]) hl fun hl=>?_
 refine .mk ?_
 refine hJ _ _ ?_
 refine .mk ?_
 refine .mk (.ref (.head _)) ?_
 refine d_294 (s:=[32]) hl sp1 rfl fun hl=>?_
 refine .mk ?_
 refine .mk (.ref (.head _)) ?_
 refine d_315 (m:=[118]) hl (tk1 rfl) rfl fun hl=>?_
 refine .inL (.ref (.tail _ (.head _))) (.cons .nil) ?_
 refine .mk ?_
 refine .mk (.list (.tail _ (.head _))) ?_
 refine .app (.tail .head) (lbt rfl) ?_
 refine .mk (.ref (.head _)) ?_
 refine d_294 (s:=[]) hl .nil rfl fun hl=>?_
 refine .mk (.ref (.head _)) ?_
 refine d_280F hl rfl ?_
 refine .mk ?_
 refine .mk (.ref (.head _)) ?_
 refine d_287 (x:=[41]) hl fun hl=>?_
 refine .tupL (.ref (.tail _ (.head _))) (lbt rfl) ?_
 exact .mk (.take .head (.drop .refl)) (h hl)
theorem c_886b (hl:Lf t (40::103::41::r)) (h:Lf t r→Q (.tup [.str [103]]) ((a,scR t r)::σ)):CallOK (XX B) (n+7) (.ref 886) [.ref a,.bool true] ((a,scR t (40::103::41::r))::σ) Q R:=by
 refine CallOK.into ?_
 refine ok_886.go rfl ?_
 refine .mk (.ref (.head _)) ?_
 refine d_287 (x:=[40]) hl fun hl=>?_
 refine fun f=>?_
 refine .mk fun J hJ=>?_
 refine hJ _ _ ?_
 refine .mk ?_
 refine .mk (.ref (.tail _ (.head _))) ?_
 refine CallOK.pick (.tail .head) ?_
 refine d_294 (s:=[]) hl .nil rfl fun hl=>?_
 refine .mk ?_
 refine .mk (.ref (.head _)) ?_
 refine d_322 (m:=[103]) hl (nm1 rfl) rfl fun hl=>?_
 refine .inL (.ref (.tail _ (.head _))) .nil ?_
 refine .mk ?_
 refine .mk (.list (.tail _ (.head _))) ?_
 refine .app (.tail .head) (Nat.zero_le _) ?_
 refine .mk (.ref (.head _)) ?_
 refine d_294 (s:=[]) hl .nil rfl fun hl=>?_
 refine .mk (.ref (.head _)) ?_
 refine d_280F hl rfl ?_
 refine .mk ?_
 refine .mk (.ref (.head _)) ?_
 refine d_287 (x:=[41]) hl fun hl=>?_
 refine .tupL (.ref (.tail _ (.head _))) (lbt rfl) ?_
 exact .mk (.take .head (.drop .refl)) (h hl)
inductive KndT:List Nat→List Nat→List V→Prop
 | cdata:KndT [67,68,65,84,65] [67,68,65,84,65] []
 | nmtokens:KndT [78,77,84,79,75,69,78,83] [78,77,84,79,75,69,78,83] []
 | id:KndT [73,68] [73,68] []
 | enum:KndT [40,117,124,32,118,41] [101,110,117,109,101,114,97,116,105,111,110] [.str [117],.str [118]]
 | nota:KndT [78,79,84,65,84,73,79,78,32,40,103,41] [110,111,116,97,116,105,111,110] [.str [103]]
noncomputable def kinds:List (List Nat):=[[67,68,65,84,65],[73,68,82,69,70,83],[73,68,82,69,70],[73,68],[69,78,84,73,84,73,69,83],[69,78,84,73,84,89],[78,77,84,79,75,69,78,83],[78,77,84,79,75,69,78]]
theorem word {m:List Nat} (h1:m.all isNameC=true) (h2:nmAt m=true):IsNm m:=⟨⟨fun e=>(by subst e;cases h2),fun c hc=>List.all_eq_true.mp h1 c hc⟩,h2⟩
theorem c_893 {told k s:List Nat} {cs:List V} (hk:KndT told k cs) (hs:Sp1 s) (hl:Lf t (told++(s++r))) (h:Lf t (s++r)→Q (.tup [.str k,.tup cs]) ((a,scR t (s++r))::σ)):CallOK (XX B) (n+8) (.ref 893) [.ref a] ((a,scR t (told++(s++r)))::σ) Q R:=by
 refine ok_893.go rfl ?_
 refine .mk (.ref (.head _)) ?_
 have plain:∀ {m:List Nat},IsNm m→[40].isPrefixOf (m++(s++r))=false→(m==[78,79,84,65,84,73,79,78])=false→(!kinds.any (· == m))=false→Lf t (m++(s++r))→(Lf t (s++r)→Q (.tup [.str m,.tup []]) ((a,scR t (s++r))::σ))→CallOK (XX B) (n+7) (.ref 273) [.ref a,.str [40]] ((a,scR t (m++(s++r)))::σ) (trK (iffK (wS (cok (XX B) (n+7) R) (.ret (.tup (.cons (.sl [101,110,117,109,101,114,97,116,105,111,110]) (.cons (.call 886 (.cons (.loc 0) (.cons (.bln false) .nil))) .nil))))) (wS (cok (XX B) (n+7) R) .done) (.c (.ref a) (.o none (.o none .n))) (thnK (wS (cok (XX B) (n+7) R) i_893.nx) (retK Q)))) R:=fun hm h1 h2 h3 hl h=>by
  refine d_273 (.head _) hl h1 ?_
  refine .mk ?_
  refine .mk (.ref (.head _)) ?_
  refine .mk (.ref (.head _)) ?_
  refine d_322 hl hm hs.nnc fun hl=>?_
  refine ifBF h2 ?_
  refine .niT (ls:=kinds) .map ?_
  exact ifBF h3 (h hl)
 cases hk with
 | cdata=>exact plain (word rfl rfl) rfl rfl rfl hl h
 | nmtokens=>exact plain (word rfl rfl) rfl rfl rfl hl h
 | id=>exact plain (word rfl rfl) rfl rfl rfl hl h
 | enum=>
  refine d_273 (b:=true) (.head _) hl rfl ?_
  refine .mk ?_
  exact c_886a hl h
 | nota=>
  refine d_273 (b:=false) (.head _) hl rfl ?_
  refine .mk ?_
  refine .mk (.ref (.head _)) ?_
  refine .mk (.ref (.head _)) ?_
  refine d_322 (m:=[78,79,84,65,84,73,79,78]) hl (word rfl rfl) rfl fun hl=>?_
  refine .mk ?_
  refine .mk (.ref (.head _)) ?_
  refine d_301 (s:=[32]) hl sp1 (List.cons_ne_nil _ _) rfl fun hl=>?_
  exact c_886b hl h
noncomputable abbrev pubS:List Nat:=[32,13,10,45,39,40,41,43,44,46,47,58,61,63,59,33,42,35,64,36,95,37]
noncomputable def isLet (c:Nat):Bool:=btw [c] [97] [122]||(btw [c] [65] [90]||btw [c] [48] [57])
noncomputable def pubC (c:Nat):Bool:=isLet c||(lfind [c] pubS).isSome
theorem c_907 {a:V} {x:List Nat} (hx:x.all pubC=true) (hz:x.length≤1000000) (h:Q (.str (collap x)) σ):CallOK (XX B) (n+4) (.ref 907) [a,.str x] σ Q R:=by
 refine CallOK.into ?_
 refine ok_907.go rfl ?_
 refine .str ?_
 refine fo_map (P:=fun l σ'=>σ'=σ∧l.all pubC=true) (ρf:=fun i:Option V×Option V=>.c _ (.c _ (.o i.1 (.o i.2 .n)))) (i:=(none,none)) (fun i σ' e=>?_) (fun c l i σ' e ih=>?_) ⟨rfl,hx⟩
 ·obtain ⟨rfl,_⟩:=e
  exact c_112 hz fun _ _=>.mk (.drop .refl) h
 obtain ⟨rfl,e⟩:=e
 have e:=band e
 refine ifb2 (K:=orK _ _ _) ?_ id id
 refine ifo (Q:=setK _ _ _ _) (x:=btw [c] [65] [90]||btw [c] [48] [57]) ?_ id fun h=>?_
 ·show LV.set _ _ (.bool (isLet c)) _
  cases q:isLet c with
  | true=>exact .mk (.mk (ih (some _,some _) _ ⟨rfl,e.2⟩))
  | false=>
   refine .mk ?_
   have e1:=e.1
   unfold pubC at e1
   rw [q] at e1
   exact ifNF e1 (ih (some _,some _) _ ⟨rfl,e.2⟩)
 ·refine ifb2 (K:=orK _ _ _) ?_ id id
  refine ifo h id fun h=>?_
  exact ifb2 h id id
noncomputable abbrev sysW:List Nat:=[83,89,83,84,69,77]
noncomputable abbrev pubW:List Nat:=[80,85,66,76,73,67]
theorem c_900s {y:V} {s q x:List Nat} (hs:Sp1 s) (hq:Quo q x) (hl:Lf t (sysW++(s++(q++(x++(q++r)))))) (h:Lf t r→Q (.tup [.none,.str x]) ((a,scR t r)::σ)):CallOK (XX B) (n+8) (.ref 900) [.ref a,y] ((a,scR t (sysW++(s++(q++(x++(q++r))))))::σ) Q R:=by
 refine ok_900.go rfl ?_
 refine .mk (.ref (.head _)) ?_
 refine d_280T hl fun hl=>?_
 refine .mk ?_
 refine .mk (.ref (.head _)) ?_
 refine d_301 hl hs.sps hs.ne hq.nsp fun hl=>?_
 refine .mk (.ref (.head _)) ?_
 exact d_336 hl hq h
theorem w_900 {y:V} {s q x:List Nat} (hs:Sp1 s) (hq:Quo q x) (hx:x.all pubC=true) (hl:Lf t (pubW++(s++(q++(x++(q++r))))))
  (h:Lf t r→wS (cok (XX B) (n+7) R) i_900.nx.nx.nx.nx (.c (.ref a) (.c y (.s (.str (collap x)) (.o none .n)))) ((a,scR t r)::σ) (retK Q)):CallOK (XX B) (n+8) (.ref 900) [.ref a,y] ((a,scR t (pubW++(s++(q++(x++(q++r))))))::σ) Q R:=by
 have lx:x.length≤1000000:=Nat.le_trans (Nat.le_trans (List.length_append▸Nat.le_add_right ..) (hl.right.right.right).len_le) hl.len
 refine ok_900.go rfl ?_
 refine .mk (.ref (.head _)) ?_
 refine d_280F hl rfl ?_
 refine .mk ?_
 refine .mk (.ref (.head _)) ?_
 refine d_287 hl fun hl=>?_
 refine .mk (.ref (.head _)) ?_
 refine d_301 hl hs.sps hs.ne hq.nsp fun hl=>?_
 refine .mk (.ref (.head _)) ?_
 refine d_336 hl hq fun hl=>?_
 refine c_907 hx lx ?_
 exact h hl
theorem c_900p {y:V} {s q x s' q' x':List Nat} (hs:Sp1 s) (hq:Quo q x) (hx:x.all pubC=true) (hs':Sp1 s') (hq':Quo q' x') (hl:Lf t (pubW++(s++(q++(x++(q++(s'++(q'++(x'++(q'++r)))))))))) (h:Lf t r→Q (.tup [.str (collap x),.str x']) ((a,scR t r)::σ)) :
  CallOK (XX B) (n+8) (.ref 900) [.ref a,y] ((a,scR t (pubW++(s++(q++(x++(q++(s'++(q'++(x'++(q'++r))))))))))::σ) Q R:=by
 refine w_900 hs hq hx hl fun hl=>?_
 refine .mk (.ref (.head _)) ?_
 refine .mk (.ref (.head _)) ?_
 refine d_294 hl hs'.sps hq'.nsp fun hl=>?_
 refine ifT (Int.ofNat_lt.mpr (List.length_pos_iff.mpr hs'.ne)) ?_
 refine .mk (.ref (.head _)) ?_
 obtain ⟨q1 | q1,_⟩:=id hq'
 ·subst q1
  refine d_273 (.head _) hl rfl ?_
  refine .mk (.mk ?_)
  refine .mk (.ref (.head _)) ?_
  exact d_336 hl hq' h
 ·subst q1
  refine d_273 (.head _) hl rfl ?_
  refine .mk ?_
  refine .mk (.ref (.head _)) ?_
  refine d_273 (.head _) hl rfl ?_
  refine .mk ?_
  refine .mk (.ref (.head _)) ?_
  exact d_336 hl hq' h
theorem d_294e {s:List Nat} (hl:Lf t s) (hs:Sps s) (h:Q (.int s.length) ((a,scR t [])::σ)):CallOK (XX B) (n+2) (.ref 294) [.ref a] ((a,scR t s)::σ) Q R:=by
 have e:=List.append_nil s
 rw [← e] at hl
 have:=d_294 (B:=B) (n:=n) (a:=a) (σ:=σ) (Q:=Q) (R:=R) hl hs rfl fun _=>h
 rwa [e] at this
theorem c_900n {b:Bool} {s q x e:List Nat} (hs:Sp1 s) (hq:Quo q x) (hx:x.all pubC=true) (he:Sps e) (hl:Lf t (pubW++(s++(q++(x++(q++e)))))) (h:cond b (Lf t e→Q (.tup [.str (collap x),.none]) ((a,scR t e)::σ)) R) :
  CallOK (XX B) (n+8) (.ref 900) [.ref a,.bool b] ((a,scR t (pubW++(s++(q++(x++(q++e))))))::σ) Q R:=by
 refine w_900 hs hq hx hl fun hl=>?_
 refine .mk (.ref (.head _)) ?_
 refine .mk (.ref (.head _)) ?_
 refine d_294e hl he ?_
 have fin:wS (cok (XX B) (n+7) R) i_900.nx.nx.nx.nx.nx.nx (.c (.ref a) (.c (.bool b) (.s (.str (collap x)) (.s (.int (t.length - e.length:Nat)) .n)))) ((a,scR t [])::σ) (retK Q):=by
  refine .mk rfl (.s .z) .head rfl ?_
  cases b with
  | true=>exact .mk (h hl)
  | false=>
   refine .mk ?_
   refine .mk (.ref (.head _)) ?_
   exact dflt (t:=t) (r:=e) h
 refine ifd (fun _=>?_) fun _=>.mk fin
 refine .mk (.ref (.head _)) ?_
 refine d_273 (.head _) hl.nil rfl ?_
 refine .mk ?_
 refine .mk (.ref (.head _)) ?_
 refine d_273 (.head _) hl.nil rfl ?_
 exact .mk fin
noncomputable abbrev rdrV (tb d g:V):V:=.ri 875 [tb,d,g]
theorem Lf.rest (h:Lf t r):lsl t (some ((t.length - r.length:Nat):Int)) none=r:=by
 show (t.take t.length).drop (lclip t.length _)=r
 rw [lclip_nat (Nat.sub_le ..),List.take_length,h.drop]
theorem Mdl.nsp {m r:List Nat} {v:V} (h:Mdl m v):nsp (m++r)=true:=by cases h<;>rfl
theorem c_844 {tb rt g v:V} {ed td od:Addr} {nm s m e:List Nat} {p:Nat} {es:List (List Nat×V)} (hm:IsNm nm) (hs:Sp1 s) (hv:Mdl m v) (he:Sps e) (hes:es.length≤1000) (hl:Lf t (nm++(s++(m++e)))) (h:newW (Q .none ((ed,.dict (dset es nm v))::(a,scR t [])::σ)) R (dget es nm)) :
  CallOK (XX B) (n+10) (.ref 844) [rdrV tb (dtdV rt ed td od) g,.ref a,.int p] ((a,scR t (nm++(s++(m++e))))::(ed,.dict es)::σ) Q R:=by
 have ln:nm.length≤1000000:=Nat.le_trans (Nat.le_trans (List.length_append▸Nat.le_add_right ..) hl.len_le) hl.len
 refine ok_844.go rfl ?_
 refine .mk (.ref (.head _)) ?_
 refine d_322 hl hm hs.nnc fun hl=>?_
 refine .mk (.ref (.head _)) ?_
 refine d_301 hl hs.sps hs.ne hv.nsp fun hl=>?_
 refine .mk (.ref (.head _)) ?_
 refine .mk (.ref (.head _)) ?_
 refine .mk (a:=some _) (b:=none) rfl rfl (.str (le7 hl.len)) ?_
 have e1:=hl.rest
 generalize lsl t (some ((t.length - (m++e).length:Nat):Int)) none=z at e1 ⊢
 subst e1
 refine c_435 hv he (Nat.le_trans hl.len_le hl.len) ?_
 refine .mk (.ref (.head _)) ?_
 refine .lenS (le7 hl.len) ?_
 refine .mk rfl (.s .z) .head rfl ?_
 refine CallOK.pick (.tail .head) ?_
 exact c_477 hes ln h
def Out (t u r:List Nat) (b:Bool) (pu sy:V):Prop:=∀ {B:Bun} {n:Nat} {a:Addr} {σ:Store} {Q:VK} {R:Prop},Q (.tup [pu,sy]) ((a,scR t r)::σ)→CallOK (XX B) (n+8) (.ref 900) [.ref a,.bool b] ((a,scR t u)::σ) Q R
theorem c_872 {tb rt g pu sy:V} {ed td od:Addr} {nm s u:List Nat} {p:Nat} {es:List (List Nat×V)} (hm:IsNm nm) (hs:Sp1 s) (hu:nsp u=true) (ho:Out t u r true pu sy) (hp:hv pu=true) (hy:hv sy=true) (hes:es.length≤1000) (hl:Lf t (nm++(s++u))) (h:newW (Q .none ((od,.dict (dset es nm (notat (.str nm) pu sy)))::(a,scR t r)::σ)) R (dget es nm)) :
  CallOK (XX B) (n+9) (.ref 872) [rdrV tb (dtdV rt ed td od) g,.ref a,.int p] ((a,scR t (nm++(s++u)))::(od,.dict es)::σ) Q R:=by
 have ln:nm.length≤1000000:=Nat.le_trans (Nat.le_trans (List.length_append▸Nat.le_add_right ..) hl.len_le) hl.len
 refine ok_872.go rfl ?_
 refine .mk (.ref (.head _)) ?_
 refine d_322 hl hm hs.nnc fun hl=>?_
 refine .mk (.ref (.head _)) ?_
 refine d_301 hl hs.sps hs.ne hu fun hl=>?_
 refine ho ?_
 refine CallOK.pick (.tail .head) ?_
 exact c_491 hes ln hp hy h
noncomputable def norm (k v:List Nat):List Nat:=cond (k==[67,68,65,84,65]) v (collap v)
theorem c_154 {k v:List Nat} (hz:v.length≤1000000) (h:Q (.str (norm k v)) σ):CallOK (XX B) (n+4) (.ref 154) [.str k,.str v] σ Q R:=by
 refine CallOK.into ?_
 refine ok_154.go rfl ?_
 exact ifg (P:=fun x=>Q (.str x) σ) h (fun h=>.mk .refl h) fun h=>c_112 hz fun _ _=>.mk (.drop .refl) h
noncomputable abbrev reqW:List Nat:=[35,82,69,81,85,73,82,69,68]
noncomputable abbrev impW:List Nat:=[35,73,77,80,76,73,69,68]
noncomputable abbrev fixW:List Nat:=[35,70,73,88,69,68]
theorem c_858r {tb d g k:V} (hl:Lf t (reqW++r)) (h:Lf t r→Q (.tup [.str [114,101,113,117,105,114,101,100],.none]) ((a,scR t r)::σ)):CallOK (XX B) (n+3) (.ref 858) [rdrV tb d g,.ref a,k] ((a,scR t (reqW++r))::σ) Q R:=by
 refine ok_858.go rfl ?_
 refine .mk (.ref (.head _)) ?_
 refine d_280T hl fun hl=>?_
 exact .mk (h hl)
theorem c_858i {tb d g k:V} (hl:Lf t (impW++r)) (h:Lf t r→Q (.tup [.str [105,109,112,108,105,101,100],.none]) ((a,scR t r)::σ)):CallOK (XX B) (n+3) (.ref 858) [rdrV tb d g,.ref a,k] ((a,scR t (impW++r))::σ) Q R:=by
 refine ok_858.go rfl ?_
 refine .mk (.ref (.head _)) ?_
 refine d_280F hl rfl ?_
 refine .mk ?_
 refine .mk (.ref (.head _)) ?_
 refine d_280T hl fun hl=>?_
 exact .mk (h hl)
theorem w_858 {tb d:V} {gr:Addr} {k md q raw:List Nat} {ps:List (List Nat)} (hq:Quo q raw) (hr:TV raw ps) (hp:(ps.map List.length).sum+ps.length≤1000000) (hz:(ljoin [] ps).length≤1000000) (hl:Lf t (q++(raw++(q++r)))) (h:Lf t r→Q (.tup [.str md,.str (norm k (ljoin [] ps))]) ((a,scR t r)::σ)) :
  wS (cok (XX B) (n+7) R) i_858.nx.nx.nx.nx (.c (rdrV tb d (.ref gr)) (.c (.ref a) (.c (.str k) (.s (.str md) .n)))) ((a,scR t (q++(raw++(q++r))))::σ) (retK Q):=by
 have lr:raw.length≤1000000:=Nat.le_trans (Nat.le_trans (List.length_append▸Nat.le_add_right ..) (hl.right).len_le) hl.len
 refine .mk (.ref (.head _)) ?_
 refine d_336 hl hq fun hl=>?_
 refine c_729 lr hr hp ?_
 exact c_154 hz (h hl)
theorem c_858d {tb d:V} {gr:Addr} {k q raw:List Nat} {ps:List (List Nat)} (hq:Quo q raw) (hr:TV raw ps) (hp:(ps.map List.length).sum+ps.length≤1000000) (hz:(ljoin [] ps).length≤1000000) (hl:Lf t (q++(raw++(q++r)))) (h:Lf t r→Q (.tup [.str [100,101,102,97,117,108,116],.str (norm k (ljoin [] ps))]) ((a,scR t r)::σ)) :
  CallOK (XX B) (n+8) (.ref 858) [rdrV tb d (.ref gr),.ref a,.str k] ((a,scR t (q++(raw++(q++r))))::σ) Q R:=by
 refine ok_858.go rfl ?_
 have no:∀ {c:Nat} {w:List Nat},c≠34→c≠39→(c::w).isPrefixOf (q++(raw++(q++r)))=false:=fun h1 h2=>by
  obtain ⟨rfl | rfl,_⟩:=hq
  ·exact (congrArg (·&&_) (beq_false_of_ne h1)).trans (Bool.false_and _)
  ·exact (congrArg (·&&_) (beq_false_of_ne h2)).trans (Bool.false_and _)
 refine .mk (.ref (.head _)) ?_
 refine d_280F hl (no (by decide) (by decide)) ?_
 refine .mk ?_
 refine .mk (.ref (.head _)) ?_
 refine d_280F hl (no (by decide) (by decide)) ?_
 refine .mk ?_
 refine .mk (.ref (.head _)) ?_
 refine d_280F hl (no (by decide) (by decide)) ?_
 refine .mk ?_
 exact w_858 (n:=n) (k:=k) (md:=[100,101,102,97,117,108,116]) (Q:=Q) hq hr hp hz hl h
theorem c_858f {tb d:V} {gr:Addr} {k s q raw:List Nat} {ps:List (List Nat)} (hs:Sp1 s) (hq:Quo q raw) (hr:TV raw ps) (hp:(ps.map List.length).sum+ps.length≤1000000) (hz:(ljoin [] ps).length≤1000000) (hl:Lf t (fixW++(s++(q++(raw++(q++r)))))) (h:Lf t r→Q (.tup [.str [102,105,120,101,100],.str (norm k (ljoin [] ps))]) ((a,scR t r)::σ)) :
  CallOK (XX B) (n+8) (.ref 858) [rdrV tb d (.ref gr),.ref a,.str k] ((a,scR t (fixW++(s++(q++(raw++(q++r))))))::σ) Q R:=by
 refine ok_858.go rfl ?_
 refine .mk (.ref (.head _)) ?_
 refine d_280F hl rfl ?_
 refine .mk ?_
 refine .mk (.ref (.head _)) ?_
 refine d_280F hl rfl ?_
 refine .mk ?_
 refine .mk (.ref (.head _)) ?_
 refine d_280T hl fun hl=>?_
 refine .mk ?_
 refine .mk (.ref (.head _)) ?_
 refine d_301 hl hs.sps hs.ne hq.nsp fun hl=>?_
 have lr:raw.length≤1000000:=Nat.le_trans (Nat.le_trans (List.length_append▸Nat.le_add_right ..) (hl.right).len_le) hl.len
 refine .mk (.ref (.head _)) ?_
 refine d_336 hl hq fun hl=>?_
 refine c_729 lr hr hp ?_
 exact c_154 hz (h hl)
theorem c_830 {y:V} (hl:Lf t (103::111::32::62::32::111::110::63::62::r)) (h:Lf t r→Q .none ((a,scR t r)::σ)):CallOK (XX B) (n+7) (.ref 830) [y,.ref a] ((a,scR t (103::111::32::62::32::111::110::63::62::r))::σ) Q R:=by
 refine ok_830.go rfl ?_
 refine .mk (.ref (.head _)) ?_
 refine .mk (.ref (.head _)) ?_
 refine d_322 (m:=[103,111]) hl (word rfl rfl) rfl fun hl=>?_
 refine .low (l':=[103,111]) (by kernel_rfl) (lbt rfl) ?_
 refine .mk ?_
 refine .mk (.ref (.head _)) ?_
 refine d_280F hl rfl ?_
 refine .mk ?_
 refine .mk (.ref (.head _)) ?_
 refine d_301 (s:=[32]) hl sp1 (List.cons_ne_nil _ _) rfl fun hl=>?_
 refine .mk (.ref (.head _)) ?_
 exact d_329 (m:=[62,32,111,110]) (x:=[63,62]) hl rfl h
theorem c_830x {y:V} (hl:Lf t (120::109::108::32::r)) (h:R):CallOK (XX B) (n+7) (.ref 830) [y,.ref a] ((a,scR t (120::109::108::32::r))::σ) Q R:=by
 refine ok_830.go rfl ?_
 refine .mk (.ref (.head _)) ?_
 refine .mk (.ref (.head _)) ?_
 refine d_322 (m:=[120,109,108]) hl (word rfl rfl) rfl fun hl=>?_
 refine .low (l':=[120,109,108]) (by kernel_rfl) (lbt rfl) ?_
 refine .mk ?_
 exact c_236 rfl fun _ _=>.mk rfl (.head _) h
theorem IsNm.hd {m r:List Nat} {d:Nat} (h:IsNm m) (hd:isStart d=false):[d].isPrefixOf (m++r)=false:=by
 obtain ⟨⟨h1,_⟩,h2⟩:=h
 cases m with
 | nil=>exact absurd rfl h1
 | cons c m=>exact pre1.trans (beq_false_of_ne fun e=>by subst e;rw [show isStart d=true from h2] at hd;cases hd)
theorem c_865v {d:V} {gr:Addr} {ou g p:Addr} {nm s q raw:List Nat} {ps:List (List Nat)} {gs:List (List Nat×V)} (hm:IsNm nm) (hn1:nm.length≤1) (hs:Sp1 s) (hq:Quo q raw) (hr:LT raw ps) (hp:(ps.map List.length).sum+ps.length≤1000000) (hgs:gs.length≤1000) (hl:Lf t (nm++(s++(q++(raw++(q++r))))))
  (h:Lf t r→Q .none ((g,.dict (dnew gs nm (entV (.str nm) (.str (ljoin [] ps)) .none .none)))::(a,scR t r)::σ)):CallOK (XX B) (n+9) (.ref 865) [rdrV (tabV ou g p) d (.ref gr),.ref a] ((a,scR t (nm++(s++(q++(raw++(q++r))))))::(g,.dict gs)::σ) Q R:=by
 refine ok_865.go rfl ?_
 refine .mk (.ref (.head _)) ?_
 refine d_280F hl (hm.hd rfl) ?_
 refine .mk ?_
 refine .mk (.ref (.head _)) ?_
 refine d_322 hl hm hs.nnc fun hl=>?_
 refine .mk (.ref (.head _)) ?_
 refine d_301 hl hs.sps hs.ne hq.nsp fun hl=>?_
 have lr:raw.length≤1000000:=Nat.le_trans (Nat.le_trans (List.length_append▸Nat.le_add_right ..) (hl.right).len_le) hl.len
 refine .mk (.ref (.head _)) ?_
 obtain ⟨q1 | q1,_⟩:=id hq
 ·subst q1
  refine d_273 (.head _) hl rfl ?_
  refine .mk (.mk ?_)
  refine .mk (.ref (.head _)) ?_
  refine d_336 hl hq fun hl=>?_
  refine c_751 lr hr hp ?_
  refine CallOK.pick (.tail .head) ?_
  exact c_1009h hgs rfl hn1 fun _=>h hl
 ·subst q1
  refine d_273 (.head _) hl rfl ?_
  refine .mk ?_
  refine .mk (.ref (.head _)) ?_
  refine d_273 (.head _) hl rfl ?_
  refine .mk ?_
  refine .mk (.ref (.head _)) ?_
  refine d_336 hl hq fun hl=>?_
  refine c_751 lr hr hp ?_
  refine CallOK.pick (.tail .head) ?_
  exact c_1009h hgs rfl hn1 fun _=>h hl
theorem c_865p {d:V} {gr:Addr} {ou g p:Addr} {s0 nm s q raw:List Nat} {ps:List (List Nat)} {gs:List (List Nat×V)} (h0:Sp1 s0) (hm:IsNm nm) (hf:dget gs nm=none) (hs:Sp1 s) (hq:Quo q raw) (hr:LT raw ps) (hp:(ps.map List.length).sum+ps.length≤1000000) (hgs:gs.length≤1000) (hl:Lf t ([37]++(s0++(nm++(s++(q++(raw++(q++r))))))))
  (h:Lf t r→Q .none ((p,.dict (dset gs nm (entV (.str nm) (.str (ljoin [] ps)) .none .none)))::(a,scR t r)::σ)):CallOK (XX B) (n+9) (.ref 865) [rdrV (tabV ou g p) d (.ref gr),.ref a] ((a,scR t ([37]++(s0++(nm++(s++(q++(raw++(q++r))))))))::(p,.dict gs)::σ) Q R:=by
 refine ok_865.go rfl ?_
 refine .mk (.ref (.head _)) ?_
 refine d_280T hl fun hl=>?_
 refine .mk ?_
 refine .mk (.ref (.head _)) ?_
 refine d_301 hl h0.sps h0.ne hm.toIsTk.nsp fun hl=>?_
 refine .mk (.ref (.head _)) ?_
 refine d_322 hl hm hs.nnc fun hl=>?_
 refine .mk (.ref (.head _)) ?_
 refine d_301 hl hs.sps hs.ne hq.nsp fun hl=>?_
 have lr:raw.length≤1000000:=Nat.le_trans (Nat.le_trans (List.length_append▸Nat.le_add_right ..) (hl.right).len_le) hl.len
 refine .mk (.ref (.head _)) ?_
 obtain ⟨q1 | q1,_⟩:=id hq
 ·subst q1
  refine d_273 (.head _) hl rfl ?_
  refine .mk (.mk ?_)
  refine .mk (.ref (.head _)) ?_
  refine d_336 hl hq fun hl=>?_
  refine c_751 lr hr hp ?_
  refine CallOK.pick (.tail .head) ?_
  exact c_1009p hgs rfl hf fun _=>h hl
 ·subst q1
  refine d_273 (.head _) hl rfl ?_
  refine .mk ?_
  refine .mk (.ref (.head _)) ?_
  refine d_273 (.head _) hl rfl ?_
  refine .mk ?_
  refine .mk (.ref (.head _)) ?_
  refine d_336 hl hq fun hl=>?_
  refine c_751 lr hr hp ?_
  refine CallOK.pick (.tail .head) ?_
  exact c_1009p hgs rfl hf fun _=>h hl
theorem w_865 {d:V} {gr:Addr} {tb pu sy:V} {nm s u:List Nat} (hm:IsNm nm) (hs:Sp1 s) (hu:nsp u=true) (u1:[34].isPrefixOf u=false) (u2:[39].isPrefixOf u=false) (ho:Out t u r false pu sy) (hl:Lf t (nm++(s++u)))
  (h:wS (cok (XX B) (n+8) R) i_865.nx.nx.nx.nx.nx.nx.nx (.c (rdrV tb d (.ref gr)) (.c (.ref a) (.s (.bool false) (.s (.str nm) (.s pu (.s sy (.s .none .n))))))) ((a,scR t r)::σ) (retK Q)):CallOK (XX B) (n+9) (.ref 865) [rdrV tb d (.ref gr),.ref a] ((a,scR t (nm++(s++u)))::σ) Q R:=by
 refine ok_865.go rfl ?_
 refine .mk (.ref (.head _)) ?_
 refine d_280F hl (hm.hd rfl) ?_
 refine .mk ?_
 refine .mk (.ref (.head _)) ?_
 refine d_322 hl hm hs.nnc fun hl=>?_
 refine .mk (.ref (.head _)) ?_
 refine d_301 hl hs.sps hs.ne hu fun hl=>?_
 refine .mk (.ref (.head _)) ?_
 refine d_273 (.head _) hl u1 ?_
 refine .mk ?_
 refine .mk (.ref (.head _)) ?_
 refine d_273 (.head _) hl u2 ?_
 refine .mk ?_
 refine ho ?_
 exact h
theorem c_865s {d:V} {gr:Addr} {ou g p:Addr} {pu sy:V} {nm s u e:List Nat} {gs:List (List Nat×V)} (hm:IsNm nm) (hn1:nm.length≤1) (hs:Sp1 s) (hu:nsp u=true) (u1:[34].isPrefixOf u=false) (u2:[39].isPrefixOf u=false) (ho:Out t u e false pu sy) (he:Sps e) (hy:hv sy=true) (hgs:gs.length≤1000) (hl:Lf t (nm++(s++u))) (hl2:Lf t e)
  (h:Q .none ((g,.dict (dnew gs nm (entV (.str nm) .none sy .none)))::(a,scR t [])::σ)):CallOK (XX B) (n+9) (.ref 865) [rdrV (tabV ou g p) d (.ref gr),.ref a] ((a,scR t (nm++(s++u)))::(g,.dict gs)::σ) Q R:=by
 refine w_865 hm hs hu u1 u2 ho hl ?_
 refine .mk (.ref (.head _)) ?_
 refine d_294e hl2 he ?_
 have fin:CallOK (XX B) (n+8) (.ref 1009) [tabV ou g p,.bool false,.str nm,.none,sy,.none] ((a,scR t [])::(g,.dict gs)::σ) (fun _ σ=>Q .none σ) R:=CallOK.pick (.tail .head) (c_1009g hgs rfl hy rfl hn1 fun _=>h)
 refine ifd (fun _=>?_) fun _=>.mk fin
 refine .mk (.ref (.head _)) ?_
 refine d_280F hl2.nil rfl ?_
 exact .mk fin
theorem c_865n {d:V} {gr:Addr} {ou g p:Addr} {pu sy:V} {nm s u s2 s3 m:List Nat} {gs:List (List Nat×V)} (hm:IsNm nm) (hn1:nm.length≤1) (hs:Sp1 s) (hu:nsp u=true) (u1:[34].isPrefixOf u=false) (u2:[39].isPrefixOf u=false) (h2:Sp1 s2) (h3:Sp1 s3) (hm2:IsNm m) (hr:nnc r=true) (ho:Out t u (s2++([78,68,65,84,65]++(s3++(m++r)))) false pu sy) (hy:hv sy=true) (hgs:gs.length≤1000) (hl:Lf t (nm++(s++u))) (hl2:Lf t (s2++([78,68,65,84,65]++(s3++(m++r)))))
  (h:Q .none ((g,.dict (dnew gs nm (entV (.str nm) .none sy (.str m))))::(a,scR t r)::σ)):CallOK (XX B) (n+9) (.ref 865) [rdrV (tabV ou g p) d (.ref gr),.ref a] ((a,scR t (nm++(s++u)))::(g,.dict gs)::σ) Q R:=by
 refine w_865 hm hs hu u1 u2 ho hl ?_
 refine .mk (.ref (.head _)) ?_
 refine d_294 hl2 h2.sps rfl fun hl=>?_
 refine ifT (Int.ofNat_lt.mpr (List.length_pos_iff.mpr h2.ne)) ?_
 refine .mk (.ref (.head _)) ?_
 refine d_280T hl fun hl=>?_
 refine .mk (.mk ?_)
 refine .mk (.ref (.head _)) ?_
 refine d_301 hl h3.sps h3.ne hm2.toIsTk.nsp fun hl=>?_
 refine .mk (.ref (.head _)) ?_
 refine d_322 hl hm2 hr fun hl=>?_
 refine CallOK.pick (.tail .head) ?_
 exact c_1009g hgs rfl hy rfl hn1 fun _=>h
theorem dget_cons {p:List Nat×V} {es:List (List Nat×V)} {k:List Nat}:dget (p::es) k=cond (p.1==k) (some p.2) (dget es k):=by
 unfold dget
 rw [List.find?_cons]
 cases p.1==k<;>rfl
theorem dget_app {es fs:List (List Nat×V)} {k:List Nat} (h:dget es k=none):dget (es++fs) k=dget fs k:=by
 induction es with
 | nil=>rfl
 | cons p es ih=>
  rw [dget_cons] at h
  show dget (p::(es++fs)) k=_
  rw [dget_cons]
  cases e:p.1==k with
  | true=>rw [e] at h;cases h
  | false=>rw [e] at h;exact ih h
theorem dset_new {es:List (List Nat×V)} {k:List Nat} {v:V} (h:dget es k=none):dset es k v=es++[(k,v)]:=by
 unfold dset
 refine if_neg fun e=>?_
 obtain ⟨p,hp,e⟩:=List.any_eq_true.mp e
 exact List.find?_eq_none.mp (Option.map_eq_none_iff.mp h) p hp e
theorem dnew_len {es:List (List Nat×V)} {k:List Nat} {v:V}:(dnew es k v).length≤es.length+1:=by
 unfold dnew
 cases e:(dget es k).isSome with
 | true=>exact Nat.le_succ _
 | false=>
  refine Nat.le_of_eq ?_
  show (dset es k v).length=_
  rw [dset_new (Option.isNone_iff_eq_none.mp (Option.isSome_eq_false_iff.mp e)),List.length_append];rfl
noncomputable abbrev AttS:=List (List Nat×Addr×List (List Nat×V))
noncomputable def aD (A:AttS):List (List Nat×V):=A.map fun a=>(a.1,.ref a.2.1)
noncomputable def aS:AttS→Store→Store
 | [],σ=>σ
 | a::A,σ=>(a.2.1,.dict a.2.2)::aS A σ
noncomputable def aN (A:AttS):Nat:=(A.map fun a=>a.2.2.length+1).sum
inductive Aput (el nm:List Nat) (v:V):AttS→AttS→Prop
 | new {A x}:dget (aD A) el=none→Aput el nm v A (A++[(el,x,[(nm,v)])])
 | old {A1 A2 x rs}:dget (aD A1) el=none→Aput el nm v (A1++(el,x,rs)::A2) (A1++(el,x,dnew rs nm v)::A2)
theorem aN_app {A1 A2:AttS}:aN (A1++A2)=aN A1+aN A2:=by unfold aN;rw [List.map_append,List.sum_append]
theorem aN_cons {A:AttS} {el:List Nat} {x:Addr} {rs:List (List Nat×V)}:aN ((el,x,rs)::A)=rs.length+1+aN A:=List.sum_cons
theorem aN_len:∀ {A:AttS},(aD A).length≤aN A
 | []=>Nat.le_refl _
 | (_,_,_)::A=>by
  rw [aN_cons,Nat.add_comm]
  exact Nat.add_le_add aN_len (Nat.le_add_left 1 _)
theorem Aput.len {el nm:List Nat} {v:V} {A A':AttS} (h:Aput el nm v A A'):aN A'≤aN A+2:=by
 cases h with
 | new=>exact Nat.le_of_eq aN_app
 | @old A1 A2 x rs=>
  rw [aN_app,aN_app,aN_cons,aN_cons]
  have:=dnew_len (es:=rs) (k:=nm) (v:=v)
  omega
inductive ASp (el:List Nat):AttS→Prop
 | no {A}:dget (aD A) el=none→ASp el A
 | yes {A1 x rs A2}:dget (aD A1) el=none→ASp el (A1++(el,x,rs)::A2)
theorem ASp.of {el:List Nat}:∀ A:AttS,ASp el A
 | []=>.no rfl
 | (k,x,rs)::A=>by
  cases e:k==el with
  | true=>cases eq_of_beq e;exact .yes (A1:=[]) rfl
  | false=>
   have ne:∀ {A:AttS},dget (aD A) el=none→dget (aD ((k,x,rs)::A)) el=none:=fun h=>dget_cons.trans ((congrArg (fun b=>cond b _ _) e).trans h)
   cases ASp.of (el:=el) A with
   | no h=>exact .no (ne h)
   | yes h=>exact .yes (A1:=(k,x,rs)::_) (ne h)
theorem aS_pick {el:List Nat} {x:Addr} {rs:List (List Nat×V)} {A2:AttS}:∀ {A1:AttS},Pick (x,.dict rs) (aS (A1++(el,x,rs)::A2) σ) (aS (A1++A2) σ)
 | []=>.head
 | _::_=>.tail aS_pick
theorem aS_put {el:List Nat} {x:Addr} {rs:List (List Nat×V)} {A2:AttS}:∀ {A1:AttS},Into ((x,.dict rs)::aS (A1++A2) σ) (aS (A1++(el,x,rs)::A2) σ)
 | []=>.refl
 | _::_=>.take (.tail .head) aS_put
theorem aS_new {el:List Nat} {x:Addr} {rs:List (List Nat×V)}:∀ {A:AttS},Into ((x,.dict rs)::aS A σ) (aS (A++[(el,x,rs)]) σ)
 | []=>.refl
 | _::_=>.take (.tail .head) aS_new
theorem aS_in {b:Addr×AObj}:∀ {A:AttS},Into (b::aS A σ) (aS A (b::σ))
 | []=>.refl
 | _::_=>.take (.tail .head) aS_in
theorem aS_out {b:Addr×AObj}:∀ {A:AttS},Pick b (aS A (b::σ)) (aS A σ)
 | []=>.head
 | _::_=>.tail aS_out
theorem c_484 {b:Addr×AObj} {e tt o:Addr} {y M:V} {el nm:List Nat} {A:AttS} (hs:aN A≤1000) (h:∀ A',Aput el nm M A A'→Q .none (b::(tt,.dict (aD A'))::aS A' σ)):CallOK (XX B) (n+1) (.ref 484) [dtdV y e tt o,.str el,.str nm,M] (b::(tt,.dict (aD A))::aS A σ) Q R:=by
 refine CallOK.into (CallOK.pick (.tail .head) ?_)
 cases ASp.of (el:=el) A with
 | no hA=>
  refine c_484a (Nat.le_trans aN_len hs) hA fun x=>?_
  refine .mk (.take (.tail (.tail .head)) (.take (.tail .head) aS_new)) ((congrArg (fun d=>Q .none (b::(tt,.dict d)::aS (A++[(el,x,[(nm,M)])]) σ)) ?_).mp (h _ (.new hA)))
  exact List.map_append.trans (dset_new hA).symm
 | @yes A1 x rs A2 hA=>
  refine CallOK.pre (.take .head (.take (.tail aS_pick) .refl)) ?_
  have e1:∀ rs',aD (A1++(el,x,rs')::A2)=aD A1++(el,.ref x)::aD A2:=fun _=>List.map_append
  refine c_484b (Nat.le_trans (Nat.le_trans ?_ (Nat.le_of_eq aN_app.symm)) hs) ((congrArg (dget · el) (e1 rs)).trans ((dget_app hA).trans (dget_cons.trans (congrArg (fun b=>cond b _ _) (beq_self_eq_true el))))) ?_
  ·rw [aN_cons];omega
  ·refine .mk (.take (.tail (.tail .head)) (.take .head aS_put)) ((congrArg (fun d=>Q .none (b::(tt,.dict d)::aS (A1++(el,x,dnew rs nm M)::A2) σ)) ?_).mp (h _ (.old hA)))
   exact (e1 _).trans (e1 _).symm
def Dft (k u r md:List Nat) (v:V):Prop:=∀ {B:Bun} {n:Nat} {tb d:V} {gr a:Addr} {t:List Nat} {σ:Store} {Q:VK} {R:Prop},Lf t u→(Lf t r→Q (.tup [.str md,v]) ((a,scR t r)::σ))→CallOK (XX B) (n+8) (.ref 858) [rdrV tb d (.ref gr),.ref a,.str k] ((a,scR t u)::σ) Q R
inductive Att1:List Nat→List Nat→List Nat→V→Prop
 | mk {s nm s2 told k s3 u r md:List Nat} {cs:List V} {v:V}:Sp1 s→IsNm nm→Sp1 s2→KndT told k cs→Sp1 s3→nsp u=true→Dft k u r md v→hv v=true→Att1 (s++(nm++(s2++(told++(s3++u))))) r nm (arule (.str k) (.tup cs) (.str md) v)
inductive Atts:List Nat→List (List Nat×V)→Prop
 | nil {e:List Nat}:Sps e→Atts e []
 | cons {T r nm:List Nat} {v:V} {L}:Att1 T r nm v→Atts r L→Atts T ((nm,v)::L)
def effA (el:List Nat):List (List Nat×V)→AttS→(AttS→Prop)→Prop
 | [],A,F=>F A
 | p::L,A,F=>∀ A',Aput el p.1 p.2 A A'→effA el L A' F
theorem KndT.nsp {told k r:List Nat} {cs:List V} (h:KndT told k cs):nsp (told++r)=true:=by cases h<;>rfl
theorem Atts.nnc {T:List Nat} {L:List (List Nat×V)} (h:Atts T L):nnc T=true:=by
 cases h with
 | nil h=>exact h.nnc
 | cons h _=>cases h with | mk h=>exact h.nnc
theorem IsNm.no {m r:List Nat} (h:IsNm m):(m++r).isEmpty=false:=by
 obtain ⟨⟨h1,_⟩,_⟩:=h
 cases m with
 | nil=>exact absurd rfl h1
 | cons c m=>rfl
theorem c_851 {tb y:V} {e tt o gr:Addr} {el T:List Nat} {A:AttS} {L:List (List Nat×V)} (hm:IsNm el) (hL:Atts T L) (hl:Lf t (el++T)) (hA:aN A+2 * L.length≤1000) (h:effA el L A fun A'=>Q .none ((a,scR t [])::(tt,.dict (aD A'))::aS A' σ)) :
  CallOK (XX B) (n+9) (.ref 851) [rdrV tb (dtdV y e tt o) (.ref gr),.ref a] ((a,scR t (el++T))::(tt,.dict (aD A))::aS A σ) Q R:=by
 refine ok_851.go rfl ?_
 refine .mk (.ref (.head _)) ?_
 refine d_322 hl hm hL.nnc fun hl=>?_
 refine .mk fun J hJ=>?_
 have go:∀ {L:List (List Nat×V)} {T:List Nat} {A:AttS} {o1 o2 o3 o4 o5:Option V},Atts T L→Lf t T→aN A+2 * L.length≤1000→(effA el L A fun A'=>Q .none ((a,scR t [])::(tt,.dict (aD A'))::aS A' σ))→J (.c (rdrV tb (dtdV y e tt o) (.ref gr)) (.c (.ref a) (.s (.str el) (.o o1 (.o o2 (.o o3 (.o o4 (.o o5 .n)))))))) ((a,scR t T)::(tt,.dict (aD A))::aS A σ):=by
  intro L
  induction L with
  | nil=>
   intro T A o1 o2 o3 o4 o5 hL hl hA h
   cases hL with
   | nil hs=>
    refine hJ _ _ ?_
    refine .mk (.ref (.head _)) ?_
    refine d_294e hl hs ?_
    refine ifd (fun _=>?_) fun _=>.mk h
    refine .mk (.ref (.head _)) ?_
    refine d_266 (.head _) hl.nil ?_
    exact .mk h
  | cons p L ih=>
   intro T A o1 o2 o3 o4 o5 hL hl hA h
   cases hL with
   | cons h1 h2=>
    cases h1 with
    | mk k1 k2 k3 k4 k5 k6 k7 k8=>
     refine hJ _ _ ?_
     refine .mk (.ref (.head _)) ?_
     refine d_294 hl k1.sps k2.toIsTk.nsp fun hl=>?_
     refine ifT (Int.ofNat_lt.mpr (List.length_pos_iff.mpr k1.ne)) ?_
     refine .mk (.ref (.head _)) ?_
     refine d_266 (.head _) hl ?_
     refine ifNT k2.no ?_
     refine .mk (.ref (.head _)) ?_
     refine d_322 hl k2 k3.nnc fun hl=>?_
     refine .mk (.ref (.head _)) ?_
     refine d_301 hl k3.sps k3.ne k4.nsp fun hl=>?_
     refine c_893 k4 k5 hl fun hl=>?_
     refine .mk (.ref (.head _)) ?_
     refine d_301 hl k5.sps k5.ne k6 fun hl=>?_
     refine k7 hl fun hl=>?_
     refine c_143 rfl rfl k8 ?_
     refine c_484 (Nat.le_trans (Nat.le_add_right ..) hA) fun A' hA'=>?_
     refine ih h2 hl ?_ (h A' hA')
     have:=hA'.len
     rw [List.length_cons] at hA
     omega
 exact go hL hl hA h
structure RdS where
 es:List (List Nat×V)
 A:AttS
 os:List (List Nat×V)
 gs:List (List Nat×V)
 ps:List (List Nat×V)
 z:Nat
 ol:List V
structure Ad where
 e:Addr
 t:Addr
 o:Addr
 ou:Addr
 g:Addr
 p:Addr
 gr:Addr
 op:Addr
 rt:V
noncomputable abbrev Ad.tab (Z:Ad):V:=tabV Z.ou Z.g Z.p
noncomputable abbrev Ad.dtd (Z:Ad):V:=dtdV Z.rt Z.e Z.t Z.o
noncomputable abbrev Ad.rd (Z:Ad):V:=rdrV Z.tab Z.dtd (.ref Z.gr)
noncomputable abbrev stS (Z:Ad) (S:RdS) (σ:Store):Store:=(Z.e,.dict S.es)::(Z.o,.dict S.os)::(Z.g,.dict S.gs)::(Z.p,.dict S.ps)::(Z.gr,groO S.z Z.op)::(Z.op,.list S.ol)::(Z.t,.dict (aD S.A))::aS S.A σ
noncomputable def RdS.sz (S:RdS):Nat:=S.es.length+aN S.A+S.os.length+S.gs.length+S.ps.length
inductive Rw where
 | el (nm:List Nat) (M:V)
 | att (el nm k:List Nat) (cs:List V) (md:List Nat) (v:V)
 | en (nm:List Nat) (v s nt:V)
 | no (nm:List Nat) (p s:V)
def eff1 (R:Prop):Rw→RdS→(RdS→Prop)→Prop
 | .el nm M,S,F=>newW (F { S with es:=dset S.es nm M }) R (dget S.es nm)
 | .att el nm k cs md v,S,F=>∀ A',Aput el nm (arule (.str k) (.tup cs) (.str md) v) S.A A'→F { S with A:=A' }
 | .en nm v s nt,S,F=>F { S with gs:=dnew S.gs nm (entV (.str nm) v s nt) }
 | .no nm p s,S,F=>newW (F { S with os:=dset S.os nm (notat (.str nm) p s) }) R (dget S.os nm)
def eff:List Rw→Prop→RdS→(RdS→Prop)→Prop
 | [],_,S,F=>F S
 | r::rs,R,S,F=>eff1 R r S fun S=>eff rs R S F
inductive Par (nm v:List Nat) (R:Prop) (S:RdS) (F:RdS→Prop):Prop
 | mk:dget S.ps nm=none→F { S with ps:=dset S.ps nm (entV (.str nm) (.str v) .none .none) }→Par nm v R S F
noncomputable def rem837:IS:=i_837.lk.nx.nx.nx.nx
noncomputable abbrev ρ837 (Z:Ad) (sc:Addr) (p e:Int) (W:List Nat) (k:Option V) (inn:Addr):LV:=.c Z.rd (.c (.ref sc) (.c (.int p) (.s (.int e) (.s (.str W) (.o k (.s (.ref inn) .n))))))
def Inn (W X:List Nat) (E:Prop→RdS→(RdS→Prop)→Prop):Prop:=∀ {B:Bun} {n:Nat} {R:Prop} {σ:Store} {Q:VK} {Z:Ad} {S:RdS} {t tx rest:List Nat} {sc inn:Addr} {p:Nat} {e:Int} {k:Option V},S.sz≤900→Lf t X→E R S (fun S'=>Q .none ((sc,scR tx rest)::stS Z S' σ)) →
 wS (cok (XX B) (n+10) R) rem837 (ρ837 Z sc p e W k inn) ((inn,scR t X)::(sc,scR tx rest)::stS Z S σ) (retK fun y σ=>IntoE Q y σ)
theorem newW.imp {P P' R:Prop} {o:Option V} (h:newW P R o) (f:P→P'):newW P' R o:=by
 cases o with
 | none=>exact f h
 | some _=>exact h
noncomputable abbrev eltW:List Nat:=[60,33,69,76,69,77,69,78,84]
noncomputable abbrev attW:List Nat:=[60,33,65,84,84,76,73,83,84]
noncomputable abbrev entW:List Nat:=[60,33,69,78,84,73,84,89]
noncomputable abbrev notW:List Nat:=[60,33,78,79,84,65,84,73,79,78]
theorem RdS.le {S:RdS} (h:S.sz≤900) {k:Nat} (e:k≤S.sz):k≤1000:=Nat.le_trans e (Nat.le_trans h (lbt rfl))
theorem RdS.nA {S:RdS}:S.es.length+aN S.A≤S.sz:=Nat.le_trans (Nat.le_add_right ..) (Nat.le_trans (Nat.le_add_right ..) (Nat.le_add_right ..))
theorem RdS.no {S:RdS}:S.os.length≤S.sz:=Nat.le_trans (Nat.le_add_left ..) (Nat.le_trans (Nat.le_add_right ..) (Nat.le_add_right ..))
theorem RdS.ng {S:RdS}:S.gs.length≤S.sz:=Nat.le_trans (Nat.le_add_left ..) (Nat.le_add_right ..)
theorem Pick.mid {b:Addr×AObj}:∀ {l:Store},Pick b (l++b::σ) (l++σ)
 | []=>.head
 | _::_=>.tail Pick.mid
theorem aS_ins {l:Store}:∀ {A:AttS},Into (l++aS A σ) (aS A (l++σ))
 | []=>.refl
 | _::_=>.take Pick.mid aS_ins
theorem effA.imp {el:List Nat} {F F':AttS→Prop} (f:∀ A,F A→F' A):∀ {L:List (List Nat×V)} {A:AttS},effA el L A F→effA el L A F'
 | [],_,h=>f _ h
 | _::_,_,h=>fun A' hA=>effA.imp f (h A' hA)
theorem Inn.elem {nm s m e:List Nat} {M:V} (hm:IsNm nm) (hs:Sp1 s) (hv:Mdl m M) (he:Sps e):Inn eltW (nm++(s++(m++e))) (eff [.el nm M]):=fun {B n R σ Q Z S t tx rest sc inn p _ k} hS hl h=>by
 refine .mk ?_
 refine CallOK.pick (.tail (.tail .head)) (CallOK.pick (.tail .head) ?_)
 refine c_844 hm hs hv he (RdS.le hS (Nat.le_trans (Nat.le_add_right ..) RdS.nA)) hl (newW.imp h fun h=>?_)
 refine .mk (.ref (.tail _ (.head _))) ?_
 refine CallOK.pick (.tail .head) ?_
 refine d_343 hl.nil (fun _ h=>nomatch h) ?_
 exact .mk (.drop (.take (.tail .head) .refl)) h
theorem Inn.att {el T:List Nat} {L:List (List Nat×V)} {rs:List Rw} (hm:IsNm el) (hL:Atts T L) (hn:L.length≤2) (hrs:∀ {R:Prop} {S:RdS} {F:RdS→Prop},eff rs R S F→effA el L S.A fun A'=>F { S with A:=A' }):Inn attW (el++T) (eff rs):=fun {B n R σ Q Z S t tx rest sc inn p _ k} hS hl h=>by
 refine .mk (.mk ?_)
 refine CallOK.pre (τ:=(inn,scR t (el++T))::(Z.t,.dict (aD S.A))::aS S.A ((sc,scR tx rest)::(Z.e,.dict S.es)::(Z.o,.dict S.os)::(Z.g,.dict S.gs)::(Z.p,.dict S.ps)::(Z.gr,groO S.z Z.op)::(Z.op,.list S.ol)::σ)) (.take .head (.take (.tail (.tail (.tail (.tail (.tail (.tail (.tail .head))))))) (aS_ins (l:=[_,_,_,_,_,_,_])))) ?_
 refine c_851 (n:=n+1) hm hL hl ?_ ?_
 ·have:=RdS.nA (S:=S)
  omega
 have:effA el L S.A fun A'=>Q .none ((sc,scR tx rest)::stS Z { S with A:=A' } σ):=hrs h
 refine effA.imp (fun A' h=>?_) this
 refine .mk (.ref (.head _)) ?_
 refine d_343 hl.nil (fun _ h=>nomatch h) ?_
 exact .mk (.drop (.take (.tail aS_out) (.take (.tail aS_out) (.take (.tail aS_out) (.take (.tail aS_out) (.take (.tail aS_out) (.take (.tail aS_out) (.take (.tail aS_out) .refl)))))))) h
structure OutT (u r:List Nat) (b:Bool) (pu sy:V):Prop where
 o:∀ {t:List Nat},Lf t u→Out t u r b pu sy
 l:∀ {t:List Nat},Lf t u→Lf t r
 ns:nsp u=true
 n1:[34].isPrefixOf u=false
 n2:[39].isPrefixOf u=false
 hp:hv pu=true
 hy:hv sy=true
theorem OutT.s {s q x r:List Nat} {b:Bool} (hs:Sp1 s) (hq:Quo q x):OutT (sysW++(s++(q++(x++(q++r))))) r b .none (.str x):=
 ⟨fun hl=>fun h=>c_900s hs hq hl fun _=>h,fun hl=>hl.right.right.right.right.right,rfl,rfl,rfl,rfl,rfl⟩
theorem OutT.p {s q x s' q' x' r:List Nat} {b:Bool} (hs:Sp1 s) (hq:Quo q x) (hx:x.all pubC=true) (hs':Sp1 s') (hq':Quo q' x'):OutT (pubW++(s++(q++(x++(q++(s'++(q'++(x'++(q'++r))))))))) r b (.str (collap x)) (.str x'):=
 ⟨fun hl=>fun h=>c_900p hs hq hx hs' hq' hl fun _=>h,fun hl=>hl.right.right.right.right.right.right.right.right.right,rfl,rfl,rfl,rfl,rfl⟩
theorem OutT.z {s q x e:List Nat} (hs:Sp1 s) (hq:Quo q x) (hx:x.all pubC=true) (he:Sps e):OutT (pubW++(s++(q++(x++(q++e))))) e true (.str (collap x)) .none:=
 ⟨fun hl=>fun h=>c_900n hs hq hx he hl fun _=>h,fun hl=>hl.right.right.right.right.right,rfl,rfl,rfl,rfl,rfl⟩
theorem Inn.nota {nm s u e:List Nat} {pu sy:V} (hm:IsNm nm) (hs:Sp1 s) (ho:OutT u e true pu sy) (he:Sps e):Inn notW (nm++(s++u)) (eff [.no nm pu sy]):=fun {B n R σ Q Z S t tx rest sc inn p _ k} hS hl h=>by
 refine .mk (.mk (.mk ?_))
 refine CallOK.pick (.tail (.tail (.tail .head))) (CallOK.pick (.tail .head) ?_)
 refine c_872 (n:=n+1) hm hs ho.ns (ho.o hl.right.right) ho.hp ho.hy (RdS.le hS RdS.no) hl (newW.imp h fun h=>?_)
 refine .mk (.ref (.tail _ (.head _))) ?_
 refine CallOK.pick (.tail .head) ?_
 refine d_343 (ho.l hl.right.right) he ?_
 exact .mk (.drop (.take (.tail .head) (.take (.tail .head) .refl))) h
theorem Inn.entl {nm s q raw e:List Nat} {ps:List (List Nat)} (hm:IsNm nm) (h1:nm.length≤1) (hs:Sp1 s) (hq:Quo q raw) (hr:LT raw ps) (hp:(ps.map List.length).sum+ps.length≤1000000) (he:Sps e):Inn entW (nm++(s++(q++(raw++(q++e))))) (eff [.en nm (.str (ljoin [] ps)) .none .none]):=fun {B n R σ Q Z S t tx rest sc inn p _ k} hS hl h=>by
 refine .mk (.mk (.mk ?_))
 refine CallOK.pick (.tail (.tail (.tail (.tail .head)))) (CallOK.pick (.tail .head) ?_)
 refine c_865v (n:=n+1) hm h1 hs hq hr hp (RdS.le hS RdS.ng) hl fun hl=>?_
 refine .mk (.ref (.tail _ (.head _))) ?_
 refine CallOK.pick (.tail .head) ?_
 refine d_343 hl he ?_
 exact .mk (.drop (.take (.tail .head) (.take (.tail .head) (.take (.tail .head) .refl)))) h
theorem Inn.par {s0 nm s q raw e:List Nat} {ps:List (List Nat)} (h0:Sp1 s0) (hm:IsNm nm) (hs:Sp1 s) (hq:Quo q raw) (hr:LT raw ps) (hp:(ps.map List.length).sum+ps.length≤1000000) (he:Sps e):Inn entW ([37]++(s0++(nm++(s++(q++(raw++(q++e))))))) (Par nm (ljoin [] ps)):=fun {B n R σ Q Z S t tx rest sc inn p _ k} hS hl h=>by
 obtain ⟨hf,h⟩:=h
 refine .mk (.mk (.mk ?_))
 refine CallOK.pick (.tail (.tail (.tail (.tail (.tail .head))))) (CallOK.pick (.tail .head) ?_)
 refine c_865p (n:=n+1) h0 hm hf hs hq hr hp (RdS.le hS (Nat.le_add_left ..)) hl fun hl=>?_
 refine .mk (.ref (.tail _ (.head _))) ?_
 refine CallOK.pick (.tail .head) ?_
 refine d_343 hl he ?_
 exact .mk (.drop (.take (.tail .head) (.take (.tail .head) (.take (.tail .head) (.take (.tail .head) .refl))))) h
theorem Inn.ents {nm s u e:List Nat} {pu sy:V} (hm:IsNm nm) (h1:nm.length≤1) (hs:Sp1 s) (ho:OutT u e false pu sy) (he:Sps e):Inn entW (nm++(s++u)) (eff [.en nm .none sy .none]):=fun {B n R σ Q Z S t tx rest sc inn p _ k} hS hl h=>by
 refine .mk (.mk (.mk ?_))
 refine CallOK.pick (.tail (.tail (.tail (.tail .head)))) (CallOK.pick (.tail .head) ?_)
 refine c_865s (n:=n+1) hm h1 hs ho.ns ho.n1 ho.n2 (ho.o hl.right.right) he ho.hy (RdS.le hS RdS.ng) hl (ho.l hl.right.right) ?_
 refine .mk (.ref (.tail _ (.head _))) ?_
 refine CallOK.pick (.tail .head) ?_
 refine d_343 hl.nil (fun _ h=>nomatch h) ?_
 exact .mk (.drop (.take (.tail .head) (.take (.tail .head) (.take (.tail .head) .refl)))) h
theorem Inn.entn {nm s u s2 s3 m e:List Nat} {pu sy:V} (hm:IsNm nm) (h1:nm.length≤1) (hs:Sp1 s) (h2:Sp1 s2) (h3:Sp1 s3) (hm2:IsNm m) (ho:OutT u (s2++([78,68,65,84,65]++(s3++(m++e)))) false pu sy) (he:Sps e):Inn entW (nm++(s++u)) (eff [.en nm .none sy (.str m)]):=fun {B n R σ Q Z S t tx rest sc inn p _ k} hS hl h=>by
 refine .mk (.mk (.mk ?_))
 refine CallOK.pick (.tail (.tail (.tail (.tail .head)))) (CallOK.pick (.tail .head) ?_)
 have hl2:=ho.l hl.right.right
 refine c_865n (n:=n+1) hm h1 hs ho.ns ho.n1 ho.n2 h2 h3 hm2 he.nnc (ho.o hl.right.right) ho.hy (RdS.le hS RdS.ng) hl hl2 ?_
 refine .mk (.ref (.tail _ (.head _))) ?_
 refine CallOK.pick (.tail .head) ?_
 refine d_343 hl2.right.right.right.right he ?_
 exact .mk (.drop (.take (.tail .head) (.take (.tail .head) (.take (.tail .head) .refl)))) h
theorem mem_p {α:Type} {p:α→Bool} {L:List α} {x:α} (e:L.all p=true) (h:x∈L):p x=true:=List.all_eq_true.mp e x h
noncomputable def dcls:List (List Nat):=[eltW,attW,entW,notW]
theorem words {q:QK} {Z:Ad} {sc:Addr} {p e:Int} {tx:List Nat} (hl:Lf tx r) (hm:(sc,scR tx r)∈σ):∀ (ws:List (List Nat)) (w:List Nat) (k:Option V),(∀ k,q.nx (.c Z.rd (.c (.ref sc) (.c (.int p) (.s (.int e) (.s (.str (ws.foldl (fun w k=>cond (k.isPrefixOf r) k w) w)) (.o k (.o none .n))))))) σ) →
  ForI (wS (cok (XX B) (n+1) R) i_837.lb) (.nm 5) q (ws.map .str) (.c Z.rd (.c (.ref sc) (.c (.int p) (.s (.int e) (.s (.str w) (.o k (.o none .n))))))) σ
 | [],w,k,h=>h k
 | x::ws,w,k,h=>by
  refine .mk (.ref hm) ?_
  refine d_273 hm hl rfl ?_
  refine ifb (fun e=>?_) fun e=>?_
  ·exact words hl hm ws x _ (by rw [List.foldl_cons,e] at h;exact h)
  ·exact words hl hm ws w _ (by rw [List.foldl_cons,e] at h;exact h)
theorem CallOK.a1 {X:Cx} {f:Value} {x y:List Nat} {ys:List V} (e:x=y) (h:CallOK X n f (.str y::ys) σ Q R):CallOK X n f (.str x::ys) σ Q R:=e▸h
theorem c_837 {Z:Ad} {W Bd X tx rest:List Nat} {sc:Addr} {σ₀:Store} (hW:W∈dcls) (hXl:X.length≤1000000) (hl:Lf tx (W++(Bd++([62]++rest)))) (hB:dend [] (W++(Bd++([62]++rest)))=some rest)
  (hput:∀ {Q':VK},Q' (.str X) ((sc,scR tx (W++(Bd++([62]++rest))))::σ)→CallOK (XX B) (n+10) (.ref 788) [.str Bd,Z.tab,.ref Z.gr] ((sc,scR tx (W++(Bd++([62]++rest))))::σ₀) Q' R)
  (h:∀ {p:Nat} {e:Int} {k inn},Lf tx rest→Lf X X→wS (cok (XX B) (n+10) R) i_837.lk.nx.nx.nx (ρ837 Z sc p e W k inn) ((inn,scR X X)::(sc,scR tx rest)::σ) (retK fun y σ=>IntoE Q y σ)) :
  CallOK (XX B) (n+11) (.ref 837) [Z.rd,.ref sc,.int (tx.length - (W++(Bd++([62]++rest))).length:Nat)] ((sc,scR tx (W++(Bd++([62]++rest))))::σ₀) Q R:=by
 refine CallOK.into ?_
 refine ok_837.go rfl ?_
 refine .mk (.ref (.head _)) ?_
 refine c_357 (n:=n+6) hl ((congrArg (dnW _ R) hB).mpr fun hlr=>?_)
 refine .tup ?_
 refine words (n:=n+9) hl (.head _) dcls [] none fun k=>?_
 have eW:dcls.foldl (fun w k=>cond (k.isPrefixOf (W++(Bd++([62]++rest)))) k w) []=W:=eq_of_beq (mem_p (p:=fun W=>dcls.foldl (fun w k=>cond (k.isPrefixOf (W++(Bd++([62]++rest)))) k w) []==W) rfl hW)
 rw [eW]
 refine ifBF (beq_false_of_ne fun e=>by rw [e] at hW;exact absurd hW (by decide)) ?_
 refine .mk (.ref (.head _)) ?_
 refine .lenS (le7 (Nat.le_trans (List.length_append▸Nat.le_add_right ..) (Nat.le_trans hl.len_le hl.len))) ?_
 refine .mk (a:=some _) (b:=some _) rfl rfl (.str (le7 hl.len)) ?_
 have e1:lsl tx (some (((tx.length - (W++(Bd++([62]++rest))).length:Nat):Int)+W.length)) (some (((tx.length - rest.length:Nat):Int) - 1))=Bd:=by
  have e2:=hl.right.right.mv
  rw [hl.mv,← e2,show (([62]:List Nat).length:Int)=1 from rfl,Int.add_sub_cancel]
  exact hl.right.cut
 refine CallOK.a1 e1 (hput ?_)
 refine d_346 hXl fun inn hl2=>?_
 refine .mk rfl (.s .z) (.tail .head) rfl ?_
 exact h hlr hl2
theorem c_823d {Z:Ad} {sc:Addr} {W Bd:List Nat} (hW:W∈dcls) (hl:Lf t (W++Bd)) (h:CallOK (XX B) (n+11) (.ref 837) [Z.rd,.ref sc,.int (t.length - (W++Bd).length:Nat)] ((sc,scR t (W++Bd))::σ) (fun _ σ=>Q .none σ) R):CallOK (XX B) (n+12) (.ref 823) [Z.rd,.ref sc] ((sc,scR t (W++Bd))::σ) Q R:=by
 have no:∀ {x:List Nat},(dcls.all fun W=>!x.isPrefixOf (W++Bd))=true→x.isPrefixOf (W++Bd)=false:=fun e=>Bool.not_eq_true' _ |>.mp (mem_p (p:=fun W=>!List.isPrefixOf _ (W++Bd)) e hW)
 refine ok_823.go rfl ?_
 refine .mk (.ref (.head _)) ?_
 refine .mk (.ref (.head _)) ?_
 refine d_280F hl (no rfl) ?_
 refine .mk ?_
 refine .mk (.ref (.head _)) ?_
 refine d_280F hl (no rfl) ?_
 refine .mk ?_
 refine .mk (.ref (.head _)) ?_
 refine d_273 (.head _) hl (no rfl) ?_
 exact .mk h
theorem c_823c {Z:Ad} {sc:Addr} (hl:Lf t ([60,33,45,45]++([32,62,32,60,33,69,76,69,77,69,78,84,32]++([45,45,62]++r)))) (h:Lf t r→Q .none ((sc,scR t r)::σ)):CallOK (XX B) (n+12) (.ref 823) [Z.rd,.ref sc] ((sc,scR t ([60,33,45,45]++([32,62,32,60,33,69,76,69,77,69,78,84,32]++([45,45,62]++r))))::σ) Q R:=by
 refine ok_823.go rfl ?_
 refine .mk (.ref (.head _)) ?_
 refine .mk (.ref (.head _)) ?_
 refine d_280T hl fun hl=>?_
 refine .mk ?_
 refine .mk (.ref (.head _)) ?_
 refine d_329 hl (by kernel_rfl) fun hl=>?_
 refine .mk ?_
 refine .mk (a:=some (-1)) (b:=none) rfl rfl (.str (lbt rfl)) ?_
 exact .mk (h hl)
theorem c_823i {Z:Ad} {sc:Addr} (hl:Lf t ([60,63]++(103::111::32::62::32::111::110::63::62::r))) (h:Lf t r→Q .none ((sc,scR t r)::σ)):CallOK (XX B) (n+12) (.ref 823) [Z.rd,.ref sc] ((sc,scR t ([60,63]++(103::111::32::62::32::111::110::63::62::r)))::σ) Q R:=by
 refine ok_823.go rfl ?_
 refine .mk (.ref (.head _)) ?_
 refine .mk (.ref (.head _)) ?_
 refine d_280F hl rfl ?_
 refine .mk ?_
 refine .mk (.ref (.head _)) ?_
 refine d_280T hl fun hl=>?_
 refine .mk ?_
 exact c_830 hl h
noncomputable abbrev ρ816 (Z:Ad) (t:List Nat) (lf:Addr) (sc cl:Option V):LV:=.c Z.rd (.c (.str t) (.s (.ref lf) (.o sc (.o cl .n))))
abbrev H816 (c:CP) (q:QK) (J:LV→Store→Prop):Prop:=∀ ρ σ,(wp c (.cmp .NotEq (.loc 2) (.lro .nil))).t ρ σ (whK (wS c i_816.lb) (wS c i_816.lk) ρ q J)→J ρ σ
structure Rds (QF:RdS→Prop) (R:Prop) (r:List Nat) (S:RdS):Prop where
 go:∀ {w:List Nat} {B:Bun} {n:Nat} {σ:Store} {Q:VK} {Z:Ad} {J:LV→Store→Prop} {t tx:List Nat} {s lf:Addr} {sc cl:Option V} {τ:Store},
  Sps w→H816 (cok (XX B) (n+12) R) (retK fun y σ=>IntoE Q y σ) J→(∀ S',QF S'→Q .none (stS Z S' σ))→Lf tx (w++r)→Into τ ((s,scR tx (w++r))::(lf,.list [openV s .none])::stS Z S σ)→J (ρ816 Z t lf sc cl) τ
def One (u r:List Nat) (R:Prop) (S:RdS) (E:(RdS→Prop)→Prop):Prop:=∀ {B:Bun} {n:Nat} {σ:Store} {Q:VK} {Z:Ad} {tx:List Nat} {sc:Addr},Lf tx u→(Lf tx r→E fun S'=>Q .none ((sc,scR tx r)::stS Z S' σ))→CallOK (XX B) (n+12) (.ref 823) [Z.rd,.ref sc] ((sc,scR tx u)::stS Z S σ) Q R
theorem stIn {Z:Ad} {S:RdS} {b:Addr×AObj}:Into (b::stS Z S σ) (stS Z S (b::σ)):=.take (.tail .head) (.take (.tail .head) (.take (.tail .head) (.take (.tail .head) (.take (.tail .head) (.take (.tail .head) (.take (.tail .head) aS_in))))))
theorem stOut {Z:Ad} {S:RdS} {b:Addr×AObj}:Pick b (stS Z S (b::σ)) (stS Z S σ):=.tail (.tail (.tail (.tail (.tail (.tail (.tail aS_out))))))
theorem Sps.app {v w:List Nat} (h:Sps v) (k:Sps w):Sps (v++w):=fun c hc=>(List.mem_append.mp hc).elim (h c) (k c)
theorem Pick.mem {p q:Addr×AObj} {τ:Store} (h:Pick p σ τ):q∈p::τ→q∈σ:=by
 induction h with
 | head=>exact id
 | tail _ ih=>
  intro k
  cases k with
  | head=>exact .tail _ (ih (.head _))
  | tail _ k=>
   cases k with
   | head=>exact .head _
   | tail _ k=>exact .tail _ (ih (.tail _ k))
theorem Into.mem {q:Addr×AObj} {τ:Store} (h:Into σ τ):q∈τ→q∈σ:=by
 induction h with
 | refl=>exact id
 | drop _ ih=>exact fun k=>.tail _ (ih k)
 | take hp _ ih=>exact fun k=>hp.mem (by
   cases k with
   | head=>exact .head _
   | tail _ k=>exact .tail _ (ih k))
structure Hd (u:List Nat):Prop where
 s:nsp u=true
 e:u.isEmpty=false
 p:[37].isPrefixOf u=false
theorem Rds.sp {QF:RdS→Prop} {S:RdS} {s r:List Nat} (hs:Sps s) (h:Rds QF R r S):Rds QF R (s++r) S:=.mk fun {w B n σ Q Z J t tx s' lf sc cl τ} hw hJ hQ hl hτ=>by
 rw [← List.append_assoc] at hl hτ
 exact h.go (hw.app hs) hJ hQ hl hτ
theorem Rds.fin {QF:RdS→Prop} {S:RdS} {s:List Nat} (hs:Sps s) (h:QF S):Rds QF R s S:=.mk fun {w B n σ Q Z J t tx s' lf sc cl τ} hw hJ hQ hl hτ=>by
 refine hJ _ _ ?_
 refine .neN (.ref (hτ.mem (.tail _ (.head _)))) ?_
 refine .mk ?_
 refine .mk (.lst (.ref (hτ.mem (.tail _ (.head _)))) rfl rfl) ?_
 refine .mk (.ref (hτ.mem (.head _))) ?_
 refine CallOK.pre hτ ?_
 refine d_294e hl (hw.app hs) ?_
 refine .mk (.ref (.head _)) ?_
 refine d_266 (.head _) hl.nil ?_
 refine .mk ?_
 refine .mk (.list (.tail _ (.head _))) ?_
 refine .pop (vs:=[]) (.tail .head) (Nat.zero_le _) ?_
 refine .mk ?_
 refine hJ _ _ ?_
 refine .neN (.ref (.tail _ (.head _))) ?_
 exact .mk (.mk (.drop (.drop .refl)) (hQ S h))
theorem Rds.one {QF:RdS→Prop} {S:RdS} {u r:List Nat} {E:(RdS→Prop)→Prop} (hu:Hd u) (h:One u r R S E) (hE:∀ {F F':RdS→Prop},(∀ S,F S→F' S)→E F→E F') (k:E (Rds QF R r)):Rds QF R u S:=.mk fun {w B n σ Q Z J t tx s lf sc cl τ} hw hJ hQ hl hτ=>by
 refine hJ _ _ ?_
 refine .neN (.ref (hτ.mem (.tail _ (.head _)))) ?_
 refine .mk ?_
 refine .mk (.lst (.ref (hτ.mem (.tail _ (.head _)))) rfl rfl) ?_
 refine .mk (.ref (hτ.mem (.head _))) ?_
 refine CallOK.pre hτ ?_
 refine d_294 hl hw hu.s fun hl=>?_
 refine .mk (.ref (.head _)) ?_
 refine d_266 (.head _) hl ?_
 refine ifBF hu.e ?_
 refine .mk (.ref (.head _)) ?_
 refine d_280F hl hu.p ?_
 refine .mk ?_
 refine CallOK.into (CallOK.pre (.take .head stIn) (h hl fun hl=>hE (fun S' k=>?_) k))
 exact .mk (.take .head (.take stOut .refl)) (k.go (w:=[]) (fun _ h=>nomatch h) hJ hQ hl .refl)
structure Dcl (W X s0:List Nat) (E:Prop→RdS→(RdS→Prop)→Prop):Prop where
 w:W∈dcls
 i:Inn W X E
 s:Sp1 s0
 x:nsp X=true
 mo:∀ {R S} {F F':RdS→Prop},(∀ S,F S→F' S)→E R S F→E R S F'
theorem Hd.of {W r:List Nat} (h:W∈dcls):Hd (W++r):=
 ⟨mem_p (p:=fun W=>Mine.nsp (W++r)) rfl h,Bool.not_eq_true' _ |>.mp (mem_p (p:=fun W=>!List.isEmpty (W++r)) rfl h),Bool.not_eq_true' _ |>.mp (mem_p (p:=fun W=>![37].isPrefixOf (W++r)) rfl h)⟩
theorem Dcl.i' {W X s0 tx rest:List Nat} {E:Prop→RdS→(RdS→Prop)→Prop} {S:RdS} {Z:Ad} {sc inn:Addr} {p:Nat} {e:Int} {k:Option V} (h:Dcl W X s0 E) (hS:S.sz≤900) (hl:Lf (s0++X) (s0++X)) (hE:E R S fun S'=>Q .none ((sc,scR tx rest)::stS Z S' σ)) :
  wS (cok (XX B) (n+10) R) i_837.lk.nx.nx.nx (ρ837 Z sc p e W k inn) ((inn,scR (s0++X) (s0++X))::(sc,scR tx rest)::stS Z S σ) (retK fun y σ=>IntoE Q y σ):=by
 refine .mk (.ref (.head _)) ?_
 refine d_301 hl h.s.sps h.s.ne h.x fun hl=>?_
 exact h.i hS hl hE
theorem Dcl.one {W X s0 r:List Nat} {E:Prop→RdS→(RdS→Prop)→Prop} {S:RdS} (h:Dcl W X s0 E) (hS:S.sz≤900) (hX:(s0++X).length≤100000) (hB:dend [] (W++((s0++X)++([62]++r)))=some r) (hn:np (s0++X)=true):One (W++((s0++X)++([62]++r))) r R S (E R S):=fun hl k=>
 c_823d h.w hl (c_837 h.w (Nat.le_trans hX (lbt rfl)) hl hB (fun hq=>c_788a (n:=_+2) hX hn hq) fun hr hl=>h.i' hS hl (k hr))
theorem Rds.dec {QF:RdS→Prop} {W X s0 r:List Nat} {E:Prop→RdS→(RdS→Prop)→Prop} {S:RdS} (h:Dcl W X s0 E) (hS:S.sz≤900) (hX:(s0++X).length≤100000) (hB:dend [] (W++((s0++X)++([62]++r)))=some r) (hn:np (s0++X)=true) (k:E R S (Rds QF R r)):Rds QF R (W++((s0++X)++([62]++r))) S:=
 .one (.of h.w) (h.one hS hX hB hn) h.mo k
theorem Rds.com {QF:RdS→Prop} {S:RdS} {r:List Nat} (h:Rds QF R r S):Rds QF R ([60,33,45,45]++([32,62,32,60,33,69,76,69,77,69,78,84,32]++([45,45,62]++r))) S:=
 .one (E:=fun F=>F S) ⟨rfl,rfl,rfl⟩ (fun hl k=>c_823c hl k) (fun f=>f S) h
theorem Rds.ins {QF:RdS→Prop} {S:RdS} {r:List Nat} (h:Rds QF R r S):Rds QF R ([60,63]++(103::111::32::62::32::111::110::63::62::r)) S:=
 .one (E:=fun F=>F S) ⟨rfl,rfl,rfl⟩ (fun hl k=>c_823i hl k) (fun f=>f S) h
structure Wrong (u:List Nat):Prop where
 h:Hd u
 c:∀ {B:Bun} {n:Nat} {R:Prop} {σ:Store} {Q:VK} {Z:Ad} {tx:List Nat} {sc:Addr},R→Lf tx u→CallOK (XX B) (n+12) (.ref 823) [Z.rd,.ref sc] ((sc,scR tx u)::σ) Q R
theorem Rds.wrong {QF:RdS→Prop} {S:RdS} {u:List Nat} (h:Wrong u) (hR:R):Rds QF R u S:=.one (r:=[]) (E:=fun _=>True) h.h (fun hl _=>h.c hR hl) (fun _ h=>h) trivial
theorem Rds.decx {QF:RdS→Prop} {W X s0 r x m:List Nat} {c:Nat} {E:Prop→RdS→(RdS→Prop)→Prop} {S:RdS} (h:Dcl W X s0 E) (hc:isSp c=true) (hm:IsNm m) (ex:c::32::(x++[32])=s0++X) (ho:S.ol=[]) (hf:dget S.ps m=some (entV (.str m) (.str x) .none .none)) (hnp:np x=true) (hx:x.length≤10000) (hz:S.z+x.length≤100000) (hml:m.length≤1000) (hS:S.sz≤900)
  (hB:dend [] (W++((c::37::(m++([59]++[])))++([62]++r)))=some r) (k:E R { S with z:=S.z+x.length } (Rds QF R r)):Rds QF R (W++((c::37::(m++([59]++[])))++([62]++r))) S:=by
 obtain ⟨es,A,os,gs,ps,z,ol⟩:=S
 cases ho
 refine .one (E:=E R ⟨es,A,os,gs,ps,z+x.length,[]⟩) (.of h.w) (fun {B n σ Q Z tx sc} hl k=>?_) h.mo k
 refine c_823d h.w hl (c_837 (X:=s0++X) (σ:=stS Z ⟨es,A,os,gs,ps,z+x.length,[]⟩ σ) h.w ?_ hl hB (fun {Q'} hq=>?_) fun hr hl=>h.i' hS hl (k hr))
 ·rw [← ex]
  show (x++[32]).length+2≤1000000
  rw [List.length_append]
  exact Nat.le_trans (Nat.add_le_add_right (Nat.add_le_add_right hx _) _) (lbt rfl)
 ·refine CallOK.into (CallOK.pre (.take (.tail (.tail (.tail (.tail (.tail .head))))) (.take (.tail (.tail (.tail (.tail (.tail .head))))) (.take (.tail (.tail (.tail (.tail .head)))) .refl))) (c_788b (n:=n+2) hc hm hf hnp hx hz hml ?_))
  rw [ex]
  exact .mk (.take (.tail (.tail (.tail .head))) (.take (.tail (.tail (.tail .head))) (.take (.tail (.tail (.tail .head))) (.take (.tail (.tail (.tail .head))) (.take (.tail (.tail .head)) .refl))))) hq
inductive Lv (QF:RdS→Prop) (R:Prop) (r:List Nat) (y:V) (S:RdS):Prop
 | mk:S.ol=[y]→Rds QF R r { S with ol:=[] }→Lv QF R r y S
theorem Rds.ref {QF:RdS→Prop} {W X s0 r m x:List Nat} {E:Prop→RdS→(RdS→Prop)→Prop} {S:RdS} (h:Dcl W X s0 E) (hm:IsNm m) (ex:x=W++((s0++X)++([62]++[]))) (ho:S.ol=[]) (hf:dget S.ps m=some (entV (.str m) (.str x) .none .none)) (hx:x.length≤10000) (hz:S.z+x.length≤100000) (hS:S.sz≤900) (hB:dend [] (W++((s0++X)++([62]++[])))=some []) (hn:np (s0++X)=true)
  (k:E R { S with z:=S.z+x.length,ol:=[.str ([37]++m)] } (Lv QF R r (.str ([37]++m)))):Rds QF R ([37]++(m++([59]++r))) S:=.mk fun {w B n σ Q Z J t tx s lf sc cl τ} hw hJ hQ hl hτ=>by
 obtain ⟨es,A,os,gs,ps,z,ol⟩:=S
 cases ho
 have hx':=Nat.le_trans hx (lbt rfl:10000≤100000)
 have hX:(s0++X).length≤100000:=by
  rw [ex,List.length_append,List.length_append (as:=s0++X)] at hx'
  exact Nat.le_trans (Nat.le_add_right ..) (Nat.le_trans (Nat.le_add_left ..) hx')
 refine hJ _ _ ?_
 refine .neN (.ref (hτ.mem (.tail _ (.head _)))) ?_
 refine .mk ?_
 refine .mk (.lst (.ref (hτ.mem (.tail _ (.head _)))) rfl rfl) ?_
 refine .mk (.ref (hτ.mem (.head _))) ?_
 refine CallOK.pre hτ ?_
 refine d_294 hl hw rfl fun hl=>?_
 refine .mk (.ref (.head _)) ?_
 refine d_266 (.head _) hl ?_
 refine .mk ?_
 refine .mk (.ref (.head _)) ?_
 refine d_280T hl fun hl=>?_
 refine .mk ?_
 refine .mk (.list (.tail _ (.head _))) ?_
 refine CallOK.into (CallOK.pre (.take .head (.take (.tail (.tail (.tail (.tail (.tail .head))))) (.take (.tail (.tail (.tail (.tail (.tail .head))))) (.take (.tail (.tail (.tail (.tail .head)))) .refl)))) (c_795 (n:=n+5) hl hm hf hx' hz fun s' hl hl'=>?_))
 refine .mk (τ:=(s',scR x x)::(lf,.list [openV s .none])::(s,scR tx r)::stS Z ⟨es,A,os,gs,ps,z+x.length,[.str ([37]++m)]⟩ σ) (.take .head (.take (.tail (.tail (.tail (.tail .head)))) (.take .head (.take (.tail (.tail (.tail .head))) (.take (.tail (.tail (.tail .head))) (.take (.tail (.tail (.tail .head))) (.take (.tail (.tail .head)) .refl))))))) ?_
 refine .app (.tail .head) (lbt rfl) ?_
 refine hJ _ _ ?_
 refine .neN (.ref (.tail _ (.head _))) ?_
 refine .mk ?_
 refine .mk (.lst (.ref (.tail _ (.head _))) (j:=1) rfl rfl) ?_
 refine .mk (.ref (.head _)) ?_
 cases ex
 refine d_294 (s:=[]) hl' (fun _ h=>nomatch h) (Hd.of (r:=(s0++X)++([62]++[])) h.w).s fun hl'=>?_
 refine .mk (.ref (.head _)) ?_
 refine d_266 (.head _) hl' ?_
 refine ifBF (Hd.of (r:=(s0++X)++([62]++[])) h.w).e ?_
 refine .mk (.ref (.head _)) ?_
 refine d_280F hl' (Hd.of (r:=(s0++X)++([62]++[])) h.w).p ?_
 refine .mk ?_
 refine CallOK.into (CallOK.pre (.take .head (.take .head (.take .head .refl))) (CallOK.pre (.take .head (.take (.tail (.tail .head)) (.take (.tail (.tail .head)) (.take (.tail (.tail .head)) (.take (.tail (.tail .head)) (.take (.tail (.tail .head)) (.take (.tail (.tail .head)) (.take (.tail (.tail .head)) (aS_ins (l:=[_,_])))))))))) (Dcl.one (S:=⟨es,A,os,gs,ps,z+(W++((s0++X)++([62]++[]))).length,[.str ([37]++m)]⟩) h hS hX hB hn hl' fun hl'=>h.mo (fun S' k=>?_) k)))
 obtain ⟨es',A',os',gs',ps',z',ol'⟩:=S'
 obtain ⟨ho,k⟩:=k
 cases ho
 refine .mk (.take .head (.take stOut (.take stOut .refl))) ?_
 refine hJ _ _ ?_
 refine .neN (.ref (.tail _ (.head _))) ?_
 refine .mk ?_
 refine .mk (.lst (.ref (.tail _ (.head _))) (j:=1) rfl rfl) ?_
 refine .mk (.ref (.head _)) ?_
 refine d_294 (s:=[]) (r:=[]) hl' (fun _ h=>nomatch h) rfl fun hl'=>?_
 refine .mk (.ref (.head _)) ?_
 refine d_266 (.head _) hl' ?_
 refine .mk ?_
 refine .mk (.list (.tail _ (.head _))) ?_
 refine .pop (vs:=[openV s .none]) (.tail .head) (lbt rfl) ?_
 refine .mk ?_
 refine .mk (.ref (.tail _ (.tail _ (.tail _ (.tail _ (.tail _ (.tail _ (.tail _ (.head _))))))))) ?_
 refine CallOK.into (CallOK.pre (.take (.tail (.tail (.tail (.tail (.tail (.tail (.tail .head))))))) (.take (.tail (.tail (.tail (.tail (.tail (.tail (.tail .head))))))) .refl)) (c_623 ?_))
 refine .mk (.take (.tail (.tail (.tail (.tail .head)))) (.take (.tail (.tail (.tail .head))) (.take (.tail (.tail (.tail .head))) (.take (.tail (.tail (.tail .head))) (.take (.tail (.tail (.tail .head))) (.take (.tail (.tail (.tail .head))) (.take .head (.take .head (.drop .refl))))))))) ?_
 exact k.go (w:=[]) (fun _ h=>nomatch h) hJ hQ hl .refl
theorem c_816 {Z:Ad} {S:RdS} {QF:RdS→Prop} (hr:Rds QF R t S) (ht:t.length≤1000000) (h:∀ S',QF S'→Q .none (stS Z S' σ)):CallOK (XX B) (n+13) (.ref 816) [Z.rd,.str t] (stS Z S σ) Q R:=by
 refine CallOK.into ?_
 refine ok_816.go rfl ?_
 refine c_777 ht rfl fun s hl=>?_
 refine fun lf=>?_
 refine .mk fun J hJ=>?_
 exact hr.go (w:=[]) (fun _ h=>nomatch h) hJ h hl (.take (.tail .head) (.take .head .refl))
theorem k_875:clsOK (XX B).K 875 809=true:=by kernel_rfl
theorem c_875 {tb d:V} {g:Addr} (h1:hv tb=true) (h2:hv d=true) (h:Q (rdrV tb d (.ref g)) σ):CallOK (XX B) (n+2) (.ref 875) [tb,d,.ref g] σ Q R:=by
 refine CallOK.frz (call_cls k_875 fun a=>?_)
 refine ok_809.go rfl ?_
 refine .mk rfl .n .head h1 ?_
 refine .mk rfl (.s .n) .head h2 ?_
 refine .mk rfl (.s (.s .n)) .head rfl ?_
 exact .mk (.mk rfl .head rfl h)
noncomputable abbrev S00:RdS:=⟨[],[],[],[],[],0,[]⟩
theorem c_915 {ou g p:Addr} {nm:List Nat} {QF:RdS→Prop} (hr:Rds QF R t S00) (ht:t.length≤1000000) (h:∀ (e tt o gr op:Addr) S',QF S'→Q (dtdV (.str nm) e tt o) (stS ⟨e,tt,o,ou,g,p,gr,op,.str nm⟩ S' σ)) :
  CallOK (XX B) (n+14) (.ref 915) [.str t,tabV ou g p,.str nm] ((p,.dict [])::(g,.dict [])::σ) Q R:=by
 refine ok_915_3.go rfl ?_
 refine c_550 (n:=n+11) rfl fun e tt o=>?_
 refine .mk ?_
 refine c_633 (n:=n+11) fun gr op=>?_
 refine c_875 (n:=n+11) rfl rfl ?_
 refine CallOK.pre ?_ (c_816 (Z:=⟨e,tt,o,ou,g,p,gr,op,.str nm⟩) (S:=S00) hr ht fun S' k=>h _ _ _ _ _ S' k)
 exact .take (.tail (.tail (.tail (.tail .head)))) (.take (.tail (.tail .head)) (.take (.tail (.tail (.tail (.tail .head)))) (.take (.tail (.tail (.tail .head))) (.take (.tail .head) (.take .head .refl)))))
theorem Wrong.dec {W X:List Nat} (hW:W∈dcls) (hn:np X=true) (hX:X.length≤1000) (hB:dend [] (W++(X++([62]++[])))=some [])
  (k:∀ {B:Bun} {n:Nat} {R:Prop} {σ:Store} {q:QK} {Z:Ad} {sc inn:Addr} {p:Nat} {e:Int} {k:Option V},R→Lf X X→wS (cok (XX B) (n+10) R) i_837.lk.nx.nx.nx (ρ837 Z sc p e W k inn) ((inn,scR X X)::σ) q):Wrong (W++(X++([62]++[]))):=
 ⟨.of hW,fun hR hl=>c_823d hW hl (c_837 hW (Nat.le_trans hX (lbt rfl)) hl hB (fun hq=>c_788a (n:=_+2) (Nat.le_trans hX (lbt rfl)) hn hq) fun _ hl=>k hR hl)⟩
theorem wr_a:Wrong [60,33,69,76,69,77,69,78,84,32,97,62]:=.dec (W:=eltW) (X:=[32,97]) (.head _) rfl (lbt rfl) rfl fun h hl=>by
 refine .mk (.ref (.head _)) ?_
 refine d_301 (s:=[32]) hl sp1 (List.cons_ne_nil _ _) rfl fun hl=>?_
 refine .mk ?_
 refine ok_844.go rfl ?_
 refine .mk (.ref (.head _)) ?_
 refine d_322 (m:=[97]) (r:=[]) hl (nm1 rfl) rfl fun hl=>?_
 refine .mk (.ref (.head _)) ?_
 exact d_301x hl rfl h
theorem wr_i:Wrong [60,33,78,79,84,65,84,73,79,78,32,103,62]:=.dec (W:=notW) (X:=[32,103]) (.tail _ (.tail _ (.tail _ (.head _)))) rfl (lbt rfl) rfl fun h hl=>by
 refine .mk (.ref (.head _)) ?_
 refine d_301 (s:=[32]) hl sp1 (List.cons_ne_nil _ _) rfl fun hl=>?_
 refine .mk (.mk (.mk ?_))
 refine ok_872.go rfl ?_
 refine .mk (.ref (.head _)) ?_
 refine d_322 (m:=[103]) (r:=[]) hl (nm1 rfl) rfl fun hl=>?_
 refine .mk (.ref (.head _)) ?_
 exact d_301x hl rfl h
theorem wr_j:Wrong [60,33,69,78,84,73,84,89,32,101,62]:=.dec (W:=entW) (X:=[32,101]) (.tail _ (.tail _ (.head _))) rfl (lbt rfl) rfl fun h hl=>by
 refine .mk (.ref (.head _)) ?_
 refine d_301 (s:=[32]) hl sp1 (List.cons_ne_nil _ _) rfl fun hl=>?_
 refine .mk (.mk (.mk ?_))
 refine ok_865.go rfl ?_
 refine .mk (.ref (.head _)) ?_
 refine d_280F hl rfl ?_
 refine .mk ?_
 refine .mk (.ref (.head _)) ?_
 refine d_322 (m:=[101]) (r:=[]) hl (nm1 rfl) rfl fun hl=>?_
 refine .mk (.ref (.head _)) ?_
 exact d_301x hl rfl h
theorem wr_k:Wrong [60,33,69,78,84,73,84,89,32,101,32,80,85,66,76,73,67,32,39,112,39,62]:=.dec (W:=entW) (X:=[32,101,32,80,85,66,76,73,67,32,39,112,39]) (.tail _ (.tail _ (.head _))) rfl (lbt rfl) rfl fun h hl=>by
 refine .mk (.ref (.head _)) ?_
 refine d_301 (s:=[32]) hl sp1 (List.cons_ne_nil _ _) rfl fun hl=>?_
 refine .mk (.mk (.mk ?_))
 refine ok_865.go rfl ?_
 refine .mk (.ref (.head _)) ?_
 refine d_280F hl rfl ?_
 refine .mk ?_
 refine .mk (.ref (.head _)) ?_
 refine d_322 (m:=[101]) hl (nm1 rfl) rfl fun hl=>?_
 refine .mk (.ref (.head _)) ?_
 refine d_301 (s:=[32]) hl sp1 (List.cons_ne_nil _ _) rfl fun hl=>?_
 refine .mk (.ref (.head _)) ?_
 refine d_273 (.head _) hl rfl ?_
 refine .mk ?_
 refine .mk (.ref (.head _)) ?_
 refine d_273 (.head _) hl rfl ?_
 refine .mk ?_
 exact c_900n (b:=false) (s:=[32]) (q:=[39]) (x:=[112]) (e:=[]) ⟨sp1,List.cons_ne_nil _ _⟩ ⟨.inr rfl,by decide⟩ rfl (fun _ h=>nomatch h) hl h
theorem wr_c:Wrong [60,33,69,76,69,77,69,78,84,97,32,65,78,89,62]:=.dec (W:=eltW) (X:=[97,32,65,78,89]) (.head _) rfl (lbt rfl) rfl fun h hl=>by
 refine .mk (.ref (.head _)) ?_
 exact d_301x hl rfl h
theorem wr_d:Wrong [60,33,65,84,84,76,73,83,84,32,97,32,112,32,67,68,65,84,65,62]:=.dec (W:=attW) (X:=[32,97,32,112,32,67,68,65,84,65]) (.tail _ (.head _)) rfl (lbt rfl) rfl fun h hl=>by
 refine .mk (.ref (.head _)) ?_
 refine d_301 (s:=[32]) hl sp1 (List.cons_ne_nil _ _) rfl fun hl=>?_
 refine .mk (.mk ?_)
 refine ok_851.go rfl ?_
 refine .mk (.ref (.head _)) ?_
 refine d_322 (m:=[97]) hl (nm1 rfl) rfl fun hl=>?_
 refine .mk fun J hJ=>hJ _ _ ?_
 refine .mk (.ref (.head _)) ?_
 refine d_294 (s:=[32]) hl sp1 rfl fun hl=>?_
 refine .mk ?_
 refine .mk (.ref (.head _)) ?_
 refine d_266 (.head _) hl ?_
 refine .mk ?_
 refine .mk (.ref (.head _)) ?_
 refine d_322 (m:=[112]) hl (nm1 rfl) rfl fun hl=>?_
 refine .mk (.ref (.head _)) ?_
 refine d_301 (s:=[32]) hl sp1 (List.cons_ne_nil _ _) rfl fun hl=>?_
 refine ok_893.go rfl ?_
 refine .mk (.ref (.head _)) ?_
 refine d_273 (.head _) hl rfl ?_
 refine .mk ?_
 refine .mk (.ref (.head _)) ?_
 refine .mk (.ref (.head _)) ?_
 refine d_322 (m:=[67,68,65,84,65]) (r:=[]) hl (word rfl rfl) rfl fun hl=>?_
 refine .mk ?_
 refine .niT (ls:=kinds) .map ?_
 refine .mk ?_
 refine .mk (.ref (.head _)) ?_
 exact d_301x hl rfl h
theorem wr_e:Wrong [60,33,65,84,84,76,73,83,84,32,97,32,112,32,40,117,124,117,41,32,39,117,39,62]:=.dec (W:=attW) (X:=[32,97,32,112,32,40,117,124,117,41,32,39,117,39]) (.tail _ (.head _)) rfl (lbt rfl) rfl fun h hl=>by
 refine .mk (.ref (.head _)) ?_
 refine d_301 (s:=[32]) hl sp1 (List.cons_ne_nil _ _) rfl fun hl=>?_
 refine .mk (.mk ?_)
 refine ok_851.go rfl ?_
 refine .mk (.ref (.head _)) ?_
 refine d_322 (m:=[97]) hl (nm1 rfl) rfl fun hl=>?_
 refine .mk fun J hJ=>hJ _ _ ?_
 refine .mk (.ref (.head _)) ?_
 refine d_294 (s:=[32]) hl sp1 rfl fun hl=>?_
 refine .mk ?_
 refine .mk (.ref (.head _)) ?_
 refine d_266 (.head _) hl ?_
 refine .mk ?_
 refine .mk (.ref (.head _)) ?_
 refine d_322 (m:=[112]) hl (nm1 rfl) rfl fun hl=>?_
 refine .mk (.ref (.head _)) ?_
 refine d_301 (s:=[32]) hl sp1 (List.cons_ne_nil _ _) rfl fun hl=>?_
 refine ok_893.go rfl ?_
 refine .mk (.ref (.head _)) ?_
 refine d_273 (.head _) hl rfl ?_
 refine .mk ?_
 refine ok_886.go rfl ?_
 refine .mk (.ref (.head _)) ?_
 refine d_287 (x:=[40]) hl fun hl=>?_
 refine fun f=>?_
 refine .mk fun J hJ=>hJ _ _ ?_
 refine .mk ?_
 refine .mk (.ref (.tail _ (.head _))) ?_
 refine CallOK.pick (.tail .head) ?_
 refine d_294 (s:=[]) hl (fun _ h=>nomatch h) rfl fun hl=>?_
 refine .mk ?_
 refine .mk (.ref (.head _)) ?_
 refine d_315 (m:=[117]) hl (tk1 rfl) rfl fun hl=>?_
 refine .inL (.ref (.tail _ (.head _))) .nil ?_
 refine .mk ?_
 refine .mk (.list (.tail _ (.head _))) ?_
 refine .app (.tail .head) (Nat.zero_le _) ?_
 refine .mk (.ref (.head _)) ?_
 refine d_294 (s:=[]) hl (fun _ h=>nomatch h) rfl fun hl=>?_
 refine .mk (.ref (.head _)) ?_
 refine d_280T (x:=[124]) hl fun hl=>?_
 refine .mk (hJ _ _ ?_)
 refine .mk ?_
 refine .mk (.ref (.head _)) ?_
 refine d_294 (s:=[]) hl (fun _ h=>nomatch h) rfl fun hl=>?_
 refine .mk ?_
 refine .mk (.ref (.head _)) ?_
 refine d_315 (m:=[117]) hl (tk1 rfl) rfl fun hl=>?_
 refine .inL (.ref (.tail _ (.head _))) (.cons .nil) ?_
 refine .mk ?_
 refine .mk (.ref (.head _)) ?_
 exact dflt h
theorem wr_n {u:List Nat} (hd:Hd u) (h1:∀ x∈[[60,33,45,45],[60,63],[60,33,91]],x.isPrefixOf u=false) (h2:dend [] u=none):Wrong u:=⟨hd,fun {B n R σ Q Z tx sc} h hl=>by
 refine ok_823.go rfl ?_
 refine .mk (.ref (.head _)) ?_
 refine .mk (.ref (.head _)) ?_
 refine d_280F hl (h1 _ (.head _)) ?_
 refine .mk ?_
 refine .mk (.ref (.head _)) ?_
 refine d_280F hl (h1 _ (.tail _ (.head _))) ?_
 refine .mk ?_
 refine .mk (.ref (.head _)) ?_
 refine d_273 (.head _) hl (h1 _ (.tail _ (.tail _ (.head _)))) ?_
 refine .mk ?_
 refine ok_837.go rfl ?_
 refine .mk (.ref (.head _)) ?_
 exact c_357 (n:=n+6) hl ((congrArg (dnW _ R) h2).mpr h)⟩
theorem wr_b:Wrong [60,33,69,76,69,77,69,78,84,32,97,32,65,78,89]:=wr_n ⟨rfl,rfl,rfl⟩ (by decide) rfl
theorem wr_m:Wrong [120]:=wr_n ⟨rfl,rfl,rfl⟩ (by decide) rfl
theorem wr_f:Wrong [60,33,91,73,78,67,76,85,68,69,91,93,93,62]:=⟨⟨rfl,rfl,rfl⟩,fun {B n R σ Q Z tx sc} h hl=>by
 refine ok_823.go rfl ?_
 refine .mk (.ref (.head _)) ?_
 refine .mk (.ref (.head _)) ?_
 refine d_280F hl rfl ?_
 refine .mk ?_
 refine .mk (.ref (.head _)) ?_
 refine d_280F hl rfl ?_
 refine .mk ?_
 refine .mk (.ref (.head _)) ?_
 refine d_273 (.head _) hl rfl ?_
 refine .mk ?_
 exact c_236 rfl fun _ _=>.mk rfl (.head _) h⟩
theorem wr_g:Wrong [60,33,45,45,32,97,32,45,45,32,98,32,45,45,62]:=⟨⟨rfl,rfl,rfl⟩,fun {B n R σ Q Z tx sc} h hl=>by
 refine ok_823.go rfl ?_
 refine .mk (.ref (.head _)) ?_
 refine .mk (.ref (.head _)) ?_
 refine d_280T (x:=[60,33,45,45]) hl fun hl=>?_
 refine .mk ?_
 refine .mk (.ref (.head _)) ?_
 refine d_329 (m:=[32,97,32,45,45,32,98,32]) (x:=[45,45,62]) (r:=[]) hl (by kernel_rfl) fun hl=>?_
 refine .mk (.mk ?_)
 exact c_236 rfl fun _ _=>.mk rfl (.head _) h⟩
theorem wr_h:Wrong [60,33,45,45,32,97,32,45,45,45,62]:=⟨⟨rfl,rfl,rfl⟩,fun {B n R σ Q Z tx sc} h hl=>by
 refine ok_823.go rfl ?_
 refine .mk (.ref (.head _)) ?_
 refine .mk (.ref (.head _)) ?_
 refine d_280T (x:=[60,33,45,45]) hl fun hl=>?_
 refine .mk ?_
 refine .mk (.ref (.head _)) ?_
 refine d_329 (m:=[32,97,32,45]) (x:=[45,45,62]) (r:=[]) hl (by kernel_rfl) fun hl=>?_
 refine .mk ?_
 refine .mk (a:=some (-1)) (b:=none) rfl rfl (.str (lbt rfl)) ?_
 refine .mk ?_
 exact c_236 rfl fun _ _=>.mk rfl (.head _) h⟩
theorem wr_l:Wrong [60,63,120,109,108,32,97,63,62]:=⟨⟨rfl,rfl,rfl⟩,fun {B n R σ Q Z tx sc} h hl=>by
 refine ok_823.go rfl ?_
 refine .mk (.ref (.head _)) ?_
 refine .mk (.ref (.head _)) ?_
 refine d_280F hl rfl ?_
 refine .mk ?_
 refine .mk (.ref (.head _)) ?_
 refine d_280T (x:=[60,63]) hl fun hl=>?_
 refine .mk ?_
 exact c_830x hl h⟩
end
section
variable {B:Bun} {n:Nat} {σ:Store} {Q:V→Store→Prop} {R:Prop} {a:Addr} {o:AObj} {t r:List Nat}
inductive Src2:AObj→Prop
 | mk {x y:Int}:0≤y→y<2147483647→Src2 (.list [.int x,.int y])
inductive FmS (j:Nat) (z:Int):Prop
 | mk {d:Nat}:d<j→z=d→FmS j z
theorem FmS.of {i:Int} {j:Nat} (h:0<j):FmS j (i.fmod j):=by
 have h':=Int.ofNat_lt.mpr h
 obtain ⟨d,e⟩:=Int.eq_ofNat_of_zero_le (Int.fmod_nonneg_of_pos i h')
 have hd:=Int.fmod_lt_of_pos i h'
 rw [e] at hd
 exact ⟨Int.ofNat_lt.mp hd,e⟩
theorem FmS.q {i:Int} {j:Nat} {τ:Store} (h:0<j) (k:∀ d:Nat,d<j→Q (.int d) τ):Q (.int (i.fmod j)) τ:=by
 obtain ⟨hd,e⟩:=FmS.of (i:=i) h
 exact e▸k _ hd
theorem mulR {i j:Int} (h0:0≤j) (h:j<2147483647):IntMulOk i j:=IntMulOk.of_right (intBits_le_64 (by omega) (by omega))
theorem c_1086 {k:Nat} (hs:Src2 o) (hk:(Nat.blt 0 k&&Nat.ble k 1000)=true) (h:∀ (d:Nat) o',d<k→Src2 o'→Q (.int d) ((a,o')::σ)):CallOK (XX B) (n+1) (.ref 1086) [.ref a,.int k] ((a,o)::σ) Q R:=by
 have hk:=band hk
 have k0:=lbt hk.1
 have k1:((k:Int).natAbs)<1073741824:=Nat.lt_of_le_of_lt (lbt hk.2) (lbt rfl)
 have k2:(k:Int)≠0:=fun e=>absurd (Int.ofNat.inj e) (Nat.ne_of_gt k0)
 obtain @⟨x,y,h0,h1⟩:=hs
 refine ok_1086.go rfl ?_
 refine .mk (.lst (.ref (.head _)) (j:=0) rfl rfl) ?_
 refine ifd (fun _=>?_) fun _=>?_
 ·refine .mk (.lst (.ref (.head _)) (j:=0) rfl rfl) ?_
  refine .intI ?_
  refine .mod k2 ?_
  refine .mk (.lst (.ref (.head _)) (j:=0) rfl rfl) ?_
  refine .div k2 k1 ?_
  refine .list (j:=0) .head (lbt rfl) (Nat.zero_lt_succ _) ?_
  exact FmS.q (Q:=Q) k0 fun _ hd=>h _ _ hd ⟨h0,h1⟩
 ·refine .mk (.lst (.ref (.head _)) (j:=1) rfl rfl) ?_
  refine .mul (mulR (by decide) (by decide)) ?_
  refine .intI ?_
  refine .mod (by decide) ?_
  refine .list (j:=1) .head (lbt rfl) (Nat.le_refl _) ?_
  have g0:=Int.fmod_nonneg_of_pos (y * 39373+7) (by decide:(0:Int)<2147483647)
  have g1:=Int.fmod_lt_of_pos (y * 39373+7) (by decide:(0:Int)<2147483647)
  refine .mk (.lst (.ref (.head _)) (j:=1) rfl rfl) ?_
  refine .mk (.lst (.ref (.head _)) (j:=1) rfl rfl) ?_
  refine .mul (mulR g0 g1) ?_
  refine .intI ?_
  refine .mod (by decide) ?_
  refine .div (by decide) (by decide) ?_
  refine .intI ?_
  refine .mod k2 ?_
  exact FmS.q (Q:=Q) k0 fun _ hd=>h _ _ hd ⟨g0,g1⟩
theorem c_1093 {y:V} {vs:List V} (hs:Src2 o) (hy:∀ {o'},IsLs ((a,o')::σ) vs y) (hv:(Nat.blt 0 vs.length&&Nat.ble vs.length 1000)=true) (h:∀ z o',z∈vs→Src2 o'→Q z ((a,o')::σ)):CallOK (XX B) (n+2) (.ref 1093) [.ref a,y] ((a,o)::σ) Q R:=by
 have hl:=Nat.le_trans (lbt (band hv).2) (lbt rfl:1000≤10000000)
 refine ok_1093.go rfl ?_
 refine .lenL hy hl ?_
 refine c_1086 hs hv fun d o' hd ho=>?_
 refine .mk (.lst hy (idx_nat hd hl) (List.getElem?_eq_getElem hd)) ?_
 exact h _ _ (List.getElem_mem hd) ho
theorem c_1093s {ls:List (List Nat)} (hs:Src2 o) (hv:(Nat.blt 0 ls.length&&Nat.ble ls.length 1000)=true) (h:∀ l o',l∈ls→Src2 o'→Q (.str l) ((a,o')::σ)):CallOK (XX B) (n+2) (.ref 1093) [.ref a,.ro (ls.map .str)] ((a,o)::σ) Q R:=
 c_1093 hs .ro (by rw [List.length_map];exact hv) fun z o' hz ho=>let ⟨l,hl,e⟩:=List.mem_map.mp hz;e▸h l o' hl ho
noncomputable abbrev spx:List (List Nat):=[[32],[10],[32,9,32]]
noncomputable abbrev quots:List (List Nat):=[[34],[39]]
theorem c_1100 (hs:Src2 o) (h:∀ l o',l∈spx→Src2 o'→Q (.str l) ((a,o')::σ)):CallOK (XX B) (n+3) (.ref 1100) [.ref a] ((a,o)::σ) Q R:=ok_1100.go rfl (c_1093s (ls:=spx) hs rfl h)
theorem mem_le {k:Nat} {L:List (List Nat)} {x:List Nat} (e:(L.all fun x=>Nat.ble x.length k)=true) (h:x∈L):x.length≤k:=lbt (mem_p (p:=fun x=>Nat.ble x.length k) e h)
theorem c_1107 {x:List Nat} (hs:Src2 o) (hx:x.length≤1000000) (h:∀ q o',q∈quots→Src2 o'→Q (.str (q++x++q)) ((a,o')::σ)):CallOK (XX B) (n+3) (.ref 1107) [.ref a,.str x] ((a,o)::σ) Q R:=by
 refine ok_1107.go rfl ?_
 refine c_1093s (ls:=quots) hs rfl fun q o' hq ho=>?_
 have s1:Sz q 1:=.var (Nat.le_trans (mem_le (k:=1) rfl hq) (lbt rfl))
 refine .cat (.app s1 (.var hx)) rfl ?_
 exact .cat (.app (.app s1 (.var hx)) s1) rfl (h q o' hq ho)
noncomputable abbrev bets:List (List Nat):=[[],[32],[60,33,45,45,32,62,32,60,33,69,76,69,77,69,78,84,32,45,45,62],[60,63,103,111,32,62,32,111,110,63,62],[10]]
theorem c_1149 (hs:Src2 o) (h:∀ l o',l∈bets→Src2 o'→Q (.str l) ((a,o')::σ)):CallOK (XX B) (n+3) (.ref 1149) [.ref a] ((a,o)::σ) Q R:=ok_1149.go rfl (c_1093s (ls:=bets) hs rfl h)
end
section
variable {B:Bun} {n:Nat} {σ:Store} {Q:V→Store→Prop} {R:Prop} {a:Addr} {o:AObj} {t r e:List Nat} {ws:List (List Nat)}
inductive Al {α:Type} (P:α→Prop):List α→Prop
 | nil:Al P []
 | cons {x l}:P x→Al P l→Al P (x::l)
theorem Al.mem {α:Type} {P:α→Prop} {l:List α} {x:α} (h:Al P l) (hx:x∈l):P x:=by
 induction h with
 | nil=>cases hx
 | cons h _ ih=>
  cases hx with
  | head=>exact h
  | tail _ hx=>exact ih hx
noncomputable def dq:List Nat→List Nat→Option (List Nat)
 | q,[]=>some q
 | q,c::r=>cond (q != []) (cond ([c]==q) (dq [] r) (dq q r)) (cond ([c]==[34]||[c]==[39]) (dq [c] r) (cond ([c]==[62]) none (dq q r)))
theorem dq.go:∀ {l q q':List Nat},dq q l=some q'→dend q (l++r)=dend q' r
 | [],_,_,h=>by cases h;rfl
 | c::l,q,q',h=>by
  change cond (q != []) (cond ([c]==q) (dq [] l) (dq q l)) (cond ([c]==[34]||[c]==[39]) (dq [c] l) (cond ([c]==[62]) none (dq q l)))=_ at h
  show cond (q != []) (cond ([c]==q) (dend [] (l++r)) (dend q (l++r))) (cond ([c]==[34]||[c]==[39]) (dend [c] (l++r)) (cond ([c]==[62]) (some (l++r)) (dend q (l++r))))=_
  revert h
  cases q != []<;>cases [c]==q<;>cases [c]==[34]||[c]==[39]<;>cases [c]==[62]<;>intro h<;>first | exact dq.go h | cases h
noncomputable def fine (l:List Nat):Bool:=(dq [] l==some [])&&l.all (nin [37])&&Nat.ble l.length 40
noncomputable def fineE (l:List Nat):Bool:=l.all (nin [38,37,34,39])
structure Fin (k:Nat) (l:List Nat):Prop where
 b:∀ r,dend [] (l++r)=dend [] r
 p:l.all (nin [37])=true
 n:l.length≤k
theorem Fin.of {l:List Nat} (h:fine l=true):Fin 40 l:=
 have h:=band h
 have k:=band h.1
 ⟨fun _=>dq.go (eq_of_beq k.1),k.2,lbt h.2⟩
theorem all_app {p:Nat→Bool} {v w:List Nat} (h:v.all p=true) (k:w.all p=true):(v++w).all p=true:=by rw [List.all_append,h,k];rfl
theorem Fin.app {j k:Nat} {v w:List Nat} (h:Fin j v) (i:Fin k w):Fin (j+k) (v++w):=
 ⟨fun r=>by rw [List.append_assoc,h.b,i.b],all_app h.p i.p,by rw [List.length_append];exact Nat.add_le_add h.n i.n⟩
theorem Fin.mem {L:List (List Nat)} (h:(L.all fine)=true) (hx:t∈L):Fin 40 t:=.of (mem_p h hx)
inductive Jn:List (List Nat)→List Nat→List Nat→Prop
 | nil {u:List Nat}:Jn [] u u
 | cons {s w:List Nat} {ws:List (List Nat)} {u t:List Nat}:s∈spx→Jn ws u t→Jn (w::ws) u (s++(w++t))
@[elab_as_elim] theorem Jn.c {w u t:List Nat} {m:List Nat→Prop} (h:Jn (w::ws) u t) (k:∀ s v,s∈spx→Jn ws u v→m (s++(w++v))):m t:=by
 cases h with
 | cons a b=>exact k _ _ a b
@[elab_as_elim] theorem Jn.z {u t:List Nat} {m:List Nat→Prop} (h:Jn [] u t) (k:m u):m t:=by
 cases h
 exact k
noncomputable abbrev ends:List (List Nat):=[[],[32]]
theorem spx1 {s:List Nat} (h:s∈spx):Sp1 s:=
 have h:=band (mem_p (p:=fun s=>s.all isSp&&!s.isEmpty) rfl h)
 ⟨fun c hc=>List.all_eq_true.mp h.1 c hc,fun e=>by subst e;cases h.2⟩
theorem ends1 (h:e∈ends):Sps e:=fun c hc=>List.all_eq_true.mp (mem_p (p:=fun s=>s.all isSp) rfl h) c hc
theorem Jn.fin (h:Jn ws e t) (he:e∈ends):ws.all fine=true→Fin (ws.length * 43+1) t:=by
 induction h with
 | @nil e=>
  refine fun _=>⟨(Fin.mem rfl he).b,(Fin.mem rfl he).p,mem_le rfl he⟩
 | @cons s w ws e t hs _ ih=>
  intro hw
  have hw:=band (List.all_cons▸hw)
  have k:=Fin.app ⟨(Fin.mem rfl hs).b,(Fin.mem rfl hs).p,mem_le (k:=3) rfl hs⟩ ((Fin.of hw.1).app (ih he hw.2))
  refine ⟨k.b,k.p,Nat.le_trans k.n ?_⟩
  rw [List.length_cons]
  omega
theorem qas {q x e:List Nat}:(q++x++q)++e=q++(x++(q++e)):=by rw [List.append_assoc,List.append_assoc]
structure Nm1 (m:List Nat):Prop where
 nm:IsNm m
 f:fine m=true
 n:m.length≤1
noncomputable def nmT (m:List Nat):Bool:=m.all isNameC&&nmAt m&&(fine m&&Nat.ble m.length 1)
theorem nmx {L:List (List Nat)} {m:List Nat} (e:L.all nmT=true) (h:m∈L):Nm1 m:=
 have h:=band (mem_p (p:=nmT) e h)
 have k:=band h.1
 have j:=band h.2
 ⟨word k.1 k.2,j.1,lbt j.2⟩
theorem nin_ne {c:Nat} {x ms:List Nat} (h:x.all (nin ms)=true) (hm:(lfind [c] ms).isSome=true):∀ d∈x,[c]≠[d]:=fun d hd e=>by
 cases e
 have:=List.all_eq_true.mp h _ hd
 change (!(lfind [c] ms).isSome)=true at this
 rw [hm] at this
 cases this
theorem quo_of {q x:List Nat} (hq:q∈quots) (hx:x.all (nin [34,39])=true):Quo q x:=by
 cases hq with
 | head=>exact ⟨.inl rfl,nin_ne hx rfl⟩
 | tail _ hq=>
  obtain rfl:=List.mem_singleton.mp hq
  exact ⟨.inr rfl,nin_ne hx rfl⟩
theorem all_c {α:Type} {p:α→Bool} {x:α} {l:List α} (h:p x=true) (k:l.all p=true):(x::l).all p=true:=by rw [List.all_cons,h,k];rfl
noncomputable abbrev elS:List Nat:=[101,108,101,109,101,110,116]
noncomputable abbrev atS:List Nat:=[97,116,116,114,105,98,117,116,101]
noncomputable abbrev enS:List Nat:=[101,110,116,105,116,121]
noncomputable abbrev noS:List Nat:=[110,111,116,97,116,105,111,110]
noncomputable def Rw.kd:Rw→List Nat
 | .el _ _=>elS | .att _ _ _ _ _ _=>atS | .en _ _ _ _=>enS | .no _ _ _=>noS
noncomputable def Rw.nm:Rw→List Nat
 | .el nm _=>nm | .att x _ _ _ _ _=>x | .en nm _ _ _=>nm | .no nm _ _=>nm
noncomputable def Rw.dat:Rw→List V
 | .el _ M=>[M] | .att _ nm k cs md v=>[.str nm,.str k,.tup cs,.str md,v] | .en _ v s nt=>[v,s,nt] | .no _ p s=>[p,s]
noncomputable def Rw.v (r:Rw):V:=.tup (.str r.kd::.str r.nm::r.dat)
noncomputable def Rw.ok:Rw→Bool
 | .el nm M=>okV M&&okV (prV (elS,nm))
 | .att _ nm k cs md v=>okV (.tup [.str k,.tup cs,.str md,v])
 | .en _ v s nt=>okV (.tup [v,s,nt])
 | .no nm p s=>okV (.tup [p,s])&&okV (prV (noS,nm))
theorem eff.mo {rs:List Rw}:∀ {R:Prop} {S:RdS} {F F':RdS→Prop},(∀ S,F S→F' S)→eff rs R S F→eff rs R S F':=by
 induction rs with
 | nil=>exact fun f h=>f _ h
 | cons r rs ih=>
  intro R S F F' f h
  cases r with
  | el nm M=>exact newW.imp h (ih f)
  | att el nm k cs md v=>exact fun A' hA=>ih f (h A' hA)
  | en nm v s nt=>exact ih f h
  | no nm p s=>exact newW.imp h (ih f)
inductive Rdy (W:List Nat) (rs:List Rw):List Nat→Prop
 | mk {s0 X}:Dcl W X s0 (eff rs)→Rdy W rs (s0++X)
structure Drw (rs:List Rw) (W:List Nat) (ws:List (List Nat)):Prop where
 f:ws.all fine=true
 n:ws.length≤9
 i:∀ {e t},Sps e→Jn ws e t→Rdy ([60,33]++W) rs t
 v:rs.all Rw.ok=true
 c:∀ r rs',rs=r::rs'→(r.kd==elS)=true→W=[69,76,69,77,69,78,84]∧ws.all fineE=true
 l:rs.length≤2
 h:rs≠[]
 w:ws≠[]
noncomputable abbrev elW:List Nat:=[69,76,69,77,69,78,84]
noncomputable abbrev atW:List Nat:=[65,84,84,76,73,83,84]
noncomputable abbrev enW:List Nat:=[69,78,84,73,84,89]
noncomputable abbrev noW:List Nat:=[78,79,84,65,84,73,79,78]
noncomputable abbrev ll:List (List Nat):=[[101],[102]]
noncomputable abbrev lg:List (List Nat):=[[103],[104]]
noncomputable abbrev la:List (List Nat):=[[97],[98],[99]]
noncomputable abbrev lb:List (List Nat):=[[97],[98]]
noncomputable abbrev lp:List (List Nat):=[[112],[113]]
theorem Drw.of {rs:List Rw} {W nm:List Nat} (hW:[60,33]++W∈dcls) (hn:Nm1 nm) (f:ws.all fine=true) (n:ws.length≤8) (i:∀ {e t},Sps e→Jn ws e t→Inn ([60,33]++W) (nm++t) (eff rs)) (v:rs.all Rw.ok=true)
  (c:∀ r rs',rs=r::rs'→(r.kd==elS)=true→W=[69,76,69,77,69,78,84]∧(nm::ws).all fineE=true) (l:rs.length≤2) (h:rs≠[]):Drw rs W (nm::ws) where
 f:=all_c hn.f f
 n:=Nat.succ_le_succ n
 i:=fun he hj=>by
  refine Jn.c hj fun _ _ k1 hj=>?_
  exact .mk ⟨hW,i he hj,spx1 k1,hn.nm.toIsTk.nsp,eff.mo⟩
 v:=v
 c:=c
 l:=l
 h:=h
 w:=List.cons_ne_nil _ _
theorem no_el {rs:List Rw} {P:Prop} (h:(rs.head?.any fun r=>r.kd==elS)=false):∀ r rs',rs=r::rs'→(r.kd==elS)=true→P:=fun r rs' e k=>by
 subst e
 rw [show (r.kd==elS)=false from h] at k
 cases k
inductive ModT:V→Prop
 | mk {m M}:Mdl m M→fine m=true→fineE m=true→okV M=true→ModT (.tup [M,.str m])
theorem drw_el {nm m:List Nat} {M:V} (hn:nm∈la) (hm:Mdl m M) (h1:fine m=true) (h2:fineE m=true) (h3:okV M=true):Drw [.el nm M] elW [nm,m]:=
 .of (.head _) (nmx rfl hn) (all_c h1 rfl) (lbt rfl) (fun he hj=>by
   refine Jn.c hj fun _ _ k2 hj=>?_
   refine Jn.z hj ?_
   exact Inn.elem (nmx rfl hn).nm (spx1 k2) hm he)
  (all_c (Bool.and_eq_true _ _ |>.mpr ⟨h3,mem_p (p:=fun nm=>okV (prV (elS,nm))) (by kernel_rfl) hn⟩) rfl) (fun _ _ _ _=>⟨rfl,all_c (mem_p (p:=fineE) rfl hn) (all_c h2 rfl)⟩) (lbt rfl) (List.cons_ne_nil _ _)
theorem c_1114 (hs:Src2 o) (h:∀ r ws o',Drw [r] elW ws→Src2 o'→Q (.ro [r.v,.ro (ws.map .str)]) ((a,o')::σ)):CallOK (XX B) (n+4) (.ref 1114) [.ref a] ((a,o)::σ) Q R:=by
 refine CallOK.into ?_
 refine ok_1114.go rfl ?_
 refine c_1093s (ls:=la) hs rfl fun nm o' hnm ho=>?_
 refine fun b=>?_
 refine .mk (.list (.head _)) ?_
 refine CallOK.pick (.tail .head) ?_
 refine c_1100 ho fun s o' hss ho=>?_
 have s1:Sz s 1:=.var (Nat.le_trans (mem_le (k:=3) rfl hss) (lbt rfl))
 refine .cat (.app (.var (lbt rfl)) s1) rfl ?_
 refine .cat (.app (.app (.var (lbt rfl)) s1) (.var (lbt rfl))) rfl ?_
 refine .app (.tail .head) (lbt rfl) ?_
 refine c_1093 ho (.ref (.tail _ (.head _))) rfl fun z o' hz ho=>?_
 have hz:ModT z:=Al.mem (.cons (.mk .emp rfl rfl (by kernel_rfl)) (.cons (.mk .any rfl rfl (by kernel_rfl)) (.cons (.mk .mix rfl rfl (by kernel_rfl)) (.cons (.mk (.seq (spx1 hss).sps) (mem_p (p:=fun s=>fine (40::98::44::(s++[99,63,41,42]))) rfl hss) (mem_p (p:=fun s=>fineE (40::98::44::(s++[99,63,41,42]))) rfl hss) (by kernel_rfl)) .nil)))) hz
 obtain ⟨h1,h2,h3,h4⟩:=hz
 exact .mk (.take .head (.drop .refl)) (h (.el nm _) [nm,_] o' (drw_el hnm h1 h2 h3 h4) ho)
theorem fq {x q:List Nat} (e:(quots.all fun q=>fine (q++x++q))=true) (h:q∈quots):fine (q++x++q)=true:=mem_p (p:=fun q=>fine (q++x++q)) e h
theorem drw_en {nm:List Nat} {v s nt:V} (hn:nm∈ll) (f:ws.all fine=true) (n:ws.length≤8) (i:∀ {e t},Sps e→Jn ws e t→Inn entW (nm++t) (eff [.en nm v s nt])) (hv:okV (.tup [v,s,nt])=true):Drw [.en nm v s nt] enW (nm::ws):=
 .of (.tail _ (.tail _ (.head _))) (nmx rfl hn) f n i (all_c hv rfl) (no_el rfl) (lbt rfl) (List.cons_ne_nil _ _)
noncomputable abbrev syS:List Nat:=[83,89,83,84,69,77]
noncomputable abbrev puS:List Nat:=[80,85,66,76,73,67]
theorem en_s {nm q:List Nat} (hn:nm∈ll) (hq:q∈quots):Drw [.en nm .none (.str [115,46,120]) .none] enW [nm,syS,q++[115,46,120]++q]:=
 drw_en hn (all_c rfl (all_c (fq rfl hq) rfl)) (lbt rfl) (fun he hj=>by
  refine Jn.c hj fun _ _ k1 hj=>?_
  refine Jn.c hj fun _ _ k2 hj=>?_
  refine Jn.z hj ?_
  rw [qas]
  exact Inn.ents (nmx rfl hn).nm (nmx rfl hn).n (spx1 k1) (.s (spx1 k2) (quo_of hq rfl)) he) (by kernel_rfl)
theorem en_p {nm q q':List Nat} (hn:nm∈ll) (hq:q∈quots) (hq':q'∈quots):Drw [.en nm .none (.str [115,46,121]) (.str [103])] enW [nm,puS,q++[45,47,47,112]++q,q'++[115,46,121]++q',[78,68,65,84,65],[103]]:=
 drw_en hn (all_c rfl (all_c (fq rfl hq) (all_c (fq rfl hq') rfl))) (lbt rfl) (fun he hj=>by
  refine Jn.c hj fun _ _ k1 hj=>?_
  refine Jn.c hj fun _ _ k2 hj=>?_
  refine Jn.c hj fun _ _ k3 hj=>?_
  refine Jn.c hj fun _ _ k4 hj=>?_
  refine Jn.c hj fun _ _ k5 hj=>?_
  refine Jn.z hj ?_
  rw [qas,qas]
  exact Inn.entn (nmx rfl hn).nm (nmx rfl hn).n (spx1 k1) (spx1 k4) (spx1 k5) (nm1 rfl) (.p (spx1 k2) (quo_of hq rfl) rfl (spx1 k3) (quo_of hq' rfl)) he) (by kernel_rfl)
inductive EntT:V→Prop
 | mk {raw ps}:LT raw ps→(ps.map List.length).sum+ps.length≤1000000→raw.length≤1000000→raw.all (nin [34,39])=true→(quots.all fun q=>fine (q++raw++q))=true→okV (.tup [.str (ljoin [] ps),.none,.none])=true→EntT (.tup [.str (ljoin [] ps),.str raw])
theorem EntT.al:Al EntT [.tup [.str [116],.str [116]],.tup [.str [60,97,62,120,60,47,97,62],.str [60,97,62,120,60,47,97,62]],.tup [.str [65,38,101,59],.str [38,35,54,53,59,38,101,59]],.tup [.str [],.str []]]:=
 .cons (.mk (ps:=[[116]]) (.last rfl rfl) (lbt rfl) (lbt rfl) rfl rfl (by kernel_rfl))
  (.cons (.mk (ps:=[[60,97,62,120,60,47,97,62]]) (.last rfl rfl) (lbt rfl) (lbt rfl) rfl rfl (by kernel_rfl))
   (.cons (.mk (ps:=[[],[65],[],[38,101,59]]) (.ref (x:=[]) rfl .num (.ref (x:=[]) rfl .ent .nil)) (lbt rfl) (lbt rfl) rfl rfl (by kernel_rfl))
    (.cons (.mk (ps:=[]) .nil (lbt rfl) (lbt rfl) rfl rfl (by kernel_rfl)) .nil)))
theorem c_1128 (hs:Src2 o) (h:∀ r ws o',Drw [r] enW ws→Src2 o'→Q (.ro [r.v,.ro (ws.map .str)]) ((a,o')::σ)):CallOK (XX B) (n+4) (.ref 1128) [.ref a] ((a,o)::σ) Q R:=by
 refine ok_1128.go rfl ?_
 refine c_1093s (ls:=ll) hs rfl fun nm o' hn ho=>?_
 refine c_1086 (k:=4) (n:=n+2) ho rfl fun d o' hd ho=>?_
 refine ifb (fun _=>?_) fun _=>ifb (fun _=>?_) fun _=>?_
 ·refine c_1107 ho (lbt rfl) fun q o' hq ho=>?_
  exact h (.en nm .none (.str [115,46,120]) .none) [nm,syS,q++[115,46,120]++q] o' (en_s hn hq) ho
 ·refine c_1107 ho (lbt rfl) fun q o' hq ho=>?_
  refine c_1107 ho (lbt rfl) fun q' o' hq' ho=>?_
  exact h (.en nm .none (.str [115,46,121]) (.str [103])) [nm,puS,q++[45,47,47,112]++q,q'++[115,46,121]++q',[78,68,65,84,65],[103]] o' (en_p hn hq hq') ho
 ·refine c_1093 (n:=n+1) ho .ro rfl fun z o' hz ho=>?_
  obtain ⟨h1,h2,h3,h4,h5,h6⟩:=EntT.al.mem hz
  refine c_1107 ho h3 fun q o' hq ho=>?_
  refine h (.en nm (.str _) .none .none) [nm,q++_++q] o' (drw_en hn (all_c (fq h5 hq) rfl) (lbt rfl) (fun he hj=>?_) h6) ho
  refine Jn.c hj fun _ _ k1 hj=>?_
  refine Jn.z hj ?_
  rw [qas]
  exact Inn.entl (nmx rfl hn).nm (nmx rfl hn).n (spx1 k1) (quo_of hq h4) h1 h2 he
theorem drw_no {nm:List Nat} {p s:V} (hn:nm∈lg) (f:ws.all fine=true) (n:ws.length≤8) (i:∀ {e t},Sps e→Jn ws e t→Inn notW (nm++t) (eff [.no nm p s])) (hv:okV (.tup [p,s])=true):Drw [.no nm p s] noW (nm::ws):=
 .of (.tail _ (.tail _ (.tail _ (.head _)))) (nmx rfl hn) f n i (all_c (Bool.and_eq_true _ _ |>.mpr ⟨hv,mem_p (p:=fun nm=>okV (prV (noS,nm))) (by kernel_rfl) hn⟩) rfl) (no_el rfl) (lbt rfl) (List.cons_ne_nil _ _)
theorem no_s {nm q:List Nat} (hn:nm∈lg) (hq:q∈quots):Drw [.no nm .none (.str [115,46,110])] noW [nm,syS,q++[115,46,110]++q]:=
 drw_no hn (all_c rfl (all_c (fq rfl hq) rfl)) (lbt rfl) (fun he hj=>by
  refine Jn.c hj fun _ _ k1 hj=>?_
  refine Jn.c hj fun _ _ k2 hj=>?_
  refine Jn.z hj ?_
  rw [qas]
  exact Inn.nota (nmx rfl hn).nm (spx1 k1) (.s (spx1 k2) (quo_of hq rfl)) he) (by kernel_rfl)
theorem no_z {nm q:List Nat} (hn:nm∈lg) (hq:q∈quots):Drw [.no nm (.str [112,32,113]) .none] noW [nm,puS,q++[32,112,32,32,113]++q]:=
 drw_no hn (all_c rfl (all_c (fq rfl hq) rfl)) (lbt rfl) (fun he hj=>by
  refine Jn.c hj fun _ _ k1 hj=>?_
  refine Jn.c hj fun _ _ k2 hj=>?_
  refine Jn.z hj ?_
  rw [qas]
  exact Inn.nota (nmx rfl hn).nm (spx1 k1) (.z (spx1 k2) (quo_of hq rfl) rfl he) he) (by kernel_rfl)
theorem no_p {nm q q':List Nat} (hn:nm∈lg) (hq:q∈quots) (hq':q'∈quots):Drw [.no nm (.str [112]) (.str [115])] noW [nm,puS,q++[112]++q,q'++[115]++q']:=
 drw_no hn (all_c rfl (all_c (fq rfl hq) (all_c (fq rfl hq') rfl))) (lbt rfl) (fun he hj=>by
  refine Jn.c hj fun _ _ k1 hj=>?_
  refine Jn.c hj fun _ _ k2 hj=>?_
  refine Jn.c hj fun _ _ k3 hj=>?_
  refine Jn.z hj ?_
  rw [qas,qas]
  exact Inn.nota (nmx rfl hn).nm (spx1 k1) (.p (spx1 k2) (quo_of hq rfl) rfl (spx1 k3) (quo_of hq' rfl)) he) (by kernel_rfl)
theorem c_1135 (hs:Src2 o) (h:∀ r ws o',Drw [r] noW ws→Src2 o'→Q (.ro [r.v,.ro (ws.map .str)]) ((a,o')::σ)):CallOK (XX B) (n+4) (.ref 1135) [.ref a] ((a,o)::σ) Q R:=by
 refine ok_1135.go rfl ?_
 refine c_1093s (ls:=lg) hs rfl fun nm o' hn ho=>?_
 refine c_1086 (k:=3) (n:=n+2) ho rfl fun d o' hd ho=>?_
 refine ifb (fun _=>?_) fun _=>ifb (fun _=>?_) fun _=>?_
 ·refine c_1107 ho (lbt rfl) fun q o' hq ho=>?_
  exact h (.no nm .none (.str [115,46,110])) [nm,syS,q++[115,46,110]++q] o' (no_s hn hq) ho
 ·refine c_1107 ho (lbt rfl) fun q o' hq ho=>?_
  exact h (.no nm (.str [112,32,113]) .none) [nm,puS,q++[32,112,32,32,113]++q] o' (no_z hn hq) ho
 ·refine c_1107 ho (lbt rfl) fun q o' hq ho=>?_
  refine c_1107 ho (lbt rfl) fun q' o' hq' ho=>?_
  exact h (.no nm (.str [112]) (.str [115])) [nm,puS,q++[112]++q,q'++[115]++q'] o' (no_p hn hq hq') ho
noncomputable abbrev reqS:List Nat:=[114,101,113,117,105,114,101,100]
noncomputable abbrev impS:List Nat:=[105,109,112,108,105,101,100]
noncomputable abbrev dftS:List Nat:=[100,101,102,97,117,108,116]
noncomputable abbrev fixS:List Nat:=[102,105,120,101,100]
noncomputable abbrev mds:List (List Nat):=[reqS,impS,dftS,fixS]
noncomputable abbrev vls:List (List Nat):=[[117],[117,32,32,118],[117,32,118],[118,62,119],[120,38,121],[34]]
noncomputable def okA (k:List Nat) (cs:List V):Bool:=mds.all fun md=>okV (.tup [.str k,.tup cs,.str md,.none])&&vls.all fun v=>okV (.tup [.str k,.tup cs,.str md,.str v])
inductive KndD:V→Prop
 | mk {k cs told}:KndT told k cs→fine told=true→okA k cs=true→KndD (.tup [.str k,.tup cs,.str told])
theorem KndD.al:Al KndD [.tup [.str [67,68,65,84,65],.tup [],.str [67,68,65,84,65]],.tup [.str [78,77,84,79,75,69,78,83],.tup [],.str [78,77,84,79,75,69,78,83]],.tup [.str [73,68],.tup [],.str [73,68]],.tup [.str [101,110,117,109,101,114,97,116,105,111,110],.tup [.str [117],.str [118]],.str [40,117,124,32,118,41]],.tup [.str [110,111,116,97,116,105,111,110],.tup [.str [103]],.str [78,79,84,65,84,73,79,78,32,40,103,41]]]:=
 .cons (.mk .cdata rfl (by kernel_rfl)) (.cons (.mk .nmtokens rfl (by kernel_rfl)) (.cons (.mk .id rfl (by kernel_rfl)) (.cons (.mk .enum rfl (by kernel_rfl)) (.cons (.mk .nota rfl (by kernel_rfl)) .nil))))
inductive ValT:V→Prop
 | mk {raw ps}:TV raw ps→(ps.map List.length).sum+ps.length≤1000000→(ljoin [] ps).length≤1000→raw.length≤1000000→raw.all (nin [34,39])=true→(quots.all fun q=>fine (q++raw++q))=true →
   Txt.replace ⟨(ljoin [] ps).toArray⟩ "  " " " = ⟨(collap (ljoin [] ps)).toArray⟩→(vls.elem (ljoin [] ps)&&vls.elem (collap (ljoin [] ps)))=true→ValT (.tup [.str (ljoin [] ps),.str raw])
theorem ValT.al:Al ValT [.tup [.str [117],.str [117]],.tup [.str [117,32,32,118],.str [117,32,32,118]],.tup [.str [118,62,119],.str [118,62,119]],.tup [.str [120,38,121],.str [120,38,35,51,56,59,121]],.tup [.str [34],.str [38,113,117,111,116,59]]]:=
 have le {i j:Nat} (h:Nat.ble i j=true):i≤j:=lbt h
 .cons (.mk (ps:=[[117]]) (.last rfl rfl rfl) (le rfl) (le rfl) (le rfl) rfl rfl (by kernel_rfl) rfl)
  (.cons (.mk (ps:=[[117,32,32,118]]) (.last rfl rfl rfl) (le rfl) (le rfl) (le rfl) rfl rfl (by kernel_rfl) rfl)
   (.cons (.mk (ps:=[[118,62,119]]) (.last rfl rfl rfl) (le rfl) (le rfl) (le rfl) rfl rfl (by kernel_rfl) rfl)
    (.cons (.mk (ps:=[[120],[38],[121]]) (.ref (x:=[120]) rfl rfl .amp rfl (.last rfl rfl rfl)) (le rfl) (le rfl) (le rfl) rfl rfl (by kernel_rfl) rfl)
     (.cons (.mk (ps:=[[],[34]]) (.ref1 (x:=[]) rfl rfl .quot) (le rfl) (le rfl) (le rfl) rfl rfl (by kernel_rfl) rfl) .nil))))
inductive AttI (nm:List Nat) (v:V) (ws:List (List Nat)) (e:List Nat):List Nat→Prop
 | mk {t u}:Att1 t u nm v→Jn ws e u→AttI nm v ws e t
inductive DfI (k md:List Nat) (v:V) (ws:List (List Nat)) (e:List Nat):List Nat→Prop
 | mk {s u r}:s∈spx→nsp u=true→Dft k u r md v→Jn ws e r→DfI k md v ws e (s++u)
structure DrA (tl:List (List Nat)) (nm k:List Nat) (cs:List V) (md:List Nat) (v:V):Prop where
 f:tl.all fine=true
 n:tl.length≤4
 i:∀ {ws e t},Jn (tl++ws) e t→AttI nm (arule (.str k) (.tup cs) (.str md) v) ws e t
 o:okV (.tup [.str k,.tup cs,.str md,v])=true
theorem DrA.of {dws:List (List Nat)} {nm told k md:List Nat} {cs:List V} {v:V} (hn:nm∈lp) (hk:KndT told k cs) (hf:fine told=true) (f:dws.all fine=true) (n:dws.length≤2) (hv:hv v=true) (o:okV (.tup [.str k,.tup cs,.str md,v])=true)
  (i:∀ {ws e t},Jn (dws++ws) e t→DfI k md v ws e t):DrA (nm::told::dws) nm k cs md v where
 f:=all_c (nmx rfl hn).f (all_c hf f)
 n:=Nat.succ_le_succ (Nat.succ_le_succ n)
 i:=fun {ws e t} hj=>by
  replace hj:Jn (nm::(told::(dws++ws))) e t:=hj
  refine Jn.c hj fun _ _ k1 hj=>?_
  refine Jn.c hj fun _ _ k2 hj=>?_
  obtain ⟨k3,h1,h2,h3⟩:=i hj
  exact .mk (.mk (spx1 k1) (nmx rfl hn).nm (spx1 k2) hk (spx1 k3) h1 h2 hv) h3
 o:=o
noncomputable def upW (md:List Nat):List Nat:=cond (md==reqS) [82,69,81,85,73,82,69,68] [73,77,80,76,73,69,68]
theorem df_r {k md:List Nat} (hm:md∈[reqS,impS]) (hj:Jn ([[35]++upW md]++ws) e t):DfI k md .none ws e t:=by
 replace hj:Jn (([35]++upW md)::ws) e t:=hj
 cases hm with
 | head=>
  refine Jn.c hj fun _ _ k1 hj=>?_
  exact .mk k1 rfl (fun hl h=>c_858r (n:=_+5) hl h) hj
 | tail _ hm=>
  obtain rfl:=List.mem_singleton.mp hm
  refine Jn.c hj fun _ _ k1 hj=>?_
  exact .mk k1 rfl (fun hl h=>c_858i (n:=_+5) hl h) hj
noncomputable def fxs (md:List Nat):List (List Nat):=cond (md==fixS) [fixW] []
theorem df_d {k md q raw:List Nat} {ps:List (List Nat)} (hm:md∈[dftS,fixS]) (hq:q∈quots) (h1:TV raw ps) (h2:(ps.map List.length).sum+ps.length≤1000000) (h3:(ljoin [] ps).length≤1000) (h4:raw.all (nin [34,39])=true)
  (hj:Jn ((fxs md++[q++raw++q])++ws) e t):DfI k md (.str (norm k (ljoin [] ps))) ws e t:=by
 have h3:=Nat.le_trans h3 (lbt rfl:1000≤1000000)
 cases hm with
 | head=>
  replace hj:Jn ((q++raw++q)::ws) e t:=hj
  refine Jn.c hj fun _ _ k1 hj=>?_
  rw [qas]
  exact .mk k1 (quo_of hq h4).nsp (fun hl h=>c_858d (quo_of hq h4) h1 h2 h3 hl h) hj
 | tail _ hm=>
  obtain rfl:=List.mem_singleton.mp hm
  replace hj:Jn (fixW::((q++raw++q)::ws)) e t:=hj
  refine Jn.c hj fun _ _ k1 hj=>?_
  refine Jn.c hj fun _ _ k2 hj=>?_
  rw [qas]
  exact .mk k1 rfl (fun hl h=>c_858f (spx1 k2) (quo_of hq h4) h1 h2 h3 hl h) hj
theorem okA.z {k md:List Nat} {cs:List V} (h:okA k cs=true) (hm:md∈mds):okV (.tup [.str k,.tup cs,.str md,.none])=true:=(band (List.all_eq_true.mp h _ hm)).1
theorem okA.s {k md v:List Nat} {cs:List V} (h:okA k cs=true) (hm:md∈mds) (hv:v∈vls):okV (.tup [.str k,.tup cs,.str md,.str v])=true:=List.all_eq_true.mp (band (List.all_eq_true.mp h _ hm)).2 _ hv
theorem norm_vls {k v:List Nat} (h:(vls.elem v&&vls.elem (collap v))=true):norm k v∈vls:=by
 unfold norm
 cases k==[67,68,65,84,65]
 ·exact List.mem_of_elem_eq_true (band h).2
 ·exact List.mem_of_elem_eq_true (band h).1
theorem eC:(Str.ofString "CDATA").cps.toList=[67,68,65,84,65]:=by kernel_rfl
theorem RpE.nrm {K:VK} {k v:List Nat} (e:Txt.replace ⟨v.toArray⟩ "  " " " = ⟨(collap v).toArray⟩) (hl:v.length≤1000) (h:K (.str (norm k v)) σ):RpE K σ "CDATA" "  " " " (.str k) (.str v):=.mk e hl (by
 rw [show (("CDATA" : Str)).cps.toList=[67,68,65,84,65] from eC]
 exact h)
theorem mull_fx {K:VK} {b:Addr} {md:List Nat} (hm:(b,AObj.list [.str fixW])∈σ) (h:K (.ro ((fxs md).map .str)) σ):BnE σ K .Mult (.ref b) (.int (if (md==fixS)=true then 1 else 0)):=by
 unfold fxs at h
 cases e:md==fixS<;>rw [e] at h
 ·exact .mull hm (lbt rfl) (.inl rfl) h
 ·exact .mull hm (lbt rfl) (.inr rfl) h
theorem fxs_map {x y z w:List Nat} {md:List Nat}:[V.str x,.str y,.str z]++(fxs md).map .str++[.str w]=(x::y::z::(fxs md++[w])).map .str:=by
 unfold fxs
 cases md==fixS<;>rfl
theorem fxs_fine {md w:List Nat} (h:fine w=true):(fxs md++[w]).all fine=true∧(fxs md++[w]).length≤2:=by
 unfold fxs
 cases md==fixS
 ·exact ⟨all_c h rfl,lbt rfl⟩
 ·exact ⟨all_c rfl (all_c h rfl),lbt rfl⟩
theorem up_md {md:List Nat} (h:md∈[reqS,impS]):Txt.upper ⟨md.toArray⟩=⟨(upW md).toArray⟩:=by
 cases h with
 | head=>kernel_rfl
 | tail _ h=>obtain rfl:=List.mem_singleton.mp h;kernel_rfl
theorem c_1121 (hs:Src2 o) (h:∀ el nm k cs md v tl o',el∈lb→DrA tl nm k cs md v→Src2 o'→Q (.ro [(Rw.att el nm k cs md v).v,.ro ((el::tl).map .str)]) ((a,o')::σ)):CallOK (XX B) (n+4) (.ref 1121) [.ref a] ((a,o)::σ) Q R:=by
 refine CallOK.into ?_
 refine ok_1121.go rfl ?_
 refine c_1093s (ls:=lb) (n:=n+1) hs rfl fun el o' hel ho=>?_
 refine c_1093s (ls:=lp) (n:=n+1) ho rfl fun nm o' hn ho=>?_
 refine .addl .ro .ro (lbt rfl) ?_
 refine c_1093 (n:=n+1) ho .ro rfl fun z o' hz ho=>?_
 obtain ⟨hk,hf,hok⟩:=KndD.al.mem hz
 refine c_1093s (ls:=mds) (n:=n+1) ho rfl fun md o' hmd ho=>?_
 refine .inL (ls:=[reqS,impS]) .ro .map (ifb (fun e=>?_) fun e=>?_)
 ·have hm:md∈[reqS,impS]:=List.mem_of_elem_eq_true ((Bool.eq_iff_iff.mpr (by rw [List.any_eq_true,List.elem_eq_mem,decide_eq_true_iff];exact ⟨fun ⟨x,hx,e⟩=>eq_of_beq e▸hx,fun h=>⟨_,h,beq_self_eq_true _⟩⟩)).symm.trans e)
  have u1:(upW md).length≤1000:=mem_p (p:=fun md=>Nat.ble (upW md).length 1000) rfl hm |> lbt
  refine .upp (up_md hm) u1 ?_
  refine .cat (.app (.var (lbt rfl)) (.var (Nat.le_trans u1 (lbt rfl)))) rfl ?_
  refine .addl .ro .ro (lbt rfl) ?_
  exact .mk .refl (h el nm _ _ md .none [nm,_,[35]++upW md] o' hel (.of hn hk hf (all_c (mem_p (p:=fun md=>fine ([35]++upW md)) rfl hm) rfl) (lbt rfl) rfl (okA.z hok hmd) (df_r hm)) ho)
 ·have hm:md∈[dftS,fixS]:=by
   have:=mem_p (p:=fun md=>[reqS,impS].any (· == md)||[dftS,fixS].elem md) rfl hmd
   simp only [e,Bool.false_or] at this
   exact List.mem_of_elem_eq_true this
  refine c_1093 (n:=n+1) ho .ro rfl fun z o' hz ho=>?_
  obtain ⟨h1,h2,h3,h4,h5,h6,h7,h8⟩:=ValT.al.mem hz
  refine fun b=>?_
  refine .intB ?_
  refine mull_fx (.head _) ?_
  refine .addl .ro .ro (by unfold fxs;cases md==fixS<;>exact lbt rfl) ?_
  refine CallOK.pick (.tail .head) ?_
  refine c_1107 (n:=n) ho h4 fun q o' hq ho=>?_
  refine .addl .ro .ro (by unfold fxs;cases md==fixS<;>exact lbt rfl) ?_
  refine RpE.nrm h7 h3 ?_
  have f:=fxs_fine (md:=md) (fq h6 hq)
  refine .mk (.take .head (.drop .refl)) ((congrArg (fun vs=>Q (.ro [(Rw.att el nm _ _ md (.str (norm _ (ljoin [] _)))).v,.ro vs]) ((a,o')::σ)) fxs_map).mpr ?_)
  exact h el nm _ _ md (.str (norm _ (ljoin [] _))) _ o' hel (.of hn hk hf f.1 f.2 rfl (okA.s hok hmd (norm_vls h8)) (df_d hm hq h1 h2 h3 h5)) ho
end
section
variable {B:Bun} {n:Nat} {σ:Store} {Q:V→Store→Prop} {R:Prop} {a b:Addr} {o:AObj} {t r e:List Nat} {ws:List (List Nat)} {rs:List Rw}
theorem drw_a1 {el nm k md:List Nat} {cs:List V} {v:V} {tl:List (List Nat)} (he:el∈lb) (h:DrA tl nm k cs md v):Drw [.att el nm k cs md v] atW (el::tl):=
 .of (.tail _ (.head _)) (nmx rfl he) h.f (Nat.le_trans h.n (lbt rfl)) (fun hs hj=>by
   obtain ⟨h1,h2⟩:=h.i (ws:=[]) (by rw [List.append_nil];exact hj)
   cases h2
   exact Inn.att (rs:=[.att el nm k cs md v]) (nmx rfl he).nm (.cons h1 (.nil hs)) (lbt rfl) fun h=>h)
  (all_c h.o rfl) (no_el rfl) (lbt rfl) (List.cons_ne_nil _ _)
theorem drw_a2 {el nm k md nm' k' md':List Nat} {cs cs':List V} {v v':V} {tl tl':List (List Nat)} (he:el∈lb) (h:DrA tl nm k cs md v) (h':DrA tl' nm' k' cs' md' v'):Drw [.att el nm k cs md v,.att el nm' k' cs' md' v'] atW ((el::tl)++tl'):=
 .of (.tail _ (.head _)) (nmx rfl he) (by show (tl++tl').all fine=true;rw [List.all_append,h.f,h'.f];rfl) (by show (tl++tl').length≤8;rw [List.length_append];exact Nat.add_le_add h.n h'.n) (fun hs hj=>by
   obtain ⟨h1,h2⟩:=h.i hj
   obtain ⟨h3,h4⟩:=h'.i (ws:=[]) (by rw [List.append_nil];exact h2)
   cases h4
   exact Inn.att (rs:=[.att el nm k cs md v,.att el nm' k' cs' md' v']) (nmx rfl he).nm (.cons h1 (.cons h3 (.nil hs))) (lbt rfl) fun h=>h)
  (all_c h.o (all_c h'.o rfl)) (no_el rfl) (lbt rfl) (List.cons_ne_nil _ _)
theorem lsl_tail {α:Type} {x:α} {l:List α}:lsl (x::l) (some 1) none=l:=by
 show ((x::l).take (x::l).length).drop (lclip (x::l).length ((1:Nat):Int))=l
 rw [lclip_nat (n:=(x::l).length) (j:=1) (Nat.le_add_left 1 _),List.take_length]
 rfl
noncomputable abbrev ρ1142 (a:Addr) (d:Int) (y:V) (W:List Nat) (b:Addr) (ws:List (List Nat)) (m:Option V) (f:Option V) (k:Option V):LV:=.c (.ref a) (.s (.int d) (.s y (.s (.str W) (.s (.ref b) (.s (.ro (ws.map .str)) (.o m (.o f (.o k .n))))))))
theorem lp_1142 {q:QK} {d:Int} {y:V} {W:List Nat} {ws0:List (List Nat)} {m:Option V}:∀ (ws:List (List Nat)) (f:List Nat) (k:Option V) {o:AObj} {τ:Store},Src2 o→Into τ ((a,o)::σ)→(ws=[]→τ=(a,o)::σ)→ws.all fine=true→f.length+ws.length * 43≤1000→(∀ t k o',Src2 o'→t.length≤ws.length * 43→(∀ e,Jn ws e (t++e))→q.nx (ρ1142 a d y W b ws0 m (some (.str (f++t))) k) ((a,o')::σ)) →
  ForI (wS (cok (XX B) (n+4) R) i_1142.lb) (.nm 8) q (ws.map .str) (ρ1142 a d y W b ws0 m (some (.str f)) k) τ
 | [],f,k,o,τ,ho,_,hτ,hw,hf,h=>(congrArg (fun f=>q.nx (ρ1142 a d y W b ws0 m (some (.str f)) k) τ) (List.append_nil f)).mp (hτ rfl▸h [] k o ho (Nat.zero_le _) fun _=>.nil)
 | w::ws,f,k,o,τ,ho,hτ,_,hw,hf,h=>by
  have hw:=band (List.all_cons▸hw)
  have lw:=(Fin.of hw.1).n
  rw [List.length_cons] at hf
  refine CallOK.pre hτ (c_1100 (n:=n+1) ho fun s o' hs ho=>?_)
  have ls:=mem_le (k:=3) rfl hs
  have s1:Sz f 1:=.var (by omega)
  have s2:Sz s 1:=.var (by omega)
  refine .cat (.app s1 s2) rfl ?_
  refine .cat (.app (.app s1 s2) (.var (by omega))) rfl ?_
  refine lp_1142 ws (f++s++w) _ ho .refl (fun _=>rfl) hw.2 ?_ fun t k o' ho lt hj=>?_
  ·rw [List.length_append,List.length_append]
   omega
  have e1:(f++s++w)++t=f++(s++(w++t)):=by rw [List.append_assoc,List.append_assoc]
  rw [e1]
  refine h _ _ _ ho ?_ fun e=>?_
  ·rw [List.length_append,List.length_append,List.length_cons]
   omega
  ·rw [List.append_assoc,List.append_assoc]
   exact .cons hs (hj e)
theorem t_1142 {d:Int} {y:V} {W:List Nat} {m:Option V} {τ:Store} (hD:Drw rs W ws) (hW:W.length≤10) (hs:Src2 o) (hτ:Into τ ((a,o)::(b,.list (rs.map Rw.v))::σ)) (h:∀ t e o',e∈ends→Jn ws e t→Src2 o'→Q (.ro [.ro (rs.map Rw.v),.str ([60,33]++(W++(t++[62])))]) ((a,o')::σ)) :
  wS (cok (XX B) (n+4) R) i_1142.nx.nx.nx.nx.nx (ρ1142 a d y W b ws m none none) τ (retK fun y σ=>IntoE Q y σ):=by
 have l9:=Nat.mul_le_mul_right 43 hD.n
 refine .cat (.app (.var (lbt rfl)) (.var (Nat.le_trans hW (lbt rfl)))) rfl ?_
 refine .ro ?_
 refine lp_1142 ws _ none hs hτ (fun e=>absurd e hD.w) hD.f ?_ fun t k o' ho lt hj=>?_
 ·rw [List.length_append]
  show 2+W.length+_≤_
  omega
 refine .lst rfl (.tail .head) ?_
 refine c_1093s (ls:=ends) (n:=n+2) ho rfl fun e o' he ho=>?_
 have s1:Sz ([60,33]++W) 1:=.var (by rw [List.length_append];exact Nat.le_trans (Nat.add_le_add_left hW _) (lbt rfl))
 have s2:Sz t 1:=.var (by omega)
 have s3:Sz e 1:=.var (Nat.le_trans (mem_le (k:=1) rfl he) (lbt rfl))
 refine .cat (.app (.app s1 s2) s3) rfl ?_
 refine .cat (.app (.app (.app s1 s2) s3) (.var (lbt rfl))) rfl ?_
 refine .mk .refl ((congrArg (fun x=>Q (.ro [.ro (rs.map Rw.v),.str x]) ((a,o')::σ)) ?_).mpr (h (t++e) e o' he (hj e) ho))
 rw [List.append_assoc,List.append_assoc,List.append_assoc,List.append_assoc]
noncomputable abbrev ρ2 (a:Addr) (d:Int) (y:V) (W:List Nat):LV:=.c (.ref a) (.s (.int d) (.s y (.s (.str W) (.o none (.o none (.o none (.o none (.o none .n))))))))
theorem m_1142 {d:Int} {r:Rw} {W:List Nat} (hD:Drw [r] W ws) (hW:W∈[elW,enW,noW]) (hs:Src2 o) (h:∀ t e o',e∈ends→Jn ws e t→Src2 o'→Q (.ro [.ro ([r].map Rw.v),.str ([60,33]++(W++(t++[62])))]) ((a,o')::σ)) :
  wS (cok (XX B) (n+4) R) i_1142.nx.nx.nx (ρ2 a d (.ro [r.v,.ro (ws.map .str)]) W) ((a,o)::σ) (retK fun y σ=>IntoE Q y σ):=by
 refine .mk (.lst .ro rfl rfl) ?_
 refine fun b=>?_
 refine .mk (.lst .ro rfl rfl) ?_
 refine ifBF (Bool.not_eq_true' _ |>.mp (mem_p (p:=fun W=>!(W==atW)) rfl hW)) ?_
 refine .mk ?_
 exact t_1142 (rs:=[r]) hD (mem_le (k:=10) rfl hW) hs (.take (.tail .head) (.take .head .refl)) h
theorem m_1142a {d:Int} (hs:Src2 o) (h:∀ rs ws t e o',Drw rs atW ws→e∈ends→Jn ws e t→Src2 o'→Q (.ro [.ro (rs.map Rw.v),.str ([60,33]++(atW++(t++[62])))]) ((a,o')::σ)) {el nm k md:List Nat} {cs:List V} {v:V} {tl:List (List Nat)} (he:el∈lb) (hD:DrA tl nm k cs md v) :
  wS (cok (XX B) (n+4) R) i_1142.nx.nx.nx (ρ2 a d (.ro [(Rw.att el nm k cs md v).v,.ro ((el::tl).map .str)]) atW) ((a,o)::σ) (retK fun y σ=>IntoE Q y σ):=by
 refine .mk (.lst .ro rfl rfl) ?_
 refine fun b=>?_
 refine .mk (.lst .ro rfl rfl) ?_
 refine .mk ?_
 refine CallOK.pick (.tail .head) ?_
 refine c_1086 (k:=2) (n:=n+3) hs rfl fun d o' hd ho=>?_
 refine ifb (fun _=>?_) fun _=>?_
 ·refine c_1121 (n:=n) ho fun el2 nm' k' cs' md' v' tl' o' he2 hD2 ho=>?_
  refine .mk (.list (.tail _ (.head _))) ?_
  refine .mk (.lst .ro rfl rfl) ?_
  refine .mk (a:=none) (b:=some 2) rfl rfl (.tup (lbt rfl) (Nat.ne_of_lt (lbt rfl))) ?_
  refine .mk (.lst .ro rfl rfl) ?_
  refine .mk (a:=some 2) (b:=none) rfl rfl (.tup (lbt rfl) (Nat.ne_of_lt (lbt rfl))) ?_
  refine .addt (List.cons_ne_nil _ _) (List.cons_ne_nil _ _) (lbt rfl) ?_
  refine .app (.tail .head) (lbt rfl) ?_
  refine .mk (.lst .ro rfl rfl) ?_
  have l2:((el2::tl').map V.str).length≤10:=by rw [List.length_map];exact Nat.le_trans (Nat.succ_le_succ hD2.n) (lbt rfl)
  refine .mk (a:=some 1) (b:=none) rfl rfl (.lst .ro (Nat.le_trans l2 (lbt rfl))) ?_
  have e1:lsl ((el2::tl').map V.str) (some 1) none=tl'.map V.str:=lsl_tail
  generalize lsl ((el2::tl').map V.str) (some 1) none=z at e1 ⊢
  subst e1
  have l1:((el::tl).map V.str).length≤10:=by rw [List.length_map];exact Nat.le_trans (Nat.succ_le_succ hD.n) (lbt rfl)
  have l3:(tl'.map V.str).length≤10:=by rw [List.length_map];exact Nat.le_trans hD2.n (lbt rfl)
  refine .addl .ro .ro (Nat.le_trans (Nat.add_le_add l1 l3) (lbt rfl)) ?_
  have e2:(el::tl).map V.str++tl'.map V.str=((el::tl)++tl').map V.str:=List.map_append.symm
  generalize (el::tl).map V.str++tl'.map V.str=z at e2 ⊢
  subst e2
  exact t_1142 (rs:=[.att el nm k cs md v,.att el nm' k' cs' md' v']) (drw_a2 he hD hD2) (lbt rfl) ho .refl fun t e o' h1 h2 h3=>h _ _ t e o' (drw_a2 he hD hD2) h1 h2 h3
 ·exact t_1142 (rs:=[.att el nm k cs md v]) (drw_a1 he hD) (lbt rfl) ho .refl fun t e o' h1 h2 h3=>h _ _ t e o' (drw_a1 he hD) h1 h2 h3
theorem k_law {f:Addr} (h:f∈[1114,1121,1128,1135]):keepIn (XX B).K (.ref f)=true:=mem_p (p:=fun f=>keepIn (XX B).K (.ref f)) (by kernel_rfl) h
theorem c_1142 (hs:Src2 o) (h:∀ rs W ws t e o',Drw rs W ws→W∈[elW,atW,enW,noW]→e∈ends→Jn ws e t→Src2 o'→Q (.ro [.ro (rs.map Rw.v),.str ([60,33]++(W++(t++[62])))]) ((a,o')::σ)):CallOK (XX B) (n+5) (.ref 1142) [.ref a] ((a,o)::σ) Q R:=by
 refine CallOK.into ?_
 refine ok_1142.go rfl ?_
 refine c_1086 (k:=5) (n:=n+3) hs rfl fun d o' hd ho=>?_
 have h5:=(by decide:∀ d<5,d=0∨d=1∨d=2∨d=3∨d=4) d hd
 rcases h5 with rfl | rfl | rfl | rfl | rfl
 ·refine .mk (.lst .ro rfl rfl) ⟨k_law (.head _),c_1114 (n:=n) ho fun r ws o' hD ho=>?_⟩
  refine .mk (.lst .ro rfl rfl) ?_
  exact m_1142 hD (.head _) ho fun t e o'=>h _ _ _ t e o' hD (.head _)
 ·refine .mk (.lst .ro rfl rfl) ⟨k_law (.tail _ (.head _)),c_1121 (n:=n) ho fun el nm k cs md v tl o' he hD ho=>?_⟩
  refine .mk (.lst .ro rfl rfl) ?_
  exact m_1142a ho (fun rs ws t e o' hD=>h rs _ ws t e o' hD (.tail _ (.head _))) he hD
 ·refine .mk (.lst .ro rfl rfl) ⟨k_law (.tail _ (.head _)),c_1121 (n:=n) ho fun el nm k cs md v tl o' he hD ho=>?_⟩
  refine .mk (.lst .ro rfl rfl) ?_
  exact m_1142a ho (fun rs ws t e o' hD=>h rs _ ws t e o' hD (.tail _ (.head _))) he hD
 ·refine .mk (.lst .ro rfl rfl) ⟨k_law (.tail _ (.tail _ (.head _))),c_1128 (n:=n) ho fun r ws o' hD ho=>?_⟩
  refine .mk (.lst .ro rfl rfl) ?_
  exact m_1142 hD (.tail _ (.head _)) ho fun t e o'=>h _ _ _ t e o' hD (.tail _ (.tail _ (.head _)))
 ·refine .mk (.lst .ro rfl rfl) ⟨k_law (.tail _ (.tail _ (.tail _ (.head _)))),c_1135 (n:=n) ho fun r ws o' hD ho=>?_⟩
  refine .mk (.lst .ro rfl rfl) ?_
  exact m_1142 hD (.tail _ (.tail _ (.head _))) ho fun t e o'=>h _ _ _ t e o' hD (.tail _ (.tail _ (.tail _ (.head _))))
end
section
variable {B:Bun} {n:Nat} {σ:Store} {Q:V→Store→Prop} {R:Prop} {a:Addr} {o:AObj}
theorem b01 {b:Bool}:(0:Int)≤(if b=true then 1 else 0)∧(if b=true then (1:Int) else 0)<2147483647:=by cases b<;>decide
theorem c_1079 {xs:List Int} (hz:xs.length≤1000000) (h:∀ a o',Src2 o'→Q (.ref a) ((a,o')::σ)):CallOK (XX B) (n+1) (.ref 1079) [.ro (xs.map .int),.int 0] σ Q R:=by
 have hz':(xs.map V.int).length≤10000000:=by rw [List.length_map];exact Nat.le_trans hz (lbt rfl)
 have fin:∀ (x:Int),wS (cok (XX B) n R) i_1079.nx.nx (.c (.ro (xs.map .int)) (.c (.int 0) (.s (.int x) (.o none (.o none .n))))) σ (retK Q):=fun x=>by
  refine .intI (.intI (.max ?_))
  refine .intI (.mod (by decide) ?_)
  refine .mul (mulR (by decide) (by decide)) (.mul (mulR (by decide) (by decide)) ?_)
  refine .mul (mulR (by decide) (by decide)) ?_
  refine .mul (mulR (by decide) (by decide)) ?_
  refine .intI (.mod (by decide) ?_)
  have p:∀ {K:VK},K (.int 1000000000000000000) σ→BnE σ K .Pow (.int 10) (.int 18):=fun h=>.pow (by decide) (by decide) (by decide) h
  refine p (.intB ?_)
  refine .mul (mulR b01.1 b01.2) fun a=>?_
  exact h a _ ⟨Int.fmod_nonneg_of_pos _ (by decide),Int.fmod_lt_of_pos _ (by decide)⟩
 refine ok_1079.go rfl ?_
 refine .lenL .ro hz' ?_
 refine ifd (fun e=>?_) fun _=>fin 0
 cases xs with
 | nil=>exact absurd e (Int.lt_irrefl _)
 | cons x xs=>
  refine .mk (.lst .ro (j:=0) (idx_nat (Nat.zero_lt_succ _) hz') rfl) ?_
  exact fin x
structure Dr where
 rs:List Rw
 W:List Nat
 t:List Nat
noncomputable def Dr.x (d:Dr):List Nat:=[60,33]++(d.W++(d.t++[62]))
noncomputable def Dr.v (d:Dr):V:=.ro [.ro (d.rs.map Rw.v),.str d.x]
inductive Dr.OK (d:Dr):Prop
 | mk {ws e}:Drw d.rs d.W ws→d.W∈[elW,atW,enW,noW]→e∈ends→Jn ws e d.t→Dr.OK d
noncomputable abbrev mI (i:Nat):List Nat:=[109,48+i]
noncomputable abbrev peW:List Nat:=[60,33,69,78,84,73,84,89,32,37,32]
inductive TxI (i:Nat) (d:Dr):List Nat→Prop
 | plain:TxI i d d.x
 | ref:(lfind [34] d.x).isSome=false→(lfind [38] d.x).isSome=false→TxI i d (peW++mI i++[32,34]++d.x++[34,62,37]++mI i++[59])
 | cut {r rs}:d.rs=r::rs→(r.kd==elS)=true→TxI i d (peW++mI i++[32,39]++lsl d.x (some 10) (some (-1))++[39,62]++lsl d.x none (some 10)++[37]++mI i++[59,62])
inductive TxP:Nat→List Dr→List Nat→Prop
 | nil {i}:TxP i [] []
 | cons {i d ds b u r}:b∈bets→TxI i d u→TxP (i+1) ds r→TxP i (d::ds) (b++(u++r))
theorem Dr.OK.len {d:Dr} (h:d.OK):d.x.length≤500:=by
 obtain ⟨h1,h2,h3,h4⟩:=h
 have k1:=(h4.fin h3 h1.f).n
 have k2:=Nat.mul_le_mul_right 43 h1.n
 have k3:=mem_le (k:=8) rfl h2
 unfold Dr.x
 simp only [List.length_append,List.length_cons,List.length_nil]
 omega
theorem lsl_le {α:Type} (l:List α) (a b:Option Int):(lsl l a b).length≤l.length:=by
 unfold lsl
 simp only [List.length_drop,List.length_take]
 omega
theorem str_i {K:VK} {i:Nat} (hi:i<3) (h:K (.str [48+i]) σ):BoE σ K .str [.int (i:Int)]:=by
 have h3:i=0∨i=1∨i=2:=by omega
 have go:∀ {k:Int} {l:List Nat},k.natAbs.log2<1920→(Str.ofString (toString k)).cps.toList=l→K (.str l) σ→BoE σ K .str [.int k]:=fun h1 h2 h=>.str h1 (h2▸h)
 rcases h3 with rfl | rfl | rfl
 ·exact go (by decide) (by kernel_rfl) h
 ·exact go (by decide) (by kernel_rfl) h
 ·exact go (by decide) (by kernel_rfl) h
theorem ifand {G:LV→Store→BK→Prop} {ρ:LV} {K:BK} {b:Bool} (hf:K false σ) (ht:b=true→G ρ σ K):IfE (andB G ρ K σ) b:=ifb ht fun _=>hf
noncomputable abbrev ρ1156 (a:Addr) (all:List Dr) (f:Option V) (v1 v2 v3 v4 v5 v6:Option V):LV:=.c (.ref a) (.c (.ro (all.map Dr.v)) (.o f (.o v1 (.o v2 (.o v3 (.o v4 (.o v5 (.o v6 .n))))))))
theorem lp_1156 {q:QK} {all:List Dr} (ha:all.length≤3):∀ (ds:List Dr) (i:Nat) (f:List Nat) (v1 v2 v3 v4 v5 v6:Option V) {o:AObj},all.drop i=ds→i+ds.length=all.length→(∀ d∈ds,Dr.OK d)→f.length≤3000 * i→Src2 o→(∀ t v1 v2 v3 v4 v5 v6 o',Src2 o'→t.length≤3000 * ds.length→TxP i ds t→q.nx (ρ1156 a all (some (.str (f++t))) v1 v2 v3 v4 v5 v6) ((a,o')::σ)) →
  ForI (wS (cok (XX B) (n+4) R) i_1156.lb) (.nm 3) q ((List.range' i ds.length).map fun i:Nat=>V.int i) (ρ1156 a all (some (.str f)) v1 v2 v3 v4 v5 v6) ((a,o)::σ)
 | [],i,f,v1,v2,v3,v4,v5,v6,o,_,_,_,hf,ho,h=>(congrArg (fun f=>q.nx (ρ1156 a all (some (.str f)) v1 v2 v3 v4 v5 v6) ((a,o)::σ)) (List.append_nil f)).mp (h [] _ _ _ _ _ _ _ ho (Nat.zero_le _) .nil)
 | d::ds,i,f,v1,v2,v3,v4,v5,v6,o,hd,hi,hk,hf,ho,h=>by
  rw [List.length_cons] at hi
  have hlt:i<all.length:=by omega
  have hi3:i<3:=by omega
  have hget:all[i]? = some d:=by rw [← Nat.add_zero i,← List.getElem?_drop,hd];rfl
  have hgv:(all.map Dr.v)[i]? = some d.v:=by rw [List.getElem?_map,hget];rfl
  have hlv:(all.map Dr.v).length≤10000000:=by rw [List.length_map];omega
  have hix:∀ {o:AObj},Ix ((a,o)::σ) (.ro (all.map Dr.v)) (.int (i:Int)) d.v:=.lst .ro (idx_nat (by rw [List.length_map];exact hlt) hlv) hgv
  obtain ⟨hw,hW,he,hj⟩:=id (hk d (.head _))
  have hxl:=(hk d (.head _)).len
  have z:∀ {l:List Nat} {j:Nat},l.length≤j→j≤1000000→Sz l 1:=fun h k=>.var (Nat.le_trans h k)
  have fin:∀ (u:List Nat) (v5 v6:Option V) (y:V) (o':AObj),TxI i d u→u.length≤2000→Src2 o'→wS (cok (XX B) (n+4) R) i_1156.lb.nx.nx.nx (ρ1156 a all (some (.str f)) (some (.int (i:Int))) (some (.str u)) (some y) (some (.str (mI i))) v5 v6) ((a,o')::σ) (q.lp (ForI (wS (cok (XX B) (n+4) R) i_1156.lb) (.nm 3) q ((List.range' (i+1) ds.length).map fun i:Nat=>V.int i))):=fun u v5 v6 y o' hu lu ho=>by
   refine c_1149 (n:=n+1) ho fun b o' hb ho=>?_
   have lb:=mem_le (k:=30) rfl hb
   have s1:Sz f 1:=.var (by omega)
   have s2:Sz b 1:=.var (by omega)
   refine .cat (.app s1 s2) rfl ?_
   refine .cat (.app (.app s1 s2) (.var (by omega))) rfl ?_
   refine lp_1156 ha ds (i+1) (f++b++u) _ _ _ _ _ _ (by rw [← List.drop_drop,hd];rfl) (by omega) (fun d hd=>hk d (.tail _ hd)) ?_ ho fun t v1 v2 v3 v4 v5 v6 o' ho lt ht=>?_
   ·rw [List.length_append,List.length_append]
    omega
   ·have e1:(f++b++u)++t=f++(b++(u++t)):=by rw [List.append_assoc,List.append_assoc]
    rw [e1]
    refine h _ _ _ _ _ _ _ _ ho ?_ (.cons hb hu ht)
    rw [List.length_append,List.length_append,List.length_cons]
    omega
  have sl:∀ {l:List Nat},Nat.ble l.length 20=true→Sz l 1:=fun h=>.var (Nat.le_trans (lbt h) (lbt rfl))
  have sm:Sz (mI i) 1:=sl rfl
  have sx:Sz d.x 1:=.var (by omega)
  refine .mk hix (.mk (.lst .ro rfl rfl) ?_)
  refine c_1086 (k:=6) (n:=n+3) ho rfl fun w o' hw' ho=>?_
  refine str_i hi3 ?_
  refine .cat (.app (sl rfl) (sl rfl)) rfl ?_
  refine ifand ?F fun _=>ifand ?F fun e1=>ifb (fun e2=>?_) fun _=>IfE.go ?F
  case F=>
   refine .mk ?_
   refine ifand ?F2 fun _=>?_
   case F2=>exact .mk (fin d.x _ _ _ _ .plain (by omega) ho)
   refine .mk hix (.mk (.lst .ro rfl rfl) ?_)
   have ht:=fun r rs (e:d.rs=r::rs)=>TxI.cut (i:=i) e
   have hl2:=hw.l
   generalize hrs:d.rs=rs at ht hl2
   cases rs with
   | nil=>exact absurd hrs hw.h
   | cons r rs=>
    refine .mk (.lst .ro (j:=0) (idx_nat (Nat.zero_lt_succ _) (by rw [List.length_map];exact Nat.le_trans hl2 (lbt rfl))) rfl) ?_
    refine .mk (.tup (j:=0) (vs:=.str r.kd::.str r.nm::r.dat) (idx_nat (Nat.zero_lt_succ _) (by cases r<;>exact lbt rfl)) rfl) ?_
    refine ifb (fun e=>?_) fun _=>fin d.x _ _ _ _ .plain (by omega) ho
    have hx7:d.x.length≤10000000:=by omega
    refine .mk (a:=none) (b:=some 10) rfl rfl (.str hx7) ?_
    refine .mk (a:=some 10) (b:=some (-1)) rfl rfl (.str hx7) ?_
    have l1:=lsl_le d.x none (some 10)
    have l2:=lsl_le d.x (some 10) (some (-1))
    have s1:Sz (lsl d.x none (some 10)) 1:=.var (by omega)
    have s2:Sz (lsl d.x (some 10) (some (-1))) 1:=.var (by omega)
    refine .cat (.app (sl rfl) sm) rfl ?_
    refine .cat (.app (.app (sl rfl) sm) (sl rfl)) rfl ?_
    refine .cat (.app (.app (.app (sl rfl) sm) (sl rfl)) s2) rfl ?_
    refine .cat (.app (.app (.app (.app (sl rfl) sm) (sl rfl)) s2) (sl rfl)) rfl ?_
    refine .cat (.app (.app (.app (.app (.app (sl rfl) sm) (sl rfl)) s2) (sl rfl)) s1) rfl ?_
    refine .cat (.app (.app (.app (.app (.app (.app (sl rfl) sm) (sl rfl)) s2) (sl rfl)) s1) (sl rfl)) rfl ?_
    refine .cat (.app (.app (.app (.app (.app (.app (.app (sl rfl) sm) (sl rfl)) s2) (sl rfl)) s1) (sl rfl)) sm) rfl ?_
    refine .cat (.app (.app (.app (.app (.app (.app (.app (.app (sl rfl) sm) (sl rfl)) s2) (sl rfl)) s1) (sl rfl)) sm) (sl rfl)) rfl ?_
    refine fin _ _ _ _ _ (ht r rs rfl e) ?_ ho
    simp only [List.length_append,List.length_cons,List.length_nil]
    omega
  ·refine .cat (.app (sl rfl) sm) rfl ?_
   refine .cat (.app (.app (sl rfl) sm) (sl rfl)) rfl ?_
   refine .cat (.app (.app (.app (sl rfl) sm) (sl rfl)) sx) rfl ?_
   refine .cat (.app (.app (.app (.app (sl rfl) sm) (sl rfl)) sx) (sl rfl)) rfl ?_
   refine .cat (.app (.app (.app (.app (.app (sl rfl) sm) (sl rfl)) sx) (sl rfl)) sm) rfl ?_
   refine .cat (.app (.app (.app (.app (.app (.app (sl rfl) sm) (sl rfl)) sx) (sl rfl)) sm) (sl rfl)) rfl ?_
   refine fin _ _ _ _ _ (.ref (Bool.not_eq_true' _ |>.mp e1) (Bool.not_eq_true' _ |>.mp e2)) ?_ ho
   simp only [List.length_append,List.length_cons,List.length_nil]
   omega
theorem c_1156 {ds:List Dr} (hs:Src2 o) (hd:ds.length≤3) (hk:∀ d∈ds,Dr.OK d) (h:∀ t b o',TxP 0 ds t→b∈bets→t.length≤10000→Src2 o'→Q (.str (t++b)) ((a,o')::σ)):CallOK (XX B) (n+5) (.ref 1156) [.ref a,.ro (ds.map Dr.v)] ((a,o)::σ) Q R:=by
 have hl:(ds.map Dr.v).length=ds.length:=List.length_map ..
 refine ok_1156.go rfl ?_
 refine .lenL .ro (by omega) (.range ?_)
 refine .rng (by omega) ?_
 rw [List.range_eq_range',hl]
 refine lp_1156 hd ds 0 [] none none none none none none rfl (Nat.zero_add _) hk (Nat.zero_le _) hs fun t v1 v2 v3 v4 v5 v6 o' ho lt ht=>?_
 refine c_1149 (n:=n+1) ho fun b o' hb ho=>?_
 have lb:=mem_le (k:=30) rfl hb
 exact .cat (.app (.var (by show t.length≤_;omega)) (.var (by omega))) rfl (h t b o' ht hb (by omega) ho)
end
section
variable {R:Prop} {rows rs:List Rw} {S:RdS} {F:RdS→Prop} {A A':AttS} {el nm:List Nat} {v:V} {x:Addr}
theorem dget_in {α:Type} {G:List α} {f:α→List Nat×V} {k:List Nat}:(dget (G.map f) k).isSome=G.any fun q=>(f q).1==k:=by
 induction G with
 | nil=>rfl
 | cons q G ih=>
  rw [List.map_cons,dget_cons,List.any_cons,← ih]
  cases (f q).1==k<;>rfl
theorem dget_in' {es:List (List Nat×V)} {k:List Nat}:(dget es k).isSome=es.any fun q=>q.1==k:=by
 have:=dget_in (G:=es) (f:=id) (k:=k)
 rwa [List.map_id] at this
theorem dget_no {es:List (List Nat×V)} {k:List Nat}:dget es k=none↔k∉es.map (·.1):=by
 rw [← Option.isNone_iff_eq_none,← Option.not_isSome,dget_in',Bool.not_eq_true',List.any_eq_false,List.mem_map]
 exact ⟨fun h ⟨q,hq,e⟩=>h q hq (beq_iff_eq.mpr e),fun h q hq e=>h ⟨q,hq,beq_iff_eq.mp e⟩⟩
theorem nd_snoc {α:Type} {l:List α} {a:α} (h:l.Nodup) (k:a∉l):(l++[a]).Nodup:=
 List.nodup_append.mpr ⟨h,List.nodup_cons.mpr ⟨List.not_mem_nil,List.nodup_nil⟩,fun b hb c hc e=>k (List.mem_singleton.mp hc▸e▸hb)⟩
theorem find_mem {κ:Type} [BEq κ] [LawfulBEq κ] {es:List (κ×V)} {p:κ×V} (hn:(es.map (·.1)).Nodup) (h:p∈es):(es.find? fun q=>q.1==p.1).map (·.2)=some p.2:=by
 induction es with
 | nil=>cases h
 | cons q es ih=>
  rw [List.map_cons,List.nodup_cons] at hn
  cases h with
  | head=>rw [List.find?_cons_of_pos (p:=fun (q:κ×V)=>q.1==p.1) (beq_self_eq_true p.1)];rfl
  | tail _ h=>
   rw [List.find?_cons_of_neg (p:=fun (q:κ×V)=>q.1==p.1) fun e=>hn.1 (List.mem_map.mpr ⟨p,h,(eq_of_beq e).symm⟩)]
   exact ih hn.2 h
theorem dget_mem {es:List (List Nat×V)} {p:List Nat×V} (hn:(es.map (·.1)).Nodup) (h:p∈es):dget es p.1=some p.2:=find_mem hn h
noncomputable def elP:Rw→Option (List Nat×V)
 | .el nm M=>some (nm,M)
 | _=>none
noncomputable def no3:Rw→Option (List Nat×V×V)
 | .no nm p s=>some (nm,p,s)
 | _=>none
noncomputable def nmP:Rw→Option (List Nat×List Nat)
 | .el nm _=>some (elS,nm)
 | .no nm _ _=>some (noS,nm)
 | _=>none
noncomputable abbrev noG (q:List Nat×V×V):List Nat×V:=(q.1,notat (.str q.1) q.2.1 q.2.2)
noncomputable abbrev enG (q:List Nat×V×V×V):List Nat×V:=(q.1,entV (.str q.1) q.2.1 q.2.2.1 q.2.2.2)
noncomputable def enF (G:List (List Nat×V×V×V)):Rw→List (List Nat×V×V×V)
 | .en nm v s nt=>cond (G.any fun q=>q.1==nm) G (G++[(nm,v,s,nt)])
 | _=>G
noncomputable def ruF (G:List ((List Nat×List Nat)×V)):Rw→List ((List Nat×List Nat)×V)
 | .att el nm k cs md v=>cond (G.any fun q=>q.1==(el,nm)) G (G++[((el,nm),.tup [.str k,.tup cs,.str md,v])])
 | _=>G
noncomputable def rowOf:V→V
 | .ri _ vs=>.tup vs
 | v=>v
noncomputable def toldA (A:AttS):List ((List Nat×List Nat)×V):=A.flatMap fun a=>a.2.2.map fun p=>((a.1,p.1),rowOf p.2)
theorem dnew_map {f:List Nat×V×V×V→List Nat×V} (hf:∀ q,(f q).1=q.1) {G:List (List Nat×V×V×V)} {q:List Nat×V×V×V}:dnew (G.map f) q.1 (f q).2=(cond (G.any fun p=>p.1==q.1) G (G++[q])).map f:=by
 have e:(dget (G.map f) q.1).isSome=G.any fun p=>p.1==q.1:=by
  rw [dget_in]
  simp only [hf]
 unfold dnew
 rw [e]
 cases h:G.any fun p=>p.1==q.1 with
 | true=>rfl
 | false=>
  rw [h] at e
  show dset _ _ _=(G++[q]).map f
  rw [dset_new (Option.isNone_iff_eq_none.mp (Option.isSome_eq_false_iff.mp e)),List.map_append]
  exact congrArg _ (congrArg (fun z=>[z]) (Prod.ext (hf q).symm rfl))
structure AInv (A:AttS):Prop where
 k:(A.map (·.1)).Nodup
 i:∀ a∈A,(a.2.2.map (·.1)).Nodup
 r:∀ a∈A,∀ p∈a.2.2,∃ k c m v,p.2=arule k c m v
theorem aD_no (h:dget (aD A) el=none):el∉A.map (·.1):=by
 have:=dget_no.mp h
 rwa [show (aD A).map (·.1)=A.map (·.1) from List.map_map] at this
theorem told_no (h:el∉A.map (·.1)):((toldA A).any fun q=>q.1==(el,nm))=false:=by
 refine List.any_eq_false.mpr fun q hq e=>?_
 obtain ⟨a,ha,hq⟩:=List.mem_flatMap.mp hq
 obtain ⟨p,hp,rfl⟩:=List.mem_map.mp hq
 exact h (List.mem_map.mpr ⟨a,ha,congrArg Prod.fst (eq_of_beq e)⟩)
theorem told_app {A2:AttS}:toldA (A++A2)=toldA A++toldA A2:=List.flatMap_append
theorem dnew_mem {es:List (List Nat×V)} {k:List Nat} {v:V} {p:List Nat×V} (h:p∈dnew es k v):p∈es∨p=(k,v):=by
 unfold dnew at h
 cases e:(dget es k).isSome with
 | true=>rw [e] at h;exact .inl h
 | false=>
  rw [e,show cond false es (dset es k v)=dset es k v from rfl,dset_new (Option.isNone_iff_eq_none.mp (Option.isSome_eq_false_iff.mp e))] at h
  exact (List.mem_append.mp h).imp id List.mem_singleton.mp
theorem dnew_nd {es:List (List Nat×V)} {k:List Nat} {v:V} (h:(es.map (·.1)).Nodup):((dnew es k v).map (·.1)).Nodup:=by
 unfold dnew
 cases e:(dget es k).isSome with
 | true=>exact h
 | false=>
  have hn:=Option.isNone_iff_eq_none.mp (Option.isSome_eq_false_iff.mp e)
  show ((dset es k v).map (·.1)).Nodup
  rw [dset_new hn,List.map_append]
  exact nd_snoc h (dget_no.mp hn)
theorem AInv.put {k c m v:V} (h:AInv A) (hp:Aput el nm (arule k c m v) A A'):AInv A':=by
 cases hp with
 | new hn=>
  refine ⟨by rw [List.map_append];exact nd_snoc h.k (aD_no hn),fun a ha=>?_,fun a ha p hp=>?_⟩
  ·refine (List.mem_append.mp ha).elim (h.i a) fun ha=>?_
   cases List.mem_singleton.mp ha
   exact List.nodup_cons.mpr ⟨List.not_mem_nil,List.nodup_nil⟩
  ·refine (List.mem_append.mp ha).elim (fun ha=>h.r a ha p hp) fun ha=>?_
   cases List.mem_singleton.mp ha
   cases List.mem_singleton.mp hp
   exact ⟨k,c,m,v,rfl⟩
 | @old A1 A2 x rs hn=>
  have go:∀ {P:List Nat×Addr×List (List Nat×V)→Prop},(∀ a∈A1++(el,x,rs)::A2,P a)→(P (el,x,rs)→P (el,x,dnew rs nm (arule k c m v)))→∀ a∈A1++(el,x,dnew rs nm (arule k c m v))::A2,P a:=fun h1 h2 a ha=>by
   rcases List.mem_append.mp ha with ha | ha
   ·exact h1 a (List.mem_append_left _ ha)
   ·cases ha with
    | head=>exact h2 (h1 _ (List.mem_append_right _ (.head _)))
    | tail _ ha=>exact h1 a (List.mem_append_right _ (.tail _ ha))
  refine ⟨?_,go h.i dnew_nd,go h.r fun h1 p hp=>(dnew_mem hp).elim (h1 p) fun e=>⟨k,c,m,v,congrArg Prod.snd e⟩⟩
  have:=h.k
  rwa [List.map_append] at this ⊢
theorem told_put {k m:List Nat} {cs:List V} {v:V} (h:(A.map (·.1)).Nodup) (hp:Aput el nm (arule (.str k) (.tup cs) (.str m) v) A A'):(toldA A').Perm (cond ((toldA A).any fun q=>q.1==(el,nm)) (toldA A) (toldA A++[((el,nm),.tup [.str k,.tup cs,.str m,v])])):=by
 cases hp with
 | new hn=>
  rw [told_no (aD_no hn),told_app]
  exact .refl _
 | @old A1 A2 x rs hn=>
  rw [List.map_append,List.map_cons,List.nodup_append,List.nodup_cons] at h
  have e1:∀ {r},toldA (A1++(el,x,r)::A2)=toldA A1++((r.map fun p=>((el,p.1),rowOf p.2))++toldA A2):=told_app
  have e2:((rs.map fun p=>((el,p.1),rowOf p.2)).any fun q=>q.1==(el,nm))=(dget rs nm).isSome:=by
   rw [dget_in',List.any_map]
   congr 1
   funext p
   show ((el,p.1)==(el,nm))=_
   rw [Bool.eq_iff_iff,beq_iff_eq,beq_iff_eq,Prod.mk.injEq]
   exact ⟨fun h=>h.2,fun h=>⟨rfl,h⟩⟩
  rw [e1,e1,List.any_append,List.any_append,told_no (aD_no hn),told_no h.2.1.1,e2,Bool.or_false,Bool.false_or]
  unfold dnew
  cases e:(dget rs nm).isSome with
  | true=>exact .refl _
  | false=>
   show (toldA A1++((dset rs nm _).map _++toldA A2)).Perm (_++_++_)
   rw [dset_new (Option.isNone_iff_eq_none.mp (Option.isSome_eq_false_iff.mp e)),List.map_append,List.append_assoc,List.append_assoc,List.append_assoc]
   exact .append_left _ (.append_left _ List.perm_append_comm)
structure Inv (rows:List Rw) (S:RdS):Prop where
 es:S.es=rows.filterMap elP
 os:S.os=(rows.filterMap no3).map noG
 gs:S.gs=(rows.foldl enF []).map enG
 A:AInv S.A
 tl:(toldA S.A).Perm (rows.foldl ruF [])
 nd:(rows.filterMap nmP).Nodup
 z:S.es.length+aN S.A+S.os.length+S.gs.length≤2 * rows.length
theorem Inv.re {S':RdS} (h:Inv rows S) (e1:S'.es=S.es) (e2:S'.os=S.os) (e3:S'.gs=S.gs) (e4:S'.A=S.A):Inv rows S':=
 ⟨e1.trans h.es,e2.trans h.os,e3.trans h.gs,e4▸h.A,e4▸h.tl,h.nd,by rw [e1,e2,e3,e4];exact h.z⟩
theorem any_perm {α:Type} {l m:List α} (h:l.Perm m) (f:α→Bool):l.any f=m.any f:=by
 rw [Bool.eq_iff_iff,List.any_eq_true,List.any_eq_true]
 exact ⟨fun ⟨x,hx,e⟩=>⟨x,h.mem_iff.mp hx,e⟩,fun ⟨x,hx,e⟩=>⟨x,h.mem_iff.mpr hx,e⟩⟩
theorem fm_snoc {β:Type} {f:Rw→Option β} {r:Rw}:(rows++[r]).filterMap f=rows.filterMap f++(f r).toList:=by
 rw [List.filterMap_append]
 cases h:f r<;>simp only [List.filterMap_cons,h,List.filterMap_nil,Option.toList]
theorem fo_snoc {β:Type} {f:β→Rw→β} {b:β} {r:Rw}:(rows++[r]).foldl f b=f (rows.foldl f b) r:=List.foldl_append
theorem names_new {es:List (List Nat×V)} {kd:List Nat} {r:Rw} (hr:nmP r=some (kd,nm)) (hes:∀ k∈es.map (·.1),(kd,k)∈rows.filterMap nmP) (b:((rows++[r]).filterMap nmP).Nodup∨R) {P:Prop} (h:dget es nm=none→P):newW P R (dget es nm):=by
 cases e:dget es nm with
 | none=>exact h e
 | some y=>
  refine b.resolve_left fun hn=>?_
  rw [fm_snoc,hr,List.nodup_append] at hn
  refine hn.2.2 (kd,nm) (hes nm ?_) (kd,nm) (.head _) rfl
  refine Decidable.byContradiction fun hc=>?_
  rw [dget_no.mpr hc] at e
  cases e
theorem el_names:∀ k∈(rows.filterMap elP).map (·.1),(elS,k)∈rows.filterMap nmP:=fun k hk=>by
 obtain ⟨p,hp,rfl⟩:=List.mem_map.mp hk
 obtain ⟨r,hr,e⟩:=List.mem_filterMap.mp hp
 refine List.mem_filterMap.mpr ⟨r,hr,?_⟩
 cases r<;>cases e
 rfl
theorem no_names:∀ k∈((rows.filterMap no3).map noG).map (·.1),(noS,k)∈rows.filterMap nmP:=fun k hk=>by
 obtain ⟨p,hp,rfl⟩:=List.mem_map.mp hk
 obtain ⟨q,hq,rfl⟩:=List.mem_map.mp hp
 obtain ⟨r,hr,e⟩:=List.mem_filterMap.mp hq
 refine List.mem_filterMap.mpr ⟨r,hr,?_⟩
 cases r<;>cases e
 rfl
theorem nd_new {q:List Nat×List Nat} {r:Rw} (h:(rows.filterMap nmP).Nodup) (hr:nmP r=some q) (hn:q∉rows.filterMap nmP):((rows++[r]).filterMap nmP).Nodup:=by
 rw [fm_snoc,hr]
 exact nd_snoc h hn
theorem no_name {kd:List Nat} {es:List (List Nat×V)} (h:dget es nm=none) (hes:(kd,nm)∈rows.filterMap nmP→nm∈es.map (·.1)):(kd,nm)∉rows.filterMap nmP:=fun hm=>dget_no.mp h (hes hm)
theorem names_el (h:(elS,nm)∈rows.filterMap nmP):nm∈(rows.filterMap elP).map (·.1):=by
 obtain ⟨r,hr,e⟩:=List.mem_filterMap.mp h
 cases r<;>cases e
 exact List.mem_map.mpr ⟨_,List.mem_filterMap.mpr ⟨_,hr,rfl⟩,rfl⟩
theorem names_no (h:(noS,nm)∈rows.filterMap nmP):nm∈((rows.filterMap no3).map noG).map (·.1):=by
 obtain ⟨r,hr,e⟩:=List.mem_filterMap.mp h
 cases r<;>cases e
 exact List.mem_map.mpr ⟨_,List.mem_map.mpr ⟨_,List.mem_filterMap.mpr ⟨_,hr,rfl⟩,rfl⟩,rfl⟩
theorem Inv.eff1 {r:Rw} (h:Inv rows S) (b:((rows++[r]).filterMap nmP).Nodup∨R) (k:∀ S',Inv (rows++[r]) S'→S'.ps=S.ps→S'.z=S.z→S'.ol=S.ol→F S'):eff1 R r S F:=by
 have hz:=h.z
 have hl:2 * (rows++[r]).length=2 * rows.length+2:=by rw [List.length_append];rfl
 have nil:∀ {α:Type} {l m:List α},l=m→l=m++[]:=fun e=>e.trans (List.append_nil _).symm
 cases r with
 | el nm M=>
  refine names_new rfl (h.es▸el_names) b fun hn=>k _ ⟨?_,?_,?_,h.A,?_,nd_new h.nd rfl (no_name hn (h.es▸names_el)),?_⟩ rfl rfl rfl
  ·rw [fm_snoc,← h.es];exact dset_new hn
  ·rw [fm_snoc];exact h.os.trans (congrArg _ (nil rfl))
  ·rw [fo_snoc];exact h.gs
  ·rw [fo_snoc];exact h.tl
  ·show (dset S.es nm M).length+_+_+_≤_
   rw [dset_new hn,List.length_append,hl]
   show S.es.length+1+aN S.A+S.os.length+S.gs.length≤_
   omega
 | att el nm k' cs md v=>
  refine fun A' hA=>k _ ⟨?_,?_,?_,h.A.put hA,?_,?_,?_⟩ rfl rfl rfl
  ·rw [fm_snoc];exact nil h.es
  ·rw [fm_snoc];exact h.os.trans (congrArg _ (nil rfl))
  ·rw [fo_snoc];exact h.gs
  ·rw [fo_snoc]
   refine (told_put h.A.k hA).trans ?_
   rw [any_perm h.tl]
   show List.Perm _ (cond _ _ _)
   cases (rows.foldl ruF []).any fun q=>q.1==(el,nm)
   ·exact h.tl.append_right _
   ·exact h.tl
  ·rw [fm_snoc];exact nil rfl▸h.nd
  ·have:=hA.len
   rw [hl]
   show S.es.length+aN A'+S.os.length+S.gs.length≤_
   omega
 | en nm v s nt=>
  refine k _ ⟨?_,?_,?_,h.A,?_,?_,?_⟩ rfl rfl rfl
  ·rw [fm_snoc];exact nil h.es
  ·rw [fm_snoc];exact h.os.trans (congrArg _ (nil rfl))
  ·rw [fo_snoc]
   show dnew S.gs nm _=_
   rw [h.gs]
   exact dnew_map (f:=enG) (fun _=>rfl) (q:=(nm,v,s,nt))
  ·rw [fo_snoc];exact h.tl
  ·rw [fm_snoc];exact nil rfl▸h.nd
  ·have:=dnew_len (es:=S.gs) (k:=nm) (v:=entV (.str nm) v s nt)
   rw [hl]
   show S.es.length+aN S.A+S.os.length+(dnew S.gs nm _).length≤_
   omega
 | no nm p s=>
  refine names_new rfl (h.os▸no_names) b fun hn=>k _ ⟨?_,?_,?_,h.A,?_,nd_new h.nd rfl (no_name hn (h.os▸names_no)),?_⟩ rfl rfl rfl
  ·rw [fm_snoc];exact nil h.es
  ·rw [fm_snoc,List.map_append,← h.os];exact dset_new hn
  ·rw [fo_snoc];exact h.gs
  ·rw [fo_snoc];exact h.tl
  ·show _+_+(dset S.os nm _).length+_≤_
   rw [dset_new hn,List.length_append,hl]
   show S.es.length+aN S.A+(S.os.length+1)+S.gs.length≤_
   omega
theorem Inv.eff:∀ {rs rows:List Rw} {S:RdS},Inv rows S→((rows++rs).filterMap nmP).Nodup∨R→(∀ S',Inv (rows++rs) S'→S'.ps=S.ps→S'.z=S.z→S'.ol=S.ol→F S')→eff rs R S F
 | [],rows,S,h,_,k=>k S (by rwa [List.append_nil]) rfl rfl rfl
 | r::rs,rows,S,h,b,k=>by
  have e:rows++r::rs=(rows++[r])++rs:=List.append_cons ..
  rw [e] at b k
  refine h.eff1 (b.imp (fun h=>?_) id) fun S1 h1 p1 z1 o1=>Inv.eff h1 b fun S2 h2 p2 z2 o2=>k S2 h2 (p2.trans p1) (z2.trans z1) (o2.trans o1)
  rw [List.filterMap_append,List.nodup_append] at h
  exact h.1
theorem inv0:Inv [] S00:=⟨rfl,rfl,rfl,⟨List.nodup_nil,(fun _ h=>nomatch h),(fun _ h=>nomatch h)⟩,.refl _,List.nodup_nil,Nat.le_refl _⟩
end
section
variable {QF:RdS→Prop} {R:Prop} {rows rs:List Rw} {S:RdS} {i:Nat} {W t e r x T q:List Nat} {ws:List (List Nat)}
theorem Rds.bet {b:List Nat} (hb:b∈bets) (h:Rds QF R r S):Rds QF R (b++r) S:=
 Al.mem (P:=fun b=>Rds QF R (b++r) S) (.cons (show Rds QF R ([]++r) S from h) (.cons (h.sp (spx1 (s:=[32]) (.head _)).sps) (.cons h.com (.cons h.ins (.cons (h.sp (spx1 (s:=[10]) (.tail _ (.head _))).sps) .nil))))) hb
theorem nin_c {c:Nat} {ms:List Nat} (h:∀ d∈ms,c≠d):nin ms c=true:=by
 show (!(lfind [c] ms).isSome)=true
 rw [Bool.not_eq_true',Bool.eq_false_iff]
 intro e
 exact h c (lfind_mem e) rfl
theorem nin_n {c d:Nat} {ms:List Nat} (h:nin ms c=true) (hd:(lfind [d] ms).isSome=true):c≠d:=fun e=>by
 subst e
 change (!(lfind [c] ms).isSome)=true at h
 rw [hd] at h
 cases h
theorem lfind_no {q:Nat}:∀ {l:List Nat},(lfind [q] l).isSome=false→∀ c∈l,q≠c
 | d::l,h,c,hc=>by
  unfold lfind at h
  by_cases e:q=d
  ·rw [pre1,e,beq_self_eq_true,if_pos rfl] at h
   cases h
  ·rw [pre1,beq_false_of_ne e,if_neg Bool.false_ne_true,Option.isSome_map] at h
   cases hc with
   | head=>exact e
   | tail _ hc=>exact lfind_no h c hc
theorem np_of:∀ {t:List Nat},t.all (nin [37])=true→np t=true
 | [],_=>rfl
 | c::t,h=>by
  have h:=band h
  show ((c != 37||!nmAt t)&&np t)=true
  rw [np_of h.2,bne_iff_ne.mpr (nin_n h.1 rfl)]
  rfl
abbrev Bl (l:List Nat):Prop:=∀ r,dend [] (l++r)=dend [] r
theorem Bl.app {v w:List Nat} (h:Bl v) (k:Bl w):Bl (v++w):=fun r=>by rw [List.append_assoc,h,k]
theorem Bl.of {l:List Nat} (h:dq [] l=some []):Bl l:=fun _=>dq.go h
theorem Bl.quo (h:Quo q T):Bl (q++(T++(q++[]))):=by
 obtain ⟨h1,h2⟩:=h
 have go:∀ {c:Nat} {T:List Nat},(∀ d∈T,[c]≠[d])→dq [c] T=some [c]:=fun {c T} h=>by
  induction T with
  | nil=>rfl
  | cons d T ih=>
   show cond ([d]==[c]) (dq [] T) (dq [c] T)=_
   rw [beq_false_of_ne fun e=>h d (.head _) e.symm]
   exact ih fun d hd=>h d (.tail _ hd)
 refine fun r=>?_
 rw [List.append_assoc,List.append_assoc]
 rcases h1 with rfl | rfl
 ·exact (dq.go (go h2)).trans rfl
 ·exact (dq.go (go h2)).trans rfl
inductive LTc (T:List Nat):Prop
 | mk {ps}:LT T ps→ljoin [] ps=T→(ps.map List.length).sum+ps.length≤T.length+1→LTc T
theorem LTc.of (h:T.all (nin [38,37])=true):LTc T:=by
 cases T with
 | nil=>exact ⟨.nil,rfl,Nat.zero_le _⟩
 | cons c T=>exact ⟨.last h rfl,rfl,Nat.le_refl _⟩
theorem mI_mem (h:i<3):mI i∈[mI 0,mI 1,mI 2]:=by
 have:i=0∨i=1∨i=2:=by omega
 rcases this with rfl | rfl | rfl
 ·exact .head _
 ·exact .tail _ (.head _)
 ·exact .tail _ (.tail _ (.head _))
theorem mI_fine (h:i<3):fine (mI i)=true:=mem_p (p:=fine) rfl (mI_mem h)
theorem mI_nm (h:i<3):IsNm (mI i):=
 have h:=band (mem_p (p:=fun m=>m.all isNameC&&nmAt m) rfl (mI_mem h))
 word h.1 h.2
theorem dget_dset {es:List (List Nat×V)} {m:List Nat} {y:V} (h:dget es m=none):dget (dset es m y) m=some y:=by
 rw [dset_new h,dget_app h,dget_cons,beq_self_eq_true]
 rfl
theorem sp32:Sp1 [32]:=spx1 (.head _)
theorem Rds.entm (hi:i<3) (hq:q∈quots) (hT:Quo q T) (h1:T.all (nin [38,37])=true) (hl:T.length≤800) (hp:dget S.ps (mI i)=none) (hS:S.sz≤900) (k:Rds QF R r { S with ps:=dset S.ps (mI i) (entV (.str (mI i)) (.str T) .none .none) }) :
  Rds QF R (entW++(([32]++([37]++([32]++(mI i++([32]++(q++(T++(q++[]))))))))++([62]++r))) S:=by
 obtain ⟨hLT,hj,hs⟩:=LTc.of h1
 have hm:=Fin.of (mI_fine hi)
 have hqf:=Fin.mem (L:=quots) (t:=q)
 have lq:=mem_le (k:=1) rfl hq
 have lm:=hm.n
 have c:∀ {l:List Nat},dq [] l=some []→Bl l:=Bl.of
 have hB:Bl ([32]++([37]++([32]++(mI i++([32]++(q++(T++(q++[])))))))) :=(c rfl).app ((c rfl).app ((c rfl).app (Bl.app hm.b ((c rfl).app (.quo hT)))))
 have hT37:T.all (nin [37])=true:=List.all_eq_true.mpr fun c hc=>nin_c fun d hd=>by
  cases List.mem_singleton.mp hd
  exact nin_n (List.all_eq_true.mp h1 c hc) rfl
 have hq37:q.all (nin [37])=true:=mem_p (p:=fun q=>q.all (nin [37])) rfl hq
 refine Rds.dec (E:=Par (mI i) (ljoin [] _)) ⟨.tail _ (.tail _ (.head _)),Inn.par sp32 (mI_nm hi) sp32 hT hLT (by omega) Sps.nil,sp32,rfl,fun f h=>?_⟩ hS ?_ ?_ ?_ ⟨hp,?_⟩
 ·obtain ⟨h1,h2⟩:=h
  exact ⟨h1,f _ h2⟩
 ·simp only [List.length_append,List.length_cons,List.length_nil]
  omega
 ·rw [c (l:=entW) rfl,hB]
  rfl
 ·show (true&&((false||true)&&np ([32]++(mI i++([32]++(q++(T++(q++[]))))))))=true
  rw [np_of (t:=[32]++(mI i++([32]++(q++(T++(q++[])))))) (all_app rfl (all_app hm.p (all_app rfl (all_app hq37 (all_app hT37 (all_app hq37 rfl))))))]
  rfl
 ·rw [hj]
  exact k
structure IO (i:Nat) (S:RdS):Prop where
 ps:∀ q∈S.ps,∃ j,j<i∧q.1=mI j
 pl:S.ps.length≤i
 z:S.z≤1100 * i
 ol:S.ol=[]
theorem IO.none (h:IO i S):dget S.ps (mI i)=none:=dget_no.mpr fun hm=>by
 obtain ⟨q,hq,e⟩:=List.mem_map.mp hm
 obtain ⟨j,hj,e2⟩:=h.ps q hq
 have e3:=List.cons.inj (List.cons.inj (e2.symm.trans e)).2
 omega
theorem IO.up {S':RdS} (h:IO i S) (hp:S'.ps=S.ps) (hz:S'.z=S.z) (ho:S'.ol=S.ol):IO (i+1) S':=
 ⟨fun q hq=>let ⟨j,hj,e⟩:=h.ps q (hp▸hq);⟨j,Nat.lt_succ_of_lt hj,e⟩,hp▸Nat.le_succ_of_le h.pl,Nat.le_trans (hz▸h.z) (Nat.mul_le_mul_left _ (Nat.le_succ _)),ho.trans h.ol⟩
theorem IO.put {S':RdS} {y:V} (h:IO i S) (hp:S'.ps=dset S.ps (mI i) y) (hz:S'.z≤S.z+1100) (ho:S'.ol=[]):IO (i+1) S':=by
 rw [dset_new h.none] at hp
 refine ⟨fun q hq=>?_,?_,?_,ho⟩
 ·rw [hp] at hq
  rcases List.mem_append.mp hq with hq | hq
  ·obtain ⟨j,hj,e⟩:=h.ps q hq
   exact ⟨j,Nat.lt_succ_of_lt hj,e⟩
  ·cases List.mem_singleton.mp hq
   exact ⟨i,Nat.lt_succ_self _,rfl⟩
 ·rw [hp,List.length_append]
  exact Nat.add_le_add_right h.pl 1
 ·have:=h.z
  omega
structure It (rows rs:List Rw) (i:Nat) (S:RdS) (W:List Nat) (ws:List (List Nat)) (t e:List Nat) (R:Prop):Prop where
 d:Drw rs W ws
 w:W∈[elW,atW,enW,noW]
 n:e∈ends
 j:Jn ws e t
 I:Inv rows S
 o:IO i S
 i3:i<3
 rl:rows.length≤2 * i
 b:((rows++rs).filterMap nmP).Nodup∨R
theorem It.f (h:It rows rs i S W ws t e R):Fin 388 t:=
 have f:=h.j.fin h.n h.d.f
 ⟨f.b,f.p,Nat.le_trans f.n (Nat.succ_le_succ (Nat.mul_le_mul_right 43 h.d.n))⟩
theorem Inv.sz (h:Inv rows S) {k:Nat} (hl:rows.length≤4) (hp:S.ps.length≤4):S.sz≤900:=by
 have:=h.z
 unfold RdS.sz
 omega
theorem It.sz (h:It rows rs i S W ws t e R):S.sz≤900:=h.I.sz (k:=0) (by have:=h.rl;have:=h.i3;omega) (by have:=h.o.pl;have:=h.i3;omega)
theorem tx_eq:([60,33]++(W++(t++[62])))++r=([60,33]++W)++(t++([62]++r)):=by simp only [List.append_assoc]
theorem wB (h:W∈[elW,atW,enW,noW]):Bl ([60,33]++W):=Bl.of (eq_of_beq (mem_p (p:=fun W=>dq [] ([60,33]++W)==some []) rfl h))
theorem It.plain (h:It rows rs i S W ws t e R) (k:∀ S',Inv (rows++rs) S'→IO (i+1) S'→Rds QF R r S'):Rds QF R (([60,33]++(W++(t++[62])))++r) S:=by
 have hf:=h.f
 have hS:=h.sz
 obtain ⟨_,hw,he,hj,hI,hO,_,_,hb⟩:=id h
 obtain ⟨hd⟩:=h.d.i (ends1 he) hj
 rw [tx_eq]
 exact .dec hd hS (Nat.le_trans hf.n (lbt rfl)) (by rw [wB hw,hf.b];rfl) (np_of hf.p) (hI.eff hb fun S' h1 h2 h3 h4=>k S' h1 (hO.up h2 h3 h4))
theorem It.ref (h:It rows rs i S W ws t e R) (hx:x=[60,33]++(W++(t++[62]))) (h1:(lfind [34] x).isSome=false) (h2:(lfind [38] x).isSome=false) (k:∀ S',Inv (rows++rs) S'→IO (i+1) S'→Rds QF R r S'):Rds QF R ((peW++mI i++[32,34]++x++[34,62,37]++mI i++[59])++r) S:=by
 have hf:=h.f
 have hS:=h.sz
 obtain ⟨_,hw,he,hj,hI,hO,hi,hrl,hb⟩:=id h
 obtain ⟨hd⟩:=h.d.i (ends1 he) hj
 have lw:=mem_le (k:=8) rfl hw
 have lx:x.length≤400:=by
  have:=hf.n
  rw [hx]
  simp only [List.length_append,List.length_cons,List.length_nil] at this ⊢
  omega
 have x37:x.all (nin [37])=true:=by
  rw [hx]
  exact all_app rfl (all_app (mem_p (p:=fun W=>W.all (nin [37])) rfl hw) (all_app hf.p rfl))
 have hT:x.all (nin [38,37])=true:=List.all_eq_true.mpr fun c hc=>nin_c fun d hd=>by
  cases hd with
  | head=>exact (lfind_no h2 c hc).symm
  | tail _ hd=>
   cases List.mem_singleton.mp hd
   exact nin_n (List.all_eq_true.mp x37 c hc) rfl
 have hz:=hO.z
 have hpl:=hO.pl
 have e1:(peW++mI i++[32,34]++x++[34,62,37]++mI i++[59])++r=entW++(([32]++([37]++([32]++(mI i++([32]++([34]++(x++([34]++[]))))))))++([62]++([37]++(mI i++([59]++r))))):=by
  simp only [List.append_assoc,List.cons_append,List.nil_append,List.append_nil]
 rw [e1]
 refine .entm (q:=[34]) hi (.head _) ⟨.inl rfl,fun c hc e=>lfind_no h1 c hc (List.cons.inj e).1⟩ hT (Nat.le_trans lx (lbt rfl)) hO.none hS ?_
 have hps:(dset S.ps (mI i) (entV (.str (mI i)) (.str x) .none .none)).length≤4:=by
  rw [dset_new hO.none,List.length_append]
  exact Nat.succ_le_succ (Nat.le_trans hpl (Nat.le_of_lt hi))
 refine .ref hd (mI_nm hi) (hx.trans (by simp only [List.append_assoc,List.append_nil])) hO.ol (dget_dset hO.none) (Nat.le_trans lx (lbt rfl)) (by show S.z+_≤_;omega) (Inv.sz (rows:=rows) (k:=0) (hI.re rfl rfl rfl rfl) (by omega) hps) (by rw [wB hw,hf.b];rfl) (np_of hf.p) ?_
 exact Inv.eff (rows:=rows) (hI.re rfl rfl rfl rfl) hb fun S' h1 h2 h3 h4=>.mk h4 (k _ (h1.re rfl rfl rfl rfl) (hO.put h2 (by show S'.z≤_;rw [h3];show S.z+_≤_;omega) rfl))
theorem lsl_hd {α:Type} {a b:List α} (h:a.length=10):lsl (a++b) none (some 10)=a:=by
 show ((a++b).take (lclip (a++b).length ((10:Nat):Int))).drop 0=a
 rw [lclip_nat (j:=10) (by rw [List.length_append,h];exact Nat.le_add_right ..),← h,List.take_left]
 rfl
theorem lsl_mid {α:Type} {a b:List α} {z:α} (h:a.length=10):lsl (a++(b++[z])) (some 10) (some (-1))=b:=by
 have e0:(a++(b++[z])).length=10+(b.length+1):=by rw [List.length_append,List.length_append,h];rfl
 show ((a++(b++[z])).take (lclip (a++(b++[z])).length (-1))).drop (lclip (a++(b++[z])).length ((10:Nat):Int))=b
 have e1:lclip (a++(b++[z])).length (-1)=10+b.length:=by
  have q:(-1:Int)+((10+(b.length+1):Nat):Int)=((10+b.length:Nat):Int):=by omega
  rw [e0]
  show (max 0 (min ((-1:Int)+((10+(b.length+1):Nat):Int)) _)).toNat=_
  rw [q,Int.min_eq_left (Int.ofNat_le.mpr (Nat.le_succ _):((10+b.length:Nat):Int)≤((10+(b.length+1):Nat):Int)),Int.max_eq_right (Int.natCast_nonneg _)];rfl
 rw [e1,lclip_nat (j:=10) (by omega),← List.append_assoc,← h,← List.length_append,List.take_left,List.drop_left]
theorem Jn.snoc {u:List Nat} (h:Jn ws e t):Jn ws (e++u) (t++u):=by
 induction h with
 | nil=>exact .nil
 | cons hs _ ih=>
  rw [List.append_assoc,List.append_assoc]
  exact .cons hs ih
theorem Jn.ne (h:Jn ws e t) (hw:ws≠[]):t≠[]:=by
 cases h with
 | nil=>exact absurd rfl hw
 | cons hs _=>exact fun e=>(spx1 hs).ne (List.append_eq_nil_iff.mp e).1
theorem Jn.finE (h:Jn ws e t) (he:e∈ends):ws.all fineE=true→fineE t=true:=by
 induction h with
 | nil=>exact fun _=>mem_p (p:=fineE) rfl he
 | cons hs _ ih=>
  intro hw
  have hw:=band (List.all_cons▸hw)
  exact all_app (mem_p (p:=fineE) rfl hs) (all_app hw.1 (ih he hw.2))
theorem isSp_dq {c:Nat} (h:isSp c=true):dq [] [c]=some []:=by
 have h:=lfind_mem (band h).1
 exact eq_of_beq (mem_p (p:=fun c=>dq [] [c]==some []) rfl h)
theorem It.cut (h:It rows rs i S W ws t e R) (hx:x=[60,33]++(W++(t++[62]))) (hc:W=elW∧ws.all fineE=true) (k:∀ S',Inv (rows++rs) S'→IO (i+1) S'→Rds QF R r S'):Rds QF R ((peW++mI i++[32,39]++lsl x (some 10) (some (-1))++[39,62]++lsl x none (some 10)++[37]++mI i++[59,62])++r) S:=by
 have hf:=h.f
 have hS:=h.sz
 obtain ⟨_,hw,he,hj,hI,hO,hi,hrl,hb⟩:=id h
 obtain ⟨rfl,hE⟩:=hc
 have hE:=hj.finE he hE
 have hR:=h.d.i (e:=e++[32]) ((ends1 he).app sp32.sps) hj.snoc
 generalize ht:t++[32]=t2 at hR
 obtain ⟨hd⟩:=hR
 rename_i s0 X
 obtain ⟨hdw,hdi,hds,hdx,hdm⟩:=hd
 cases s0 with
 | nil=>exact absurd rfl hds.ne
 | cons c s1=>
 cases t with
 | nil=>exact absurd rfl (hj.ne h.d.w)
 | cons c' T=>
 obtain ⟨e9,h9⟩:=List.cons.inj ht
 subst e9
 have csp:isSp c'=true:=hds.sps c' (.head _)
 have ex:c'::32::(T++[32])=(c'::32::s1)++X:=congrArg (fun l=>c'::32::l) h9
 have hE:=band hE
 have hx':x=([60,33,69,76,69,77,69,78,84,c']++(T++[62])):=hx
 rw [hx',lsl_hd rfl,lsl_mid rfl]
 have lT:T.length≤400:=by
  have:=hf.n
  rw [List.length_cons] at this
  omega
 have sub:∀ {ms:List Nat},(∀ d∈ms,(lfind [d] [38,37,34,39]).isSome=true)→T.all (nin ms)=true:=fun h=>List.all_eq_true.mpr fun c hc=>nin_c fun d hd=>nin_n (List.all_eq_true.mp hE.2 c hc) (h d hd)
 have hz:=hO.z
 have hpl:=hO.pl
 have e1:(peW++mI i++[32,39]++T++[39,62]++[60,33,69,76,69,77,69,78,84,c']++[37]++mI i++[59,62])++r=entW++(([32]++([37]++([32]++(mI i++([32]++([39]++(T++([39]++[]))))))))++([62]++(([60,33]++elW)++((c'::37::(mI i++([59]++[])))++([62]++r))))):=by
  simp only [List.append_assoc,List.cons_append,List.nil_append,List.append_nil]
 rw [e1]
 refine .entm (q:=[39]) hi (.tail _ (.head _)) ⟨.inr rfl,nin_ne hE.2 rfl⟩ (sub (by decide)) (Nat.le_trans lT (lbt rfl)) hO.none hS ?_
 have hps:(dset S.ps (mI i) (entV (.str (mI i)) (.str T) .none .none)).length≤4:=by
  rw [dset_new hO.none,List.length_append]
  exact Nat.succ_le_succ (Nat.le_trans hpl (Nat.le_of_lt hi))
 have hB2:Bl (c'::37::(mI i++([59]++[]))):=Bl.app (v:=[c']) (.of (isSp_dq csp)) (Bl.app (v:=[37]) (.of rfl) (Bl.app (Fin.of (mI_fine hi)).b (.of rfl)))
 refine .decx (s0:=c'::32::s1) ⟨hdw,hdi,⟨?_,List.cons_ne_nil _ _⟩,hdx,hdm⟩ csp (mI_nm hi) ex hO.ol (dget_dset hO.none) (np_of (sub (by decide))) (Nat.le_trans lT (lbt rfl)) (by show S.z+_≤_;omega) (lbt rfl) (Inv.sz (rows:=rows) (k:=0) (hI.re rfl rfl rfl rfl) (by omega) hps) (by rw [wB hw,hB2];rfl) ?_
 ·intro d hd
  cases hd with
  | head=>exact csp
  | tail _ hd=>
   cases hd with
   | head=>rfl
   | tail _ hd=>exact hds.sps d (.tail _ hd)
 exact Inv.eff (rows:=rows) (hI.re rfl rfl rfl rfl) hb fun S' h1 h2 h3 h4=>k _ (h1.re rfl rfl rfl rfl) (hO.put h2 (by rw [h3];show S.z+_≤_;omega) (h4.trans hO.ol))
theorem pm {tail:List Nat}:∀ (ds:List Dr) (i:Nat) (rows:List Rw) (S:RdS) (text:List Nat),i+ds.length≤3→(∀ d∈ds,Dr.OK d)→TxP i ds text→Inv rows S→IO i S→rows.length≤2 * i →
  (((rows++ds.flatMap Dr.rs).filterMap nmP).Nodup∨R)→(∀ S',Inv (rows++ds.flatMap Dr.rs) S'→Rds QF R tail S')→Rds QF R (text++tail) S
 | [],i,rows,S,text,hi,hd,ht,hI,hO,hr,hb,k=>by
  cases ht
  exact k S (by rw [List.flatMap_nil,List.append_nil];exact hI)
 | d::ds,i,rows,S,text,hi,hd,ht,hI,hO,hr,hb,k=>by
  cases ht with
  | cons h1 h2 h3=>
  obtain ⟨rs,W,t⟩:=d
  obtain ⟨d1,d2,d3,d4⟩:=hd _ (.head _)
  rw [List.flatMap_cons,← List.append_assoc] at hb k
  rw [List.length_cons] at hi
  have hbp:((rows++rs).filterMap nmP).Nodup∨R:=hb.imp (fun h=>by rw [List.filterMap_append,List.nodup_append] at h;exact h.1) id
  have i0:It rows rs i S W _ t _ R:=⟨d1,d2,d3,d4,hI,hO,by omega,hr,hbp⟩
  have hp2:rs.length≤2:=d1.l
  have kk:∀ S',Inv (rows++rs) S'→IO (i+1) S'→Rds QF R (_++tail) S':=fun S' hI' hO'=>pm ds (i+1) (rows++rs) S' _ (by omega) (fun q hq=>hd q (.tail _ hq)) h3 hI' hO' (by rw [List.length_append];omega) hb k
  rw [List.append_assoc,List.append_assoc]
  refine Rds.bet h1 ?_
  cases h2 with
  | plain=>exact i0.plain kk
  | ref q1 q2=>exact i0.ref rfl q1 q2 kk
  | cut q1 q2=>exact i0.cut rfl (d1.c _ _ q1 q2) kk
theorem io0:IO 0 S00:=⟨(fun _ h=>nomatch h),Nat.le_refl _,Nat.le_refl _,rfl⟩
end
section
variable {B:Bun} {n:Nat} {σ τ:Store} {Q:V→Store→Prop} {R:Prop} {a:Addr}
theorem rd_of {X:Cx} {P:Imm} {a:Addr} {o:Obj} {kvs:List (Str×Value)} {es:List (List Nat×V)} (hp:P a o) (io:o.IsDictOf (PySem.strKind X.prog X.w) kvs) (hk:KVR X P kvs es) (hn:(a==sysModules)=false):VR X P (.ref a) (rdv es):=by
 obtain ⟨des,ep,hx⟩:=id io
 obtain ⟨k1,k2⟩:=kvr_split hk
 unfold rdv
 exact ⟨a,o,kvs,des,ep,rfl,hp,io,k1,k2,hn,hx.2.1⟩
noncomputable abbrev dS (L:List (Addr×List (List Nat×V))) (σ:Store):Store:=(L.map fun p=>(p.1,AObj.dict p.2))++σ
inductive Stills (X:Cx) (g:Heap) (Ld:Addr) (m:Str→Option Value) (I H:Led) (σ:Store) (s:Shared) (L:List (Addr×List (List Nat×V))):Prop
 | mk (I':Led):I⊆I'→(∀ p∈L,VR X (X.imm I') (.ref p.1) (rdv p.2))→Dyn X g Ld m I' H σ s→Stills X g Ld m I H σ s L
theorem Dyn.stills {X:Cx} {g:Heap} {Ld:Addr} {m:Str→Option Value} {H:Led} {s:Shared}:∀ {L:List (Addr×List (List Nat×V))} {I:Led},Dyn X g Ld m I H (dS L σ) s→Stills X g Ld m I H σ s L
 | [],I,D=>⟨I,fun _ z=>z,(fun _ h=>nomatch h),D⟩
 | p::L,I,D=>by
  obtain ⟨r,ho,D'⟩:=D.still (p:=(p.1,AObj.dict p.2)) .head
  obtain ⟨I',hI,hL,D''⟩:=Dyn.stills D'
  obtain ⟨o,kvs,rfl,io,hk,hn⟩:=ho
  refine ⟨I',fun _ z=>hI (List.mem_append_right _ z),fun q hq=>?_,D''⟩
  cases hq with
  | head=>exact (rd_of (.inl (.head _)) io hk hn).mono (imm_mono hI)
  | tail _ hq=>exact hL q hq
theorem VRs.inn {C:Cx} {P:Imm} {L:AttS} (h:∀ a∈L,VR C P (.ref a.2.1) (rdv a.2.2)):∀ {us:List Value},VRs C P us (L.map fun a=>.ref a.2.1)→VRs C P us (L.map fun a=>rdv a.2.2):=by
 induction L with
 | nil=>exact fun h=>h
 | cons a L ih=>
  intro us hv
  cases us with
  | nil=>simp only [List.map_cons,VRs] at hv
  | cons u us=>
   simp only [List.map_cons,VRs] at hv ⊢
   have e:u=.ref a.2.1:=hv.1.e_ref
   exact ⟨e▸h a (.head _),ih (fun a ha=>h a (.tail _ ha)) hv.2⟩
noncomputable def attF (A:AttS):V:=.rd (A.map (·.1)) (A.map fun a=>rdv a.2.2)
theorem att_of {X:Cx} {P:Imm} {a:Addr} {A:AttS} (h:VR X P (.ref a) (rdv (aD A))) (hA:∀ a∈A,VR X P (.ref a.2.1) (rdv a.2.2)):VR X P (.ref a) (attF A):=by
 unfold rdv aD at h
 rw [List.map_map,List.map_map] at h
 unfold attF
 obtain ⟨a,o,kvs,des,ep,e1,e2,e3,e4,e5,e6⟩:=h
 exact ⟨a,o,kvs,des,ep,e1,e2,e3,e4,VRs.inn hA e5,e6⟩
noncomputable abbrev dtdF (rt:V) (S:RdS):V:=.ri 550 [rt,rdv S.es,attF S.A,rdv S.os]
noncomputable abbrev tabF (ou:Addr) (S:RdS):V:=.ri 1068 [limV,.ref ou,rdv S.gs,rdv S.ps]
theorem aS_dS:∀ {A:AttS},aS A σ=dS (A.map fun a=>(a.2.1,a.2.2)) σ
 | []=>rfl
 | _::_=>congrArg (List.cons _) aS_dS
theorem ri_3 {X:Cx} {P:Imm} {C:Addr} {v:Value} {w x y z x' y' z':V} (h:VR X P v (.ri C [w,x,y,z])) (h1:∀ {u},VR X P u x→VR X P u x') (h2:∀ {u},VR X P u y→VR X P u y') (h3:∀ {u},VR X P u z→VR X P u z'):VR X P v (.ri C [w,x',y',z']):=by
 obtain ⟨a,dx,es,n,e1,e2,e3,e4,e5,e6⟩:=h
 refine ⟨a,dx,es,n,e1,e2,e3,e4,e5,?_⟩
 obtain ⟨v1,r1,q,k1,e6⟩:=VRs.e_cons e6
 obtain ⟨v2,r2,rfl,k2,e6⟩:=VRs.e_cons e6
 obtain ⟨v3,r3,rfl,k3,e6⟩:=VRs.e_cons e6
 obtain ⟨v4,r4,rfl,k4,e6⟩:=VRs.e_cons e6
 rw [q]
 exact .i_cons k1 (.i_cons (h1 k2) (.i_cons (h2 k3) (.i_cons (h3 k4) e6)))
theorem CallOK.frzD {f:Value} {Z:Ad} {S:RdS} {y:V} (x:CallOK (XX B) n f [y,dtdF Z.rt S,tabF Z.ou S] σ Q R):CallOK (XX B) n f [y,Z.dtd,Z.tab] (stS Z S σ) Q R:=
 fun env outer A g L m I H s ws a b c=>by
  have b:=b.into (τ:=dS ((Z.e,S.es)::(Z.o,S.os)::(Z.g,S.gs)::(Z.p,S.ps)::(Z.t,aD S.A)::S.A.map fun a=>(a.2.1,a.2.2)) σ) (.take .head (.take .head (.take .head (.take .head (.drop (.drop (.take .head (aS_dS (A:=S.A)▸.refl))))))))
  obtain ⟨I',hI,hL,D⟩:=b.stills
  have c:=c.mono (imm_mono hI)
  obtain ⟨v1,r1,rfl,k1,c⟩:=VRs.e_cons c
  obtain ⟨v2,r2,rfl,k2,c⟩:=VRs.e_cons c
  obtain ⟨v3,r3,rfl,k3,c⟩:=VRs.e_cons c
  have rf:∀ {a:Addr} {z:V},VR (XX B) ((XX B).imm I') (.ref a) z→∀ {u},VR (XX B) ((XX B).imm I') u (.ref a)→VR (XX B) ((XX B).imm I') u z:=fun h u hu=>by
   have e:=hu.e_ref
   exact e▸h
  have hA:∀ a∈S.A,VR (XX B) ((XX B).imm I') (.ref a.2.1) (rdv a.2.2):=fun a ha=>hL _ (.tail _ (.tail _ (.tail _ (.tail _ (.tail _ (List.mem_map_of_mem (f:=fun a:List Nat×Addr×List (List Nat×V)=>(a.2.1,a.2.2)) ha))))))
  have k2:=ri_3 k2 (rf (hL _ (.head _))) (rf (att_of (hL _ (.tail _ (.tail _ (.tail _ (.tail _ (.head _)))))) hA)) (rf (hL _ (.tail _ (.head _))))
  have k3:=ri_3 k3 id (rf (hL _ (.tail _ (.tail _ (.head _))))) (rf (hL _ (.tail _ (.tail _ (.tail _ (.head _))))))
  refine codeAny_mono (x env outer A g L m I' H s _ a D (.i_cons k1 (.i_cons k2 (.i_cons k3 c)))) fun r s' z=>?_
  rcases r with e | (_ | _ | _ | v)
  ·exact z
  ·exact z
  ·exact z
  ·exact z
  ·obtain ⟨I₁,σ₁,y,hI1,D,hv,hq⟩:=z
   exact ⟨I₁,σ₁,y,fun _ z=>hI1 (hI z),D,hv,hq⟩
end
section
variable {B:Bun} {n:Nat} {σ τ:Store} {Q:V→Store→Prop} {R:Prop} {a b c:Addr} {rows:List Rw} {S:RdS}
noncomputable abbrev enT (q:List Nat×V×V×V):List Nat×V:=(q.1,.tup [q.2.1,q.2.2.1,q.2.2.2])
noncomputable abbrev noT (q:List Nat×V×V):List Nat×V:=(q.1,.tup [q.2.1,q.2.2])
theorem dictOf_eq {ps:List (List Nat×V)} (h:(ps.map (·.1)).Nodup):dictOf' ps=ps:=by
 have go:∀ (ps acc:List (List Nat×V)),((acc++ps).map (·.1)).Nodup→ps.foldl (fun acc p=>dset acc p.1 p.2) acc=acc++ps:=fun ps=>by
  induction ps with
  | nil=>exact fun acc _=>(List.append_nil acc).symm
  | cons p ps ih=>
   intro acc h
   have hn:dget acc p.1=none:=dget_no.mpr fun hm=>by
    rw [List.map_append,List.nodup_append] at h
    exact h.2.2 _ hm p.1 (.head _) rfl
   rw [List.append_cons] at h ⊢
   rw [List.foldl_cons,dset_new hn]
   exact ih _ h
 exact go ps [] h
theorem EqD.self {es:List (List Nat×V)} (hn:(es.map (·.1)).Nodup) (hd:∀ p∈es,okV p.2=true):EqD es es:=⟨rfl,fun p hp=>⟨dget_mem hn hp,hd p hp⟩⟩
theorem ins_inv {κ β:Type} [BEq κ] [LawfulBEq κ] {key:β→κ} {P:β→Prop} {G:List β} {x:β} (h:(G.map key).Nodup∧∀ q∈G,P q) (hx:P x):((cond (G.any fun q=>key q==key x) G (G++[x])).map key).Nodup∧∀ q∈cond (G.any fun q=>key q==key x) G (G++[x]),P q:=by
 cases e:G.any fun q=>key q==key x with
 | true=>exact h
 | false=>
  refine ⟨?_,fun q hq=>(List.mem_append.mp hq).elim (h.2 q) fun hq=>List.mem_singleton.mp hq▸hx⟩
  show ((G++[x]).map key).Nodup
  rw [List.map_append]
  refine nd_snoc h.1 fun hm=>?_
  obtain ⟨q,hq,e2⟩:=List.mem_map.mp hm
  exact List.any_eq_false.mp e q hq (beq_iff_eq.mpr e2)
theorem fo_inv {β:Type} {step:β→Rw→β} {I:β→Prop} (h:∀ b r,r.ok=true→I b→I (step b r)):∀ (rows:List Rw) (b:β),rows.all Rw.ok=true→I b→I (rows.foldl step b)
 | [],_,_,hb=>hb
 | r::rows,b,hr,hb=>fo_inv h rows _ (band hr).2 (h b r (band hr).1 hb)
theorem ru_ok (h:rows.all Rw.ok=true):((rows.foldl ruF []).map (·.1)).Nodup∧∀ q∈rows.foldl ruF [],okV q.2=true:=
 fo_inv (I:=fun G:List ((List Nat×List Nat)×V)=>(G.map (·.1)).Nodup∧∀ q∈G,okV q.2=true) (fun G r hr hG=>by
  cases r with
  | att el nm k cs md v=>exact ins_inv (key:=fun q:(List Nat×List Nat)×V=>q.1) (P:=fun q=>okV q.2=true) (x:=((el,nm),.tup [.str k,.tup cs,.str md,v])) hG hr
  | _=>exact hG) rows [] h ⟨List.nodup_nil,fun _ h=>nomatch h⟩
theorem en_ok (h:rows.all Rw.ok=true):((rows.foldl enF []).map (·.1)).Nodup∧∀ q∈rows.foldl enF [],okV (enT q).2=true:=
 fo_inv (I:=fun G:List (List Nat×V×V×V)=>(G.map (·.1)).Nodup∧∀ q∈G,okV (enT q).2=true) (fun G r hr hG=>by
  cases r with
  | en nm v s nt=>exact ins_inv (key:=fun q:List Nat×V×V×V=>q.1) (P:=fun q=>okV (enT q).2=true) (x:=(nm,v,s,nt)) hG hr
  | _=>exact hG) rows [] h ⟨List.nodup_nil,fun _ h=>nomatch h⟩
theorem nd_sub {β:Type} {f:Rw→Option (List Nat×β)} {kd:List Nat} (hf:∀ r p,f r=some p→nmP r=some (kd,p.1)):∀ {rows:List Rw},(rows.filterMap nmP).Nodup→((rows.filterMap f).map (·.1)).Nodup
 | [],_=>List.nodup_nil
 | r::rows,h=>by
  rw [List.filterMap_cons] at h ⊢
  cases e:f r with
  | none=>
   refine nd_sub hf (rows:=rows) ?_
   cases e2:nmP r with
   | none=>rw [e2] at h;exact h
   | some q=>rw [e2] at h;exact (List.nodup_cons.mp h).2
  | some p=>
   rw [hf r p e] at h
   obtain ⟨h1,h2⟩:=List.nodup_cons.mp h
   refine List.nodup_cons.mpr ⟨fun hm=>h1 ?_,nd_sub hf h2⟩
   obtain ⟨q,hq,e2⟩:=List.mem_map.mp hm
   obtain ⟨r',hr,e3⟩:=List.mem_filterMap.mp hq
   exact List.mem_filterMap.mpr ⟨r',hr,(hf r' q e3).trans (by rw [e2])⟩
theorem el_hf:∀ r p,elP r=some p→nmP r=some (elS,p.1):=fun r p e=>by cases r<;>cases e;rfl
theorem no_hf:∀ r p,no3 r=some p→nmP r=some (noS,p.1):=fun r p e=>by cases r<;>cases e;rfl
theorem el_ok (h:rows.all Rw.ok=true):∀ p∈rows.filterMap elP,okV p.2=true:=fun p hp=>by
 obtain ⟨r,hr,e⟩:=List.mem_filterMap.mp hp
 have:=List.all_eq_true.mp h r hr
 cases r<;>cases e
 exact (band this).1
theorem no_ok (h:rows.all Rw.ok=true):∀ p∈rows.filterMap no3,okV (noT p).2=true:=fun p hp=>by
 obtain ⟨r,hr,e⟩:=List.mem_filterMap.mp hp
 have:=List.all_eq_true.mp h r hr
 cases r<;>cases e
 exact (band this).1
theorem c_505f {rt x y z:V} {el:List Nat} {ks:List (List Nat)} {vs:List V} (he:dget (ks.zip vs) el=some z) (h:Q z σ):CallOK (XX B) (n+1) (.ref 505) [.ri 550 [rt,x,.rd ks vs,y],.str el] σ Q R:=by
 refine CallOK.into ?_
 refine ok_505.go rfl ?_
 refine fun d=>?_
 refine .get2r (getD_some he ?_)
 exact .mk (.drop .refl) h
theorem c_512f {rt x y z:V} {el nm:List Nat} {ks:List (List Nat)} {vs:List V} {rs:List (List Nat×V)} (he:dget (ks.zip vs) el=some (rdv rs)) (hy:dget rs nm=some z) (h:Q z σ):CallOK (XX B) (n+2) (.ref 512) [.ri 550 [rt,x,.rd ks vs,y],.str el,.str nm] σ Q R:=by
 refine ok_512.go rfl ?_
 refine c_505f he ?_
 refine .get1r ?_
 rw [rdv_zip]
 exact getD_some hy h
theorem co_map {α β:Type} {f:α→V} {h:α→Option β} {p:β→V} {mk:V→(LV→Prop)→Prop} {cn:LV→Store→(Bool→Store→Prop)→Prop} {el:LV→Store→(V→Store→Prop)→Prop} {K:List V→Store→Prop}
  : ∀ {as:List α} {acc:List V} (step:∀ (a:α),a∈as→∀ (C:Option V→Store→Prop),C ((h a).map p) σ→mk (f a) fun ρ=>cn ρ σ fun b σ₁=>cond b (el ρ σ₁ fun y σ₂=>C (some y) σ₂) (C none σ₁)),K (acc++(as.filterMap h).map p) σ→CompI mk cn el K (as.map f) acc σ
 | [],acc,_,k=>(congrArg (fun l=>K l σ) (List.append_nil acc)).mp k
 | a::as,acc,step,k=>step a (.head _) (fun o σ=>match o with | some y=>CompI mk cn el K (as.map f) (acc++[y]) σ | none=>CompI mk cn el K (as.map f) acc σ) (by
  rw [List.filterMap_cons] at k
  cases e:h a with
  | none=>rw [e] at k;exact co_map (fun a ha=>step a (.tail _ ha)) k
  | some b=>
   rw [e] at k
   refine co_map (fun a ha=>step a (.tail _ ha)) ?_
   rw [List.append_assoc]
   exact k)
theorem any_no {T rest:List ((List Nat×List Nat)×V)} {q:(List Nat×List Nat)×V} (h:((T++q::rest).map (·.1)).Nodup):(T.any fun p=>p.1==q.1)=false:=by
 refine List.any_eq_false.mpr fun p hp e=>?_
 rw [List.map_append,List.nodup_append] at h
 exact h.2.2 p.1 (List.mem_map_of_mem (f:=(·.1)) hp) q.1 (.head _) (eq_of_beq e)
end
section
variable {B:Bun} {n:Nat} {σ τ:Store} {Q:V→Store→Prop} {R:Prop} {a b c:Addr} {rows:List Rw} {S:RdS} {rt:V} {ou:Addr}
noncomputable def noP (r:Rw):Option (List Nat×V):=(no3 r).map noT
noncomputable abbrev ρ1168 (rv dv tv e no:V) (ru en:Addr) (row told el nm kn ot:Option V):LV:=.c rv (.c dv (.c tv (.s e (.s no (.s (.ref ru) (.s (.ref en) (.o row (.o told (.o el (.o nm (.o kn (.o ot .n))))))))))))
theorem lp_1168a {q:QK} {rv dv tv e no:V} {told el nm kn ot:Option V}:∀ (rows:List Rw) (G:List ((List Nat×List Nat)×V)) (E:List (List Nat×V×V×V)) (row:Option V),G.length+rows.length≤1000→E.length+rows.length≤1000 →
  (∀ row,q.nx (ρ1168 rv dv tv e no a b row told el nm kn ot) ((b,.dict ((rows.foldl enF E).map enT))::(a,.tdict (rows.foldl ruF G))::σ)) →
  ForI (wS (cok (XX B) n R) i_1168.nx.nx.nx.lb) (.nm 7) q (rows.map Rw.v) (ρ1168 rv dv tv e no a b row told el nm kn ot) ((b,.dict (E.map enT))::(a,.tdict G)::σ)
 | [],G,E,row,_,_,h=>h row
 | r::rows,G,E,row,hG,hE,h=>by
  rw [List.length_cons] at hG hE
  have go:∀ {G' E' D} (row),G'.length≤G.length+1→E'.length≤E.length+1→ruF G r=G'→enF E r=E'→D=E'.map enT→ForI (wS (cok (XX B) n R) i_1168.nx.nx.nx.lb) (.nm 7) q (rows.map Rw.v) (ρ1168 rv dv tv e no a b row told el nm kn ot) ((b,.dict D)::(a,.tdict G')::σ):=fun row l1 l2 e1 e2 e3=>by
   subst e1
   subst e2
   subst e3
   exact lp_1168a rows _ _ row (by omega) (by omega) h
  have same:∀ row,ruF G r=G→enF E r=E→ForI (wS (cok (XX B) n R) i_1168.nx.nx.nx.lb) (.nm 7) q (rows.map Rw.v) (ρ1168 rv dv tv e no a b row told el nm kn ot) ((b,.dict (E.map enT))::(a,.tdict G)::σ):=fun row e1 e2=>go row (Nat.le_succ _) (Nat.le_succ _) e1 e2 rfl
  cases r with
  | el nm M=>
   refine .mk (.tup (j:=0) rfl rfl) (.mk (.mk ?_))
   refine .mk (.tup (j:=0) rfl rfl) (.mk (.mk ?_))
   exact same _ rfl rfl
  | no nm p s=>
   refine .mk (.tup (j:=0) rfl rfl) (.mk (.mk ?_))
   refine .mk (.tup (j:=0) rfl rfl) (.mk (.mk ?_))
   exact same _ rfl rfl
  | att x nm k cs md v=>
   refine .mk (.tup (j:=0) rfl rfl) (.mk ?_)
   refine .mk (a:=some 1) (b:=some 3) rfl rfl (.tup (lbt rfl) (Nat.ne_of_lt (lbt rfl))) ?_
   refine .niK (p:=(x,nm)) (.tail _ (.head _)) ?_
   refine ifn (fun e=>?_) fun e=>?_
   ·refine .mk (a:=some 3) (b:=none) rfl rfl (.tup (lbt rfl) (Nat.ne_of_lt (lbt rfl))) ?_
    refine .mk (a:=some 1) (b:=some 3) rfl rfl (.tup (lbt rfl) (Nat.ne_of_lt (lbt rfl))) ?_
    refine .mk (p:=(x,nm)) (.tail .head) e (by omega) ?_
    refine .mk (.tup (j:=0) rfl rfl) (.mk (.mk ?_))
    exact go _ (Nat.le_of_eq (List.length_append ..)) (Nat.le_succ _) (congrArg (fun b=>cond b G _) e) rfl rfl
   ·refine .mk (.tup (j:=0) rfl rfl) (.mk (.mk ?_))
    exact same _ (congrArg (fun b=>cond b G _) e) rfl
  | en nm v s nt=>
   refine .mk (.tup (j:=0) rfl rfl) (.mk (.mk ?_))
   refine .mk (.tup (j:=0) rfl rfl) (.mk ?_)
   refine .mk (.tup (j:=1) rfl rfl) ?_
   refine .niD (.head _) ?_
   have e0:(dget (E.map enT) nm).isSome=E.any fun p=>p.1==nm:=dget_in
   refine ifn (fun e=>?_) fun e=>?_
   ·refine .mk (a:=some 2) (b:=none) rfl rfl (.tup (lbt rfl) (Nat.ne_of_lt (lbt rfl))) ?_
    refine .mk (.tup (j:=1) rfl rfl) ?_
    refine .dict .head (by rw [List.length_map];omega) ?_
    exact go (E':=E++[(nm,v,s,nt)]) _ (Nat.le_succ _) (Nat.le_of_eq (List.length_append ..)) rfl (congrArg (fun b=>cond b E _) (e0.symm.trans e)) ((dset_new (Option.isNone_iff_eq_none.mp (Option.isSome_eq_false_iff.mp e))).trans (List.map_append (l₁:=E) (l₂:=[(nm,v,s,nt)])).symm)
   ·exact same _ rfl (congrArg (fun b=>cond b E _) (e0.symm.trans e))
theorem lp_1168b {q:QK} {rv tv x y e no:V} {ru en:Addr} {row kn ot:Option V} {ks:List (List Nat)} {vs:List V} {el:List Nat} {rs:List (List Nat×V)} (he:dget (ks.zip vs) el=some (rdv rs)) (hnd:(rs.map (·.1)).Nodup) (hr:∀ p∈rs,∃ k c m v,p.2=arule k c m v) :
  ∀ (ps:List (List Nat×V)) (T rest:List ((List Nat×List Nat)×V)) (nm:Option V),(∀ p∈ps,p∈rs)→((T++((ps.map fun p=>((el,p.1),rowOf p.2))++rest)).map (·.1)).Nodup→T.length+ps.length≤1000 →
  (∀ nm,q.nx (ρ1168 rv (.ri 550 [rt,x,.rd ks vs,y]) tv e no ru en row (some (.ref c)) (some (.str el)) nm kn ot) ((c,.tdict (T++ps.map fun p=>((el,p.1),rowOf p.2)))::σ)) →
  ForI (wS (cok (XX B) (n+2) R) i_1168.nx.nx.nx.lk.nx.lb.lb) (.nm 10) q (ps.map fun p=>.str p.1) (ρ1168 rv (.ri 550 [rt,x,.rd ks vs,y]) tv e no ru en row (some (.ref c)) (some (.str el)) nm kn ot) ((c,.tdict T)::σ)
 | [],T,rest,nm,_,_,_,h=>(congrArg (fun T=>q.nx (ρ1168 rv (.ri 550 [rt,x,.rd ks vs,y]) tv e no ru en row (some (.ref c)) (some (.str el)) nm kn ot) ((c,.tdict T)::σ)) (List.append_nil T)).mp (h nm)
 | p::ps,T,rest,nm,hm,hn,hl,h=>by
  obtain ⟨p,z⟩:=p
  obtain ⟨k,cs,m,v,e1⟩:=hr _ (hm _ (.head _))
  have hp:=dget_mem hnd (hm _ (.head _))
  obtain rfl:z=_:=e1
  refine c_512f he hp ?_
  refine c_133 (n:=n+1) ?_
  rw [List.length_cons] at hl
  refine .mk (p:=(el,p)) .head (any_no (q:=((el,p),_)) hn) (by omega) ?_
  rw [List.map_cons,List.append_cons] at h
  exact lp_1168b he hnd hr ps _ rest _ (fun p hp=>hm p (.tail _ hp)) (by rw [List.map_cons,List.cons_append,List.append_cons] at hn;exact hn) (by rw [List.length_append];show T.length+1+_≤_;omega) h
theorem lp_1168c {q:QK} {rv tv x y e no:V} {ru en:Addr} {row kn ot:Option V} {A:AttS} (hA:AInv A):∀ (as:AttS) (T:List ((List Nat×List Nat)×V)) (el nm:Option V),(∀ a∈as,a∈A)→((T++toldA as).map (·.1)).Nodup→T.length+(toldA as).length≤1000 →
  (∀ el nm,q.nx (ρ1168 rv (.ri 550 [rt,x,attF A,y]) tv e no ru en row (some (.ref c)) el nm kn ot) ((c,.tdict (T++toldA as))::σ)) →
  ForI (wS (cok (XX B) (n+2) R) i_1168.nx.nx.nx.lk.nx.lb) (.nm 9) q (as.map fun a=>.str a.1) (ρ1168 rv (.ri 550 [rt,x,attF A,y]) tv e no ru en row (some (.ref c)) el nm kn ot) ((c,.tdict T)::σ)
 | [],T,el,nm,_,_,_,h=>(congrArg (fun T=>q.nx (ρ1168 rv (.ri 550 [rt,x,attF A,y]) tv e no ru en row (some (.ref c)) el nm kn ot) ((c,.tdict T)::σ)) (List.append_nil T)).mp (h el nm)
 | a::as,T,el,nm,hm,hn,hl,h=>by
  have ha:=hm a (.head _)
  have e0:(A.map (·.1)).zip (A.map fun a=>rdv a.2.2)=A.map fun a=>(a.1,rdv a.2.2):=List.zip_map' ..
  have he:dget ((A.map (·.1)).zip (A.map fun a=>rdv a.2.2)) a.1=some (rdv a.2.2):=by
   rw [e0]
   refine dget_mem (p:=(a.1,rdv a.2.2)) ?_ (List.mem_map_of_mem (f:=fun a:List Nat×Addr×List (List Nat×V)=>(a.1,rdv a.2.2)) ha)
   rw [List.map_map]
   exact hA.k
  refine c_505f (n:=n+1) he ?_
  have hn':((T++((a.2.2.map fun p=>((a.1,p.1),rowOf p.2))++toldA as)).map (·.1)).Nodup:=hn
  have hl':T.length+(a.2.2.length+(toldA as).length)≤1000:=by
   have e1:(toldA (a::as)).length=a.2.2.length+(toldA as).length:=by
    show ((a.2.2.map fun p=>((a.1,p.1),rowOf p.2))++toldA as).length=_
    rw [List.length_append,List.length_map]
   rw [← e1]
   exact hl
  refine .rd ?_
  rw [rdv_zip]
  refine lp_1168b he (hA.i a ha) (hA.r a ha) a.2.2 T (toldA as) nm (fun _ h=>h) hn' (by omega) fun nm=>?_
  refine lp_1168c hA as _ _ nm (fun a h=>hm a (.tail _ h)) (by rw [List.append_assoc];exact hn') (by rw [List.length_append,List.length_map];omega) fun el nm=>?_
  rw [List.append_assoc]
  exact h el nm
theorem told_len {A:AttS} (h:(toldA A).Perm (rows.foldl ruF [])) (hl:rows.length≤10):(toldA A).length≤10:=by
 have go:∀ (rows:List Rw) (G:List ((List Nat×List Nat)×V)),(rows.foldl ruF G).length≤G.length+rows.length:=fun rows=>by
  induction rows with
  | nil=>exact fun G=>Nat.le_refl _
  | cons r rows ih=>
   intro G
   refine Nat.le_trans (ih _) ?_
   have:(ruF G r).length≤G.length+1:=by
    cases r with
    | att el nm k cs md v=>
     show (cond (G.any fun q=>q.1==(el,nm)) G (G++[((el,nm),V.tup [.str k,.tup cs,.str md,v])])).length≤_
     cases G.any fun q=>q.1==(el,nm)
     ·exact Nat.le_of_eq (List.length_append ..)
     ·exact Nat.le_succ _
    | _=>exact Nat.le_succ _
   rw [List.length_cons]
   omega
 have:=go rows []
 rw [h.length_eq]
 exact Nat.le_trans this (by rw [List.length_nil];omega)
theorem c_1168 (hI:Inv rows S) (hk:rows.all Rw.ok=true) (hl:rows.length≤10) (h:Q (.bool true) σ):CallOK (XX B) (n+3) (.ref 1168) [.ro (rows.map Rw.v),dtdF rt S,tabF ou S] σ Q False:=by
 have hN:((toldA S.A).map (·.1)).Nodup:=(hI.tl.map (·.1)).nodup_iff.mpr (ru_ok hk).1
 have kel:=nd_sub el_hf hI.nd
 have kno:=nd_sub no_hf hI.nd
 have l1:(rows.filterMap elP).length≤10:=Nat.le_trans (List.length_filterMap_le ..) hl
 have l2:(rows.filterMap no3).length≤10:=Nat.le_trans (List.length_filterMap_le ..) hl
 have eno:rows.filterMap noP=(rows.filterMap no3).map noT:=(List.map_filterMap ..).symm
 have knt:(((rows.filterMap no3).map noT).map (·.1)).Nodup:=by rw [List.map_map];exact kno
 have ken:(((rows.foldl enF []).map enT).map (·.1)).Nodup:=by rw [List.map_map];exact (en_ok hk).1
 have hz:=hI.z
 have lr:(rows.map Rw.v).length≤1000:=by rw [List.length_map];omega
 refine CallOK.into ?_
 refine ok_1168.go rfl ?_
 refine .ro id lr ?_
 refine co_map (h:=elP) (p:=pairV) (fun r _ C hC=>?_) ?_
 ·cases r with
  | el nm M=>exact .mk (.tup (j:=0) rfl rfl) (.mk (.mk (.tup (j:=1) rfl rfl) (.mk (.tup (j:=2) rfl rfl) hC)))
  | att x nm k cs md v=>exact .mk (.tup (j:=0) rfl rfl) (.mk hC)
  | en nm v s nt=>exact .mk (.tup (j:=0) rfl rfl) (.mk hC)
  | no nm p s=>exact .mk (.tup (j:=0) rfl rfl) (.mk hC)
 refine fun x=>?_
 refine .dict .head (Nat.le_trans l1 (lbt rfl)) ?_
 refine .ro id lr ?_
 refine co_map (h:=noP) (p:=pairV) (fun r _ C hC=>?_) ?_
 ·cases r with
  | no nm p s=>exact .mk (.tup (j:=0) rfl rfl) (.mk (.mk (.tup (j:=1) rfl rfl) (.mk (a:=some 2) (b:=none) rfl rfl (.tup (lbt rfl) (Nat.ne_of_lt (lbt rfl))) hC)))
  | att x nm k cs md v=>exact .mk (.tup (j:=0) rfl rfl) (.mk hC)
  | en nm v s nt=>exact .mk (.tup (j:=0) rfl rfl) (.mk hC)
  | el nm M=>exact .mk (.tup (j:=0) rfl rfl) (.mk hC)
 refine fun x=>?_
 rw [eno]
 refine .dict .head (Nat.le_trans (Nat.le_of_eq (List.length_map ..)) (Nat.le_trans l2 (lbt rfl))) ?_
 refine fun a b=>?_
 refine .ro ?_
 refine lp_1168a (n:=n+2) rows [] [] none (by rw [List.length_nil];omega) (by rw [List.length_nil];omega) fun row=>?_
 refine fun c=>?_
 unfold dtdF attF
 refine .rd ?_
 rw [List.zip_map',List.map_map]
 refine lp_1168c hI.A S.A [] none none (fun _ h=>h) hN (Nat.le_trans (Nat.add_le_add_left (told_len hI.tl hl) _) (lbt rfl)) fun el nm=>?_
 have zg:S.gs.length≤1000:=by omega
 have zo:S.os.length≤1000:=by omega
 refine .items ?_
 refine .itm id (by rw [rdv_zip];exact zg) ?_
 rw [rdv_zip,hI.gs,List.map_map]
 refine co_map (h:=fun q=>some (enT q)) (p:=pairV) (fun q _ C hC=>.mk hC) ?_
 refine fun x=>?_
 rw [List.filterMap_eq_map']
 rw [hI.gs,List.length_map] at zg
 refine .dict .head (by rw [List.length_map];exact zg) ?_
 refine .items ?_
 refine .itm id (by rw [rdv_zip];exact zo) ?_
 rw [rdv_zip,hI.os,List.map_map]
 refine co_map (h:=fun q=>some (noT q)) (p:=pairV) (fun q _ C hC=>.mk hC) ?_
 refine fun x=>?_
 rw [List.filterMap_eq_map']
 rw [hI.os,List.length_map] at zo
 refine .dict .head (by rw [List.length_map];exact zo) ?_
 rw [dictOf_eq knt,dictOf_eq kel,dictOf_eq ken,hI.es]
 refine .eqD .rdv .rdv (.self kel (el_ok hk)) (.mk ?_)
 refine .eqT (.head _) (.tail _ (.tail _ (.head _))) ⟨hI.tl.length_eq,fun p hp=>⟨hI.tl.mem_iff.mp hp,(ru_ok hk).2 p (hI.tl.mem_iff.mp hp)⟩⟩ (.mk ?_)
 refine .eqD .rdv (.ref (.tail _ (.head _))) (.self ken fun p hp=>?_) (.mk ?_)
 ·obtain ⟨q,hq,rfl⟩:=List.mem_map.mp hp
  exact (en_ok hk).2 q hq
 refine .eqD .rdv .rdv (.self knt fun p hp=>?_) ?_
 ·obtain ⟨q,hq,rfl⟩:=List.mem_map.mp hp
  exact no_ok hk q hq
 exact .mk (.drop (.drop (.drop .refl))) h
end
section
variable {X:Cx} {fe:FE} {n:Nat} {ρ:LV} {σ τ:Store}
structure EndS (X:Cx) (s':Shared):Prop where
 gens:s'.gens = #[]
 os:s'.os=X.os
 stays:X.base.StaysIn s'.heap
def CallT (X:Cx) (n:Nat) (f:Value) (vs:List V) (σ:Store):Prop:=
 ∀ (env:Env) (outer:List Env) (A:Around) (g:Heap) (L:Addr) (m:Str→Option Value) (I H:Led) (s:Shared) (ws:List Value),
  Sta X n env outer A g L→KtsDicts (outer.filterMap (·.frame)) g→Dyn X g L m I H σ s→VRs X (X.imm I) ws vs→codeAny X.M A (.call f ⟨ws,[]⟩) (fun r s'=>r=.ok (.ret (.bool true))∧EndS X s') s
def ExT (X:Cx) (fe:FE) (n:Nat) (ss:List Stmt) (ρ:LV) (σ:Store):Prop:=
 ∀ (outer:List Env) (A₀:Around) (g:Heap) (L:Addr) (m:Str→Option Value) (I H:Led) (s:Shared) (E:Value→Shared→Prop),
  Sta X n (fe.env L) outer (A₀.deeper (fe.env L)) g L→Below A₀ X.base outer g→KtsDicts (outer.filterMap (·.frame)) g→Dyn X g L m I H σ s→LocR X fe (X.imm I) m ρ →
  PassesOwn X.M (A₀.deeper (fe.env L)) (fe.env L) E→(∀ hd,PassesOwnAt X.M ((A₀.deeper (fe.env L)).mark hd) (A₀.deeper (fe.env L)) (fe.env L) E) →
  wpAny X.M (A₀.deeper (fe.env L)) (execs ss (fe.env L)) (fun fl s'=>fl=.ret (.bool true)∧EndS X s') E s
theorem execs_app {M:Model} {Γ:Ctx} {env:Env} {rest:List Stmt} {Q:Flow→Pos→Shared→Prop} {E:Value→Pos→Shared→Prop}:∀ {pre:List Stmt} {p:Pos} {s:Shared},Sem.wp M Γ (execs pre env) (fun fl p' s'=>match fl with | .next=>Sem.wp M Γ (execs rest env) Q E p' s' | f=>Q f p' s') E p s→Sem.wp M Γ (execs (pre++rest) env) Q E p s
 | [],p,s,h=>h
 | st::pre,p,s,h=>by
  rw [List.cons_append,execs_cons,Sem.wp_bind']
  rw [execs_cons,Sem.wp_bind'] at h
  refine Sem.wp_mono M Γ _ (fun f p' s' h'=>?_) (fun _ _ _ h'=>h') _ _ h
  cases f<;>first | exact execs_app h' | exact h'
noncomputable def nxT (X:Cx) (fe:FE) (n:Nat) (ss:List Stmt):QK:=⟨fun ρ σ=>ExT X fe n ss ρ σ,fun _ _=>False,fun _ _=>False,fun _ _=>False⟩
theorem ext_cons {st:Stmt} {ss:List Stmt} (h:Ex1 X fe n st ρ σ (nxT X fe n ss) False):ExT X fe n (st::ss) ρ σ:=
 fun outer A₀ g L m I H s E a b k D c p p2=>wpAny_execs_cons (wpAny_mono (h outer _ g L m I H s E a D c p (fun f=>f.elim)) (fun fl s₁ z=>by
  obtain ⟨I₁,σ₁,m₁,ρ₁,hI,D₁,hL,hq⟩:=z
  cases hq with
  | nx hq=>exact hq outer A₀ g L m₁ I₁ H s₁ E a b k D₁ hL p p2
  | rt _ hq=>exact hq.elim
  | br hq=>exact hq.elim
  | ct hq=>exact hq.elim) fun _ _ z=>z)
theorem ext_pre {pre ss:List Stmt} (h:Ex X fe n pre ρ σ (nxT X fe n ss) False):ExT X fe n (pre++ss) ρ σ:=
 fun outer A₀ g L m I H s E a b k D c p p2 Γ ps hΓ=>execs_app (Sem.wp_mono X.M Γ _ (fun fl p' s₁ z=>by
  obtain ⟨I₁,σ₁,m₁,ρ₁,hI,D₁,hL,hq⟩:=z
  cases hq with
  | nx hq=>exact hq outer A₀ g L m₁ I₁ H s₁ E a b k D₁ hL p p2 Γ p' hΓ
  | rt _ hq=>exact hq.elim
  | br hq=>exact hq.elim
  | ct hq=>exact hq.elim) (fun _ _ _ z=>z) _ _ (h outer _ g L m I H s E a D c p (fun f=>f.elim) Γ ps hΓ))
inductive CelE (c:Addr) (K:Store→Prop) (σ:Store):Prop
 | mk {υ:Store}:Pick (c,.cell none) σ υ→K υ→CelE c K σ
theorem LV.Is.eq {ρ ρ':LV} {i:Nat} {y:V} (h:LV.Is ρ i y ρ'):ρ'.at i=some y:=(h.val i).trans (if_pos rfl)
theorem LV.Is.ne {ρ ρ':LV} {i j:Nat} {y:V} (h:LV.Is ρ i y ρ') (k:j≠i):ρ'.at j=ρ.at j:=(h.val j).trans (if_neg k)
theorem LocR.setC {P:Imm} {m:Str→Option Value} {ρ':LV} {j:Nat} {x:Str} {y:V} (c:LocR X fe P m ρ) (hj:fe.cs[j]? = some x) (hi:LV.Is ρ (fe.ls.length+j) y ρ') (hv:CelV X P fe x y):LocR X fe P m ρ':=
 ⟨c.ok,fun i z w hz hw=>c.val i z w hz (by
   have hlt:=(List.getElem?_eq_some_iff.mp hz).1
   rw [← hi.ne (Nat.ne_of_lt (Nat.lt_of_lt_of_le hlt (Nat.le_add_right _ _)))]
   exact hw),fun i z w hz hw=>by
  by_cases e:i=j
  ·subst e
   rw [hi.eq] at hw
   cases hw
   rw [hj] at hz
   cases hz
   exact hv
  ·refine c.cel i z w hz ?_
   rw [← hi.ne (fun q=>e (Nat.add_left_cancel q))]
   exact hw⟩
theorem ext_cel {x:Str} {px:Pos} {e:Expr} {pos:Pos} {c:Addr} {j:Nat} {ss:List Stmt} (hl:fe.cl.lookup x=some c) (hk:fe.scope.names.lookup x=some .cell) (hd:dbg x=false) (hj:fe.cs[j]? = some x) (hs:∀ L,swapsWith e (some (.Name x px)) pos.line (fe.env L)=pure false)
  (h:Ev X fe.ic n e ρ σ (fun y σ'=>CelE c (fun τ=>ρ.set (fe.ls.length+j) y fun ρ'=>ExT X fe n ss ρ' τ) σ') False):ExT X fe n (.Assign [.Name x px] e pos::ss) ρ σ:=
 ext_cons fun outer A g L m I H s E a b cc p d=>wpAny_Assign_Name (h.sm a b cc d fun v s₁ I₁ σ₁ y hI D c₁ hv hq=>by
  obtain ⟨hp,hq⟩:=hq
  obtain ⟨ρ',hi,hq⟩:=LV.set_is hq
  obtain ⟨r,rs,ho,hr,F,N,nd⟩:=D.apart hp
  obtain ⟨ob,u,rfl,e0,_⟩:=ho
  have D':=(D.drop hp).addH (r:=[(c,ob)]) hr F N nd s₁.toks
  refine wpAny_storeName_cell a.ek hk hl ⟨ob,D'.inH,e0⟩ fun h' hc hs'=>?_
  obtain ⟨ob',ho',e1⟩:=hc
  have D₂:=(D'.mvH (fun b o hb e=>(hs'.2 b fun q=>hb (List.mem_singleton.mpr q)).trans e) ho' s₁.toks).permI (I':=(c,ob')::I₁) (H':=H) List.perm_middle.symm fun _ z=>.tail _ z
  have hI₂:I₁⊆(c,ob')::I₁:=fun _ z=>.tail _ z
  exact ⟨(c,ob')::I₁,_,m,ρ',fun _ z=>hI₂ (hI z),D₂,(c₁.mono (imm_mono hI₂)).setC hj hi ⟨c,ob',v,hk,hd,hl,.inl (.head _),e1,hv.mono (imm_mono hI₂)⟩,.nx hq⟩) (hs L)
theorem ext_if {t:Expr} {body ss:List Stmt} {pos:Pos} (h:Te X fe.ic n t ρ σ (fun b σ'=>cond b (ExT X fe n body ρ σ') (ExT X fe n ss ρ σ')) False):ExT X fe n (.If t body [] pos::ss) ρ σ:=
 fun outer A₀ g L m I H s E a b k D c p p2=>by
 refine wpAny_execs_cons (wpAny_If (Tr.sm h a D c (fun f=>f.elim) fun v s₁ I₁ σ₁ y hI D₁ c₁ hv0 hq=>?_))
 subst hv0
 cases v with
 | true=>
  rw [if_pos rfl]
  refine wpAny_mono (hq outer A₀ g L m I₁ H s₁ E a b k D₁ c₁ p p2) (fun fl s₂ z=>?_) fun _ _ z=>z
  obtain ⟨rfl,z⟩:=z
  exact ⟨rfl,z⟩
 | false=>
  rw [if_neg Bool.false_ne_true]
  exact wpAny_execs_nil (hq outer A₀ g L m I₁ H s₁ E a b k D₁ c₁ p p2)
theorem ext_ret {x:Str} {np pos rp:Pos} {args:List Expr} {ss:List Stmt} {f:Addr} (hx:fe.ic.gl x=true) (hg:Gl X x (.ref f)) (hk:keepIn X.K (.ref f)=true) (hp:PlL args)
  (h:Es X fe.ic n pos args ρ σ (fun ys σ₂=>CallT X n (.ref f) ys σ₂) False):ExT X fe n (.Return (some (.Call (.Name x np) args [] pos)) rp::ss) ρ σ:=
 fun outer A₀ g L m I H s E a b k D c p p2=>by
 refine wpAny_execs_cons (wpAny_Return_some ?_)
 show wpAny X.M _ (do callWith pos (← eval (.Name x np) (fe.env L)) [] (backTo pos (starEach args (fe.env L))) (backToKw pos [])) _ E s
 refine wpAny_bind (Tr.sm (ev_glo (Q:=fun y σ'=>y=.raw (.ref f)∧σ'=σ) (R:=False) hx hg .i_raw ⟨rfl,rfl⟩) a D c (fun f=>f.elim) fun v s₁ I₁ σ₁ y hI D₁ c₁ hv hq0=>?_)
 obtain ⟨rfl,rfl⟩:=hq0
 obtain rfl:=hv.e_raw
 refine callWith_fn (first:=[]) hk hp ?_
 refine Tr.sm h a D₁ c₁ (fun f=>f.elim) fun vs s₂ I₂ σ₂ ys hI₂ D₂ c₂ hvs hq₂=>?_
 refine ⟨a.K.keeps D₂.F.keep,wpAny_call (codeAny_mono (hq₂ (fe.env L) outer _ g L m I₂ H s₂ vs a k D₂ hvs) fun r s' z=>?_)⟩
 obtain ⟨rfl,z⟩:=z
 exact ⟨rfl,z⟩
theorem ext_try {fnm:Str} {fsc:Scope} {ff:Addr} {fcd:Value} {fls fcs:List Str} {x xe:Str} {np np' pos ep hp rp cp tp:Pos} {kk:Nat} {args:List Expr} {ss:List Stmt} {f:Addr} {mean:ExcName→Option Value} (hx:(FE.mk fnm fsc ff fcd fls [] fcs).ic.gl x=true) (hg:Gl X x (.ref f)) (hk:keepIn X.K (.ref f)=true) (hpl:PlL args) (hpv:PlV (.Call (.Name x np) args [] pos))
  (h:Es X (FE.mk fnm fsc ff fcd fls [] fcs).ic n pos args ρ σ (fun ys σ₂=>CallOK X n (.ref f) ys σ₂ (fun _ _=>False) True) False) (TB:Top X.p X.loose mean X.mg X.mb X.base) (ex:nsIn X.K mainGlobals xe=some (some (.ref X.xc))) (q:ktsIn X.K X.xc "BaseException" = true)
  (hgx:glS fsc xe=true) :
  ExT X (FE.mk fnm fsc ff fcd fls [] fcs) n (.Try [.Expr (.Call (.Name x np) args [] pos) ep] [.ExceptHandler (some (.Name xe np')) none [.Return (some (.Constant (.bool true) kk cp)) rp] hp] [] [] tp::ss) ρ σ:=
 fun outer A₀ g L m I H s E a b k D c p p2=>by
 have hf:fsc.kind=.function:=FE.kind c.ok
 have hke:=band hgx
 clear hgx
 refine wpAny_execs_cons (wpAny_Try_except (wpAny_execs_cons (wpAny_Expr_any ?_ (by unfold interactive;rw [a.ek];rfl) (hpv _ _ _))))
 show wpAny X.M _ (do callWith pos (← eval (.Name x np) _) [] (backTo pos (starEach args _)) (backToKw pos [])) _ _ s
 refine wpAny_bind (Tr.sm (ev_glo (Q:=fun y σ'=>y=.raw (.ref f)∧σ'=σ) (R:=False) hx hg .i_raw ⟨rfl,rfl⟩) a D c (fun f=>f.elim) fun v s₁ I₁ σ₁ y hI D₁ c₁ hv hq0=>?_)
 obtain ⟨rfl,rfl⟩:=hq0
 obtain rfl:=hv.e_raw
 refine callWith_fn (first:=[]) hk hpl ?_
 refine Tr.sm h a D₁ c₁ (fun f=>f.elim) fun vs s₂ I₂ σ₂ ys hI₂ D₂ c₂ hvs hq₂=>?_
 refine ⟨a.K.keeps D₂.F.keep,wpAny_call (codeAny_mono (hq₂ _ outer _ g L m I₂ H s₂ vs a D₂ hvs) fun r s' z=>?_)⟩
 rcases r with e | (_ | _ | _ | v)
 ·obtain ⟨rfl,hg,ho,F2,hR,hsm⟩:=z.2
  refine caught_SO0 (KF:=X.K) hR F2 b hsm a.KB TB k KtsTurn.refl ex q (fun h' g' news₂ T F N G N' K KK T' D'=>?_) hf (eq_of_beq hke.1) (bne' hke.2) (p2 _)
  exact wpAny_execs_cons (wpAny_Return_some (wpAny_Constant_bool ⟨rfl,hg,ho,fun b' o e=>F.keep b' o (K.stays b' o e)⟩))
 ·exact z.elim
 ·exact z.elim
 ·exact z.elim
 ·obtain ⟨_,_,_,_,_,_,z⟩:=z
  exact z.elim
theorem callT {fnm:Str} {fsc:Scope} {ff:Addr} {fcd:Value} {fls fcs:List Str} {body:List Stmt} {nm:Str} {params:Arguments} {dV kV doc pm ct oc:Value} {an od:Option Addr} {osl:Array (Option Value)} {names us:List Str} {ys:List V} {k:Nat}
  (hf:X.K.lookup ff=some ⟨oc,od,.func (fnOf nm fnm params body fsc dV kV doc pm an fcd ct),osl⟩) (hc:(codeIn X.K fcd fnm&&noCells fsc&&(FE.mk fnm fsc ff fcd fls [] fcs).ok&&names.all (fun x=>fsc.names.lookup x==some .local))=true)
  (hb:∀ s ws,X.K.In s.heap→ws.length=ys.length→BindsTo s (fnOf nm fnm params body fsc dV kV doc pm an fcd ct) ⟨ws,[]⟩ (names.zip ws)) (hl:names.length=ys.length)
  (hls:fls=names++us) (h:ExT X (FE.mk fnm fsc ff fcd fls [] fcs) n body (LV.ofs ys k) σ):CallT X (n+1) (.ref ff) ys σ:=fun env outer A g L m I H s ws a kd b c=>by
 obtain ⟨rs,hr,hN,hnd⟩:=b.S.ex
 obtain ⟨A₁,hB⟩:=a.B
 have hc:=band hc
 have h1:=band hc.1
 have h2:=band h1.1
 have h3:=band h2.2
 have h4:=band h3.1
 have hlen:=c.len
 have hk:fsc.kind=.function:=FE.kind h1.2
 obtain ⟨FG,BG,st,_⟩:=groundX (R:=fun _ _=>True) hB b.F hN a.fr a.ef a.ek
 refine codeAny_call_def (fd:=fnX nm fnm params body fsc [] dV kV doc pm an fcd ct) (body:=body) (binds:=names.zip ws) a.depth ((a.K.keeps b.F.keep) _ _ hf) rfl (a.T.nolimit.keeps b.F.keep) (codeRec_of (a.K.keeps b.F.keep) h2.1) rfl (hb s ws (a.K.keeps b.F.keep) hlen) (fun y hy=>bne_iff_ne.mp (List.all_eq_true.mp h4.1 y hy))
  (fun y hy=>?_) (fun h₁ hns hk₁=>?_) (bne' h4.2) (bne' h3.2) hk
 ·exact eq_of_beq (List.all_eq_true.mp hc.2 _ (List.of_mem_zip (b:=y.2) hy).1)
 ·refine wpAny_mono (h (env::outer) A (hideAll s.heap ((I++(H++rs)).map (·.1))) s.heap.objs.size _ I H _ _ (a.up hk rfl BG st) BG ?_ ⟨⟨hns,fun b o e=>hk₁ b o (of_hideAll _ e),Nat.le_of_eq (hideAll_size _ _)⟩,⟨rs,hr,?_,hnd⟩,b.gens,b.os⟩ (LocR.start h1.2 hls c hl) PassesOwn.leaving (fun _=>PassesOwnAt.leaving)) ?_ fun _ _ z=>z
  ·intro b' hb'
   rw [List.filterMap_cons,a.ef] at hb'
   rcases List.mem_cons.mp hb' with rfl | hb'
   ·obtain ⟨o,es,ep,e1,e2,_⟩:=FG.ns
    exact ⟨o,es,ep,e1,e2⟩
   ·obtain ⟨o,es,ep,e1,e2⟩:=kd b' hb'
    exact ⟨o,es,ep,FG.keep _ _ e1,e2⟩
  ·exact fun p hp=>⟨hk₁ _ _ (hN p hp).1,Nat.ne_of_lt (Heap.lt_size (hN p hp).1),hideAll_none _ (List.mem_map_of_mem hp)⟩
  ·rintro fl s' ⟨rfl,z⟩
   exact ⟨rfl,z⟩
end
theorem start_law {X:Cx} {n:Nat} {fe:Addr→FE} {nm:Str} {f:Addr} {params:Arguments} {body:List Stmt} {sc:Scope} {pm cd doc:Value} {o:Obj} {v:Value} {y:V} {x c1 c2:Str} {us:List Str} {s:Shared} {R:Result→Shared→Prop} {k:Nat}
  (hfe:∀ L,fe L=⟨nm,sc,f,cd,x::us,[(c1,L+2),(c2,L+1)],[c2,c1]⟩)
  (hb:s.heap=X.base) (hg:s.gens = #[]) (hos:s.os=X.os) (hK:X.K.In X.base) (hT:TopRead X.p X.loose X.mg X.mb X.base) (hn:n≤200)
  (ho:s.heap.get? f=some o) (hdata:o.data=.func (Calls.docDef nm params body sc pm cd doc)) (hcd:s.heap.CodeRec cd nm) (hbind:bindArgs (Calls.docDef nm params body sc pm cd doc) ⟨[v],[]⟩=pure [(x,v)])
  (hv:VR X (X.imm []) v y) (hok:(fe 0).ok=true) (hcs:∀ L,cellsFrom (L+1) sc.names []=[(c1,L+2),(c2,L+1)]) (hne:c1≠c2)
  (hco:sc.isCoroutine=false) (hgen:sc.isGenerator=false)
  (hR:∀ s',EndS X s'→R (.ok (.ret (.bool true))) s')
  (h:∀ L,ExT X (fe L) n body (LV.ofs [y] k) [(L+2,.cell none),(L+1,.cell none)]) :
  codeAny X.M callerA (.call (.ref f) ⟨[v],[]⟩) R s:=by
 have ok:∀ L,(fe L).ok=true:=fun L=>by have:=hok;rw [hfe] at this ⊢;exact this
 have hk:sc.kind=.function:=by have:=FE.kind hok;rw [hfe] at this;exact this
 have hxl:sc.names.lookup x=some .local:=by have:=(FE.lcl (i:=0) (x:=x) hok (by rw [hfe];rfl)).1;rw [hfe] at this;exact this
 refine call_cells (by decide) ho hdata (hb▸hT.nolimit) hcd hbind (fun z hz=>?_) (fun h₁ tk F C=>?_) hco hgen hk
 ·rw [List.mem_singleton.mp hz];exact .inl hxl
 ·rw [show (envOfC nm sc s.heap.objs.size f cd).kindOf=fun z=>sc.names.lookup z from rfl] at F C
  have hbl:bindL (fun z=>sc.names.lookup z) [(x,v)] (fun _=>none)=fun z=>[(x,v)].reverse.lookup z:=by
   funext z
   show (if sc.names.lookup x=some .local then fun y=>if y=x then some v else none else fun _=>none) z=List.lookup z [(x,v)]
   rw [if_pos hxl,List.lookup_cons]
   by_cases e:z=x
   ·subst e;rw [if_pos rfl,beq_self_eq_true]
   ·rw [if_neg e,beq_eq_false_iff_ne.mpr e];rfl
  have hbc:bindC (fun z=>sc.names.lookup z) [(x,v)] (fun _=>none)=fun _=>none:=by
   unfold bindC bindC
   rw [hxl];rfl
  rw [hbl] at F
  rw [hbc,hcs] at C
  have env:envOfC nm sc s.heap.objs.size f cd=(fe s.heap.objs.size).env s.heap.objs.size:=by
   rw [hfe]
   unfold envOfC;rw [hcs]
  obtain ⟨o1,h1,d1⟩:=C.cell c1 (s.heap.objs.size+2) (by rw [List.lookup_cons,beq_self_eq_true])
  obtain ⟨o2,h2,d2⟩:=C.cell c2 (s.heap.objs.size+1) (by rw [List.lookup_cons,beq_eq_false_iff_ne.mpr (Ne.symm hne),List.lookup_cons,beq_self_eq_true])
  have fresh:∀ b,s.heap.objs.size≤b→s.heap.get? b=none:=fun b hb=>Heap.get?_none_of_le hb
  have ls0:∀ L,(fe L).ls=[x]++us:=fun L=>by rw [hfe];rfl
  rw [env]
  refine wpAny_mono (h s.heap.objs.size [] callerA s.heap s.heap.objs.size _ [] [] { s with heap:=h₁,toks:=tk } _ ⟨rfl,rfl,by show (fe _).scope.kind=_;rw [hfe];exact hk,rfl,?_,?_,⟨callerA,hb▸below_caller _⟩,hb▸hK,hK,hb▸hT⟩ (hb▸below_caller _) ktsDicts_nil
   ⟨F,⟨[(s.heap.objs.size+2,o1),(s.heap.objs.size+1,o2)],.cons (r:=[_]) ⟨o1,_,rfl,d1,trivial⟩ (.cons (r:=[_]) (rs:=[]) ⟨o2,_,rfl,d2,trivial⟩ .nil),?_,?_⟩,hg,hos⟩ (LocR.start (names:=[x]) (ws:=[v]) (ys:=[y]) (ok _) (ls0 _) (.i_cons hv .i_nil) rfl) PassesOwn.leaving (fun _=>PassesOwnAt.leaving)) (fun fl s' z=>?_) fun _ _ z=>z
  ·show callerA.depth+1+3 * n<990
   have:callerA.depth≤301:=by decide
   omega
  ·show callerA.units+3+20 * n<9800
   have:callerA.units≤4:=by decide
   omega
  ·intro p hp
   rcases List.mem_cons.mp hp with rfl | hp
   ·exact ⟨h1,Nat.ne_of_gt (Nat.lt_add_of_pos_right (by decide)),fresh _ (Nat.le_add_right ..)⟩
   ·obtain rfl:=List.mem_singleton.mp hp
    exact ⟨h2,Nat.ne_of_gt (Nat.lt_add_of_pos_right (by decide)),fresh _ (Nat.le_add_right ..)⟩
  ·refine List.nodup_cons.mpr ⟨fun q=>?_,List.nodup_cons.mpr ⟨List.not_mem_nil,List.nodup_nil⟩⟩
   exact absurd (List.mem_singleton.mp q) (Nat.ne_of_gt (Nat.lt_succ_self _))
  ·obtain ⟨rfl,z⟩:=z
   exact hR s' z
section
variable {X:Cx} {fe:FE} {n:Nat} {ρ:LV} {σ:Store} {R:Prop} {c:CP}
theorem asg_comp {fI:Addr} (hX:ExcC X fI) (ok:c.OK X n R) {elt cnd src:IE} {two:Bool} {bl:List Str} {js:List Nat} {v:Expr} {z:Str} {i:Nat} {pz spos:Pos} {Q:QK} (h:(chk X fe.ic (.comp elt cnd src two bl js)).1 v=true) (hz:fe.ls[i]? = some z) (hsw:∀ L,swapsWith v (some (.Name z pz)) spos.line (fe.env L)=pure true)
  (q:(wp c src).v ρ σ fun y σ₁=>CoE c.R (fun xs=>CompI (tgMk two (ρ.pk js)) (fun ρ σ K=>(wp c cnd).t ρ σ fun b σ=>IfE (fun b=>K b σ) b) (wp c elt).v (fun ys σ=>ρ.set i (.ro ys) fun ρ'=>Q.nx ρ' σ) xs [] σ₁) two y):Ex1 X fe n (.Assign [.Name z pz] v spos) ρ σ Q R:=by
 revert hsw;refine EV.iComp h fun a' t i fs sc p k0 hsw=>?_
 clear h
 have h:=band k0
 have h1:=band h.1
 have h2:=band h1.1
 have h3:=band h2.1
 have h4:=band h3.1
 have is:=sound hX ok src fe.ic
 refine ex_asg_comp (btgB_ok h3.2) (blkB_ok h4.1) (frB_ok h4.2) (is.pl _ h.2).I hz hsw ((is.v _ h.2 q).mono (fun y σ₁ q=>coE_ok (btgB_ok h3.2) ok.R' (fun _ z=>?_) q) id)
 refine CompI.mono ?_ ?_ z
 ·intro ρ σ K K' k q
  exact ifs_ok (sound hX ok cnd _) h1.2 (fun b σ q=>k b σ (IfE.go q)) q
 ·intro ρ σ K K' k q
  exact ((sound hX ok elt _).v _ h2.2 q).mono k id
end
open Mine.Top
@[irreducible] noncomputable def dOf (B:Bun) (a:Addr):DefRec:=match (XX B).K.lookup a with
 | some ⟨_,_,.func ⟨nm,_,ps,.stmts b,sc,_,_,_,_,_,_,_,_,_,_⟩,_⟩=>⟨nm,ps,b,sc,default⟩
 | _=>⟨"",⟨[],[],none,[],[],none,[]⟩,[],default,default⟩
@[irreducible] noncomputable def sOf (B:Bun) (a:Addr) (i:Nat):Stmt:=((dOf B a).body[i]?).getD (.Pass default)
noncomputable def Stmt.vV:Stmt→Expr
 | .Assign _ v _=>v | .If t _ _ _=>t | .Return (some v) _=>v | .Try [.Expr v _] _ _ _ _=>v | _=>.Name "" default
noncomputable def Stmt.vP:Stmt→Pos
 | .Assign _ _ p=>p | .If _ _ _ p=>p | .Return _ p=>p | .Try _ _ _ _ p=>p | _=>default
noncomputable def Stmt.tP:Stmt→Pos
 | .Assign [.Name _ p] _ _=>p | .Try [.Expr _ p] _ _ _ _=>p | _=>default
noncomputable def Stmt.bd:Stmt→List Stmt
 | .If _ b _ _=>b | .Try _ [.ExceptHandler _ _ b _] _ _ _=>b | _=>[]
noncomputable def Stmt.b0 (s:Stmt):Stmt:=((Stmt.bd s)[0]?).getD (.Pass default)
noncomputable def Stmt.hN:Stmt→Pos
 | .Try _ [.ExceptHandler (some (.Name _ p)) _ _ _] _ _ _=>p | _=>default
noncomputable def Stmt.hP:Stmt→Pos
 | .Try _ [.ExceptHandler _ _ _ p] _ _ _=>p | _=>default
noncomputable def Expr.cA:Expr→List Expr
 | .Call _ a _ _=>a | _=>[]
noncomputable def Expr.cP:Expr→Pos
 | .Call _ _ _ p=>p | .Constant _ _ p=>p | _=>default
noncomputable def Expr.cN:Expr→Pos
 | .Call (.Name _ p) _ _ _=>p | _=>default
noncomputable def Expr.cK:Expr→Nat
 | .Constant _ k _=>k | _=>0
noncomputable abbrev clOf (x:Str) (e:Expr):Expr:=.Call (.Name x (Expr.cN e)) (Expr.cA e) [] (Expr.cP e)
noncomputable abbrev rtOf (x:Str) (s:Stmt):Stmt:=.Return (some (clOf x (Stmt.vV s))) (Stmt.vP s)
noncomputable abbrev agOf (x:Str) (s:Stmt):Stmt:=.Assign [.Name x (Stmt.tP s)] (Stmt.vV s) (Stmt.vP s)
section
variable (B:Bun)
noncomputable abbrev sL (i:Nat):Stmt:=sOf B 1173 i
noncomputable abbrev sR (i:Nat):Stmt:=sOf B 1163 i
noncomputable abbrev feR:FE:=⟨(dOf B 1163).name,(dOf B 1163).scope,1163,.ref 1162,["text"],[],[]⟩
noncomputable abbrev feL (L:Addr):FE:=⟨(dOf B 1173).name,(dOf B 1173).scope,1173,.ref 1172,["script", "drawn", "rows", "pair", "text", "table", "dtd", "wrong"],[("names",L+2),("source",L+1)],["source", "names"]⟩
theorem bR:(dOf B 1163).body=[.Try [.Expr (clOf "read_dtd" (Stmt.vV (sR B 0))) (Stmt.tP (sR B 0))] [.ExceptHandler (some (.Name "DtdFault" (Stmt.hN (sR B 0)))) none [.Return (some (.Constant (.bool true) (Expr.cK (Stmt.vV (Stmt.b0 (sR B 0)))) (Expr.cP (Stmt.vV (Stmt.b0 (sR B 0)))))) (Stmt.vP (Stmt.b0 (sR B 0)))] (Stmt.hP (sR B 0))] [] [] (Stmt.vP (sR B 0)),sR B 1]:=by kernel_rfl
theorem bL:(dOf B 1173).body=agOf "source" (sL B 0)::agOf "drawn" (sL B 1)::([sL B 2,sL B 3,sL B 4]++(agOf "names" (sL B 5)::.If (Stmt.vV (sL B 6)) [rtOf "_law_refused" (Stmt.b0 (sL B 6))] [] (Stmt.vP (sL B 6))::([sL B 7,sL B 8]++(.If (Stmt.vV (sL B 9)) (Stmt.bd (sL B 9)) [] (Stmt.vP (sL B 9))::([sL B 10,sL B 11,sL B 12]++[rtOf "_law_refused" (sL B 13)]))))):=by kernel_rfl
end
section
variable {B:Bun} {n:Nat} {σ:Store} {L:Addr}
theorem gl_fe {fe:FE} {x:Str} {f:Addr} (h:glS fe.scope x=true) (k:nsIn (XX B).K mainGlobals x=some (some (.ref f))):fe.ic.gl x=true∧Gl (XX B) x (.ref f):=⟨h,.inl k⟩
noncomputable def aR:IE:=.cons (.loc 0) (.cons (.call 1068 (.cons (.call 933 .nil) .nil)) (.cons (.sl [97]) .nil))
theorem c_1163 {t:List Nat} {mean:ExcName→Option Value} (TB:Top qq loo mean B.mg B.mb B.base) (hr:Rds (fun _=>False) True t S00) (ht:t.length≤1000000):CallT (XX B) (n+15) (.ref 1163) [.str t] σ:=by
 have g:=gl_fe (B:=B) (fe:=feR B) (x := "read_dtd") (f:=915) (by kernel_rfl) (by kernel_rfl)
 have ka:(chk (XX B) (feR B).ic aR).2 (Expr.cA (Stmt.vV (sR B 0)))=true:=by kernel_rfl
 have sa:=(sound (n:=n+14) (R:=False) (c:=cok (XX B) (n+14) False) exC cok_ok aR (feR B).ic).l _ ka
 have hlk:(XX B).K.lookup 1163=some ⟨.type "function",none,.func (fnOf (dOf B 1163).name (dOf B 1163).name (dOf B 1163).params (dOf B 1163).body (dOf B 1163).scope .none .none .none (.str t473 1672) none (.ref 1162) .none),#[]⟩:=by kernel_rfl
 refine callT (names:=["text"]) (us:=[]) (k:=0) (fls:=["text"]) (fcs:=[]) hlk (by kernel_rfl) (fun s ws _ h=>by match ws,h with | [w0],_=>exact BindsTo.of_eq (by kernel_rfl)) rfl rfl ?_
 rw [bR]
 refine ext_try (f:=915) g.1 g.2 (by kernel_rfl) sa.1 (fun _ _ _=>rfl) (sa.2 ?_) TB (by kernel_rfl) (by kernel_rfl) (by kernel_rfl)
 refine c_933 (n:=n+12) ?_
 refine c_1068 (n:=n+12) fun ou g p=>?_
 exact c_915 hr ht fun _ _ _ _ _ _ h=>h.elim
end
section
variable {B:Bun} {n:Nat} {σ τ:Store} {Q:V→Store→Prop} {R:Prop} {a:Addr} {o:AObj} {L:Addr}
theorem nodup_of_dups {ns:List (List Nat×List Nat)} (h:(List.range ns.length).filterMap (fun i=>cond ((ns.take i).any (· == ns.getD i ([],[]))) (some (V.int i)) none)=[]):ns.Nodup:=by
 refine List.pairwise_iff_getElem.mpr fun i j hi hj hlt e=>?_
 have:=List.filterMap_eq_nil_iff.mp h j (List.mem_range.mpr hj)
 rw [List.any_eq_true.mpr ⟨_,List.mem_take_iff_getElem.mpr ⟨i,by omega,rfl⟩,by rw [List.getD_eq_getElem?_getD,List.getElem?_eq_getElem hj,Option.getD_some];exact beq_iff_eq.mpr e⟩] at this
 cases this
theorem dups_of_not {ns:List (List Nat×List Nat)} (h:(List.range ns.length).filterMap (fun i=>cond ((ns.take i).any (· == ns.getD i ([],[]))) (some (V.int i)) none)≠[]):¬ ns.Nodup:=fun hnd=>by
 refine h (List.filterMap_eq_nil_iff.mpr fun i hi=>?_)
 have hi:=List.mem_range.mp hi
 have:((ns.take i).any (· == ns.getD i ([],[])))=false:=by
  refine List.any_eq_false.mpr fun q hq hqe=>?_
  obtain ⟨j,hj,rfl⟩:=List.mem_take_iff_getElem.mp hq
  rw [List.getD_eq_getElem?_getD,List.getElem?_eq_getElem hi,Option.getD_some] at hqe
  exact List.pairwise_iff_getElem.mp hnd j i (by omega) hi (by omega) (eq_of_beq hqe)
 rw [this]
 rfl
inductive WrT:V→Prop
 | mk {w}:Wrong w→w.length≤100→WrT (.str w)
theorem WrT.al:Al WrT (([.str [60,33,69,76,69,77,69,78,84,32,97,62],.str [60,33,69,76,69,77,69,78,84,32,97,32,65,78,89],.str [60,33,69,76,69,77,69,78,84,97,32,65,78,89,62],.str [60,33,65,84,84,76,73,83,84,32,97,32,112,32,67,68,65,84,65,62],.str [60,33,65,84,84,76,73,83,84,32,97,32,112,32,40,117,124,117,41,32,39,117,39,62]] ++
  [.str [60,33,91,73,78,67,76,85,68,69,91,93,93,62],.str [60,33,45,45,32,97,32,45,45,32,98,32,45,45,62],.str [60,33,45,45,32,97,32,45,45,45,62],.str [60,33,78,79,84,65,84,73,79,78,32,103,62],.str [60,33,69,78,84,73,84,89,32,101,62]]) ++
  [.str [60,33,69,78,84,73,84,89,32,101,32,80,85,66,76,73,67,32,39,112,39,62],.str [60,63,120,109,108,32,97,63,62],.str [120]]):=
 have le {l:List Nat} (h:Nat.ble l.length 100=true):l.length≤100:=lbt h
 .cons (.mk wr_a (le rfl)) (.cons (.mk wr_b (le rfl)) (.cons (.mk wr_c (le rfl)) (.cons (.mk wr_d (le rfl)) (.cons (.mk wr_e (le rfl)) (.cons (.mk wr_f (le rfl)) (.cons (.mk wr_g (le rfl)) (.cons (.mk wr_h (le rfl)) (.cons (.mk wr_i (le rfl)) (.cons (.mk wr_j (le rfl)) (.cons (.mk wr_k (le rfl)) (.cons (.mk wr_l (le rfl)) (.cons (.mk wr_m (le rfl)) .nil))))))))))))
theorem lp_draw {K:List V→Store→Prop}:∀ (xs:List V) (ds:List Dr) {o:AObj},Src2 o→(∀ d∈ds,Dr.OK d)→(∀ (ds':List Dr) (o':AObj),ds'.length=ds.length+xs.length→(∀ d∈ds',Dr.OK d)→Src2 o'→K (ds'.map Dr.v) ((a,o')::τ)) →
  CompI (tgMk false (.o (some (.ref a)) .n)) (fun ρ σ K=>(wp (cok (XX B) (n+5) R) (.bln true)).t ρ σ fun b σ=>IfE (fun b=>K b σ) b) (wp (cok (XX B) (n+5) R) (.call 1142 (.cons (.loc 1) .nil))).v K xs (ds.map Dr.v) ((a,o)::τ)
 | [],ds,o,ho,hd,h=>h ds o rfl hd ho
 | x::xs,ds,o,ho,hd,h=>by
  refine .mk (c_1142 ho fun rs W ws t e o' h1 h2 h3 h4 h5=>?_)
  have:=lp_draw (K:=K) xs (ds++[⟨rs,W,t⟩]) h5 (fun d hd'=>(List.mem_append.mp hd').elim (hd d) fun hd'=>by
   cases List.mem_singleton.mp hd'
   exact ⟨h1,h2,h3,h4⟩) fun ds' o' hl=>h ds' o' (by rw [hl,List.length_append,List.length_cons,List.length_cons,List.length_nil];omega)
  rw [List.map_append] at this
  exact this
noncomputable def iF:IS:=.for_ (.nm 3) (.loc 1) (.asg 2 (.bin .Add (.loc 2) (.item (.loc 3) (.int 0))) .done) (.asg 4 (.call 1156 (.cons (.loc 8) (.cons (.loc 1) .nil))) .done)
noncomputable abbrev ρL (x:V) (dr:Option V) (rw pr te ta dt wr so na:Option V):LV:=.c x (.o dr (.o rw (.o pr (.o te (.o ta (.o dt (.o wr (.o so (.o na .n)))))))))
theorem lp_rows {q:QK} {x:V} {dr te ta dt wr so na:Option V}:∀ (ds:List Dr) (rs:List Rw) (p:Option V),(rs++ds.flatMap Dr.rs).length≤1000→(∀ p,q.nx (ρL x dr (some (.ro ((rs++ds.flatMap Dr.rs).map Rw.v))) p te ta dt wr so na) σ) →
  ForI (wS (cok (XX B) n R) iF.lb) (.nm 3) q (ds.map Dr.v) (ρL x dr (some (.ro (rs.map Rw.v))) p te ta dt wr so na) σ
 | [],rs,p,_,h=>by
  have:=h p
  rw [List.flatMap_nil,List.append_nil] at this
  exact this
 | d::ds,rs,p,hl,h=>by
  rw [List.flatMap_cons,← List.append_assoc] at hl h
  refine .mk (.lst .ro (j:=0) rfl rfl) ?_
  have l1:(rs++d.rs).length≤1000:=by
   rw [List.length_append] at hl
   exact Nat.le_trans (Nat.le_add_right ..) hl
  refine .addl .ro .ro (by rw [List.length_map,List.length_map,← List.length_append];exact Nat.le_trans l1 (lbt rfl)) ?_
  rw [← List.map_append]
  exact lp_rows ds (rs++d.rs) _ hl h
theorem range_i {K:VK} {d:Nat} (h:K (.rng (1+d)) σ):BoE σ K .range [.int (1+(d:Int))]:=.range (k:=1+d) h
theorem ds_ok {ds:List Dr} (h:∀ d∈ds,Dr.OK d):(ds.flatMap Dr.rs).all Rw.ok=true∧(ds.flatMap Dr.rs).length≤2 * ds.length:=by
 induction ds with
 | nil=>exact ⟨rfl,Nat.le_refl _⟩
 | cons d ds ih=>
  obtain ⟨h1,_,_,_⟩:=h d (.head _)
  obtain ⟨h2,h3⟩:=ih fun d hd=>h d (.tail _ hd)
  rw [List.flatMap_cons,List.all_append,h1.v,h2,List.length_append,List.length_cons]
  have:=h1.l
  exact ⟨rfl,by omega⟩
theorem nm_ok {rows:List Rw} (h:rows.all Rw.ok=true):∀ p∈rows.filterMap nmP,okV (prV p)=true:=fun p hp=>by
 obtain ⟨r,hr,e⟩:=List.mem_filterMap.mp hp
 have:=List.all_eq_true.mp h r hr
 cases r<;>cases e
 ·exact (band this).2
 ·exact (band this).2
theorem lsl_pre {α:Type} {l:List α} {i:Nat} (h:i≤l.length):lsl l none (some (i:Int))=l.take i:=by
 show (l.take (lclip l.length (i:Int))).drop 0=_
 rw [lclip_nat h]
 rfl
noncomputable def e0:IE:=.call 1079 (.cons (.loc 0) (.cons (.int 0) .nil))
noncomputable def e1s:IE:=.bi .range (.cons (.bin .Add (.int 1) (.call 1086 (.cons (.loc 8) (.cons (.int 3) .nil)))) .nil)
noncomputable def i2:IS:=.asg 2 (.lro .nil) iF
noncomputable def e5:IE:=.frz (.comp (.sli (.loc 0) .non (.int 2)) (.cmp .In (.item (.loc 0) (.int 0)) (.lro (.cons (.sl elS) (.cons (.sl noS) .nil)))) (.loc 2) false ["row"] [])
noncomputable def e6:IE:=.cmp .NotEq (.comp (.loc 0) (.cmp .In (.item (.loc 1) (.loc 0)) (.sli (.loc 1) .non (.loc 0))) (.bi .range (.cons (.bi .len (.cons (.loc 9) .nil)) .nil)) false ["at"] [9]) (.lro .nil)
noncomputable def a6:IE:=.cons (.loc 4) .nil
noncomputable def i7:IS:=.asg 5 (.call 1068 (.cons (.call 933 .nil) .nil)) (.asg 6 (.call 915 (.cons (.loc 4) (.cons (.loc 5) (.cons (.sl [114]) .nil)))) .done)
noncomputable def e9:IE:=.orc (.cmp .NotEq (.fld 550 0 (.loc 6)) (.sl [114])) (.bop1 (.not (.call 1168 (.cons (.loc 2) (.cons (.loc 6) (.cons (.loc 5) .nil))))))
noncomputable def i10:IS:=.asg 7 (.lro (.cons (.sl [60,33,69,76,69,77,69,78,84,32,97,62]) (.cons (.sl [60,33,69,76,69,77,69,78,84,32,97,32,65,78,89]) (.cons (.sl [60,33,69,76,69,77,69,78,84,97,32,65,78,89,62]) (.cons (.sl [60,33,65,84,84,76,73,83,84,32,97,32,112,32,67,68,65,84,65,62]) (.cons (.sl [60,33,65,84,84,76,73,83,84,32,97,32,112,32,40,117,124,117,41,32,39,117,39,62]) .nil))))))
 (.asg 7 (.bin .Add (.loc 7) (.lro (.cons (.sl [60,33,91,73,78,67,76,85,68,69,91,93,93,62]) (.cons (.sl [60,33,45,45,32,97,32,45,45,32,98,32,45,45,62]) (.cons (.sl [60,33,45,45,32,97,32,45,45,45,62]) (.cons (.sl [60,33,78,79,84,65,84,73,79,78,32,103,62]) (.cons (.sl [60,33,69,78,84,73,84,89,32,101,62]) .nil)))))))
 (.asg 7 (.call 1093 (.cons (.loc 8) (.cons (.bin .Add (.loc 7) (.lro (.cons (.sl [60,33,69,78,84,73,84,89,32,101,32,80,85,66,76,73,67,32,39,112,39,62]) (.cons (.sl [60,63,120,109,108,32,97,63,62]) (.cons (.sl [120]) .nil))))) .nil))) .done))
noncomputable def a13:IE:=.cons (.ifx (.cmp .Eq (.call 1086 (.cons (.loc 8) (.cons (.int 3) .nil))) (.int 0)) (.bin .Add (.loc 4) (.loc 7)) (.loc 7)) .nil
theorem law_walk {xs:List Int} {mean:ExcName→Option Value} (TB:Top qq loo mean B.mg B.mb B.base) (hz:xs.length≤1000) :
  ExT (XX B) (feL B L) (n+16) (dOf B 1173).body (LV.ofs [.ro (xs.map .int)] 9) [(L+2,.cell none),(L+1,.cell none)]:=by
 have fk:(feL B L).ok=true:=by kernel_rfl
 have sn:∀ e:IE,Snd (XX B) (feL B L).ic (n+16) False (cok (XX B) (n+16) False) e:=fun e=>sound exC cok_ok e _
 have se:∀ {s:IS} {ss:List Stmt},chkS (XX B) (feL B L) s ss=true→∀ {ρ:LV} {σ:Store} {q:QK},wS (cok (XX B) (n+16) False) s ρ σ q→Ex (XX B) (feL B L) (n+16) ss ρ σ q False:=fun h=>soundS exC cok_ok fk _ h
 have gl:=gl_fe (B:=B) (fe:=feL B L) (x := "_law_refused") (f:=1163) (by kernel_rfl) (by kernel_rfl)
 have k6:keepIn (XX B).K (.ref 1163)=true:=by kernel_rfl
 rw [bL]
 refine ext_cel (c:=L+1) (j:=0) (by kernel_rfl) (by kernel_rfl) (by kernel_rfl) rfl (fun _=>by kernel_rfl) ((sn e0).v _ (by kernel_rfl) ?_)
 refine c_1079 (n:=n+15) (Nat.le_trans hz (lbt rfl)) fun a o ho=>?_
 refine .mk (.tail (.tail .head)) ?_
 refine ext_cons (asg_comp (elt:=.call 1142 (.cons (.loc 1) .nil)) (cnd:=.bln true) (src:=e1s) (two:=false) (bl:=["turn"]) (js:=[8]) exC cok_ok (i:=1) (by kernel_rfl) rfl (fun _=>by kernel_rfl) ?_)
 refine c_1086 (k:=3) (n:=n+15) ho rfl fun d o hd ho=>?_
 refine range_i (.rng id (by omega) ?_)
 refine lp_draw (n:=n+11) _ [] ho (fun _ h=>nomatch h) fun ds o hl hd ho=>?_
 rw [List.length_map,List.length_range,List.length_nil,Nat.zero_add] at hl
 have hdl:ds.length≤3:=by omega
 obtain ⟨hok,hrl⟩:=ds_ok hd
 have hrl:(ds.flatMap Dr.rs).length≤6:=by omega
 refine ext_pre (se (s:=i2) (by kernel_rfl) ?_)
 refine .ro ?_
 refine lp_rows ds [] none (by rw [List.nil_append];omega) fun p=>?_
 rw [List.nil_append]
 refine c_1156 (n:=n+11) ho hdl hd fun t b o ht hb lt ho=>?_
 generalize hrows:ds.flatMap Dr.rs=rows at hok hrl ⊢
 have hns:=nm_ok hok
 have hnl:(rows.filterMap nmP).length≤6:=Nat.le_trans (List.length_filterMap_le ..) hrl
 have lb:=mem_le (k:=30) rfl hb
 have hpm:∀ {QF:RdS→Prop} {R:Prop} {tail:List Nat},((rows.filterMap nmP).Nodup∨R)→(∀ S',Inv rows S'→Rds QF R tail S')→Rds QF R (t++tail) S00:=fun h1 h2=>pm ds 0 [] S00 t (by omega) hd ht inv0 io0 (Nat.le_refl _) (by rw [hrows];exact h1) (by rw [hrows];exact h2)
 refine ext_cel (c:=L+2) (j:=1) (by kernel_rfl) (by kernel_rfl) (by kernel_rfl) rfl (fun _=>by kernel_rfl) ((sn e5).v _ (by kernel_rfl) ?_)
 refine .ro id (by rw [List.length_map];omega) ?_
 refine co_map (h:=nmP) (p:=prV) (fun r _ C hC=>?_) ?_
 ·cases r with
  | el nm M=>exact .mk (.tup (j:=0) rfl rfl) (.inL (ls:=[elS,noS]) .ro .map (.mk (.mk (a:=none) (b:=some 2) rfl rfl (.tup (lbt rfl) (Nat.ne_of_lt (lbt rfl))) hC)))
  | no nm p s=>exact .mk (.tup (j:=0) rfl rfl) (.inL (ls:=[elS,noS]) .ro .map (.mk (.mk (a:=none) (b:=some 2) rfl rfl (.tup (lbt rfl) (Nat.ne_of_lt (lbt rfl))) hC)))
  | att x nm k cs md v=>exact .mk (.tup (j:=0) rfl rfl) (.inL (ls:=[elS,noS]) .ro .map (.mk hC))
  | en nm v s nt=>exact .mk (.tup (j:=0) rfl rfl) (.inL (ls:=[elS,noS]) .ro .map (.mk hC))
 refine fun x=>.lst rfl .head (.mk (.tail .head) ?_)
 rw [List.nil_append]
 generalize hnn:rows.filterMap nmP=ns at hns hnl hpm ⊢
 have hnm:(ns.map prV).length≤6:=by rw [List.length_map];exact hnl
 refine ext_if ((sn e6).t _ (by kernel_rfl) ?_)
 refine .lenL .ro (by omega) (.range ?_)
 refine .rng id (by omega) ?_
 refine co_map (h:=fun i=>cond ((ns.take i).any (· == ns.getD i ([],[]))) (some (V.int i)) none) (p:=id) (fun i hi C hC=>?_) ?_
 ·have hi:=List.mem_range.mp hi
  rw [List.length_map] at hi
  have hget:ns[i]? = some (ns.getD i ([],[])):=by rw [List.getD_eq_getElem?_getD,List.getElem?_eq_getElem hi];rfl
  have hat:(ns.map prV)[i]? = some (prV (ns.getD i ([],[]))):=by rw [List.getElem?_map,hget];rfl
  have hpo:=hns _ (List.mem_of_getElem? hget)
  refine .mk (.lst .ro (idx_nat (by rw [List.length_map];exact hi) (by omega)) hat) ?_
  refine .mk (a:=none) (b:=some (i:Int)) rfl rfl (.lst .ro (by omega)) ?_
  rw [lsl_pre (by rw [List.length_map];exact Nat.le_of_lt hi),← List.map_take]
  refine .inP .ro hpo (List.all_eq_true.mpr fun q hq=>hns q (List.mem_of_mem_take hq)) ?_
  revert hC
  cases (ns.take i).any (· == ns.getD i ([],[]))<;>exact fun hC=>.mk hC
 refine fun x=>.neN (.ref (.head _)) ?_
 rw [List.nil_append,List.map_id,List.length_map]
 have fin:∀ {u:List Nat} {τ:Store},Rds (fun _=>False) True u S00→u.length≤1000000→CallT (XX B) (n+16) (.ref 1163) [.str u] τ:=fun h1 h2=>c_1163 (n:=n+1) TB h1 h2
 cases hdup:((List.range ns.length).filterMap fun i=>cond ((ns.take i).any (· == ns.getD i ([],[]))) (some (V.int i)) none).isEmpty with
 | false=>
  have hnd:=dups_of_not fun e=>by rw [e] at hdup;cases hdup
  refine ext_ret gl.1 gl.2 k6 ((sn a6).l _ (by kernel_rfl)).1 (((sn a6).l _ (by kernel_rfl)).2 ?_)
  exact fin (hpm (.inr trivial) fun S' hI=>absurd (hnn▸hI.nd) hnd) (by rw [List.length_append];omega)
 | true=>
  have hnd:ns.Nodup:=nodup_of_dups (List.isEmpty_iff.mp hdup)
  refine ext_pre (se (s:=i7) (by kernel_rfl) ?_)
  refine c_933 (n:=n+14) ?_
  refine c_1068 (n:=n+14) fun ou g p=>?_
  refine c_915 (n:=n+2) (QF:=Inv rows) (hpm (.inl hnd) fun S' hI=>?_) (by rw [List.length_append];omega) fun e tt oo gr op S' hI=>?_
  ·have:=Rds.bet (r:=[]) hb (Rds.fin (R:=False) (s:=[]) Sps.nil hI)
   rwa [List.append_nil] at this
  refine ext_if ((sn e9).t _ (by kernel_rfl) ?_)
  refine .mk ?_
  refine CallOK.frzD (Z:=⟨e,tt,oo,ou,g,p,gr,op,.str [114]⟩) (c_1168 (n:=n+13) hI hok (by omega) ?_)
  refine ext_pre (se (s:=i10) (by kernel_rfl) ?_)
  refine .addl .ro .ro (lbt rfl) ?_
  refine .addl .ro .ro (lbt rfl) ?_
  refine CallOK.pick (.tail .head) ?_
  refine c_1093 (n:=n+14) ho .ro rfl fun z o' hz ho=>?_
  obtain ⟨hw,lw⟩:=WrT.al.mem hz
  refine ext_ret gl.1 gl.2 k6 ((sn a13).l _ (by kernel_rfl)).1 (((sn a13).l _ (by kernel_rfl)).2 ?_)
  refine c_1086 (k:=3) (n:=n+15) ho rfl fun d o' hd ho=>?_
  refine ifb (fun _=>?_) fun _=>?_
  ·refine .cat (.app (.var (by rw [List.length_append];omega)) (.var (by omega))) rfl ?_
   refine fin ?_ (by rw [List.length_append,List.length_append];omega)
   rw [List.append_assoc]
   exact hpm (.inr trivial) fun S' _=>Rds.bet hb (Rds.wrong hw trivial)
  ·exact fin (Rds.wrong hw trivial) (by omega)
end
theorem lw:looseW qq loo=loo:=by kernel_rfl
theorem obsT (w:World) (os:OsState):asK.map (H1 w.params).get? = (KK w.params).map fun p=>some p.2:=by
 have h:=look3 w.params
 rw [← h]
 refine List.map_congr_left fun a ha=>?_
 have hs:∃ o,(T22 w.params).get a >>= alive=some o:=by
  have:((T22 w.params).get a >>= alive)∈(KK w.params).map fun p=>some p.2:=h▸List.mem_map_of_mem (f:=fun a=>(T22 w.params).get a >>= alive) ha
  obtain ⟨p,_,e⟩:=List.mem_map.mp this
  exact ⟨p.2,e.symm⟩
 obtain ⟨o,ho⟩:=hs
 have hlt:a<1174:=of_decide_eq_true (List.all_eq_true.mp (by decide +kernel:asK.all (fun a=>decide (a<1174))=true) a ha)
 cases hg:(T22 w.params).get a with
 | none=>rw [hg] at ho;cases ho
 | some o'=>exact abs_get hlt hg
theorem leftT:LeftO pr qq loo (fun _=>true) (fun s=>asK.map s.heap.get?) (fun w=>(KK w.params).map fun p=>some p.2) 20000:=
 LeftO.of_pieces (H₁:=fun P=>H1 P) (gs₁:=#[]) (d₁:={}) (k₁:=1824) (openT (by decide)) sizeT runT (by decide) fun w=>funext fun os=>by
  rw [look1 w os]
  exact congrArg (Prod.mk true) (congr (congrArg Prod.mk (look2 w os)) (obsT w os))
end Mine
end
section
namespace Mine.W
noncomputable abbrev rw_:OpenLaw:=PySem.Challenge.rw_nu0079_01
noncomputable abbrev pw:Program:=PySem.Challenge.pw_nu0079_01
theorem a1:sreFenced pw.main=true:=by kernel_rfl
theorem a2:((moduleNames pw.main.body).isEmpty||lookedIntoSs (moduleNames pw.main.body) pw.main.body)=true:=by kernel_rfl
theorem a3:namesResolve pw=true:=by kernel_rfl
theorem a4:pw.boundNames.all (fun n=>!worldNames.contains n)=true:=by kernel_rfl
theorem a5:noRoadLSs { strict:=!(importedModules pw.main.body).all cThrough.contains,foot:=none,bare:=(["vars", "dir", "locals"]:List Str).filter (readsOut pw pw.main.body) } pw.main.body=true:=by kernel_rfl
theorem a6:namesMeet pw pw.main.body (fun _ n=>attrL n)=true:=by kernel_rfl
theorem a0:looksOpen pw=true:=by
 unfold looksOpen
 rw [a1,a2,a3,a4,a5,a6];rfl
theorem b2:(rw_.row.loose.isEmpty&&rw_.row.makers.isEmpty)=true:=by kernel_rfl
end Mine.W
end
section
namespace Mine.W
theorem c0:rw_.row.partSaid=true:=by
 unfold OpenRow.partSaid
 rw [show looksOpen rw_.row.prog=true from a0]
 kernel_rfl
theorem c1:rw_.row.wellSaid=true:=by
 unfold OpenRow.wellSaid
 rw [c0]
 kernel_rfl
theorem d2:(decide (rw_.foot≤(behindTheImports rw_.prog).length)&&rw_.footing.all footLine)=true:=by kernel_rfl
theorem d3:noClassBlock rw_.prog rw_.footing=true:=by kernel_rfl
theorem d4:(rw_.most.all (fun n=>decide (63≤n))&&rw_.bound.all (fun n=>decide (2 ^ 63≤n)))=true:=by kernel_rfl
theorem d5:noRoadLSs { strict:=true,foot:=some rw_.bound',writes:=rw_.writes,may:=rw_.may } rw_.footing=true:=by kernel_rfl
theorem d6:defStands rw_.about rw_.above=true:=by kernel_rfl
theorem d7:rw_.namesIt=true:=by kernel_rfl
theorem d8:((["type", "isinstance", "issubclass", "getattr", "hasattr"]:List Str).all (fun n=>rw_.about != [n]))=true:=by kernel_rfl
theorem d9:rw_.bound'.all (fun n=>!builtinNamed n||rw_.about==[n]||!rw_.reads n)=true:=by kernel_rfl
theorem d10:(!rw_.writes||(rw_.prog.main.body.flatMap importedNames).all fun n=>!rw_.reads n)=true:=by kernel_rfl
theorem d11:((rw_.prog.main.body.flatMap importedNames).all (fun n=>!rw_.reads n||(drawsOf n rw_.prog.main.body).all fun mn=>mn.2 != ("attrgetter" : Str)&&mn.2 != ("methodcaller" : Str)))=true:=by kernel_rfl
theorem d12:(namesMeet rw_.prog rw_.footing (fun sc n=>(!(["type", "isinstance", "issubclass", "getattr", "hasattr"]:List Str).contains n||sc.names.lookup n==some .globalImplicit) &&
  (rw_.may != some n||sc.kind==.module||sc.names.lookup n==some .globalImplicit)))=true:=by kernel_rfl
theorem d13:(rw_.own.contains rw_.name)=true:=by kernel_rfl
theorem d14:(rw_.own.eraseDups.length==rw_.own.length)=true:=by kernel_rfl
theorem d15:(rw_.own.all (fun n=>!builtinNamed n))=true:=by kernel_rfl
theorem d16:namesMeet rw_.prog rw_.above (fun _ n=>!rw_.own.contains n)=true:=by kernel_rfl
theorem d17:(namesMeet rw_.prog rw_.footing fun sc n=>sc.kind==.module||sc.names.lookup n != some .globalExplicit)=true:=by kernel_rfl
theorem said:rw_.wellSaid=true:=by
 unfold OpenLaw.wellSaid
 have e2:=Bool.and_eq_true_iff.mp d2
 have e4:=Bool.and_eq_true_iff.mp d4
 rw [c1,e2.1,e2.2,d3,e4.1,e4.2,d5,d6,d7,d8,d9,d10,d11,d12,d13,d14,d15,d16,d17];rfl
end Mine.W
end
section
namespace Mine
open Mine.Top
theorem ints_of:∀ {xs:List WData},WShape.hasItems [] xs .int=true→∃ is:List Int,xs=is.map .int
 | [],_=>⟨[],rfl⟩
 | x::xs,h=>by
  have h:(WShape.has [] x .int&&WShape.hasItems [] xs .int)=true:=h
  obtain ⟨h1,h2⟩:=band h
  obtain ⟨is,rfl⟩:=ints_of h2
  cases x with
  | int i=>exact ⟨i::is,rfl⟩
  | _=>exact absurd h1 Bool.false_ne_true
theorem ints_vr {cl:Str→Option Addr} {h:Heap} {C:Cx} {P:Imm}:∀ {vs:List Value} {is:List Int} {as:List Addr},ReadsAllW [] cl h vs (is.map .int) as→VRs C P vs (is.map V.int)
 | [],[],_,_=>.i_nil
 | v::vs,i::is,as,r=>by
  cases r with
  | cons a b=>
   cases a
   exact .i_cons .i_int (ints_vr b)
 | [],_::_,_,r=>nomatch r
 | _::_,[],_,r=>nomatch r
theorem law_len {is:List Int} (h:(PySem.Challenge.rw_nu0079_01.row.toRowW).claim.pre [.list (is.map .int)]=true):is.length≤63:=by
 have h2:=(pre_splitW (r:=PySem.Challenge.rw_nu0079_01.row.toRowW) h).2
 have h3:WTm.holds [] (.and (.not (.lt (.lit (.int 63)) (.len (.arg 0)))) (.lit (.bool true))) { args:=[.list (is.map .int)] } = true:=h2
 have go:∀ {xs:List WData},WTm.holds [] (.and (.not (.lt (.lit (.int 63)) (.len (.arg 0)))) (.lit (.bool true))) { args:=[.list xs] } = true→xs.length≤63:=fun {xs} h=>by
  cases e:decide ((63:Int)<xs.length) with
  | false=>
   have:=of_decide_eq_false e
   omega
  | true=>
   have k:WTm.value [] (.lt (.lit (.int 63)) (.len (.arg 0))) { args:=[.list xs] } = some (.bool (decide ((63:Int)<xs.length))):=rfl
   have k2:WTm.value [] (.not (.lt (.lit (.int 63)) (.len (.arg 0)))) { args:=[.list xs] } = some (.bool false):=by
    show (match WTm.value [] (.lt (.lit (.int 63)) (.len (.arg 0))) { args:=[.list xs] } with | some (.bool b)=>some (WData.bool (!b)) | _=>none)=_
    rw [k,e]
    rfl
   have k3:WTm.value [] (.and (.not (.lt (.lit (.int 63)) (.len (.arg 0)))) (.lit (.bool true))) { args:=[.list xs] } = some (.bool false):=by
    unfold WTm.value
    rw [k2]
   unfold WTm.holds at h
   rw [k3] at h
   cases h
 have:=go h3
 rwa [List.length_map] at this
noncomputable def dL:DefRec:=match defOf qq (Str.ofString "law") with
 | some (d,_)=>d
 | none=>⟨"law",⟨[],[],none,[],[],none,[]⟩,[],default,default⟩
theorem dL_of:defOf qq (Str.ofString "law")=some (dL,[]):=by kernel_rfl
theorem law_holds:PySem.Challenge.rw_nu0079_01.row.wellSaid=true→PySem.Challenge.rw_nu0079_01.row.Holds:=fun k1=>by
 have left:LeftO PySem.Challenge.rw_nu0079_01.row.toRowW.prog qq loo (fun _=>true) (fun s=>asK.map s.heap.get?) (fun w=>(KK w.params).map fun p=>some p.2) 20000:=leftT
 refine PySem.W.holds_open (r:=PySem.Challenge.rw_nu0079_01.row) (q:=qq) (loose:=loo) (Xt:=fun _=>true) (XP:=fun _ _=>True) (Yf:=fun s=>asK.map s.heap.get?) (Ya:=fun w=>(KK w.params).map fun p=>some p.2) (YP:=InK KK) (N:=20000) (d:=dL) (kwd:=[])
  left (InK.of (as:=asK) (fun _=>by kernel_rfl)) InK.keeps (fun _ _=>trivial) (fun _ _ _ _ _=>trivial) dL_of (by kernel_rfl) (by kernel_rfl) (fun s _=>recFacts_of rfl) rfl k1 (by kernel_rfl) ⟨rfl,rfl,rfl,rfl,rfl,by decide +kernel⟩ ⟨[.list []],by kernel_rfl,by kernel_rfl⟩ ?_
 intro w s₀ s₁ mg mb G Y a o pm cd doc dV kV ho hd hcd hD hmg hg args vals as hpre hlay hrd hwl hlo
 have T:=G.T
 rw [lw] at T
 have KX:(KK w.params).In s₁.heap:=Y
 obtain ⟨d,r,rfl,h1,h2⟩:=hasAllW_cons (pre_splitW hpre).1
 obtain rfl:=hasAllW_nil h2
 obtain ⟨xs,rfl,h3⟩:=hasW_list h1
 obtain ⟨is,rfl⟩:=ints_of h3
 have hlen:=law_len hpre
 obtain ⟨v,vs,as1,as2,rfl,rfl,r1,r2⟩:=readsAllW_cons_inv hrd
 have hvs:vs=[]:=by cases r2;rfl
 subst hvs
 obtain ⟨l,ol,its,n,ai,rfl,g1,g2,g3,g4,rfl⟩:∃ l o its n ai,v=.ref l∧s₁.heap.get? l=some o∧o.cls=.type "list"∧o.data=.seq its n∧ReadsAllW [] (classAt s₀.heap) s₁.heap its.toList (is.map .int) ai∧as1=l::ai:=by
  cases r1 with
  | list a b c d=>exact ⟨_,_,_,_,_,rfl,a,b,c,d,rfl⟩
 have ha:a=1173:=by
  have h1:=mg_of (n:=Str.ofString "law") KX T.g (by kernel_rfl:nsIn (KK w.params) mainGlobals (Str.ofString "law")=some (some (.ref 1173)))
  have h2:mg (Str.ofString "law")=some (.ref a):=hmg
  rw [h1] at h2
  cases h2;rfl
 subst ha
 refine enter_call ?_
 generalize hB:(⟨w,s₁.heap,mg,mb,s₁.os⟩:Bun)=B
 have eK:(XX B).K=KK w.params:=by rw [← hB];rfl
 have hlk:(XX B).K.lookup 1173=some ⟨.type "function",none,.func (Calls.docDef (dOf B 1173).name (dOf B 1173).params (dOf B 1173).body (dOf B 1173).scope (.str t473 1672) (.ref 1172) .none),#[]⟩:=by kernel_rfl
 have hx:=KX 1173 _ (eK▸hlk)
 have hcs:∀ L,cellsFrom (L+1) (dOf B 1173).scope.names []=[((Str.ofString "names"),L+2),(Str.ofString "source",L+1)]:=fun L=>by kernel_rfl
 have hbd:bindArgs (Calls.docDef (dOf B 1173).name (dOf B 1173).params (dOf B 1173).body (dOf B 1173).scope (.str t473 1672) (.ref 1172) .none) ⟨[.ref l],[]⟩=pure [((Str.ofString "script"),.ref l)]:=by kernel_rfl
 have hcd2:codeIn (XX B).K (.ref 1172) (dOf B 1173).name=true:=by kernel_rfl
 have hok:(feL B 0).ok=true:=by kernel_rfl
 have h2:(dOf B 1173).scope.isCoroutine=false:=by kernel_rfl
 have h3':(dOf B 1173).scope.isGenerator=false:=by kernel_rfl
 subst hB
 refine start_law (X:=XX ⟨w,s₁.heap,mg,mb,s₁.os⟩) (n:=16) (fe:=feL ⟨w,s₁.heap,mg,mb,s₁.os⟩) (x := "script") (c1 := "names") (c2 := "source") (us:=["drawn", "rows", "pair", "text", "table", "dtd", "wrong"]) (y:=.ro (is.map .int)) (k:=9)
  (fun _=>rfl) rfl hg rfl KX (topRead_of T) (by decide) hx rfl (codeRec_of KX hcd2) hbd ?_ hok hcs (by decide) h2 h3' (fun s' z=>?_) fun L=>?_
 ·simp only [VR]
  exact ⟨l,ol,its.toList,n,rfl,.inr g1,g2,by rw [g3],ints_vr g4⟩
 ·exact ⟨.inl ⟨.bool true,.bool true,[],rfl,fun _=>rfl,ReadsW.bool true,by kernel_rfl,fun _=>⟨List.nodup_nil,fun _ hm=>(nomatch hm)⟩⟩,.of_keep z.stays,z.os,.of_eq z.gens⟩
 ·exact law_walk (B:=⟨w,s₁.heap,mg,mb,s₁.os⟩) (n:=0) T (by omega)
theorem holds_all:PySem.Challenge.rw_nu0079_01.Holds:=holds_law W.said law_holds
end Mine
end
theorem PySem.Challenge.cw_nu0079_01_holds : PySem.Challenge.rw_nu0079_01.Holds :=
  Mine.holds_all
